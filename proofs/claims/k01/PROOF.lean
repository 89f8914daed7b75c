import PyProof.Rows.All
import Wide.All
import OpenK.AllK
import Wide.FinOn
import KE.KDictKeyed
import HandS.TupSets
import HandS.SetBool
import HandS.ForMost
import HandS.Flow
import HandS.IsInst
import HandS.TupAny
import HandS.Zip
import HandS.ExcValue
import KE.GoesEnum
import HandS.DictComp
import HandS.SortKw
import KE.SortKeyHeap
import HandS.Deep
import HandS.RaiseMore
import PyProof.Rows.MatchSeqLen
import PyProof.RulesMatch
import KE.KExcSuper
import HandS.Exc
import HandS.ExcInit
import HandS.CallSlots
import HandS.TryMany
import HandS.ExcIs
import HandS.ExcField
import HandS.WordsExc
import KE.KExcIs
import HandS.Star
import HandS.Property
import HandS.Codes
import HandS.WordsDict
import HandS.More
import HandS.TupMul
import HandS.Style
import HandS.Defaults
import HandS.TryOnly
import HandS.Finally
import KE.KEqDict
import PyProof.InstEq
import HandS.GenList
import KE.KDictPairs
import HandS.TupLen
import HandS.SetTxt0
import HandS.SetFor
import HandS.TryElse
import HandS.HotCalls
import HandS.Small
import HandS.FStr
import PyProof.NeKinds
import PyProof.MeetsIn
import KE.KOpsOwn
import PyProof.RulesRaise
import PyProof.FactsTree
import PyProof.ExcBaseAll.LookupError
import KE.OsRunLaw
import PySem.Challenge.RW_farenough_k01_errors_and_their_values
set_option Elab.async false
set_option linter.all false
set_option maxRecDepth 100000
set_option maxHeartbeats 4000000
/-! FD0: small sets (up to four members) of tuples of texts, numbers, None, tuples: what adding does. -/
namespace FD
open PySem PySem.Spec PyProof.Rows L2
section
variable {P : Program} {w : World}
/-- the tuple at c is the key k -/
abbrev KeyAt (P : Program) (w : World) (h : Heap) (k : NestedKey) (c : Addr) : Prop := (nestedKind P w).is h k c
/-! ### the set -/
def rowsN (w : World) (L : List (Addr × NestedKey)) : List (Int × Value) := L.map fun p => (p.2.hash w, Value.ref p.1)
structure SetN (P : Program) (w : World) (h : Heap) (a : Addr) (L : List (Addr × NestedKey)) (es : Array (Int × Value)) (ep : Nat) (t : SetTable) : Prop where
  ob : ∃ o, h.get? a = some o ∧ o.ExactSet ∧ o.data = .set es ep t
  rows : es.toList = rowsN w L
  tab : TabOk t (L.map fun p => p.2.hash w)
  nd : (L.map (·.2)).Nodup
  key : ∀ p ∈ L, KeyAt P w h p.2 p.1
  led : w.params.followText "set-order" = true ∨ t.led = true
  m7 : t.mask = 7
  few : L.length ≤ 4
variable {A : Around} {E : Value → Shared → Prop} {s : Shared} {a : Addr} {L : List (Addr × NestedKey)} {es : Array (Int × Value)} {ep : Nat} {t : SetTable}
theorem SetN.size {h : Heap} (S : SetN P w h a L es ep t) : es.size = L.length := by
  have e : es.toList.length = L.length := by rw [S.rows, rowsN, List.length_map]
  simpa using e
theorem SetN.row {h : Heap} (S : SetN P w h a L es ep t) {i : Nat} {p : Addr × NestedKey} (e : L[i]? = some p) : es[i]? = some (p.2.hash w, Value.ref p.1) := by
  rw [← Array.getElem?_toList, S.rows, rowsN, List.getElem?_map, e]; rfl
end
end FD

/-! FD1: the data level. D: values with tuples inline; DG: the store of what may change; readings over them; the link to the readings of the layer HandS. -/
namespace FD
open PySem L2
/-- a value of the data level: tuples inline, fl: a list that nobody changes, ref: an object of the store -/
inductive D where
  | non | bl (b : Bool) | int (i : Int) | str (x : Str) | tup (ds : List D) | fl (ds : List D) | ref (a : Addr) | ty (n : String)
/-- a list that stands still: locked, or of the written part -/
def FzL (K : PySem.W.Frag) (H : Hp) (a : Addr) (xs : List V) : Prop :=
  (∃ o, H a = some (.frz o (.lst xs))) ∨
    ∃ (o : Obj) (its : Array Value) (n : Nat), K.lookup a = some o ∧ o.cls = .type "list" ∧ o.dict = none ∧ o.data = .seq its n ∧ its.size ≤ sizeLine ∧ Vals xs its.toList
theorem FzL.sq {K : PySem.W.Frag} {H : Hp} {a : Addr} {xs : List V} (h : FzL K H a xs) : SqL K H a xs := by
  rcases h with ⟨o, h⟩ | h
  · exact .inl (.inr ⟨o, h⟩)
  · exact .inr h
mutual
def Rp (K : PySem.W.Frag) (H : Hp) : D → V → Prop
  | .non, v => v = .non
  | .bl b, v => v = .bl b
  | .int i, v => v = .int i
  | .str x, v => v = .str x
  | .tup ds, v => ∃ a xs, v = .ref a ∧ SqT K H a xs ∧ RpL K H ds xs
  | .fl ds, v => ∃ a xs, v = .ref a ∧ FzL K H a xs ∧ RpL K H ds xs
  | .ref a, v => v = .ref a
  | .ty n, v => v = .ty n
def RpL (K : PySem.W.Frag) (H : Hp) : List D → List V → Prop
  | [], xs => xs = []
  | d :: ds, xs => ∃ y ys, xs = y :: ys ∧ Rp K H d y ∧ RpL K H ds ys
end
/-- what never changes is kept -/
structure Kp (K : PySem.W.Frag) (H H' : Hp) : Prop where
  t : ∀ a xs, SqT K H a xs → SqT K H' a xs
  l : ∀ a xs, FzL K H a xs → FzL K H' a xs
  x : ∀ a fs, H a = some (.xd fs) → H' a = some (.xd fs)
theorem Kp.refl {K : PySem.W.Frag} {H : Hp} : Kp K H H := ⟨fun _ _ h => h, fun _ _ h => h, fun _ _ h => h⟩
theorem Kp.trans {K : PySem.W.Frag} {H H1 H2 : Hp} (a : Kp K H H1) (b : Kp K H1 H2) : Kp K H H2 := ⟨fun x xs h => b.t x xs (a.t x xs h), fun x xs h => b.l x xs (a.l x xs h), fun x fs h => b.x x fs (a.x x fs h)⟩
mutual
theorem Rp.mono {K : PySem.W.Frag} {H H' : Hp} (k : Kp K H H') : ∀ {d : D} {v : V}, Rp K H d v → Rp K H' d v
  | .non, _, h => h
  | .bl _, _, h => h
  | .int _, _, h => h
  | .str _, _, h => h
  | .tup ds, _, h => by
    rw [Rp] at h ⊢
    obtain ⟨a, xs, e, q, r⟩ := h
    exact ⟨a, xs, e, k.t a xs q, RpL.mono k r⟩
  | .fl ds, _, h => by
    rw [Rp] at h ⊢
    obtain ⟨a, xs, e, q, r⟩ := h
    exact ⟨a, xs, e, k.l a xs q, RpL.mono k r⟩
  | .ref _, _, h => h
  | .ty _, _, h => h
theorem RpL.mono {K : PySem.W.Frag} {H H' : Hp} (k : Kp K H H') : ∀ {ds : List D} {xs : List V}, RpL K H ds xs → RpL K H' ds xs
  | [], _, h => h
  | d :: ds, _, h => by
    rw [RpL] at h ⊢
    obtain ⟨y, ys, e, r, q⟩ := h
    exact ⟨y, ys, e, Rp.mono k r, RpL.mono k q⟩
end
section
variable {K : PySem.W.Frag} {H : Hp}
theorem rp_non {v : V} : Rp K H .non v ↔ v = .non := by rw [Rp]
theorem rp_bl {b : Bool} {v : V} : Rp K H (.bl b) v ↔ v = .bl b := by rw [Rp]
theorem rp_int {i : Int} {v : V} : Rp K H (.int i) v ↔ v = .int i := by rw [Rp]
theorem rp_str {x : Str} {v : V} : Rp K H (.str x) v ↔ v = .str x := by rw [Rp]
theorem rp_tup {ds : List D} {v : V} : Rp K H (.tup ds) v ↔ ∃ a xs, v = .ref a ∧ SqT K H a xs ∧ RpL K H ds xs := by rw [Rp]
theorem rp_fl {ds : List D} {v : V} : Rp K H (.fl ds) v ↔ ∃ a xs, v = .ref a ∧ FzL K H a xs ∧ RpL K H ds xs := by rw [Rp]
theorem rp_ref {a : Addr} {v : V} : Rp K H (.ref a) v ↔ v = .ref a := by rw [Rp]
theorem rp_ty {n : String} {v : V} : Rp K H (.ty n) v ↔ v = .ty n := by rw [Rp]
theorem rpl_nil {xs : List V} : RpL K H [] xs ↔ xs = [] := by rw [RpL]
theorem rpl_cons {d : D} {ds : List D} {xs : List V} : RpL K H (d :: ds) xs ↔ ∃ y ys, xs = y :: ys ∧ Rp K H d y ∧ RpL K H ds ys := by rw [RpL]
theorem RpL.cons {d : D} {ds : List D} {y : V} {ys : List V} (h : Rp K H d y) (t : RpL K H ds ys) : RpL K H (d :: ds) (y :: ys) := rpl_cons.mpr ⟨y, ys, rfl, h, t⟩
theorem RpL.nil : RpL K H [] [] := rpl_nil.mpr rfl
theorem RpL.length : ∀ {ds : List D} {xs : List V}, RpL K H ds xs → ds.length = xs.length
  | [], _, h => by rw [rpl_nil.mp h]; rfl
  | d :: ds, _, h => by
    obtain ⟨y, ys, rfl, _, t⟩ := rpl_cons.mp h
    rw [List.length_cons, List.length_cons, RpL.length t]
theorem RpL.get : ∀ {ds : List D} {xs : List V} {i : Nat} {d : D}, RpL K H ds xs → ds[i]? = some d → ∃ v, xs[i]? = some v ∧ Rp K H d v
  | [], _, _, _, _, e => by simp at e
  | d :: ds, _, 0, e', h, e => by
    obtain ⟨y, ys, rfl, r, t⟩ := rpl_cons.mp h
    have q : d = e' := Option.some.inj e
    subst q
    exact ⟨y, rfl, r⟩
  | d :: ds, _, i + 1, e', h, e => by
    obtain ⟨y, ys, rfl, r, t⟩ := rpl_cons.mp h
    exact RpL.get (i := i) t e
theorem RpL.append : ∀ {ds es : List D} {xs ys : List V}, RpL K H ds xs → RpL K H es ys → RpL K H (ds ++ es) (xs ++ ys)
  | [], _, _, _, h, q => by rw [rpl_nil.mp h]; exact q
  | d :: ds, _, _, _, h, q => by
    obtain ⟨y, ys, rfl, r, t⟩ := rpl_cons.mp h
    exact RpL.cons r (RpL.append t q)
theorem RpL.take : ∀ {ds : List D} {xs : List V} (n : Nat), RpL K H ds xs → RpL K H (ds.take n) (xs.take n)
  | _, _, 0, _ => RpL.nil
  | [], _, n + 1, h => by rw [rpl_nil.mp h]; exact RpL.nil
  | d :: ds, _, n + 1, h => by
    obtain ⟨y, ys, rfl, r, t⟩ := rpl_cons.mp h
    exact RpL.cons r (RpL.take n t)
theorem RpL.drop : ∀ {ds : List D} {xs : List V} (n : Nat), RpL K H ds xs → RpL K H (ds.drop n) (xs.drop n)
  | _, _, 0, h => h
  | [], _, n + 1, h => by rw [rpl_nil.mp h]; exact RpL.nil
  | d :: ds, _, n + 1, h => by
    obtain ⟨y, ys, rfl, r, t⟩ := rpl_cons.mp h
    exact RpL.drop n t
theorem RpL.set : ∀ {ds : List D} {xs : List V} {d : D} {v : V} (n : Nat), RpL K H ds xs → Rp K H d v → RpL K H (ds.set n d) (xs.set n v)
  | [], _, _, _, n, h, _ => by rw [rpl_nil.mp h]; exact RpL.nil
  | d :: ds, _, e, v, 0, h, q => by
    obtain ⟨y, ys, rfl, r, t⟩ := rpl_cons.mp h
    exact RpL.cons q t
  | d :: ds, _, e, v, n + 1, h, q => by
    obtain ⟨y, ys, rfl, r, t⟩ := rpl_cons.mp h
    exact RpL.cons r (RpL.set n t q)
theorem RpL.rep {ds : List D} {xs : List V} (h : RpL K H ds xs) : ∀ k : Nat, RpL K H (List.replicate k ds).flatten (List.replicate k xs).flatten
  | 0 => RpL.nil
  | k + 1 => by
    rw [List.replicate_succ, List.replicate_succ, List.flatten_cons, List.flatten_cons]
    exact RpL.append h (RpL.rep h k)
theorem RpL.snoc {ds : List D} {xs : List V} {d : D} {v : V} (h : RpL K H ds xs) (q : Rp K H d v) : RpL K H (ds ++ [d]) (xs ++ [v]) := RpL.append h (RpL.cons q RpL.nil)
theorem RpL.one {d : D} {xs : List V} (h : RpL K H [d] xs) : ∃ v, xs = [v] ∧ Rp K H d v := by
  obtain ⟨y, ys, rfl, r, t⟩ := rpl_cons.mp h
  exact ⟨y, by rw [rpl_nil.mp t], r⟩
theorem RpL.two {d e : D} {xs : List V} (h : RpL K H [d, e] xs) : ∃ v u, xs = [v, u] ∧ Rp K H d v ∧ Rp K H e u := by
  obtain ⟨y, ys, rfl, r, t⟩ := rpl_cons.mp h
  obtain ⟨u, rfl, q⟩ := RpL.one t
  exact ⟨y, u, rfl, r, q⟩
theorem RpL.ints : ∀ {ns : List Int} {xs : List V}, RpL K H (ns.map D.int) xs ↔ xs = ns.map V.int
  | [], xs => rpl_nil
  | n :: ns, xs => by
    rw [List.map_cons, List.map_cons, rpl_cons]
    constructor
    · rintro ⟨y, ys, rfl, r, t⟩
      rw [rp_int.mp r, RpL.ints.mp t]
    · rintro rfl
      exact ⟨_, _, rfl, rp_int.mpr rfl, RpL.ints.mpr rfl⟩
end
/-- what may change -/
inductive DO where
  | lst (ds : List D)
  | dic (kvs : List (D × D))
  | set (ds : List D)
  | ins (c : Str) (fs : List (Str × D))
  | ldic (od : Obj) (ks : List (Key × V)) (kvs : List (D × D))
  | exn (c : Str) (fs : List (Str × D))
abbrev DG := Addr → Option DO
def DG.upd (G : DG) (a : Addr) (o : DO) : DG := fun b => if b = a then some o else G b
theorem gupd_same {G : DG} {a : Addr} {o : DO} : G.upd a o a = some o := by unfold DG.upd; rw [if_pos rfl]
theorem gupd_ne {G : DG} {a b : Addr} {o : DO} (h : b ≠ a) : G.upd a o b = G b := by unfold DG.upd; rw [if_neg h]
/-- what H has and G has not stays as it is -/
def Fm (G : DG) (H : Hp) (G' : DG) (H' : Hp) : Prop := ∀ a o, H a = some o → G a = none → H' a = some o ∧ G' a = none
/-- where a program runs: the text, the world, the written part; and what is known besides, as long as frames are kept -/
structure Bs where
  P : Program
  w : World
  K : PySem.W.Frag
  I : DG → Hp → Prop
  st : ∀ {G G' : DG} {H H' : Hp}, I G H → Kp K H H' → Fm G H G' H' → I G' H'
structure DCx extends Cx where
  I : DG → Hp → Prop
  st : ∀ {G G' : DG} {H H' : Hp}, I G H → Kp K H H' → Fm G H G' H' → I G' H'
instance : Coe DCx Cx := ⟨DCx.toCx⟩
abbrev bs (X : DCx) : Bs := ⟨X.prog, X.w, X.K, X.I, X.st⟩
abbrev DCx.no (X : Cx) : DCx := ⟨X, fun _ _ => True, fun _ _ _ => True.intro⟩
/-- nothing besides is known -/
abbrev Bs.no (P : Program) (w : World) (K : PySem.W.Frag) : Bs := ⟨P, w, K, fun _ _ => True, fun _ _ _ => True.intro⟩
/-! ### the store is held -/
mutual
def nkey : D → Option NestedKey
  | .non => some .none
  | .bl b => some (.num (if b = true then 1 else 0))
  | .int i => some (.num i)
  | .str x => some (.text x)
  | .tup ds => (nkeys ds).map .tup
  | _ => none
def nkeys : List D → Option (List NestedKey)
  | [] => some []
  | d :: ds => match nkey d, nkeys ds with
    | some k, some ks => some (k :: ks)
    | _, _ => none
end
def keyV : D → Option Key
  | .int i => some (.inl i)
  | .str x => some (.inr x)
  | _ => none
/-- a dict whose keys are nested tuples, by its entries -/
def RawD (B : Bs) (a : Addr) (xs : List (NestedKey × Addr × Value)) (h : Heap) : Prop :=
  ∃ o es ep, h.get? a = some o ∧ o.ExactDict ∧ o.data = .dict es ep ∧ es.toList = xs.map (entryOfKey (nestedKind B.P B.w))
def OkDk (B : Bs) (H : Hp) (a : Addr) (kvs : List (D × D)) : Prop :=
  ∃ ks : List (Key × V), H a = some (.dK ks) ∧ Paired (fun (p : D × D) (q : Key × V) => keyV p.1 = some q.1 ∧ Rp B.K H p.2 q.2) kvs ks
def OkDn (B : Bs) (H : Hp) (a : Addr) (kvs : List (D × D)) : Prop :=
  kvs ≠ [] ∧ ∃ xs : List (NestedKey × Addr × Value), H a = some (.ext (RawD B a xs)) ∧ (a == sysModules) = false ∧ kvs.length ≤ sizeLine ∧ (xs.map (·.1)).Nodup ∧
    Paired (fun (p : D × D) (q : NestedKey × Addr × Value) => nkey p.1 = some q.1 ∧ q.1.depth ≤ 8 ∧ (∃ ds, p.1 = .tup ds) ∧ Rp B.K H p.1 (.ref q.2.1) ∧ ∃ v, RelV v q.2.2 ∧ Rp B.K H p.2 v) kvs xs
/-- a set, by its table -/
def RawS (B : Bs) (a : Addr) (L : List (Addr × NestedKey)) (h : Heap) : Prop :=
  ∃ es ep t, (∃ o, h.get? a = some o ∧ o.ExactSet ∧ o.data = .set es ep t) ∧ es.toList = rowsN B.w L ∧ TabOk t (L.map fun p => p.2.hash B.w) ∧ (B.w.params.followText "set-order" = true ∨ t.led = true) ∧ t.mask = 7
abbrev SRel (K : PySem.W.Frag) (H : Hp) (d : D) (q : Addr × NestedKey) : Prop := nkey d = some q.2 ∧ q.2.depth ≤ 8 ∧ (∃ es, d = .tup es) ∧ Rp K H d (.ref q.1)
def OkSn (B : Bs) (H : Hp) (a : Addr) (ds : List D) : Prop :=
  ∃ L L', H a = some (.ext (RawS B a L)) ∧ (L.map (·.2)).Nodup ∧ L.length ≤ 4 ∧ L.Perm L' ∧ Paired (SRel B.K H) ds L'
/-- a locked dict whose keys are texts or numbers -/
def OkDl (B : Bs) (H : Hp) (a : Addr) (od : Obj) (ks : List (Key × V)) (kvs : List (D × D)) : Prop :=
  H a = some (.frz od (.dK ks)) ∧ Paired (fun (p : D × D) (q : Key × V) => keyV p.1 = some q.1 ∧ Rp B.K H p.2 q.2) kvs ks
/-- an own exception that is held as a value: its class, its dict -/
def exv (a C : Addr) (d : Option Addr) : HO := .ext fun h => ∃ oe : Obj, h.get? a = some oe ∧ Zc (.ref C) d oe ∧ ∃ vs, oe.data = .fields vs
def XdAt (H : Hp) : Option Addr → List (Str × V) → Prop
  | none, gs => gs = []
  | some dx, gs => H dx = some (.xd gs)
def OkO (B : Bs) (H : Hp) (a : Addr) : DO → Prop
  | .lst ds => ∃ xs, H a = some (.lst xs) ∧ RpL B.K H ds xs
  | .dic kvs => OkDk B H a kvs ∨ OkDn B H a kvs
  | .set ds => OkSn B H a ds
  | .ins c fs => ∃ C dx gs, H a = some (.ins C dx gs) ∧ PySem.W.nsIn B.K mainGlobals c = some (some (.ref C)) ∧ Paired (fun (p : Str × D) (q : Str × V) => p.1 = q.1 ∧ Rp B.K H p.2 q.2) fs gs
  | .ldic od ks kvs => OkDl B H a od ks kvs
  | .exn c fs => ∃ C d gs, H a = some (exv a C d) ∧ XdAt H d gs ∧ PySem.W.nsIn B.K mainGlobals c = some (some (.ref C)) ∧ Paired (fun (p : Str × D) (q : Str × V) => p.1 = q.1 ∧ Rp B.K H p.2 q.2) fs gs
def Wld0 (B : Bs) (G : DG) (H : Hp) : Prop := ∀ a o, G a = some o → OkO B H a o
def Wld (B : Bs) (G : DG) (H : Hp) : Prop := Wld0 B G H ∧ B.I G H
theorem Fm.refl {G : DG} {H : Hp} : Fm G H G H := fun _ _ h n => ⟨h, n⟩
theorem Fm.trans {G G1 G2 : DG} {H H1 H2 : Hp} (a : Fm G H G1 H1) (b : Fm G1 H1 G2 H2) : Fm G H G2 H2 := fun x o h n => by
  obtain ⟨h1, n1⟩ := a x o h n
  exact b x o h1 n1
theorem OkO.live {B : Bs} {H : Hp} {a : Addr} {o : DO} (h : OkO B H a o) : ∃ u, H a = some u ∧ (∀ xs, u ≠ .tup xs) ∧ (∀ ob w, (∀ ks, w ≠ .dK ks) → u ≠ .frz ob w) ∧ (∀ fs, u ≠ .xd fs) := by
  cases o with
  | lst ds => obtain ⟨xs, e, _⟩ := h; exact ⟨_, e, fun _ z => (nomatch z), fun _ _ _ z => (nomatch z), fun _ z => (nomatch z)⟩
  | dic kvs =>
    rcases h with ⟨ks, e, _⟩ | ⟨_, xs, e, _⟩
    · exact ⟨_, e, fun _ z => (nomatch z), fun _ _ _ z => (nomatch z), fun _ z => (nomatch z)⟩
    · exact ⟨_, e, fun _ z => (nomatch z), fun _ _ _ z => (nomatch z), fun _ z => (nomatch z)⟩
  | set ds => obtain ⟨L, L', e, _⟩ := h; exact ⟨_, e, fun _ z => (nomatch z), fun _ _ _ z => (nomatch z), fun _ z => (nomatch z)⟩
  | ins c fs => obtain ⟨C, dx, gs, e, _⟩ := h; exact ⟨_, e, fun _ z => (nomatch z), fun _ _ _ z => (nomatch z), fun _ z => (nomatch z)⟩
  | ldic od ks kvs => exact ⟨_, h.1, fun _ z => (nomatch z), fun _ _ n z => by cases z; exact n _ rfl, fun _ z => (nomatch z)⟩
  | exn c fs => obtain ⟨C, dx, gs, e, _⟩ := h; exact ⟨_, e, fun _ z => (nomatch z), fun _ _ _ z => (nomatch z), fun _ z => (nomatch z)⟩
theorem Wld.none {B : Bs} {G : DG} {H : Hp} (w : Wld B G H) {p : Addr} (h : H p = none) : G p = none := by
  cases e : G p with
  | none => rfl
  | some o =>
    obtain ⟨u, q, _⟩ := (w.1 p o e).live
    rw [q] at h; cases h
/-- frames keep what never changes -/
theorem Fm.kp0 {B : Bs} {G G' : DG} {H H' : Hp} (w : Wld0 B G H) (f : Fm G H G' H') : Kp B.K H H' := by
  refine ⟨fun a xs h => ?_, fun a xs h => ?_, fun a fs h => ?_⟩
  · rcases h with (h | ⟨o, h⟩) | h
    · refine .inl (.inl (f a _ h ?_).1)
      cases e : G a with
      | none => rfl
      | some o =>
        obtain ⟨u, q, n, _⟩ := (w a o e).live
        rw [h] at q; cases q
        exact (n _ rfl).elim
    · refine .inl (.inr ⟨o, (f a _ h ?_).1⟩)
      cases e : G a with
      | none => rfl
      | some o =>
        obtain ⟨u, q, _, n, _⟩ := (w a o e).live
        rw [h] at q; cases q
        exact (n _ _ (by intro _ z; cases z) rfl).elim
    · exact .inr h
  · rcases h with ⟨o, h⟩ | h
    · refine .inl ⟨o, (f a _ h ?_).1⟩
      cases e : G a with
      | none => rfl
      | some o =>
        obtain ⟨u, q, _, n, _⟩ := (w a o e).live
        rw [h] at q; cases q
        exact (n _ _ (by intro _ z; cases z) rfl).elim
    · exact .inr h
  · refine (f a _ h ?_).1
    cases e : G a with
    | none => rfl
    | some o =>
      obtain ⟨u, q, _, _, n⟩ := (w a o e).live
      rw [h] at q; cases q
      exact (n _ rfl).elim
theorem Fm.kp {B : Bs} {G G' : DG} {H H' : Hp} (w : Wld B G H) (f : Fm G H G' H') : Kp B.K H H' := f.kp0 w.1
theorem Wld.to {B : Bs} {G G' : DG} {H H' : Hp} (w : Wld B G H) (f : Fm G H G' H') (w' : Wld0 B G' H') : Wld B G' H' := ⟨w', B.st w.2 (f.kp w) f⟩
theorem okO_no {B : Bs} {H : Hp} {a : Addr} {o : DO} (h : OkO B H a o) : OkO (Bs.no B.P B.w B.K) H a o := by cases o <;> exact h
theorem okO_of {B : Bs} {H : Hp} {a : Addr} {o : DO} (h : OkO (Bs.no B.P B.w B.K) H a o) : OkO B H a o := by cases o <;> exact h
theorem Wld.no {B : Bs} {G : DG} {H : Hp} (w : Wld B G H) : Wld (Bs.no B.P B.w B.K) G H := ⟨fun a o e => okO_no (w.1 a o e), True.intro⟩
theorem Wld.of {B : Bs} {G G' : DG} {H H' : Hp} (w : Wld B G H) (f : Fm G H G' H') (w' : Wld (Bs.no B.P B.w B.K) G' H') : Wld B G' H' := w.to f fun a o e => okO_of (w'.1 a o e)
theorem paired_mono {α β : Type} {R S : α → β → Prop} (h : ∀ a b, R a b → S a b) : ∀ {l : List α} {m : List β}, Paired R l m → Paired S l m
  | _, _, .nil => .nil
  | _, _, .cons r t => .cons (h _ _ r) (paired_mono h t)
theorem OkO.mono {B : Bs} {H H' : Hp} {a : Addr} {o : DO} (h : OkO B H a o) (k : Kp B.K H H') (e : ∀ u, H a = some u → H' a = some u) : OkO B H' a o := by
  cases o with
  | lst ds => obtain ⟨xs, q, r⟩ := h; exact ⟨xs, e _ q, r.mono k⟩
  | dic kvs =>
    rcases h with ⟨ks, q, r⟩ | ⟨kn, xs, q, n, z, nd, r⟩
    · exact .inl ⟨ks, e _ q, paired_mono (fun p q h => ⟨h.1, h.2.mono k⟩) r⟩
    · exact .inr ⟨kn, xs, e _ q, n, z, nd, paired_mono (fun p q h => ⟨h.1, h.2.1, h.2.2.1, h.2.2.2.1.mono k, h.2.2.2.2.elim fun v hv => ⟨v, hv.1, hv.2.mono k⟩⟩) r⟩
  | set ds => obtain ⟨L, L', q, n, z, p, r⟩ := h; exact ⟨L, L', e _ q, n, z, p, paired_mono (fun p q h => ⟨h.1, h.2.1, h.2.2.1, h.2.2.2.mono k⟩) r⟩
  | ins c fs => obtain ⟨C, dx, gs, q, n, r⟩ := h; exact ⟨C, dx, gs, e _ q, n, paired_mono (fun p q h => ⟨h.1, h.2.mono k⟩) r⟩
  | ldic od ks kvs => exact ⟨e _ h.1, paired_mono (fun p q h => ⟨h.1, h.2.mono k⟩) h.2⟩
  | exn c fs => obtain ⟨C, dx, gs, q, qd, n, r⟩ := h; exact ⟨C, dx, gs, e _ q, (by cases dx with
    | none => exact qd
    | some d => exact k.x _ _ qd), n, paired_mono (fun p q h => ⟨h.1, h.2.mono k⟩) r⟩
section
variable {B : Bs} {G : DG} {H : Hp} {p : Addr} {o : HO} {d : DO}
theorem kp_new (h : H p = none) : Kp B.K H (L2.upd H p o) := by
  refine ⟨fun a xs q => ?_, fun a xs q => ?_, fun a fs q => by rw [upd_ne (ne_of_none q h)]; exact q⟩
  · rcases q with (q | ⟨ob, q⟩) | q
    · exact .inl (.inl (by rw [upd_ne (ne_of_none q h)]; exact q))
    · exact .inl (.inr ⟨ob, by rw [upd_ne (ne_of_none q h)]; exact q⟩)
    · exact .inr q
  · rcases q with ⟨ob, q⟩ | q
    · exact .inl ⟨ob, by rw [upd_ne (ne_of_none q h)]; exact q⟩
    · exact .inr q
/-- a thing that the store does not tell (a tuple) is laid -/
theorem fm_hid (h : H p = none) : Fm G H G (L2.upd H p o) := fun a u e n => ⟨by rw [upd_ne (ne_of_none e h)]; exact e, n⟩
theorem wld0_hid (w : Wld0 B G H) (h : H p = none) : Wld0 B G (L2.upd H p o) := fun a u e => by
  obtain ⟨x, q, _⟩ := (w a u e).live
  exact (w a u e).mono (kp_new h) fun y z => by rw [upd_ne (ne_of_none z h)]; exact z
theorem wld_hid (w : Wld B G H) (h : H p = none) : Wld B G (L2.upd H p o) := ⟨wld0_hid w.1 h, B.st w.2 (kp_new h) (fm_hid h)⟩
/-- a new object of the store -/
theorem fm_new (h : H p = none) : Fm G H (G.upd p d) (L2.upd H p o) := fun a u e n => by
  have ne := ne_of_none e h
  rw [upd_ne ne, gupd_ne ne]
  exact ⟨e, n⟩
theorem wld_new (w : Wld B G H) (h : H p = none) (ok : OkO B (L2.upd H p o) p d) : Wld B (G.upd p d) (L2.upd H p o) := ⟨fun a u e => by
  by_cases ha : a = p
  · subst ha
    rw [gupd_same] at e; cases e
    exact ok
  · rw [gupd_ne ha] at e
    exact wld0_hid w.1 h a u e, B.st w.2 (kp_new h) (fm_new h)⟩
/-- an object of the store is changed -/
theorem kp_set0 (w : Wld0 B G H) {d0 : DO} (e : G p = some d0) : Kp B.K H (L2.upd H p o) := by
  obtain ⟨u, q, n1, n2, n3⟩ := (w p d0 e).live
  refine ⟨fun a xs z => ?_, fun a xs z => ?_, fun a fs z => by rw [upd_ne (ne_of z q (n3 _).symm)]; exact z⟩
  · rcases z with (z | ⟨ob, z⟩) | z
    · exact .inl (.inl (by rw [upd_ne (ne_of z q (n1 _).symm)]; exact z))
    · exact .inl (.inr ⟨ob, by rw [upd_ne (ne_of z q (n2 _ _ (by intro _ z; cases z)).symm)]; exact z⟩)
    · exact .inr z
  · rcases z with ⟨ob, z⟩ | z
    · exact .inl ⟨ob, by rw [upd_ne (ne_of z q (n2 _ _ (by intro _ z; cases z)).symm)]; exact z⟩
    · exact .inr z
theorem kp_set (w : Wld B G H) {d0 : DO} (e : G p = some d0) : Kp B.K H (L2.upd H p o) := kp_set0 w.1 e
theorem fm_set0 {d0 : DO} (e : G p = some d0) : Fm G H (G.upd p d) (L2.upd H p o) := fun a u q n => by
  have ne : a ≠ p := fun z => by subst z; rw [e] at n; cases n
  rw [upd_ne ne, gupd_ne ne]
  exact ⟨q, n⟩
theorem fm_set (w : Wld B G H) {d0 : DO} (e : G p = some d0) : Fm G H (G.upd p d) (L2.upd H p o) := fm_set0 e
theorem wld0_set (w : Wld0 B G H) {d0 : DO} (e : G p = some d0) (ok : OkO B (L2.upd H p o) p d) : Wld0 B (G.upd p d) (L2.upd H p o) := fun a u q => by
  by_cases ha : a = p
  · subst ha
    rw [gupd_same] at q; cases q
    exact ok
  · rw [gupd_ne ha] at q
    exact (w a u q).mono (kp_set0 w e) fun y z => by rw [upd_ne ha]; exact z
theorem wld_set (w : Wld B G H) {d0 : DO} (e : G p = some d0) (ok : OkO B (L2.upd H p o) p d) : Wld B (G.upd p d) (L2.upd H p o) := ⟨wld0_set w.1 e ok, B.st w.2 (kp_set w e) (fm_set w e)⟩
end

/-! ### slots -/
abbrev DSt := List (Option D)
def RpO (K : PySem.W.Frag) (H : Hp) : Option D → Option V → Prop
  | none, _ => True
  | some d, some v => Rp K H d v
  | some _, none => False
abbrev RpS (K : PySem.W.Frag) (H : Hp) (ρ : DSt) (σ : St) : Prop := Paired (RpO K H) ρ σ
theorem RpO.mono {K : PySem.W.Frag} {H H' : Hp} (k : Kp K H H') : ∀ {d : Option D} {v : Option V}, RpO K H d v → RpO K H' d v
  | none, _, _ => True.intro
  | some _, some _, h => Rp.mono k h
  | some _, none, h => h.elim
theorem RpS.mono {K : PySem.W.Frag} {H H' : Hp} (k : Kp K H H') {ρ : DSt} {σ : St} (h : RpS K H ρ σ) : RpS K H' ρ σ := paired_mono (fun _ _ q => RpO.mono k q) h
theorem RpS.get {K : PySem.W.Frag} {H : Hp} : ∀ {ρ : DSt} {σ : St} {i : Nat} {d : D}, RpS K H ρ σ → ρ[i]? = some (some d) → ∃ v, σ[i]? = some (some v) ∧ Rp K H d v
  | _, _, _, _, .nil, e => by simp at e
  | _, _, 0, d, .cons (a := x) (b := y) r t, e => by
    have q : x = some d := Option.some.inj e
    subst q
    cases y with
    | none => exact r.elim
    | some v => exact ⟨v, rfl, r⟩
  | _, _, i + 1, d, .cons r t, e => RpS.get (i := i) t e
theorem RpS.set {K : PySem.W.Frag} {H : Hp} {d : Option D} {v : Option V} (q : RpO K H d v) : ∀ {ρ : DSt} {σ : St} (i : Nat), RpS K H ρ σ → RpS K H (ρ.set i d) (σ.set i v)
  | _, _, _, .nil => .nil
  | _, _, 0, .cons r t => .cons q t
  | _, _, i + 1, .cons r t => .cons r (RpS.set q i t)
def wipeD (ρ : DSt) : List Nat → DSt
  | [] => ρ
  | v :: vs => (wipeD ρ vs).set v none
theorem RpS.wipe {K : PySem.W.Frag} {H : Hp} {ρ : DSt} {σ : St} (h : RpS K H ρ σ) : ∀ vs : List Nat, RpS K H (wipeD ρ vs) (L2.wipe σ vs)
  | [] => h
  | v :: vs => RpS.set (d := none) (v := none) True.intro v (RpS.wipe h vs)
def startD (N : List Str) (ds : List D) : DSt := ds.map some ++ List.replicate (N.length - ds.length) none
theorem RpS.start {K : PySem.W.Frag} {H : Hp} : ∀ {n : Nat} {ds : List D} {vs : List V}, RpL K H ds vs → RpS K H (ds.map some ++ List.replicate n none) (vs.map some ++ List.replicate n none)
  | n, [], vs, h => by
    rw [rpl_nil.mp h]
    show RpS K H (List.replicate n none) (List.replicate n none)
    induction n with
    | zero => exact .nil
    | succ n ih => exact .cons True.intro ih
  | n, d :: ds, vs, h => by
    obtain ⟨y, ys, rfl, r, t⟩ := rpl_cons.mp h
    exact .cons r (RpS.start t)
end FD

/-! FD2: readings over the data level, their judgements, the rules of expressions, statements, loops, comprehensions, calls. -/
namespace FD
open PySem L2
abbrev DK := D → DG → Prop
abbrev DE := DSt → DG → DK → Prop
abbrev DT := DSt → DG → (Bool → DG → Prop) → Prop
abbrev DA := DSt → DG → (List D → DG → Prop) → Prop
structure DEnds where
  nx : DSt → DG → Prop
  rt : DK
  bk : DSt → DG → Prop := fun _ _ => False
  ct : DSt → DG → Prop := fun _ _ => False
abbrev DS := DEnds → DSt → DG → Prop
/-- from what is wanted at the data level to what is wanted at the layer below -/
def Kt (B : Bs) (G : DG) (H : Hp) (Q : DK) (R : VK) : Prop := ∀ d v G' H', Rp B.K H' d v → Wld B G' H' → Fm G H G' H' → Q d G' → R v H'
def KtT (B : Bs) (G : DG) (H : Hp) (Q : Bool → DG → Prop) (R : Bool → Hp → Prop) : Prop := ∀ b G' H', Wld B G' H' → Fm G H G' H' → Q b G' → R b H'
def KtA (B : Bs) (G : DG) (H : Hp) (Q : List D → DG → Prop) (R : List V → Hp → Prop) : Prop := ∀ ds vs G' H', RpL B.K H' ds vs → Wld B G' H' → Fm G H G' H' → Q ds G' → R vs H'
def KtS (B : Bs) (G : DG) (H : Hp) (Q : DSt → DG → Prop) (R : St → Hp → Prop) : Prop := ∀ ρ σ G' H', RpS B.K H' ρ σ → Wld B G' H' → Fm G H G' H' → Q ρ G' → R σ H'
section
variable {B : Bs} {G G1 : DG} {H H1 : Hp}
theorem Kt.aft {Q : DK} {R : VK} (k : Kt B G H Q R) (f : Fm G H G1 H1) : Kt B G1 H1 Q R := fun d v G' H' r w f' q => k d v G' H' r w (f.trans f') q
theorem KtT.aft {Q : Bool → DG → Prop} {R : Bool → Hp → Prop} (k : KtT B G H Q R) (f : Fm G H G1 H1) : KtT B G1 H1 Q R := fun b G' H' w f' q => k b G' H' w (f.trans f') q
theorem KtA.aft {Q : List D → DG → Prop} {R : List V → Hp → Prop} (k : KtA B G H Q R) (f : Fm G H G1 H1) : KtA B G1 H1 Q R := fun d v G' H' r w f' q => k d v G' H' r w (f.trans f') q
theorem KtS.aft {Q : DSt → DG → Prop} {R : St → Hp → Prop} (k : KtS B G H Q R) (f : Fm G H G1 H1) : KtS B G1 H1 Q R := fun d v G' H' r w f' q => k d v G' H' r w (f.trans f') q
end
structure KtE (B : Bs) (G : DG) (H : Hp) (E : DEnds) (F : Ends) : Prop where
  nx : KtS B G H E.nx F.nx
  rt : Kt B G H E.rt F.rt
  bk : KtS B G H E.bk F.bk
  ct : KtS B G H E.ct F.ct
theorem KtE.aft {B : Bs} {G G1 : DG} {H H1 : Hp} {E : DEnds} {F : Ends} (k : KtE B G H E F) (f : Fm G H G1 H1) : KtE B G1 H1 E F := ⟨k.nx.aft f, k.rt.aft f, k.bk.aft f, k.ct.aft f⟩
def LkE (B : Bs) (te : TE) (t : DE) : Prop := ∀ ρ σ G H Q R, RpS B.K H ρ σ → Wld B G H → t ρ G Q → Kt B G H Q R → te σ H R
def LkT (B : Bs) (te : TT) (t : DT) : Prop := ∀ ρ σ G H Q R, RpS B.K H ρ σ → Wld B G H → t ρ G Q → KtT B G H Q R → te σ H R
def LkA (B : Bs) (te : TA) (t : DA) : Prop := ∀ ρ σ G H Q R, RpS B.K H ρ σ → Wld B G H → t ρ G Q → KtA B G H Q R → te σ H R
def LkS (B : Bs) (te : TS) (t : DS) : Prop := ∀ ρ σ G H E F, RpS B.K H ρ σ → Wld B G H → t E ρ G → KtE B G H E F → te F σ H
structure PD (X : DCx) (e : Expr) (t : DE) : Prop where
  ex : ∃ te, PE X e te ∧ LkE (bs X) te t
structure PDT (X : DCx) (e : Expr) (t : DT) : Prop where
  ex : ∃ te, PT X e te ∧ LkT (bs X) te t
structure PDW (X : DCx) (e : Expr) (t : DT) : Prop where
  ex : ∃ te, PW X e te ∧ LkT (bs X) te t
structure PDA (X : DCx) (es : List Expr) (t : DA) : Prop where
  ex : ∃ te, PA X es te ∧ LkA (bs X) te t
structure PDS (X : DCx) (st : Stmt) (t : DS) : Prop where
  ex : ∃ te, PS X st te ∧ LkS (bs X) te t
structure PDSs (X : DCx) (st : List Stmt) (t : DS) : Prop where
  ex : ∃ te, PSs X st te ∧ LkS (bs X) te t
/-! ### names and constants -/
def dVar (i : Nat) : DE := fun ρ G Q => match ρ[i]? with
  | some (some d) => Q d G
  | _ => False
def dC (d : D) : DE := fun _ G Q => Q d G
section
variable {X : DCx} {pos : Pos}
theorem pd_var (i : Nat) {x : Str} (hN : X.N[i]? = some x := by rfl) (hv : Vis X.env.scope x := by first | exact Or.inl rfl | exact Or.inr (Or.inl rfl) | exact Or.inr (Or.inr rfl)) (hd : (x == ("__debug__" : Str)) = false := by decide)
    (hcd : (x == ("__classdict__" : Str)) = false := by decide) : PD X (.Name x pos) (dVar i) := ⟨tVar i, pe_var hN hv hd hcd, fun ρ σ G H Q R s w h k => by
  unfold dVar at h
  split at h
  · rename_i d e
    obtain ⟨v, e1, r⟩ := s.get e
    exact ⟨v, e1, k d v G H r w Fm.refl h⟩
  · exact h.elim⟩
theorem pd_c {e : Expr} {v : V} {d : D} (h : PE X e (tC v)) (r : ∀ K H, Rp K H d v) : PD X e (dC d) := ⟨_, h, fun ρ σ G H Q R s w h k => k d v G H (r _ _) w Fm.refl h⟩
theorem pd_int {i : Int} {j} : PD X (.Constant (.int i) j pos) (dC (.int i)) := pd_c pe_int fun _ _ => rp_int.mpr rfl
theorem pd_bl {b : Bool} {j} : PD X (.Constant (.bool b) j pos) (dC (.bl b)) := pd_c pe_bl fun _ _ => rp_bl.mpr rfl
theorem pd_non {j} : PD X (.Constant .none j pos) (dC .non) := pd_c pe_non fun _ _ => rp_non.mpr rfl
theorem pd_str {x : Str} {j} : PD X (.Constant (.str x) j pos) (dC (.str x)) := pd_c pe_str fun _ _ => rp_str.mpr rfl
theorem pd_ty {x : Str} {n : String} (hg : Gl X x) (hm : X.mg x = none) (hv : bootBuiltins x = some (.type n)) (hn : x ≠ "__name__" := by decide) (hd : (x == ("__debug__" : Str)) = false := by decide) : PD X (.Name x pos) (dC (.ty n)) :=
  pd_c (pe_bltn (v := .ty n) hg hm hv rfl hn hd) fun _ _ => rp_ty.mpr rfl
end
/-! ### arguments, displays -/
def dNil : DA := fun _ G Q => Q [] G
def dCons (t : DE) (r : DA) : DA := fun ρ G Q => t ρ G fun x G1 => r ρ G1 fun xs G2 => Q (x :: xs) G2
def dTup (t : DA) : DE := fun ρ G Q => t ρ G fun xs G1 => xs.length ≤ sizeLine ∧ Q (.tup xs) G1
def dLst (t : DA) : DE := fun ρ G Q => t ρ G fun xs G1 => xs.length ≤ sizeLine ∧ ∀ p, G1 p = none → Q (.ref p) (G1.upd p (.lst xs))
section
variable {X : DCx} {pos : Pos} {e : Expr} {es : List Expr} {t : DE} {r : DA}
theorem pda_nil : PDA X [] dNil := ⟨tNil, pa_nil, fun ρ σ G H Q R s w h k => k [] [] G H RpL.nil w Fm.refl h⟩
theorem pda_cons (h1 : PD X e t) (h2 : PDA X es r) (hs : starEach (e :: es) X.env = (false, eval e X.env) :: starEach es X.env := by rfl) : PDA X (e :: es) (dCons t r) := by
  obtain ⟨te, p1, l1⟩ := h1
  obtain ⟨ta, p2, l2⟩ := h2
  refine ⟨tCons te ta, pa_cons p1 p2 hs, fun ρ σ G H Q R s w h k => ?_⟩
  refine l1 ρ σ G H _ _ s w h fun x v G1 H1 r1 w1 f1 q1 => ?_
  refine l2 ρ σ G1 H1 _ _ (s.mono (f1.kp w)) w1 q1 fun xs vs G2 H2 r2 w2 f2 q2 => ?_
  exact k _ _ G2 H2 (RpL.cons (r1.mono (f2.kp w1)) r2) w2 (f1.trans f2) q2
theorem pd_tup {k1} (h : PDA X es r) : PD X (.Tuple es k1 pos) (dTup r) := by
  obtain ⟨ta, p, l⟩ := h
  refine ⟨tTup ta, pe_tup p, fun ρ σ G H Q R s w h k => ?_⟩
  refine l ρ σ G H _ _ s w h fun xs vs G1 H1 r1 w1 f1 q1 => ⟨by rw [← r1.length]; exact q1.1, fun a ha => ?_⟩
  exact k _ _ G1 _ (rp_tup.mpr ⟨a, vs, rfl, SqT.of upd_same, r1.mono (kp_new (B := bs X) ha)⟩) (wld_hid w1 ha) (f1.trans (fm_hid ha)) q1.2
theorem pd_lst (h : PDA X es r) : PD X (.List es pos) (dLst r) := by
  obtain ⟨ta, p, l⟩ := h
  refine ⟨tLst ta, pe_lst p, fun ρ σ G H Q R s w h k => ?_⟩
  refine l ρ σ G H _ _ s w h fun xs vs G1 H1 r1 w1 f1 q1 => ⟨by rw [← r1.length]; exact q1.1, fun a ha => ?_⟩
  refine k _ _ _ _ (rp_ref.mpr rfl) (wld_new (d := .lst xs) w1 ha ⟨vs, upd_same, r1.mono (kp_new (B := bs X) ha)⟩) (f1.trans (fm_new ha)) (q1.2 a (w1.none ha))
end
/-! ### operators -/
abbrev R2D := D → D → DG → DK → Prop
def LkR (B : Bs) (r : R2) (rd : R2D) : Prop := ∀ x y v u G H Q R, Rp B.K H x v → Rp B.K H y u → Wld B G H → rd x y G Q → Kt B G H Q R → r v u H R
def dOp (rd : R2D) (ta tb : DE) : DE := fun ρ G Q => ta ρ G fun x G1 => tb ρ G1 fun y G2 => rd x y G2 Q
theorem lk_op {B : Bs} {r : R2} {rd : R2D} {ta tb : TE} {da db : DE} (hl : LkR B r rd) (ha : LkE B ta da) (hb : LkE B tb db) : LkE B (tOp r ta tb) (dOp rd da db) := fun ρ σ G H Q R s w h k => by
  refine ha ρ σ G H _ _ s w h fun x v G1 H1 r1 w1 f1 q1 => ?_
  refine hb ρ σ G1 H1 _ _ (s.mono (f1.kp w)) w1 q1 fun y u G2 H2 r2 w2 f2 q2 => ?_
  exact hl x y v u G2 H2 Q R (r1.mono (f2.kp w1)) r2 w2 q2 (k.aft (f1.trans f2))
section
variable {X : DCx} {pos : Pos} {a b c : Expr} {da db dc : DE} {r r' : R2} {rd rd' : R2D}
theorem pd_op {op : Operator} (ho : OpR X (binaryOp op) r) (hl : LkR (bs X) r rd) (ha : PD X a da) (hb : PD X b db) : PD X (.BinOp a op b pos) (dOp rd da db) := by
  obtain ⟨ta, pa, la⟩ := ha
  obtain ⟨tb, pb, lb⟩ := hb
  exact ⟨tOp r ta tb, pe_op ho pa pb, lk_op hl la lb⟩
theorem pd_cmp {op : CmpOp} (ho : OpR X (compareOp op) r) (hl : LkR (bs X) r rd) (ha : PD X a da) (hb : PD X b db) (hm : behindInMarks op b = false) : PD X (.Compare a [op] [b] pos) (dOp rd da db) := by
  obtain ⟨ta, pa, la⟩ := ha
  obtain ⟨tb, pb, lb⟩ := hb
  exact ⟨tOp r ta tb, pe_cmpR ho pa pb hm, lk_op hl la lb⟩
/-- a value that is a truth value -/
def dBool (t : DE) : DT := fun ρ G Q => t ρ G fun x G1 => match x with
  | .bl b => Q b G1
  | _ => False
theorem lk_test {B : Bs} {t : TE} {d : DE} (h : LkE B t d) : LkT B (tTest t) (dBool d) := fun ρ σ G H Q R s w q k => by
  refine h ρ σ G H _ _ s w q fun x v G1 H1 r1 w1 f1 q1 => ?_
  cases x with
  | bl b => exact ⟨b, rp_bl.mp r1, k b G1 H1 w1 f1 q1⟩
  | _ => exact q1.elim
theorem pdt_cmp {op : CmpOp} (ho : OpR X (compareOp op) r) (hl : LkR (bs X) r rd) (ha : PD X a da) (hb : PD X b db) (hm : behindInMarks op b = false) : PDT X (.Compare a [op] [b] pos) (dBool (dOp rd da db)) := by
  obtain ⟨ta, pa, la⟩ := ha
  obtain ⟨tb, pb, lb⟩ := hb
  exact ⟨tTest (tOp r ta tb), pt_cmpR ho pa pb hm, lk_test (lk_op hl la lb)⟩
def dChain (rd rd' : R2D) (ta tb tc : DE) : DE := fun ρ G Q => ta ρ G fun x G1 => tb ρ G1 fun y G2 => rd x y G2 fun z G3 => match z with
  | .bl k => if k = true then tc ρ G3 fun u G4 => rd' y u G4 Q else Q (.bl false) G3
  | _ => False
end
/-! ### truth; and, or, not, if-else -/
def trD (x : D) (G : DG) (Q : Bool → DG → Prop) : Prop := match x with
  | .non => Q false G
  | .bl b => Q b G
  | .int i => Q (i != 0) G
  | .str y => y.length ≤ sizeLine ∧ Q ((y.length : Int) != 0) G
  | .tup ds => Q (!ds.isEmpty) G
  | .fl ds => Q (!ds.isEmpty) G
  | .ref a => ∃ ds, G a = some (.lst ds) ∧ Q (!ds.isEmpty) G
  | .ty _ => False
theorem RpL.isEmpty {K : PySem.W.Frag} {H : Hp} {ds : List D} {xs : List V} (h : RpL K H ds xs) : (!ds.isEmpty) = !xs.isEmpty := by
  cases ds with
  | nil => rw [rpl_nil.mp h]; rfl
  | cons d ds => obtain ⟨y, ys, rfl, _⟩ := rpl_cons.mp h; rfl
theorem tr_lk {B : Bs} {x : D} {v : V} {G : DG} {H : Hp} {Q : Bool → DG → Prop} (r : Rp B.K H x v) (w : Wld B G H) (h : trD x G Q) : ∃ k, TruV B.K v H k ∧ Q k G := by
  cases x with
  | non => rw [rp_non.mp r]; exact ⟨false, rfl, h⟩
  | bl b => rw [rp_bl.mp r]; exact ⟨b, rfl, h⟩
  | int i => rw [rp_int.mp r]; exact ⟨_, rfl, h⟩
  | str y => rw [rp_str.mp r]; exact ⟨_, ⟨h.1, rfl⟩, h.2⟩
  | tup ds =>
    obtain ⟨a, xs, rfl, q, rl⟩ := rp_tup.mp r
    exact ⟨_, .inr (.inl ⟨xs, q, rl.isEmpty⟩), h⟩
  | fl ds =>
    obtain ⟨a, xs, rfl, q, rl⟩ := rp_fl.mp r
    exact ⟨_, .inl ⟨xs, q.sq, rl.isEmpty⟩, h⟩
  | ref a =>
    obtain ⟨ds, e, q⟩ := h
    rw [rp_ref.mp r]
    obtain ⟨xs, e2, rl⟩ := w.1 a _ e
    exact ⟨_, .inl ⟨xs, SqL.of e2, rl.isEmpty⟩, q⟩
  | ty n => exact h.elim
def dTru (t : DE) : DT := fun ρ G Q => t ρ G fun x G1 => trD x G1 Q
def dAndT (t u : DT) : DT := fun ρ G Q => t ρ G fun c G1 => if c = true then u ρ G1 Q else Q false G1
def dOrT (t u : DT) : DT := fun ρ G Q => t ρ G fun c G1 => if c = true then Q true G1 else u ρ G1 Q
def dNotT (t : DT) : DT := fun ρ G Q => t ρ G fun c G1 => Q (!c) G1
def dAnd (ta tb : DE) : DE := fun ρ G Q => ta ρ G fun x G1 => trD x G1 fun k G2 => if k = true then tb ρ G2 Q else Q x G2
def dOr (ta tb : DE) : DE := fun ρ G Q => ta ρ G fun x G1 => trD x G1 fun k G2 => if k = true then Q x G2 else tb ρ G2 Q
def dNot (ta : DE) : DE := fun ρ G Q => ta ρ G fun x G1 => trD x G1 fun k G2 => Q (.bl (!k)) G2
def dIf (t : DT) (ta tb : DE) : DE := fun ρ G Q => t ρ G fun c G1 => if c = true then ta ρ G1 Q else tb ρ G1 Q
section
variable {X : DCx} {pos : Pos} {a b c e : Expr} {rest : List Expr} {da db : DE} {ta tb : DT}
theorem pdt_tru (h : PD X a da) (he : ∀ whole, isTrue a X.env whole = (do let v ← whole; standAt a.pos; holding [v] (truthy v)) := by intro _; rfl) : PDT X a (dTru da) := by
  obtain ⟨te, p, l⟩ := h
  refine ⟨_, pt_truth p he, fun ρ σ G H Q R s w q k => ?_⟩
  refine l ρ σ G H _ _ s w q fun x v G1 H1 r1 w1 f1 q1 => ?_
  obtain ⟨c, t, qq⟩ := tr_lk r1 w1 q1
  exact ⟨c, t, k c G1 H1 w1 f1 qq⟩
theorem PDW.pt (h : PDW X e ta) : PDT X e ta := let ⟨te, p, l⟩ := h.ex; ⟨te, p.pt, l⟩
theorem pdw_or1 (h : PDT X a ta) : PDW X (.BoolOp .Or [a] pos) ta := let ⟨te, p, l⟩ := h.ex; ⟨te, pw_or1 p, l⟩
theorem pdw_or (h : PDT X a ta) (h2 : PDW X (.BoolOp .Or (b :: rest) pos) tb) : PDW X (.BoolOp .Or (a :: b :: rest) pos) (dOrT ta tb) := by
  obtain ⟨te, p, l⟩ := h
  obtain ⟨te2, p2, l2⟩ := h2
  refine ⟨_, pw_or p p2, fun ρ σ G H Q R s w q k => ?_⟩
  refine l ρ σ G H _ _ s w q fun c G1 H1 w1 f1 q1 => ?_
  cases c with
  | true => exact k true G1 H1 w1 f1 q1
  | false => exact l2 ρ σ G1 H1 Q R (s.mono (f1.kp w)) w1 q1 (k.aft f1)
theorem pdt_not (h : PDT X a ta) : PDT X (.UnaryOp .Not a pos) (dNotT ta) := by
  obtain ⟨te, p, l⟩ := h
  refine ⟨_, pt_not p, fun ρ σ G H Q R s w q k => ?_⟩
  exact l ρ σ G H _ _ s w q fun c G1 H1 w1 f1 q1 => k (!c) G1 H1 w1 f1 q1
theorem pd_one {op} (h : PD X a da) : PD X (.BoolOp op [a] pos) da := let ⟨te, p, l⟩ := h.ex; ⟨te, pe_one p, l⟩
theorem pd_and (h : PD X a da) (h2 : PD X (.BoolOp .And (b :: rest) pos) db) : PD X (.BoolOp .And (a :: b :: rest) pos) (dAnd da db) := by
  obtain ⟨te, p, l⟩ := h
  obtain ⟨te2, p2, l2⟩ := h2
  refine ⟨_, pe_andT p p2, fun ρ σ G H Q R s w q k => ?_⟩
  refine l ρ σ G H _ _ s w q fun x v G1 H1 r1 w1 f1 q1 => ?_
  obtain ⟨c, t, qq⟩ := tr_lk r1 w1 q1
  refine ⟨c, t, ?_⟩
  cases c with
  | true => exact l2 ρ σ G1 H1 Q R (s.mono (f1.kp w)) w1 qq (k.aft f1)
  | false => exact k x v G1 H1 r1 w1 f1 qq
theorem pd_not (h : PD X a da) : PD X (.UnaryOp .Not a pos) (dNot da) := by
  obtain ⟨te, p, l⟩ := h
  refine ⟨_, pe_notT p, fun ρ σ G H Q R s w q k => ?_⟩
  refine l ρ σ G H _ _ s w q fun x v G1 H1 r1 w1 f1 q1 => ?_
  obtain ⟨c, t, qq⟩ := tr_lk r1 w1 q1
  exact ⟨c, t, k _ _ G1 H1 (rp_bl.mpr rfl) w1 f1 qq⟩
theorem pd_if (h : PDT X c ta) (h1 : PD X a da) (h2 : PD X b db) : PD X (.IfExp c a b pos) (dIf ta da db) := by
  obtain ⟨te, p, l⟩ := h
  obtain ⟨te1, p1, l1⟩ := h1
  obtain ⟨te2, p2, l2⟩ := h2
  refine ⟨_, pe_ifExp p p1 p2, fun ρ σ G H Q R s w q k => ?_⟩
  refine l ρ σ G H _ _ s w q fun c G1 H1 w1 f1 q1 => ?_
  cases c with
  | true => exact l1 ρ σ G1 H1 Q R (s.mono (f1.kp w)) w1 q1 (k.aft f1)
  | false => exact l2 ρ σ G1 H1 Q R (s.mono (f1.kp w)) w1 q1 (k.aft f1)
end
/-! ### statements -/
def dNext : DS := fun E ρ G => E.nx ρ G
def dSeq (t u : DS) : DS := fun E ρ G => t { E with nx := u E } ρ G
def dDrop (t : DE) : DS := fun E ρ G => t ρ G fun _ G1 => E.nx ρ G1
def dRet (t : DE) : DS := fun E ρ G => t ρ G E.rt
def dIfS (c : DT) (t u : DS) : DS := fun E ρ G => c ρ G fun b G1 => if b = true then t E ρ G1 else u E ρ G1
abbrev DGt := D → DSt → DG → (DSt → DG → Prop) → Prop
def LkG (B : Bs) (g : TG) (dg : DGt) : Prop := ∀ d v ρ σ G H Q R, Rp B.K H d v → RpS B.K H ρ σ → Wld B G H → dg d ρ G Q → KtS B G H Q R → g v σ H R
structure PDG (X : DCx) (tg : Expr) (t : DGt) : Prop where
  ex : ∃ g, PG X tg g ∧ LkG (bs X) g t
abbrev DGts := List D → DSt → DG → (DSt → DG → Prop) → Prop
structure PDGs (X : DCx) (ts : List Expr) (t : DGts) : Prop where
  ex : ∃ g : TGs, PGs X ts g ∧ ∀ ds vs ρ σ G H Q R, RpL X.K H ds vs → RpS X.K H ρ σ → Wld (bs X) G H → t ds ρ G Q → KtS (bs X) G H Q R → g vs σ H R
def gnD (i : Nat) : DGt := fun d ρ G Q => Q (ρ.set i (some d)) G
def gtNil : DGts := fun ds ρ G Q => match ds with
  | [] => Q ρ G
  | _ => False
def gtCons (t : DGt) (u : DGts) : DGts := fun ds ρ G Q => match ds with
  | d :: r => t d ρ G fun ρ' G' => u r ρ' G' Q
  | [] => False
def gtD (n : Nat) (u : DGts) : DGt := fun d ρ G Q => match d with
  | .tup ds => ds.length = n ∧ u ds ρ G Q
  | _ => False
def dAsg (t : DE) (g : DGt) : DS := fun E ρ G => t ρ G fun x G1 => g x ρ G1 E.nx
def dPar (i j : Nat) (ta : DA) : DS := fun E ρ G => ta ρ G fun ds G1 => match ds with
  | [x, y] => E.nx ((ρ.set i (some x)).set j (some y)) G1
  | _ => False
section
variable {X : DCx} {pos : Pos} {st : Stmt} {sts a b : List Stmt} {e c : Expr} {t u : DS} {te : DE} {tc : DT} {g : DGt} {gs : DGts}
theorem pds_nil : PDSs X [] dNext := ⟨tNext, pss_nil, fun ρ σ G H E F s w h k => k.nx ρ σ G H s w Fm.refl h⟩
theorem pds_cons (h1 : PDS X st t) (h2 : PDSs X sts u) : PDSs X (st :: sts) (dSeq t u) := by
  obtain ⟨te, p, l⟩ := h1
  obtain ⟨te2, p2, l2⟩ := h2
  refine ⟨_, pss_cons p p2, fun ρ σ G H E F s w h k => ?_⟩
  exact l ρ σ G H _ _ s w h ⟨fun ρ' σ' G' H' s' w' f' q => l2 ρ' σ' G' H' E F s' w' q (k.aft f'), k.rt, k.bk, k.ct⟩
theorem pds_one (h1 : PDS X st t) : PDSs X [st] t := let ⟨te, p, l⟩ := h1.ex; ⟨te, pss_one p, l⟩
theorem pds_ret (h : PD X e te) : PDS X (.Return (some e) pos) (dRet te) := by
  obtain ⟨x, p, l⟩ := h
  exact ⟨_, ps_ret p, fun ρ σ G H E F s w h k => l ρ σ G H _ _ s w h k.rt⟩
theorem pds_if (h : PDT X c tc) (h1 : PDSs X a t) (h2 : PDSs X b u) : PDS X (.If c a b pos) (dIfS tc t u) := by
  obtain ⟨x, p, l⟩ := h
  obtain ⟨x1, p1, l1⟩ := h1
  obtain ⟨x2, p2, l2⟩ := h2
  refine ⟨_, ps_if p p1 p2, fun ρ σ G H E F s w h k => ?_⟩
  refine l ρ σ G H _ _ s w h fun c G1 H1 w1 f1 q1 => ?_
  cases c with
  | true => exact l1 ρ σ G1 H1 E F (s.mono (f1.kp w)) w1 q1 (k.aft f1)
  | false => exact l2 ρ σ G1 H1 E F (s.mono (f1.kp w)) w1 q1 (k.aft f1)
theorem lk_name {B : Bs} (i : Nat) : LkG B (gName i) (gnD i) := fun d v ρ σ G H Q R r s w h k => k _ _ G H (s.set (d := some d) (v := some v) r i) w Fm.refl h
theorem pdg_name (i : Nat) {x : Str} (hN : X.N.Nodup) (hi : X.N[i]? = some x := by rfl) (hx : Loc X.env.scope x := by first | exact Or.inl rfl | exact Or.inr rfl) (hf : X.fn x = true ∨ X.env.scope.names.lookup x = some .local := by first | exact .inl rfl | exact .inr rfl | assumption) : PDG X (.Name x pos) (gnD i) :=
  ⟨gName i, pg_name hN hi hx hf, lk_name i⟩
theorem pdgs_nil : PDGs X [] gtNil := ⟨gNil, pgs_nil, fun ds vs ρ σ G H Q R r s w h k => by
  cases ds with
  | nil => exact ⟨rpl_nil.mp r, k ρ σ G H s w Fm.refl h⟩
  | cons d ds => exact h.elim⟩
theorem pdgs_cons {es : List Expr} (h1 : PDG X e g) (h2 : PDGs X es gs) (he : (assignEach (e :: es) X.env).map (·.2) = assign e X.env :: (assignEach es X.env).map (·.2) := by rfl) : PDGs X (e :: es) (gtCons g gs) := by
  obtain ⟨x, p, l⟩ := h1
  obtain ⟨x2, p2, l2⟩ := h2
  refine ⟨_, pgs_cons p p2 he, fun ds vs ρ σ G H Q R r s w h k => ?_⟩
  cases ds with
  | nil => exact h.elim
  | cons d ds =>
    obtain ⟨y, ys, rfl, r1, r2⟩ := rpl_cons.mp r
    refine ⟨y, ys, rfl, l d y ρ σ G H _ _ r1 s w h fun ρ' σ' G' H' s' w' f' q => ?_⟩
    exact l2 ds ys ρ' σ' G' H' Q R (r2.mono (f'.kp w)) s' w' q (k.aft f')
theorem pdg_tup {es : List Expr} {k1 : Nat} {n : Nat} (hc : X.calm = true) (h : PDGs X es gs) (hn : (assignEach es X.env).length = n := by rfl) (hst : (assignEach es X.env).findIdx? (·.1) = none := by rfl) : PDG X (.Tuple es k1 pos) (gtD n gs) := by
  obtain ⟨x, p, l⟩ := h
  refine ⟨_, pg_tup (n := n) hc p hn hst, fun d v ρ σ G H Q R r s w h k => ?_⟩
  cases d with
  | tup ds =>
    obtain ⟨a, xs, rfl, q, rl⟩ := rp_tup.mp r
    exact ⟨a, xs, rfl, q, by rw [← rl.length]; exact h.1, l ds xs ρ σ G H Q R rl s w h.2 k⟩
  | _ => exact h.elim
theorem pds_set (i : Nat) {x : Str} {pos' : Pos} (hN : X.N.Nodup) (h : PD X e te) (hi : X.N[i]? = some x := by rfl) (hx : Loc X.env.scope x := by first | exact Or.inl rfl | exact Or.inr rfl) (hs : swapsWith e (some (.Name x pos')) pos.line X.env = pure false := by rfl)
    (hf : X.fn x = true ∨ X.env.scope.names.lookup x = some .local := by first | exact .inl rfl | exact .inr rfl | assumption) : PDS X (.Assign [.Name x pos'] e pos) (dAsg te (gnD i)) := by
  obtain ⟨y, p, l⟩ := h
  refine ⟨_, ps_set hN hi hx p hs hf, fun ρ σ G H E F s w h k => ?_⟩
  exact l ρ σ G H _ _ s w h fun d v G1 H1 r1 w1 f1 q1 => k.nx _ _ G1 H1 ((s.mono (f1.kp w)).set (d := some d) (v := some v) r1 i) w1 f1 q1
theorem pds_asg {tg : Expr} (h : PD X e te) (hg : PDG X tg g) (hs : swapsWithSole [tg] e pos.line X.env = pure false := by rfl) (hw : swappedStores [tg] e X.env = pure none := by rfl)
    (h1 : (assignEach [tg] X.env).map (·.2) = [assign tg X.env] := by rfl) : PDS X (.Assign [tg] e pos) (dAsg te g) := by
  obtain ⟨y, p, l⟩ := h
  obtain ⟨y2, p2, l2⟩ := hg
  refine ⟨_, ps_asg p p2 hs hw h1, fun ρ σ G H E F s w h k => ?_⟩
  refine l ρ σ G H _ _ s w h fun d v G1 H1 r1 w1 f1 q1 => ?_
  exact l2 d v ρ σ G1 H1 _ _ r1 (s.mono (f1.kp w)) w1 q1 (k.nx.aft f1)
theorem pds_par (i j : Nat) {x y : Str} {e1 e2 : Expr} {ta : DA} {px py pt : Pos} {kt k2 pt2} (hc : X.calm = true) (hN : X.N.Nodup) (h : PDA X [e1, e2] ta) (hi : X.N[i]? = some x := by rfl) (hj : X.N[j]? = some y := by rfl) (hij : i ≠ j := by decide)
    (hx : X.env.scope.names.lookup x = some .local := by rfl) (hy : X.env.scope.names.lookup y = some .local := by rfl)
    (hw : swappedStores [.Tuple [.Name x px, .Name y py] kt pt] (.Tuple [e1, e2] k2 pt2) X.env = pure (some [x, y]) := by rfl)
    (hs : swapsWithSole [.Tuple [.Name x px, .Name y py] kt pt] (.Tuple [e1, e2] k2 pt2) pos.line X.env = pure false := by rfl) :
    PDS X (.Assign [.Tuple [.Name x px, .Name y py] kt pt] (.Tuple [e1, e2] k2 pt2) pos) (dPar i j ta) := by
  obtain ⟨z, p, l⟩ := h
  refine ⟨_, ps_par hc hN hi hj hij hx hy p hw hs, fun ρ σ G H E F s w h k => ?_⟩
  refine l ρ σ G H _ _ s w h fun ds vs G1 H1 r1 w1 f1 q1 => ?_
  match ds, q1 with
  | [x, y], q1 =>
    obtain ⟨v, u, rfl, rx, ry⟩ := r1.two
    exact ⟨v, u, rfl, k.nx _ _ G1 H1 (((s.mono (f1.kp w)).set (d := some x) (v := some v) rx i).set (d := some y) (v := some u) ry j) w1 f1 q1⟩
end
/-! ### while -/
end FD

/-! FDe: enumerate of a tuple. -/
namespace FD
open PySem PySem.Spec PyProof.Rows L2
set_option maxHeartbeats 4000000 in
theorem meets_enumerate_new1 {v : Value} {o : Obj} {H : Heap → Prop} (B : Begins v o H) :
    Meets (Builtin.«enumerate.__new__» ⟨[.type "enumerate", v], []⟩) (fun _ R s => H s.heap ∧
      R (.ok (.ret (.ref (s.heap.push o).objs.size))) { s with heap := (s.heap.push o).push { cls := .type "enumerate", data := .fields #[.none, .bool false, .ref s.heap.objs.size, rawInt 0, .none, .none] } }) :=
  .of_wp fun prog w A R s h => by
    obtain ⟨hp, g, d, tk, os⟩ := s; obtain ⟨h1, h⟩ := h
    have hsub := sub_enumerate
    have q1 : ∀ {A' : Around} {E : Value → Shared → Prop} {Q : Value → Shared → Prop}, Q (.ref hp.objs.size) ⟨hp.push o, g, d, tk, os⟩ → wpAny (model prog w) A' (pyIter v) Q E ⟨hp, g, d, tk, os⟩ :=
      fun q => B.iter prog w _ _ ⟨hp, g, d, tk, os⟩ _ h1 q
    wp_walk using q1
    refine wpAny_stack_any fun st => wpAny_pure ?_
    split
    · rename_i c _ _ _ _ _
      cases (c == Value.type "enumerate")
      · wp_walk using q1
        exact ⟨_, rfl, h⟩
      · wp_walk using q1
        exact ⟨_, rfl, h⟩
    · wp_walk using q1
      exact ⟨_, rfl, h⟩
theorem enum_begins1 {prog : Program} {w : World} {A : Around} {E : Value → Shared → Prop} {s : Shared} {v : Value} {o : Obj} {H : Heap → Prop} {Q : Value → Shared → Prop} (B : Begins v o H) (h1 : H s.heap)
    (h : ∀ h', IsEnum h' (s.heap.objs.size + 1) s.heap.objs.size 0 .none → h'.get? s.heap.objs.size = some o → h'.objs.size = s.heap.objs.size + 2 →
      (∀ b o, s.heap.get? b = some o → h'.get? b = some o) → Q (.ref (s.heap.objs.size + 1)) { s with heap := h' }) :
    wpAny (model prog w) A (call (.type "enumerate") [v]) Q E s := by
  refine callType_new F.called_enumerate (by decide) (F.typeCall_enumerate_1 _) (F.newCall_enumerate_1 _) (fun obj => F.args_object_init_2 obj _) F.entry_enumerate_new
    (meets_enumerate_new1 B) ⟨h1, ?_⟩
  have hz : (s.heap.push o).objs.size = s.heap.objs.size + 1 := Heap.size_push ..
  show _ ∧ _
  rw [hz]
  have he : IsEnum ((s.heap.push o).push { cls := .type "enumerate", data := .fields #[.none, .bool false, .ref s.heap.objs.size, rawInt 0, .none, .none] }) (s.heap.objs.size + 1) s.heap.objs.size 0 .none := by
    have := Heap.get?_push_size (s.heap.push o) (o := { cls := .type "enumerate", data := .fields #[.none, .bool false, .ref s.heap.objs.size, rawInt 0, .none, .none] }) rfl
    rw [hz] at this; exact this
  refine ⟨⟨_, he, rfl⟩, h _ he (Heap.get?_push_of_some _ (Heap.get?_push_size _ B.free)) (by rw [Heap.size_push, hz]) fun b o x => Heap.get?_push_of_some _ (Heap.get?_push_of_some _ x)⟩
/-- the tuple at a, each item in a new pair -/
def Itet (K : PySem.W.Frag) (a : Addr) : It :=
  ⟨fun i H => ∃ (xs : List V) (x : V), SqT K H a xs ∧ xs[i]? = some x, fun i H v H' => ∃ T x, v = .ref T ∧ H T = none ∧ H' = upd H T (.tup [.int (i : Nat), x]) ∧ ∀ xs, SqT K H a xs → xs[i]? = some x, fun i H => ∃ xs : List V, SqT K H a xs ∧ xs.length = i⟩
theorem turn_enumT {P : Program} {w : World} {K : PySem.W.Frag} {elts : List Expr} {kk : Nat} {tpos : Pos} (a e it : Addr) (hai : a ≠ it) (hae : a ≠ e) :
    Turn P w K (.Tuple elts kk tpos) (Itet K a) [e, it] e (fun i h => (∃ old, IsEnum h e it ((i : Nat) : Int) old) ∧ h.IsTupleIter it a i ∧ e ≠ it) where
  mem := by simp
  obj := fun i h st b hb => by
    obtain ⟨⟨old, he⟩, ⟨o, ho, hc, hd⟩, _⟩ := st
    have e' : b = e ∨ b = it := by simpa using hb
    rcases e' with z | z
    · rw [z]; exact ⟨_, he, fun v q => nomatch q⟩
    · rw [z]; exact ⟨o, ho, fun v q => by rw [hd] at q; cases q⟩
  keep := fun i h h' st k => let ⟨⟨old, he⟩, hi, hne⟩ := st; ⟨⟨old, k e (by simp) _ he⟩, hi.at fun o q => k it (by simp) o q, hne⟩
  item := by
    intro X hP hw hK hc i pins s σ H E I hf st hg
    subst hP hw hK
    obtain ⟨⟨old, he⟩, hit, hne⟩ := st
    obtain ⟨xs, x, hq, hx⟩ := hg
    obtain ⟨its, rv, p, hz⟩ := I.tuple hq
    obtain ⟨u, hu, ru⟩ := rv.get hx
    have hel : e < s.heap.objs.size := Heap.lt_size he
    have hil : it < s.heap.objs.size := by obtain ⟨_, q, _⟩ := hit; exact Heap.lt_size q
    have p : s.heap.IsTuple a its.toArray := p
    have hlt : i < its.toArray.size := by
      have := (List.getElem?_eq_some_iff.mp hu).1
      simpa using this
    refine wpAny_pyNext_enum_itemD (n := its.toArray.size) (P := fun i v => its.toArray[i]? = some v) (Draws.tuple (prog := X.prog) (w := X.w) (A := X.A.in1) (I.ok.hd hc) it a hai its.toArray) he ⟨hit, p⟩ hlt hne (by simp only [List.mem_cons, List.not_mem_nil, or_false, not_or]; exact ⟨hne, fun z => hae z.symm⟩) fun x' h' tk hx' ho hit' hT hsz hk => ?_
    have ex : x' = u := by
      have h1 : its[i]? = some x' := by simpa using hx'
      rw [hu] at h1
      exact (Option.some.inj h1).symm
    subst ex
    have hit' := hit'.1
    refine ⟨_, rfl, wpAny_letOwnedTupleGo_enum (s := { s with heap := h', toks := tk + 1 }) ho fun h'' he' sb => ?_⟩
    have hT2 : h''.get? s.heap.objs.size = some { cls := .type "tuple", data := .seq #[.int i tk, x'] } := (sb.2 _ (Nat.ne_of_gt hel)).trans hT
    have new : ObjOk X.prog X.w (upd H s.heap.objs.size (.tup [.int (i : Nat), x])) h'' s.heap.objs.size (.tup [.int (i : Nat), x]) :=
      ⟨by show 2 ≤ sizeLine; decide, [.int i tk, x'], .cons ⟨_, rfl⟩ (.cons ru .nil), ⟨_, hT2, rfl, _, rfl⟩⟩
    have I1 : Inv X pins σ (upd H s.heap.objs.size (.tup [.int (i : Nat), x])) { s with heap := h'', toks := tk + 1 } :=
      I.turnedNew (ch := [e, it]) (fun b ob hb q => (sb.2 b (fun z => hb (by simp [z]))).trans (hk b ob (fun z => hb (by simp [z])) (fun z => hb (by simp [z])) q)) hf (Nat.le_refl _) new
    refine ⟨.ref s.heap.objs.size, _, I1, rfl, ⟨_, x, rfl, I.hok.fresh (Nat.le_refl _), rfl, fun ys hy => by rw [I.tuple_inj hy hq]; exact hx⟩, ⟨⟨x', ?_⟩, hit'.at fun o q => (sb.2 it (Ne.symm hne)).trans q, hne⟩, fun b hb => ?_⟩
    · have e1 : ((i + 1 : Nat) : Int) = (i : Int) + 1 := by omega
      rw [e1]; exact he'
    · have hb' : b < s.heap.objs.size := by
        have e' : b = e ∨ b = it := by simpa using hb
        rcases e' with z | z
        · rw [z]; exact hel
        · rw [z]; exact hil
      rw [upd_ne (Nat.ne_of_lt hb')]
      exact (hf b hb).1
  done := by
    intro X hP hw hK hc i pins s σ H E I hf st hg
    subst hP hw hK
    obtain ⟨⟨old, he⟩, hit, hne⟩ := st
    obtain ⟨xs, hq, hx⟩ := hg
    obtain ⟨its, rv, p, hz⟩ := I.tuple hq
    obtain ⟨f0, f1, f2, f3, f4, f5⟩ := hf it (by simp)
    have hl := rv.length
    have p : s.heap.IsTuple a its.toArray := p
    have hn : its.toArray.size = i := by simp; omega
    exact wpAny_pyNext_enum_endD (n := its.toArray.size) (Draws.tuple (prog := X.prog) (w := X.w) (A := X.A.in1) (I.ok.hd hc) it a hai its.toArray) he (by rw [hn]; exact ⟨hit, p⟩) fun h' eb => ⟨rfl, I.turned (t' := s.toks) (fun b o hb q => eb b o hb q) f0 f1 f3 f4 f5⟩
  self := fun A i s Q E st h => let ⟨⟨_, he⟩, _⟩ := st; wpAny_pyIter_enum he h
def iEnumA (K : PySem.W.Frag) (ta : TA) : TI := fun σ H R => ta σ H fun vs H1 => ∃ a xs, vs = [.ref a] ∧ ((SqL K H1 a xs ∧ R (Ite K a) H1) ∨ (SqT K H1 a xs ∧ R (Itet K a) H1))
theorem pi_enumA {X : Cx} {e : Expr} {ta : TA} {p pos tpos : Pos} {elts : List Expr} {kk : Nat} (hg : Gl X "enumerate") (hm : X.mg "enumerate" = none) (ha : PA X [e] ta) (hs : starEach [e] X.env = [(false, eval e X.env)] := by rfl) :
    PI X (.Tuple elts kk tpos) (.Call (.Name "enumerate" p) [e] [] pos) (iEnumA X.K ta) := by
  refine ⟨fun pins s σ H R I h => ?_⟩
  refine Call_ (ld_blt I hg hm boot_enumerate (PyProof.Rows.callWith_type1 (thn (ha.run pos pins s σ H _ I h) fun us s1 ⟨vs, H1, I1, r1, q1⟩ => ?_) hs rfl))
  obtain ⟨a, xs, ex, q1⟩ := q1
  subst ex
  have fin : ∀ b, b ∈ [s1.heap.objs.size + 1, s1.heap.objs.size] → s1.heap.objs.size ≤ b := fun b hb => by
    have e' : b = s1.heap.objs.size + 1 ∨ b = s1.heap.objs.size := by simpa using hb
    rcases e' with z | z
    · rw [z]; exact Nat.le_add_right _ _
    · rw [z]; exact Nat.le_refl _
  cases r1 with
  | cons r rr =>
    cases rr
    cases r
    rcases q1 with ⟨hq, q⟩ | ⟨hq, q⟩
    · obtain ⟨its, rv, p', hz⟩ := I1.list hq
      refine call_enumerate_list p'.isList fun h' he hit hsz hk => wpAny_pyIter_enum he ?_
      have I2 : Inv X pins σ H1 { s1 with heap := h' } := I1.kept (t' := s1.toks) hk
      exact ⟨s1.heap.objs.size + 1, [s1.heap.objs.size + 1, s1.heap.objs.size], _, _, H1, rfl, I2, turn_enum a (s1.heap.objs.size + 1) s1.heap.objs.size, ⟨⟨.none, he⟩, hit, Nat.succ_ne_self _⟩, fun b hb => I1.fpOk (fin b hb) (I1.hok.fresh (fin b hb)), q⟩
    · obtain ⟨its, rv, p', hz⟩ := I1.tuple hq
      have p' : s1.heap.IsTuple a its.toArray := p'
      have hlt : a < s1.heap.objs.size := by obtain ⟨_, q, _⟩ := p'; exact Heap.lt_size q
      refine enum_begins1 (begins_tuple a its.toArray) p' fun h' he hit hsz hk => wpAny_pyIter_enum he ?_
      have I2 : Inv X pins σ H1 { s1 with heap := h' } := I1.kept (t' := s1.toks) hk
      exact ⟨s1.heap.objs.size + 1, [s1.heap.objs.size + 1, s1.heap.objs.size], _, _, H1, rfl, I2, turn_enumT a (s1.heap.objs.size + 1) s1.heap.objs.size (Nat.ne_of_lt hlt) (Nat.ne_of_lt (Nat.lt_succ_of_lt hlt)), ⟨⟨.none, he⟩, ⟨_, hit, rfl, rfl⟩, Nat.succ_ne_self _⟩, fun b hb => I1.fpOk (fin b hb) (I1.hok.fresh (fin b hb)), q⟩
end FD

/-! FD3: what is walked; for; list comprehensions. -/
namespace FD
open PySem L2
/-- what a loop walks: the items, and what must stay while it is walked -/
structure DIt where
  items : List D
  chk : DG → Prop
abbrev DI := DSt → DG → (DIt → DG → Prop) → Prop
def ItOk (B : Bs) (H0 : Hp) (J : It) (it : DIt) : Prop := ∀ i G H, Wld B G H → Kp B.K H0 H → it.chk G →
  (∀ d, it.items[i]? = some d → J.go i H ∧ ∀ x H', J.yld i H x H' → Wld B G H' ∧ Fm G H G H' ∧ Rp B.K H' d x) ∧ (i = it.items.length → J.stop i H)
def LkI (B : Bs) (wi : TI) (di : DI) : Prop := ∀ ρ σ G H Q R, RpS B.K H ρ σ → Wld B G H → di ρ G Q → (∀ it J G' H', Wld B G' H' → Fm G H G' H' → ItOk B H' J it → Q it G' → R J H') → wi σ H R
structure PDI (X : DCx) (tg iter : Expr) (t : DI) : Prop where
  ex : ∃ wi, PI X tg iter wi ∧ LkI (bs X) wi t
/-- the signs of a text, each a text -/
def signs (z : Str) : List D := z.cps.toList.map fun c => .str ⟨#[c]⟩
def diVal (x : D) (G : DG) (Q : DIt → DG → Prop) : Prop := match x with
  | .tup ds => Q ⟨ds, fun _ => True⟩ G
  | .fl ds => Q ⟨ds, fun _ => True⟩ G
  | .str z => Q ⟨signs z, fun _ => True⟩ G
  | .ref a => ∃ ds, G a = some (.lst ds) ∧ Q ⟨ds, fun G' => G' a = some (.lst ds)⟩ G
  | _ => False
def diAny (t : DE) : DI := fun ρ G Q => t ρ G fun x G1 => diVal x G1 Q
section
variable {X : DCx} {tg iter : Expr} {t : DE} {ta : DA}
def rngD (lo : Int) (n : Nat) : List D := (List.range n).map fun (i : Nat) => .int (lo + (i : Int))
def diRng1 (ta : DA) : DI := fun ρ G Q => ta ρ G fun ds G1 => match ds with
  | [.int j] => (-(2 ^ 62) ≤ j ∧ j < 2 ^ 62) ∧ Q ⟨rngD 0 j.toNat, fun _ => True⟩ G1
  | _ => False
theorem rng_get {lo : Int} {n i : Nat} {d : D} (h : (rngD lo n)[i]? = some d) : i < n ∧ d = .int (lo + (i : Int)) := by
  unfold rngD at h
  rw [List.getElem?_map] at h
  by_cases hi : i < n
  · rw [List.getElem?_range hi] at h
    exact ⟨hi, (Option.some.inj h).symm⟩
  · rw [List.getElem?_eq_none (by rw [List.length_range]; omega)] at h
    cases h
theorem rng_len (lo : Int) (n : Nat) : (rngD lo n).length = n := by unfold rngD; rw [List.length_map, List.length_range]
theorem ok_rng {B : Bs} {H0 : Hp} {lo : Int} {n : Nat} : ItOk B H0 (Itr lo n) ⟨rngD lo n, fun _ => True⟩ := fun i G H w k _ => by
  refine ⟨fun d hd => ?_, fun hi => ?_⟩
  · obtain ⟨h1, rfl⟩ := rng_get hd
    refine ⟨h1, fun x H' y => ?_⟩
    obtain ⟨rfl, rfl⟩ := y
    exact ⟨w, Fm.refl, rp_int.mpr rfl⟩
  · show n ≤ i
    rw [hi]
    exact Nat.le_of_eq (rng_len lo n).symm
theorem pdi_rng1 {a : Expr} {p pos : Pos} (hg : Gl X "range") (hm : X.mg "range" = none) (ha : PDA X [a] ta) (hs : starEach [a] X.env = [(false, eval a X.env)] := by rfl) : PDI X tg (.Call (.Name "range" p) [a] [] pos) (diRng1 ta) := by
  obtain ⟨te, pp, l⟩ := ha
  refine ⟨_, pi_range1 hg hm pp hs, fun ρ σ G H Q R s w q k => ?_⟩
  refine l ρ σ G H _ _ s w q fun ds vs G1 H1 r1 w1 f1 q1 => ?_
  match ds, q1 with
  | [.int j], q1 =>
    obtain ⟨v, rfl, rv⟩ := r1.one
    rw [rp_int.mp rv]
    exact ⟨j, rfl, q1.1.1, q1.1.2, k _ _ G1 H1 w1 f1 ok_rng q1.2⟩
/-- zip of two lists, or of two tuples -/
def zipD (xs ys : List D) : List D := (xs.zip ys).map fun p => .tup [p.1, p.2]
def diZip (ta : DA) : DI := fun ρ G Q => ta ρ G fun ds G1 => match ds with
  | [.tup xs, .tup ys] => Q ⟨zipD xs ys, fun _ => True⟩ G1
  | [.ref a, .ref b] => ∃ xs ys, G1 a = some (.lst xs) ∧ G1 b = some (.lst ys) ∧ Q ⟨zipD xs ys, fun G' => G' a = some (.lst xs) ∧ G' b = some (.lst ys)⟩ G1
  | _ => False
theorem zip_get {xs ys : List D} {i : Nat} {d : D} (h : (zipD xs ys)[i]? = some d) : ∃ x y, xs[i]? = some x ∧ ys[i]? = some y ∧ d = .tup [x, y] := by
  unfold zipD at h
  rw [List.getElem?_map] at h
  cases e : (xs.zip ys)[i]? with
  | none => rw [e] at h; cases h
  | some p =>
    rw [e] at h
    rw [List.getElem?_zip_eq_some] at e
    exact ⟨p.1, p.2, e.1, e.2, (Option.some.inj h).symm⟩
theorem zip_len (xs ys : List D) : (zipD xs ys).length = min xs.length ys.length := by unfold zipD; rw [List.length_map, List.length_zip]
theorem ok_zipL {B : Bs} {H0 : Hp} {a b : Addr} {xs ys : List D} : ItOk B H0 (Itz B.K a b) ⟨zipD xs ys, fun G' => G' a = some (.lst xs) ∧ G' b = some (.lst ys)⟩ := fun i G H w k c => by
  obtain ⟨vs, e1, r1⟩ := w.1 a _ c.1
  obtain ⟨us, e2, r2⟩ := w.1 b _ c.2
  refine ⟨fun d hd => ?_, fun hi => ⟨vs, us, SqL.of e1, SqL.of e2, ?_⟩⟩
  · obtain ⟨x, y, hx, hy, rfl⟩ := zip_get hd
    obtain ⟨v, hv, rv⟩ := r1.get hx
    obtain ⟨u, hu, ru⟩ := r2.get hy
    refine ⟨⟨vs, us, v, u, SqL.of e1, SqL.of e2, hv, hu⟩, fun z H' q => ?_⟩
    obtain ⟨T, x', y', rfl, hT, rfl, q1, q2⟩ := q
    have ex : x' = v := Option.some.inj ((q1 vs (SqL.of e1)).symm.trans hv)
    have ey : y' = u := Option.some.inj ((q2 us (SqL.of e2)).symm.trans hu)
    subst ex ey
    have kn : Kp B.K H (L2.upd H T (.tup [x', y'])) := kp_new hT
    exact ⟨wld_hid w hT, fm_hid hT, rp_tup.mpr ⟨T, _, rfl, SqT.of upd_same, RpL.cons (rv.mono kn) (RpL.cons (ru.mono kn) RpL.nil)⟩⟩
  · rw [zip_len] at hi
    have h1 := r1.length
    have h2 := r2.length
    omega
theorem ok_zipT {B : Bs} {H0 : Hp} {a b : Addr} {xs ys : List D} {vs us : List V} (e1 : SqT B.K H0 a vs) (e2 : SqT B.K H0 b us) (r1 : RpL B.K H0 xs vs) (r2 : RpL B.K H0 ys us) : ItOk B H0 (RZ.ItzT B.K a b) ⟨zipD xs ys, fun _ => True⟩ := fun i G H w k c => by
  have e1 := k.t _ _ e1
  have e2 := k.t _ _ e2
  have r1 := r1.mono k
  have r2 := r2.mono k
  refine ⟨fun d hd => ?_, fun hi => ⟨vs, us, e1, e2, ?_⟩⟩
  · obtain ⟨x, y, hx, hy, rfl⟩ := zip_get hd
    obtain ⟨v, hv, rv⟩ := r1.get hx
    obtain ⟨u, hu, ru⟩ := r2.get hy
    refine ⟨⟨vs, us, v, u, e1, e2, hv, hu⟩, fun z H' q => ?_⟩
    obtain ⟨T, x', y', rfl, hT, rfl, q1, q2⟩ := q
    have ex : x' = v := Option.some.inj ((q1 vs e1).symm.trans hv)
    have ey : y' = u := Option.some.inj ((q2 us e2).symm.trans hu)
    subst ex ey
    have kn : Kp B.K H (L2.upd H T (.tup [x', y'])) := kp_new hT
    exact ⟨wld_hid w hT, fm_hid hT, rp_tup.mpr ⟨T, _, rfl, SqT.of upd_same, RpL.cons (rv.mono kn) (RpL.cons (ru.mono kn) RpL.nil)⟩⟩
  · rw [zip_len] at hi
    have h1 := r1.length
    have h2 := r2.length
    omega
theorem pdi_zip {e e2 : Expr} {p pos tpos : Pos} {elts : List Expr} {kk : Nat} (hg : Gl X "zip") (hm : X.mg "zip" = none) (ha : PDA X [e, e2] ta)
    (hs : starEach [e, e2] X.env = (false, eval e X.env) :: starEach [e2] X.env := by rfl) (hpl : (backTo pos (starEach [e2] X.env)).any (·.1) = false := by rfl) : PDI X (.Tuple elts kk tpos) (.Call (.Name "zip" p) [e, e2] [] pos) (diZip ta) := by
  obtain ⟨te, pp, l⟩ := ha
  refine ⟨_, RZ.pi_zipA hg hm pp hs hpl, fun ρ σ G H Q R s w q k => ?_⟩
  refine l ρ σ G H _ _ s w q fun ds vs G1 H1 r1 w1 f1 q1 => ?_
  match ds, q1 with
  | [.tup xs, .tup ys], q1 =>
    obtain ⟨v, u, rfl, rv, ru⟩ := r1.two
    obtain ⟨a, vs, rfl, ha, rl⟩ := rp_tup.mp rv
    obtain ⟨b, us, rfl, hb, rl2⟩ := rp_tup.mp ru
    exact ⟨a, b, vs, us, rfl, .inr ⟨ha, hb, k _ _ G1 H1 w1 f1 (ok_zipT ha hb rl rl2) q1⟩⟩
  | [.ref a, .ref b], q1 =>
    obtain ⟨v, u, rfl, rv, ru⟩ := r1.two
    obtain ⟨xs, ys, ea, eb, q1⟩ := q1
    rw [rp_ref.mp rv, rp_ref.mp ru]
    obtain ⟨vs, e1, rl⟩ := w1.1 a _ ea
    obtain ⟨us, e2, rl2⟩ := w1.1 b _ eb
    exact ⟨a, b, vs, us, rfl, .inl ⟨SqL.of e1, SqL.of e2, k _ _ G1 H1 w1 f1 ok_zipL q1⟩⟩
/-- enumerate of a list -/
def enumD (n : Nat) : List D → List D
  | [] => []
  | d :: ds => .tup [.int (n : Int), d] :: enumD (n + 1) ds
def diEnum (ta : DA) : DI := fun ρ G Q => ta ρ G fun ds G1 => match ds with
  | [.ref a] => ∃ xs, G1 a = some (.lst xs) ∧ Q ⟨enumD 0 xs, fun G' => G' a = some (.lst xs)⟩ G1
  | [.tup xs] => Q ⟨enumD 0 xs, fun _ => True⟩ G1
  | _ => False
theorem enum_get : ∀ {xs : List D} {n i : Nat} {d : D}, (enumD n xs)[i]? = some d → ∃ x, xs[i]? = some x ∧ d = .tup [.int ((n + i : Nat) : Int), x]
  | [], _, _, _, h => by simp [enumD] at h
  | x :: xs, n, 0, d, h => ⟨x, rfl, (Option.some.inj h).symm⟩
  | x :: xs, n, i + 1, d, h => by
    obtain ⟨y, h1, h2⟩ := enum_get (n := n + 1) (i := i) h
    refine ⟨y, h1, ?_⟩
    rw [h2, show n + 1 + i = n + (i + 1) by omega]
theorem enum_len : ∀ (xs : List D) (n : Nat), (enumD n xs).length = xs.length
  | [], _ => rfl
  | x :: xs, n => by show (enumD (n + 1) xs).length + 1 = xs.length + 1; rw [enum_len xs]
theorem ok_enum {B : Bs} {H0 : Hp} {a : Addr} {xs : List D} : ItOk B H0 (Ite B.K a) ⟨enumD 0 xs, fun G' => G' a = some (.lst xs)⟩ := fun i G H w k c => by
  obtain ⟨vs, e1, r1⟩ := w.1 a _ c
  refine ⟨fun d hd => ?_, fun hi => ⟨vs, SqL.of e1, ?_⟩⟩
  · obtain ⟨x, hx, rfl⟩ := enum_get hd
    obtain ⟨v, hv, rv⟩ := r1.get hx
    refine ⟨⟨vs, v, SqL.of e1, hv⟩, fun z H' q => ?_⟩
    obtain ⟨T, x', rfl, hT, rfl, q1⟩ := q
    have ex : x' = v := Option.some.inj ((q1 vs (SqL.of e1)).symm.trans hv)
    subst ex
    have kn : Kp B.K H (L2.upd H T (.tup [.int (i : Nat), x'])) := kp_new hT
    refine ⟨wld_hid w hT, fm_hid hT, rp_tup.mpr ⟨T, _, rfl, SqT.of upd_same, RpL.cons (rp_int.mpr ?_) (RpL.cons (rv.mono kn) RpL.nil)⟩⟩
    rw [Nat.zero_add]
  · have h1 := r1.length
    have h2 := enum_len xs 0
    have hi : i = (enumD 0 xs).length := hi
    omega
theorem ok_enumT {B : Bs} {H0 : Hp} {a : Addr} {vs : List V} {xs : List D} (q : SqT B.K H0 a vs) (r : RpL B.K H0 xs vs) : ItOk B H0 (Itet B.K a) ⟨enumD 0 xs, fun _ => True⟩ := fun i G H w k c => by
  have q := k.t _ _ q
  have r1 := r.mono k
  refine ⟨fun d hd => ?_, fun hi => ⟨vs, q, ?_⟩⟩
  · obtain ⟨x, hx, rfl⟩ := enum_get hd
    obtain ⟨v, hv, rv⟩ := r1.get hx
    refine ⟨⟨vs, v, q, hv⟩, fun z H' y => ?_⟩
    obtain ⟨T, x', rfl, hT, rfl, q1⟩ := y
    have ex : x' = v := Option.some.inj ((q1 vs q).symm.trans hv)
    subst ex
    have kn : Kp B.K H (L2.upd H T (.tup [.int (i : Nat), x'])) := kp_new hT
    refine ⟨wld_hid w hT, fm_hid hT, rp_tup.mpr ⟨T, _, rfl, SqT.of upd_same, RpL.cons (rp_int.mpr ?_) (RpL.cons (rv.mono kn) RpL.nil)⟩⟩
    rw [Nat.zero_add]
  · have h1 := r1.length
    have h2 := enum_len xs 0
    have hi : i = (enumD 0 xs).length := hi
    omega
theorem pdi_enum {e : Expr} {p pos tpos : Pos} {elts : List Expr} {kk : Nat} (hg : Gl X "enumerate") (hm : X.mg "enumerate" = none) (ha : PDA X [e] ta) (hs : starEach [e] X.env = [(false, eval e X.env)] := by rfl) : PDI X (.Tuple elts kk tpos) (.Call (.Name "enumerate" p) [e] [] pos) (diEnum ta) := by
  obtain ⟨te, pp, l⟩ := ha
  refine ⟨_, pi_enumA hg hm pp hs, fun ρ σ G H Q R s w q k => ?_⟩
  refine l ρ σ G H _ _ s w q fun ds vs G1 H1 r1 w1 f1 q1 => ?_
  match ds, q1 with
  | [.ref a], q1 =>
    obtain ⟨v, rfl, rv⟩ := r1.one
    obtain ⟨xs, ea, q1⟩ := q1
    rw [rp_ref.mp rv]
    obtain ⟨vs, e1, rl⟩ := w1.1 a _ ea
    exact ⟨a, vs, rfl, .inl ⟨SqL.of e1, k _ _ G1 H1 w1 f1 ok_enum q1⟩⟩
  | [.tup xs], q1 =>
    obtain ⟨v, rfl, rv⟩ := r1.one
    obtain ⟨a, vs, rfl, ha, rl⟩ := rp_tup.mp rv
    exact ⟨a, vs, rfl, .inr ⟨ha, k _ _ G1 H1 w1 f1 (ok_enumT ha rl) q1⟩⟩
end
/-! ### for -/
def forGo (chk : DG → Prop) (g : DGt) (b : DS) (E : DEnds) : List D → DSt → DG → Prop
  | [], ρ, G => chk G ∧ E.nx ρ G
  | d :: ds, ρ, G => chk G ∧ g d ρ G fun ρ' G' => b { E with nx := forGo chk g b E ds, ct := forGo chk g b E ds, bk := E.nx } ρ' G'
def dFor (di : DI) (g : DGt) (b : DS) : DS := fun E ρ G => di ρ G fun it G1 => forGo it.chk g b E it.items ρ G1
theorem drop_get {α : Type} {l : List α} {i : Nat} {x : α} {r : List α} (h : l.drop i = x :: r) : l[i]? = some x ∧ l.drop (i + 1) = r := by
  have e : (l.drop i)[0]? = some x := by rw [h]; rfl
  rw [List.getElem?_drop, Nat.add_zero] at e
  refine ⟨e, ?_⟩
  rw [← List.drop_drop, h]
  rfl
theorem drop_nil {α : Type} {l : List α} {i : Nat} (h : l.drop i = []) (hi : i ≤ l.length) : i = l.length := by
  have e := congrArg List.length h
  rw [List.length_drop] at e
  have e2 : l.length - i = 0 := e
  omega
theorem pds_for {X : DCx} {pos : Pos} {tg iter : Expr} {body : List Stmt} {di : DI} {g : DGt} {b : DS} (hp : PassesOwn (model X.prog X.w) X.A X.env X.xe) (hc : X.calm = true) (hi : PDI X tg iter di) (hg : PDG X tg g) (hb : PDSs X body b)
    (hs : ∀ x, foldedSetIterable iter X.env x = pure x := by intro _; rfl) : PDS X (.For tg iter body [] pos) (dFor di g b) := by
  obtain ⟨wi, pi, li⟩ := hi
  obtain ⟨gg, pg, lg⟩ := hg
  obtain ⟨tb, pb, lb⟩ := hb
  refine ⟨_, ps_for hp hc pi pg pb hs, fun ρ σ G H E F s w h k => ?_⟩
  refine li ρ σ G H _ _ s w h fun it J G1 H1 w1 f1 ok q1 => ?_
  have kp1 := f1.kp w
  refine ⟨fun i m σ' H' => ∃ ρ' G', m = it.items.length - i ∧ i ≤ it.items.length ∧ RpS X.K H' ρ' σ' ∧ Wld (bs X) G' H' ∧ Fm G1 H1 G' H' ∧ forGo it.chk g b E (it.items.drop i) ρ' G', ⟨_, ρ, G1, rfl, Nat.zero_le _, s.mono kp1, w1, Fm.refl, q1⟩, ?_⟩
  rintro i m σ' H' ⟨ρ', G', rfl, hi, s', w', f', q⟩
  have k' := k.aft (f1.trans f')
  cases e : it.items.drop i with
  | nil =>
    rw [e] at q
    obtain ⟨c, q⟩ := q
    exact .inl ⟨(ok i G' H' w' (f'.kp w1) c).2 (drop_nil e hi), k'.nx ρ' σ' G' H' s' w' Fm.refl q⟩
  | cons d ds =>
    rw [e] at q
    obtain ⟨c, q⟩ := q
    obtain ⟨e1, e2⟩ := drop_get e
    obtain ⟨go, yl⟩ := (ok i G' H' w' (f'.kp w1) c).1 d e1
    have hlt : i < it.items.length := (List.getElem?_eq_some_iff.mp e1).1
    refine .inr ⟨go, fun σ2 H2 => ∃ ρ2 G2, RpS X.K H2 ρ2 σ2 ∧ Wld (bs X) G2 H2 ∧ Fm G1 H1 G2 H2 ∧ forGo it.chk g b E ds ρ2 G2, fun σ2 H2 q2 => ?_, fun x H2 hy => ?_⟩
    · obtain ⟨ρ2, G2, s2, w2, f2, q2⟩ := q2
      exact ⟨it.items.length - (i + 1), by omega, ρ2, G2, rfl, hlt, s2, w2, f2, by rw [e2]; exact q2⟩
    · obtain ⟨w2, f2, r2⟩ := yl x H2 hy
      refine lg d x ρ' σ' G' H2 _ _ r2 (s'.mono (f2.kp w')) w2 q fun ρ3 σ3 G3 H3 s3 w3 f3 q3 => ?_
      have nx : KtS (bs X) G3 H3 (forGo it.chk g b E ds) fun σ2 H2 => ∃ ρ2 G2, RpS X.K H2 ρ2 σ2 ∧ Wld (bs X) G2 H2 ∧ Fm G1 H1 G2 H2 ∧ forGo it.chk g b E ds ρ2 G2 := fun ρ4 σ4 G4 H4 s4 w4 f4 q4 => ⟨ρ4, G4, s4, w4, f'.trans (f2.trans (f3.trans f4)), q4⟩
      have k3 := k'.aft (f2.trans f3)
      exact lb ρ3 σ3 G3 H3 _ _ s3 w3 q3 ⟨nx, k3.rt, k3.nx, nx⟩
/-! ### list comprehensions -/
structure PDTs (X : DCx) (ifs : List Expr) (t : DT) : Prop where
  ex : ∃ te, PTs X ifs te ∧ LkT (bs X) te t
def dYes : DT := fun _ G Q => Q true G
theorem pdts_nil {X : DCx} : PDTs X [] dYes := ⟨tYes, pts_nil, fun ρ σ G H Q R s w h k => k true G H w Fm.refl h⟩
theorem pdts_one {X : DCx} {c : Expr} {t : DT} (h : PDT X c t) : PDTs X [c] t := let ⟨te, p, l⟩ := h.ex; ⟨te, pts_one p, l⟩
/-- a target of a comprehension: it stores only the comprehension's own names -/
def LkC (B : Bs) (vs : List Nat) (g : TG) (dg : DGt) : Prop := ∀ d v ρ σ G H Q R, Rp B.K H d v → RpS B.K H ρ σ → Wld B G H → dg d ρ G Q → (∀ ρ' σ' G' H', L2.wipe σ' vs = L2.wipe σ vs → RpS B.K H' ρ' σ' → Wld B G' H' → Fm G H G' H' → Q ρ' G' → R σ' H') → g v σ H R
theorem wipe_set {σ : St} {i : Nat} {x : Option V} : ∀ {vs : List Nat}, i ∈ vs → L2.wipe (σ.set i x) vs = L2.wipe σ vs
  | v :: vs, h => by
    show (L2.wipe (σ.set i x) vs).set v none = (L2.wipe σ vs).set v none
    by_cases hv : i ∈ vs
    · rw [wipe_set hv]
    · have e : i = v := by
        rcases List.mem_cons.mp h with e | e
        · exact e
        · exact absurd e hv
      subst e
      refine List.ext_getElem? fun j => ?_
      by_cases hj : i = j
      · subst hj
        by_cases hl : i < σ.length
        · rw [List.getElem?_set_self (by rw [L2.wipe_length, List.length_set]; exact hl), List.getElem?_set_self (by rw [L2.wipe_length]; exact hl)]
        · rw [List.getElem?_eq_none (by rw [List.length_set, L2.wipe_length, List.length_set]; omega), List.getElem?_eq_none (by rw [List.length_set, L2.wipe_length]; omega)]
      · rw [List.getElem?_set_ne hj, List.getElem?_set_ne hj]
        by_cases hw : j ∈ vs
        · have q : ∀ (τ : St) (us : List Nat), j ∈ us → (L2.wipe τ us)[j]? = if j < τ.length then some none else none := fun τ us => by
            induction us with
            | nil => intro h; cases h
            | cons u us ih =>
              intro h
              show ((L2.wipe τ us).set u none)[j]? = _
              by_cases huj : u = j
              · subst huj
                by_cases hl : u < τ.length
                · rw [List.getElem?_set_self (by rw [L2.wipe_length]; exact hl), if_pos hl]
                · rw [List.getElem?_eq_none (by rw [List.length_set, L2.wipe_length]; omega), if_neg hl]
              · rw [List.getElem?_set_ne huj]
                rcases List.mem_cons.mp h with e | e
                · exact absurd e.symm huj
                · exact ih e
          rw [q _ _ hw, q _ _ hw, List.length_set]
        · rw [L2.wipe_out hw, L2.wipe_out hw, List.getElem?_set_ne hj]
theorem lkc_name {B : Bs} {vs : List Nat} {i : Nat} (h : i ∈ vs) : LkC B vs (gName i) (gnD i) := fun d v ρ σ G H Q R r s w q k => k _ _ G H (wipe_set h) (s.set (d := some d) (v := some v) r i) w Fm.refl q
structure PDC (X : DCx) (vs : List Nat) (tg : Expr) (t : DGt) : Prop where
  ex : ∃ g, PG X tg g ∧ LkC (bs X) vs g t
structure PDCs (X : DCx) (vs : List Nat) (ts : List Expr) (t : DGts) : Prop where
  ex : ∃ g : TGs, PGs X ts g ∧ ∀ ds us ρ σ G H Q R, RpL X.K H ds us → RpS X.K H ρ σ → Wld (bs X) G H → t ds ρ G Q → (∀ ρ' σ' G' H', L2.wipe σ' vs = L2.wipe σ vs → RpS X.K H' ρ' σ' → Wld (bs X) G' H' → Fm G H G' H' → Q ρ' G' → R σ' H') → g us σ H R
section
variable {X : DCx} {pos : Pos} {vs : List Nat} {e : Expr} {es : List Expr} {g : DGt} {gs : DGts}
theorem pdc_name (i : Nat) {x : Str} (hN : X.N.Nodup) (hm : i ∈ vs := by decide) (hi : X.N[i]? = some x := by rfl) (hx : Loc X.env.scope x := by first | exact Or.inl rfl | exact Or.inr rfl) (hf : X.fn x = true ∨ X.env.scope.names.lookup x = some .local := by first | exact .inl rfl | exact .inr rfl | assumption) : PDC X vs (.Name x pos) (gnD i) :=
  ⟨gName i, pg_name hN hi hx hf, lkc_name hm⟩
theorem pdcs_nil : PDCs X vs [] gtNil := ⟨gNil, pgs_nil, fun ds us ρ σ G H Q R r s w h k => by
  cases ds with
  | nil => exact ⟨rpl_nil.mp r, k ρ σ G H rfl s w Fm.refl h⟩
  | cons d ds => exact h.elim⟩
theorem pdcs_cons (h1 : PDC X vs e g) (h2 : PDCs X vs es gs) (he : (assignEach (e :: es) X.env).map (·.2) = assign e X.env :: (assignEach es X.env).map (·.2) := by rfl) : PDCs X vs (e :: es) (gtCons g gs) := by
  obtain ⟨x, p, l⟩ := h1
  obtain ⟨x2, p2, l2⟩ := h2
  refine ⟨_, pgs_cons p p2 he, fun ds us ρ σ G H Q R r s w h k => ?_⟩
  cases ds with
  | nil => exact h.elim
  | cons d ds =>
    obtain ⟨y, ys, rfl, r1, r2⟩ := rpl_cons.mp r
    refine ⟨y, ys, rfl, l d y ρ σ G H _ _ r1 s w h fun ρ' σ' G' H' e' s' w' f' q => ?_⟩
    exact l2 ds ys ρ' σ' G' H' Q R (r2.mono (f'.kp w)) s' w' q fun ρ2 σ2 G2 H2 e2 s2 w2 f2 q2 => k ρ2 σ2 G2 H2 (e2.trans e') s2 w2 (f'.trans f2) q2
theorem pdc_tup {k1 : Nat} {n : Nat} (hc : X.calm = true) (h : PDCs X vs es gs) (hn : (assignEach es X.env).length = n := by rfl) (hst : (assignEach es X.env).findIdx? (·.1) = none := by rfl) : PDC X vs (.Tuple es k1 pos) (gtD n gs) := by
  obtain ⟨x, p, l⟩ := h
  refine ⟨_, pg_tup (n := n) hc p hn hst, fun d v ρ σ G H Q R r s w h k => ?_⟩
  cases d with
  | tup ds =>
    obtain ⟨a, xs, rfl, q, rl⟩ := rp_tup.mp r
    exact ⟨a, xs, rfl, q, by rw [← rl.length]; exact h.1, l ds xs ρ σ G H Q R rl s w h.2 k⟩
  | _ => exact h.elim
end
def lcGo (chk : DG → Prop) (g : DGt) (tt : DT) (te : DE) (ρ : DSt) (fin : List D → DG → Prop) : List D → List D → DG → Prop
  | [], acc, G => chk G ∧ fin acc G
  | d :: ds, acc, G => chk G ∧ g d ρ G fun ρ2 G2 => tt ρ2 G2 fun b G3 => if b = true then te ρ2 G3 fun y G4 => acc.length < sizeLine ∧ lcGo chk g tt te ρ fin ds (acc ++ [y]) G4 else lcGo chk g tt te ρ fin ds acc G3
def dLc (di : DI) (g : DGt) (tt : DT) (te : DE) (vs : List Nat) : DE := fun ρ G Q => di ρ G fun it G1 => lcGo it.chk g tt te (wipeD ρ vs) (fun acc G' => ∀ p, G' p = none → Q (.ref p) (G'.upd p (.lst acc))) it.items [] G1
theorem wipe_wipe (σ : St) (vs : List Nat) : L2.wipe (L2.wipe σ vs) vs = L2.wipe σ vs := by
  have q : ∀ us : List Nat, (∀ u ∈ us, u ∈ vs) → L2.wipe (L2.wipe σ us) vs = L2.wipe σ vs := fun us => by
    induction us with
    | nil => intro _; rfl
    | cons u us ih =>
      intro h
      show L2.wipe ((L2.wipe σ us).set u none) vs = _
      rw [wipe_set (h u List.mem_cons_self)]
      exact ih fun x hx => h x (List.mem_cons_of_mem _ hx)
  exact q vs fun _ h => h
theorem lk_lc {B : Bs} {wi : TI} {di : DI} {g : TG} {dg : DGt} {tt : TT} {dt : DT} {te : TE} {de : DE} {vs : List Nat} (hi : LkI B wi di) (hg : LkC B vs g dg) (ht : LkT B tt dt) (he : LkE B te de) : LkE B (tLc wi g tt te vs) (dLc di dg dt de vs) := fun ρ σ G H Q R s w h k => by
  refine hi ρ σ G H _ _ s w h fun it J G1 H1 w1 f1 ok q1 => fun Dl hD => ?_
  have kp1 := f1.kp w
  have s1 := (s.mono kp1).wipe vs
  have hG1 : G1 Dl = none := w1.none hD
  refine ⟨fun i m H' => ∃ acc xs G', m = it.items.length - i ∧ i ≤ it.items.length ∧ H' Dl = some (.lst xs) ∧ RpL B.K H' acc xs ∧ G' Dl = none ∧ Wld B G' H' ∧ Fm G1 H1 G' H' ∧ lcGo it.chk dg dt de (wipeD ρ vs) (fun acc G' => ∀ p, G' p = none → Q (.ref p) (G'.upd p (.lst acc))) (it.items.drop i) acc G',
    ⟨_, [], [], G1, rfl, Nat.zero_le _, upd_same, RpL.nil, hG1, wld_hid w1 hD, fm_hid hD, q1⟩, ?_⟩
  rintro i m H' ⟨acc, xs, G', rfl, hi, hx, rx, hn, w', f', q⟩
  have kp' : Kp B.K H1 H' := f'.kp w1
  cases e : it.items.drop i with
  | nil =>
    rw [e] at q
    obtain ⟨c, q⟩ := q
    refine .inl ⟨(ok i G' H' w' kp' c).2 (drop_nil e hi), ?_⟩
    have f9 : Fm G1 H1 (G'.upd Dl (.lst acc)) H' := fun a o ha na => by
      have hd := ne_of_none ha hD
      rw [gupd_ne hd]
      exact f' a o ha na
    have w9 : Wld0 B (G'.upd Dl (.lst acc)) H' := fun a o ha => by
      by_cases hd : a = Dl
      · subst hd
        rw [gupd_same] at ha; cases ha
        exact ⟨xs, hx, rx⟩
      · rw [gupd_ne hd] at ha
        exact w'.1 a o ha
    exact k _ _ (G'.upd Dl (.lst acc)) H' (rp_ref.mpr rfl) (w1.to f9 w9) (f1.trans f9) (q Dl hn)
  | cons d ds =>
    rw [e] at q
    obtain ⟨c, q⟩ := q
    obtain ⟨e1, e2⟩ := drop_get e
    obtain ⟨go, yl⟩ := (ok i G' H' w' kp' c).1 d e1
    have hlt : i < it.items.length := (List.getElem?_eq_some_iff.mp e1).1
    refine .inr ⟨go, fun H2 => ∃ acc xs G2, H2 Dl = some (.lst xs) ∧ RpL B.K H2 acc xs ∧ G2 Dl = none ∧ Wld B G2 H2 ∧ Fm G1 H1 G2 H2 ∧ lcGo it.chk dg dt de (wipeD ρ vs) (fun acc G' => ∀ p, G' p = none → Q (.ref p) (G'.upd p (.lst acc))) ds acc G2, fun H2 q2 => ?_, fun x H2 hy => ?_⟩
    · obtain ⟨acc2, xs2, G2, a1, a2, a3, a4, a5, a6⟩ := q2
      exact ⟨it.items.length - (i + 1), by omega, acc2, xs2, G2, rfl, hlt, a1, a2, a3, a4, a5, by rw [e2]; exact a6⟩
    · obtain ⟨w2, f2, r2⟩ := yl x H2 hy
      have kp2 : Kp B.K H1 H2 := kp'.trans (f2.kp w')
      refine hg d x (wipeD ρ vs) (L2.wipe σ vs) G' H2 _ _ r2 (s1.mono kp2) w2 q fun ρ3 σ3 G3 H3 e3 s3 w3 f3 q3 => ⟨e3.trans (wipe_wipe σ vs), ?_⟩
      refine ht ρ3 σ3 G3 H3 _ _ s3 w3 q3 fun b G4 H4 w4 f4 q4 => ?_
      have f04 : Fm G' H' G4 H4 := f2.trans (f3.trans f4)
      cases b with
      | false =>
        obtain ⟨hx4, hn4⟩ := f04 Dl _ hx hn
        exact ⟨acc, xs, G4, hx4, rx.mono (f04.kp w'), hn4, w4, f'.trans f04, q4⟩
      | true =>
        refine he ρ3 σ3 G4 H4 _ _ (s3.mono (f4.kp w3)) w4 q4 fun y v G5 H5 r5 w5 f5 q5 => ?_
        have f05 : Fm G' H' G5 H5 := f04.trans f5
        obtain ⟨hx5, hn5⟩ := f05 Dl _ hx hn
        have kpn : Kp B.K H5 (L2.upd H5 Dl (.lst (xs ++ [v]))) := by
          refine ⟨fun a ys z => ?_, fun a ys z => ?_, fun a fs z => by rw [upd_ne (ne_of z hx5 (fun q => nomatch q))]; exact z⟩
          · rcases z with (z | ⟨ob, z⟩) | z
            · exact .inl (.inl (by rw [upd_ne (ne_of z hx5 (by intro z; cases z))]; exact z))
            · exact .inl (.inr ⟨ob, by rw [upd_ne (ne_of z hx5 (by intro z; cases z))]; exact z⟩)
            · exact .inr z
          · rcases z with ⟨ob, z⟩ | z
            · exact .inl ⟨ob, by rw [upd_ne (ne_of z hx5 (by intro z; cases z))]; exact z⟩
            · exact .inr z
        have f9 : Fm G1 H1 G5 (L2.upd H5 Dl (.lst (xs ++ [v]))) := fun a o ha na => by
          have hd := ne_of_none ha hD
          rw [upd_ne hd]
          exact (f'.trans f05) a o ha na
        have w9 : Wld0 B G5 (L2.upd H5 Dl (.lst (xs ++ [v]))) := fun a o ha => by
          have hd : a ≠ Dl := fun z => by rw [z, hn5] at ha; cases ha
          exact (w5.1 a o ha).mono kpn fun u z => by rw [upd_ne hd]; exact z
        refine ⟨xs, hx5, by rw [← rx.length]; exact q5.1, acc ++ [y], xs ++ [v], G5, upd_same, (RpL.snoc (rx.mono (f05.kp w')) r5).mono kpn, hn5, w1.to f9 w9, f9, q5.2⟩
abbrev DCx.blk (X : DCx) (s : Shared) (H : Hp) (scope : Scope) (env : Env) (fp : List Addr) : DCx := { X with toCx := X.toCx.blk s H scope env fp }
/-! the canonical readings below -/
def lowE (B : Bs) (t : DE) : TE := fun σ H R => ∃ ρ G Q, RpS B.K H ρ σ ∧ Wld B G H ∧ t ρ G Q ∧ Kt B G H Q R
def lowT (B : Bs) (t : DT) : TT := fun σ H R => ∃ ρ G Q, RpS B.K H ρ σ ∧ Wld B G H ∧ t ρ G Q ∧ KtT B G H Q R
def lowC (B : Bs) (vs : List Nat) (t : DGt) : TG := fun v σ H R => ∃ d ρ G Q, Rp B.K H d v ∧ RpS B.K H ρ σ ∧ Wld B G H ∧ t d ρ G Q ∧ (∀ ρ' σ' G' H', L2.wipe σ' vs = L2.wipe σ vs → RpS B.K H' ρ' σ' → Wld B G' H' → Fm G H G' H' → Q ρ' G' → R σ' H')
theorem lowE_lk {B : Bs} {t : DE} : LkE B (lowE B t) t := fun ρ σ G H Q R s w h k => ⟨ρ, G, Q, s, w, h, k⟩
theorem lowT_lk {B : Bs} {t : DT} : LkT B (lowT B t) t := fun ρ σ G H Q R s w h k => ⟨ρ, G, Q, s, w, h, k⟩
theorem lowC_lk {B : Bs} {vs : List Nat} {t : DGt} : LkC B vs (lowC B vs t) t := fun d v ρ σ G H Q R r s w h k => ⟨d, ρ, G, Q, r, s, w, h, k⟩
theorem PD.low {X : DCx} {e : Expr} {t : DE} (h : PD X e t) : PE X e (lowE (bs X) t) := by
  obtain ⟨te, p, l⟩ := h
  exact ⟨fun pins s σ H Q I ⟨ρ, G, Q', a, b, c, d⟩ => p.run pins s σ H Q I (l ρ σ G H Q' Q a b c d)⟩
theorem PDTs.low {X : DCx} {e : List Expr} {t : DT} (h : PDTs X e t) : PTs X e (lowT (bs X) t) := by
  obtain ⟨te, p, l⟩ := h
  exact ⟨fun pins s σ H Q I ⟨ρ, G, Q', a, b, c, d⟩ => p.run pins s σ H Q I (l ρ σ G H Q' Q a b c d)⟩
theorem PDC.low {X : DCx} {vs : List Nat} {e : Expr} {t : DGt} (h : PDC X vs e t) : PG X e (lowC (bs X) vs t) := by
  obtain ⟨te, p, l⟩ := h
  exact ⟨fun pins s σ H v u Q I r ⟨d', ρ, G, Q', r', a, b, c, d⟩ => p.run pins s σ H v u Q I r (l d' v ρ σ G H Q' Q r' a b c d)⟩
section
variable {X : DCx} {elt tg iter : Expr} {ifs : List Expr} {scope : Scope} {own : List (Str × Nat)} {pos : Pos} {di : DI} {g : DGt} {tt : DT} {te : DE}
theorem pd_lc (hc : X.calm = true) (hN : X.N.Nodup) (hi : PDI X tg iter di) (ok : BlkOk X.N X.env.scope scope own)
    (hg : ∀ (s : Shared) (H : Hp) (C : Addr) (cl : List (Str × Addr)) (fp : List Addr), PDC (X.blk s H scope (compEnvC scope cl C X.env) fp) (own.map (·.2)) tg g)
    (ht : ∀ (s : Shared) (H : Hp) (C : Addr) (cl : List (Str × Addr)) (fp : List Addr), PDTs (X.blk s H scope (compEnvC scope cl C X.env) fp) ifs tt)
    (he : ∀ (s : Shared) (H : Hp) (C : Addr) (cl : List (Str × Addr)) (fp : List Addr), PD (X.blk s H scope (compEnvC scope cl C X.env) fp) elt te)
    (hs : ∀ x, foldedSetIterable iter X.env x = pure x := by intro _; rfl) :
    PD X (.ListComp elt [⟨tg, iter, ifs, 0⟩] scope pos) (dLc di g tt te (own.map (·.2))) := by
  obtain ⟨wi, pi, li⟩ := hi
  exact ⟨_, pe_lc (g := lowC (bs X) (own.map (·.2)) g) (tt := lowT (bs X) tt) (te := lowE (bs X) te) hc hN pi ok (fun s H C cl fp => (hg s H C cl fp).low) (fun s H C cl fp => (ht s H C cl fp).low) (fun s H C cl fp => (he s H C cl fp).low) hs, lk_lc li lowC_lk lowT_lk lowE_lk⟩
end
end FD

/-! FD4: operators, comparisons, subscripts, slices, built-ins, methods of lists, calls of defs. -/
namespace FD
open PySem L2
/-! ### arithmetic, + -/
def addD : R2D := fun x y G Q => match x, y with
  | .int i, .int j => Q (.int (i + j)) G
  | .str s, .str t => s.length + t.length ≤ sizeLine ∧ Q (.str (s ++ t)) G
  | .tup xs, .tup ys => xs.length + ys.length ≤ sizeLine ∧ Q (.tup (xs ++ ys)) G
  | .ref a, .ref b => ∃ xs ys, G a = some (.lst xs) ∧ G b = some (.lst ys) ∧ xs.length + ys.length ≤ sizeLine ∧ ∀ p, G p = none → Q (.ref p) (G.upd p (.lst (xs ++ ys)))
  | _, _ => False
def rAddA (K : PySem.W.Frag) : R2 := fun x y H Q => (rI0 fun i j => .int (i + j)) x y H Q ∨ (∃ i j, x = .str i ∧ y = .str j ∧ i.length + j.length ≤ sizeLine ∧ Q (.str (i ++ j)) H) ∨ rCatA K x y H Q ∨ rCat x y H Q
theorem op_addA {X : DCx} : OpR X (binaryOp .Add) (rAddA X.K) := op_add.or (op_add_str.or (op_catA.or op_cat))
theorem rp_new_tup {B : Bs} {H : Hp} {p : Addr} {ds : List D} {xs : List V} (h : H p = none) (r : RpL B.K H ds xs) : Rp B.K (L2.upd H p (.tup xs)) (.tup ds) (.ref p) := rp_tup.mpr ⟨p, xs, rfl, SqT.of upd_same, r.mono (kp_new h)⟩
theorem lk_add {B : Bs} : LkR B (rAddA B.K) addD := fun x y v u G H Q R rx ry w h k => by
  cases x <;> cases y <;> try exact h.elim
  · rename_i i j
    rw [rp_int.mp rx, rp_int.mp ry]
    exact .inl ⟨i, j, rfl, rfl, k _ _ G H (rp_int.mpr rfl) w Fm.refl h⟩
  · rename_i i j
    rw [rp_str.mp rx, rp_str.mp ry]
    exact .inr (.inl ⟨i, j, rfl, rfl, h.1, k _ _ G H (rp_str.mpr rfl) w Fm.refl h.2⟩)
  · rename_i xs ys
    obtain ⟨a, vs, rfl, ha, ra⟩ := rp_tup.mp rx
    obtain ⟨b, us, rfl, hb, rb⟩ := rp_tup.mp ry
    refine .inr (.inr (.inl ⟨a, b, vs, us, rfl, rfl, ha, hb, by rw [← ra.length, ← rb.length]; exact h.1, fun e => ?_, fun _ e => ?_, fun _ _ p hp => ?_⟩))
    · subst e
      have e2 : xs = [] := List.length_eq_zero_iff.mp (ra.length)
      subst e2
      exact k _ _ G H ry w Fm.refl h.2
    · subst e
      have e2 : ys = [] := List.length_eq_zero_iff.mp (rb.length)
      subst e2
      refine k _ _ G H rx w Fm.refl ?_
      have h2 := h.2
      rw [List.append_nil] at h2
      exact h2
    · exact k _ _ G _ (rp_new_tup hp (ra.append rb)) (wld_hid w hp) (fm_hid hp) h.2
  · rename_i a b
    obtain ⟨xs, ys, ea, eb, hz, q⟩ := h
    rw [rp_ref.mp rx, rp_ref.mp ry]
    obtain ⟨vs, e1, r1⟩ := w.1 a _ ea
    obtain ⟨us, e2, r2⟩ := w.1 b _ eb
    refine .inr (.inr (.inr ⟨a, b, vs, us, rfl, rfl, e1, e2, by rw [← r1.length, ← r2.length]; exact hz, fun p hp => ?_⟩))
    exact k _ _ _ _ (rp_ref.mpr rfl) (wld_new (d := .lst (xs ++ ys)) w hp ⟨_, upd_same, (r1.append r2).mono (kp_new hp)⟩) (fm_new hp) (q p (w.none hp))
def intD (C : Int → Int → Prop) (f : Int → Int → Int) : R2D := fun x y G Q => match x, y with
  | .int i, .int j => C i j ∧ Q (.int (f i j)) G
  | _, _ => False
theorem lk_int {B : Bs} {C : Int → Int → Prop} {f : Int → Int → Int} : LkR B (rI C fun i j => .int (f i j)) (intD C f) := fun x y v u G H Q R rx ry w h k => by
  cases x <;> cases y <;> try exact h.elim
  rename_i i j
  rw [rp_int.mp rx, rp_int.mp ry]
  exact ⟨i, j, rfl, rfl, h.1, k _ _ G H (rp_int.mpr rfl) w Fm.refl h.2⟩
def int0D (f : Int → Int → Int) : R2D := fun x y G Q => match x, y with
  | .int i, .int j => Q (.int (f i j)) G
  | _, _ => False
theorem lk_int0 {B : Bs} {f : Int → Int → Int} : LkR B (rI0 fun i j => .int (f i j)) (int0D f) := fun x y v u G H Q R rx ry w h k => by
  cases x <;> cases y <;> try exact h.elim
  rename_i i j
  rw [rp_int.mp rx, rp_int.mp ry]
  exact ⟨i, j, rfl, rfl, k _ _ G H (rp_int.mpr rfl) w Fm.refl h⟩
abbrev subD : R2D := int0D fun i j => i - j
abbrev modD : R2D := intD (fun _ j => 0 < j) fun i j => i % j
abbrev fdivD : R2D := intD CDiv fun i j => i / j
abbrev powD : R2D := intD CPow fun i j => i ^ j.toNat
/-! ### times -/
def mulD : R2D := fun x y G Q => match x, y with
  | .int i, .int j => CMul i j ∧ Q (.int (i * j)) G
  | .str s, .int n => MulOk s n ∧ Q (.str (Txt.mul s n)) G
  | .ref a, .int n => ∃ xs, G a = some (.lst xs) ∧ (-(2 ^ 63) ≤ n ∧ n < 2 ^ 63 ∧ xs.length * n.toNat ≤ sizeLine) ∧ ∀ p, G p = none → Q (.ref p) (G.upd p (.lst (List.replicate n.toNat xs).flatten))
  | _, _ => False
theorem op_mul_str {X : DCx} : OpR X (binaryOp .Mult) (fun x y H Q => ∃ s n, x = .str s ∧ y = .int n ∧ MulOk s n ∧ Q (.str (Txt.mul s n)) H) := by
  intro pins s σ H x y v u Q I rx ry h
  obtain ⟨z, n, rfl, rfl, ok, q⟩ := h
  obtain ⟨t, rfl⟩ := rx
  obtain ⟨t', rfl⟩ := ry
  exact SB.mul ok fun t' k => ⟨.str _, H, I.tok _, ⟨_, rfl⟩, q⟩
def rMulA : R2 := fun x y H Q => (rI CMul fun i j => .int (i * j)) x y H Q ∨ (∃ s n, x = .str s ∧ y = .int n ∧ MulOk s n ∧ Q (.str (Txt.mul s n)) H) ∨ rRep x y H Q
theorem op_mulA {X : DCx} : OpR X (binaryOp .Mult) rMulA := op_mul.or (op_mul_str.or op_rep)
theorem lk_mul {B : Bs} : LkR B rMulA mulD := fun x y v u G H Q R rx ry w h k => by
  cases x <;> cases y <;> try exact h.elim
  · rename_i i j
    rw [rp_int.mp rx, rp_int.mp ry]
    exact .inl ⟨i, j, rfl, rfl, h.1, k _ _ G H (rp_int.mpr rfl) w Fm.refl h.2⟩
  · rename_i s n
    rw [rp_str.mp rx, rp_int.mp ry]
    exact .inr (.inl ⟨s, n, rfl, rfl, h.1, k _ _ G H (rp_str.mpr rfl) w Fm.refl h.2⟩)
  · rename_i a n
    obtain ⟨xs, ea, hz, q⟩ := h
    rw [rp_ref.mp rx, rp_int.mp ry]
    obtain ⟨vs, e1, r1⟩ := w.1 a _ ea
    refine .inr (.inr ⟨a, n, vs, rfl, rfl, e1, hz.1, hz.2.1, by rw [← r1.length]; exact hz.2.2, fun p hp => ?_⟩)
    exact k _ _ _ _ (rp_ref.mpr rfl) (wld_new (d := .lst (List.replicate n.toNat xs).flatten) w hp ⟨_, upd_same, (r1.rep n.toNat).mono (kp_new hp)⟩) (fm_new hp) (q p (w.none hp))
/-! ### order -/
def ordD (f : Int → Int → Bool) (g : List Nat → List Nat → Bool) : R2D := fun x y G Q => match x, y with
  | .int i, .int j => Q (.bl (f i j)) G
  | .str s, .str t => Q (.bl (g s.cps.toList t.cps.toList)) G
  | _, _ => False
def rOrd (f : Int → Int → Bool) (g : List Nat → List Nat → Bool) : R2 := fun x y H Q => (rI0 fun i j => .bl (f i j)) x y H Q ∨ (∃ i j, x = .str i ∧ y = .str j ∧ Q (.bl (g i.cps.toList j.cps.toList)) H)
theorem lk_ord {B : Bs} {f : Int → Int → Bool} {g : List Nat → List Nat → Bool} : LkR B (rOrd f g) (ordD f g) := fun x y v u G H Q R rx ry w h k => by
  cases x <;> cases y <;> try exact h.elim
  · rename_i i j
    rw [rp_int.mp rx, rp_int.mp ry]
    exact .inl ⟨i, j, rfl, rfl, k _ _ G H (rp_bl.mpr rfl) w Fm.refl h⟩
  · rename_i i j
    rw [rp_str.mp rx, rp_str.mp ry]
    exact .inr ⟨i, j, rfl, rfl, k _ _ G H (rp_bl.mpr rfl) w Fm.refl h⟩
abbrev ltD : R2D := ordD (fun i j => decide (i < j)) fun a b => decide (a < b)
abbrev gtD' : R2D := ordD (fun i j => decide (j < i)) fun a b => decide (b < a)
abbrev geD : R2D := ordD (fun i j => decide (j ≤ i)) fun a b => !decide (a < b)
theorem op_ltA {X : DCx} : OpR X (compareOp .Lt) (rOrd (fun i j => decide (i < j)) fun a b => decide (a < b)) := op_lt.or op_lt_str
theorem op_gtA {X : DCx} : OpR X (compareOp .Gt) (rOrd (fun i j => decide (j < i)) fun a b => decide (b < a)) := op_gt.or op_gt_str
theorem op_geA {X : DCx} : OpR X (compareOp .GtE) (rOrd (fun i j => decide (j ≤ i)) fun a b => !decide (a < b)) := op_ge.or op_ge_str
/-! ### ==, is None -/
mutual
inductive Py (G : DG) : D → PyData → Prop
  | non : Py G .non .none
  | bl (b : Bool) : Py G (.bl b) (.bool b)
  | int (i : Int) : Py G (.int i) (.int i)
  | str (x : Str) : Py G (.str x) (.str x)
  | tup {ds : List D} {ps : List PyData} : PyA G ds ps → Py G (.tup ds) (.tuple ps)
  | fl {ds : List D} {ps : List PyData} : PyA G ds ps → Py G (.fl ds) (.list ps)
  | lst {a : Addr} {ds : List D} {ps : List PyData} : G a = some (.lst ds) → PyA G ds ps → Py G (.ref a) (.list ps)
inductive PyA (G : DG) : List D → List PyData → Prop
  | nil : PyA G [] []
  | cons {d : D} {ds : List D} {p : PyData} {ps : List PyData} : Py G d p → PyA G ds ps → PyA G (d :: ds) (p :: ps)
end
mutual
theorem py_dp {B : Bs} {G : DG} {H : Hp} (w : Wld B G H) : ∀ {d : D} {p : PyData} {v : V}, Py G d p → Rp B.K H d v → Dp B.K H v p
  | _, _, _, .non, r => by rw [rp_non.mp r]; exact .non
  | _, _, _, .bl b, r => by rw [rp_bl.mp r]; exact .bl b
  | _, _, _, .int i, r => by rw [rp_int.mp r]; exact .int i
  | _, _, _, .str x, r => by rw [rp_str.mp r]; exact .str x
  | _, _, _, .tup h, r => by
    obtain ⟨a, xs, rfl, q, rl⟩ := rp_tup.mp r
    exact .tup q (py_dpA w h rl)
  | _, _, _, .fl h, r => by
    obtain ⟨a, xs, rfl, q, rl⟩ := rp_fl.mp r
    exact .lst q.sq (py_dpA w h rl)
  | _, _, _, .lst e h, r => by
    rw [rp_ref.mp r]
    obtain ⟨xs, e2, rl⟩ := w.1 _ _ e
    exact .lst (SqL.of e2) (py_dpA w h rl)
theorem py_dpA {B : Bs} {G : DG} {H : Hp} (w : Wld B G H) : ∀ {ds : List D} {ps : List PyData} {vs : List V}, PyA G ds ps → RpL B.K H ds vs → DpAll B.K H vs ps
  | _, _, _, .nil, r => by rw [rpl_nil.mp r]; exact .nil
  | _, _, _, .cons h t, r => by
    obtain ⟨y, ys, rfl, r1, r2⟩ := rpl_cons.mp r
    exact .cons (py_dp w h r1) (py_dpA w t r2)
end
def eqD (neg : Bool) : R2D := fun x y G Q => ∃ p q, Py G x p ∧ Py G y q ∧ SeqAt.shaped p = true ∧ SeqAt.shaped q = true ∧ Q (.bl (if neg then !PyData.eqv p q else PyData.eqv p q)) G
theorem lk_eq {B : Bs} : LkR B (rEqD B.K) (eqD false) := fun x y v u G H Q R rx ry w h k => by
  obtain ⟨p, q, h1, h2, s1, s2, z⟩ := h
  exact ⟨p, q, py_dp w h1 rx, py_dp w h2 ry, s1, s2, k _ _ G H (rp_bl.mpr rfl) w Fm.refl z⟩
theorem lk_ne {B : Bs} : LkR B (rNeD B.K) (eqD true) := fun x y v u G H Q R rx ry w h k => by
  obtain ⟨p, q, h1, h2, s1, s2, z⟩ := h
  exact ⟨p, q, py_dp w h1 rx, py_dp w h2 ry, s1, s2, k _ _ G H (rp_bl.mpr rfl) w Fm.refl z⟩
def isNon : D → Bool
  | .non => true
  | _ => false
def isD (neg : Bool) : R2D := fun x y G Q => match y with
  | .non => Q (.bl (if neg then !isNon x else isNon x)) G
  | _ => False
/-! ### subscripts, slices -/
def atQ (ds : List D) (i : Int) (G : DG) (Q : DK) : Prop := match atI ds i with
  | some d => Q d G
  | none => False
def ixD : R2D := fun x y G Q => match x, y with
  | .tup ds, .int i => atQ ds i G Q
  | .fl ds, .int i => atQ ds i G Q
  | .ref a, .int i => ∃ ds, G a = some (.lst ds) ∧ atQ ds i G Q
  | .str s, .int i => s.length ≤ sizeLine ∧ ∃ c, atI s.cps.toList i = some c ∧ Q (.str ⟨#[c]⟩) G
  | _, _ => False
theorem atI_rp {K : PySem.W.Frag} {H : Hp} {ds : List D} {xs : List V} {i : Int} {d : D} (r : RpL K H ds xs) (h : atI ds i = some d) : ∃ v, atI xs i = some v ∧ Rp K H d v := by
  unfold atI at h ⊢
  rw [r.length] at h
  cases e : ixN xs.length i with
  | none => rw [e] at h; cases h
  | some j =>
    rw [e] at h
    exact r.get h
theorem lk_ix {B : Bs} : LkR B (rIx B.K) ixD := fun x y v u G H Q R rx ry w h k => by
  cases x <;> cases y <;> try exact h.elim
  · rename_i s i
    rw [rp_str.mp rx, rp_int.mp ry]
    obtain ⟨hz, c, e, q⟩ := h
    exact .inr (.inr ⟨s, i, c, rfl, rfl, hz, e, k _ _ G H (rp_str.mpr rfl) w Fm.refl q⟩)
  · rename_i ds i
    obtain ⟨a, vs, rfl, ha, ra⟩ := rp_tup.mp rx
    rw [rp_int.mp ry]
    have h : atQ ds i G Q := h
    unfold atQ at h
    split at h
    · rename_i d e
      obtain ⟨z, ez, rz⟩ := atI_rp ra e
      exact .inr (.inl ⟨a, vs, i, z, rfl, rfl, ha, ez, k _ _ G H rz w Fm.refl h⟩)
    · exact h.elim
  · rename_i ds i
    obtain ⟨a, vs, rfl, ha, ra⟩ := rp_fl.mp rx
    rw [rp_int.mp ry]
    have h : atQ ds i G Q := h
    unfold atQ at h
    split at h
    · rename_i d e
      obtain ⟨z, ez, rz⟩ := atI_rp ra e
      exact .inl ⟨a, vs, i, z, rfl, rfl, ha.sq, ez, k _ _ G H rz w Fm.refl h⟩
    · exact h.elim
  · rename_i a i
    obtain ⟨ds, e, h⟩ := h
    rw [rp_ref.mp rx, rp_int.mp ry]
    obtain ⟨vs, e2, ra⟩ := w.1 a _ e
    unfold atQ at h
    split at h
    · rename_i d e
      obtain ⟨z, ez, rz⟩ := atI_rp ra e
      exact .inl ⟨a, vs, i, z, rfl, rfl, SqL.of e2, ez, k _ _ G H rz w Fm.refl h⟩
    · exact h.elim
def cutD {α : Type} (xs : List α) (lo hi : Option Int) : List α := (xs.drop (HT.sIx xs.length 0 lo)).take (HT.sIx xs.length xs.length hi - HT.sIx xs.length 0 lo)
def slD (x : D) (lo hi : Option Int) (G : DG) (Q : DK) : Prop := match x with
  | .tup ds => Q (.tup (cutD ds lo hi)) G
  | .ref a => ∃ ds, G a = some (.lst ds) ∧ ∀ p, G p = none → Q (.ref p) (G.upd p (.lst (cutD ds lo hi)))
  | .str s => s.length ≤ sizeLine ∧ Q (.str (cutS s lo hi)) G
  | _ => False
abbrev DOp := DSt → DG → (Option Int → DG → Prop) → Prop
def dNoPart : DOp := fun _ G Q => Q none G
def dPart (t : DE) : DOp := fun ρ G Q => t ρ G fun x G1 => match x with
  | .int i => Q (some i) G1
  | _ => False
structure PDO (X : DCx) (e : Option Expr) (t : DOp) : Prop where
  ex : ∃ te, PO X e te ∧ ∀ ρ σ G H Q R, RpS X.K H ρ σ → Wld (bs X) G H → t ρ G Q → (∀ o G' H', Wld (bs X) G' H' → Fm G H G' H' → Q o G' → R o H') → te σ H R
section
variable {X : DCx} {pos p2 : Pos} {e : Expr} {te : DE}
def dSl (t : DE) (lo hi : DOp) : DE := fun ρ G Q => t ρ G fun x G1 => lo ρ G1 fun l G2 => hi ρ G2 fun u G3 => slD x l u G3 Q
end
/-! ### built-in functions -/
abbrev RCD := List D → DG → DK → Prop
def LkCl (B : Bs) (r : List V → Hp → VK → Prop) (rd : RCD) : Prop := ∀ ds vs G H Q R, RpL B.K H ds vs → Wld B G H → rd ds G Q → Kt B G H Q R → r vs H R
def dCB (rd : RCD) (t : DA) : DE := fun ρ G Q => t ρ G fun ds G1 => rd ds G1 Q
section
variable {X : DCx} {pos p : Pos} {x : Str} {e : Expr} {es : List Expr} {t : DA} {id T : String} {r : List V → Hp → VK → Prop} {rd : RCD}
theorem lk_cb {B : Bs} {ta : TA} (hl : LkCl B r rd) (h : LkA B ta t) : LkE B (tCB r ta) (dCB rd t) := fun ρ σ G H Q R s w q k => h ρ σ G H _ _ s w q fun ds vs G1 H1 r1 w1 f1 q1 => hl ds vs G1 H1 Q R r1 w1 q1 (k.aft f1)
theorem pd_callB (hc : CallR X (.builtin id) r) (hl : LkCl (bs X) r rd) (hg : Gl X x) (hm : X.mg x = none) (hv : bootBuiltins x = some (.builtin id)) (ha : PDA X (e :: es) t) (hn : x ≠ "__name__" := by decide) (hdb : (x == ("__debug__" : Str)) = false := by decide)
    (he : starEach (e :: es) X.env = (false, eval e X.env) :: starEach es X.env := by rfl) (hpl : (backTo pos (starEach es X.env)).any (·.1) = false := by rfl) : PD X (.Call (.Name x p) (e :: es) [] pos) (dCB rd t) := by
  obtain ⟨ta, pa, la⟩ := ha
  exact ⟨_, pe_callB hc hg hm hv pa hn hdb he hpl, lk_cb hl la⟩
end
def lenD : RCD := fun ds G Q => match ds with
  | [.str s] => s.length ≤ sizeLine ∧ Q (.int s.length) G
  | [.tup xs] => Q (.int xs.length) G
  | [.fl xs] => Q (.int xs.length) G
  | [.ref a] => ∃ xs, G a = some (.lst xs) ∧ Q (.int xs.length) G
  | _ => False
theorem lk_len {B : Bs} : LkCl B (fun xs H Q => ∃ x n, xs = [x] ∧ LenV B.K x H n ∧ Q (.int n) H) lenD := fun ds vs G H Q R r w h k => by
  match ds, h with
  | [.str s], h =>
    obtain ⟨v, rfl, rv⟩ := r.one
    rw [rp_str.mp rv]
    exact ⟨_, s.length, rfl, ⟨h.1, rfl⟩, k _ _ G H (rp_int.mpr rfl) w Fm.refl h.2⟩
  | [.tup xs], h =>
    obtain ⟨v, rfl, rv⟩ := r.one
    obtain ⟨a, vs, rfl, ha, ra⟩ := rp_tup.mp rv
    exact ⟨_, xs.length, rfl, .inr ⟨vs, ha, ra.length⟩, k _ _ G H (rp_int.mpr rfl) w Fm.refl h⟩
  | [.fl xs], h =>
    obtain ⟨v, rfl, rv⟩ := r.one
    obtain ⟨a, vs, rfl, ha, ra⟩ := rp_fl.mp rv
    exact ⟨_, xs.length, rfl, .inl ⟨vs, ha.sq, ra.length⟩, k _ _ G H (rp_int.mpr rfl) w Fm.refl h⟩
  | [.ref a], h =>
    obtain ⟨v, rfl, rv⟩ := r.one
    obtain ⟨xs, e, h⟩ := h
    rw [rp_ref.mp rv]
    obtain ⟨vs, e2, ra⟩ := w.1 a _ e
    exact ⟨_, xs.length, rfl, .inl ⟨vs, SqL.of e2, ra.length⟩, k _ _ G H (rp_int.mpr rfl) w Fm.refl h⟩
def max2D : RCD := fun ds G Q => match ds with
  | [.int i, .int j] => Q (.int (if j > i then j else i)) G
  | _ => False
def min2D : RCD := fun ds G Q => match ds with
  | [.int i, .int j] => Q (.int (if j < i then j else i)) G
  | _ => False
theorem lk_max2 {B : Bs} : LkCl B (fun xs H Q => ∃ i j, xs = [.int i, .int j] ∧ Q (.int (if j > i then j else i)) H) max2D := fun ds vs G H Q R r w h k => by
  match ds, h with
  | [.int i, .int j], h =>
    obtain ⟨v, u, rfl, rv, ru⟩ := r.two
    rw [rp_int.mp rv, rp_int.mp ru]
    exact ⟨i, j, rfl, k _ _ G H (rp_int.mpr rfl) w Fm.refl h⟩
theorem lk_min2 {B : Bs} : LkCl B (fun xs H Q => ∃ i j, xs = [.int i, .int j] ∧ Q (.int (if j < i then j else i)) H) min2D := fun ds vs G H Q R r w h k => by
  match ds, h with
  | [.int i, .int j], h =>
    obtain ⟨v, u, rfl, rv, ru⟩ := r.two
    rw [rp_int.mp rv, rp_int.mp ru]
    exact ⟨i, j, rfl, k _ _ G H (rp_int.mpr rfl) w Fm.refl h⟩
/-- all([..]) of truth values -/
def allD : RCD := fun ds G Q => match ds with
  | [.ref a] => ∃ bs : List Bool, G a = some (.lst (bs.map D.bl)) ∧ Q (.bl (bs.all id)) G
  | _ => False
theorem RpL.bls {K : PySem.W.Frag} {H : Hp} : ∀ {bs : List Bool} {xs : List V}, RpL K H (bs.map D.bl) xs → xs = bs.map V.bl
  | [], xs, h => rpl_nil.mp h
  | b :: bs, xs, h => by
    obtain ⟨y, ys, rfl, r, t⟩ := rpl_cons.mp h
    rw [rp_bl.mp r, RpL.bls t]
    rfl
theorem lk_all {B : Bs} : LkCl B (rAll B.K) allD := fun ds vs G H Q R r w h k => by
  match ds, h with
  | [.ref a], h =>
    obtain ⟨v, rfl, rv⟩ := r.one
    obtain ⟨bs, e, h⟩ := h
    rw [rp_ref.mp rv]
    obtain ⟨vs, e2, ra⟩ := w.1 a _ e
    rw [ra.bls] at e2
    exact ⟨a, bs, rfl, SqL.of e2, k _ _ G H (rp_bl.mpr rfl) w Fm.refl h⟩
def tupleD : RCD := fun ds G Q => match ds with
  | [.tup xs] => Q (.tup xs) G
  | [.ref a] => ∃ xs, G a = some (.lst xs) ∧ Q (.tup xs) G
  | [.fl xs] => Q (.tup xs) G
  | _ => False
def listD : RCD := fun ds G Q => match ds with
  | [.tup xs] => ∀ p, G p = none → Q (.ref p) (G.upd p (.lst xs))
  | [.fl xs] => ∀ p, G p = none → Q (.ref p) (G.upd p (.lst xs))
  | [.ref a] => ∃ xs, G a = some (.lst xs) ∧ ∀ p, G p = none → Q (.ref p) (G.upd p (.lst xs))
  | _ => False
/-! ### isinstance of built-in classes -/
inductive Ty where
  | none | bool | int | str | tuple | list | dict
  deriving DecidableEq
def Ty.name : Ty → String
  | .none => "NoneType" | .bool => "bool" | .int => "int" | .str => "str" | .tuple => "tuple" | .list => "list" | .dict => "dict"
def Ty.isa : Ty → Ty → Bool
  | .bool, .int => true
  | a, b => decide (a = b)
def Ty.of (n : String) : Option Ty := if n = "bool" then some .bool else if n = "int" then some .int else if n = "str" then some .str else if n = "tuple" then some .tuple else if n = "list" then some .list else if n = "dict" then some .dict else Option.none
theorem kit_isa (a b : Ty) (h : b ≠ .none) : kitB a.name b.name = some (Ty.isa a b) := by
  cases b with
  | none => exact absurd rfl h
  | _ => cases a <;> decide +kernel
theorem Ty.of_name {n : String} {t : Ty} (h : Ty.of n = some t) : n = t.name ∧ t ≠ .none := by
  unfold Ty.of at h
  repeat (first | (split at h; · (cases h; rename_i e; exact ⟨e, by decide⟩)) | cases h)
def isStr : D → Bool
  | .str _ => true
  | _ => false
def strKeys (kvs : List (D × D)) : Bool := kvs.all fun p => isStr p.1
theorem dk_own {B : Bs} {G : DG} {H : Hp} {a : Addr} {kvs : List (D × D)} (w : Wld0 B G H) (e : G a = some (.dic kvs)) (hs : strKeys kvs = true) : ∃ ks, H a = some (.dK ks) ∧ Paired (fun (p : D × D) (q : Key × V) => keyV p.1 = some q.1 ∧ Rp B.K H p.2 q.2) kvs ks := by
  rcases w a _ e with h | ⟨hn, xs, _, _, _, _, h5⟩
  · exact h
  · cases h5 with
    | nil => exact absurd rfl hn
    | cons r t =>
      obtain ⟨_, _, ⟨ds, hd⟩, _⟩ := r
      have := List.all_eq_true.mp hs _ (List.mem_cons_self ..)
      rw [hd] at this; cases this
def tyD (G : DG) : D → Option Ty
  | .non => some .none
  | .bl _ => some .bool
  | .int _ => some .int
  | .str _ => some .str
  | .tup _ => some .tuple
  | .fl _ => some .list
  | .ref a => match G a with
    | some (.lst _) => some .list
    | some (.dic kvs) => if strKeys kvs = true then some .dict else Option.none
    | some (.ldic _ _ _) => some .dict
    | _ => Option.none
  | .ty _ => Option.none
theorem ty_rp {B : Bs} {G : DG} {H : Hp} {x : D} {v : V} {t : Ty} (w : Wld B G H) (r : Rp B.K H x v) (h : tyD G x = some t) : TyX B.K H v (.type t.name) := by
  cases x with
  | non => cases h; rw [rp_non.mp r]; exact .base .non
  | bl b => cases h; rw [rp_bl.mp r]; exact .base (.bl b)
  | int b => cases h; rw [rp_int.mp r]; exact .base (.int b)
  | str b => cases h; rw [rp_str.mp r]; exact .base (.str b)
  | tup ds =>
    cases h
    obtain ⟨a, xs, rfl, q, _⟩ := rp_tup.mp r
    rcases q with (q | ⟨o, q⟩) | ⟨o, its, n, q1, q2, _⟩
    · exact .base (.tup q)
    · exact .fTuple q
    · exact .kTuple q1 q2
  | fl ds =>
    cases h
    obtain ⟨a, xs, rfl, q, _⟩ := rp_fl.mp r
    rcases q with ⟨o, q⟩ | ⟨o, its, n, q1, q2, _⟩
    · exact .base (.frz q)
    · exact .kList q1 q2
  | ref a =>
    rw [rp_ref.mp r]
    unfold tyD at h
    dsimp only at h
    split at h
    · rename_i ds e
      cases h
      obtain ⟨xs, e2, _⟩ := w.1 a _ e
      exact .base (.lst e2)
    · rename_i kvs e
      split at h
      · rename_i hs
        cases h
        obtain ⟨ks, e2, _⟩ := dk_own w.1 e hs
        exact .base (.dK e2)
      · cases h
    · rename_i od ks kvs e
      cases h
      obtain ⟨e2, _⟩ := w.1 a _ e
      exact .fDict e2
    · cases h
  | ty n => cases h
def isi1 (G : DG) (x c : D) : Option Bool := match tyD G x, c with
  | some a, .ty n => (Ty.of n).map (Ty.isa a)
  | _, _ => Option.none
def isiAny (G : DG) (x : D) : List D → Option Bool
  | [] => some false
  | c :: cs => match isi1 G x c with
    | some true => some true
    | some false => isiAny G x cs
    | Option.none => Option.none
def rIsiS (K : PySem.W.Frag) : List V → Hp → VK → Prop := fun xs H Q => ∃ (x : V) (tp : Addr) (cs : List V) (t : Value) (us : List Value) (b : Bool), xs = [x, .ref tp] ∧ SqT K H tp cs ∧ Paired ClsV cs us ∧ TyX K H x t ∧ PySem.W.kitAny K t us = some b ∧ Q (.bl b) H
theorem call_isiS {X : DCx} : CallR X (.builtin "isinstance") (rIsiS X.K) := by
  intro pins s σ H xs us Q I r h
  obtain ⟨x, tp, cs, t, ws, b, rfl, hT, k, ty, e, q⟩ := h
  obtain ⟨u1, u2, rfl, r1, r2⟩ := vals2 r
  cases (show u2 = Value.ref tp from r2)
  obtain ⟨P, Z, p, hx⟩ := kit_of I r1 ty
  obtain ⟨its, rv, ⟨o, h1, h2, n, h3⟩, _⟩ := I.tuple hT
  have e3 := ClsV.all k rv
  subst e3
  obtain ⟨oc, od, dt, sl⟩ := o
  simp only at h2 h3
  subst h2 h3
  exact PySem.W.kia_tup Z I.kIn p h1 e hx fun tk => ⟨.bl b, H, I.tok tk, rfl, q⟩
def rIsiA (K : PySem.W.Frag) : List V → Hp → VK → Prop := fun xs H Q => rIsi K xs H Q ∨ rIsiS K xs H Q
theorem call_isiA {X : DCx} : CallR X (.builtin "isinstance") (rIsiA X.K) := call_isi.or call_isiS
theorem isi1_some {G : DG} {x c : D} {b : Bool} (h : isi1 G x c = some b) : ∃ t u n, tyD G x = some t ∧ c = .ty n ∧ Ty.of n = some u ∧ b = Ty.isa t u := by
  unfold isi1 at h
  split at h
  · rename_i t n e
    cases e2 : Ty.of n with
    | none => rw [e2] at h; cases h
    | some u => rw [e2] at h; exact ⟨t, u, n, e, rfl, e2, (Option.some.inj h).symm⟩
  · cases h
theorem isi1_kit {K : PySem.W.Frag} {G : DG} {x c : D} {b : Bool} {t : Ty} (ht : tyD G x = some t) (h : isi1 G x c = some b) : ∃ n, c = .ty n ∧ PySem.W.kitOne K (.type t.name) (.type n) = some b := by
  obtain ⟨t', u, n, e1, rfl, e2, rfl⟩ := isi1_some h
  rw [ht] at e1; cases e1
  obtain ⟨rfl, hn⟩ := Ty.of_name e2
  exact ⟨_, rfl, kit_ty (kit_isa t u hn)⟩
theorem isiAny_kit {K : PySem.W.Frag} {H : Hp} {G : DG} {x : D} {t : Ty} (ht : tyD G x = some t) : ∀ {cs : List D} {vs : List V} {b : Bool}, (∀ c ∈ cs, ∃ n, c = .ty n) → RpL K H cs vs → isiAny G x cs = some b → ∃ us, Paired ClsV vs us ∧ PySem.W.kitAny K (.type t.name) us = some b
  | [], vs, b, _, r, h => by
    rw [rpl_nil.mp r]
    cases h
    exact ⟨[], .nil, kitAny_nil⟩
  | c :: cs, vs, b, hc, r, h => by
    obtain ⟨y, ys, rfl, r1, r2⟩ := rpl_cons.mp r
    have h : (match isi1 G x c with | some true => some true | some false => isiAny G x cs | Option.none => Option.none) = some b := h
    obtain ⟨n, rfl⟩ := hc c List.mem_cons_self
    rw [rp_ty.mp r1]
    have tys : ∀ (cs : List D) (ys : List V), (∀ c ∈ cs, ∃ n, c = .ty n) → RpL K H cs ys → ∃ us, Paired ClsV ys us := fun cs => by
      induction cs with
      | nil => intro ys _ r; rw [rpl_nil.mp r]; exact ⟨[], .nil⟩
      | cons c cs ih =>
        intro ys hc r
        obtain ⟨z, zs, rfl, q1, q2⟩ := rpl_cons.mp r
        obtain ⟨m, rfl⟩ := hc c List.mem_cons_self
        obtain ⟨us, hu⟩ := ih zs (fun d hd => hc d (List.mem_cons_of_mem _ hd)) q2
        rw [rp_ty.mp q1]
        exact ⟨_, .cons (.ty m) hu⟩
    cases e : isi1 G x (.ty n) with
    | none => rw [e] at h; cases h
    | some b1 =>
      rw [e] at h
      obtain ⟨m, em, kk⟩ := isi1_kit (K := K) ht e
      cases em
      cases b1 with
      | true =>
        cases h
        obtain ⟨us, hu⟩ := tys cs ys (fun d hd => hc d (List.mem_cons_of_mem _ hd)) r2
        exact ⟨_, .cons (.ty n) hu, kitAny_cons kk (fun z => nomatch z) fun _ => rfl⟩
      | false =>
        obtain ⟨us, hu, ka⟩ := isiAny_kit ht (fun d hd => hc d (List.mem_cons_of_mem _ hd)) r2 h
        exact ⟨_, .cons (.ty n) hu, kitAny_cons kk (fun _ => ka) fun z => nomatch z⟩

/-- a tuple of built-in classes alone -/
def allTy : List D → Bool
  | [] => true
  | .ty _ :: cs => allTy cs
  | _ :: _ => false
theorem allTy_mem : ∀ {cs : List D}, allTy cs = true → ∀ c ∈ cs, ∃ n, c = .ty n
  | .ty n :: cs, h, c, hc => by
    rcases List.mem_cons.mp hc with rfl | hc
    · exact ⟨n, rfl⟩
    · exact allTy_mem (cs := cs) h c hc
def isiD : RCD := fun ds G Q => match ds with
  | [x, .tup cs] => (allTy cs = true ∧ cs ≠ []) ∧ match isiAny G x cs with
    | some b => Q (.bl b) G
    | Option.none => False
  | [x, .ty n] => match isi1 G x (.ty n) with
    | some b => Q (.bl b) G
    | Option.none => False
  | _ => False
theorem tyAny {G : DG} {x : D} : ∀ {cs : List D} {b : Bool}, isiAny G x cs = some b → cs ≠ [] → ∃ t, tyD G x = some t
  | c :: cs, b, h, _ => by
    have h : (match isi1 G x c with | some true => some true | some false => isiAny G x cs | Option.none => Option.none) = some b := h
    cases e : isi1 G x c with
    | none => rw [e] at h; cases h
    | some b1 =>
      obtain ⟨t, _, _, e1, _⟩ := isi1_some e
      exact ⟨t, e1⟩
  | [], _, _, h => absurd rfl h
theorem lk_isi {B : Bs} : LkCl B (rIsiA B.K) isiD := fun ds vs G H Q R r w h k => by
  match ds, h with
  | [x, .ty n], h =>
    obtain ⟨v, u, rfl, rv, ru⟩ := r.two
    rw [rp_ty.mp ru]
    have h : (match isi1 G x (.ty n) with | some b => Q (.bl b) G | Option.none => False) := h
    split at h
    · rename_i b e
      obtain ⟨t, u', n', e1, e2, e3, rfl⟩ := isi1_some e
      cases e2
      obtain ⟨m, em, kk⟩ := isi1_kit (K := B.K) e1 e
      cases em
      exact .inl ⟨v, .ty n, .type t.name, .type n, _, rfl, .ty n, ty_rp w rv e1, kk, k _ _ G H (rp_bl.mpr rfl) w Fm.refl h⟩
    · exact h.elim
  | [x, .tup cs], h =>
    obtain ⟨v, u, rfl, rv, ru⟩ := r.two
    obtain ⟨a, xs, rfl, ha, ra⟩ := rp_tup.mp ru
    obtain ⟨hc, h⟩ := h
    split at h
    · rename_i b e
      obtain ⟨t, et⟩ := tyAny e hc.2
      obtain ⟨us, hu, ka⟩ := isiAny_kit (K := B.K) (H := H) et (allTy_mem hc.1) ra e
      exact .inr ⟨v, a, xs, .type t.name, us, b, rfl, ha, hu, ty_rp w rv et, ka, k _ _ G H (rp_bl.mpr rfl) w Fm.refl h⟩
    · exact h.elim
end FD

/-! FD5: the rules by construct (one for each form of syntax), methods of lists, stores, calls of defs. -/
namespace FD
open PySem PySem.Spec PyProof.Rows L2
section
variable {X : DCx} {pos p p2 apos cpos : Pos} {a b e o : Expr} {es : List Expr} {da db te : DE} {t : DA} {k : Nat}
/-! ### operators -/
theorem pd_add (ha : PD X a da) (hb : PD X b db) : PD X (.BinOp a .Add b pos) (dOp addD da db) := pd_op op_addA lk_add ha hb
theorem pd_sub (ha : PD X a da) (hb : PD X b db) : PD X (.BinOp a .Sub b pos) (dOp subD da db) := pd_op op_sub lk_int0 ha hb
theorem pd_mul (ha : PD X a da) (hb : PD X b db) : PD X (.BinOp a .Mult b pos) (dOp mulD da db) := pd_op op_mulA lk_mul ha hb
theorem pd_mod (ha : PD X a da) (hb : PD X b db) : PD X (.BinOp a .Mod b pos) (dOp modD da db) := pd_op op_mod lk_int ha hb
theorem pd_fdiv (ha : PD X a da) (hb : PD X b db) : PD X (.BinOp a .FloorDiv b pos) (dOp fdivD da db) := pd_op op_fdiv lk_int ha hb
theorem pd_pow (ha : PD X a da) (hb : PD X b db) : PD X (.BinOp a .Pow b pos) (dOp powD da db) := pd_op op_pow lk_int ha hb
theorem pdt_lt (ha : PD X a da) (hb : PD X b db) : PDT X (.Compare a [.Lt] [b] pos) (dBool (dOp ltD da db)) := pdt_cmp op_ltA lk_ord ha hb (nomark _)
theorem pdt_gt (ha : PD X a da) (hb : PD X b db) : PDT X (.Compare a [.Gt] [b] pos) (dBool (dOp gtD' da db)) := pdt_cmp op_gtA lk_ord ha hb (nomark _)
theorem pdt_ge (ha : PD X a da) (hb : PD X b db) : PDT X (.Compare a [.GtE] [b] pos) (dBool (dOp geD da db)) := pdt_cmp op_geA lk_ord ha hb (nomark _)
theorem pd_eq (hr : Room k X.A) (ha : PD X a da) (hb : PD X b db) : PD X (.Compare a [.Eq] [b] pos) (dOp (eqD false) da db) := pd_cmp (op_eqD hr.units) lk_eq ha hb (nomark _)
theorem pdt_eq (hr : Room k X.A) (ha : PD X a da) (hb : PD X b db) : PDT X (.Compare a [.Eq] [b] pos) (dBool (dOp (eqD false) da db)) := pdt_cmp (op_eqD hr.units) lk_eq ha hb (nomark _)
theorem pdt_ne (hr : Room k X.A) (ha : PD X a da) (hb : PD X b db) : PDT X (.Compare a [.NotEq] [b] pos) (dBool (dOp (eqD true) da db)) := pdt_cmp (op_neD hr.units) lk_ne ha hb (nomark _)
theorem pd_ix (ha : PD X a da) (hb : PD X b db) (hs : PlainIx b := by intro _ _; rfl) : PD X (.Subscript a b pos) (dOp ixD da db) := by
  obtain ⟨ta, pa, la⟩ := ha
  obtain ⟨tb, pb, lb⟩ := hb
  exact ⟨_, pe_ix ix_seq pa pb hs, lk_op lk_ix la lb⟩
/-! ### built-ins -/
theorem pd_len (hg : Gl X "len") (hm : X.mg "len" = none) (ha : PDA X (e :: es) t) (he : starEach (e :: es) X.env = (false, eval e X.env) :: starEach es X.env := by rfl) (hpl : (backTo pos (starEach es X.env)).any (·.1) = false := by rfl) :
    PD X (.Call (.Name "len" p) (e :: es) [] pos) (dCB lenD t) := pd_callB call_len lk_len hg hm PySem.boot_len ha (by decide) (by decide) he hpl
theorem pd_isi (hg : Gl X "isinstance") (hm : X.mg "isinstance" = none) (ha : PDA X (e :: es) t) (he : starEach (e :: es) X.env = (false, eval e X.env) :: starEach es X.env := by rfl) (hpl : (backTo pos (starEach es X.env)).any (·.1) = false := by rfl) :
    PD X (.Call (.Name "isinstance" p) (e :: es) [] pos) (dCB isiD t) := pd_callB call_isiA lk_isi hg hm (by decide +kernel) ha (by decide) (by decide) he hpl
theorem pd_all (hc : X.calm = true) (hg : Gl X "all") (hm : X.mg "all" = none) (ha : PDA X (e :: es) t) (he : starEach (e :: es) X.env = (false, eval e X.env) :: starEach es X.env := by rfl) (hpl : (backTo pos (starEach es X.env)).any (·.1) = false := by rfl) :
    PD X (.Call (.Name "all" p) (e :: es) [] pos) (dCB allD t) := pd_callB (cr_all hc) lk_all hg hm (by decide +kernel) ha (by decide) (by decide) he hpl
theorem pd_max2 (hc : X.calm = true) (hg : Gl X "max") (hm : X.mg "max" = none) (ha : PDA X (e :: es) t) (he : starEach (e :: es) X.env = (false, eval e X.env) :: starEach es X.env := by rfl) (hpl : (backTo pos (starEach es X.env)).any (·.1) = false := by rfl) :
    PD X (.Call (.Name "max" p) (e :: es) [] pos) (dCB max2D t) := pd_callB (call_max2 hc) lk_max2 hg hm (by decide +kernel) ha (by decide) (by decide) he hpl
theorem pd_min2 (hc : X.calm = true) (hg : Gl X "min") (hm : X.mg "min" = none) (ha : PDA X (e :: es) t) (he : starEach (e :: es) X.env = (false, eval e X.env) :: starEach es X.env := by rfl) (hpl : (backTo pos (starEach es X.env)).any (·.1) = false := by rfl) :
    PD X (.Call (.Name "min" p) (e :: es) [] pos) (dCB min2D t) := pd_callB (call_min2 hc) lk_min2 hg hm (by decide +kernel) ha (by decide) (by decide) he hpl
/-! ### methods of lists -/
def isLst (x : D) (G : DG) : Prop := match x with
  | .ref a => ∃ ds, G a = some (.lst ds)
  | _ => False
abbrev RMD := D → List D → DG → DK → Prop
def dML (rd : RMD) (to : DE) (t : DA) : DE := fun ρ G Q => to ρ G fun x G1 => isLst x G1 ∧ t ρ G1 fun ds G2 => rd x ds G2 Q
/-! ### stores to a place of a list -/
abbrev RSD := D → D → D → DG → (DG → Prop) → Prop
def LkSt (B : Bs) (r : TSet) (rd : RSD) : Prop := ∀ o i x vo vi vx G H Q R, Rp B.K H o vo → Rp B.K H i vi → Rp B.K H x vx → Wld B G H → rd o i x G Q → (∀ G' H', Wld B G' H' → Fm G H G' H' → Q G' → R H') → r vo vi vx H R
def gsD (to ti : DE) (rd : RSD) : DGt := fun x ρ G Q => to ρ G fun o G1 => ti ρ G1 fun i G2 => rd o i x G2 fun G3 => Q ρ G3
def setLD : RSD := fun o i x G Q => match o, i with
  | .ref l, .int n => ∃ xs j, G l = some (.lst xs) ∧ ixN xs.length n = some j ∧ Q (G.upd l (.lst (xs.set j x)))
  | _, _ => False
theorem lk_setL {B : Bs} : LkSt B rSetL setLD := fun o i x vo vi vx G H Q R ro ri rx w h k => by
  match o, i, h with
  | .ref l, .int n, h =>
    obtain ⟨xs, j, e, hj, q⟩ := h
    rw [rp_ref.mp ro, rp_int.mp ri]
    obtain ⟨us, e2, ra⟩ := w.1 l _ e
    exact ⟨l, us, n, j, rfl, rfl, e2, by rw [← ra.length]; exact hj, k _ _ (wld_set (d := .lst (xs.set j x)) w e ⟨_, upd_same, (ra.set j rx).mono (kp_set w e)⟩) (fm_set w e) q⟩
theorem pdg_sub {i : Expr} {ti : DE} {r : TSet} {rd : RSD} (ho : PD X o te) (hi : PD X i ti) (hs : PSet X r) (hl : LkSt (bs X) r rd)
    (ha : ∀ v, assign (.Subscript o i pos) X.env v = (do
      let ov ← holding [v] (eval o X.env)
      let iv ← holding [v, ov] (eval i X.env)
      standAt pos
      holding [v, ov, iv] (setItem ov iv v)
      release [v, ov, iv] []) := by intro _; rfl) : PDG X (.Subscript o i pos) (gsD te ti rd) := by
  obtain ⟨t0, p0, l0⟩ := ho
  obtain ⟨t1, p1, l1⟩ := hi
  refine ⟨_, pg_sub p0 p1 hs ha, fun d v ρ σ G H Q R r s w h k => ?_⟩
  refine l0 ρ σ G H _ _ s w h fun x vx G1 H1 r1 w1 f1 q1 => ?_
  refine l1 ρ σ G1 H1 _ _ (s.mono (f1.kp w)) w1 q1 fun y vy G2 H2 r2 w2 f2 q2 => ?_
  have f02 := f1.trans f2
  refine hl x y d vx vy v G2 H2 _ _ (r1.mono (f2.kp w1)) r2 (r.mono (f02.kp w)) w2 q2 fun G3 H3 w3 f3 q3 => ?_
  exact k ρ σ G3 H3 (s.mono ((f02.trans f3).kp w)) w3 (f02.trans f3) q3
theorem pdg_subL {i : Expr} {ti : DE} (ho : PD X o te) (hi : PD X i ti)
    (ha : ∀ v, assign (.Subscript o i pos) X.env v = (do
      let ov ← holding [v] (eval o X.env)
      let iv ← holding [v, ov] (eval i X.env)
      standAt pos
      holding [v, ov, iv] (setItem ov iv v)
      release [v, ov, iv] []) := by intro _; rfl) : PDG X (.Subscript o i pos) (gsD te ti setLD) := pdg_sub ho hi set_list lk_setL ha
end
/-! ### defs -/
abbrev DSp := List D → DG → DK → Prop
def lift (B : Bs) (dsp : DSp) : Sp := fun vs H Q _ => ∃ ds G Qd, RpL B.K H ds vs ∧ Wld B G H ∧ dsp ds G Qd ∧ Kt B G H Qd Q
def dCall (dsp : DSp) (t : DA) : DE := fun ρ G Q => t ρ G fun ds G1 => dsp ds G1 Q
/-- the promise of a def (n parameters) is its reading -/
def self (N : List Str) (n : Nat) (t : DS) : DSp := fun ds G Q => ds.length = n ∧ t { nx := fun _ G' => Q .non G', rt := Q } (startD N ds) G
section
variable {X : DCx} {k : Nat} {f : Addr} {fd : FuncData} {ps : List Str} {x : Str} {p pos : Pos} {e : Expr} {es : List Expr} {t : DA} {dsp : DSp}
theorem lk_call {B : Bs} {ta : TA} (la : LkA B ta t) : LkE B (tCall (lift (Bs.no B.P B.w B.K) dsp) [] E0 ta) (dCall dsp t) := fun ρ σ G H Q R s w h k => by
  refine la ρ σ G H _ _ s w h fun ds vs G1 H1 r1 w1 f1 q1 => ?_
  show lift (Bs.no B.P B.w B.K) dsp (vs ++ []) H1 R E0
  rw [List.append_nil]
  exact ⟨ds, G1, Q, r1, w1.no, q1, fun d v G' H' r w' f q => k.aft f1 d v G' H' r (w1.of f w') f q⟩
theorem pd_call (F : FnOk X.prog X.w X.K X.mg X.base CX0 k f fd ps (lift (Bs.no X.prog X.w X.K) dsp)) (hr : Room k X.A) (hg : Gl X x) (hm : X.mg x = some (.ref f)) (hk : PySem.W.keepIn X.K (.ref f) = true) (hb : Binds X.K fd ps [])
    (ha : PDA X (e :: es) t) (hdb : (x == ("__debug__" : Str)) = false := by decide) (he : starEach (e :: es) X.env = (false, eval e X.env) :: starEach es X.env := by rfl) (hpl : (backTo pos (starEach es X.env)).any (·.1) = false := by rfl) :
    PD X (.Call (.Name x p) (e :: es) [] pos) (dCall dsp t) := by
  obtain ⟨ta, pa, la⟩ := ha
  exact ⟨_, pe_call F hr hg hm hk hb .nil pass0 pa hdb he hpl, lk_call la⟩
theorem pd_call0 (F : FnOk X.prog X.w X.K X.mg X.base CX0 k f fd ps (lift (Bs.no X.prog X.w X.K) dsp)) (hr : Room k X.A) (hg : Gl X x) (hm : X.mg x = some (.ref f)) (hk : PySem.W.keepIn X.K (.ref f) = true) (hb : Binds X.K fd ps [])
    (hdb : (x == ("__debug__" : Str)) = false := by decide) : PD X (.Call (.Name x p) [] [] pos) (dCall dsp dNil) :=
  ⟨_, pe_call0 F hr hg hm hk hb .nil pass0 hdb, lk_call fun ρ σ G H Q R s w h k => k [] [] G H RpL.nil w Fm.refl h⟩
end
/-- a def of the text keeps its reading as its promise -/
theorem fn_ok {P : Program} {w : World} {K : PySem.W.Frag} {mg : Str → Option Value} {base : Heap} {x qual : Str} {st : Stmt} {f : Addr} {fd : FuncData} {N ps : List Str} {k : Nat} {t : DS} (F : Fun K x qual st f fd) (S : FnScope N ps (defScope st))
    (hb : ∀ (cdv : Value) (A : Around) (outer : List Env) (s : Shared) (H : Hp) (E : XK), Room k (A.deeper (envOfC qual (defScope st) s.heap.objs.size f cdv)) → PDSs (DCx.no (cxOf CX0 P w K mg base N qual (defScope st) f cdv A outer s H E).nox) (defBody st) t) :
    FnOk P w K mg base CX0 (k + 1) f fd ps (lift (Bs.no P w K) (self N ps.length t)) := by
  refine F.ok S (fun vs H Q E h => ?_) (fun cdv A outer s H vs Q E hr h => ?_)
  · obtain ⟨ds, G, Qd, r, _, h, _⟩ := h
    rw [← r.length]
    exact h.1
  · obtain ⟨ds, G, Qd, r, wl, h, kt⟩ := h
    obtain ⟨tb, pb, lb⟩ := hb cdv A outer s H E hr
    refine ⟨tb, pb, ?_⟩
    have sl : RpS K H (startD N ds) (L2.start N vs) := by
      unfold startD L2.start
      rw [r.length]
      exact RpS.start r
    exact lb _ _ G H _ _ sl wl h.2 ⟨fun ρ σ G' H' s' w' f' q => kt _ _ G' H' (rp_non.mpr rfl) w' f' q, kt, fun ρ σ G' H' s' w' f' q => q.elim, fun ρ σ G' H' s' w' f' q => q.elim⟩
end FD

/-! FD6: dicts whose keys are tuples, nested: {}, d[k] = v, d[k], list(d), k in d; dict comprehensions. -/
namespace FD
open PySem PySem.Spec PyProof.Rows L2
/-! ### keys -/
section
variable {X : DCx} {pins : List (Addr × Obj)} {σ : L2.St} {H : Hp} {s : Shared}
end
def keq (a b : D) : Bool := decide (nkey a = nkey b)
def dget (kvs : List (D × D)) (k : D) : Option D := (kvs.find? fun p => keq p.1 k).map (·.2)
def dput (kvs : List (D × D)) (k v : D) : List (D × D) := if (dget kvs k).isSome then kvs.map fun p => if keq p.1 k = true then (p.1, v) else p else kvs ++ [(k, v)]
def isTup : D → Bool
  | .tup _ => true
  | _ => false
def tupKeys (kvs : List (D × D)) : Bool := kvs.all fun p => isTup p.1
/-- a key that may stand in such a dict -/
def okKey (k : D) : Bool := isTup k && match nkey k with
  | some n => decide (n.depth ≤ 8)
  | none => false
section
variable {K : PySem.W.Frag} {H : Hp}
end
section
variable {X : DCx} {pins : List (Addr × Obj)} {σ : L2.St} {H : Hp} {s : Shared} {G : DG} {a : Addr} {kvs : List (D × D)}
end
/-! ### {}, d[k] = v -/
def dDict0 : DE := fun _ G Q => ∀ p, G p = none → Q (.ref p) (G.upd p (.dic []))
/-! ### d[k] -/
/-! ### list(d) -/
def listDD : RCD := fun ds G Q => match ds with
  | [.ref a] => (∃ xs, G a = some (.lst xs) ∧ ∀ p, G p = none → Q (.ref p) (G.upd p (.lst xs))) ∨ (∃ kvs, G a = some (.dic kvs) ∧ tupKeys kvs = true ∧ ∀ p, G p = none → Q (.ref p) (G.upd p (.lst (kvs.map (·.1)))))
  | ds => listD ds G Q
end FD

/-! FD7: dict comprehensions whose keys are tuples. -/
namespace FD
open PySem PySem.Spec PyProof.Rows L2
section
variable {X : DCx}
end
/-! ### the reading -/
def dcGo (chk : DG → Prop) (g : DGt) (tt : DT) (tk tv : DE) (ρ : DSt) (fin : List (D × D) → DG → Prop) : List D → List (D × D) → DG → Prop
  | [], kvs, G => chk G ∧ fin kvs G
  | d :: ds, kvs, G => chk G ∧ g d ρ G fun ρ2 G2 => tt ρ2 G2 fun b G3 => if b = true then tk ρ2 G3 fun k G4 => tv ρ2 G4 fun v G5 => (tupKeys kvs = true ∧ okKey k = true ∧ kvs.length < sizeLine) ∧ dcGo chk g tt tk tv ρ fin ds (dput kvs k v) G5 else dcGo chk g tt tk tv ρ fin ds kvs G3
def dDn (di : DI) (g : DGt) (tt : DT) (tk tv : DE) (vs : List Nat) : DE := fun ρ G Q => di ρ G fun it G1 => dcGo it.chk g tt tk tv (wipeD ρ vs) (fun kvs G' => ∀ p, G' p = none → Q (.ref p) (G'.upd p (.dic kvs))) it.items [] G1
end FD

/-! FDt: dicts whose keys are texts, locked or not: d[k], k in d, d[k] = v, d.get, len, list(d), dict(..). -/
namespace FD
open PySem PySem.Spec PyProof.Rows L2
section
variable {B : Bs} {G : DG} {H : Hp} {a : Addr} {kvs : List (D × D)}
end
section
variable {K : PySem.W.Frag} {H : Hp}
end
/-! ### x[k] -/
/-! ### x[k] = v -/
end FD

/-! FD8: sorted(xs), sorted(xs, key=f) of data, f a def of the text. -/
namespace FD
open PySem PySem.Spec PyProof.Rows L2
mutual
def toPy : D → PyData
  | .non => .none
  | .bl b => .bool b
  | .int i => .int i
  | .str x => .str x
  | .tup ds => .tuple (toPys ds)
  | .fl ds => .list (toPys ds)
  | .ref _ => .none
  | .ty _ => .none
def toPys : List D → List PyData
  | [] => []
  | d :: ds => toPy d :: toPys ds
end
mutual
/-- data that nobody changes -/
def imm : D → Bool
  | .tup ds => imms ds
  | .fl ds => imms ds
  | .ref _ => false
  | .ty _ => false
  | _ => true
def imms : List D → Bool
  | [] => true
  | d :: ds => imm d && imms ds
end
mutual
theorem imm_py (G : DG) : ∀ {d : D}, imm d = true → Py G d (toPy d)
  | .non, _ => by rw [toPy]; exact .non
  | .bl b, _ => by rw [toPy]; exact .bl b
  | .int i, _ => by rw [toPy]; exact .int i
  | .str x, _ => by rw [toPy]; exact .str x
  | .tup ds, h => by rw [toPy]; rw [imm] at h; exact .tup (imms_py G h)
  | .fl ds, h => by rw [toPy]; rw [imm] at h; exact .fl (imms_py G h)
  | .ref _, h => by rw [imm] at h; cases h
  | .ty _, h => by rw [imm] at h; cases h
theorem imms_py (G : DG) : ∀ {ds : List D}, imms ds = true → PyA G ds (toPys ds)
  | [], _ => by rw [toPys]; exact .nil
  | d :: ds, h => by
    rw [toPys]
    rw [imms, Bool.and_eq_true] at h
    exact .cons (imm_py G h.1) (imms_py G h.2)
end
/-- what sorting asks of the keys -/
structure SortOk (ks : List D) : Prop where
  im : imms ks = true
  al : PySem.W.AllAlike (ks.map toPy)
  so : PySem.W.Sortable (ks.map toPy)
  dp : ∀ k ∈ ks, (toPy k).depth ≤ 60
/-- xs in the order of the keys ks -/
def srtBy (xs ks : List D) : List D := ((xs.zip ks).mergeSort (PySem.W.dataLe false fun p => toPy p.2)).map (·.1)
section
variable {X : DCx} {pins : List (Addr × Obj)} {σ : L2.St} {H : Hp} {s : Shared} {G : DG}
/-! ### sorted(xs) -/
end
end FD

/-! FD9: sorted(xs, key=f), f a def of the text. -/
namespace FD
open PySem PySem.Spec PyProof.Rows L2
def skGo (dsp : DSp) : List D → List D → DG → (List D → DG → Prop) → Prop
  | [], ks, G, Q => Q ks G
  | x :: xs, ks, G, Q => dsp [x] G fun k G' => skGo dsp xs (ks ++ [k]) G' Q
def sortedKD (dsp : DSp) : RCD := fun ds G Q => match ds with
  | [.ref a] => ∃ xs, G a = some (.lst xs) ∧ skGo dsp xs [] G fun ks G' => SortOk ks ∧ ∀ p, G' p = none → Q (.ref p) (G'.upd p (.lst (srtBy xs ks)))
  | _ => False
section
variable {X : DCx} {pins : List (Addr × Obj)} {σ : L2.St} {H : Hp} {s : Shared} {G : DG}
/-! ### -e -/
def dNeg (t : DE) : DE := fun ρ G Q => t ρ G fun x G1 => match x with
  | .int i => Q (.int (-i)) G1
  | _ => False
/-! ### a comprehension within a comprehension -/
theorem fn_no2 {P : Program} {w : World} {K : PySem.W.Frag} {mg : Str → Option Value} {base : Heap} {k : Nat} {f : Addr} {fd : FuncData} {ps : List Str} {B : Bs} {dsp : DSp} (hf : ∀ ds G Q, dsp ds G Q → False) : FnOk P w K mg base CX0 k f fd ps (lift B dsp) :=
  ⟨fun vs H Q E h => by obtain ⟨_, _, _, _, _, h, _⟩ := h; exact (hf _ _ _ h).elim, fun A outer s H args us vs Q E _ _ _ _ h => by obtain ⟨_, _, _, _, _, h, _⟩ := h; exact (hf _ _ _ h).elim⟩
/-- a def of the text where the top has laid it -/
structure FunOn (K : PySem.W.Frag) (mg : Str → Option Value) (x : Str) (st : Stmt) (ps : List Str) (f : Addr) (fd : FuncData) : Prop where
  F : Fun K x x st f fd
  g : mg x = some (.ref f)
  b : Binds K fd ps []
def dSortK (dsp : DSp) (t : DA) : DE := fun ρ G Q => t ρ G fun ds G1 => sortedKD dsp ds G1 Q
end
end FD

/-! FD10: the steps of a reading, as equations; stores that grow; plain data. -/
namespace FD
open PySem L2
section
variable {E : DEnds} {ρ : DSt} {G G1 G2 : DG} {Q : DK} {QT : Bool → DG → Prop} {QA : List D → DG → Prop} {QO : Option Int → DG → Prop} {QI : DIt → DG → Prop} {t u : DS} {te ta tb : DE} {tt tu : DT} {tA : DA} {g : DGt} {gs : DGts} {QS : DSt → DG → Prop}
/-- the two branches, not yet looked at -/
def dBr (t u : DS) (E : DEnds) (ρ : DSt) (b : Bool) (G : DG) : Prop := if b = true then t E ρ G else u E ρ G
def dBrE (ta tb : DE) (ρ : DSt) (Q : DK) (b : Bool) (G : DG) : Prop := if b = true then ta ρ G Q else tb ρ G Q
def kB (Q : Bool → DG → Prop) (x : D) (G : DG) : Prop := match x with
  | .bl b => Q b G
  | _ => False
def kN (u : DT) (ρ : DSt) (Q : Bool → DG → Prop) (k : Bool) (b : Bool) (G : DG) : Prop := if b = k then u ρ G Q else Q b G
def kAnd (tb : DE) (ρ : DSt) (Q : DK) (x : D) (k : Bool) (G : DG) : Prop := if k = true then tb ρ G Q else Q x G
/-- a new object, not yet looked at -/
def kNew (G : DG) (o : DO) (Q : DK) : Prop := ∀ p, G p = none → Q (.ref p) (G.upd p o)
theorem seq_ : dSeq t u E ρ G = t { E with nx := u E } ρ G := rfl
theorem next_ : dNext E ρ G = E.nx ρ G := rfl
theorem ret_ : dRet te E ρ G = te ρ G E.rt := rfl
theorem drop_ : dDrop te E ρ G = te ρ G fun _ G1 => E.nx ρ G1 := rfl
theorem ifs_ {c : DT} : dIfS c t u E ρ G = c ρ G (dBr t u E ρ) := rfl
theorem br_t : dBr t u E ρ true G = t E ρ G := rfl
theorem br_f : dBr t u E ρ false G = u E ρ G := rfl
theorem asg_ : dAsg te g E ρ G = te ρ G fun x G1 => g x ρ G1 E.nx := rfl
theorem gn_ {i : Nat} {d : D} : gnD i d ρ G QS = QS (ρ.set i (some d)) G := rfl
theorem gt_ {n : Nat} {ds : List D} : gtD n gs (.tup ds) ρ G QS = (ds.length = n ∧ gs ds ρ G QS) := rfl
theorem gtc_ {d : D} {r : List D} : gtCons g gs (d :: r) ρ G QS = g d ρ G fun ρ' G' => gs r ρ' G' QS := rfl
theorem gtn_ : gtNil [] ρ G QS = QS ρ G := rfl
theorem par_ {i j : Nat} : dPar i j tA E ρ G = tA ρ G fun ds G1 => match ds with
  | [x, y] => E.nx ((ρ.set i (some x)).set j (some y)) G1
  | _ => False := rfl
theorem var_0 {d : D} : dVar 0 (some d :: ρ) G Q = Q d G := rfl
theorem var_s {i : Nat} {o : Option D} : dVar (i + 1) (o :: ρ) G Q = dVar i ρ G Q := rfl
theorem c_ {d : D} : dC d ρ G Q = Q d G := rfl
theorem nil_ : dNil ρ G QA = QA [] G := rfl
theorem cons_ : dCons te tA ρ G QA = te ρ G fun x G1 => tA ρ G1 fun xs G2 => QA (x :: xs) G2 := rfl
theorem tup_ : dTup tA ρ G Q = tA ρ G fun xs G1 => xs.length ≤ sizeLine ∧ Q (.tup xs) G1 := rfl
theorem lst_ : dLst tA ρ G Q = tA ρ G fun xs G1 => xs.length ≤ sizeLine ∧ kNew G1 (.lst xs) Q := rfl
theorem op_ {rd : R2D} : dOp rd ta tb ρ G Q = ta ρ G fun x G1 => tb ρ G1 fun y G2 => rd x y G2 Q := rfl
theorem bool_ : dBool te ρ G QT = te ρ G (kB QT) := rfl
theorem kb_ {b : Bool} : kB QT (.bl b) G = QT b G := rfl
theorem tru_ : dTru te ρ G QT = te ρ G fun x G1 => trD x G1 QT := rfl
theorem tr_bl {b : Bool} : trD (.bl b) G QT = QT b G := rfl
theorem andT_ : dAndT tt tu ρ G QT = tt ρ G (kN tu ρ QT true) := by
  unfold dAndT; congr 1; funext c G1; cases c <;> rfl
theorem orT_ : dOrT tt tu ρ G QT = tt ρ G (kN tu ρ QT false) := by
  unfold dOrT; congr 1; funext c G1; cases c <;> rfl
theorem kn_tt : kN tu ρ QT true true G = tu ρ G QT := rfl
theorem kn_tf : kN tu ρ QT true false G = QT false G := rfl
theorem kn_ff : kN tu ρ QT false false G = tu ρ G QT := rfl
theorem kn_ft : kN tu ρ QT false true G = QT true G := rfl
theorem notT_ : dNotT tt ρ G QT = tt ρ G fun c G1 => QT (!c) G1 := rfl
theorem and_ : dAnd ta tb ρ G Q = ta ρ G fun x G1 => trD x G1 (kAnd tb ρ Q x) := rfl
theorem kand_t {x : D} : kAnd tb ρ Q x true G = tb ρ G Q := rfl
theorem kand_f {x : D} : kAnd tb ρ Q x false G = Q x G := rfl
theorem if_ : dIf tt ta tb ρ G Q = tt ρ G (dBrE ta tb ρ Q) := rfl
theorem bre_t : dBrE ta tb ρ Q true G = ta ρ G Q := rfl
theorem bre_f : dBrE ta tb ρ Q false G = tb ρ G Q := rfl
theorem call_ {dsp : DSp} : dCall dsp tA ρ G Q = tA ρ G fun ds G1 => dsp ds G1 Q := rfl
theorem cb_ {rd : RCD} : dCB rd tA ρ G Q = tA ρ G fun ds G1 => rd ds G1 Q := rfl
theorem neg_ : dNeg te ρ G Q = te ρ G fun x G1 => match x with
  | .int i => Q (.int (-i)) G1
  | _ => False := rfl
theorem sl_ {lo hi : DOp} : dSl te lo hi ρ G Q = te ρ G fun x G1 => lo ρ G1 fun l G2 => hi ρ G2 fun u G3 => slD x l u G3 Q := rfl
theorem nopart_ : dNoPart ρ G QO = QO none G := rfl
theorem part_ : dPart te ρ G QO = te ρ G fun x G1 => match x with
  | .int i => QO (some i) G1
  | _ => False := rfl
theorem sl_tup {ds : List D} {lo hi : Option Int} : slD (.tup ds) lo hi G Q = Q (.tup (cutD ds lo hi)) G := rfl
theorem add_int {i j : Int} : addD (.int i) (.int j) G Q = Q (.int (i + j)) G := rfl
theorem add_tup {xs ys : List D} : addD (.tup xs) (.tup ys) G Q = (xs.length + ys.length ≤ sizeLine ∧ Q (.tup (xs ++ ys)) G) := rfl
theorem add_ref {a b : Addr} : addD (.ref a) (.ref b) G Q = ∃ xs, G a = some (.lst xs) ∧ ∃ ys, G b = some (.lst ys) ∧ xs.length + ys.length ≤ sizeLine ∧ kNew G (.lst (xs ++ ys)) Q := propext ⟨fun ⟨xs, ys, h1, h2, h3, h4⟩ => ⟨xs, h1, ys, h2, h3, h4⟩, fun ⟨xs, h1, ys, h2, h3, h4⟩ => ⟨xs, ys, h1, h2, h3, h4⟩⟩
theorem int_ {C : Int → Int → Prop} {f : Int → Int → Int} {i j : Int} : intD C f (.int i) (.int j) G Q = (C i j ∧ Q (.int (f i j)) G) := rfl
theorem int0_ {f : Int → Int → Int} {i j : Int} : int0D f (.int i) (.int j) G Q = Q (.int (f i j)) G := rfl
theorem mul_int {i j : Int} : mulD (.int i) (.int j) G Q = (CMul i j ∧ Q (.int (i * j)) G) := rfl
theorem mul_str {s : Str} {n : Int} : mulD (.str s) (.int n) G Q = (MulOk s n ∧ Q (.str (Txt.mul s n)) G) := rfl
theorem ord_int {f : Int → Int → Bool} {h : List Nat → List Nat → Bool} {i j : Int} : ordD f h (.int i) (.int j) G Q = Q (.bl (f i j)) G := rfl
theorem ix_tup {ds : List D} {i : Int} : ixD (.tup ds) (.int i) G Q = atQ ds i G Q := rfl
theorem ix_fl {ds : List D} {i : Int} : ixD (.fl ds) (.int i) G Q = atQ ds i G Q := rfl
theorem ix_ref {a : Addr} {i : Int} : ixD (.ref a) (.int i) G Q = ∃ ds, G a = some (.lst ds) ∧ atQ ds i G Q := rfl
theorem at_0 {d : D} {ds : List D} : atQ (d :: ds) 0 G Q = Q d G := by
  unfold atQ atI ixN
  rw [if_pos (by decide), if_pos (by rw [List.length_cons]; omega)]; rfl
theorem at_1 {d e : D} {ds : List D} : atQ (d :: e :: ds) 1 G Q = Q e G := by
  unfold atQ atI ixN
  rw [if_pos (by decide), if_pos (by rw [List.length_cons, List.length_cons]; omega)]; rfl
theorem at_2 {d e f : D} {ds : List D} : atQ (d :: e :: f :: ds) 2 G Q = Q f G := by
  unfold atQ atI ixN
  rw [if_pos (by decide), if_pos (by rw [List.length_cons, List.length_cons, List.length_cons]; omega)]; rfl
theorem at_3 {d e f h : D} {ds : List D} : atQ (d :: e :: f :: h :: ds) 3 G Q = Q h G := by
  unfold atQ atI ixN
  rw [if_pos (by decide), if_pos (by rw [List.length_cons, List.length_cons, List.length_cons, List.length_cons]; omega)]; rfl
/-- any place within -/
theorem at_in {ds : List D} {i : Int} (h0 : 0 ≤ i) (h1 : i < ds.length) (k : ∀ d ∈ ds, Q d G) : atQ ds i G Q := by
  unfold atQ atI ixN
  rw [if_pos h0, if_pos h1]
  have e : i.toNat < ds.length := by omega
  show (match ds[i.toNat]? with | some d => Q d G | none => False)
  rw [List.getElem?_eq_getElem e]
  exact k _ (List.getElem_mem e)
theorem len_tup {xs : List D} : lenD [.tup xs] G Q = Q (.int xs.length) G := rfl
theorem len_fl {xs : List D} : lenD [.fl xs] G Q = Q (.int xs.length) G := rfl
theorem len_ref {a : Addr} : lenD [.ref a] G Q = ∃ xs, G a = some (.lst xs) ∧ Q (.int xs.length) G := rfl
theorem max2_ {i j : Int} : max2D [.int i, .int j] G Q = Q (.int (if j > i then j else i)) G := rfl
theorem min2_ {i j : Int} : min2D [.int i, .int j] G Q = Q (.int (if j < i then j else i)) G := rfl
theorem tuple_tup {xs : List D} : tupleD [.tup xs] G Q = Q (.tup xs) G := rfl
theorem tuple_ref {a : Addr} : tupleD [.ref a] G Q = ∃ xs, G a = some (.lst xs) ∧ Q (.tup xs) G := rfl
theorem is_ {x : D} {n : Bool} : isD n x .non G Q = Q (.bl (if n then !isNon x else isNon x)) G := rfl
theorem gs_ {to ti : DE} {rd : RSD} {x : D} : gsD to ti rd x ρ G QS = to ρ G fun o G1 => ti ρ G1 fun i G2 => rd o i x G2 fun G3 => QS ρ G3 := rfl
theorem setL_ {l : Addr} {n : Int} {x : D} {Qg : DG → Prop} : setLD (.ref l) (.int n) x G Qg = ∃ xs j, G l = some (.lst xs) ∧ ixN xs.length n = some j ∧ Qg (G.upd l (.lst (xs.set j x))) := rfl
theorem ml_ {rd : RMD} {to : DE} : dML rd to tA ρ G Q = to ρ G fun x G1 => isLst x G1 ∧ tA ρ G1 fun ds G2 => rd x ds G2 Q := rfl
theorem for_ {di : DI} : dFor di g t E ρ G = di ρ G fun it G1 => forGo it.chk g t E it.items ρ G1 := rfl
theorem rng1_ : diRng1 tA ρ G QI = tA ρ G fun ds G1 => match ds with
  | [.int j] => (-(2 ^ 62) ≤ j ∧ j < 2 ^ 62) ∧ QI ⟨rngD 0 j.toNat, fun _ => True⟩ G1
  | _ => False := rfl
theorem any_ : diAny te ρ G QI = te ρ G fun x G1 => diVal x G1 QI := rfl
theorem lc_ {di : DI} {vs : List Nat} : dLc di g tt te vs ρ G Q = di ρ G fun it G1 => lcGo it.chk g tt te (wipeD ρ vs) (fun acc G' => kNew G' (.lst acc) Q) it.items [] G1 := rfl
theorem sl_ref {a : Addr} {lo hi : Option Int} : slD (.ref a) lo hi G Q = ∃ ds, G a = some (.lst ds) ∧ kNew G (.lst (cutD ds lo hi)) Q := rfl
theorem list_tup {xs : List D} : listDD [.tup xs] G Q = kNew G (.lst xs) Q := rfl
theorem dict0_ : dDict0 ρ G Q = kNew G (.dic []) Q := rfl
theorem dn_ {di : DI} {tk tv : DE} {vs : List Nat} : dDn di g tt tk tv vs ρ G Q = di ρ G fun it G1 => dcGo it.chk g tt tk tv (wipeD ρ vs) (fun kvs G' => kNew G' (.dic kvs) Q) it.items [] G1 := rfl
theorem sortK_ {dsp : DSp} : dSortK dsp tA ρ G Q = tA ρ G fun ds G1 => sortedKD dsp ds G1 Q := rfl
theorem val_tup {ds : List D} : diVal (.tup ds) G QI = QI ⟨ds, fun _ => True⟩ G := rfl
theorem yes_ : dYes ρ G QT = QT true G := rfl
theorem isLst_ {a : Addr} : isLst (.ref a) G = ∃ ds, G a = some (.lst ds) := rfl
theorem ex_lst {a : Addr} {ds : List D} (h : G a = some (.lst ds)) {P : List D → Prop} : (∃ xs, G a = some (.lst xs) ∧ P xs) ↔ P ds := by
  constructor
  · rintro ⟨xs, e, p⟩
    rw [h] at e; cases e; exact p
  · exact fun p => ⟨ds, h, p⟩
end
/-! ### stores that grow -/
/-- all but f is kept -/
def Ext (f : Addr) (G G' : DG) : Prop := ∀ a o, a ≠ f → G a = some o → G' a = some o
def Keep (G G' : DG) : Prop := ∀ a o, G a = some o → G' a = some o
theorem Ext.refl {f : Addr} {G : DG} : Ext f G G := fun _ _ _ h => h
theorem Ext.trans {f : Addr} {G G1 G2 : DG} (a : Ext f G G1) (b : Ext f G1 G2) : Ext f G G2 := fun x o n h => b x o n (a x o n h)
theorem Keep.refl {G : DG} : Keep G G := fun _ _ h => h
theorem Keep.trans {G G1 G2 : DG} (a : Keep G G1) (b : Keep G1 G2) : Keep G G2 := fun x o h => b x o (a x o h)
theorem Keep.ext {f : Addr} {G G1 : DG} (a : Keep G G1) : Ext f G G1 := fun x o _ h => a x o h
theorem keep_new {G : DG} {p : Addr} {o : DO} (h : G p = none) : Keep G (G.upd p o) := fun a u e => by
  have n : a ≠ p := fun q => by rw [q, h] at e; cases e
  rw [gupd_ne n]; exact e
theorem ext_upd {G : DG} {p : Addr} {o : DO} : Ext p G (G.upd p o) := fun a u n e => by rw [gupd_ne n]; exact e
theorem new_ {G : DG} {o : DO} {Q : DK} (h : ∀ p G', G p = none → G' p = some o → Keep G G' → Q (.ref p) G') : kNew G o Q := fun p hp => h p _ hp gupd_same (keep_new hp)
theorem ne_new {G : DG} {p f : Addr} {o : DO} (hp : G p = none) (hf : G f = some o) : p ≠ f := fun e => by rw [e, hf] at hp; cases hp
/-- the feed: two numbers, not below zero -/
def Feed (f : Addr) (G : DG) : Prop := ∃ g m : Int, 0 ≤ g ∧ 0 ≤ m ∧ G f = some (.lst [.int g, .int m])
theorem Feed.keep {f : Addr} {G G' : DG} (h : Feed f G) (k : Keep G G') : Feed f G' := by
  obtain ⟨g, m, a, b, e⟩ := h
  exact ⟨g, m, a, b, k _ _ e⟩
theorem Feed.ne {f p : Addr} {G : DG} (h : Feed f G) (hp : G p = none) : p ≠ f := by
  obtain ⟨g, m, a, b, e⟩ := h
  exact ne_new hp e
/-! ### == of what stands in D -/
theorem eq_imm {neg : Bool} {x y : D} {G : DG} {Q : DK} (hx : imm x = true) (hy : imm y = true) (sx : SeqAt.shaped (toPy x) = true) (sy : SeqAt.shaped (toPy y) = true) (h : Q (.bl (if neg then !PyData.eqv (toPy x) (toPy y) else PyData.eqv (toPy x) (toPy y))) G) : eqD neg x y G Q :=
  ⟨_, _, imm_py G hx, imm_py G hy, sx, sy, h⟩
theorem eq_lst {neg : Bool} {a b : Addr} {xs ys : List D} {G : DG} {Q : DK} (ha : G a = some (.lst xs)) (hb : G b = some (.lst ys)) (hx : imms xs = true) (hy : imms ys = true) (sx : SeqAt.shaped (.list (toPys xs)) = true) (sy : SeqAt.shaped (.list (toPys ys)) = true) (h : Q (.bl (if neg then !PyData.eqvAll (toPys xs) (toPys ys) else PyData.eqvAll (toPys xs) (toPys ys))) G) : eqD neg (.ref a) (.ref b) G Q :=
  ⟨_, _, .lst ha (imms_py G hx), .lst hb (imms_py G hy), sx, sy, by simpa only [PyData.eqv] using h⟩
end FD

/-! FD11: loops by an invariant; == as an equation; small facts. -/
namespace FD
open PySem L2
theorem py_int {G : DG} {i : Int} {p : PyData} (h : Py G (.int i) p) : p = .int i := by cases h; rfl
theorem py_bl {G : DG} {b : Bool} {p : PyData} (h : Py G (.bl b) p) : p = .bool b := by cases h; rfl
theorem shaped_int {i : Int} : SeqAt.shaped (.int i) = true := by simp [SeqAt.shaped, PyData.canLay0, PyData.depth]
theorem shaped_bool {i : Bool} : SeqAt.shaped (.bool i) = true := by simp [SeqAt.shaped, PyData.canLay0, PyData.depth]
theorem eq_int {neg : Bool} {i j : Int} {G : DG} {Q : DK} : eqD neg (.int i) (.int j) G Q = Q (.bl (if neg then !(i == j) else (i == j))) G := by
  apply propext
  constructor
  · rintro ⟨p, q, hp, hq, _, _, h⟩
    rw [py_int hp, py_int hq] at h
    simpa only [PyData.eqv] using h
  · intro h
    exact ⟨_, _, .int i, .int j, shaped_int, shaped_int, by simpa only [PyData.eqv] using h⟩
theorem eq_bl {neg : Bool} {i j : Bool} {G : DG} {Q : DK} : eqD neg (.bl i) (.bl j) G Q = Q (.bl (if neg then !(i == j) else (i == j))) G := by
  apply propext
  constructor
  · rintro ⟨p, q, hp, hq, _, _, h⟩
    rw [py_bl hp, py_bl hq] at h
    simpa only [PyData.eqv] using h
  · intro h
    exact ⟨_, _, .bl i, .bl j, shaped_bool, shaped_bool, by simpa only [PyData.eqv] using h⟩
theorem eq_int0 {i j : Int} {G : DG} {Q : DK} : eqD false (.int i) (.int j) G Q = Q (.bl (i == j)) G := eq_int
theorem eq_int1 {i j : Int} {G : DG} {Q : DK} : eqD true (.int i) (.int j) G Q = Q (.bl (!(i == j))) G := eq_int
theorem eq_bl0 {i j : Bool} {G : DG} {Q : DK} : eqD false (.bl i) (.bl j) G Q = Q (.bl (i == j)) G := eq_bl
theorem eq_bl1 {i j : Bool} {G : DG} {Q : DK} : eqD true (.bl i) (.bl j) G Q = Q (.bl (!(i == j))) G := eq_bl
/-! ### loops -/
theorem forGo_inv {chk : DG → Prop} {g : DGt} {b : DS} {E : DEnds} (Inv : List D → DSt → DG → Prop)
    (hc : ∀ ds ρ G, Inv ds ρ G → chk G)
    (hs : ∀ d ds ρ G (X : DSt → DG → Prop), Inv (d :: ds) ρ G → (∀ ρ' G', Inv ds ρ' G' → X ρ' G') → g d ρ G fun ρ' G' => b { E with nx := X, ct := X, bk := E.nx } ρ' G')
    (he : ∀ ρ G, Inv [] ρ G → E.nx ρ G) : ∀ (ds : List D) (ρ : DSt) (G : DG), Inv ds ρ G → forGo chk g b E ds ρ G
  | [], ρ, G, h => ⟨hc _ _ _ h, he ρ G h⟩
  | d :: ds, ρ, G, h => ⟨hc _ _ _ h, hs d ds ρ G _ h fun ρ' G' q => forGo_inv Inv hc hs he ds ρ' G' q⟩
theorem lcGo_inv {chk : DG → Prop} {g : DGt} {te : DE} {ρ : DSt} {fin : List D → DG → Prop} (I : DG → Prop) (P : D → D → Prop)
    (hc : ∀ G, I G → chk G) : ∀ (items acc : List D) (G : DG),
    (∀ d, d ∈ items → ∀ G K, I G → (∀ y G', P d y → I G' → K y G') → g d ρ G fun ρ2 G2 => te ρ2 G2 K) →
    I G → acc.length + items.length ≤ sizeLine →
    (∀ ys G', Paired P items ys → I G' → fin (acc ++ ys) G') → lcGo chk g dYes te ρ fin items acc G
  | [], acc, G, hs, hI, hl, hf => ⟨hc _ hI, by have h := hf [] G .nil hI; rwa [List.append_nil] at h⟩
  | d :: ds, acc, G, hs, hI, hl, hf => by
    rw [List.length_cons] at hl
    refine ⟨hc _ hI, ?_⟩
    refine hs d (List.mem_cons_self ..) G (fun y G4 => acc.length < sizeLine ∧ lcGo chk g dYes te ρ fin ds (acc ++ [y]) G4) hI fun y G' hp hI' => ⟨by omega, ?_⟩
    refine lcGo_inv I P hc ds (acc ++ [y]) G' (fun e he => hs e (List.mem_cons_of_mem _ he)) hI' (by rw [List.length_append]; show acc.length + 1 + ds.length ≤ sizeLine; omega) fun ys G'' hq hI'' => ?_
    have h := hf (y :: ys) G'' (.cons hp hq) hI''
    rwa [List.append_assoc]
theorem paired_all {α β : Type} {P : β → Prop} : ∀ {xs : List α} {ys : List β}, Paired (fun _ y => P y) xs ys → ∀ y ∈ ys, P y
  | _, _, .nil, y, h => nomatch h
  | _, _, .cons q t, y, h => by
    rcases List.mem_cons.mp h with rfl | h
    · exact q
    · exact paired_all t y h
theorem paired_map {α β : Type} {f : α → β} : ∀ {xs : List α} {ys : List β}, Paired (fun x y => y = f x) xs ys → ys = xs.map f
  | _, _, .nil => rfl
  | _, _, .cons q t => by rw [List.map_cons, q, paired_map t]
theorem rng_mem {n : Nat} {d : D} {lo : Int} (h : d ∈ rngD lo n) : ∃ i : Nat, i < n ∧ d = .int (lo + (i : Int)) := by
  obtain ⟨i, hi, e⟩ := List.mem_map.mp h
  exact ⟨i, List.mem_range.mp hi, e.symm⟩
/-! ### stores -/
theorem Feed.upd {f p : Addr} {G : DG} {o : DO} (F : Feed f G) (h : p ≠ f) : Feed f (G.upd p o) := by
  obtain ⟨g, m, a, b, e⟩ := F
  exact ⟨g, m, a, b, by rw [gupd_ne (Ne.symm h)]; exact e⟩
theorem Ext.get {f a : Addr} {G G' : DG} {o : DO} (x : Ext f G G') (n : a ≠ f) (h : G a = some o) : G' a = some o := x a o n h
theorem Feed.ext {f l : Addr} {G G' : DG} (F : Feed f G) (x : Ext l G G') (n : l ≠ f) : Feed f G' := by
  obtain ⟨g, m, a, b, e⟩ := F
  exact ⟨g, m, a, b, x _ _ (Ne.symm n) e⟩
theorem Ext.own {f l : Addr} {G0 G G' : DG} (x : Ext f G0 G) (h : G0 l = none) (y : Ext l G G') : Ext f G0 G' := fun a o n e => by
  have q : a ≠ l := fun z => by rw [z, h] at e; cases e
  exact y a o q (x a o n e)
/-! ### parts -/
end FD

/-! FD12: plain data: what == and isinstance say of them. -/
namespace FD
open PySem L2
/-- plain data of at most k levels -/
def Pl : Nat → D → Prop
  | _, .non => True
  | _, .bl _ => True
  | _, .int _ => True
  | _, .str s => PyData.strOk s = true
  | 0, .tup _ => False
  | k + 1, .tup ds => ds.length ≤ sizeLine ∧ ∀ d ∈ ds, Pl k d
  | _, .fl _ => False
  | _, .ref _ => False
  | _, .ty _ => False
theorem pl_tup {k : Nat} {ds : List D} : Pl (k + 1) (.tup ds) ↔ ds.length ≤ sizeLine ∧ ∀ d ∈ ds, Pl k d := by rw [Pl]
theorem Pl.succ : ∀ {k : Nat} {d : D}, Pl k d → Pl (k + 1) d
  | k, .non, h => by rw [Pl]; trivial
  | k, .bl _, h => by rw [Pl]; trivial
  | k, .int _, h => by rw [Pl]; trivial
  | k, .str s, h => by rw [Pl] at h ⊢; exact h
  | 0, .tup _, h => by rw [Pl] at h; exact h.elim
  | k + 1, .tup ds, h => by
    rw [pl_tup] at h ⊢
    exact ⟨h.1, fun d hd => Pl.succ (h.2 d hd)⟩
  | 0, .fl _, h => by rw [Pl] at h; exact h.elim
  | 0, .ref _, h => by rw [Pl] at h; exact h.elim
  | 0, .ty _, h => by rw [Pl] at h; exact h.elim
  | _ + 1, .fl _, h => by rw [Pl] at h; exact h.elim
  | _ + 1, .ref _, h => by rw [Pl] at h; exact h.elim
  | _ + 1, .ty _, h => by rw [Pl] at h; exact h.elim
theorem Pl.mono {k m : Nat} {d : D} (h : Pl k d) (hm : k ≤ m) : Pl m d := by
  induction hm with
  | refl => exact h
  | step _ ih => exact ih.succ
theorem pl_items {k : Nat} (ih : ∀ d, Pl k d → imm d = true ∧ (toPy d).canLay0 = true ∧ (toPy d).depth ≤ k) : ∀ ds : List D, (∀ d ∈ ds, Pl k d) → imms ds = true ∧ PyData.canLayAll0 (toPys ds) = true ∧ PyData.depthAll (toPys ds) ≤ k
  | [], _ => ⟨by rw [imms], by rw [toPys, PyData.canLayAll0], by rw [toPys, PyData.depthAll]; omega⟩
  | d :: ds, h => by
    obtain ⟨a, b, c⟩ := ih d (h d (List.mem_cons_self ..))
    obtain ⟨a', b', c'⟩ := pl_items ih ds fun e he => h e (List.mem_cons_of_mem _ he)
    refine ⟨by rw [imms, a, a']; rfl, by rw [toPys, PyData.canLayAll0, b, b']; rfl, by rw [toPys, PyData.depthAll]; omega⟩
theorem Pl.im : ∀ {k : Nat} (d : D), Pl k d → imm d = true ∧ (toPy d).canLay0 = true ∧ (toPy d).depth ≤ k
  | k, .non, h => ⟨by rw [imm] <;> intros <;> contradiction, by rw [toPy, PyData.canLay0], by rw [toPy, PyData.depth]; omega⟩
  | k, .bl _, h => ⟨by rw [imm] <;> intros <;> contradiction, by rw [toPy, PyData.canLay0], by rw [toPy, PyData.depth]; omega⟩
  | k, .int _, h => ⟨by rw [imm] <;> intros <;> contradiction, by rw [toPy, PyData.canLay0], by rw [toPy, PyData.depth]; omega⟩
  | k, .str s, h => by
    rw [Pl] at h
    exact ⟨by rw [imm] <;> intros <;> contradiction, by rw [toPy, PyData.canLay0]; exact h, by rw [toPy, PyData.depth]; omega⟩
  | 0, .tup _, h => by rw [Pl] at h; exact h.elim
  | k + 1, .tup ds, h => by
    obtain ⟨a, b, c⟩ := pl_items (fun d => Pl.im (k := k) d) ds (pl_tup.mp h).2
    exact ⟨by rw [imm]; exact a, by rw [toPy, PyData.canLay0]; exact b, by rw [toPy, PyData.depth]; omega⟩
  | 0, .fl _, h => by rw [Pl] at h; exact h.elim
  | 0, .ref _, h => by rw [Pl] at h; exact h.elim
  | 0, .ty _, h => by rw [Pl] at h; exact h.elim
  | _ + 1, .fl _, h => by rw [Pl] at h; exact h.elim
  | _ + 1, .ref _, h => by rw [Pl] at h; exact h.elim
  | _ + 1, .ty _, h => by rw [Pl] at h; exact h.elim
theorem Pl.all {k : Nat} {ds : List D} (h : ∀ d ∈ ds, Pl k d) : imms ds = true ∧ PyData.canLayAll0 (toPys ds) = true ∧ PyData.depthAll (toPys ds) ≤ k := pl_items (fun d => Pl.im d) ds h
theorem Pl.shp {k : Nat} {d : D} (h : Pl k d) (hk : k ≤ 64) : SeqAt.shaped (toPy d) = true := by
  obtain ⟨_, b, c⟩ := h.im
  unfold SeqAt.shaped
  rw [b, decide_eq_true (by omega)]; rfl
theorem shp_lst {k : Nat} {ds : List D} (h : ∀ d ∈ ds, Pl k d) (hk : k ≤ 63) : SeqAt.shaped (.list (toPys ds)) = true := by
  obtain ⟨_, b, c⟩ := Pl.all h
  unfold SeqAt.shaped
  rw [PyData.canLay0, b, PyData.depth, decide_eq_true (by omega)]; rfl
theorem Pl.refl {k : Nat} {d : D} (h : Pl k d) : PyData.eqv (toPy d) (toPy d) = true := SeqAt.eqv_refl _ h.im.2.1
section
variable {G : DG} {Q : DK}
theorem eq_pl {neg : Bool} {k m : Nat} {x y : D} (hx : Pl k x) (hy : Pl m y) (hk : k ≤ 64) (hm : m ≤ 64) (h : Q (.bl (if neg then !PyData.eqv (toPy x) (toPy y) else PyData.eqv (toPy x) (toPy y))) G) : eqD neg x y G Q :=
  eq_imm hx.im.1 hy.im.1 (hx.shp hk) (hy.shp hm) h
theorem eq_pls {neg : Bool} {k m : Nat} {a b : Addr} {xs ys : List D} (ha : G a = some (.lst xs)) (hb : G b = some (.lst ys)) (hx : ∀ d ∈ xs, Pl k d) (hy : ∀ d ∈ ys, Pl m d) (hk : k ≤ 63) (hm : m ≤ 63) (h : Q (.bl (if neg then !PyData.eqvAll (toPys xs) (toPys ys) else PyData.eqvAll (toPys xs) (toPys ys))) G) : eqD neg (.ref a) (.ref b) G Q :=
  eq_lst ha hb (Pl.all hx).1 (Pl.all hy).1 (shp_lst hx hk) (shp_lst hy hm) h
theorem eq_pls1 {k m : Nat} {a b : Addr} {xs ys : List D} (ha : G a = some (.lst xs)) (hb : G b = some (.lst ys)) (hx : ∀ d ∈ xs, Pl k d) (hy : ∀ d ∈ ys, Pl m d) (hk : k ≤ 63) (hm : m ≤ 63) (h : Q (.bl (!PyData.eqvAll (toPys xs) (toPys ys))) G) : eqD true (.ref a) (.ref b) G Q := eq_pls ha hb hx hy hk hm h
theorem isi_ {x : D} {n : String} {b : Bool} (h : isi1 G x (.ty n) = some b) : isiD [x, .ty n] G Q = Q (.bl b) G := by
  show (match isi1 G x (.ty n) with | some b => Q (.bl b) G | Option.none => False) = _
  rw [h]
theorem isis_ {x : D} {cs : List D} {b : Bool} (h : isiAny G x cs = some b) (h1 : allTy cs = true) (h2 : cs ≠ []) : isiD [x, .tup cs] G Q = Q (.bl b) G := by
  show ((allTy cs = true ∧ cs ≠ []) ∧ match isiAny G x cs with | some b => Q (.bl b) G | Option.none => False) = _
  rw [h]
  exact propext ⟨fun h => h.2, fun h => ⟨⟨h1, h2⟩, h⟩⟩
theorem isi1_of {x : D} {n : String} {a c : Ty} (h : tyD G x = some a) (hn : Ty.of n = some c) : isi1 G x (.ty n) = some (Ty.isa a c) := by
  unfold isi1
  rw [h]
  show (Ty.of n).map (Ty.isa a) = _
  rw [hn]; rfl
theorem isi_ty {x : D} {n : String} {a c : Ty} (h : tyD G x = some a) (hn : Ty.of n = some c) : isiD [x, .ty n] G Q = Q (.bl (Ty.isa a c)) G := isi_ (isi1_of h hn)
theorem isi_ty2 {x : D} {n m : String} {a c e : Ty} (h : tyD G x = some a) (hn : Ty.of n = some c) (hm : Ty.of m = some e) : isiD [x, .tup [.ty n, .ty m]] G Q = Q (.bl (Ty.isa a c || Ty.isa a e)) G := by
  refine isis_ ?_ rfl (by simp)
  rw [isiAny, isi1_of h hn, isiAny, isi1_of h hm, isiAny]
  cases Ty.isa a c <;> cases Ty.isa a e <;> rfl
theorem ty_bool : Ty.of "bool" = some .bool := by decide
theorem ty_int : Ty.of "int" = some .int := by decide
theorem ty_str : Ty.of "str" = some .str := by decide
theorem ty_tuple : Ty.of "tuple" = some .tuple := by decide
theorem ty_list : Ty.of "list" = some .list := by decide
theorem tyd_lst {a : Addr} {xs : List D} (h : G a = some (.lst xs)) : tyD G (.ref a) = some .list := by
  unfold tyD
  dsimp only
  rw [h]
theorem all_true {a : Addr} {n : Nat} (h : G a = some (.lst (List.replicate n (.bl true)))) (q : Q (.bl true) G) : allD [.ref a] G Q := by
  refine ⟨List.replicate n true, by rw [List.map_replicate]; exact h, ?_⟩
  rw [show (List.replicate n true).all id = true from List.all_eq_true.mpr fun x hx => by rw [List.eq_of_mem_replicate hx]; rfl]
  exact q
end
end FD

/-! FD13: data as keys: dedupe by a dict, sort by a key. -/
namespace FD
open PySem L2
/-- plain data without truth values, of at most k levels -/
def Pk : Nat → D → Prop
  | _, .non => True
  | _, .bl _ => False
  | _, .int _ => True
  | _, .str s => PyData.strOk s = true
  | 0, .tup _ => False
  | k + 1, .tup ds => ds.length ≤ sizeLine ∧ ∀ d ∈ ds, Pk k d
  | _, .fl _ => False
  | _, .ref _ => False
  | _, .ty _ => False
theorem pk_tup {k : Nat} {ds : List D} : Pk (k + 1) (.tup ds) ↔ ds.length ≤ sizeLine ∧ ∀ d ∈ ds, Pk k d := by rw [Pk]
theorem pk_str {k : Nat} {s : Str} : Pk k (.str s) ↔ PyData.strOk s = true := by cases k <;> rw [Pk]
theorem Pk.no {k : Nat} {d : D} (h : Pk k d) : (∃ ds, d = .tup ds) ∨ d = .non ∨ (∃ i, d = .int i) ∨ ∃ s, d = .str s ∧ PyData.strOk s = true := by
  cases d with
  | tup ds => exact .inl ⟨ds, rfl⟩
  | non => exact .inr (.inl rfl)
  | int i => exact .inr (.inr (.inl ⟨i, rfl⟩))
  | str s => exact .inr (.inr (.inr ⟨s, rfl, pk_str.mp h⟩))
  | bl _ => cases k <;> rw [Pk] at h <;> exact h.elim
  | fl _ => cases k <;> rw [Pk] at h <;> exact h.elim
  | ref _ => cases k <;> rw [Pk] at h <;> exact h.elim
  | ty _ => cases k <;> rw [Pk] at h <;> exact h.elim
theorem Pk.pl : ∀ {k : Nat} {d : D}, Pk k d → Pl k d
  | 0, d, h => by
    rcases h.no with ⟨ds, rfl⟩ | rfl | ⟨i, rfl⟩ | ⟨s, rfl, e⟩
    · rw [Pk] at h; exact h.elim
    · rw [Pl]; trivial
    · rw [Pl]; trivial
    · rw [Pl]; exact e
  | k + 1, d, h => by
    rcases h.no with ⟨ds, rfl⟩ | rfl | ⟨i, rfl⟩ | ⟨s, rfl, e⟩
    · obtain ⟨a, b⟩ := pk_tup.mp h
      exact pl_tup.mpr ⟨a, fun d hd => (b d hd).pl⟩
    · rw [Pl]; trivial
    · rw [Pl]; trivial
    · rw [Pl]; exact e
theorem pk_keys {k : Nat} (ih : ∀ d, Pk k d → ∃ n, nkey d = some n ∧ n.depth ≤ k) : ∀ ds : List D, (∀ d ∈ ds, Pk k d) → ∃ ns, nkeys ds = some ns ∧ NestedKey.depthAll ns ≤ k
  | [], _ => ⟨[], by rw [nkeys], by rw [NestedKey.depthAll]; omega⟩
  | d :: ds, h => by
    obtain ⟨n, e, a⟩ := ih d (h d (List.mem_cons_self ..))
    obtain ⟨ns, e', a'⟩ := pk_keys ih ds fun x hx => h x (List.mem_cons_of_mem _ hx)
    exact ⟨n :: ns, by rw [nkeys, e, e'], by rw [NestedKey.depthAll]; omega⟩
theorem Pk.key : ∀ {k : Nat} (d : D), Pk k d → ∃ n, nkey d = some n ∧ n.depth ≤ k
  | 0, d, h => by
    rcases h.no with ⟨ds, rfl⟩ | rfl | ⟨i, rfl⟩ | ⟨s, rfl, e⟩
    · rw [Pk] at h; exact h.elim
    · exact ⟨_, by rw [nkey], by rw [NestedKey.depth]; omega⟩
    · exact ⟨_, by rw [nkey], by rw [NestedKey.depth]; omega⟩
    · exact ⟨_, by rw [nkey], by rw [NestedKey.depth]; omega⟩
  | k + 1, d, h => by
    rcases h.no with ⟨ds, rfl⟩ | rfl | ⟨i, rfl⟩ | ⟨s, rfl, e⟩
    · obtain ⟨ns, e, a⟩ := pk_keys (fun d => Pk.key (k := k) d) ds (pk_tup.mp h).2
      exact ⟨.tup ns, by rw [nkey, e]; rfl, by rw [NestedKey.depth]; omega⟩
    · exact ⟨_, by rw [nkey], by rw [NestedKey.depth]; omega⟩
    · exact ⟨_, by rw [nkey], by rw [NestedKey.depth]; omega⟩
    · exact ⟨_, by rw [nkey], by rw [NestedKey.depth]; omega⟩
theorem pk_injs {k : Nat} (ih : ∀ a b, Pk k a → Pk k b → nkey a = nkey b → a = b) : ∀ as bs : List D, (∀ d ∈ as, Pk k d) → (∀ d ∈ bs, Pk k d) → nkeys as = nkeys bs → as = bs
  | [], [], _, _, _ => rfl
  | [], b :: bs, _, hb, e => by
    obtain ⟨ns, e', _⟩ := pk_keys (fun d => Pk.key d) (b :: bs) hb
    obtain ⟨n, q, _⟩ := Pk.key b (hb b (List.mem_cons_self ..))
    obtain ⟨m, q', _⟩ := pk_keys (fun d => Pk.key d) bs fun x hx => hb x (List.mem_cons_of_mem _ hx)
    rw [nkeys, nkeys, q, q'] at e
    cases e
  | b :: bs, [], hb, _, e => by
    obtain ⟨n, q, _⟩ := Pk.key b (hb b (List.mem_cons_self ..))
    obtain ⟨m, q', _⟩ := pk_keys (fun d => Pk.key d) bs fun x hx => hb x (List.mem_cons_of_mem _ hx)
    rw [nkeys, nkeys, q, q'] at e
    cases e
  | a :: as, b :: bs, ha, hb, e => by
    obtain ⟨n, q, _⟩ := Pk.key b (hb b (List.mem_cons_self ..))
    obtain ⟨m, q', _⟩ := pk_keys (fun d => Pk.key d) bs fun x hx => hb x (List.mem_cons_of_mem _ hx)
    obtain ⟨n2, q2, _⟩ := Pk.key a (ha a (List.mem_cons_self ..))
    obtain ⟨m2, q2', _⟩ := pk_keys (fun d => Pk.key d) as fun x hx => ha x (List.mem_cons_of_mem _ hx)
    rw [nkeys, nkeys, q, q', q2, q2'] at e
    injection e with e
    injection e with e1 e2
    rw [ih a b (ha a (List.mem_cons_self ..)) (hb b (List.mem_cons_self ..)) (by rw [q, q2, e1]), pk_injs ih as bs (fun x hx => ha x (List.mem_cons_of_mem _ hx)) (fun x hx => hb x (List.mem_cons_of_mem _ hx)) (by rw [q', q2', e2])]
theorem Pk.inj : ∀ {k : Nat} (a b : D), Pk k a → Pk k b → nkey a = nkey b → a = b
  | k, a, b, ha, hb, e => by
    rcases ha.no with ⟨as, rfl⟩ | rfl | ⟨i, rfl⟩ | ⟨s, rfl, _⟩ <;> rcases hb.no with ⟨bs, rfl⟩ | rfl | ⟨j, rfl⟩ | ⟨t, rfl, _⟩
    · cases k with
      | zero => rw [Pk] at ha; exact ha.elim
      | succ k =>
        have ha' := (pk_tup.mp ha).2
        have hb' := (pk_tup.mp hb).2
        obtain ⟨ns, q, _⟩ := pk_keys (fun d => Pk.key d) as ha'
        obtain ⟨ms, q', _⟩ := pk_keys (fun d => Pk.key d) bs hb'
        rw [nkey, nkey, q, q'] at e
        injection e with e
        injection e with e
        rw [pk_injs (fun a b => Pk.inj (k := k) a b) as bs ha' hb' (by rw [q, q', e])]
    all_goals (try (obtain ⟨n1, q1, _⟩ := Pk.key _ ha; obtain ⟨n2, q2, _⟩ := Pk.key _ hb; first | rfl | (exfalso; cases k with | zero => (first | (rw [Pk] at ha; exact ha.elim) | (rw [Pk] at hb; exact hb.elim) | (simp only [nkey] at e; cases e)) | succ k => (first | (obtain ⟨ns, q, _⟩ := pk_keys (fun d => Pk.key d) _ (pk_tup.mp ha).2; rw [nkey, nkey, q] at e; cases e) | (obtain ⟨ns, q, _⟩ := pk_keys (fun d => Pk.key d) _ (pk_tup.mp hb).2; rw [nkey, nkey, q] at e; cases e) | (simp only [nkey] at e; cases e)))))
    all_goals (rw [nkey, nkey] at e; injection e with e; injection e with e; rw [e])
theorem Pk.ok {k : Nat} {ds : List D} (h : Pk k (.tup ds)) (hk : k ≤ 8) : okKey (.tup ds) = true := by
  obtain ⟨n, e, a⟩ := Pk.key _ h
  unfold okKey
  rw [e]
  show (isTup (.tup ds) && decide (n.depth ≤ 8)) = true
  rw [decide_eq_true (by omega)]; rfl
/-! ### dedupe -/
/-! ### sorting by a key -/
theorem Keep.own {l : Addr} {G0 G G' : DG} (x : Keep G0 G) (h : G0 l = none) (y : Ext l G G') : Keep G0 G' := fun a o e => by
  have q : a ≠ l := fun z => by rw [z, h] at e; cases e
  exact y a o q (x a o e)
end FD

/-! FD14: in, ord, str, names of the top that stand for numbers and texts. -/
namespace FD
open PySem PySem.Spec PyProof.Rows L2
/-! ### x in y -/
section
variable {X : DCx} {pos p p2 : Pos} {a b e : Expr} {es : List Expr} {da db : DE} {t : DA} {k : Nat}
/-! ### ord(c), str(i) -/
def ordC : RCD := fun ds G Q => match ds with
  | [.str x] => x.length = 1 ∧ Q (.int (x.cps.getD 0 0 : Nat)) G
  | _ => False
def strC : RCD := fun ds G Q => match ds with
  | [.int i] => i.natAbs.log2 < 1920 ∧ Q (.str (toString i)) G
  | [.str s] => Q (.str s) G
  | _ => False
/-! ### names of the top -/
end
end FD

/-! FD15: set comprehensions whose members are tuples, len of such a set. -/
namespace FD
open PySem PySem.Spec PyProof.Rows L2
section
variable {X : DCx}
end
/-! ### the reading -/
/-! ### len of it -/
end FD

/-! FD16: match statements: texts, names, _, |, and rows of these. -/
namespace FD
open PySem PySem.Spec PyProof.Rows L2
def lowS (B : Bs) (t : DS) : TS := fun F σ H => ∃ ρ G E, RpS B.K H ρ σ ∧ Wld B G H ∧ t E ρ G ∧ KtE B G H E F
section
variable {X : DCx}
theorem PDSs.low {sts : List Stmt} {t : DS} (h : PDSs X sts t) : PSs X sts (lowS (bs X) t) := by
  obtain ⟨te, p, l⟩ := h
  exact ⟨fun pins s σ H F I q => by
    obtain ⟨ρ, G, E, a, b, c, d⟩ := q
    exact p.run pins s σ H F I (l ρ σ G H E F a b c d)⟩
/-! ### patterns -/
abbrev DP := D → DG → (Option (List D) → Prop) → Prop
abbrev DPs := List D → DG → (Option (List D) → Prop) → Prop
/-- how a pattern ends: none, or the values that its names get -/
def PatEnd (X : DCx) (pins : List (Addr × Obj)) (σ : L2.St) (H : Hp) (ns : List Str) (Q : Option (List D) → Prop) (r : Option (List (Str × Value))) (s' : Shared) : Prop :=
  Inv X pins σ H s' ∧ ((r = none ∧ Q none) ∨ ∃ us vs ds, r = some (ns.zip us) ∧ us.length = ns.length ∧ Vals vs us ∧ RpL X.K H ds vs ∧ Q (some ds))
structure PDM (X : DCx) (p : Pattern) (ns : List Str) (t : DP) : Prop where
  run : ∀ (pins : List (Addr × Obj)) (s : Shared) (σ : L2.St) (H : Hp) (G : DG) (d : D) (v : V) (u : Value) (Q : Option (List D) → Prop), Inv X pins σ H s → Wld (bs X) G H → Rp X.K H d v → RelV v u → t d G Q →
    wpAny (model X.prog X.w) X.A (matchPattern p X.env u) (PatEnd X pins σ H ns Q) X.xe s
structure PDMs (X : DCx) (ps : List Pattern) (ns : List Str) (t : DPs) : Prop where
  run : ∀ (pins : List (Addr × Obj)) (s : Shared) (σ : L2.St) (H : Hp) (G : DG) (ds : List D) (vs : List V) (us : List Value) (Q : Option (List D) → Prop), Inv X pins σ H s → Wld (bs X) G H → RpL X.K H ds vs → Vals vs us → ds.length = ps.length → t ds G Q →
    wpAny (model X.prog X.w) X.A (matchEach ps X.env us) (PatEnd X pins σ H ns Q) X.xe s
def mWild : DP := fun _ _ Q => Q (some [])
/-- one of several patterns that bind nothing -/
structure PDF (X : DCx) (ps : List Pattern) (t : DP) : Prop where
  run : ∀ (pins : List (Addr × Obj)) (s : Shared) (σ : L2.St) (H : Hp) (G : DG) (d : D) (v : V) (u : Value) (Q : Option (List D) → Prop), Inv X pins σ H s → Wld (bs X) G H → Rp X.K H d v → RelV v u → t d G Q →
    wpAny (model X.prog X.w) X.A (matchFirst ps X.env u) (PatEnd X pins σ H [] Q) X.xe s
/-! ### cases -/
def bindD (ρ : DSt) : List Nat → List D → DSt
  | i :: is, d :: ds => bindD (ρ.set i (some d)) is ds
  | _, _ => ρ
abbrev DCs := D → DS
def cNil : DCs := fun _ E ρ G => E.nx ρ G
def cCons (p : DP) (is : List Nat) (b : DS) (r : DCs) : DCs := fun x E ρ G => p x G fun o => match o with
  | none => r x E ρ G
  | some ds => b E (bindD ρ is ds) G
def dMatch (t : DE) (r : DCs) : DS := fun E ρ G => t ρ G fun x G1 => r x E ρ G1
structure PDCa (X : DCx) (cs : List MatchCase) (t : DCs) : Prop where
  run : ∀ (first : Bool) (pins : List (Addr × Obj)) (s : Shared) (σ : L2.St) (H : Hp) (G : DG) (ρ : DSt) (d : D) (v : V) (u : Value) (E : DEnds) (F : Ends), Inv X pins σ H s → Wld (bs X) G H → RpS X.K H ρ σ → Rp X.K H d v → RelV v u → t d E ρ G → KtE (bs X) G H E F →
    wpAny (model X.prog X.w) X.A (matchCases cs X.env u first) (SP X pins F) X.xe s
end
end FD

/-! FD17: more steps of readings (or, not, chains, match, texts), comprehensions with a condition, data with bounds. -/
namespace FD
open PySem L2
section
variable {E : DEnds} {ρ : DSt} {G : DG} {Q : DK} {QT : Bool → DG → Prop} {QI : DIt → DG → Prop} {ta tb tc te : DE} {g : DGt} {tt : DT}
def kOr (tb : DE) (ρ : DSt) (Q : DK) (x : D) (k : Bool) (G : DG) : Prop := if k = true then Q x G else tb ρ G Q
def kCh (rd' : R2D) (tc : DE) (ρ : DSt) (Q : DK) (y z : D) (G : DG) : Prop := match z with
  | .bl k => if k = true then tc ρ G fun u G4 => rd' y u G4 Q else Q (.bl false) G
  | _ => False
theorem or_ : dOr ta tb ρ G Q = ta ρ G fun x G1 => trD x G1 (kOr tb ρ Q x) := rfl
theorem kor_t {x : D} : kOr tb ρ Q x true G = Q x G := rfl
theorem kor_f {x : D} : kOr tb ρ Q x false G = tb ρ G Q := rfl
theorem not_ : dNot ta ρ G Q = ta ρ G fun x G1 => trD x G1 fun k G2 => Q (.bl (!k)) G2 := rfl
theorem chain_ {rd rd' : R2D} : dChain rd rd' ta tb tc ρ G Q = ta ρ G fun x G1 => tb ρ G1 fun y G2 => rd x y G2 (kCh rd' tc ρ Q y) := rfl
theorem kch_t {rd' : R2D} {y : D} : kCh rd' tc ρ Q y (.bl true) G = tc ρ G fun u G4 => rd' y u G4 Q := rfl
theorem kch_f {rd' : R2D} {y : D} : kCh rd' tc ρ Q y (.bl false) G = Q (.bl false) G := rfl
theorem ord_str {f : Int → Int → Bool} {h : List Nat → List Nat → Bool} {s t : Str} : ordD f h (.str s) (.str t) G Q = Q (.bl (h s.cps.toList t.cps.toList)) G := rfl
theorem len_str {s : Str} : lenD [.str s] G Q = (s.length ≤ sizeLine ∧ Q (.int s.length) G) := rfl
theorem ordc_ {x : Str} : ordC [.str x] G Q = (x.length = 1 ∧ Q (.int (x.cps.getD 0 0 : Nat)) G) := rfl
theorem strc_int {i : Int} : strC [.int i] G Q = (i.natAbs.log2 < 1920 ∧ Q (.str (toString i)) G) := rfl
theorem val_str {z : Str} : diVal (.str z) G QI = QI ⟨signs z, fun _ => True⟩ G := rfl
theorem add_str {s t : Str} : addD (.str s) (.str t) G Q = (s.length + t.length ≤ sizeLine ∧ Q (.str (s ++ t)) G) := rfl
theorem sl_strD {s : Str} {lo hi : Option Int} : slD (.str s) lo hi G Q = (s.length ≤ sizeLine ∧ Q (.str (cutS s lo hi)) G) := rfl
theorem match_ {r : DCs} : dMatch te r E ρ G = te ρ G fun x G1 => r x E ρ G1 := rfl
def kC (is : List Nat) (b : DS) (r : DCs) (x : D) (E : DEnds) (ρ : DSt) (G : DG) (o : Option (List D)) : Prop := match o with
  | none => r x E ρ G
  | some ds => b E (bindD ρ is ds) G
theorem cc_ {p : DP} {is : List Nat} {b : DS} {r : DCs} {x : D} : cCons p is b r x E ρ G = p x G (kC is b r x E ρ G) := rfl
theorem kc_n {is : List Nat} {b : DS} {r : DCs} {x : D} : kC is b r x E ρ G none = r x E ρ G := rfl
theorem kc_s {is : List Nat} {b : DS} {r : DCs} {x : D} {ds : List D} : kC is b r x E ρ G (some ds) = b E (bindD ρ is ds) G := rfl
theorem cn_ {x : D} : cNil x E ρ G = E.nx ρ G := rfl
theorem wild_ {x : D} {Qo : Option (List D) → Prop} : mWild x G Qo = Qo (some []) := rfl
/-- [f x for x in items if p x] -/
theorem lcGo_flt {chk : DG → Prop} {fin : List D → DG → Prop} (I : DG → Prop) (p : D → Bool) (f : D → D) (hc : ∀ G, I G → chk G) : ∀ (items acc : List D) (G : DG),
    (∀ d, d ∈ items → ∀ (G : DG) (Ky : DK) (Kn : DG → Prop), I G → (p d = true → ∀ G', I G' → Ky (f d) G') → (p d = false → ∀ G', I G' → Kn G') → g d ρ G fun ρ2 G2 => tt ρ2 G2 fun b G3 => if b = true then te ρ2 G3 Ky else Kn G3) →
    I G → acc.length + items.length ≤ sizeLine → (∀ G', I G' → fin (acc ++ (items.filter p).map f) G') → lcGo chk g tt te ρ fin items acc G
  | [], acc, G, _, hI, _, hf => ⟨hc _ hI, by have h := hf G hI; rwa [List.filter_nil, List.map_nil, List.append_nil] at h⟩
  | d :: ds, acc, G, hs, hI, hl, hf => by
    rw [List.length_cons] at hl
    refine ⟨hc _ hI, ?_⟩
    refine hs d (List.mem_cons_self ..) G (fun y G4 => acc.length < sizeLine ∧ lcGo chk g tt te ρ fin ds (acc ++ [y]) G4) (fun G3 => lcGo chk g tt te ρ fin ds acc G3) hI (fun hp G' hI' => ⟨by omega, ?_⟩) fun hp G' hI' => ?_
    · refine lcGo_flt I p f hc ds (acc ++ [f d]) G' (fun e he => hs e (List.mem_cons_of_mem _ he)) hI' (by rw [List.length_append]; show acc.length + 1 + ds.length ≤ sizeLine; omega) fun G'' hI'' => ?_
      have h := hf G'' hI''
      rwa [List.filter_cons_of_pos hp, List.map_cons, ← List.singleton_append, ← List.append_assoc] at h
    · refine lcGo_flt I p f hc ds acc G' (fun e he => hs e (List.mem_cons_of_mem _ he)) hI' (by omega) fun G'' hI'' => ?_
      have h := hf G'' hI''
      rwa [List.filter_cons_of_neg (by rw [hp]; decide)] at h
end
/-! ### data with bounds -/
/-- plain data of at most k levels, rows of at most b items, texts of at most 1000 signs -/
def Pb (b : Nat) : Nat → D → Prop
  | _, .non => True
  | _, .bl _ => True
  | _, .int _ => True
  | _, .str s => PyData.strOk s = true ∧ s.length ≤ 1000
  | 0, .tup _ => False
  | k + 1, .tup ds => ds.length ≤ b ∧ ∀ d ∈ ds, Pb b k d
  | _, .fl _ => False
  | _, .ref _ => False
  | _, .ty _ => False
section
variable {b k : Nat}
theorem pb_tup {ds : List D} : Pb b (k + 1) (.tup ds) ↔ ds.length ≤ b ∧ ∀ d ∈ ds, Pb b k d := by rw [Pb]
theorem pb_str {s : Str} : Pb b k (.str s) ↔ PyData.strOk s = true ∧ s.length ≤ 1000 := by cases k <;> rw [Pb]
theorem pb_non : Pb b k .non := by cases k <;> rw [Pb] <;> trivial
theorem pb_int {i : Int} : Pb b k (.int i) := by cases k <;> rw [Pb] <;> trivial
theorem pb_bl {i : Bool} : Pb b k (.bl i) := by cases k <;> rw [Pb] <;> trivial
end
theorem Pb.no {b k : Nat} {d : D} (h : Pb b k d) : (∃ ds, d = .tup ds) ∨ d = .non ∨ (∃ i, d = .int i) ∨ (∃ i, d = .bl i) ∨ ∃ s, d = .str s ∧ PyData.strOk s = true ∧ s.length ≤ 1000 := by
  cases d with
  | tup ds => exact .inl ⟨ds, rfl⟩
  | non => exact .inr (.inl rfl)
  | int i => exact .inr (.inr (.inl ⟨i, rfl⟩))
  | bl i => exact .inr (.inr (.inr (.inl ⟨i, rfl⟩)))
  | str s => exact .inr (.inr (.inr (.inr ⟨s, rfl, pb_str.mp h⟩)))
  | fl _ => cases k <;> rw [Pb] at h <;> exact h.elim
  | ref _ => cases k <;> rw [Pb] at h <;> exact h.elim
  | ty _ => cases k <;> rw [Pb] at h <;> exact h.elim
theorem Pb.mono : ∀ {b c k m : Nat} {d : D}, Pb b k d → b ≤ c → k ≤ m → Pb c m d
  | b, c, 0, m, d, h, hb, hk => by
    rcases h.no with ⟨ds, rfl⟩ | rfl | ⟨i, rfl⟩ | ⟨i, rfl⟩ | ⟨s, rfl, e⟩
    · rw [Pb] at h; exact h.elim
    · exact pb_non
    · exact pb_int
    · exact pb_bl
    · exact pb_str.mpr e
  | b, c, k + 1, m, d, h, hb, hk => by
    rcases h.no with ⟨ds, rfl⟩ | rfl | ⟨i, rfl⟩ | ⟨i, rfl⟩ | ⟨s, rfl, e⟩
    · obtain ⟨m, rfl⟩ : ∃ m', m = m' + 1 := ⟨m - 1, by omega⟩
      obtain ⟨h1, h2⟩ := pb_tup.mp h
      exact pb_tup.mpr ⟨by omega, fun d hd => (h2 d hd).mono hb (by omega)⟩
    · exact pb_non
    · exact pb_int
    · exact pb_bl
    · exact pb_str.mpr e
theorem Pb.pl : ∀ {b k : Nat} {d : D}, Pb b k d → b ≤ sizeLine → Pl k d
  | b, 0, d, h, hb => by
    rcases h.no with ⟨ds, rfl⟩ | rfl | ⟨i, rfl⟩ | ⟨i, rfl⟩ | ⟨s, rfl, e⟩
    · rw [Pb] at h; exact h.elim
    all_goals rw [Pl]
    all_goals first | trivial | exact e.1
  | b, k + 1, d, h, hb => by
    rcases h.no with ⟨ds, rfl⟩ | rfl | ⟨i, rfl⟩ | ⟨i, rfl⟩ | ⟨s, rfl, e⟩
    · obtain ⟨h1, h2⟩ := pb_tup.mp h
      exact pl_tup.mpr ⟨by omega, fun d hd => (h2 d hd).pl hb⟩
    all_goals rw [Pl]
    all_goals first | trivial | exact e.1
theorem Pb.items {b k : Nat} {ds : List D} (h : Pb b k (.tup ds)) : ds.length ≤ b ∧ ∀ d ∈ ds, Pb b k d := by
  cases k with
  | zero => rw [Pb] at h; exact h.elim
  | succ k =>
    obtain ⟨h1, h2⟩ := pb_tup.mp h
    exact ⟨h1, fun d hd => (h2 d hd).mono (Nat.le_refl _) (Nat.le_succ _)⟩
end FD

/-! FD18: an own exception whose __init__ is «super().__init__(x); self.f = x»: its making, at the model's level. -/
namespace FD
open PySem PySem.W PySem.Calls PyProof.Rows L2 PySem.HandSPX
section
variable {prog : Program} {w : World} {A : Around} {R : Result → Shared → Prop} {hp : Heap} {g : Array GenState} {dr : Drawn} {t : Nat} {os : OsState} {K : PySem.W.Frag} {mg : Str → Option Value} {base : Heap}
/-- what the written part tells of the class C and of its __init__ at fI -/
structure XInit (K : PySem.W.Frag) (P : Program) (C fI : Addr) (x fld : Str) : Prop where
  fn : ∃ (oc : Value) (od : Option Addr) (qual : Str) (params : Arguments) (scope : Scope) (dV kV doc pm : Value) (an : Option Addr) (cda : Addr) (ct : Value) (cc : Addr) (osl : Array (Option Value)) (p0 p1 p2 p3 p4 p5 p6 p7 p8 p9 : Pos) (ar : Arg) (ccl : Value) (cdd : Option Addr) (vs : Array Value) (ccs : Array (Option Value)) (file : Str) (tf : Tok) (cl : Value) (cld : Option Addr) (csl : Array (Option Value)),
    K.lookup fI = some ⟨oc, od, .func (ksFn "__init__" qual params [.Expr (.Call (.Attribute (.Call (.Name "super" p0) [] [] p1) "__init__" p2) [.Name x p3] [] p4) p5, .Assign [.Attribute (.Name "self" p6) fld p7] (.Name x p8) p9] scope dV kV doc pm an (.ref cda) ct cc), osl⟩ ∧
    codeIn K (.ref cda) qual = true ∧ (params.posonlyargs ++ params.args).head? = some ar ∧ ar.arg = "self" ∧
    (∀ a u, bindArgs (ksFn "__init__" qual params [.Expr (.Call (.Attribute (.Call (.Name "super" p0) [] [] p1) "__init__" p2) [.Name x p3] [] p4) p5, .Assign [.Attribute (.Name "self" p6) fld p7] (.Name x p8) p9] scope dV kV doc pm an (.ref cda) ct cc) ⟨[a, u], []⟩ = pure [(("self" : Str), a), (x, u)]) ∧
    (scope.names.lookup ("super" : Str) = some .globalImplicit ∧ scope.names.lookup ("__class__" : Str) = some .free ∧ scope.names.lookup ("self" : Str) = some .local ∧ scope.names.lookup x = some .local ∧ scope.kind = .function ∧ (∀ y ∈ scope.names, y.2 ≠ .cell) ∧ scope.isCoroutine = false ∧ scope.isGenerator = false) ∧
    (∀ L, interactive (ksEnv qual scope L fI (.ref cda) cc) = false ∧ swapsWith (.Call (.Attribute (.Call (.Name "super" p0) [] [] p1) "__init__" p2) [.Name x p3] [] p4) none p5.line (ksEnv qual scope L fI (.ref cda) cc) = pure false ∧ swapsWith (.Name x p8) (some (.Attribute (.Name "self" p6) fld p7)) p9.line (ksEnv qual scope L fI (.ref cda) cc) = pure false ∧
      ∃ pl : Sem Bool, eval (.Call (.Attribute (.Call (.Name "super" p0) [] [] p1) "__init__" p2) [.Name x p3] [] p4) (ksEnv qual scope L fI (.ref cda) cc) = (do
        let ov ← attributeBase (.Call (.Name "super" p0) [] [] p1) "__init__" (ksEnv qual scope L fI (.ref cda) cc) (eval (.Call (.Name "super" p0) [] [] p1) (ksEnv qual scope L fI (.ref cda) cc))
        standAt p2.atName
        let (f, first) ← holding [ov] (getMethod ov "__init__" pl)
        callWith p4 f first (backTo p4 (starEach [.Name x p3] (ksEnv qual scope L fI (.ref cda) cc))) [])) ∧
    K.lookup cda = some ⟨ccl, cdd, .fields vs, ccs⟩ ∧ vs[2]? = some (.str file tf) ∧ ((P.main.file : Str) == file) = true ∧ K.lookup cc = some ⟨cl, cld, .cell (some (.ref C)), csl⟩
  top : (P.main.scope.names.lookup ("super" : Str)).isSome = false
  xs : x ≠ "self" ∧ (x == ("__debug__" : Str)) = false
  cls : ∃ cd, clsIn K C = some cd ∧ cd.hasDict = true ∧ refsVE cd.mro = true
  sub : mroIn K C (.ref C) = some true
  ho : nsIn K cStatics "thirdparty.any" = some none
  sup : ks_superIn K C C "__init__" = some (some (.builtin "ValueError.__init__"))
  ve : subIn K (.ref C) (.type "ValueError") = some true
  nw : excInitIn K C veTail "ValueError.__new__" = true
  sa : findIn K (.ref C) "__setattr__" = some (some (.builtin "object.__setattr__"))
  no : findIn K (.ref C) fld = some none
theorem xi_run {C fI a t0 : Addr} {x fld : Str} {u : Value} (T : XInit K prog C fI x fld) (MO : Mod K mg base) (bk : ∀ b o, base.get? b = some o → hp.get? b = some o) (hsuper : mg "super" = none) (hroom : A.depth < recursionLimit) (hab : base.get? a = none) (ha : hp.get? a = some (excO C t0))
    (hq : ∀ h' tk' dx t1, (∀ b o, b ≠ a → hp.get? b = some o → h'.get? b = some o) → hp.objs.size ≤ dx → h'.get? a = some ({ cls := .ref C, dict := some dx, data := .fields #[.ref t1, .none, .none, .none, .bool false, .none] } : Obj) → h'.Ns1 dx (fun y => if y = fld then some u else none) → R (.ok (.ret .none)) ⟨h', g, dr, tk', os⟩) :
    codeAny (model prog w) A (.call (.ref fI) ⟨[.ref a, u], []⟩) R ⟨hp, g, dr, t, os⟩ := by
  obtain ⟨oc, od, qual, params, scope, dV, kV, doc, pm, an, cda, ct, cc, osl, p0, p1, p2, p3, p4, p5, p6, p7, p8, p9, ar, ccl, cdd, vs, ccs, file, tf, cl, cld, csl, lk, hcd, hpar, har, hbd, ⟨hks, hkc, hka, hkx, hk, hcell, hco, hgen⟩, hsh, hcode, hvs, hfile, hcc⟩ := T.fn
  obtain ⟨cd, hcl, hdi, hmro⟩ := T.cls
  have KX : K.In hp := MO.kin.keeps bk
  have hxs := T.xs
  refine ks_codeAny_call_defAt (s := ⟨hp, g, dr, t, os⟩) (binds := [(("self" : Str), .ref a), (x, u)]) hroom (KX _ _ lk) rfl (MO.nolimit.keeps bk) (codeRec_of KX hcd) rfl (BindsTo.of_eq (hbd _ _)) hcell (fun y hy => ?_) (fun h1 hns k1 => ?_) hco hgen hk
  · simp only [List.mem_cons, List.not_mem_nil, or_false] at hy
    rcases hy with rfl | rfl
    · exact hka
    · exact hkx
  have KX1 : K.In h1 := KX.keeps k1
  have bk1 : ∀ b o, base.get? b = some o → h1.get? b = some o := fun b o e => k1 b o (bk b o e)
  have ha1 := k1 _ _ ha
  have I1 : InstAt h1 a (excO C t0) C none := ⟨ha1, rfl, rfl, trivial⟩
  obtain ⟨mb, hb1, hb2⟩ := MO.blt
  obtain ⟨oD, hD1, hD2⟩ : ∃ oD, h1.get? C = some oD ∧ oD.data = .cls cd := by
    have hcl' := hcl
    unfold clsIn at hcl'
    split at hcl'
    · rename_i c d cd' sl ho
      cases hcl'
      exact ⟨_, KX1 _ _ ho, rfl⟩
    · cases hcl'
  obtain ⟨hi, hs1, hs2, pl, he⟩ := hsh hp.objs.size
  show PySem.wpAt (model prog w) (A.deeper (ksEnv qual scope hp.objs.size fI (.ref cda) cc)) (.func _ (ksEnv qual scope hp.objs.size fI (.ref cda) cc)) (execs _ (ksEnv qual scope hp.objs.size fI (.ref cda) cc)) _ _ _
  refine ks_wpAt_execs_cons (ks_wpAt_Expr_any (ks_wpAt_MethodCall (pl := pl) ?_ he) hi hs1)
  refine ks_wpAt_super_base (ar := ar) hks hkc rfl rfl (KX1 _ _ lk) rfl hpar rfl (KX1 _ _ hcode) rfl hvs hfile T.top ?_
  refine ks_loadName_global hk hks (loadGlobal_builtin (MO.glob.keeps bk1) hsuper (hb1.keeps bk1) ((hb2 _ (by decide +kernel)).trans PyProof.Rows.Boot.«super») ⟨rfl, ?_⟩)
  refine wpAny_loadName_free hk hkc rfl ⟨_, KX1 _ _ hcc, rfl⟩ ?_
  refine wpAny_loadName_local hk (by rw [har]; exact hka) hns (by rw [har]; show List.lookup ("self" : Str) [(x, u), (("self" : Str), Value.ref a)] = some (Value.ref a); rw [List.lookup_cons, beq_eq_false_iff_ne.mpr (Ne.symm hxs.1)]; rfl) ?_
  refine ks_wpAny_isType_cls hD1 hD2 ⟨rfl, ?_⟩
  refine ks_wpAny_call_super hD1 hD2 ha1 rfl (fun c e => by cases e) (looks_mroIn KX1 T.sub) (fun h2 e2 k2 => ?_)
  have KX2 : K.In h2 := KX1.keeps k2
  have I2 : InstAt h2 a (excO C t0) C none := ⟨k2 _ _ ha1, rfl, rfl, trivial⟩
  have hsup := T.sup
  unfold ks_superIn at hsup
  rw [hcl] at hsup
  refine kxs_getMethod kxs_ValueError e2 (looks_opaque KX2 T.ho) (l₀ := cd.mro) (fun A Q E s k q => wpAny_bind ((looks_clsIn KX2 hcl) A _ E s k (wpAny_pure q))) rfl KX2 hsup (I2.type.andThen (looks_subIn KX2 T.ve)) (ks_ne KX2 I2 hcl) rfl ?_
  have k3 : ∀ b o, h2.get? b = some o → (h2.push (kxs_mw "ValueError.__init__" a)).get? b = some o := fun b o e => Heap.get?_push_of_some _ e
  have hmw : (h2.push (kxs_mw "ValueError.__init__" a)).get? h2.objs.size = some (kxs_mw "ValueError.__init__" a) := Heap.get?_push_at rfl rfl
  generalize hh3 : h2.push (kxs_mw "ValueError.__init__" a) = h3 at k3 hmw
  have hlx : List.lookup x [(x, u), (("self" : Str), Value.ref a)] = some u := by rw [List.lookup_cons, beq_self_eq_true]
  have ns3 : h3.Ns hp.objs.size (fun y => List.lookup y [(x, u), (("self" : Str), Value.ref a)]) := hns.keeps fun b o e => k3 b o (k2 b o e)
  refine kxs_callWith (i := "ValueError.__init__") (x := a) rfl (evalArgs_plain (spliced_more (wpAny_Name (wpAny_loadName_local (env := ksEnv qual scope hp.objs.size fI (.ref cda) cc) hk hkx ns3 hlx (spliced_none ⟨hmw, ?_⟩)) hxs.2)))
  have ha3 : h3.get? a = some (excO C t0) := k3 _ _ (k2 _ _ ha1)
  obtain ⟨nm, N', qn, bs', bm, hdct, sn, sub', ab, col, dd, k0', k1', k2', k3', k5', hC3, hT3⟩ := excInit_of ((KX2).keeps k3) T.nw
  refine wpAny_call (codeAny_of_tree ?_)
  show wpAny _ (Around.in1 _) (callAny (.ref _) ⟨[u], []⟩) _ _ _
  simp only [callAny]
  refine wpAny_bind (wpAny_load hmw ?_)
  simp only [kxs_mw, show (Value.type "method-wrapper" == Value.type "method" || Value.type "method-wrapper" == Value.type "builtin_function_or_method" || Value.type "method-wrapper" == Value.type "method-wrapper") = true by decide, if_true]
  refine KFB.if_so (by decide) ?_
  refine wpAny_bind (check_bound_init F.excBase_ValueError.toExcCallFacts hC3 ha3 rfl ?_)
  refine wpAny_bind (wpAny_pure (wpAny_pure ?_))
  refine ⟨plainId_quiet F.excBase_ValueError.init.plain _, codeAny_builtin F.excBase_ValueError.initEntry ?_⟩
  refine exc_init_tree (cls := .ref C) (t0 := t0) (dv := none) (c2 := .none) (c3 := .none) (b4 := .bool false) ha3 (by simp [sizeLine]) fun h4 k4 e4 _ => ?_
  have ns4 : h4.Ns hp.objs.size (fun y => List.lookup y [(x, u), (("self" : Str), Value.ref a)]) := by
    obtain ⟨o, es, ep, e, r⟩ := ns3
    refine ⟨o, es, ep, k4 _ _ (fun z => ?_) e, r⟩
    exact absurd (Heap.lt_size ha) (by rw [← z]; exact Nat.lt_irrefl _)
  show PySem.wpAt _ _ _ (execs [.Assign [.Attribute (.Name "self" p6) fld p7] (.Name x p8) p9] (ksEnv qual scope hp.objs.size fI (.ref cda) cc)) _ _ _
  refine ks_wpAt_execs_cons (ks_wpAt_Assign_Attr ?_ hs2)
  refine wpAt_of_wpAny (wpAny_Name (wpAny_loadName_local hk hkx ns4 hlx ?_) hxs.2)
  refine wpAny_Name (wpAny_loadName_local hk hka ns4 (by show List.lookup ("self" : Str) [(x, u), (("self" : Str), Value.ref a)] = some (Value.ref a); rw [List.lookup_cons, beq_eq_false_iff_ne.mpr (Ne.symm hxs.1)]; rfl) ?_) (by decide)
  have kk : ∀ b o, b ≠ a → hp.get? b = some o → h4.get? b = some o := fun b o hb e => k4 b o hb (k3 b o (k2 b o (k1 b o e)))
  have hcl4 : ∀ b o, base.get? b = some o → b ≠ a := fun b o e z => by rw [z, hab] at e; cases e
  have KX4 : K.In h4 := MO.kin.keeps fun b o e => kk b o (hcl4 b o e) (bk b o e)
  refine set_plain KX4 (ox := excO C h3.objs.size) (od := none) ⟨e4, rfl, rfl, trivial⟩ T.sa ?_
  refine exc_osa KX4 e4 hcl hmro hdi T.no (fun h5 tk5 dx k5 dn dne hx5 hn5 => ?_)
  refine wpAt_of_wpAny (wpAny_execs_nil ?_)
  refine hq h5 tk5 dx _ (fun b o hb e => k5 b o hb (kk b o hb e)) ?_ hx5 hn5
  exact Nat.le_trans (Nat.le_of_lt ns4.lt) dn
end
end FD

/-! FD19: exceptions at the data level: raise C(e), calls of defs that raise, try .. except C as e, e.f, isinstance(e, C). -/
namespace FD
open PySem PySem.Spec PyProof.Rows L2
/-- what is wished of an exception: its class by its name, its fields -/
abbrev DXK := Str → List (Str × D) → DG → Prop
abbrev DWX := Str → List (Str × D) → DSt → DG → Prop
abbrev RpF (K : PySem.W.Frag) (H : Hp) : List (Str × D) → List (Str × V) → Prop := Paired fun (p : Str × D) (q : Str × V) => p.1 = q.1 ∧ Rp K H p.2 q.2
/-- the dict of an exception with the fields fs -/
def ExD (K : PySem.W.Frag) (G : DG) (H : Hp) (fs : List (Str × D)) : Option Addr → Prop
  | none => fs = []
  | some dd => G dd = none ∧ ∃ gs, H dd = some (.xd gs) ∧ RpF K H fs gs
theorem ExD.mono {K : PySem.W.Frag} {G G' : DG} {H H' : Hp} {fs : List (Str × D)} {d : Option Addr} (h : ExD K G H fs d) (k : Kp K H H') (f : Fm G H G' H') : ExD K G' H' fs d := by
  cases d with
  | none => exact h
  | some dd =>
    obtain ⟨n, gs, e, r⟩ := h
    obtain ⟨e', n'⟩ := f dd _ e n
    exact ⟨n', gs, e', paired_mono (fun p q h => ⟨h.1, h.2.mono k⟩) r⟩
abbrev ClsAt (K : PySem.W.Frag) (c : Str) (C : Addr) : Prop := PySem.W.nsIn K mainGlobals c = some (some (.ref C))
def KtW (B : Bs) (Wd : DWX) (Wx : WX) (G : DG) (H : Hp) : Prop := ∀ c C fs d ρ σ G' H', ClsAt B.K c C → ExD B.K G' H' fs d → RpS B.K H' ρ σ → Wld0 B G' H' → Fm G H G' H' → Wd c fs ρ G' → Wx (.ref C) d σ H'
theorem KtW.st {B : Bs} {Wd : DWX} {Wx : WX} {G G' : DG} {H H' : Hp} (h : KtW B Wd Wx G H) (f : Fm G H G' H') : KtW B Wd Wx G' H' := fun c C fs d ρ σ G2 H2 a b s w f2 q => h c C fs d ρ σ G2 H2 a b s w (f.trans f2) q
/-- the context in which Wd is wished of what is raised -/
structure Wsh (X : DCx) (Wd : DWX) : Prop where
  ex : ∃ Wx, Takes X.toCx Wx ∧ ∀ G H, X.I G H → KtW (Bs.no X.prog X.w X.K) Wd Wx G H
abbrev DCx.wish (X : Cx) (Wd : DWX) (Wx : WX) : DCx := ⟨X, KtW (Bs.no X.prog X.w X.K) Wd Wx, fun h _ f => h.st f⟩
theorem wsh_of {X : Cx} {Wd : DWX} {Wx : WX} (tk : Takes X Wx) : Wsh (DCx.wish X Wd Wx) Wd := ⟨Wx, tk, fun _ _ h => h⟩
/-! ### raise C(e) -/
def tMkX (C : Addr) (fld : Str) (ta : TA) : L2.St → Hp → XK → Prop := fun σ H Q => ta σ H fun vs H1 => ∃ v, vs = [v] ∧ ∀ dx, H1 dx = none → Q (.ref C) (some dx) (L2.upd H1 dx (.xd [(fld, v)]))
structure XCls (K : PySem.W.Frag) (P : Program) (C fI : Addr) (x fld : Str) : Prop where
  ini : XInit K P C fI x fld
  at_ : PySem.W.findIn K (.ref C) "__init__" = some (some (.ref fI))
  fn : PySem.W.typeIn K (.ref fI) = some (.type "function")
  exC : PySem.W.subIn K (.ref C) (.type "BaseException") = some true
  tyC : PySem.W.typeIn K (.ref C) = some (.type "type")
  kC : PySem.W.keepIn K (.ref C) = true
theorem pmk_x {X : Cx} {c x fld : Str} {C fI : Addr} {p pos : Pos} {e : Expr} {ta : TA} (T : XCls X.K X.prog C fI x fld) (hr : Room 2 X.A) (hg : Gl X c) (hm : X.mg c = some (.ref C)) (hsup : X.mg "super" = none) (ha : PA X [e] ta)
    (hdb : (c == ("__debug__" : Str)) = false := by decide) (he : starEach [e] X.env = (false, eval e X.env) :: starEach [] X.env := by rfl) (hpl : (backTo pos (starEach [] X.env)).any (·.1) = false := by rfl) :
    PMk X (.Call (.Name c p) [e] [] pos) (tMkX C fld ta) := by
  intro pins s σ H Q I h
  refine wpAny_Call_Name_kw (ld_glob I hg hm ?_ hdb)
  refine PySem.W.callWith_K (h₀ := X.base) I.ok.mod.kin T.kC (thn (ha.run pos pins s σ H _ I h) fun us s1 ⟨vs, H1, I1, r1, v, ev, q1⟩ => ⟨I1.kIn, ?_⟩) he hpl
  subst ev
  cases r1 with
  | @cons _ u _ ur ru rr =>
  cases rr
  show wpAny _ _ (call (.ref C) [u]) _ _ _
  obtain ⟨hp, g, dr, tk, os⟩ := s1
  obtain ⟨nm, N', qn, bs', bm, hdct, sn, sub', ab, col, dd, k0', k1', k2', k3', k5', hC, hT⟩ := PySem.W.excInit_of I1.kIn T.ini.nw
  have kk : ∀ b o, hp.get? b = some o → ((hp.push (PySem.W.kdv_tup [u])).push (PySem.HandSPX.excO C hp.objs.size)).get? b = some o := fun b o e => Heap.get?_push_of_some _ (Heap.get?_push_of_some _ e)
  have hget : ((hp.push (PySem.W.kdv_tup [u])).push (PySem.HandSPX.excO C hp.objs.size)).get? (hp.objs.size + 1) = some (PySem.HandSPX.excO C hp.objs.size) := by heap_get
  have lt0 : ∀ {b : Addr} {o : Obj}, hp.get? b = some o → b ≠ hp.objs.size + 1 := fun {b o} z y => by
    have := Heap.lt_size z
    rw [y] at this
    exact absurd this (Nat.not_lt.mpr (Nat.le_succ _))
  refine wpAny_call (PySem.HandSPX.call_own F.excBase_ValueError hT hC (PySem.W.looks_findIn I1.kIn T.at_) (fun self => PySem.W.bind_fn I1.kIn self T.fn) (by simp [sizeLine]) ?_)
  refine xi_run T.ini I1.mod (fun b o e => kk b o (I1.bk b o e)) hsup (hr.make C [u] []).depth ?_ hget fun h' tk' dx t1 k5 dn hx hn => ?_
  · cases z : X.base.get? (hp.objs.size + 1) with
    | none => rfl
    | some o => exact absurd rfl (lt0 (I1.bk _ _ z))
  have hda : dx ≠ hp.objs.size + 1 := fun z => by
    have := Heap.lt_size hget
    rw [z] at dn
    exact absurd this (Nat.not_lt.mpr dn)
  have hsz : hp.objs.size ≤ dx := by
    have h1 : hp.objs.size + 1 < ((hp.push (PySem.W.kdv_tup [u])).push (PySem.HandSPX.excO C hp.objs.size)).objs.size := Heap.lt_size hget
    exact Nat.le_trans (Nat.le_of_lt (Nat.lt_trans (Nat.lt_succ_self _) h1)) dn
  obtain ⟨G, g1', g2'⟩ := restrict h' fun b => decide (b ≠ hp.objs.size + 1)
  have gk : ∀ b, b ≠ hp.objs.size + 1 → G.get? b = h'.get? b := fun b hb => g1' b (decide_eq_true hb)
  have ge : G.get? (hp.objs.size + 1) = none := g2' _ (by simp)
  have hdn : H1 dx = none := I1.hok.fresh hsz
  have hq := q1 dx hdn
  have J : Inv X pins σ (L2.upd H1 dx (.xd [(fld, v)])) ⟨G, g, dr, tk', os⟩ := by
    refine I1.laid (t' := tk') (a := dx) (o := .xd [(fld, v)]) (h' := G) (fun b o e => ?_) hsz ?_
    · rw [gk b (lt0 e)]
      exact k5 b o (lt0 e) (kk b o e)
    · refine ⟨_, hn.at fun o y => (gk dx hda).trans y, fun f => ?_⟩
      show RelO (List.lookup f [(fld, v)]) (if f = fld then some u else none)
      by_cases hf : f = fld
      · subst hf
        rw [List.lookup_cons, beq_self_eq_true, if_pos rfl]
        exact ru
      · rw [List.lookup_cons, beq_eq_false_iff_ne.mpr hf, if_neg hf]
        exact True.intro
  refine ⟨rfl, hp.objs.size + 1, _, _, ⟨G, g, dr, tk', os⟩, _, .ref C, some dx, rfl, J, fun b o z => ?_, ge, hx, ⟨rfl, rfl⟩, rfl, rfl, ?_, rfl, I1.bare, raises_own T.exC T.tyC, hq⟩
  · by_cases hb : b = hp.objs.size + 1
    · rw [hb, ge] at z; cases z
    · exact (gk b hb).symm.trans z
  · rw [upd_ne (Ne.symm hda)]
    exact I1.hok.fresh (Nat.le_succ _)
def dRaise (c fld : Str) (Wd : DWX) (te : DA) : DS := fun _ ρ G => te ρ G fun xs G1 => match xs with
  | [x] => Wd c [(fld, x)] ρ G1
  | _ => False
theorem pds_raise {X : DCx} {Wd : DWX} {c x fld : Str} {C fI : Addr} {p pos pos' : Pos} {e : Expr} {t : DA} (wh : Wsh X Wd) (hc : X.calm = true) (T : XCls X.K X.prog C fI x fld) (hr : Room 2 X.A) (hg : Gl X c) (hm : X.mg c = some (.ref C)) (hn : ClsAt X.K c C) (hsup : X.mg "super" = none) (ha : PDA X [e] t)
    (hdb : (c == ("__debug__" : Str)) = false := by decide) (he : starEach [e] X.env = (false, eval e X.env) :: starEach [] X.env := by rfl) (hpl : (backTo pos (starEach [] X.env)).any (·.1) = false := by rfl) :
    PDS X (.Raise (some (.Call (.Name c p) [e] [] pos)) none pos') (dRaise c fld Wd t) := by
  obtain ⟨ta, pa, la⟩ := ha
  obtain ⟨Wx, tk, hw⟩ := wh
  refine ⟨_, ps_raise hc tk (pmk_x T hr hg hm hsup pa hdb he hpl), fun ρ σ G H E F s w h k => ?_⟩
  refine la ρ σ G H _ _ s w h fun ds vs G1 H1 r1 w1 f1 q1 => ?_
  match ds, q1 with
  | [x], q1 =>
    obtain ⟨v, rfl, rv⟩ := r1.one
    refine ⟨v, rfl, fun dx hd => ?_⟩
    have kp := f1.kp w
    refine hw G1 H1 w1.2 c C [(fld, x)] (some dx) ρ σ G1 _ hn ⟨w1.none hd, _, upd_same, .cons ⟨rfl, rv.mono (kp_new hd)⟩ .nil⟩ ((s.mono kp).mono (kp_new hd)) ?_ (fm_hid hd) q1
    exact fun a o e => okO_no (wld0_hid w1.1 hd a o e)
/-! ### defs that raise -/
abbrev DSpX := List D → DG → DK → DXK → Prop
section
variable {X : DCx} {Wd : DWX} {k : Nat} {f : Addr} {fd : FuncData} {ps : List Str} {x : Str} {p pos : Pos} {e : Expr} {es : List Expr} {t : DA} {dsp : DSpX}
end
end FD

/-! FD20: try .. except C as e, e.f, isinstance(e, C) at the data level. -/
namespace FD
open PySem PySem.Spec PyProof.Rows L2
def DEnds.clr (E : DEnds) (i : Nat) : DEnds := { nx := fun ρ G => E.nx (ρ.set i none) G, rt := E.rt, bk := fun ρ G => E.bk (ρ.set i none) G, ct := fun ρ G => E.ct (ρ.set i none) G }
abbrev suiteD (X : DCx) (a : Addr) (oe : Obj) (pn : List (Addr × Obj)) (fs : List (Str × D)) (d : Option Addr) : DCx := ⟨X.toCx.suite a ((a, oe) :: pn), fun G H => ExD X.K G H fs d, fun h k f => h.mono k f⟩
section
variable {X : DCx} {n xh : Str} {hv : Value} {i : Nat} {body suite : List Stmt} {b₀ : Stmt} {np pos pos' : Pos} {Wout : DWX} {ms : Str → Option Bool} {tb : DWX → DS} {ts : Addr → Str → List (Str × D) → DS}
theorem RpS.clr {K : PySem.W.Frag} {H : Hp} {ρ : DSt} {σ : L2.St} (h : RpS K H ρ σ) (i : Nat) : RpS K H (ρ.set i none) (σ.set i none) := RpS.set (d := none) (v := none) True.intro i h
end
/-! ### in the suite -/
def dExF (cs : List Str) (a : Addr) (c : Str) (fs : List (Str × D)) (f : Str) (i : Nat) : DE := fun ρ G Q => ρ[i]? = some (some (.ref a)) ∧ c ∈ cs ∧ ∃ v, fs.lookup f = some v ∧ Q v G
theorem rpf_lookup {K : PySem.W.Frag} {H : Hp} {f : Str} {v : D} : ∀ {fs : List (Str × D)} {gs : List (Str × V)}, RpF K H fs gs → fs.lookup f = some v → ∃ u, gs.lookup f = some u ∧ Rp K H v u
  | _, _, .nil, e => nomatch e
  | (n, d) :: fs, (m, u) :: gs, .cons ⟨h1, h2⟩ t, e => by
    have h1 : n = m := h1
    subst h1
    rw [List.lookup_cons] at e ⊢
    cases z : f == n with
    | true =>
      rw [z] at e
      cases e
      exact ⟨u, rfl, h2⟩
    | false =>
      rw [z] at e
      exact rpf_lookup t e
theorem pd_exF {X : DCx} {a C : Addr} {oe : Obj} {pn : List (Addr × Obj)} {c f n : Str} {fs : List (Str × D)} {d : Option Addr} {cs : List Str} {pos p : Pos} (i : Nat) (hn : ClsAt X.K c C) (hz : Zc (.ref C) d oe) (hf : ∃ vs, oe.data = .fields vs)
    (hcs : ∀ c ∈ cs, ∀ C, ClsAt X.K c C → XfC X.K C ∧ PySem.W.findIn X.K (.ref C) f = some none) (hi : X.N[i]? = some n := by rfl) (hv : Vis X.env.scope n := by exact .inl rfl) (hdb : (n == ("__debug__" : Str)) = false := by decide) (hcd : (n == ("__classdict__" : Str)) = false := by decide) (hb : attributeBase (.Name n p) f X.env (eval (.Name n p) X.env) = eval (.Name n p) X.env := by rfl) :
    PD (suiteD X a oe pn fs d) (.Attribute (.Name n p) f pos) (dExF cs a c fs f i) := by
  by_cases hc : c ∈ cs
  · obtain ⟨T, hno⟩ := hcs c hc C hn
    refine ⟨_, pe_xf (X := X.toCx) (d := d) T hno hz hf (pe_var (X := X.toCx.suite a ((a, oe) :: pn)) (i := i) hi hv hdb hcd) hb, fun ρ σ G H Q R s w h k => ?_⟩
    obtain ⟨e1, _, v, e2, q⟩ := h
    obtain ⟨u, eu, ru⟩ := s.get e1
    have hx : ExD X.K G H fs d := w.2
    cases d with
    | none =>
      have hx : fs = [] := hx
      rw [hx] at e2; cases e2
    | some dd =>
      obtain ⟨_, gs, eg, rg⟩ := hx
      obtain ⟨uv, ev, rv⟩ := rpf_lookup rg e2
      exact ⟨u, eu, rp_ref.mp ru, rfl, dd, gs, uv, rfl, eg, ev, k _ _ G H rv w Fm.refl q⟩
  · refine ⟨fun _ _ _ => False, ⟨fun _ _ _ _ _ _ h => h.elim⟩, fun ρ σ G H Q R s w h k => (hc h.2.1).elim⟩
/-- isinstance(e, T) -/
def rIsX (K : PySem.W.Frag) (D a : Addr) (d : Option Addr) : List V → Hp → VK → Prop := fun xs H Q => (d = none ∨ ∃ dd gs, d = some dd ∧ H dd = some (.xd gs)) ∧ ∃ (c : V) (cv : Value) (b : Bool), xs = [.ref a, c] ∧ (∀ u, RelV c u → u = cv) ∧ PySem.W.kitOne K (.ref D) cv = some b ∧ Q (.bl b) H
theorem call_isX {X : Cx} {a D : Addr} {oe : Obj} {d : Option Addr} {pn : List (Addr × Obj)} (C : ExcC X.K D) (hz : Zc (.ref D) d oe) (hf : ∃ vs, oe.data = .fields vs) : CallR (X.suite a ((a, oe) :: pn)) (.builtin "isinstance") (rIsX X.K D a d) := by
  intro pins s σ H xs us Q I r h
  obtain ⟨hd, c, cv, b, rfl, hcv, e, q⟩ := h
  cases r with
  | cons rx rr =>
    cases rr with
    | cons rt rr =>
      cases rr
      cases rx
      have ec := hcv _ rt
      subst ec
      obtain ⟨hget, _⟩ := I.pin (a, oe) (List.mem_append.mpr (.inl List.mem_cons_self))
      obtain ⟨vs, hv⟩ := hf
      have J : ∃ od, PySem.W.InstAt s.heap a oe D od := by
        rcases hd with rfl | ⟨dd, gs, rfl, eg⟩
        · exact ⟨none, hget, hz.1, by unfold PySem.W.notCls; rw [hv] <;> rfl, by rw [hz.2]; trivial⟩
        · obtain ⟨mA, hns, hr⟩ := (I.hok dd _ eg : ObjOk X.prog X.w H s.heap dd (.xd gs))
          obtain ⟨od, ho, hl⟩ := lookIn_ns hns
          exact ⟨some od, hget, hz.1, by unfold PySem.W.notCls; rw [hv] <;> rfl, by rw [hz.2]; exact ho⟩
      obtain ⟨od, J⟩ := J
      exact PySem.W.kia_one (PySem.W.kitx_exc (by obtain ⟨cd, hc, _⟩ := PySem.W.any_some C.hd; rw [hc]; rfl) C.hg C.hk C.hs C.ha C.hn C.ht C.hm) I.kIn J e (fun z => nomatch z) fun tk => ⟨.bl b, H, I.kept (t' := tk) fun _ _ z => z, rfl, q⟩
def dExI (ms : Str → Option Bool) (a : Addr) (c : Str) (i : Nat) : DE := fun ρ G Q => ρ[i]? = some (some (.ref a)) ∧ ∃ b, ms c = some b ∧ Q (.bl b) G
theorem pd_exI {X : DCx} {a C HC : Addr} {oe : Obj} {pn : List (Addr × Obj)} {c n cn : Str} {fs : List (Str × D)} {d : Option Addr} {ms : Str → Option Bool} {pos p p2 p3 : Pos} (i : Nat) (hn : ClsAt X.K c C) (hz : Zc (.ref C) d oe) (hf : ∃ vs, oe.data = .fields vs) (hgi : Gl X "isinstance") (hmi : X.mg "isinstance" = none)
    (hgc : Gl X cn) (hmc : X.mg cn = some (.ref HC)) (hms : ∀ c b, ms c = some b → ∀ C, ClsAt X.K c C → ExcC X.K C ∧ PySem.W.kitOne X.K (.ref C) (.ref HC) = some b) (hi : X.N[i]? = some n := by rfl) (hv : Vis X.env.scope n := by exact .inl rfl) (hdb : (n == ("__debug__" : Str)) = false := by decide) (hcd : (n == ("__classdict__" : Str)) = false := by decide) (hdc : (cn == ("__debug__" : Str)) = false := by decide)
    (he : starEach [.Name n p2, .Name cn p3] X.env = (false, eval (.Name n p2) X.env) :: starEach [.Name cn p3] X.env := by rfl) (hpl : (backTo pos (starEach [.Name cn p3] X.env)).any (·.1) = false := by rfl) :
    PD (suiteD X a oe pn fs d) (.Call (.Name "isinstance" p) [.Name n p2, .Name cn p3] [] pos) (dExI ms a c i) := by
  cases hb : ms c with
  | none => exact ⟨fun _ _ _ => False, ⟨fun _ _ _ _ _ _ h => h.elim⟩, fun ρ σ G H Q R s w h k => by
      obtain ⟨_, b, e, _⟩ := h
      rw [hb] at e; cases e⟩
  | some b0 =>
    obtain ⟨EC, hk⟩ := hms c b0 hb C hn
    refine ⟨_, pe_callB (X := X.toCx.suite a ((a, oe) :: pn)) (call_isX EC hz hf) hgi hmi (by decide +kernel) (pa_cons (pe_var (X := X.toCx.suite a ((a, oe) :: pn)) (i := i) hi hv hdb hcd) (pa_cons (pe_glob (v := .ref HC) (X := X.toCx.suite a ((a, oe) :: pn)) hgc hmc rfl hdc) pa_nil)) (by decide) (by decide) he hpl, fun ρ σ G H Q R s w h k => ?_⟩
    obtain ⟨e1, b, e2, q⟩ := h
    rw [hb] at e2; cases e2
    obtain ⟨u, eu, ru⟩ := s.get e1
    cases (rp_ref.mp ru)
    have hx : ExD X.K G H fs d := w.2
    refine ⟨.ref a, eu, ?_⟩
    refine ⟨?_, .ref HC, .ref HC, b0, rfl, fun u r => r, hk, k _ _ G H (rp_bl.mpr rfl) w Fm.refl q⟩
    cases d with
    | none => exact .inl rfl
    | some dd =>
      obtain ⟨_, gs, eg, _⟩ := hx
      exact .inr ⟨dd, gs, rfl, eg⟩
end FD

/-! FD21: instances of own classes: made, fields read and stored, methods and properties; (*xs, y). -/
namespace FD
open PySem PySem.Spec PyProof.Rows L2
/-! ### (*xs, y) -/
/-! ### fields -/
/-! ### C(..) -/
/-- the class c, made by the __init__ at f -/
structure MakeOn (K : PySem.W.Frag) (mg : Str → Option Value) (c : Str) (C f : Addr) : Prop where
  mak : Mk K C f
  mg : mg c = some (.ref C)
  at_ : ClsAt K c C
section
variable {B : Bs} {G : DG} {H : Hp} {x dx C : Addr} {c : Str}
end
section
variable {X : DCx} {Wd : DWX} {k : Nat} {C f : Addr} {c : Str} {fd : FuncData} {ps : List Str} {p pos : Pos} {e : Expr} {es : List Expr} {t : DA}
end
/-! ### methods, properties -/
structure MetOn (K : PySem.W.Frag) (c m : Str) (C f : Addr) : Prop where
  me : Meth K C m f
  cl : Cls K C
  at_ : ClsAt K c C
theorem cls_eq {K : PySem.W.Frag} {c : Str} {C C' : Addr} (h : ClsAt K c C) (h' : ClsAt K c C') : C = C' := by
  have e : some (some (Value.ref C)) = some (some (Value.ref C')) := h.symm.trans h'
  cases e; rfl
section
variable {X : DCx} {k : Nat} {C f pa0 : Addr} {c m : Str} {fd : FuncData} {ps : List Str} {apos pos : Pos} {o e : Expr} {es : List Expr} {t : DA} {to : DE} {dsp : DSp}
structure PropOn (K : PySem.W.Frag) (c m : Str) (C p f : Addr) : Prop where
  pr : PropOf K C m p f
  cl : Cls K C
  at_ : ClsAt K c C
end
/-! ### one reading or another -/
end FD

/-! FD22: small things: rows of the top, wishes of none, methods as defs. -/
namespace FD
open PySem PySem.Spec PyProof.Rows L2
abbrev dNoW : DWX := fun _ _ _ _ => False
theorem wsh_no {X : DCx} : Wsh X dNoW := ⟨fun _ _ _ _ => False, fun _ _ ⟨_, _, _, _, _, _, _, _, _, _, _, _, _, _, _, _, w⟩ => w.elim, fun _ _ _ c C fs d ρ σ G' H' _ _ _ _ _ q => q.elim⟩
/-- a method (or a property's def) of the text where the top has laid it -/
structure MFun (K : PySem.W.Frag) (m qual : Str) (st : Stmt) (ps : List Str) (f : Addr) (fd : FuncData) : Prop where
  F : Fun K m qual st f fd
  b : Binds K fd ps []
/-- a table of names -/
abbrev tab (l : List (Str × Bool)) (c : Str) : Option Bool := l.lookup c
theorem tab_one {P : Str → Bool → Prop} : ∀ {l : List (Str × Bool)}, (∀ p ∈ l, P p.1 p.2) → ∀ c b, tab l c = some b → P c b
  | [], _, c, b, e => nomatch e
  | (n, x) :: l, h, c, b, e => by
    have e : List.lookup c ((n, x) :: l) = some b := e
    rw [List.lookup_cons] at e
    cases z : c == n with
    | true =>
      rw [z] at e
      cases e
      rw [eq_of_beq z]
      exact h (n, x) (List.mem_cons_self ..)
    | false =>
      rw [z] at e
      exact tab_one (fun p hp => h p (List.mem_cons_of_mem _ hp)) c b e
end FD

/-! FD23: what a claim's end tells of the classes. -/
namespace FD
open PySem PySem.W PySem.Calls PyProof.Rows L2 PySem.HandSPX
theorem xcls_mk {K : PySem.W.Frag} {P : Program} {C fI : Addr} {x fld : Str} {oc : Value} {od : Option Addr} {qual : Str} {params : Arguments} {body : List Stmt} {scope : Scope} {dV kV doc pm : Value} {an : Option Addr} {cda : Addr} {ct : Value} {cc : Addr} {osl : Array (Option Value)} {p0 p1 p2 p3 p4 p5 p6 p7 p8 p9 : Pos} {ar : Arg} {ccl : Value} {cdd : Option Addr} {vs : Array Value} {ccs : Array (Option Value)} {file : Str} {tf : Tok} {cl : Value} {cld : Option Addr} {csl : Array (Option Value)} {cd : ClassData}
    (at_ : findIn K (.ref C) "__init__" = some (some (.ref fI)))
    (lk : K.lookup fI = some ⟨oc, od, .func (ksFn "__init__" qual params body scope dV kV doc pm an (.ref cda) ct cc), osl⟩)
    (hcd : codeIn K (.ref cda) qual = true)
    (hb : body = [.Expr (.Call (.Attribute (.Call (.Name "super" p0) [] [] p1) "__init__" p2) [.Name x p3] [] p4) p5, .Assign [.Attribute (.Name "self" p6) fld p7] (.Name x p8) p9])
    (hpar : (params.posonlyargs ++ params.args).head? = some ar) (har : ar.arg = "self")
    (hbd : ∀ a u, bindArgs (ksFn "__init__" qual params body scope dV kV doc pm an (.ref cda) ct cc) ⟨[a, u], []⟩ = pure [(("self" : Str), a), (x, u)])
    (hsc : scope.names.lookup ("super" : Str) = some .globalImplicit ∧ scope.names.lookup ("__class__" : Str) = some .free ∧ scope.names.lookup ("self" : Str) = some .local ∧ scope.names.lookup x = some .local ∧ scope.kind = .function ∧ (∀ y ∈ scope.names, y.2 ≠ .cell) ∧ scope.isCoroutine = false ∧ scope.isGenerator = false)
    (hsh : ∀ L, interactive (ksEnv qual scope L fI (.ref cda) cc) = false ∧ swapsWith (.Call (.Attribute (.Call (.Name "super" p0) [] [] p1) "__init__" p2) [.Name x p3] [] p4) none p5.line (ksEnv qual scope L fI (.ref cda) cc) = pure false ∧ swapsWith (.Name x p8) (some (.Attribute (.Name "self" p6) fld p7)) p9.line (ksEnv qual scope L fI (.ref cda) cc) = pure false ∧
      ∃ pl : Sem Bool, eval (.Call (.Attribute (.Call (.Name "super" p0) [] [] p1) "__init__" p2) [.Name x p3] [] p4) (ksEnv qual scope L fI (.ref cda) cc) = (do
        let ov ← attributeBase (.Call (.Name "super" p0) [] [] p1) "__init__" (ksEnv qual scope L fI (.ref cda) cc) (eval (.Call (.Name "super" p0) [] [] p1) (ksEnv qual scope L fI (.ref cda) cc))
        standAt p2.atName
        let (f, first) ← holding [ov] (getMethod ov "__init__" pl)
        callWith p4 f first (backTo p4 (starEach [.Name x p3] (ksEnv qual scope L fI (.ref cda) cc))) []))
    (hcode : K.lookup cda = some ⟨ccl, cdd, .fields vs, ccs⟩) (hvs : vs[2]? = some (.str file tf)) (hfile : ((P.main.file : Str) == file) = true) (hcc : K.lookup cc = some ⟨cl, cld, .cell (some (.ref C)), csl⟩)
    (top : (P.main.scope.names.lookup ("super" : Str)).isSome = false) (xs : x ≠ "self" ∧ (x == ("__debug__" : Str)) = false)
    (hcl : clsIn K C = some cd) (hdi : cd.hasDict = true) (hm : refsVE cd.mro = true)
    (sub : mroIn K C (.ref C) = some true) (ho : nsIn K cStatics "thirdparty.any" = some none) (sup : ks_superIn K C C "__init__" = some (some (.builtin "ValueError.__init__")))
    (ve : subIn K (.ref C) (.type "ValueError") = some true) (nw : excInitIn K C veTail "ValueError.__new__" = true) (sa : findIn K (.ref C) "__setattr__" = some (some (.builtin "object.__setattr__"))) (no : findIn K (.ref C) fld = some none)
    (fn : typeIn K (.ref fI) = some (.type "function")) (exC : subIn K (.ref C) (.type "BaseException") = some true) (tyC : typeIn K (.ref C) = some (.type "type")) (kC : keepIn K (.ref C) = true) : XCls K P C fI x fld := by
  subst hb
  exact ⟨⟨⟨oc, od, qual, params, scope, dV, kV, doc, pm, an, cda, ct, cc, osl, p0, p1, p2, p3, p4, p5, p6, p7, p8, p9, ar, ccl, cdd, vs, ccs, file, tf, cl, cld, csl, lk, hcd, hpar, har, hbd, hsc, hsh, hcode, hvs, hfile, hcc⟩, top, xs, ⟨cd, hcl, hdi, hm⟩, sub, ho, sup, ve, nw, sa, no⟩, at_, fn, exC, tyC, kC⟩
end FD

/-! FDu: more of dicts with text keys. -/
namespace FD
open PySem PySem.Spec PyProof.Rows L2
/-! ### k in d -/
section
variable {X : DCx} {pos p p2 apos : Pos} {a b e f o : Expr} {es : List Expr} {da db to te tf : DE} {t : DA} {k : Nat}
/-! ### d.get(k), d.get(k, z) -/
/-! ### len(d), list(d), dict(d), dict(pairs) -/
/-! ### locks -/
/-! ### for k in d, for k, v in d.items() -/
end
end FD

/-! FDv: tuple * n, a, b, c = .., xs[::-1], join. -/
namespace FD
open PySem PySem.Spec PyProof.Rows L2
/-! ### tuple * n -/
section
variable {X : DCx} {pos p apos : Pos} {a b e o : Expr} {da db te to : DE} {k : Nat}
/-! ### a, b, c = x, y, z -/
def dPar3 (i j l : Nat) (ta : DA) : DS := fun E ρ G => ta ρ G fun ds G1 => match ds with
  | [x, y, z] => E.nx (((ρ.set i (some x)).set j (some y)).set l (some z)) G1
  | _ => False
theorem pds_par3 (i j l : Nat) {x y z : Str} {e1 e2 e3 : Expr} {ta : DA} {px py pz pt : Pos} {kt k2 pt2} (hc : X.calm = true) (hN : X.N.Nodup) (h : PDA X [e1, e2, e3] ta) (hi : X.N[i]? = some x := by rfl) (hj : X.N[j]? = some y := by rfl) (hl : X.N[l]? = some z := by rfl) (hij : i ≠ j := by decide) (hil : i ≠ l := by decide) (hjl : j ≠ l := by decide)
    (hx : X.env.scope.names.lookup x = some .local := by rfl) (hy : X.env.scope.names.lookup y = some .local := by rfl) (hz : X.env.scope.names.lookup z = some .local := by rfl)
    (hw : swappedStores [.Tuple [.Name x px, .Name y py, .Name z pz] kt pt] (.Tuple [e1, e2, e3] k2 pt2) X.env = pure (some [x, y, z]) := by rfl)
    (hs : swapsWithSole [.Tuple [.Name x px, .Name y py, .Name z pz] kt pt] (.Tuple [e1, e2, e3] k2 pt2) pos.line X.env = pure false := by rfl) :
    PDS X (.Assign [.Tuple [.Name x px, .Name y py, .Name z pz] kt pt] (.Tuple [e1, e2, e3] k2 pt2) pos) (dPar3 i j l ta) := by
  obtain ⟨y', p, l'⟩ := h
  refine ⟨_, ps_par3 hc hN hi hj hl hij hil hjl hx hy hz p hw hs, fun ρ σ G H E F s w h k => ?_⟩
  refine l' ρ σ G H _ _ s w h fun ds vs G1 H1 r1 w1 f1 q1 => ?_
  match ds, q1 with
  | [x, y, z], q1 =>
    obtain ⟨v, r2, rfl, rx, t⟩ := rpl_cons.mp r1
    obtain ⟨u, t', rfl, ry, rz⟩ := t.two
    exact ⟨v, u, t', rfl, k.nx _ _ G1 H1 ((((s.mono (f1.kp w)).set (d := some x) (v := some v) rx i).set (d := some y) (v := some u) ry j).set (d := some z) (v := some t') rz l) w1 f1 q1⟩
/-! ### xs[::-1] -/
/-! ### sep.join(xs) -/
end
end FD

/-! FDw: own __eq__, isinstance of own classes. -/
namespace FD
open PySem PySem.Spec PyProof.Rows L2
/-- an own class, as isinstance sees it -/
structure ClsK (K : PySem.W.Frag) (C : Addr) : Prop where
  cl : Cls K C
  ha : PySem.W.findIn K (.ref C) "__class__" = some (some (.builtin "object.__class__"))
  hn : PySem.W.specialIn K (.builtin "object.__class__") "__get__" = some (some (.builtin "getset_descriptor.__get__"))
  htk : PySem.W.takesIn K (.builtin "object.__class__") = some true
  hm : PySem.W.mroIn K C (.type "object") = some true
structure EqOn (K : PySem.W.Frag) (c : Str) (C f : Addr) : Prop where
  at_ : ClsAt K c C
  fnd : PySem.W.findIn K (.ref C) "__eq__" = some (some (.ref f))
  fn : PySem.W.isFn K (.ref f) = true
section
variable {X : DCx} {k : Nat} {C f : Addr} {c : Str} {fd : FuncData} {ps : List Str} {pos p p2 p3 : Pos} {a b e : Expr} {da db te : DE} {dsp : DSp}
/-! ### isinstance(x, C) -/
end
end FD

/-! FDx: C() without __init__, o.m(), calls with default values. -/
namespace FD
open PySem PySem.Spec PyProof.Rows L2
structure Mk0 (K : PySem.W.Frag) (mg : Str → Option Value) (c : Str) (C : Addr) : Prop where
  makes : PySem.W.makesIn K C = true
  init : PySem.W.findIn K (.ref C) "__init__" = some (some (.builtin "object.__init__"))
  kp : PySem.W.keepIn K (.ref C) = true
  mg : mg c = some (.ref C)
  at_ : ClsAt K c C
section
variable {X : DCx} {k : Nat} {C f pa0 : Addr} {c m : Str} {fd : FuncData} {ps : List Str} {apos pos p : Pos} {o e : Expr} {es : List Expr} {t : DA} {to : DE} {dsp : DSp}
/-! ### o.m() -/
end
end FD

/-! FDy: defs with default values. -/
namespace FD
open PySem PySem.Spec PyProof.Rows L2
/-- a def with default values where the top has laid it; df: all its defaults, j of which are given by the caller's values -/
structure FunOnD (K : PySem.W.Frag) (mg : Str → Option Value) (x : Str) (st : Stmt) (ps : List Str) (dvs : List V) (f : Addr) (fd : FuncData) : Prop where
  F : FunD K x x (defArgs st) (defBody st) (defScope st) dvs [] f fd
  g : mg x = some (.ref f)
section
variable {X : DCx} {k : Nat} {f : Addr} {fd : FuncData} {ps : List Str} {x : Str} {p pos : Pos} {e : Expr} {es : List Expr} {t : DA} {dsp : DSp} {dvs : List V} {dfs : List D}
end
end FD

/-! FDz: own __contains__, __len__, __call__. -/
namespace FD
open PySem PySem.Spec PyProof.Rows L2
/-- the class c has the special m, at f -/
structure SpOn (K : PySem.W.Frag) (c m : Str) (C f : Addr) : Prop where
  at_ : ClsAt K c C
  fnd : PySem.W.findIn K (.ref C) m = some (some (.ref f))
  fn : PySem.W.isFn K (.ref f) = true
section
variable {prog : Program} {w : World} {A : Around} {E : Value → Shared → Prop} {s : Shared} {K : PySem.W.Frag} {x C f : Addr} {ox : Obj} {od : Option Obj} {M : Model}
end
section
variable {X : DCx} {k : Nat} {C f : Addr} {c m : Str} {fd : FuncData} {ps : List Str} {pos p p2 p3 : Pos} {a b e : Expr} {es : List Expr} {da db te : DE} {t : DA} {dsp : DSp}
/-! ### len(o) -/
end
/-! ### x(..), x an instance with an own __call__ -/
section
variable {M : Model} {A : Around} {E : Value → Shared → Prop} {s : Shared} {K : PySem.W.Frag} {x C f : Addr} {ox : Obj} {od : Option Obj}
end
section
variable {X : Cx} {CX : CXT} {k i : Nat} {f C : Addr} {fd : FuncData} {ps ks : List Str} {sp : Sp} {dvs : List V} {dds : List Value} {E : L2.St → XK} {x c : Str} {p pos : Pos} {e : Expr} {es : List Expr} {kws : List Keyword} {t : TA}
/-- the class with an own __call__ -/
structure CallOn (K : PySem.W.Frag) (c : Str) (C f : Addr) : Prop where
  on : SpOn K c "__call__" C f
  fi : PySem.W.fnIn K f = true
end
section
variable {X : DCx} {Wd : DWX} {k i : Nat} {f C : Addr} {fd : FuncData} {ps ks : List Str} {x c : Str} {p pos : Pos} {e : Expr} {es : List Expr} {kws : List Keyword} {t : DA} {dsp : DSpX} {dfs : List D} {dvs : List V} {dds : List Value}
/-- keywords -/
structure PDK (X : DCx) (kws : List Keyword) (t : DA) : Prop where
  ex : ∃ tk, PK X.toCx kws tk ∧ LkA (bs X) tk t
end
end FD

/-! FDh: an own exception without values: its __init__ is «super().__init__()». -/
namespace FD
open PySem PySem.W PySem.Calls PyProof.Rows L2 PySem.HandSPX
section
variable {prog : Program} {w : World} {A : Around} {R : Result → Shared → Prop} {hp : Heap} {g : Array GenState} {dr : Drawn} {t : Nat} {os : OsState} {K : PySem.W.Frag} {mg : Str → Option Value} {base : Heap}
structure XInit0 (K : PySem.W.Frag) (P : Program) (C fI : Addr) : Prop where
  fn : ∃ (oc : Value) (od : Option Addr) (qual : Str) (params : Arguments) (scope : Scope) (dV kV doc pm : Value) (an : Option Addr) (cda : Addr) (ct : Value) (cc : Addr) (osl : Array (Option Value)) (p0 p1 p2 p4 p5 : Pos) (ar : Arg) (ccl : Value) (cdd : Option Addr) (vs : Array Value) (ccs : Array (Option Value)) (file : Str) (tf : Tok) (cl : Value) (cld : Option Addr) (csl : Array (Option Value)),
    K.lookup fI = some ⟨oc, od, .func (ksFn "__init__" qual params [.Expr (.Call (.Attribute (.Call (.Name "super" p0) [] [] p1) "__init__" p2) [] [] p4) p5] scope dV kV doc pm an (.ref cda) ct cc), osl⟩ ∧
    codeIn K (.ref cda) qual = true ∧ (params.posonlyargs ++ params.args).head? = some ar ∧ ar.arg = "self" ∧
    (∀ a, bindArgs (ksFn "__init__" qual params [.Expr (.Call (.Attribute (.Call (.Name "super" p0) [] [] p1) "__init__" p2) [] [] p4) p5] scope dV kV doc pm an (.ref cda) ct cc) ⟨[a], []⟩ = pure [(("self" : Str), a)]) ∧
    (scope.names.lookup ("super" : Str) = some .globalImplicit ∧ scope.names.lookup ("__class__" : Str) = some .free ∧ scope.names.lookup ("self" : Str) = some .local ∧ scope.kind = .function ∧ (∀ y ∈ scope.names, y.2 ≠ .cell) ∧ scope.isCoroutine = false ∧ scope.isGenerator = false) ∧
    (∀ L, interactive (ksEnv qual scope L fI (.ref cda) cc) = false ∧ swapsWith (.Call (.Attribute (.Call (.Name "super" p0) [] [] p1) "__init__" p2) [] [] p4) none p5.line (ksEnv qual scope L fI (.ref cda) cc) = pure false ∧
      ∃ pl : Sem Bool, eval (.Call (.Attribute (.Call (.Name "super" p0) [] [] p1) "__init__" p2) [] [] p4) (ksEnv qual scope L fI (.ref cda) cc) = (do
        let ov ← attributeBase (.Call (.Name "super" p0) [] [] p1) "__init__" (ksEnv qual scope L fI (.ref cda) cc) (eval (.Call (.Name "super" p0) [] [] p1) (ksEnv qual scope L fI (.ref cda) cc))
        standAt p2.atName
        let (f, first) ← holding [ov] (getMethod ov "__init__" pl)
        callWith p4 f first (backTo p4 (starEach [] (ksEnv qual scope L fI (.ref cda) cc))) [])) ∧
    K.lookup cda = some ⟨ccl, cdd, .fields vs, ccs⟩ ∧ vs[2]? = some (.str file tf) ∧ ((P.main.file : Str) == file) = true ∧ K.lookup cc = some ⟨cl, cld, .cell (some (.ref C)), csl⟩
  top : (P.main.scope.names.lookup ("super" : Str)).isSome = false
  cls : ∃ cd, clsIn K C = some cd
  sub : mroIn K C (.ref C) = some true
  ho : nsIn K cStatics "thirdparty.any" = some none
  sup : ks_superIn K C C "__init__" = some (some (.builtin "ValueError.__init__"))
  ve : subIn K (.ref C) (.type "ValueError") = some true
  nw : excInitIn K C veTail "ValueError.__new__" = true
theorem xi_run0 {C fI a t0 : Addr} (T : XInit0 K prog C fI) (MO : Mod K mg base) (bk : ∀ b o, base.get? b = some o → hp.get? b = some o) (hsuper : mg "super" = none) (hroom : A.depth < recursionLimit) (hab : base.get? a = none) (ha : hp.get? a = some (excO C t0))
    (hq : ∀ h' tk' t1, (∀ b o, b ≠ a → hp.get? b = some o → h'.get? b = some o) → h'.get? a = some (excO C t1) → R (.ok (.ret .none)) ⟨h', g, dr, tk', os⟩) :
    codeAny (model prog w) A (.call (.ref fI) ⟨[.ref a], []⟩) R ⟨hp, g, dr, t, os⟩ := by
  obtain ⟨oc, od, qual, params, scope, dV, kV, doc, pm, an, cda, ct, cc, osl, p0, p1, p2, p4, p5, ar, ccl, cdd, vs, ccs, file, tf, cl, cld, csl, lk, hcd, hpar, har, hbd, ⟨hks, hkc, hka, hk, hcell, hco, hgen⟩, hsh, hcode, hvs, hfile, hcc⟩ := T.fn
  obtain ⟨cd, hcl⟩ := T.cls
  have KX : K.In hp := MO.kin.keeps bk
  refine ks_codeAny_call_defAt (s := ⟨hp, g, dr, t, os⟩) (binds := [(("self" : Str), .ref a)]) hroom (KX _ _ lk) rfl (MO.nolimit.keeps bk) (codeRec_of KX hcd) rfl (BindsTo.of_eq (hbd _)) hcell (fun y hy => ?_) (fun h1 hns k1 => ?_) hco hgen hk
  · simp only [List.mem_cons, List.not_mem_nil, or_false] at hy
    subst hy
    exact hka
  have KX1 : K.In h1 := KX.keeps k1
  have bk1 : ∀ b o, base.get? b = some o → h1.get? b = some o := fun b o e => k1 b o (bk b o e)
  have ha1 := k1 _ _ ha
  have I1 : InstAt h1 a (excO C t0) C none := ⟨ha1, rfl, rfl, trivial⟩
  obtain ⟨mb, hb1, hb2⟩ := MO.blt
  obtain ⟨oD, hD1, hD2⟩ : ∃ oD, h1.get? C = some oD ∧ oD.data = .cls cd := by
    have hcl' := hcl
    unfold clsIn at hcl'
    split at hcl'
    · rename_i c d cd' sl ho
      cases hcl'
      exact ⟨_, KX1 _ _ ho, rfl⟩
    · cases hcl'
  obtain ⟨hi, hs1, pl, he⟩ := hsh hp.objs.size
  show PySem.wpAt (model prog w) (A.deeper (ksEnv qual scope hp.objs.size fI (.ref cda) cc)) (.func _ (ksEnv qual scope hp.objs.size fI (.ref cda) cc)) (execs _ (ksEnv qual scope hp.objs.size fI (.ref cda) cc)) _ _ _
  refine ks_wpAt_execs_cons (ks_wpAt_Expr_any (ks_wpAt_MethodCall (pl := pl) ?_ he) hi hs1)
  refine ks_wpAt_super_base (ar := ar) hks hkc rfl rfl (KX1 _ _ lk) rfl hpar rfl (KX1 _ _ hcode) rfl hvs hfile T.top ?_
  refine ks_loadName_global hk hks (loadGlobal_builtin (MO.glob.keeps bk1) hsuper (hb1.keeps bk1) ((hb2 _ (by decide +kernel)).trans PyProof.Rows.Boot.«super») ⟨rfl, ?_⟩)
  refine wpAny_loadName_free hk hkc rfl ⟨_, KX1 _ _ hcc, rfl⟩ ?_
  refine wpAny_loadName_local hk (by rw [har]; exact hka) hns (by rw [har]; rfl) ?_
  refine ks_wpAny_isType_cls hD1 hD2 ⟨rfl, ?_⟩
  refine ks_wpAny_call_super hD1 hD2 ha1 rfl (fun c e => by cases e) (looks_mroIn KX1 T.sub) (fun h2 e2 k2 => ?_)
  have KX2 : K.In h2 := KX1.keeps k2
  have I2 : InstAt h2 a (excO C t0) C none := ⟨k2 _ _ ha1, rfl, rfl, trivial⟩
  have hsup := T.sup
  unfold ks_superIn at hsup
  rw [hcl] at hsup
  refine kxs_getMethod kxs_ValueError e2 (looks_opaque KX2 T.ho) (l₀ := cd.mro) (fun A Q E s k q => wpAny_bind ((looks_clsIn KX2 hcl) A _ E s k (wpAny_pure q))) rfl KX2 hsup (I2.type.andThen (looks_subIn KX2 T.ve)) (ks_ne KX2 I2 hcl) rfl ?_
  have k3 : ∀ b o, h2.get? b = some o → (h2.push (kxs_mw "ValueError.__init__" a)).get? b = some o := fun b o e => Heap.get?_push_of_some _ e
  have hmw : (h2.push (kxs_mw "ValueError.__init__" a)).get? h2.objs.size = some (kxs_mw "ValueError.__init__" a) := Heap.get?_push_at rfl rfl
  generalize hh3 : h2.push (kxs_mw "ValueError.__init__" a) = h3 at k3 hmw
  refine kxs_callWith (i := "ValueError.__init__") (x := a) rfl (evalArgs_nil3 ⟨hmw, ?_⟩)
  have ha3 : h3.get? a = some (excO C t0) := k3 _ _ (k2 _ _ ha1)
  obtain ⟨nm, N', qn, bs', bm, hdct, sn, sub', ab, col, dd, k0', k1', k2', k3', k5', hC3, hT3⟩ := excInit_of ((KX2).keeps k3) T.nw
  refine wpAny_call (codeAny_of_tree ?_)
  show wpAny _ (Around.in1 _) (callAny (.ref _) ⟨[], []⟩) _ _ _
  simp only [callAny]
  refine wpAny_bind (wpAny_load hmw ?_)
  simp only [kxs_mw, show (Value.type "method-wrapper" == Value.type "method" || Value.type "method-wrapper" == Value.type "builtin_function_or_method" || Value.type "method-wrapper" == Value.type "method-wrapper") = true by decide, if_true]
  refine KFB.if_so (by decide) ?_
  refine wpAny_bind (check_bound_init F.excBase_ValueError.toExcCallFacts hC3 ha3 rfl ?_)
  refine wpAny_bind (wpAny_pure (wpAny_pure ?_))
  refine ⟨plainId_quiet F.excBase_ValueError.init.plain _, codeAny_builtin F.excBase_ValueError.initEntry ?_⟩
  refine exc_init_tree (cls := .ref C) (t0 := t0) (dv := none) (c2 := .none) (c3 := .none) (b4 := .bool false) ha3 (by simp [sizeLine]) fun h4 k4 e4 _ => ?_
  have kk : ∀ b o, b ≠ a → hp.get? b = some o → h4.get? b = some o := fun b o hb e => k4 b o hb (k3 b o (k2 b o (k1 b o e)))
  refine wpAt_of_wpAny (wpAny_execs_nil ?_)
  exact hq h4 _ _ kk e4
end
def tMkX0 (C : Addr) : L2.St → Hp → XK → Prop := fun σ H Q => Q (.ref C) none H
structure XCls0 (K : PySem.W.Frag) (P : Program) (C fI : Addr) : Prop where
  ini : XInit0 K P C fI
  at_ : PySem.W.findIn K (.ref C) "__init__" = some (some (.ref fI))
  fn : PySem.W.typeIn K (.ref fI) = some (.type "function")
  exC : PySem.W.subIn K (.ref C) (.type "BaseException") = some true
  tyC : PySem.W.typeIn K (.ref C) = some (.type "type")
  kC : PySem.W.keepIn K (.ref C) = true
theorem pmk_x0 {X : Cx} {c : Str} {C fI : Addr} {p pos : Pos} (T : XCls0 X.K X.prog C fI) (hr : Room 2 X.A) (hg : Gl X c) (hm : X.mg c = some (.ref C)) (hsup : X.mg "super" = none)
    (hdb : (c == ("__debug__" : Str)) = false := by decide) : PMk X (.Call (.Name c p) [] [] pos) (tMkX0 C) := by
  intro pins s σ H Q I h
  refine wpAny_Call_Name_kw (ld_glob I hg hm ?_ hdb)
  refine PySem.W.callWith_K0 I.kIn T.kC ?_
  show wpAny _ _ (call (.ref C) []) _ _ _
  obtain ⟨hp, g, dr, tk, os⟩ := s
  obtain ⟨nm, N', qn, bs', bm, hdct, sn, sub', ab, col, dd, k0', k1', k2', k3', k5', hC, hT⟩ := PySem.W.excInit_of I.kIn T.ini.nw
  have kk : ∀ b o, hp.get? b = some o → ((hp.push (PySem.W.kdv_tup [])).push (PySem.HandSPX.excO C hp.objs.size)).get? b = some o := fun b o e => Heap.get?_push_of_some _ (Heap.get?_push_of_some _ e)
  have hget : ((hp.push (PySem.W.kdv_tup [])).push (PySem.HandSPX.excO C hp.objs.size)).get? (hp.objs.size + 1) = some (PySem.HandSPX.excO C hp.objs.size) := by heap_get
  have lt0 : ∀ {b : Addr} {o : Obj}, hp.get? b = some o → b ≠ hp.objs.size + 1 := fun {b o} z y => by
    have := Heap.lt_size z
    rw [y] at this
    exact absurd this (Nat.not_lt.mpr (Nat.le_succ _))
  refine wpAny_call (PySem.HandSPX.call_own F.excBase_ValueError hT hC (PySem.W.looks_findIn I.kIn T.at_) (fun self => PySem.W.bind_fn I.kIn self T.fn) (by simp [sizeLine]) ?_)
  refine xi_run0 T.ini I.mod (fun b o e => kk b o (I.bk b o e)) hsup (hr.make C [] []).depth ?_ hget fun h' tk' t1 k5 hx => ?_
  · cases z : X.base.get? (hp.objs.size + 1) with
    | none => rfl
    | some o => exact absurd rfl (lt0 (I.bk _ _ z))
  obtain ⟨G, g1', g2'⟩ := restrict h' fun b => decide (b ≠ hp.objs.size + 1)
  have gk : ∀ b, b ≠ hp.objs.size + 1 → G.get? b = h'.get? b := fun b hb => g1' b (decide_eq_true hb)
  have ge : G.get? (hp.objs.size + 1) = none := g2' _ (by simp)
  have J : Inv X pins σ H ⟨G, g, dr, tk', os⟩ := by
    refine I.kept (t' := tk') (h' := G) fun b o e => ?_
    rw [gk b (lt0 e)]
    exact k5 b o (lt0 e) (kk b o e)
  refine ⟨rfl, hp.objs.size + 1, _, _, ⟨G, g, dr, tk', os⟩, _, .ref C, none, rfl, J, fun b o z => ?_, ge, hx, ⟨rfl, rfl⟩, rfl, rfl, ?_, rfl, I.bare, raises_own T.exC T.tyC, h⟩
  · by_cases hb : b = hp.objs.size + 1
    · rw [hb, ge] at z; cases z
    · exact (gk b hb).symm.trans z
  · exact I.hok.fresh (Nat.le_succ _)
def dRaise0 (c : Str) (Wd : DWX) : DS := fun _ ρ G => Wd c [] ρ G
theorem pds_raise0 {X : DCx} {Wd : DWX} {c : Str} {C fI : Addr} {p pos pos' : Pos} (wh : Wsh X Wd) (hc : X.calm = true) (T : XCls0 X.K X.prog C fI) (hr : Room 2 X.A) (hg : Gl X c) (hm : X.mg c = some (.ref C)) (hn : ClsAt X.K c C) (hsup : X.mg "super" = none)
    (hdb : (c == ("__debug__" : Str)) = false := by decide) : PDS X (.Raise (some (.Call (.Name c p) [] [] pos)) none pos') (dRaise0 c Wd) := by
  obtain ⟨Wx, tk, hw⟩ := wh
  refine ⟨_, ps_raise hc tk (pmk_x0 T hr hg hm hsup hdb), fun ρ σ G H E F s w h k => ?_⟩
  refine hw G H w.2 c C [] none ρ σ G H hn rfl s ?_ Fm.refl h
  exact fun a o e => okO_no (w.1 a o e)
theorem xcls0_mk {K : PySem.W.Frag} {P : Program} {C fI : Addr} {oc : Value} {od : Option Addr} {qual : Str} {params : Arguments} {body : List Stmt} {scope : Scope} {dV kV doc pm : Value} {an : Option Addr} {cda : Addr} {ct : Value} {cc : Addr} {osl : Array (Option Value)} {p0 p1 p2 p4 p5 : Pos} {ar : Arg} {ccl : Value} {cdd : Option Addr} {vs : Array Value} {ccs : Array (Option Value)} {file : Str} {tf : Tok} {cl : Value} {cld : Option Addr} {csl : Array (Option Value)} {cd : ClassData}
    (at_ : findIn K (.ref C) "__init__" = some (some (.ref fI)))
    (lk : K.lookup fI = some ⟨oc, od, .func (ksFn "__init__" qual params body scope dV kV doc pm an (.ref cda) ct cc), osl⟩)
    (hcd : codeIn K (.ref cda) qual = true)
    (hb : body = [.Expr (.Call (.Attribute (.Call (.Name "super" p0) [] [] p1) "__init__" p2) [] [] p4) p5])
    (hpar : (params.posonlyargs ++ params.args).head? = some ar) (har : ar.arg = "self")
    (hbd : ∀ a, bindArgs (ksFn "__init__" qual params body scope dV kV doc pm an (.ref cda) ct cc) ⟨[a], []⟩ = pure [(("self" : Str), a)])
    (hsc : scope.names.lookup ("super" : Str) = some .globalImplicit ∧ scope.names.lookup ("__class__" : Str) = some .free ∧ scope.names.lookup ("self" : Str) = some .local ∧ scope.kind = .function ∧ (∀ y ∈ scope.names, y.2 ≠ .cell) ∧ scope.isCoroutine = false ∧ scope.isGenerator = false)
    (hsh : ∀ L, interactive (ksEnv qual scope L fI (.ref cda) cc) = false ∧ swapsWith (.Call (.Attribute (.Call (.Name "super" p0) [] [] p1) "__init__" p2) [] [] p4) none p5.line (ksEnv qual scope L fI (.ref cda) cc) = pure false ∧
      ∃ pl : Sem Bool, eval (.Call (.Attribute (.Call (.Name "super" p0) [] [] p1) "__init__" p2) [] [] p4) (ksEnv qual scope L fI (.ref cda) cc) = (do
        let ov ← attributeBase (.Call (.Name "super" p0) [] [] p1) "__init__" (ksEnv qual scope L fI (.ref cda) cc) (eval (.Call (.Name "super" p0) [] [] p1) (ksEnv qual scope L fI (.ref cda) cc))
        standAt p2.atName
        let (f, first) ← holding [ov] (getMethod ov "__init__" pl)
        callWith p4 f first (backTo p4 (starEach [] (ksEnv qual scope L fI (.ref cda) cc))) []))
    (hcode : K.lookup cda = some ⟨ccl, cdd, .fields vs, ccs⟩) (hvs : vs[2]? = some (.str file tf)) (hfile : ((P.main.file : Str) == file) = true) (hcc : K.lookup cc = some ⟨cl, cld, .cell (some (.ref C)), csl⟩)
    (top : (P.main.scope.names.lookup ("super" : Str)).isSome = false)
    (hcl : clsIn K C = some cd)
    (sub : mroIn K C (.ref C) = some true) (ho : nsIn K cStatics "thirdparty.any" = some none) (sup : ks_superIn K C C "__init__" = some (some (.builtin "ValueError.__init__")))
    (ve : subIn K (.ref C) (.type "ValueError") = some true) (nw : excInitIn K C veTail "ValueError.__new__" = true)
    (fn : typeIn K (.ref fI) = some (.type "function")) (exC : subIn K (.ref C) (.type "BaseException") = some true) (tyC : typeIn K (.ref C) = some (.type "type")) (kC : keepIn K (.ref C) = true) : XCls0 K P C fI := by
  subst hb
  exact ⟨⟨⟨oc, od, qual, params, scope, dV, kV, doc, pm, an, cda, ct, cc, osl, p0, p1, p2, p4, p5, ar, ccl, cdd, vs, ccs, file, tf, cl, cld, csl, lk, hcd, hpar, har, hbd, hsc, hsh, hcode, hvs, hfile, hcc⟩, top, ⟨cd, hcl⟩, sub, ho, sup, ve, nw⟩, at_, fn, exC, tyC, kC⟩
end FD

/-! FDj: {**d, k: v}. -/
namespace FD
open PySem PySem.Spec PyProof.Rows L2
section
variable {prog : Program} {w : World} {A : Around} {E : Value → Shared → Prop} {s : Shared}
end
end FD

/-! FDi: defaults in C(..) and o.m(..), raising defs with defaults, lists unpacked, d.clear(), int(b), isinstance(e, a built-in class). -/
namespace FD
open PySem PySem.Spec PyProof.Rows L2
section
variable {X : DCx} {Wd : DWX} {k : Nat} {C f : Addr} {c m : Str} {fd : FuncData} {ps : List Str} {p pos apos : Pos} {e o : Expr} {es : List Expr} {t : DA} {to : DE} {dsp : DSp} {dfs : List D} {dvs : List V}
end
/-- a method with defaults -/
structure MFunD (K : PySem.W.Frag) (m qual : Str) (st : Stmt) (ps : List Str) (dvs : List V) (f : Addr) (fd : FuncData) : Prop where
  F : FunD K m qual (defArgs st) (defBody st) (defScope st) dvs [] f fd
  b : Binds K fd ps []
/-! ### a, b, c = a list -/
section
variable {X : DCx} {pos p apos cpos : Pos} {gs : DGts} {o e : Expr} {es : List Expr} {to : DE} {t : DA}
/-! ### d.clear() -/
/-! ### int(b) -/
end
/-! ### isinstance(e, B), B a built-in class -/
/-! ### for the printed derivations and ends -/
section
variable {K : PySem.W.Frag} {fd : FuncData} {ps ks : List Str} {x qual : Str} {params : Arguments} {body : List Stmt} {scope : Scope} {dvs : List V} {f : Addr}
end
section
variable {X : DCx} {Wd : DWX} {k i : Nat} {f C : Addr} {fd : FuncData} {ps ks : List Str} {x c : Str} {p pos : Pos} {e : Expr} {es : List Expr} {kws : List Keyword} {t : DA} {dsp : DSpX} {dfs : List D} {dvs : List V}
end
end FD

/-! FDk: dicts compared whose values are compared by own code, or hold dicts. -/
namespace FD
open PySem PySem.Spec PyProof.Rows L2
section
variable {prog : Program} {w : World} {K : Type} [DecidableEq K] {knd : KeyKind prog w K} {A : Around} {E : Value → Shared → Prop} {s : Shared}
end
end FD

/-! FDl: == of dicts at the data level: values plain, tuples with dicts in them, instances with own __eq__. -/
namespace FD
open PySem PySem.Spec PyProof.Rows L2
open AutoSeq1 (wpAny_loadPart')
open MeetsSeq MeetsSeq2 MeetsSeq3 SeqRoads2
section
variable {prog : Program} {w : World} {A : Around} {s : Shared}
end
end FD

/-! FDm: == of dicts without own code, the readings. -/
namespace FD
open PySem PySem.Spec PyProof.Rows L2
section
variable {X : DCx} {pins : List (Addr × Obj)} {σ : L2.St} {H : Hp} {s : Shared} {G : DG}
end
section
variable {X : DCx} {k : Nat} {a b : Expr} {da db : DE} {pos : Pos}
end
end FD

/-! FDn: == of dicts whose values are instances with own __eq__. -/
namespace FD
open PySem PySem.Spec PyProof.Rows L2
abbrev CmpD := D → D → DG → (Bool → DG → Prop) → Prop
section
variable {X : DCx} {k : Nat} {a b : Expr} {da db : DE} {pos : Pos}
end
/-! ### instances -/
structure EqCls (X : DCx) (k : Nat) (c : Str) (dsp : DSp) : Prop where
  ex : ∃ k' C f fd ps, k' ≤ k ∧ EqOn X.K c C f ∧ FnOk X.prog X.w X.K X.mg X.base CX0 k' f fd ps (lift (Bs.no X.prog X.w X.K) dsp) ∧ Binds X.K fd ps []
end FD

/-! FDo: methods that raise, own __getitem__, isinstance(instance, built-in), == over several own classes. -/
namespace FD
open PySem PySem.Spec PyProof.Rows L2
/-! ### o.m(..), where m may raise -/
section
variable {X : DCx} {Wd : DWX} {k : Nat} {C f pa0 : Addr} {c m : Str} {fd : FuncData} {ps : List Str} {apos pos : Pos} {o i e : Expr} {es : List Expr} {t : DA} {to ti : DE} {dsp : DSpX}
/-! ### o[i], own __getitem__ -/
structure ItemOn (K : PySem.W.Frag) (c : Str) (C f : Addr) : Prop where
  on : SpOn K c "__getitem__" C f
  fi : PySem.W.fnIn K f = true
/-! ### isinstance(x, built-in), x an instance -/
end
/-! ### x == y, y of any of these classes -/
section
variable {X : DCx} {k : Nat} {C f : Addr} {c : Str} {cs : List Str} {fd : FuncData} {ps : List Str} {pos p p2 p3 : Pos} {a b e : Expr} {da db te : DE} {dsp : DSp}
end
end FD

/-! FDp: d.pop(k), d.pop(k, x), sorted(d), {k: v for .. if ..} with text keys, {'a': x}. -/
namespace FD
open PySem PySem.Spec PyProof.Rows L2
section
variable {K : PySem.W.Frag} {H : Hp}
end
section
variable {X : DCx} {k : Nat} {o e f : Expr} {es : List Expr} {to te tf : DE} {t : DA} {apos pos p : Pos}
/-! ### sorted(d) -/
end
end FD

/-! FDq: {k: v for .. if ..} with text keys, {'a': x}. -/
namespace FD
open PySem PySem.Spec PyProof.Rows L2
end FD

/-! FDr: x != y, x an instance with an own __eq__ and no own __ne__; {'a': x}. -/
namespace FD
open PySem PySem.Spec PyProof.Rows L2
section
variable {prog : Program} {w : World} {A : Around} {E : Value → Shared → Prop} {s : Shared} {K : PySem.W.Frag} {x C f L : Addr} {h₀ : Heap} {m : Str → Option Value} {ox : Obj} {od : Option Obj} {b tb : Value}
end
/-- the class c has the __ne__ of object -/
structure NeOn (K : PySem.W.Frag) (C : Addr) : Prop where
  ne : PySem.W.findIn K (.ref C) "__ne__" = some (some (.builtin "object.__ne__"))
  ob : PySem.W.subIn K (.ref C) (.type "object") = some true
section
variable {X : DCx} {k : Nat} {C f : Addr} {c : Str} {cs : List Str} {fd : FuncData} {ps : List Str} {pos p p2 p3 : Pos} {a b e : Expr} {da db te : DE} {dsp : DSp}
/-! ### {k: v} -/
end
end FD

/-! FGa: for in a generator def. -/
namespace FD
open PySem PySem.Spec PyProof.Rows GenW L2
section
variable {M : Model} {A : Around} {R : GenEnd} {Y : Protocol} {n : Nat} {s₀ : Shared} {c : Code} {fs : List Frame} {s : Shared} {env : Env}
  {K : Flow → Sem PySem.Fin} {H : Value → Sem PySem.Fin} {gd : Bool → Bool} {lv : List Value → List Value}
end
section
variable {prog : Program} {w : World} {A : Around} {R : GenEnd} {Y : Protocol} {n : Nat} {s₀ : Shared} {fs : List Frame} {s : Shared} {env : Env}
end
section
variable {X : Cx} {tg : Expr}
end
end FD

/-! FGb: generator defs at the data level; list(o.m()). -/
namespace FD
open PySem PySem.Spec PyProof.Rows GenW L2
structure DGE where
  nx : List D → DSt → DG → Prop
  rt : List D → DK
  bk : List D → DSt → DG → Prop := fun _ _ _ => False
  ct : List D → DSt → DG → Prop := fun _ _ _ => False
def DGE.at (E : DGE) (ys : List D) : DEnds := { nx := E.nx ys, rt := E.rt ys, bk := E.bk ys, ct := E.ct ys }
/-- a statement of a generator; the list: what is out so far -/
abbrev DGS := DGE → List D → DSt → DG → Prop
def KtY (B : Bs) (G : DG) (H : Hp) (Q : List D → DSt → DG → Prop) (R : List V → L2.St → Hp → Prop) : Prop := ∀ ys vs ρ σ G' H', RpL B.K H' ys vs → RpS B.K H' ρ σ → Wld B G' H' → Fm G H G' H' → Q ys ρ G' → R vs σ H'
structure KtGE (B : Bs) (G : DG) (H : Hp) (E : DGE) (F : GEnds) : Prop where
  nx : KtY B G H E.nx F.nx
  rt : ∀ ys vs d v G' H', RpL B.K H' ys vs → Rp B.K H' d v → Wld B G' H' → Fm G H G' H' → E.rt ys d G' → F.rt vs v H'
  bk : KtY B G H E.bk F.bk
  ct : KtY B G H E.ct F.ct
theorem KtY.aft {B : Bs} {G G1 : DG} {H H1 : Hp} {Q : List D → DSt → DG → Prop} {R : List V → L2.St → Hp → Prop} (k : KtY B G H Q R) (f : Fm G H G1 H1) : KtY B G1 H1 Q R := fun ys vs ρ σ G' H' r s w f' q => k ys vs ρ σ G' H' r s w (f.trans f') q
theorem KtGE.aft {B : Bs} {G G1 : DG} {H H1 : Hp} {E : DGE} {F : GEnds} (k : KtGE B G H E F) (f : Fm G H G1 H1) : KtGE B G1 H1 E F :=
  ⟨k.nx.aft f, fun ys vs d v G' H' r rd w f' q => k.rt ys vs d v G' H' r rd w (f.trans f') q, k.bk.aft f, k.ct.aft f⟩
def LkGS (B : Bs) (tg : TGn) (t : DGS) : Prop := ∀ ρ σ G H ys vs E F, RpS B.K H ρ σ → Wld B G H → RpL B.K H ys vs → t E ys ρ G → KtGE B G H E F → tg F vs σ H
structure PDGS (X : DCx) (st : Stmt) (t : DGS) : Prop where
  ex : ∃ tg, GS X.toCx st tg ∧ LkGS (bs X) tg t
structure PDGSs (X : DCx) (st : List Stmt) (t : DGS) : Prop where
  ex : ∃ tg, GSs X.toCx st tg ∧ LkGS (bs X) tg t
section
variable {X : DCx} {st : Stmt} {rest : List Stmt} {e : Expr} {yp pos : Pos} {te : DE} {t u : DGS}
end
/-! ### generator defs -/
abbrev DSpG := List D → DG → (List D → DG → Prop) → Prop
/-! ### list(o.m()) -/
section
variable {X : DCx} {k : Nat} {C f : Addr} {c m : Str} {fd : FuncData} {ps : List Str} {apos pos pos' p : Pos} {o : Expr} {to : DE} {dsp : DSpG}
end
end FD

/-! FGc: dicts whose keys are tuples: k in d, d.get(k), d.get(k, x), len(d), dict(list of pairs). -/
namespace FD
open PySem PySem.Spec PyProof.Rows L2
/-! ### k in d -/
section
variable {X : DCx} {k : Nat} {pins : List (Addr × Obj)} {σ : L2.St} {H : Hp} {s : Shared} {G : DG} {a : Addr}
end
section
variable {X : DCx} {pos p p2 apos cpos : Pos} {a b e f o : Expr} {es : List Expr} {da db to te tf : DE} {t : DA} {k : Nat}
/-! ### d.get(k), d.get(k, z) -/
/-! ### len(d), dict(pairs) -/
end
end FD

/-! FGd: C(..) whose __init__ has defaults and may raise; C(); name += e. -/
namespace FD
open PySem PySem.Spec PyProof.Rows L2
section
variable {k : Nat} {C f : Addr} {fd : FuncData} {ps : List Str} {p pos : Pos} {e : Expr} {es : List Expr} {dvs : List V} {ds : List Value}
end
section
variable {X : DCx} {Wd : DWX} {k : Nat} {C f : Addr} {c x : Str} {fd : FuncData} {ps : List Str} {p pos pos' : Pos} {e : Expr} {es : List Expr} {t : DA} {dsp : DSpX} {dfs : List D} {dvs : List V} {te : DE}
/-! ### name += e, numbers -/
end
end FD

/-! FHa: sorted(set(xs)), xs a list or a tuple of texts. -/
namespace FD
open PySem PySem.Spec PyProof.Rows L2
section
variable {P : Program} {w : World} {A : Around} {E : Value → Shared → Prop} {s : Shared}
end
end FD

/-! FHb: set(xs) of a list or a tuple of texts; sorted of it. Printed by mkfhb.py. -/
namespace FD
open PySem PySem.Spec PyProof.Rows L2
section
variable {P : Program} {w : World} {A : Around} {E : Value → Shared → Prop} {s : Shared}
end
end FD

/-! FHc: sorted(set(xs)) over the data level. -/
namespace FD
open PySem PySem.Spec PyProof.Rows L2
section
variable {P : Program} {w : World} {A : Around} {E : Value → Shared → Prop} {s : Shared}
end
/-! ### over the data level -/
end FD

/-! FHd: == where instances with own __eq__ and None meet; in of a tuple by it. -/
namespace FD
open PySem PySem.Spec PyProof.Rows L2
section
variable {prog : Program} {w : World} {A : Around} {E : Value → Shared → Prop} {s : Shared} {K : PySem.W.Frag} {x C f : Addr} {ox : Obj} {od : Option Obj}
end
structure EqClss (X : DCx) (k : Nat) (cs : List (Str × DSp)) : Prop where
  all : ∀ p ∈ cs, EqCls X k p.1 p.2
  nf : ∀ c ∈ cs.map (·.1), ∀ c' ∈ cs.map (·.1), ∀ C C', ClsAt X.K c C → ClsAt X.K c' C' → PySem.W.notFirst X.K C (.ref C') = true
  nn : ∀ c ∈ cs.map (·.1), ∀ C, ClsAt X.K c C → PySem.W.subIn X.K (.ref C) (.type "NoneType") = some false
section
variable {X : DCx} {k : Nat} {cs : List (Str × DSp)}
/-! ### the operators -/
variable {a b : Expr} {da db : DE} {pos : Pos}
end
end FD

/-! FHe: try .. except C (no name), with else; exceptions without __init__; defs called in the suite; a statement that is never come to. -/
namespace FD
open PySem PySem.Spec PyProof.Rows L2
/-! ### what is never come to -/
/-! ### try .. except C: .. else: .. -/
section
variable {X : DCx} {xh : Str} {hv : Value} {body suite orelse : List Stmt} {b₀ : Stmt} {np pos pos' : Pos} {Wout : DWX} {ms : Str → Option Bool} {tb : DWX → DS} {ts u : DS}
end
/-! ### raise C(), C an own class without __init__ over Exception -/
structure XClsP (K : PySem.W.Frag) (C : Addr) : Prop where
  xC : PySem.W.excIn K C [.type "Exception", .type "BaseException", .type "object"] "Exception.__new__" = true
  exC : PySem.W.subIn K (.ref C) (.type "BaseException") = some true
  tyC : PySem.W.typeIn K (.ref C) = some (.type "type")
  kC : PySem.W.keepIn K (.ref C) = true
/-! ### defs that are called where an exception is handled -/
structure FnC (P : Program) (w : World) (K : PySem.W.Frag) (mg : Str → Option Value) (base : Heap) (CX : CXT) (k : Nat) (f : Addr) (fd : FuncData) (ps : List Str) (sp : Sp) : Prop where
  len : ∀ vs H Q E, sp vs H Q E → vs.length = ps.length
  run : ∀ (A : Around) (outer : List Env) (s : Shared) (H : Hp) (args : Args) (us : List Value) (vs : List V) (Q : VK) (E : XK), L2H.RoomH k A → Env0 P w K mg base A outer s H → BindsTo s fd args (ps.zip us) → Vals vs us → sp vs H Q E →
    codeAny (model P w) A (.call (.ref f) args) (CR CX outer P w H s Q E) s
section
variable {X : DCx} {k : Nat} {f : Addr} {fd : FuncData} {ps : List Str} {x : Str} {p pos : Pos} {e : Expr} {es : List Expr} {t : DA} {dsp : DSp}
end
end FD

/-! FHf: xs.extend, xs.pop(), max(xs), {k: v, ..}, f-strings, != of dicts. -/
namespace FD
open PySem PySem.Spec PyProof.Rows L2
open AutoSeq1 (wpAny_loadPart')
section
variable {X : Cx}
end
section
variable {X : DCx} {pos apos cpos p : Pos} {o e a b : Expr} {es : List Expr} {te to da db : DE} {t : DA} {k : Nat}
/-! ### xs.pop() -/
/-! ### max(xs) -/
/-! ### {k: v, ..} -/
abbrev DPs2 := DSt → DG → (List (D × D) → DG → Prop) → Prop
abbrev RpP (K : PySem.W.Frag) (H : Hp) : List (D × D) → List (V × V) → Prop := Paired fun (p : D × D) (q : V × V) => Rp K H p.1 q.1 ∧ Rp K H p.2 q.2
structure PDPs (X : DCx) (pos : Pos) (ks : List (Option Expr)) (vs : List Expr) (t : DPs2) : Prop where
  ex : ∃ trs, PPs X.toCx pos ks vs trs ∧ ∀ ρ σ G H Q (R : List (V × V) → Hp → Prop), RpS X.K H ρ σ → Wld (bs X) G H → t ρ G Q → (∀ ps qs G' H', RpP X.K H' ps qs → Wld (bs X) G' H' → Fm G H G' H' → Q ps G' → R qs H') → tPairs trs σ H R
/-! ### f'..' -/
inductive PDJ (X : DCx) : List Expr → List DE → Prop where
  | nil : PDJ X [] []
  | cons {e : Expr} {t : DE} {es : List Expr} {ts : List DE} (h : PD X e t) (r : PDJ X es ts) : PDJ X (e :: es) (t :: ts)
/-! ### d != e of two dicts -/
end
end FD

/-! FHg: dicts whose keys are numbers. -/
namespace FD
open PySem PySem.Spec PyProof.Rows L2
section
variable {K : PySem.W.Frag} {H : Hp}
end
/-! ### x[k], x[k] = v, k in x -/
section
variable {X : DCx} {pos p p2 apos : Pos} {a b e f o : Expr} {es : List Expr} {da db to te tf : DE} {t : DA} {k : Nat}
/-! ### a lock over such a dict -/
end
end FD

/-! FHh: an own exception over IndexError whose __init__ is «super().__init__(x); self.f = x». Printed by mkfhh.py of FD18, FD19, FD23. -/
namespace FD
open PySem PySem.W PySem.Calls PyProof.Rows L2 PySem.HandSPX
abbrev ieTail : List Value := [.type "IndexError", .type "LookupError", .type "Exception", .type "BaseException", .type "object"]
def refsIE (l : List Value) : Bool := match l with
  | [.ref _, .type a, .type b, .type c, .type d, .type e] => a == "IndexError" && b == "LookupError" && c == "Exception" && d == "BaseException" && e == "object"
  | _ => false
theorem refsIE_eq {l : List Value} (h : refsIE l = true) : ∃ c, l = .ref c :: ieTail := by
  unfold refsIE at h
  split at h
  · simp only [Bool.and_eq_true, beq_iff_eq] at h
    obtain ⟨⟨⟨⟨rfl, rfl⟩, rfl⟩, rfl⟩, rfl⟩ := h
    exact ⟨_, rfl⟩
  · cases h
theorem refsIE_pass (self : Value) (l : List Value) (h : refsIE l = true) : refuseLoop self "__setattr__" l = pure () := by
  obtain ⟨c, rfl⟩ := refsIE_eq h
  rw [refuseLoop_ref]
  exact PySem.F.store_IndexError.passes self
theorem refsIE_ne {l : List Value} (h : refsIE l = true) : l.isEmpty = false := by
  obtain ⟨c, rfl⟩ := refsIE_eq h
  rfl
theorem refsIE_obj {l : List Value} (h : refsIE l = true) : l.contains (.type "object") = true := by
  obtain ⟨c, rfl⟩ := refsIE_eq h
  rw [List.contains_cons, show ieTail.contains (.type "object") = true from by decide +kernel, Bool.or_true]
section
open Builtin Builtin.ObjectAttr
variable {prog : Program} {w : World} {A : Around} {E : Value → Shared → Prop} {R : Result → Shared → Prop} {hp : Heap} {g : Array GenState} {d : Drawn} {t : Nat} {os : OsState}
/-- the first attribute of such an exception is laid into a dict of its own -/
theorem exc_osaI {K : PySem.W.Frag} {name : Str} {tk : Tok} {v : Value} {x C : Addr} {fv : Array Value} {cd : ClassData} (X : K.In hp) (hx : hp.get? x = some { cls := .ref C, data := .fields fv }) (hcd : PySem.W.clsIn K C = some cd) (hm : refsIE cd.mro = true) (hh : cd.hasDict = true) (ha : PySem.W.findIn K (.ref C) name = some none)
    (hq : ∀ h' tk' dx, (∀ b o, b ≠ x → hp.get? b = some o → h'.get? b = some o) → hp.objs.size ≤ dx → dx ≠ x → h'.get? x = some { cls := .ref C, dict := some dx, data := .fields fv } → h'.Ns1 dx (fun y => if y = name then some v else none) → R (.ok (.ret .none)) ⟨h', g, d, tk', os⟩) :
    codeAny (model prog w) A (.call (.builtin "object.__setattr__") ⟨[.ref x, .str name tk, v], []⟩) R ⟨hp, g, d, t, os⟩ := by
  have SF := PySem.F.store_object
  have I : PySem.W.InstAt hp x { cls := .ref C, data := .fields fv } C none := ⟨hx, rfl, rfl, trivial⟩
  have apart : x ≠ hp.objs.size := Nat.ne_of_lt (Heap.lt_size hx)
  have isO : PySem.W.mroIn K C (.type "object") = some true := by
    unfold PySem.W.mroIn
    rw [hcd, Option.bind_some, if_neg (by rw [refsIE_ne hm]; decide), refsIE_obj hm]
  have sub : PySem.W.Looks (model prog w) hp (isInstance (.ref x) (.type "object")) true := I.type.andThen (PySem.W.looks_mroIn X isO)
  refine codeAny_call_builtin SF.slot.plain SF.entry (@PySem.W.check_slot (model prog w) _ _ ⟨hp, g, d, t, os⟩ "object.__setattr__" "object" "__setattr__" (.ref x) [.str name tk, v] [] _ SF.kind SF.split sub (SF.args (.ref x) (.str name tk) v) ?_)
  have mro : PySem.W.Looks (model prog w) hp (mroOf (.ref C)) cd.mro := (PySem.W.looks_clsIn X hcd).andThen .now
  have cls : PySem.W.Looks (model prog w) hp (classData C) cd := PySem.W.looks_clsIn X hcd
  have nobody : PySem.W.Looks (model prog w) hp (storeTaker? none) none := .now
  rw [PySem.W.osa_eq, refuse_eq]
  refine wpAny_bind (wpAny_bind (I.type.at (wpAny_bind (mro.at ?_))))
  rw [refsIE_pass _ _ hm]
  refine wpAny_pure (wpAny_bind (I.type.at (wpAny_bind ((PySem.W.looks_findIn X ha).at (wpAny_bind (nobody.at ?_))))))
  show wpAny _ _ (storeInOwnDict (.ref x) (.ref C) (.str name tk) name v false) _ _ _
  obtain ⟨c1, c2, c3, c4, c5, c6, c7, c8, c9, c10, c11⟩ := cd
  dsimp only at hh
  subst hh
  unfold storeInOwnDict ownDictForStores
  repeat (first | with_reducible refine store_in_new ?_ ?_ | with_reducible refine wpAny_loadPart_at hx ?_ | with_reducible refine cls.at ?_ | wp_step)
  · exact ⟨_, #[], _, (Heap.get?_update_ne _ _ _ _ apart.symm).trans (Heap.get?_push_at rfl rfl), rfl, fun e he => absurd he (by simp), fun _ => rfl⟩
  · intro h' tk' hn' hs
    refine hq h' tk' hp.objs.size (fun b o hb ho => ?_) (Nat.le_refl _) apart.symm ?_ hn'
    · rw [hs.2 b (Nat.ne_of_lt (Heap.lt_size ho)), Heap.get?_update_ne _ _ _ _ hb]
      exact Heap.get?_push_of_some _ ho
    · rw [hs.2 x apart]
      exact Heap.get?_update_self _ (Heap.get?_push_of_some _ hx) rfl
end
open PySem PySem.W PySem.Calls PyProof.Rows L2 PySem.HandSPX
section
variable {prog : Program} {w : World} {A : Around} {R : Result → Shared → Prop} {hp : Heap} {g : Array GenState} {dr : Drawn} {t : Nat} {os : OsState} {K : PySem.W.Frag} {mg : Str → Option Value} {base : Heap}
/-- what the written part tells of the class C and of its __init__ at fI -/
structure XInitI (K : PySem.W.Frag) (P : Program) (C fI : Addr) (x fld : Str) : Prop where
  fn : ∃ (oc : Value) (od : Option Addr) (qual : Str) (params : Arguments) (scope : Scope) (dV kV doc pm : Value) (an : Option Addr) (cda : Addr) (ct : Value) (cc : Addr) (osl : Array (Option Value)) (p0 p1 p2 p3 p4 p5 p6 p7 p8 p9 : Pos) (ar : Arg) (ccl : Value) (cdd : Option Addr) (vs : Array Value) (ccs : Array (Option Value)) (file : Str) (tf : Tok) (cl : Value) (cld : Option Addr) (csl : Array (Option Value)),
    K.lookup fI = some ⟨oc, od, .func (ksFn "__init__" qual params [.Expr (.Call (.Attribute (.Call (.Name "super" p0) [] [] p1) "__init__" p2) [.Name x p3] [] p4) p5, .Assign [.Attribute (.Name "self" p6) fld p7] (.Name x p8) p9] scope dV kV doc pm an (.ref cda) ct cc), osl⟩ ∧
    codeIn K (.ref cda) qual = true ∧ (params.posonlyargs ++ params.args).head? = some ar ∧ ar.arg = "self" ∧
    (∀ a u, bindArgs (ksFn "__init__" qual params [.Expr (.Call (.Attribute (.Call (.Name "super" p0) [] [] p1) "__init__" p2) [.Name x p3] [] p4) p5, .Assign [.Attribute (.Name "self" p6) fld p7] (.Name x p8) p9] scope dV kV doc pm an (.ref cda) ct cc) ⟨[a, u], []⟩ = pure [(("self" : Str), a), (x, u)]) ∧
    (scope.names.lookup ("super" : Str) = some .globalImplicit ∧ scope.names.lookup ("__class__" : Str) = some .free ∧ scope.names.lookup ("self" : Str) = some .local ∧ scope.names.lookup x = some .local ∧ scope.kind = .function ∧ (∀ y ∈ scope.names, y.2 ≠ .cell) ∧ scope.isCoroutine = false ∧ scope.isGenerator = false) ∧
    (∀ L, interactive (ksEnv qual scope L fI (.ref cda) cc) = false ∧ swapsWith (.Call (.Attribute (.Call (.Name "super" p0) [] [] p1) "__init__" p2) [.Name x p3] [] p4) none p5.line (ksEnv qual scope L fI (.ref cda) cc) = pure false ∧ swapsWith (.Name x p8) (some (.Attribute (.Name "self" p6) fld p7)) p9.line (ksEnv qual scope L fI (.ref cda) cc) = pure false ∧
      ∃ pl : Sem Bool, eval (.Call (.Attribute (.Call (.Name "super" p0) [] [] p1) "__init__" p2) [.Name x p3] [] p4) (ksEnv qual scope L fI (.ref cda) cc) = (do
        let ov ← attributeBase (.Call (.Name "super" p0) [] [] p1) "__init__" (ksEnv qual scope L fI (.ref cda) cc) (eval (.Call (.Name "super" p0) [] [] p1) (ksEnv qual scope L fI (.ref cda) cc))
        standAt p2.atName
        let (f, first) ← holding [ov] (getMethod ov "__init__" pl)
        callWith p4 f first (backTo p4 (starEach [.Name x p3] (ksEnv qual scope L fI (.ref cda) cc))) [])) ∧
    K.lookup cda = some ⟨ccl, cdd, .fields vs, ccs⟩ ∧ vs[2]? = some (.str file tf) ∧ ((P.main.file : Str) == file) = true ∧ K.lookup cc = some ⟨cl, cld, .cell (some (.ref C)), csl⟩
  top : (P.main.scope.names.lookup ("super" : Str)).isSome = false
  xs : x ≠ "self" ∧ (x == ("__debug__" : Str)) = false
  cls : ∃ cd, clsIn K C = some cd ∧ cd.hasDict = true ∧ refsIE cd.mro = true
  sub : mroIn K C (.ref C) = some true
  ho : nsIn K cStatics "thirdparty.any" = some none
  sup : ks_superIn K C C "__init__" = some (some (.builtin "IndexError.__init__"))
  ve : subIn K (.ref C) (.type "IndexError") = some true
  nw : excInitIn K C ieTail "IndexError.__new__" = true
  sa : findIn K (.ref C) "__setattr__" = some (some (.builtin "object.__setattr__"))
  no : findIn K (.ref C) fld = some none
theorem xi_runI {C fI a t0 : Addr} {x fld : Str} {u : Value} (T : XInitI K prog C fI x fld) (MO : Mod K mg base) (bk : ∀ b o, base.get? b = some o → hp.get? b = some o) (hsuper : mg "super" = none) (hroom : A.depth < recursionLimit) (hab : base.get? a = none) (ha : hp.get? a = some (excO C t0))
    (hq : ∀ h' tk' dx t1, (∀ b o, b ≠ a → hp.get? b = some o → h'.get? b = some o) → hp.objs.size ≤ dx → h'.get? a = some ({ cls := .ref C, dict := some dx, data := .fields #[.ref t1, .none, .none, .none, .bool false, .none] } : Obj) → h'.Ns1 dx (fun y => if y = fld then some u else none) → R (.ok (.ret .none)) ⟨h', g, dr, tk', os⟩) :
    codeAny (model prog w) A (.call (.ref fI) ⟨[.ref a, u], []⟩) R ⟨hp, g, dr, t, os⟩ := by
  obtain ⟨oc, od, qual, params, scope, dV, kV, doc, pm, an, cda, ct, cc, osl, p0, p1, p2, p3, p4, p5, p6, p7, p8, p9, ar, ccl, cdd, vs, ccs, file, tf, cl, cld, csl, lk, hcd, hpar, har, hbd, ⟨hks, hkc, hka, hkx, hk, hcell, hco, hgen⟩, hsh, hcode, hvs, hfile, hcc⟩ := T.fn
  obtain ⟨cd, hcl, hdi, hmro⟩ := T.cls
  have KX : K.In hp := MO.kin.keeps bk
  have hxs := T.xs
  refine ks_codeAny_call_defAt (s := ⟨hp, g, dr, t, os⟩) (binds := [(("self" : Str), .ref a), (x, u)]) hroom (KX _ _ lk) rfl (MO.nolimit.keeps bk) (codeRec_of KX hcd) rfl (BindsTo.of_eq (hbd _ _)) hcell (fun y hy => ?_) (fun h1 hns k1 => ?_) hco hgen hk
  · simp only [List.mem_cons, List.not_mem_nil, or_false] at hy
    rcases hy with rfl | rfl
    · exact hka
    · exact hkx
  have KX1 : K.In h1 := KX.keeps k1
  have bk1 : ∀ b o, base.get? b = some o → h1.get? b = some o := fun b o e => k1 b o (bk b o e)
  have ha1 := k1 _ _ ha
  have I1 : InstAt h1 a (excO C t0) C none := ⟨ha1, rfl, rfl, trivial⟩
  obtain ⟨mb, hb1, hb2⟩ := MO.blt
  obtain ⟨oD, hD1, hD2⟩ : ∃ oD, h1.get? C = some oD ∧ oD.data = .cls cd := by
    have hcl' := hcl
    unfold clsIn at hcl'
    split at hcl'
    · rename_i c d cd' sl ho
      cases hcl'
      exact ⟨_, KX1 _ _ ho, rfl⟩
    · cases hcl'
  obtain ⟨hi, hs1, hs2, pl, he⟩ := hsh hp.objs.size
  show PySem.wpAt (model prog w) (A.deeper (ksEnv qual scope hp.objs.size fI (.ref cda) cc)) (.func _ (ksEnv qual scope hp.objs.size fI (.ref cda) cc)) (execs _ (ksEnv qual scope hp.objs.size fI (.ref cda) cc)) _ _ _
  refine ks_wpAt_execs_cons (ks_wpAt_Expr_any (ks_wpAt_MethodCall (pl := pl) ?_ he) hi hs1)
  refine ks_wpAt_super_base (ar := ar) hks hkc rfl rfl (KX1 _ _ lk) rfl hpar rfl (KX1 _ _ hcode) rfl hvs hfile T.top ?_
  refine ks_loadName_global hk hks (loadGlobal_builtin (MO.glob.keeps bk1) hsuper (hb1.keeps bk1) ((hb2 _ (by decide +kernel)).trans PyProof.Rows.Boot.«super») ⟨rfl, ?_⟩)
  refine wpAny_loadName_free hk hkc rfl ⟨_, KX1 _ _ hcc, rfl⟩ ?_
  refine wpAny_loadName_local hk (by rw [har]; exact hka) hns (by rw [har]; show List.lookup ("self" : Str) [(x, u), (("self" : Str), Value.ref a)] = some (Value.ref a); rw [List.lookup_cons, beq_eq_false_iff_ne.mpr (Ne.symm hxs.1)]; rfl) ?_
  refine ks_wpAny_isType_cls hD1 hD2 ⟨rfl, ?_⟩
  refine ks_wpAny_call_super hD1 hD2 ha1 rfl (fun c e => by cases e) (looks_mroIn KX1 T.sub) (fun h2 e2 k2 => ?_)
  have KX2 : K.In h2 := KX1.keeps k2
  have I2 : InstAt h2 a (excO C t0) C none := ⟨k2 _ _ ha1, rfl, rfl, trivial⟩
  have hsup := T.sup
  unfold ks_superIn at hsup
  rw [hcl] at hsup
  refine kxs_getMethod kxs_IndexError e2 (looks_opaque KX2 T.ho) (l₀ := cd.mro) (fun A Q E s k q => wpAny_bind ((looks_clsIn KX2 hcl) A _ E s k (wpAny_pure q))) rfl KX2 hsup (I2.type.andThen (looks_subIn KX2 T.ve)) (ks_ne KX2 I2 hcl) rfl ?_
  have k3 : ∀ b o, h2.get? b = some o → (h2.push (kxs_mw "IndexError.__init__" a)).get? b = some o := fun b o e => Heap.get?_push_of_some _ e
  have hmw : (h2.push (kxs_mw "IndexError.__init__" a)).get? h2.objs.size = some (kxs_mw "IndexError.__init__" a) := Heap.get?_push_at rfl rfl
  generalize hh3 : h2.push (kxs_mw "IndexError.__init__" a) = h3 at k3 hmw
  have hlx : List.lookup x [(x, u), (("self" : Str), Value.ref a)] = some u := by rw [List.lookup_cons, beq_self_eq_true]
  have ns3 : h3.Ns hp.objs.size (fun y => List.lookup y [(x, u), (("self" : Str), Value.ref a)]) := hns.keeps fun b o e => k3 b o (k2 b o e)
  refine kxs_callWith (i := "IndexError.__init__") (x := a) rfl (evalArgs_plain (spliced_more (wpAny_Name (wpAny_loadName_local (env := ksEnv qual scope hp.objs.size fI (.ref cda) cc) hk hkx ns3 hlx (spliced_none ⟨hmw, ?_⟩)) hxs.2)))
  have ha3 : h3.get? a = some (excO C t0) := k3 _ _ (k2 _ _ ha1)
  obtain ⟨nm, N', qn, bs', bm, hdct, sn, sub', ab, col, dd, k0', k1', k2', k3', k5', hC3, hT3⟩ := excInit_of ((KX2).keeps k3) T.nw
  refine wpAny_call (codeAny_of_tree ?_)
  show wpAny _ (Around.in1 _) (callAny (.ref _) ⟨[u], []⟩) _ _ _
  simp only [callAny]
  refine wpAny_bind (wpAny_load hmw ?_)
  simp only [kxs_mw, show (Value.type "method-wrapper" == Value.type "method" || Value.type "method-wrapper" == Value.type "builtin_function_or_method" || Value.type "method-wrapper" == Value.type "method-wrapper") = true by decide, if_true]
  refine KFB.if_so (by decide) ?_
  refine wpAny_bind (check_bound_init F.excBase_IndexError.toExcCallFacts hC3 ha3 rfl ?_)
  refine wpAny_bind (wpAny_pure (wpAny_pure ?_))
  refine ⟨plainId_quiet F.excBase_IndexError.init.plain _, codeAny_builtin F.excBase_IndexError.initEntry ?_⟩
  refine exc_init_tree (cls := .ref C) (t0 := t0) (dv := none) (c2 := .none) (c3 := .none) (b4 := .bool false) ha3 (by simp [sizeLine]) fun h4 k4 e4 _ => ?_
  have ns4 : h4.Ns hp.objs.size (fun y => List.lookup y [(x, u), (("self" : Str), Value.ref a)]) := by
    obtain ⟨o, es, ep, e, r⟩ := ns3
    refine ⟨o, es, ep, k4 _ _ (fun z => ?_) e, r⟩
    exact absurd (Heap.lt_size ha) (by rw [← z]; exact Nat.lt_irrefl _)
  show PySem.wpAt _ _ _ (execs [.Assign [.Attribute (.Name "self" p6) fld p7] (.Name x p8) p9] (ksEnv qual scope hp.objs.size fI (.ref cda) cc)) _ _ _
  refine ks_wpAt_execs_cons (ks_wpAt_Assign_Attr ?_ hs2)
  refine wpAt_of_wpAny (wpAny_Name (wpAny_loadName_local hk hkx ns4 hlx ?_) hxs.2)
  refine wpAny_Name (wpAny_loadName_local hk hka ns4 (by show List.lookup ("self" : Str) [(x, u), (("self" : Str), Value.ref a)] = some (Value.ref a); rw [List.lookup_cons, beq_eq_false_iff_ne.mpr (Ne.symm hxs.1)]; rfl) ?_) (by decide)
  have kk : ∀ b o, b ≠ a → hp.get? b = some o → h4.get? b = some o := fun b o hb e => k4 b o hb (k3 b o (k2 b o (k1 b o e)))
  have hcl4 : ∀ b o, base.get? b = some o → b ≠ a := fun b o e z => by rw [z, hab] at e; cases e
  have KX4 : K.In h4 := MO.kin.keeps fun b o e => kk b o (hcl4 b o e) (bk b o e)
  refine set_plain KX4 (ox := excO C h3.objs.size) (od := none) ⟨e4, rfl, rfl, trivial⟩ T.sa ?_
  refine exc_osaI KX4 e4 hcl hmro hdi T.no (fun h5 tk5 dx k5 dn dne hx5 hn5 => ?_)
  refine wpAt_of_wpAny (wpAny_execs_nil ?_)
  refine hq h5 tk5 dx _ (fun b o hb e => k5 b o hb (kk b o hb e)) ?_ hx5 hn5
  exact Nat.le_trans (Nat.le_of_lt ns4.lt) dn
end
open PySem PySem.Spec PyProof.Rows L2
structure XClsI (K : PySem.W.Frag) (P : Program) (C fI : Addr) (x fld : Str) : Prop where
  ini : XInitI K P C fI x fld
  at_ : PySem.W.findIn K (.ref C) "__init__" = some (some (.ref fI))
  fn : PySem.W.typeIn K (.ref fI) = some (.type "function")
  exC : PySem.W.subIn K (.ref C) (.type "BaseException") = some true
  tyC : PySem.W.typeIn K (.ref C) = some (.type "type")
  kC : PySem.W.keepIn K (.ref C) = true
theorem pmk_xI {X : Cx} {c x fld : Str} {C fI : Addr} {p pos : Pos} {e : Expr} {ta : TA} (T : XClsI X.K X.prog C fI x fld) (hr : Room 2 X.A) (hg : Gl X c) (hm : X.mg c = some (.ref C)) (hsup : X.mg "super" = none) (ha : PA X [e] ta)
    (hdb : (c == ("__debug__" : Str)) = false := by decide) (he : starEach [e] X.env = (false, eval e X.env) :: starEach [] X.env := by rfl) (hpl : (backTo pos (starEach [] X.env)).any (·.1) = false := by rfl) :
    PMk X (.Call (.Name c p) [e] [] pos) (tMkX C fld ta) := by
  intro pins s σ H Q I h
  refine wpAny_Call_Name_kw (ld_glob I hg hm ?_ hdb)
  refine PySem.W.callWith_K (h₀ := X.base) I.ok.mod.kin T.kC (thn (ha.run pos pins s σ H _ I h) fun us s1 ⟨vs, H1, I1, r1, v, ev, q1⟩ => ⟨I1.kIn, ?_⟩) he hpl
  subst ev
  cases r1 with
  | @cons _ u _ ur ru rr =>
  cases rr
  show wpAny _ _ (call (.ref C) [u]) _ _ _
  obtain ⟨hp, g, dr, tk, os⟩ := s1
  obtain ⟨nm, N', qn, bs', bm, hdct, sn, sub', ab, col, dd, k0', k1', k2', k3', k5', hC, hT⟩ := PySem.W.excInit_of I1.kIn T.ini.nw
  have kk : ∀ b o, hp.get? b = some o → ((hp.push (PySem.W.kdv_tup [u])).push (PySem.HandSPX.excO C hp.objs.size)).get? b = some o := fun b o e => Heap.get?_push_of_some _ (Heap.get?_push_of_some _ e)
  have hget : ((hp.push (PySem.W.kdv_tup [u])).push (PySem.HandSPX.excO C hp.objs.size)).get? (hp.objs.size + 1) = some (PySem.HandSPX.excO C hp.objs.size) := by heap_get
  have lt0 : ∀ {b : Addr} {o : Obj}, hp.get? b = some o → b ≠ hp.objs.size + 1 := fun {b o} z y => by
    have := Heap.lt_size z
    rw [y] at this
    exact absurd this (Nat.not_lt.mpr (Nat.le_succ _))
  refine wpAny_call (PySem.HandSPX.call_own F.excBase_IndexError hT hC (PySem.W.looks_findIn I1.kIn T.at_) (fun self => PySem.W.bind_fn I1.kIn self T.fn) (by simp [sizeLine]) ?_)
  refine xi_runI T.ini I1.mod (fun b o e => kk b o (I1.bk b o e)) hsup (hr.make C [u] []).depth ?_ hget fun h' tk' dx t1 k5 dn hx hn => ?_
  · cases z : X.base.get? (hp.objs.size + 1) with
    | none => rfl
    | some o => exact absurd rfl (lt0 (I1.bk _ _ z))
  have hda : dx ≠ hp.objs.size + 1 := fun z => by
    have := Heap.lt_size hget
    rw [z] at dn
    exact absurd this (Nat.not_lt.mpr dn)
  have hsz : hp.objs.size ≤ dx := by
    have h1 : hp.objs.size + 1 < ((hp.push (PySem.W.kdv_tup [u])).push (PySem.HandSPX.excO C hp.objs.size)).objs.size := Heap.lt_size hget
    exact Nat.le_trans (Nat.le_of_lt (Nat.lt_trans (Nat.lt_succ_self _) h1)) dn
  obtain ⟨G, g1', g2'⟩ := restrict h' fun b => decide (b ≠ hp.objs.size + 1)
  have gk : ∀ b, b ≠ hp.objs.size + 1 → G.get? b = h'.get? b := fun b hb => g1' b (decide_eq_true hb)
  have ge : G.get? (hp.objs.size + 1) = none := g2' _ (by simp)
  have hdn : H1 dx = none := I1.hok.fresh hsz
  have hq := q1 dx hdn
  have J : Inv X pins σ (L2.upd H1 dx (.xd [(fld, v)])) ⟨G, g, dr, tk', os⟩ := by
    refine I1.laid (t' := tk') (a := dx) (o := .xd [(fld, v)]) (h' := G) (fun b o e => ?_) hsz ?_
    · rw [gk b (lt0 e)]
      exact k5 b o (lt0 e) (kk b o e)
    · refine ⟨_, hn.at fun o y => (gk dx hda).trans y, fun f => ?_⟩
      show RelO (List.lookup f [(fld, v)]) (if f = fld then some u else none)
      by_cases hf : f = fld
      · subst hf
        rw [List.lookup_cons, beq_self_eq_true, if_pos rfl]
        exact ru
      · rw [List.lookup_cons, beq_eq_false_iff_ne.mpr hf, if_neg hf]
        exact True.intro
  refine ⟨rfl, hp.objs.size + 1, _, _, ⟨G, g, dr, tk', os⟩, _, .ref C, some dx, rfl, J, fun b o z => ?_, ge, hx, ⟨rfl, rfl⟩, rfl, rfl, ?_, rfl, I1.bare, raises_own T.exC T.tyC, hq⟩
  · by_cases hb : b = hp.objs.size + 1
    · rw [hb, ge] at z; cases z
    · exact (gk b hb).symm.trans z
  · rw [upd_ne (Ne.symm hda)]
    exact I1.hok.fresh (Nat.le_succ _)
open PySem PySem.W PySem.Calls PyProof.Rows L2 PySem.HandSPX
theorem xcls_mkI {K : PySem.W.Frag} {P : Program} {C fI : Addr} {x fld : Str} {oc : Value} {od : Option Addr} {qual : Str} {params : Arguments} {body : List Stmt} {scope : Scope} {dV kV doc pm : Value} {an : Option Addr} {cda : Addr} {ct : Value} {cc : Addr} {osl : Array (Option Value)} {p0 p1 p2 p3 p4 p5 p6 p7 p8 p9 : Pos} {ar : Arg} {ccl : Value} {cdd : Option Addr} {vs : Array Value} {ccs : Array (Option Value)} {file : Str} {tf : Tok} {cl : Value} {cld : Option Addr} {csl : Array (Option Value)} {cd : ClassData}
    (at_ : findIn K (.ref C) "__init__" = some (some (.ref fI)))
    (lk : K.lookup fI = some ⟨oc, od, .func (ksFn "__init__" qual params body scope dV kV doc pm an (.ref cda) ct cc), osl⟩)
    (hcd : codeIn K (.ref cda) qual = true)
    (hb : body = [.Expr (.Call (.Attribute (.Call (.Name "super" p0) [] [] p1) "__init__" p2) [.Name x p3] [] p4) p5, .Assign [.Attribute (.Name "self" p6) fld p7] (.Name x p8) p9])
    (hpar : (params.posonlyargs ++ params.args).head? = some ar) (har : ar.arg = "self")
    (hbd : ∀ a u, bindArgs (ksFn "__init__" qual params body scope dV kV doc pm an (.ref cda) ct cc) ⟨[a, u], []⟩ = pure [(("self" : Str), a), (x, u)])
    (hsc : scope.names.lookup ("super" : Str) = some .globalImplicit ∧ scope.names.lookup ("__class__" : Str) = some .free ∧ scope.names.lookup ("self" : Str) = some .local ∧ scope.names.lookup x = some .local ∧ scope.kind = .function ∧ (∀ y ∈ scope.names, y.2 ≠ .cell) ∧ scope.isCoroutine = false ∧ scope.isGenerator = false)
    (hsh : ∀ L, interactive (ksEnv qual scope L fI (.ref cda) cc) = false ∧ swapsWith (.Call (.Attribute (.Call (.Name "super" p0) [] [] p1) "__init__" p2) [.Name x p3] [] p4) none p5.line (ksEnv qual scope L fI (.ref cda) cc) = pure false ∧ swapsWith (.Name x p8) (some (.Attribute (.Name "self" p6) fld p7)) p9.line (ksEnv qual scope L fI (.ref cda) cc) = pure false ∧
      ∃ pl : Sem Bool, eval (.Call (.Attribute (.Call (.Name "super" p0) [] [] p1) "__init__" p2) [.Name x p3] [] p4) (ksEnv qual scope L fI (.ref cda) cc) = (do
        let ov ← attributeBase (.Call (.Name "super" p0) [] [] p1) "__init__" (ksEnv qual scope L fI (.ref cda) cc) (eval (.Call (.Name "super" p0) [] [] p1) (ksEnv qual scope L fI (.ref cda) cc))
        standAt p2.atName
        let (f, first) ← holding [ov] (getMethod ov "__init__" pl)
        callWith p4 f first (backTo p4 (starEach [.Name x p3] (ksEnv qual scope L fI (.ref cda) cc))) []))
    (hcode : K.lookup cda = some ⟨ccl, cdd, .fields vs, ccs⟩) (hvs : vs[2]? = some (.str file tf)) (hfile : ((P.main.file : Str) == file) = true) (hcc : K.lookup cc = some ⟨cl, cld, .cell (some (.ref C)), csl⟩)
    (top : (P.main.scope.names.lookup ("super" : Str)).isSome = false) (xs : x ≠ "self" ∧ (x == ("__debug__" : Str)) = false)
    (hcl : clsIn K C = some cd) (hdi : cd.hasDict = true) (hm : refsIE cd.mro = true)
    (sub : mroIn K C (.ref C) = some true) (ho : nsIn K cStatics "thirdparty.any" = some none) (sup : ks_superIn K C C "__init__" = some (some (.builtin "IndexError.__init__")))
    (ve : subIn K (.ref C) (.type "IndexError") = some true) (nw : excInitIn K C ieTail "IndexError.__new__" = true) (sa : findIn K (.ref C) "__setattr__" = some (some (.builtin "object.__setattr__"))) (no : findIn K (.ref C) fld = some none)
    (fn : typeIn K (.ref fI) = some (.type "function")) (exC : subIn K (.ref C) (.type "BaseException") = some true) (tyC : typeIn K (.ref C) = some (.type "type")) (kC : keepIn K (.ref C) = true) : XClsI K P C fI x fld := by
  subst hb
  exact ⟨⟨⟨oc, od, qual, params, scope, dV, kV, doc, pm, an, cda, ct, cc, osl, p0, p1, p2, p3, p4, p5, p6, p7, p8, p9, ar, ccl, cdd, vs, ccs, file, tf, cl, cld, csl, lk, hcd, hpar, har, hbd, hsc, hsh, hcode, hvs, hfile, hcc⟩, top, xs, ⟨cd, hcl, hdi, hm⟩, sub, ho, sup, ve, nw, sa, no⟩, at_, fn, exC, tyC, kC⟩
end FD

/-! FHi: small things for the printed texts. -/
namespace FD
open PySem PySem.Spec PyProof.Rows L2
end FD

/-! FHj: == and `in (..)` of tuples with dicts inside, where None may stand in a tuple's place. -/
namespace FD
open PySem PySem.Spec PyProof.Rows L2
section
variable {X : DCx} {k : Nat} {pins : List (Addr × Obj)} {s : Shared} {σ : L2.St} {H : Hp} {G : DG}
variable {n : Nat} {a b : Expr} {da db : DE} {pos : Pos}
end
end FD

/-! FHk: range(i, j, -1). -/
namespace FD
open PySem PySem.Spec PyProof.Rows L2
section
variable {X : DCx} {tg : Expr} {ta : DA}
end
end FD

/-! FHl: xs.insert(i, y). -/
namespace FD
open PySem PySem.Spec PyProof.Rows L2
section
variable {X : DCx} {apos cpos : Pos} {o e : Expr} {es : List Expr} {te : DE} {t : DA}
end
end FD

/-! FIa: == of tuples of rows in which instances with own __eq__ stand. -/
namespace FD
open PySem PySem.Spec PyProof.Rows L2
open AutoSeq1 (wpAny_loadPart')
open MeetsSeq MeetsSeq2 MeetsSeq3 SeqRoads2
section
variable {prog : Program} {w : World} {A : Around} {E : Value → Shared → Prop} {s : Shared}
end
section
variable {X : DCx} {pins : List (Addr × Obj)} {σ : L2.St} {H : Hp} {s : Shared} {G : DG} {cmp : CmpD} {A : Around}
end
section
variable {X : DCx} {k : Nat} {cs : List (Str × DSp)} {a b : Expr} {da db : DE} {pos : Pos}
end
end FD

/-! FIb: != where instances with own __eq__ and None meet, != of told tuples. -/
namespace FD
open PySem PySem.Spec PyProof.Rows L2
open AutoSeq1 (wpAny_loadPart')
open MeetsSeq MeetsSeq2 MeetsSeq3 SeqRoads2
section
variable {prog : Program} {w : World} {A : Around} {E : Value → Shared → Prop} {s : Shared} {K : PySem.W.Frag} {x C f : Addr} {ox : Obj} {od : Option Obj}
end
section
variable {X : DCx} {k : Nat} {cs : List (Str × DSp)} {a b : Expr} {da db : DE} {pos : Pos}
end
/-! ### told tuples and None, != -/
section
variable {X : DCx} {k : Nat} {pins : List (Addr × Obj)} {s : Shared} {σ : L2.St} {H : Hp} {G : DG}
variable {n : Nat} {a b : Expr} {da db : DE} {pos : Pos}
end
end FD

/-! FIc: == of lists of told rows. -/
namespace FD
open PySem PySem.Spec PyProof.Rows L2
open AutoSeq1 (wpAny_loadPart')
open MeetsSeq MeetsSeq2 MeetsSeq3 SeqRoads2
section
variable {prog : Program} {w : World} {l b : Addr} {items items2 : Array Value} {n n2 : Nat} {dd dd2 : Option Addr} {sl sl2 : Array (Option Value)} {e : Nat → Bool}
end
section
variable {X : DCx} {k : Nat} {pins : List (Addr × Obj)} {s : Shared} {σ : L2.St} {H : Hp} {G : DG}
variable {n : Nat} {a b : Expr} {da db : DE} {pos : Pos}
end
end FD

/-! FIe: ~x and x + y by own __invert__ and __add__. -/
namespace FD
open PySem PySem.Spec PyProof.Rows L2
section
variable {prog : Program} {w : World} {A : Around} {E : Value → Shared → Prop} {s : Shared} {K : PySem.W.Frag} {x y C f : Addr} {ox oy : Obj} {od oe : Option Obj}
end
section
variable {X : DCx} {Wd : DWX} {k : Nat} {C f : Addr} {c m : Str} {fd : FuncData} {ps : List Str} {pos : Pos} {a b e : Expr} {da db te : DE} {dsp : DSp} {dspX : DSpX}
end
end FD

/-! FIf: {**a, **b}, keys that are texts. -/
namespace FD
open PySem PySem.Spec PyProof.Rows L2
end FD

/-! FIg: two classes whose != is object's. -/
namespace FD
open PySem PySem.Spec PyProof.Rows L2
/-! ### name = {k: v for ..}, on one line -/
section
variable {X : Cx}
end
/-! ### C() with defaults -/
section
variable {X : DCx} {k : Nat} {C f : Addr} {c : Str} {fd : FuncData} {ps : List Str} {pos p : Pos} {dsp : DSp} {dfs : List D} {dvs : List V}
end
end FD

/-! FIh: own exceptions held as values: made, their fields, isinstance. -/
namespace FD
open PySem PySem.Spec PyProof.Rows L2
theorem exv_ok {P : Program} {w : World} {H : Hp} {h : Heap} {a C : Addr} {d : Option Addr} {oe : Obj} {vs : Array Value} (e : h.get? a = some oe) (z : Zc (.ref C) d oe) (dd : oe.data = .fields vs) : ObjOk P w H h a (exv a C d) :=
  ⟨⟨oe, e, z, vs, dd⟩, ⟨oe, e⟩, fun _ _ ⟨o, q, r⟩ k => ⟨o, k o q, r⟩⟩
theorem exv_at {P : Program} {w : World} {H : Hp} {h : Heap} {a C : Addr} {d : Option Addr} (hok : HOk P w H h) (e : H a = some (exv a C d)) : ∃ oe, h.get? a = some oe ∧ Zc (.ref C) d oe ∧ ∃ vs, oe.data = .fields vs := (hok a _ e).1
/-- what makes an exception gives it as a value -/
theorem pe_of_pmk {X : Cx} {e : Expr} {t : L2.St → Hp → XK → Prop} (h : PMk X e t) : PE X e (fun σ H Q => t σ H fun cls d H1 => ∃ C, cls = .ref C ∧ ∀ a, H1 a = none → Q (.ref a) (L2.upd H1 a (exv a C d))) := by
  refine ⟨fun pins s σ H Q I q => ?_⟩
  refine wpAny_mono (h pins s σ H _ I q) (fun u s1 hu => ?_) fun _ _ z => z
  obtain ⟨a, oe, vs, sI, H', cls, d, rfl, J, k, hne, ha, hz, hd, h1, na, os, ag, r, C, rfl, q⟩ := hu
  refine ⟨.ref a, _, ?_, rfl, q a na⟩
  exact J.call' (ch := []) os (Un.laidN k hne na) (J.hok.laidN k na (exv_ok ha hz hd)) ag (fun b hb => nomatch hb)
/-- v.f, v an exception -/
def tXv (K : PySem.W.Frag) (f : Str) (te : TE) : TE := fun σ H Q => te σ H fun x H1 => ∃ a C dd fs v, x = .ref a ∧ H1 a = some (exv a C (some dd)) ∧ H1 dd = some (.xd fs) ∧ XfC K C ∧ PySem.W.findIn K (.ref C) f = some none ∧ fs.lookup f = some v ∧ Q v H1
theorem pe_xv {X : Cx} {e : Expr} {te : TE} {pos : Pos} {n : Str} (he : PE X e te) (hb : attributeBase e n X.env (eval e X.env) = eval e X.env := by rfl) : PE X (.Attribute e n pos) (tXv X.K n te) := by
  refine ⟨fun pins s σ H Q I h => ?_⟩
  refine attr_of hb (thn (he.run pins s σ H _ I h) fun u s1 hh => ?_)
  obtain ⟨x, H1, I1, rx, a, C, dd, fs, v, ex, ea, ed, T, hno, l, q⟩ := hh
  subst ex
  obtain rfl : u = Value.ref a := rx
  obtain ⟨oe, ha, hz, vs, hd⟩ := exv_at I1.hok ea
  have hx : ObjOk X.prog X.w H1 s1.heap dd (.xd fs) := I1.hok dd _ ed
  obtain ⟨mA, hns, hr⟩ := hx
  obtain ⟨od, ho, hl⟩ := lookIn_ns hns
  obtain ⟨u, hu, ru⟩ := RelO.some_of (v := v) (o := mA n) (by rw [← l]; exact hr n)
  have J : PySem.W.InstAt s1.heap a oe C (some od) := ⟨ha, hz.1, by unfold PySem.W.notCls; rw [hd] <;> rfl, by rw [hz.2]; exact ho⟩
  exact HandSPX.exc_get I1.kIn J T.ga T.gg T.exC (PySem.W.findObj_own T.hdC hno rfl (by rw [hl, hu])) (handed_of ru) ⟨v, H1, I1.tok _, ru, q⟩
/-- isinstance(v, c), v an exception -/
def rIsV (K : PySem.W.Frag) : List V → Hp → VK → Prop := fun xs H Q => ∃ (a D : Addr) (d : Option Addr) (c : V) (cv : Value) (b : Bool), xs = [.ref a, c] ∧ H a = some (exv a D d) ∧ (d = none ∨ ∃ dd fs, d = some dd ∧ H dd = some (.xd fs)) ∧ ExcC K D ∧ (∀ u, RelV c u → u = cv) ∧ PySem.W.kitOne K (.ref D) cv = some b ∧ Q (.bl b) H
theorem call_isV {X : Cx} : CallR X (.builtin "isinstance") (rIsV X.K) := by
  intro pins s σ H xs us Q I r h
  obtain ⟨a, D, d, c, cv, b, rfl, ea, hd, C, hcv, e, q⟩ := h
  cases r with
  | cons rx rr =>
    cases rr with
    | cons rt rr =>
      cases rr
      cases rx
      have ec := hcv _ rt
      subst ec
      obtain ⟨oe, hget, hz, vs, hv⟩ := exv_at I.hok ea
      have J : ∃ od, PySem.W.InstAt s.heap a oe D od := by
        rcases hd with rfl | ⟨dd, gs, rfl, eg⟩
        · exact ⟨none, hget, hz.1, by unfold PySem.W.notCls; rw [hv] <;> rfl, by rw [hz.2]; trivial⟩
        · obtain ⟨mA, hns, hr⟩ := (I.hok dd _ eg : ObjOk X.prog X.w H s.heap dd (.xd gs))
          obtain ⟨od, ho, hl⟩ := lookIn_ns hns
          exact ⟨some od, hget, hz.1, by unfold PySem.W.notCls; rw [hv] <;> rfl, by rw [hz.2]; exact ho⟩
      obtain ⟨od, J⟩ := J
      exact PySem.W.kia_one (PySem.W.kitx_exc (by obtain ⟨cd, hc, _⟩ := PySem.W.any_some C.hd; rw [hc]; rfl) C.hg C.hk C.hs C.ha C.hn C.ht C.hm) I.kIn J e (fun z => nomatch z) fun tk => ⟨.bl b, H, I.kept (t' := tk) fun _ _ z => z, rfl, q⟩
/-! ### at the data level -/
def dExn (c fld : Str) (t : DA) : DE := fun ρ G Q => t ρ G fun xs G1 => match xs with
  | [x] => ∀ p, G1 p = none → Q (.ref p) (G1.upd p (.exn c [(fld, x)]))
  | _ => False
def dExn0 (c : Str) : DE := fun _ G Q => ∀ p, G p = none → Q (.ref p) (G.upd p (.exn c []))
def dXv (cs : List Str) (f : Str) (te : DE) : DE := fun ρ G Q => te ρ G fun x G1 => match x with
  | .ref a => ∃ c fs v, G1 a = some (.exn c fs) ∧ c ∈ cs ∧ fs.lookup f = some v ∧ Q v G1
  | _ => False
def dIsV (ms : Str → Option Bool) (te : DE) : DE := fun ρ G Q => te ρ G fun x G1 => match x with
  | .ref a => ∃ c fs b, G1 a = some (.exn c fs) ∧ ms c = some b ∧ Q (.bl b) G1
  | _ => False
/-- what is laid: the dict, the exception -/
theorem lk_exn {X : DCx} {C : Addr} {c fld : Str} {ta : TA} {t : DA} (hn : ClsAt X.K c C) (la : LkA (bs X) ta t) : LkE (bs X) (fun σ H Q => tMkX C fld ta σ H fun cls d H1 => ∃ C, cls = .ref C ∧ ∀ a, H1 a = none → Q (.ref a) (L2.upd H1 a (exv a C d))) (dExn c fld t) := fun ρ σ G H Q R s w h kk => by
  refine la ρ σ G H _ _ s w h fun ds vs G1 H1 r1 w1 f1 q1 => ?_
  match ds, q1 with
  | [x], q1 =>
    obtain ⟨v, rfl, rv⟩ := r1.one
    refine ⟨v, rfl, fun dx hd => ⟨C, rfl, fun a ha => ?_⟩⟩
    have w2 := wld_hid (o := .xd [(fld, v)]) w1 hd
    have ne : dx ≠ a := fun z => by rw [← z, upd_same] at ha; cases ha
    have rv3 := (rv.mono (kp_new (B := bs X) (o := .xd [(fld, v)]) hd)).mono (kp_new (B := bs X) (o := exv a C (some dx)) ha)
    refine kk _ _ _ _ (rp_ref.mpr rfl) (wld_new (d := .exn c [(fld, x)]) w2 ha ⟨C, some dx, [(fld, v)], upd_same, ?_, hn, .cons ⟨rfl, rv3⟩ .nil⟩) ((f1.trans (fm_hid hd)).trans (fm_new ha)) (q1 a (w2.none ha))
    show L2.upd _ a _ dx = _
    rw [upd_ne ne, upd_same]
section
variable {X : DCx} {c x fld : Str} {C fI : Addr} {p p3 pos : Pos} {e : Expr} {t : DA} {te : DE}
theorem pd_exn (T : XCls X.K X.prog C fI x fld) (hr : Room 2 X.A) (hg : Gl X c) (hm : X.mg c = some (.ref C)) (hn : ClsAt X.K c C) (hsup : X.mg "super" = none) (ha : PDA X [e] t)
    (hdb : (c == ("__debug__" : Str)) = false := by decide) (he : starEach [e] X.env = (false, eval e X.env) :: starEach [] X.env := by rfl) (hpl : (backTo pos (starEach [] X.env)).any (·.1) = false := by rfl) :
    PD X (.Call (.Name c p) [e] [] pos) (dExn c fld t) := by
  obtain ⟨ta, pa, la⟩ := ha
  exact ⟨_, pe_of_pmk (pmk_x T hr hg hm hsup pa hdb he hpl), lk_exn hn la⟩
theorem pd_exnI (T : XClsI X.K X.prog C fI x fld) (hr : Room 2 X.A) (hg : Gl X c) (hm : X.mg c = some (.ref C)) (hn : ClsAt X.K c C) (hsup : X.mg "super" = none) (ha : PDA X [e] t)
    (hdb : (c == ("__debug__" : Str)) = false := by decide) (he : starEach [e] X.env = (false, eval e X.env) :: starEach [] X.env := by rfl) (hpl : (backTo pos (starEach [] X.env)).any (·.1) = false := by rfl) :
    PD X (.Call (.Name c p) [e] [] pos) (dExn c fld t) := by
  obtain ⟨ta, pa, la⟩ := ha
  exact ⟨_, pe_of_pmk (pmk_xI T hr hg hm hsup pa hdb he hpl), lk_exn hn la⟩
theorem pd_xv {cs : List Str} {f : Str} (hcs : ∀ c ∈ cs, ∀ C, ClsAt X.K c C → XfC X.K C ∧ PySem.W.findIn X.K (.ref C) f = some none) (he : PD X e te) (hb : attributeBase e f X.env (eval e X.env) = eval e X.env := by rfl) : PD X (.Attribute e f pos) (dXv cs f te) := by
  obtain ⟨t, pe, le⟩ := he
  refine ⟨_, pe_xv pe hb, fun ρ σ G H Q R s w h kk => ?_⟩
  refine le ρ σ G H _ _ s w h fun d v G1 H1 r1 w1 f1 q1 => ?_
  cases d with
  | ref a =>
    obtain ⟨c, fs, u, ea, hc, hl, q⟩ := q1
    obtain ⟨C, dd, gs, eh, ed, hn, rl⟩ := w1.1 a _ ea
    obtain ⟨T, hno⟩ := hcs c hc C hn
    obtain ⟨u', eu, ru⟩ := rpf_lookup rl hl
    cases dd with
    | none =>
      have ed : gs = [] := ed
      subst ed
      cases eu
    | some dd => exact ⟨a, C, dd, gs, u', rp_ref.mp r1, eh, ed, T, hno, eu, kk u u' G1 H1 ru w1 f1 q⟩
  | _ => exact q1.elim
theorem pd_isV {HC : Addr} {cn : Str} {ms : Str → Option Bool} (hgi : Gl X "isinstance") (hmi : X.mg "isinstance" = none) (hgc : Gl X cn) (hmc : X.mg cn = some (.ref HC))
    (hms : ∀ c b, ms c = some b → ∀ C, ClsAt X.K c C → ExcC X.K C ∧ PySem.W.kitOne X.K (.ref C) (.ref HC) = some b) (he0 : PD X e te) (hdc : (cn == ("__debug__" : Str)) = false := by decide)
    (he : starEach [e, .Name cn p3] X.env = (false, eval e X.env) :: starEach [.Name cn p3] X.env := by rfl) (hpl : (backTo pos (starEach [.Name cn p3] X.env)).any (·.1) = false := by rfl) :
    PD X (.Call (.Name "isinstance" p) [e, .Name cn p3] [] pos) (dIsV ms te) := by
  obtain ⟨t, pe, le⟩ := he0
  refine ⟨_, pe_callB call_isV hgi hmi (by decide +kernel) (pa_cons pe (pa_cons (pe_glob (v := .ref HC) hgc hmc rfl hdc) pa_nil) (hs := he)) (by decide) (by decide) he hpl, fun ρ σ G H Q R s w h kk => ?_⟩
  refine le ρ σ G H _ _ s w h fun d v G1 H1 r1 w1 f1 q1 => ?_
  cases d with
  | ref a =>
    obtain ⟨c, fs, b, ea, hc, q⟩ := q1
    obtain ⟨C, dd, gs, eh, ed, hn, rl⟩ := w1.1 a _ ea
    obtain ⟨EC, hk⟩ := hms c b hc C hn
    cases (rp_ref.mp r1)
    refine ⟨a, C, dd, .ref HC, .ref HC, b, rfl, eh, ?_, EC, fun u r => r, hk, kk _ _ G1 H1 (rp_bl.mpr rfl) w1 f1 q⟩
    cases dd with
    | none => exact .inl rfl
    | some dd => exact .inr ⟨dd, gs, rfl, ed⟩
  | _ => exact q1.elim
end
end FD

/-! FIi: own exceptions over KeyError: their new is LookupError's, their init KeyError's. -/
namespace FD
open PySem PySem.W PySem.Calls PyProof.Rows L2 PySem.HandSPX
abbrev keTail : List Value := [.type "KeyError", .type "LookupError", .type "Exception", .type "BaseException", .type "object"]
theorem ke_entry : entryFor table "KeyError.__init__" = some Builtin.«BaseException.__init__» :=
  entryFor_alias (id' := "BaseException.__init__") (by rw [fastTable_eq_tree]; kernel_rfl) (by first | rfl | decide +kernel) (by decide +kernel) (by rw [fastTable_eq_tree]; kernel_rfl)
theorem ke_kind : builtinKind "KeyError.__init__" = some .slot := by kernel_rfl
theorem ke_row : Manifest.signature? "KeyError.__init__" = some ⟨.positional, "*", "KeyError", .self, [⟨"args", .varPos, false⟩]⟩ := by kernel_rfl
theorem ke_slot : Slot "KeyError" "__init__" "KeyError.__init__" :=
  .of (owner := "KeyError") (n := "__init__") (by rw [typeLookup_type, builtinLookup_eq_fast]; kernel_rfl) (by decide +kernel) (by decide +kernel) (by decide +kernel)
    (by first | exact .inl (by decide +kernel) | exact .inr (by decide +kernel)) (by rw [isSubtype_type]; kernel_rfl)
theorem kxs_KeyError : KxsFacts "KeyError" "KeyError.__init__" := ⟨by show builtinType _ = _; rw [builtinType_eq_fast]; kernel_rfl, by first | kernel_rfl | rfl⟩
section
variable {M : Model} {A : Around} {E : Value → Shared → Prop} {h : Heap} {g : Array GenState} {d : Drawn} {t : Nat} {os : OsState}
variable {nm q : Str} {C N : Addr} {bs bm : List Value} {hdct : Bool} {sn : List Str} {sub : List Value} {ab : Bool} {col : Option Bool} {dd : Option Addr} {k0 k1 k2 k3 k5 : Option Value}
theorem ke_has {X : String} (hT : ∀ X : String, bm.contains (.type X) = keTail.contains (.type X)) (b : Bool) (h : keTail.contains (.type X) = b) : (Value.ref C :: bm).contains (.type X) = b := by
  rw [List.contains_cons, hT, h]; rfl
theorem check_newK (hT : ∀ X : String, bm.contains (.type X) = keTail.contains (.type X)) {rest : List Value} {Q : Unit → Shared → Prop}
    (hC : h.get? C = some (excClassObj nm q C N bs bm hdct sn sub ab col dd k0 k1 k2 k3 k5 "LookupError.__new__")) (hq : Q () ⟨h, g, d, t, os⟩) : wpAny M A (checkBuiltinCall "LookupError.__new__" ⟨.ref C :: rest, []⟩) Q E ⟨h, g, d, t, os⟩ := by
  have hcont : (Value.ref C :: bm).contains (.type "LookupError") = true := ke_has hT true (by decide +kernel)
  have hstar := PySem.F.excBase_LookupError.noStar
  simp only [checkBuiltinCall, PySem.F.excBase_LookupError.newKind, PySem.F.excBase_LookupError.newSplit, PySem.F.excBase_LookupError.newRow]
  repeat (first | refine wpAny_loadPart_at hC ?_ | (refine wpAny_isSubtype_exc hC ?_; rw [hcont]) | refine wpAny_staticBase_exc hC ?_ | refine wpAny_madeBy_exc hC ?_ | simp only [bne_self_eq_false, Bool.false_eq_true, if_false] | wp_step)
  exact hq
theorem check_boundK {e : Addr} {oe : Obj} {rest : List Value} {Q : Unit → Shared → Prop}
    (hC : h.get? C = some (excClassObj nm q C N bs bm hdct sn sub ab col dd k0 k1 k2 k3 k5 "LookupError.__new__")) (he : h.get? e = some oe) (hcls : oe.cls = .ref C) (hq : Q () ⟨h, g, d, t, os⟩) : wpAny M A (checkBoundCall "KeyError.__init__" ⟨.ref e :: rest, []⟩) Q E ⟨h, g, d, t, os⟩ := by
  have hshort : ("KeyError" != "*") = true := by decide +kernel
  simp only [checkBoundCall, ke_kind, ke_row]
  repeat (first | (with_reducible refine wpAny_loadPart_at he ?_; rw [hcls]) | with_reducible refine wpAny_loadPart_at hC ?_ | wp_step)
  refine wpAny_onRaise ?_
  rw [show ∀ (a b : String) (n : Nat), Bind.check ⟨.positional, "*", "KeyError", .self, [⟨"args", .varPos, false⟩]⟩ a b n (List.map (fun x => x.fst) ({ pos := Value.ref e :: rest } : Args).kw) = pure () from
    fun a b n => check_star_args _ _ _ _ _ _]
  exact wpAny_pure hq
end
section
variable {prog : Program} {w : World} {A : Around} {E : Value → Shared → Prop} {R : Result → Shared → Prop} {h : Heap} {g : Array GenState} {d : Drawn} {t : Nat} {os : OsState}
variable {nm q : Str} {C N : Addr} {bs bm : List Value} {hdct : Bool} {sn : List Str} {sub : List Value} {ab : Bool} {col : Option Bool} {dd : Option Addr} {k0 k1 k2 k3 k5 : Option Value}
theorem newK (hT : ∀ X : String, bm.contains (.type X) = keTail.contains (.type X)) {rest : List Value}
    (hC : h.get? C = some (excClassObj nm q C N bs bm hdct sn sub ab col dd k0 k1 k2 k3 k5 "LookupError.__new__"))
    (hq : R (.ok (.ret (.ref (h.objs.size + 1)))) ⟨(h.push { cls := .type "tuple", data := .seq rest.toArray }).push
      { cls := .ref C, data := .fields #[.ref h.objs.size, .none, .none, .none, .bool false, .none] }, g, d, t, os⟩) (hrest : rest.length ≤ sizeLine) :
    codeAny (model prog w) A (.builtin "LookupError.__new__" ⟨.ref C :: rest, []⟩) R ⟨h, g, d, t, os⟩ := by
  have hends := PySem.F.excBase_LookupError.ends
  have hcB : (Value.ref C :: bm).contains (.type "LookupError") = true := ke_has hT true (by decide +kernel)
  have hcA : (Value.ref C :: bm).contains (.type "AttributeError") = false := ke_has hT false (by decide +kernel)
  have hcN : (Value.ref C :: bm).contains (.type "NameError") = false := ke_has hT false (by decide +kernel)
  refine codeAny_builtinAt PySem.F.excBase_LookupError.entry ?_
  unfold Builtin.«BaseException.__new__»
  refine PySem.wpAt_bind ?_
  show PySem.wpAt _ _ _ (stack >>= _) _ _ _
  refine PySem.wpAt_bind (PySem.wpAt_stack fun p below => PySem.wpAt_of_wpAny ?_)
  wp_walk
  refine PySem.wpAt_of_wpAny ?_
  rw [PySem.F.excBase_LookupError.owner]
  repeat (first | with_reducible refine wpAny_madeHere_exc PySem.F.excBase_LookupError.canon hC ?_ | with_reducible refine wpAny_loadPart_at hC ?_ | (with_reducible refine wpAny_isSubtype_exc hC ?_; first | rw [hcB] | rw [hcA] | rw [hcN]) | wp_step)
  show R _ _
  rw [Heap.size_push]
  exact hq
theorem type_callK (hT : ∀ X : String, bm.contains (.type X) = keTail.contains (.type X)) {rest : List Value} {fI : Addr} {Q : Fin → Shared → Prop}
    (hC : h.get? C = some (excClassObj nm q C N bs bm hdct sn sub ab col dd k0 k1 k2 k3 k5 "LookupError.__new__"))
    (hi : W.Looks (model prog w) h (typeLookup (.ref C) "__init__") (some (.ref fI))) (hb : ∀ self, W.Looks (model prog w) h (bindSpecial (.ref fI) self) (.ref fI, [self])) (hrest : rest.length ≤ sizeLine)
    (hq : codeAny (model prog w) A (.call (.ref fI) ⟨.ref (h.objs.size + 1) :: rest, []⟩)
      (fun r s' => match r with | .ok (.ret v) => v = .none ∧ Q (.done (.ret (.ref (h.objs.size + 1)))) s' | .ok _ => False | .error e => E e s')
      ⟨(h.push (W.kdv_tup rest)).push (excO C h.objs.size), g, d, t, os⟩) :
    wpAny (model prog w) A (Builtin.«type.__call__» ⟨.ref C :: rest, []⟩) Q E ⟨h, g, d, t, os⟩ := by
  repeat (first | with_reducible refine wpAny_loadPart_at hC ?_ | with_reducible refine wpAny_madeBy_exc hC ?_ | wp_step)
  refine codeAny_call_builtin_code (Code.quiet_builtin _ PySem.F.excBase_LookupError.quiet) (check_newK hT hC ?_)
  refine newK hT hC ?_ hrest
  show wpAny _ _ _ _ _ _
  have k : ∀ b o, h.get? b = some o → ((h.push (W.kdv_tup rest)).push (excO C h.objs.size)).get? b = some o := fun b o e => Heap.get?_push_of_some _ (Heap.get?_push_of_some _ e)
  have hC₁ := k _ _ hC
  have hget : ((h.push (W.kdv_tup rest)).push (excO C h.objs.size)).get? (h.objs.size + 1) = some (excO C h.objs.size) := by heap_get
  have hcC : (Value.ref C :: bm).contains (.ref C) = true := by simp
  have i1 := hi.keeps k
  have b1 := (hb (.ref (h.objs.size + 1))).keeps k
  unfold isInstance
  repeat (first | with_reducible refine wpAny_loadPart_at hget ?_ | (with_reducible refine wpAny_isSubtype_exc hC₁ ?_; rw [hcC]) | wp_step)
  show wpAny _ _ (typeLookup (.ref C) _) _ _ _
  refine i1.at ?_
  refine wpAny_holding (wpAny_bind (b1.at ?_))
  refine wpAny_bind (wpAny_call (codeAny_mono hq fun r s' z => ?_))
  rcases r with e | (v | _ | _ | _) <;> first | exact z | exact z.elim | skip
  obtain ⟨rfl, z⟩ := z
  first
    | exact wpAny_pure (wpAny_pure z)
    | (wp_walk; exact z)
theorem call_ownK (hT : ∀ X : String, bm.contains (.type X) = keTail.contains (.type X)) {rest : List Value} {fI : Addr}
    (hC : h.get? C = some (excClassObj nm q C N bs bm hdct sn sub ab col dd k0 k1 k2 k3 k5 "LookupError.__new__"))
    (hi : W.Looks (model prog w) h (typeLookup (.ref C) "__init__") (some (.ref fI))) (hb : ∀ self, W.Looks (model prog w) h (bindSpecial (.ref fI) self) (.ref fI, [self])) (hrest : rest.length ≤ sizeLine)
    (hq : codeAny (model prog w) (A.under (.builtin "type.__call__" ⟨.ref C :: rest, []⟩)) (.call (.ref fI) ⟨.ref (h.objs.size + 1) :: rest, []⟩) (W.InitBack (h.objs.size + 1) R)
      ⟨(h.push (W.kdv_tup rest)).push (excO C h.objs.size), g, d, t, os⟩) :
    codeAny (model prog w) A (.call (.ref C) ⟨rest, []⟩) R ⟨h, g, d, t, os⟩ := by
  have f1 := tc_lookup
  have f2 := tc_bind (.ref C)
  have hTy : (⟨h, g, d, t, os⟩ : Shared).TypeIs (.ref C) "type" := ⟨_, hC, rfl⟩
  refine codeAny_of_tree ?_
  show wpAny _ _ (callAny (.ref C) _) _ _ _
  repeat (any_goals (first | assumption | with_reducible refine wpAny_loadPart_at hC ?_ | wp_step))
  refine ⟨rfl, ?_⟩
  refine codeAny_call_builtin_at (Code.quiet_builtin _ (by decide +kernel)) entry_typeCall (wpAny_check_type_call_sub hC (type_callK hT hC hi hb hrest ?_))
  refine codeAny_mono hq fun r s' z => ?_
  rcases r with e | (v | _ | _ | _) <;> exact z
end
end FD

/-! FIj: an own exception over KeyError whose __init__ is «super().__init__(x); self.f = x». Printed by mkfij.py of FD18, FD19, FD23. -/
namespace FD
open PySem PySem.W PySem.Calls PyProof.Rows L2 PySem.HandSPX
def refsKE (l : List Value) : Bool := match l with
  | [.ref _, .type a, .type b, .type c, .type d, .type e] => a == "KeyError" && b == "LookupError" && c == "Exception" && d == "BaseException" && e == "object"
  | _ => false
theorem refsKE_eq {l : List Value} (h : refsKE l = true) : ∃ c, l = .ref c :: keTail := by
  unfold refsKE at h
  split at h
  · simp only [Bool.and_eq_true, beq_iff_eq] at h
    obtain ⟨⟨⟨⟨rfl, rfl⟩, rfl⟩, rfl⟩, rfl⟩ := h
    exact ⟨_, rfl⟩
  · cases h
theorem ke_passes (self : Value) : refuseLoop self "__setattr__" keTail = pure () := by kernel_rfl
theorem refsKE_pass (self : Value) (l : List Value) (h : refsKE l = true) : refuseLoop self "__setattr__" l = pure () := by
  obtain ⟨c, rfl⟩ := refsKE_eq h
  rw [refuseLoop_ref]
  exact ke_passes self
theorem refsKE_ne {l : List Value} (h : refsKE l = true) : l.isEmpty = false := by
  obtain ⟨c, rfl⟩ := refsKE_eq h
  rfl
theorem refsKE_obj {l : List Value} (h : refsKE l = true) : l.contains (.type "object") = true := by
  obtain ⟨c, rfl⟩ := refsKE_eq h
  rw [List.contains_cons, show keTail.contains (.type "object") = true from by decide +kernel, Bool.or_true]
section
open Builtin Builtin.ObjectAttr
variable {prog : Program} {w : World} {A : Around} {E : Value → Shared → Prop} {R : Result → Shared → Prop} {hp : Heap} {g : Array GenState} {d : Drawn} {t : Nat} {os : OsState}
/-- the first attribute of such an exception is laid into a dict of its own -/
theorem exc_osaK {K : PySem.W.Frag} {name : Str} {tk : Tok} {v : Value} {x C : Addr} {fv : Array Value} {cd : ClassData} (X : K.In hp) (hx : hp.get? x = some { cls := .ref C, data := .fields fv }) (hcd : PySem.W.clsIn K C = some cd) (hm : refsKE cd.mro = true) (hh : cd.hasDict = true) (ha : PySem.W.findIn K (.ref C) name = some none)
    (hq : ∀ h' tk' dx, (∀ b o, b ≠ x → hp.get? b = some o → h'.get? b = some o) → hp.objs.size ≤ dx → dx ≠ x → h'.get? x = some { cls := .ref C, dict := some dx, data := .fields fv } → h'.Ns1 dx (fun y => if y = name then some v else none) → R (.ok (.ret .none)) ⟨h', g, d, tk', os⟩) :
    codeAny (model prog w) A (.call (.builtin "object.__setattr__") ⟨[.ref x, .str name tk, v], []⟩) R ⟨hp, g, d, t, os⟩ := by
  have SF := PySem.F.store_object
  have I : PySem.W.InstAt hp x { cls := .ref C, data := .fields fv } C none := ⟨hx, rfl, rfl, trivial⟩
  have apart : x ≠ hp.objs.size := Nat.ne_of_lt (Heap.lt_size hx)
  have isO : PySem.W.mroIn K C (.type "object") = some true := by
    unfold PySem.W.mroIn
    rw [hcd, Option.bind_some, if_neg (by rw [refsKE_ne hm]; decide), refsKE_obj hm]
  have sub : PySem.W.Looks (model prog w) hp (isInstance (.ref x) (.type "object")) true := I.type.andThen (PySem.W.looks_mroIn X isO)
  refine codeAny_call_builtin SF.slot.plain SF.entry (@PySem.W.check_slot (model prog w) _ _ ⟨hp, g, d, t, os⟩ "object.__setattr__" "object" "__setattr__" (.ref x) [.str name tk, v] [] _ SF.kind SF.split sub (SF.args (.ref x) (.str name tk) v) ?_)
  have mro : PySem.W.Looks (model prog w) hp (mroOf (.ref C)) cd.mro := (PySem.W.looks_clsIn X hcd).andThen .now
  have cls : PySem.W.Looks (model prog w) hp (classData C) cd := PySem.W.looks_clsIn X hcd
  have nobody : PySem.W.Looks (model prog w) hp (storeTaker? none) none := .now
  rw [PySem.W.osa_eq, refuse_eq]
  refine wpAny_bind (wpAny_bind (I.type.at (wpAny_bind (mro.at ?_))))
  rw [refsKE_pass _ _ hm]
  refine wpAny_pure (wpAny_bind (I.type.at (wpAny_bind ((PySem.W.looks_findIn X ha).at (wpAny_bind (nobody.at ?_))))))
  show wpAny _ _ (storeInOwnDict (.ref x) (.ref C) (.str name tk) name v false) _ _ _
  obtain ⟨c1, c2, c3, c4, c5, c6, c7, c8, c9, c10, c11⟩ := cd
  dsimp only at hh
  subst hh
  unfold storeInOwnDict ownDictForStores
  repeat (first | with_reducible refine store_in_new ?_ ?_ | with_reducible refine wpAny_loadPart_at hx ?_ | with_reducible refine cls.at ?_ | wp_step)
  · exact ⟨_, #[], _, (Heap.get?_update_ne _ _ _ _ apart.symm).trans (Heap.get?_push_at rfl rfl), rfl, fun e he => absurd he (by simp), fun _ => rfl⟩
  · intro h' tk' hn' hs
    refine hq h' tk' hp.objs.size (fun b o hb ho => ?_) (Nat.le_refl _) apart.symm ?_ hn'
    · rw [hs.2 b (Nat.ne_of_lt (Heap.lt_size ho)), Heap.get?_update_ne _ _ _ _ hb]
      exact Heap.get?_push_of_some _ ho
    · rw [hs.2 x apart]
      exact Heap.get?_update_self _ (Heap.get?_push_of_some _ hx) rfl
end
open PySem PySem.W PySem.Calls PyProof.Rows L2 PySem.HandSPX
section
variable {prog : Program} {w : World} {A : Around} {R : Result → Shared → Prop} {hp : Heap} {g : Array GenState} {dr : Drawn} {t : Nat} {os : OsState} {K : PySem.W.Frag} {mg : Str → Option Value} {base : Heap}
/-- what the written part tells of the class C and of its __init__ at fI -/
structure XInitK (K : PySem.W.Frag) (P : Program) (C fI : Addr) (x fld : Str) : Prop where
  fn : ∃ (oc : Value) (od : Option Addr) (qual : Str) (params : Arguments) (scope : Scope) (dV kV doc pm : Value) (an : Option Addr) (cda : Addr) (ct : Value) (cc : Addr) (osl : Array (Option Value)) (p0 p1 p2 p3 p4 p5 p6 p7 p8 p9 : Pos) (ar : Arg) (ccl : Value) (cdd : Option Addr) (vs : Array Value) (ccs : Array (Option Value)) (file : Str) (tf : Tok) (cl : Value) (cld : Option Addr) (csl : Array (Option Value)),
    K.lookup fI = some ⟨oc, od, .func (ksFn "__init__" qual params [.Expr (.Call (.Attribute (.Call (.Name "super" p0) [] [] p1) "__init__" p2) [.Name x p3] [] p4) p5, .Assign [.Attribute (.Name "self" p6) fld p7] (.Name x p8) p9] scope dV kV doc pm an (.ref cda) ct cc), osl⟩ ∧
    codeIn K (.ref cda) qual = true ∧ (params.posonlyargs ++ params.args).head? = some ar ∧ ar.arg = "self" ∧
    (∀ a u, bindArgs (ksFn "__init__" qual params [.Expr (.Call (.Attribute (.Call (.Name "super" p0) [] [] p1) "__init__" p2) [.Name x p3] [] p4) p5, .Assign [.Attribute (.Name "self" p6) fld p7] (.Name x p8) p9] scope dV kV doc pm an (.ref cda) ct cc) ⟨[a, u], []⟩ = pure [(("self" : Str), a), (x, u)]) ∧
    (scope.names.lookup ("super" : Str) = some .globalImplicit ∧ scope.names.lookup ("__class__" : Str) = some .free ∧ scope.names.lookup ("self" : Str) = some .local ∧ scope.names.lookup x = some .local ∧ scope.kind = .function ∧ (∀ y ∈ scope.names, y.2 ≠ .cell) ∧ scope.isCoroutine = false ∧ scope.isGenerator = false) ∧
    (∀ L, interactive (ksEnv qual scope L fI (.ref cda) cc) = false ∧ swapsWith (.Call (.Attribute (.Call (.Name "super" p0) [] [] p1) "__init__" p2) [.Name x p3] [] p4) none p5.line (ksEnv qual scope L fI (.ref cda) cc) = pure false ∧ swapsWith (.Name x p8) (some (.Attribute (.Name "self" p6) fld p7)) p9.line (ksEnv qual scope L fI (.ref cda) cc) = pure false ∧
      ∃ pl : Sem Bool, eval (.Call (.Attribute (.Call (.Name "super" p0) [] [] p1) "__init__" p2) [.Name x p3] [] p4) (ksEnv qual scope L fI (.ref cda) cc) = (do
        let ov ← attributeBase (.Call (.Name "super" p0) [] [] p1) "__init__" (ksEnv qual scope L fI (.ref cda) cc) (eval (.Call (.Name "super" p0) [] [] p1) (ksEnv qual scope L fI (.ref cda) cc))
        standAt p2.atName
        let (f, first) ← holding [ov] (getMethod ov "__init__" pl)
        callWith p4 f first (backTo p4 (starEach [.Name x p3] (ksEnv qual scope L fI (.ref cda) cc))) [])) ∧
    K.lookup cda = some ⟨ccl, cdd, .fields vs, ccs⟩ ∧ vs[2]? = some (.str file tf) ∧ ((P.main.file : Str) == file) = true ∧ K.lookup cc = some ⟨cl, cld, .cell (some (.ref C)), csl⟩
  top : (P.main.scope.names.lookup ("super" : Str)).isSome = false
  xs : x ≠ "self" ∧ (x == ("__debug__" : Str)) = false
  cls : ∃ cd, clsIn K C = some cd ∧ cd.hasDict = true ∧ refsKE cd.mro = true
  sub : mroIn K C (.ref C) = some true
  ho : nsIn K cStatics "thirdparty.any" = some none
  sup : ks_superIn K C C "__init__" = some (some (.builtin "KeyError.__init__"))
  ve : subIn K (.ref C) (.type "KeyError") = some true
  nw : excInitIn K C keTail "LookupError.__new__" = true
  sa : findIn K (.ref C) "__setattr__" = some (some (.builtin "object.__setattr__"))
  no : findIn K (.ref C) fld = some none
theorem xi_runK {C fI a t0 : Addr} {x fld : Str} {u : Value} (T : XInitK K prog C fI x fld) (MO : Mod K mg base) (bk : ∀ b o, base.get? b = some o → hp.get? b = some o) (hsuper : mg "super" = none) (hroom : A.depth < recursionLimit) (hab : base.get? a = none) (ha : hp.get? a = some (excO C t0))
    (hq : ∀ h' tk' dx t1, (∀ b o, b ≠ a → hp.get? b = some o → h'.get? b = some o) → hp.objs.size ≤ dx → h'.get? a = some ({ cls := .ref C, dict := some dx, data := .fields #[.ref t1, .none, .none, .none, .bool false, .none] } : Obj) → h'.Ns1 dx (fun y => if y = fld then some u else none) → R (.ok (.ret .none)) ⟨h', g, dr, tk', os⟩) :
    codeAny (model prog w) A (.call (.ref fI) ⟨[.ref a, u], []⟩) R ⟨hp, g, dr, t, os⟩ := by
  obtain ⟨oc, od, qual, params, scope, dV, kV, doc, pm, an, cda, ct, cc, osl, p0, p1, p2, p3, p4, p5, p6, p7, p8, p9, ar, ccl, cdd, vs, ccs, file, tf, cl, cld, csl, lk, hcd, hpar, har, hbd, ⟨hks, hkc, hka, hkx, hk, hcell, hco, hgen⟩, hsh, hcode, hvs, hfile, hcc⟩ := T.fn
  obtain ⟨cd, hcl, hdi, hmro⟩ := T.cls
  have KX : K.In hp := MO.kin.keeps bk
  have hxs := T.xs
  refine ks_codeAny_call_defAt (s := ⟨hp, g, dr, t, os⟩) (binds := [(("self" : Str), .ref a), (x, u)]) hroom (KX _ _ lk) rfl (MO.nolimit.keeps bk) (codeRec_of KX hcd) rfl (BindsTo.of_eq (hbd _ _)) hcell (fun y hy => ?_) (fun h1 hns k1 => ?_) hco hgen hk
  · simp only [List.mem_cons, List.not_mem_nil, or_false] at hy
    rcases hy with rfl | rfl
    · exact hka
    · exact hkx
  have KX1 : K.In h1 := KX.keeps k1
  have bk1 : ∀ b o, base.get? b = some o → h1.get? b = some o := fun b o e => k1 b o (bk b o e)
  have ha1 := k1 _ _ ha
  have I1 : InstAt h1 a (excO C t0) C none := ⟨ha1, rfl, rfl, trivial⟩
  obtain ⟨mb, hb1, hb2⟩ := MO.blt
  obtain ⟨oD, hD1, hD2⟩ : ∃ oD, h1.get? C = some oD ∧ oD.data = .cls cd := by
    have hcl' := hcl
    unfold clsIn at hcl'
    split at hcl'
    · rename_i c d cd' sl ho
      cases hcl'
      exact ⟨_, KX1 _ _ ho, rfl⟩
    · cases hcl'
  obtain ⟨hi, hs1, hs2, pl, he⟩ := hsh hp.objs.size
  show PySem.wpAt (model prog w) (A.deeper (ksEnv qual scope hp.objs.size fI (.ref cda) cc)) (.func _ (ksEnv qual scope hp.objs.size fI (.ref cda) cc)) (execs _ (ksEnv qual scope hp.objs.size fI (.ref cda) cc)) _ _ _
  refine ks_wpAt_execs_cons (ks_wpAt_Expr_any (ks_wpAt_MethodCall (pl := pl) ?_ he) hi hs1)
  refine ks_wpAt_super_base (ar := ar) hks hkc rfl rfl (KX1 _ _ lk) rfl hpar rfl (KX1 _ _ hcode) rfl hvs hfile T.top ?_
  refine ks_loadName_global hk hks (loadGlobal_builtin (MO.glob.keeps bk1) hsuper (hb1.keeps bk1) ((hb2 _ (by decide +kernel)).trans PyProof.Rows.Boot.«super») ⟨rfl, ?_⟩)
  refine wpAny_loadName_free hk hkc rfl ⟨_, KX1 _ _ hcc, rfl⟩ ?_
  refine wpAny_loadName_local hk (by rw [har]; exact hka) hns (by rw [har]; show List.lookup ("self" : Str) [(x, u), (("self" : Str), Value.ref a)] = some (Value.ref a); rw [List.lookup_cons, beq_eq_false_iff_ne.mpr (Ne.symm hxs.1)]; rfl) ?_
  refine ks_wpAny_isType_cls hD1 hD2 ⟨rfl, ?_⟩
  refine ks_wpAny_call_super hD1 hD2 ha1 rfl (fun c e => by cases e) (looks_mroIn KX1 T.sub) (fun h2 e2 k2 => ?_)
  have KX2 : K.In h2 := KX1.keeps k2
  have I2 : InstAt h2 a (excO C t0) C none := ⟨k2 _ _ ha1, rfl, rfl, trivial⟩
  have hsup := T.sup
  unfold ks_superIn at hsup
  rw [hcl] at hsup
  refine kxs_getMethod kxs_KeyError e2 (looks_opaque KX2 T.ho) (l₀ := cd.mro) (fun A Q E s k q => wpAny_bind ((looks_clsIn KX2 hcl) A _ E s k (wpAny_pure q))) rfl KX2 hsup (I2.type.andThen (looks_subIn KX2 T.ve)) (ks_ne KX2 I2 hcl) rfl ?_
  have k3 : ∀ b o, h2.get? b = some o → (h2.push (kxs_mw "KeyError.__init__" a)).get? b = some o := fun b o e => Heap.get?_push_of_some _ e
  have hmw : (h2.push (kxs_mw "KeyError.__init__" a)).get? h2.objs.size = some (kxs_mw "KeyError.__init__" a) := Heap.get?_push_at rfl rfl
  generalize hh3 : h2.push (kxs_mw "KeyError.__init__" a) = h3 at k3 hmw
  have hlx : List.lookup x [(x, u), (("self" : Str), Value.ref a)] = some u := by rw [List.lookup_cons, beq_self_eq_true]
  have ns3 : h3.Ns hp.objs.size (fun y => List.lookup y [(x, u), (("self" : Str), Value.ref a)]) := hns.keeps fun b o e => k3 b o (k2 b o e)
  refine kxs_callWith (i := "KeyError.__init__") (x := a) rfl (evalArgs_plain (spliced_more (wpAny_Name (wpAny_loadName_local (env := ksEnv qual scope hp.objs.size fI (.ref cda) cc) hk hkx ns3 hlx (spliced_none ⟨hmw, ?_⟩)) hxs.2)))
  have ha3 : h3.get? a = some (excO C t0) := k3 _ _ (k2 _ _ ha1)
  obtain ⟨nm, N', qn, bs', bm, hdct, sn, sub', ab, col, dd, k0', k1', k2', k3', k5', hC3, hT3⟩ := excInit_of ((KX2).keeps k3) T.nw
  refine wpAny_call (codeAny_of_tree ?_)
  show wpAny _ (Around.in1 _) (callAny (.ref _) ⟨[u], []⟩) _ _ _
  simp only [callAny]
  refine wpAny_bind (wpAny_load hmw ?_)
  simp only [kxs_mw, show (Value.type "method-wrapper" == Value.type "method" || Value.type "method-wrapper" == Value.type "builtin_function_or_method" || Value.type "method-wrapper" == Value.type "method-wrapper") = true by decide, if_true]
  refine KFB.if_so (by decide) ?_
  refine wpAny_bind (check_boundK hC3 ha3 rfl ?_)
  refine wpAny_bind (wpAny_pure (wpAny_pure ?_))
  refine ⟨plainId_quiet ke_slot.plain _, codeAny_builtin ke_entry ?_⟩
  refine exc_init_tree (cls := .ref C) (t0 := t0) (dv := none) (c2 := .none) (c3 := .none) (b4 := .bool false) ha3 (by simp [sizeLine]) fun h4 k4 e4 _ => ?_
  have ns4 : h4.Ns hp.objs.size (fun y => List.lookup y [(x, u), (("self" : Str), Value.ref a)]) := by
    obtain ⟨o, es, ep, e, r⟩ := ns3
    refine ⟨o, es, ep, k4 _ _ (fun z => ?_) e, r⟩
    exact absurd (Heap.lt_size ha) (by rw [← z]; exact Nat.lt_irrefl _)
  show PySem.wpAt _ _ _ (execs [.Assign [.Attribute (.Name "self" p6) fld p7] (.Name x p8) p9] (ksEnv qual scope hp.objs.size fI (.ref cda) cc)) _ _ _
  refine ks_wpAt_execs_cons (ks_wpAt_Assign_Attr ?_ hs2)
  refine wpAt_of_wpAny (wpAny_Name (wpAny_loadName_local hk hkx ns4 hlx ?_) hxs.2)
  refine wpAny_Name (wpAny_loadName_local hk hka ns4 (by show List.lookup ("self" : Str) [(x, u), (("self" : Str), Value.ref a)] = some (Value.ref a); rw [List.lookup_cons, beq_eq_false_iff_ne.mpr (Ne.symm hxs.1)]; rfl) ?_) (by decide)
  have kk : ∀ b o, b ≠ a → hp.get? b = some o → h4.get? b = some o := fun b o hb e => k4 b o hb (k3 b o (k2 b o (k1 b o e)))
  have hcl4 : ∀ b o, base.get? b = some o → b ≠ a := fun b o e z => by rw [z, hab] at e; cases e
  have KX4 : K.In h4 := MO.kin.keeps fun b o e => kk b o (hcl4 b o e) (bk b o e)
  refine set_plain KX4 (ox := excO C h3.objs.size) (od := none) ⟨e4, rfl, rfl, trivial⟩ T.sa ?_
  refine exc_osaK KX4 e4 hcl hmro hdi T.no (fun h5 tk5 dx k5 dn dne hx5 hn5 => ?_)
  refine wpAt_of_wpAny (wpAny_execs_nil ?_)
  refine hq h5 tk5 dx _ (fun b o hb e => k5 b o hb (kk b o hb e)) ?_ hx5 hn5
  exact Nat.le_trans (Nat.le_of_lt ns4.lt) dn
end
open PySem PySem.Spec PyProof.Rows L2
structure XClsK (K : PySem.W.Frag) (P : Program) (C fI : Addr) (x fld : Str) : Prop where
  ini : XInitK K P C fI x fld
  at_ : PySem.W.findIn K (.ref C) "__init__" = some (some (.ref fI))
  fn : PySem.W.typeIn K (.ref fI) = some (.type "function")
  exC : PySem.W.subIn K (.ref C) (.type "BaseException") = some true
  tyC : PySem.W.typeIn K (.ref C) = some (.type "type")
  kC : PySem.W.keepIn K (.ref C) = true
theorem pmk_xK {X : Cx} {c x fld : Str} {C fI : Addr} {p pos : Pos} {e : Expr} {ta : TA} (T : XClsK X.K X.prog C fI x fld) (hr : Room 2 X.A) (hg : Gl X c) (hm : X.mg c = some (.ref C)) (hsup : X.mg "super" = none) (ha : PA X [e] ta)
    (hdb : (c == ("__debug__" : Str)) = false := by decide) (he : starEach [e] X.env = (false, eval e X.env) :: starEach [] X.env := by rfl) (hpl : (backTo pos (starEach [] X.env)).any (·.1) = false := by rfl) :
    PMk X (.Call (.Name c p) [e] [] pos) (tMkX C fld ta) := by
  intro pins s σ H Q I h
  refine wpAny_Call_Name_kw (ld_glob I hg hm ?_ hdb)
  refine PySem.W.callWith_K (h₀ := X.base) I.ok.mod.kin T.kC (thn (ha.run pos pins s σ H _ I h) fun us s1 ⟨vs, H1, I1, r1, v, ev, q1⟩ => ⟨I1.kIn, ?_⟩) he hpl
  subst ev
  cases r1 with
  | @cons _ u _ ur ru rr =>
  cases rr
  show wpAny _ _ (call (.ref C) [u]) _ _ _
  obtain ⟨hp, g, dr, tk, os⟩ := s1
  obtain ⟨nm, N', qn, bs', bm, hdct, sn, sub', ab, col, dd, k0', k1', k2', k3', k5', hC, hT⟩ := PySem.W.excInit_of I1.kIn T.ini.nw
  have kk : ∀ b o, hp.get? b = some o → ((hp.push (PySem.W.kdv_tup [u])).push (PySem.HandSPX.excO C hp.objs.size)).get? b = some o := fun b o e => Heap.get?_push_of_some _ (Heap.get?_push_of_some _ e)
  have hget : ((hp.push (PySem.W.kdv_tup [u])).push (PySem.HandSPX.excO C hp.objs.size)).get? (hp.objs.size + 1) = some (PySem.HandSPX.excO C hp.objs.size) := by heap_get
  have lt0 : ∀ {b : Addr} {o : Obj}, hp.get? b = some o → b ≠ hp.objs.size + 1 := fun {b o} z y => by
    have := Heap.lt_size z
    rw [y] at this
    exact absurd this (Nat.not_lt.mpr (Nat.le_succ _))
  refine wpAny_call (call_ownK hT hC (PySem.W.looks_findIn I1.kIn T.at_) (fun self => PySem.W.bind_fn I1.kIn self T.fn) (by simp [sizeLine]) ?_)
  refine xi_runK T.ini I1.mod (fun b o e => kk b o (I1.bk b o e)) hsup (hr.make C [u] []).depth ?_ hget fun h' tk' dx t1 k5 dn hx hn => ?_
  · cases z : X.base.get? (hp.objs.size + 1) with
    | none => rfl
    | some o => exact absurd rfl (lt0 (I1.bk _ _ z))
  have hda : dx ≠ hp.objs.size + 1 := fun z => by
    have := Heap.lt_size hget
    rw [z] at dn
    exact absurd this (Nat.not_lt.mpr dn)
  have hsz : hp.objs.size ≤ dx := by
    have h1 : hp.objs.size + 1 < ((hp.push (PySem.W.kdv_tup [u])).push (PySem.HandSPX.excO C hp.objs.size)).objs.size := Heap.lt_size hget
    exact Nat.le_trans (Nat.le_of_lt (Nat.lt_trans (Nat.lt_succ_self _) h1)) dn
  obtain ⟨G, g1', g2'⟩ := restrict h' fun b => decide (b ≠ hp.objs.size + 1)
  have gk : ∀ b, b ≠ hp.objs.size + 1 → G.get? b = h'.get? b := fun b hb => g1' b (decide_eq_true hb)
  have ge : G.get? (hp.objs.size + 1) = none := g2' _ (by simp)
  have hdn : H1 dx = none := I1.hok.fresh hsz
  have hq := q1 dx hdn
  have J : Inv X pins σ (L2.upd H1 dx (.xd [(fld, v)])) ⟨G, g, dr, tk', os⟩ := by
    refine I1.laid (t' := tk') (a := dx) (o := .xd [(fld, v)]) (h' := G) (fun b o e => ?_) hsz ?_
    · rw [gk b (lt0 e)]
      exact k5 b o (lt0 e) (kk b o e)
    · refine ⟨_, hn.at fun o y => (gk dx hda).trans y, fun f => ?_⟩
      show RelO (List.lookup f [(fld, v)]) (if f = fld then some u else none)
      by_cases hf : f = fld
      · subst hf
        rw [List.lookup_cons, beq_self_eq_true, if_pos rfl]
        exact ru
      · rw [List.lookup_cons, beq_eq_false_iff_ne.mpr hf, if_neg hf]
        exact True.intro
  refine ⟨rfl, hp.objs.size + 1, _, _, ⟨G, g, dr, tk', os⟩, _, .ref C, some dx, rfl, J, fun b o z => ?_, ge, hx, ⟨rfl, rfl⟩, rfl, rfl, ?_, rfl, I1.bare, raises_own T.exC T.tyC, hq⟩
  · by_cases hb : b = hp.objs.size + 1
    · rw [hb, ge] at z; cases z
    · exact (gk b hb).symm.trans z
  · rw [upd_ne (Ne.symm hda)]
    exact I1.hok.fresh (Nat.le_succ _)
theorem pds_raiseK {X : DCx} {Wd : DWX} {c x fld : Str} {C fI : Addr} {p pos pos' : Pos} {e : Expr} {t : DA} (wh : Wsh X Wd) (hc : X.calm = true) (T : XClsK X.K X.prog C fI x fld) (hr : Room 2 X.A) (hg : Gl X c) (hm : X.mg c = some (.ref C)) (hn : ClsAt X.K c C) (hsup : X.mg "super" = none) (ha : PDA X [e] t)
    (hdb : (c == ("__debug__" : Str)) = false := by decide) (he : starEach [e] X.env = (false, eval e X.env) :: starEach [] X.env := by rfl) (hpl : (backTo pos (starEach [] X.env)).any (·.1) = false := by rfl) :
    PDS X (.Raise (some (.Call (.Name c p) [e] [] pos)) none pos') (dRaise c fld Wd t) := by
  obtain ⟨ta, pa, la⟩ := ha
  obtain ⟨Wx, tk, hw⟩ := wh
  refine ⟨_, ps_raise hc tk (pmk_xK T hr hg hm hsup pa hdb he hpl), fun ρ σ G H E F s w h k => ?_⟩
  refine la ρ σ G H _ _ s w h fun ds vs G1 H1 r1 w1 f1 q1 => ?_
  match ds, q1 with
  | [x], q1 =>
    obtain ⟨v, rfl, rv⟩ := r1.one
    refine ⟨v, rfl, fun dx hd => ?_⟩
    have kp := f1.kp w
    refine hw G1 H1 w1.2 c C [(fld, x)] (some dx) ρ σ G1 _ hn ⟨w1.none hd, _, upd_same, .cons ⟨rfl, rv.mono (kp_new hd)⟩ .nil⟩ ((s.mono kp).mono (kp_new hd)) ?_ (fm_hid hd) q1
    exact fun a o e => okO_no (wld0_hid w1.1 hd a o e)
open PySem PySem.W PySem.Calls PyProof.Rows L2 PySem.HandSPX
theorem xcls_mkK {K : PySem.W.Frag} {P : Program} {C fI : Addr} {x fld : Str} {oc : Value} {od : Option Addr} {qual : Str} {params : Arguments} {body : List Stmt} {scope : Scope} {dV kV doc pm : Value} {an : Option Addr} {cda : Addr} {ct : Value} {cc : Addr} {osl : Array (Option Value)} {p0 p1 p2 p3 p4 p5 p6 p7 p8 p9 : Pos} {ar : Arg} {ccl : Value} {cdd : Option Addr} {vs : Array Value} {ccs : Array (Option Value)} {file : Str} {tf : Tok} {cl : Value} {cld : Option Addr} {csl : Array (Option Value)} {cd : ClassData}
    (at_ : findIn K (.ref C) "__init__" = some (some (.ref fI)))
    (lk : K.lookup fI = some ⟨oc, od, .func (ksFn "__init__" qual params body scope dV kV doc pm an (.ref cda) ct cc), osl⟩)
    (hcd : codeIn K (.ref cda) qual = true)
    (hb : body = [.Expr (.Call (.Attribute (.Call (.Name "super" p0) [] [] p1) "__init__" p2) [.Name x p3] [] p4) p5, .Assign [.Attribute (.Name "self" p6) fld p7] (.Name x p8) p9])
    (hpar : (params.posonlyargs ++ params.args).head? = some ar) (har : ar.arg = "self")
    (hbd : ∀ a u, bindArgs (ksFn "__init__" qual params body scope dV kV doc pm an (.ref cda) ct cc) ⟨[a, u], []⟩ = pure [(("self" : Str), a), (x, u)])
    (hsc : scope.names.lookup ("super" : Str) = some .globalImplicit ∧ scope.names.lookup ("__class__" : Str) = some .free ∧ scope.names.lookup ("self" : Str) = some .local ∧ scope.names.lookup x = some .local ∧ scope.kind = .function ∧ (∀ y ∈ scope.names, y.2 ≠ .cell) ∧ scope.isCoroutine = false ∧ scope.isGenerator = false)
    (hsh : ∀ L, interactive (ksEnv qual scope L fI (.ref cda) cc) = false ∧ swapsWith (.Call (.Attribute (.Call (.Name "super" p0) [] [] p1) "__init__" p2) [.Name x p3] [] p4) none p5.line (ksEnv qual scope L fI (.ref cda) cc) = pure false ∧ swapsWith (.Name x p8) (some (.Attribute (.Name "self" p6) fld p7)) p9.line (ksEnv qual scope L fI (.ref cda) cc) = pure false ∧
      ∃ pl : Sem Bool, eval (.Call (.Attribute (.Call (.Name "super" p0) [] [] p1) "__init__" p2) [.Name x p3] [] p4) (ksEnv qual scope L fI (.ref cda) cc) = (do
        let ov ← attributeBase (.Call (.Name "super" p0) [] [] p1) "__init__" (ksEnv qual scope L fI (.ref cda) cc) (eval (.Call (.Name "super" p0) [] [] p1) (ksEnv qual scope L fI (.ref cda) cc))
        standAt p2.atName
        let (f, first) ← holding [ov] (getMethod ov "__init__" pl)
        callWith p4 f first (backTo p4 (starEach [.Name x p3] (ksEnv qual scope L fI (.ref cda) cc))) []))
    (hcode : K.lookup cda = some ⟨ccl, cdd, .fields vs, ccs⟩) (hvs : vs[2]? = some (.str file tf)) (hfile : ((P.main.file : Str) == file) = true) (hcc : K.lookup cc = some ⟨cl, cld, .cell (some (.ref C)), csl⟩)
    (top : (P.main.scope.names.lookup ("super" : Str)).isSome = false) (xs : x ≠ "self" ∧ (x == ("__debug__" : Str)) = false)
    (hcl : clsIn K C = some cd) (hdi : cd.hasDict = true) (hm : refsKE cd.mro = true)
    (sub : mroIn K C (.ref C) = some true) (ho : nsIn K cStatics "thirdparty.any" = some none) (sup : ks_superIn K C C "__init__" = some (some (.builtin "KeyError.__init__")))
    (ve : subIn K (.ref C) (.type "KeyError") = some true) (nw : excInitIn K C keTail "LookupError.__new__" = true) (sa : findIn K (.ref C) "__setattr__" = some (some (.builtin "object.__setattr__"))) (no : findIn K (.ref C) fld = some none)
    (fn : typeIn K (.ref fI) = some (.type "function")) (exC : subIn K (.ref C) (.type "BaseException") = some true) (tyC : typeIn K (.ref C) = some (.type "type")) (kC : keepIn K (.ref C) = true) : XClsK K P C fI x fld := by
  subst hb
  exact ⟨⟨⟨oc, od, qual, params, scope, dV, kV, doc, pm, an, cda, ct, cc, osl, p0, p1, p2, p3, p4, p5, p6, p7, p8, p9, ar, ccl, cdd, vs, ccs, file, tf, cl, cld, csl, lk, hcd, hpar, har, hbd, hsc, hsh, hcode, hvs, hfile, hcc⟩, top, xs, ⟨cd, hcl, hdi, hm⟩, sub, ho, sup, ve, nw, sa, no⟩, at_, fn, exC, tyC, kC⟩
section
variable {X : DCx} {c x fld : Str} {C fI : Addr} {p pos : Pos} {e : Expr} {t : DA}
theorem pd_exnK (T : XClsK X.K X.prog C fI x fld) (hr : Room 2 X.A) (hg : Gl X c) (hm : X.mg c = some (.ref C)) (hn : ClsAt X.K c C) (hsup : X.mg "super" = none) (ha : PDA X [e] t)
    (hdb : (c == ("__debug__" : Str)) = false := by decide) (he : starEach [e] X.env = (false, eval e X.env) :: starEach [] X.env := by rfl) (hpl : (backTo pos (starEach [] X.env)).any (·.1) = false := by rfl) :
    PD X (.Call (.Name c p) [e] [] pos) (dExn c fld t) := by
  obtain ⟨ta, pa, la⟩ := ha
  exact ⟨_, pe_of_pmk (pmk_xK T hr hg hm hsup pa hdb he hpl), lk_exn hn la⟩
end
end FD

/-! FIl: several except clauses, some with a name. -/
namespace FD
open PySem PySem.Spec PyProof.Rows L2
abbrev TsX := Addr → Value → Option Addr → TS
/-- what a clause does: with a name, the exception stands in its slot -/
def runH (oi : Option Nat) (ts : TsX) (a : Addr) (cls : Value) (d : Option Addr) (D : Ends) (σ : L2.St) (H : Hp) : Prop := match oi with
  | none => ts a cls d D σ H
  | some i => ts a cls d { nx := fun σ' H' => D.nx (σ'.set i none) H', rt := D.rt, bk := fun σ' H' => D.bk (σ'.set i none) H', ct := fun σ' H' => D.ct (σ'.set i none) H' } (σ.set i (some (.ref a))) H
def wMix (K : PySem.W.Frag) (Wout : WX) (D : Ends) : List (Value × Option Nat × TsX) → WX
  | [] => Wout
  | (c, oi, ts) :: r => fun cls d σ H => ∃ b, PySem.W.exmOne K cls c = some b ∧ (b = true → ∀ a, H a = none → runH oi ts a cls d D σ H) ∧ (b = false → wMix K Wout D r cls d σ H)
inductive HdsMix (X : Cx) : List ExceptHandler → List (Value × Option Nat × TsX) → Prop
  | nil : HdsMix X [] []
  | plain {x : Str} {c : Value} {ts : TsX} {b₀ : Stmt} {suite : List Stmt} {np pos' : Pos} {hds : List ExceptHandler} {l : List (Value × Option Nat × TsX)} (hc : Names X x c)
      (hsu : ∀ (a : Addr) (oe : Obj) (cls : Value) (d : Option Addr) (pn : List (Addr × Obj)), Zc cls d oe → (∃ vs, oe.data = .fields vs) → PSs (X.suite a ((a, oe) :: pn)) (b₀ :: suite) (ts a cls d)) (r : HdsMix X hds l) :
      HdsMix X (.ExceptHandler (some (.Name x np)) none (b₀ :: suite) pos' :: hds) ((c, none, ts) :: l)
  | named {x n : Str} {i : Nat} {c : Value} {ts : TsX} {b₀ : Stmt} {suite : List Stmt} {np pos' : Pos} {hds : List ExceptHandler} {l : List (Value × Option Nat × TsX)} (hc : Names X x c) (hi : X.N[i]? = some n) (hln : X.env.kindOf n = some .local)
      (hsu : ∀ (a : Addr) (oe : Obj) (cls : Value) (d : Option Addr) (pn : List (Addr × Obj)), Zc cls d oe → (∃ vs, oe.data = .fields vs) → PSs (X.suite a ((a, oe) :: pn)) (b₀ :: suite) (ts a cls d)) (r : HdsMix X hds l) :
      HdsMix X (.ExceptHandler (some (.Name x np)) (some n) (b₀ :: suite) pos' :: hds) ((c, some i, ts) :: l)
section
variable {X : Cx} {body : List Stmt} {h₀ : ExceptHandler} {hds : List ExceptHandler} {l : List (Value × Option Nat × TsX)} {pos : Pos} {tb : WX → TS} {Wout : WX}
theorem ps_try_mix (hs : X.stack = X.env :: X.outer) (hf : X.env.frame = some X.env.locals) (hN : X.N.Nodup) (tk : Takes X Wout)
    (hb : ∀ (W : WX) (pn : List (Addr × Obj)) (xe : Value → Shared → Prop), Takes (X.tr pn xe) W → PassesOwn (model X.prog X.w) X.A X.env xe → PSs (X.tr pn xe) body (tb W))
    (hh : HdsMix X (h₀ :: hds) l) : PS X (.Try body (h₀ :: hds) [] [] pos) (fun D σ H => tb (wMix X.K Wout D l) D σ H) := by
  refine ⟨fun pins s σ H D I h => ?_⟩
  have ok := I.ok
  have hfr : X.A.frames = some (X.env :: X.outer) := by rw [ok.frames, hs]
  refine wpAny_Try_except ?_
  refine wpAny_mono ((hb (wMix X.K Wout D l) (X.pn ++ pins) (fun e s₁ => wpAny (model X.prog X.w) X.A (noteFrame e X.env) (fun _ s₂ => wpAny (model X.prog X.w) X.A (setFlight e none) (fun _ s₃ =>
    wpAny (model X.prog X.w) X.A (handleBy e X.env (h₀ :: hds)) (SP X pins D) X.xe s₃) X.xe s₂) X.xe s₁) (fun u s' xx => ?_) PassesOwn.looking).run [] s σ H D (I.toTry _) h) (fun f s1 hsp => ?_) (fun e s1 he => he)
  · obtain ⟨a, B, sI, pins', σ', H', cls, d, rfl, J', nb, up, sky, na, os, ag, w⟩ := xx
    have J : Inv X pins σ' H' sI := J'.ofTry ok
    have sky' : Sky B (X.env :: X.outer) a (Zc cls d) X.env.locals s'.heap := by rw [← hs]; exact sky
    show wpAny (model X.prog X.w) X.A (noteFrame (.ref a) X.env) _ _ _
    refine Sky.land Zc.steady hfr hf sky' fun h3 fl3 up3 => ?_
    have J3 : Inv X pins σ' H' { s' with heap := h3 } := J.landed nb fl3.1 (up.trans up3) os ag
    obtain ⟨oe3, vs3, he3, hz3, hd3⟩ := fl3.there
    have notFr : ∀ {h : Heap} {o : Obj} {vs : Array Value}, h.FunFrames B (X.env :: X.outer) → h.get? a = some o → o.data = .fields vs → a ∉ frs (X.env :: X.outer) := fun {h o vs} ff e dd hm => by
      obtain ⟨_, o', e', hnf⟩ := ff.mem hm
      rw [e] at e'; cases e'
      exact hnf _ dd
    have nfr := notFr fl3.2.2.1 he3 hd3
    have nL : a ≠ X.env.locals := fun z => nfr (List.mem_filterMap.mpr ⟨X.env, List.mem_cons_self, by rw [hf, z]⟩)
    have nF : a ∉ X.fs := fun hm => by
      obtain ⟨e, he, q⟩ := List.mem_filterMap.mp hm
      exact nfr (List.mem_filterMap.mpr ⟨e, List.mem_cons_of_mem _ he, q⟩)
    have S3 := J3.suite he3 hd3 na nL nF
    have LT : PySem.W.Looks (model X.prog X.w) h3 (typeOf (.ref a)) cls := fun A Q E s k q => wpAny_typeOf_ref (k _ _ he3) (by rw [hz3.1]; exact q)
    have test : ∀ {x : Str} {c : Value} {np : Pos} {Q : Value → Shared → Prop} {E : Value → Shared → Prop}, Names X x c → Q c { s' with heap := h3 } → wpAny (model X.prog X.w) (X.A.mark (some (.ref a))) (eval (.Name x np) X.env) Q E { s' with heap := h3 } := fun {x c np Q E} hc q => by
      obtain ⟨hg, hdbg, hm | ⟨hm, hv, hnn⟩⟩ := hc
      · exact ld_glob (X := X.suite a ((a, oe3) :: (X.pn ++ pins))) S3 hg hm q hdbg
      · exact ld_blt (X := X.suite a ((a, oe3) :: (X.pn ++ pins))) S3 hg hm hv q hnn hdbg
    have go : ∀ {hds' : List ExceptHandler} {l' : List (Value × Option Nat × TsX)}, HdsMix X hds' l' → wMix X.K Wout D l' cls d σ' H' →
        wpAny (model X.prog X.w) X.A (handleBy (.ref a) X.env hds') (SP X pins D) X.xe { s' with heap := h3 } := by
      intro hds' l' hk
      induction hk with
      | nil =>
        intro w
        refine wpAny_handleBy_nil ?_
        obtain ⟨k1, k2, k3, oe, vs, T, oT, ts', he, hz, hd, h1, hr⟩ := id fl3
        unfold PySem.passOn
        refine wpAny_bind (wpAny_field he hd h1 ?_)
        rw [if_neg (show ¬ ((Value.ref T == Value.none) = true) from by simp)]
        have fin : wpAny (model X.prog X.w) X.A (setFlight (.ref a) X.env.frame) (fun _ s4 => wpAny (model X.prog X.w) X.A (throw (.ref a) : Sem Flow) (SP X pins D) X.xe s4) X.xe { s' with heap := h3 } := by
          rw [hf]
          refine HandSPX.setFlight_upZ fl3 fun h4 hh4 up4 => wpAny_throw (tk _ _ ?_)
          exact ⟨a, B, sI, pins, σ', H', cls, d, rfl, J, nb, (up.trans up3).trans up4, .inr (.inr (by rw [hs]; exact hh4)), na, os, ag, w⟩
        first
          | exact wpAny_bind (wpAny_pure (wpAny_bind fin))
          | exact wpAny_bind fin
      | @plain x c ts b₀ suite np pos' hds2 l2 hc hsu r ih =>
        intro w
        obtain ⟨b, hb1, hyes, hno⟩ := w
        refine wpAny_handleBy_cons (codeAny_handlers_test ?_) (by intro q; cases q)
        have LM := PySem.W.exm_one (M := model X.prog X.w) (J3.kIn) LT hb1
        refine test hc (LM.here ?_)
        cases b with
        | true =>
          refine codeAny_handlers_suite ?_
          refine HandSPX.lands_againZ fl3 fun h4 fl4 up4 => ?_
          have J4 : Inv X pins σ' H' { s' with heap := h4 } := J.landed nb fl4.1 ((up.trans up3).trans up4) os ag
          obtain ⟨oe4, vs4, he4, hz4, hd4⟩ := fl4.there
          have S4 := J4.suite he4 hd4 na nL nF
          refine wpAny_mono ((hsu a oe4 cls d (X.pn ++ pins) hz4 ⟨_, hd4⟩).run [] _ _ H' _ S4 (hyes rfl a na)) (fun f s6 hsp => ?_) (fun _ _ z => False.elim z)
          cases f with
          | next =>
            obtain ⟨σ6, H6, S6, q6⟩ := hsp
            exact ⟨_, _, S6.unsuite ok, q6⟩
          | brk =>
            obtain ⟨σ6, H6, S6, q6⟩ := hsp
            exact ⟨_, _, S6.unsuite ok, q6⟩
          | cont =>
            obtain ⟨σ6, H6, S6, q6⟩ := hsp
            exact ⟨_, _, S6.unsuite ok, q6⟩
          | ret u =>
            obtain ⟨v6, σ6, H6, S6, r6, q6⟩ := hsp
            exact ⟨_, _, _, S6.unsuite ok, r6, q6⟩
        | false =>
          show wpAny _ X.A (handleBy (.ref a) X.env hds2) _ _ _
          exact ih (hno rfl)
      | @named x n i c ts b₀ suite np pos' hds2 l2 hc hi hln hsu r ih =>
        intro w
        obtain ⟨b, hb1, hyes, hno⟩ := w
        have hloc : Loc X.env.scope n := .inl hln
        refine wpAny_handleBy_cons (codeAny_handlers_test ?_) (by intro q; cases q)
        have LM := PySem.W.exm_one (M := model X.prog X.w) (J3.kIn) LT hb1
        refine test hc (LM.here ?_)
        cases b with
        | true =>
          refine codeAny_handlers_suite_as ?_
          refine HandSPX.lands_againZ fl3 fun h4 fl4 up4 => ?_
          have J4 : Inv X pins σ' H' { s' with heap := h4 } := J.landed nb fl4.1 ((up.trans up3).trans up4) os ag
          obtain ⟨oe4, vs4, he4, hz4, hd4⟩ := fl4.there
          have S4 := J4.suite he4 hd4 na nL nF
          refine store_ok (X := X.suite a ((a, oe4) :: (X.pn ++ pins))) (v := .ref a) S4 hN hi hloc rfl (fun s5 S5 => ?_) (.inr hln)
          refine wpAny_mono ((hsu a oe4 cls d (X.pn ++ pins) hz4 ⟨_, hd4⟩).run [] s5 _ H' _ S5 (hyes rfl a na)) (fun f s6 hsp => ?_) (fun _ _ z => False.elim z)
          have end_ : ∀ {σ6 : L2.St} {H6 : Hp} {Q : Shared → Prop}, Inv (X.suite a ((a, oe4) :: (X.pn ++ pins))) [] σ6 H6 s6 → (∀ s7, Inv X pins (σ6.set i none) H6 s7 → Q s7) →
              wpAny (model X.prog X.w) X.A (do bindName X.env n .none; unbindBehindTheSuite X.env n pos') (fun _ s7 => Q s7) X.xe s6 := fun {σ6 H6 Q} S6 hq => gone_ok (S6.unsuite ok) hN hi hln hq
          cases f with
          | next =>
            obtain ⟨σ6, H6, S6, q6⟩ := hsp
            exact end_ S6 fun s7 J7 => ⟨_, _, J7, q6⟩
          | brk =>
            obtain ⟨σ6, H6, S6, q6⟩ := hsp
            exact end_ S6 fun s7 J7 => ⟨_, _, J7, q6⟩
          | cont =>
            obtain ⟨σ6, H6, S6, q6⟩ := hsp
            exact end_ S6 fun s7 J7 => ⟨_, _, J7, q6⟩
          | ret u =>
            obtain ⟨v6, σ6, H6, S6, r6, q6⟩ := hsp
            exact end_ S6 fun s7 J7 => ⟨_, _, _, J7, r6, q6⟩
        | false =>
          show wpAny _ X.A (handleBy (.ref a) X.env hds2) _ _ _
          exact ih (hno rfl)
    exact go hh w
  · cases f with
    | next =>
      obtain ⟨σ', H', J', q⟩ := hsp
      exact wpAny_execs_nil ⟨σ', H', J'.ofTry ok, q⟩
    | brk =>
      obtain ⟨σ', H', J', q⟩ := hsp
      exact ⟨σ', H', J'.ofTry ok, q⟩
    | cont =>
      obtain ⟨σ', H', J', q⟩ := hsp
      exact ⟨σ', H', J'.ofTry ok, q⟩
    | ret u =>
      obtain ⟨v, σ', H', J', r, q⟩ := hsp
      exact ⟨v, σ', H', J'.ofTry ok, r, q⟩
end
/-! ### at the data level -/
abbrev TsD := Addr → Str → List (Str × D) → DS
abbrev HdD := (Str → Option Bool) × Option Nat × TsD
def runD (oi : Option Nat) (ts : TsD) (a : Addr) (c : Str) (fs : List (Str × D)) (E : DEnds) (ρ : DSt) (G : DG) : Prop := match oi with
  | none => ts a c fs E ρ G
  | some i => ts a c fs (E.clr i) (ρ.set i (some (.ref a))) G
/-- what the clauses wish of what the body raises -/
def wTryM (Wout : DWX) (E : DEnds) : List HdD → DWX
  | [] => Wout
  | (ms, oi, ts) :: r => fun c fs ρ G => ∃ b, ms c = some b ∧ (b = true → ∀ a, G a = none → runD oi ts a c fs E ρ G) ∧ (b = false → wTryM Wout E r c fs ρ G)
def dTryM (l : List HdD) (Wout : DWX) (tb : DWX → DS) : DS := fun E ρ G => tb (wTryM Wout E l) E ρ G
abbrev B2x (X : DCx) (fs : List (Str × D)) (d : Option Addr) : Bs := ⟨X.prog, X.w, X.K, fun G H => ExD X.K G H fs d, fun h k f => h.mono k f⟩
def lowTs (X : DCx) (ts : TsD) : TsX := fun a cls d F σ H => ∃ c C fs ρ G E, cls = Value.ref C ∧ ClsAt X.K c C ∧ RpS X.K H ρ σ ∧ Wld (B2x X fs d) G H ∧ ts a c fs E ρ G ∧ KtE (B2x X fs d) G H E F
inductive DHds (X : DCx) : List ExceptHandler → List HdD → List (Value × Option Nat × TsX) → Prop
  | nil : DHds X [] [] []
  | plain {xh : Str} {hv : Value} {ms : Str → Option Bool} {ts : TsD} {b₀ : Stmt} {suite : List Stmt} {np pos' : Pos} {hds : List ExceptHandler} {l : List HdD} {l' : List (Value × Option Nat × TsX)} (hc : Names X.toCx xh hv)
      (hms : ∀ c b, ms c = some b → ∀ C, ClsAt X.K c C → PySem.W.exmOne X.K (.ref C) hv = some b)
      (hsu : ∀ (a : Addr) (oe : Obj) (c : Str) (C : Addr) (d : Option Addr) (fs : List (Str × D)) (pn : List (Addr × Obj)), ClsAt X.K c C → Zc (.ref C) d oe → (∃ vs, oe.data = .fields vs) → PDSs (suiteD X a oe pn fs d) (b₀ :: suite) (ts a c fs)) (r : DHds X hds l l') :
      DHds X (.ExceptHandler (some (.Name xh np)) none (b₀ :: suite) pos' :: hds) ((ms, none, ts) :: l) ((hv, none, lowTs X ts) :: l')
  | named {xh n : Str} {i : Nat} {hv : Value} {ms : Str → Option Bool} {ts : TsD} {b₀ : Stmt} {suite : List Stmt} {np pos' : Pos} {hds : List ExceptHandler} {l : List HdD} {l' : List (Value × Option Nat × TsX)} (hc : Names X.toCx xh hv) (hi : X.N[i]? = some n) (hln : X.env.kindOf n = some .local)
      (hms : ∀ c b, ms c = some b → ∀ C, ClsAt X.K c C → PySem.W.exmOne X.K (.ref C) hv = some b)
      (hsu : ∀ (a : Addr) (oe : Obj) (c : Str) (C : Addr) (d : Option Addr) (fs : List (Str × D)) (pn : List (Addr × Obj)), ClsAt X.K c C → Zc (.ref C) d oe → (∃ vs, oe.data = .fields vs) → PDSs (suiteD X a oe pn fs d) (b₀ :: suite) (ts a c fs)) (r : DHds X hds l l') :
      DHds X (.ExceptHandler (some (.Name xh np)) (some n) (b₀ :: suite) pos' :: hds) ((ms, some i, ts) :: l) ((hv, some i, lowTs X ts) :: l')
theorem DHds.mix {X : DCx} {hds : List ExceptHandler} {l : List HdD} {l' : List (Value × Option Nat × TsX)} (h : DHds X hds l l') : HdsMix X.toCx hds l' := by
  induction h with
  | nil => exact .nil
  | plain hc hms hsu r ih =>
    refine .plain hc (fun a oe cls d pn hz hfl => ⟨fun pins s σ H F I q => ?_⟩) ih
    obtain ⟨c, C, fs, ρ, G, E, rfl, hn, q1, q2, q3, q4⟩ := q
    exact (hsu a oe c C d fs pn hn hz hfl).low.run pins s σ H F I ⟨ρ, G, E, q1, q2, q3, q4⟩
  | named hc hi hln hms hsu r ih =>
    refine .named hc hi hln (fun a oe cls d pn hz hfl => ⟨fun pins s σ H F I q => ?_⟩) ih
    obtain ⟨c, C, fs, ρ, G, E, rfl, hn, q1, q2, q3, q4⟩ := q
    exact (hsu a oe c C d fs pn hn hz hfl).low.run pins s σ H F I ⟨ρ, G, E, q1, q2, q3, q4⟩
theorem wmix_of {X : DCx} {Wout : DWX} {Wx0 : WX} {G : DG} {H : Hp} {E : DEnds} {F : Ends} (w : Wld (bs X) G H) (k : KtE (bs X) G H E F) (hw0 : KtW (Bs.no X.prog X.w X.K) Wout Wx0 G H) {hds : List ExceptHandler} {l : List HdD} {l' : List (Value × Option Nat × TsX)} (h : DHds X hds l l') :
    ∀ {c : Str} {C : Addr} {fs : List (Str × D)} {d : Option Addr} {ρ' : DSt} {σ' : L2.St} {G' : DG} {H' : Hp}, ClsAt X.K c C → ExD X.K G' H' fs d → RpS X.K H' ρ' σ' → Wld0 (Bs.no X.prog X.w X.K) G' H' → Fm G H G' H' → wTryM Wout E l c fs ρ' G' → wMix X.K Wx0 F l' (.ref C) d σ' H' := by
  induction h with
  | nil =>
    intro c C fs d ρ' σ' G' H' hn hx s' w' f' q
    exact hw0 c C fs d ρ' σ' G' H' hn hx s' w' f' q
  | plain hc hms hsu r ih =>
    rintro c C fs d ρ' σ' G' H' hn hx s' w' f' ⟨b, hb1, hyes, hno⟩
    refine ⟨b, hms c b hb1 C hn, fun e a na => ?_, fun e => ih hn hx s' w' f' (hno e)⟩
    have nG : G' a = none := by
      cases z : G' a with
      | none => rfl
      | some o =>
        obtain ⟨u, q, _⟩ := (w' a o z).live
        rw [na] at q; cases q
    refine ⟨c, C, fs, ρ', G', E, rfl, hn, s', ⟨fun a o e => okO_of (B := B2x X fs d) (w' a o e), hx⟩, hyes e a nG, ?_⟩
    have cv : ∀ {G2 : DG} {H2 : Hp}, Wld (B2x X fs d) G2 H2 → Fm G' H' G2 H2 → Wld (bs X) G2 H2 := fun w2 f2 => w.to (f'.trans f2) fun a o e => w2.1 a o e
    exact ⟨fun ρ2 σ2 G2 H2 s2 w2 f2 q => k.nx _ _ G2 H2 s2 (cv w2 f2) (f'.trans f2) q, fun d v G2 H2 r2 w2 f2 q => k.rt d v G2 H2 r2 (cv w2 f2) (f'.trans f2) q, fun ρ2 σ2 G2 H2 s2 w2 f2 q => k.bk _ _ G2 H2 s2 (cv w2 f2) (f'.trans f2) q, fun ρ2 σ2 G2 H2 s2 w2 f2 q => k.ct _ _ G2 H2 s2 (cv w2 f2) (f'.trans f2) q⟩
  | @named xh n i hv ms ts b₀ suite np pos' hds l l' hc hi hln hms hsu r ih =>
    rintro c C fs d ρ' σ' G' H' hn hx s' w' f' ⟨b, hb1, hyes, hno⟩
    refine ⟨b, hms c b hb1 C hn, fun e a na => ?_, fun e => ih hn hx s' w' f' (hno e)⟩
    have nG : G' a = none := by
      cases z : G' a with
      | none => rfl
      | some o =>
        obtain ⟨u, q, _⟩ := (w' a o z).live
        rw [na] at q; cases q
    refine ⟨c, C, fs, ρ'.set i (some (.ref a)), G', E.clr i, rfl, hn, RpS.set (d := some (.ref a)) (v := some (.ref a)) (show Rp X.K H' (.ref a) (.ref a) from rp_ref.mpr rfl) i s', ⟨fun a o e => okO_of (B := B2x X fs d) (w' a o e), hx⟩, hyes e a nG, ?_⟩
    have cv : ∀ {G2 : DG} {H2 : Hp}, Wld (B2x X fs d) G2 H2 → Fm G' H' G2 H2 → Wld (bs X) G2 H2 := fun w2 f2 => w.to (f'.trans f2) fun a o e => w2.1 a o e
    exact ⟨fun ρ2 σ2 G2 H2 s2 w2 f2 q => k.nx _ _ G2 H2 (s2.clr i) (cv w2 f2) (f'.trans f2) q, fun d v G2 H2 r2 w2 f2 q => k.rt d v G2 H2 r2 (cv w2 f2) (f'.trans f2) q, fun ρ2 σ2 G2 H2 s2 w2 f2 q => k.bk _ _ G2 H2 (s2.clr i) (cv w2 f2) (f'.trans f2) q, fun ρ2 σ2 G2 H2 s2 w2 f2 q => k.ct _ _ G2 H2 (s2.clr i) (cv w2 f2) (f'.trans f2) q⟩
theorem pds_tryM {X : DCx} {body : List Stmt} {h₀ : ExceptHandler} {hds : List ExceptHandler} {l : List HdD} {l' : List (Value × Option Nat × TsX)} {pos : Pos} {Wout : DWX} {tb : DWX → DS} (hs : X.stack = X.env :: X.outer) (hf : X.env.frame = some X.env.locals) (hN : X.N.Nodup) (wh : Wsh X Wout)
    (hb : ∀ (Wd : DWX) (Wx : WX) (pn : List (Addr × Obj)) (xe : Value → Shared → Prop), Wsh (DCx.wish (X.toCx.tr pn xe) Wd Wx) Wd → PassesOwn (model X.prog X.w) X.A X.env xe → PDSs (DCx.wish (X.toCx.tr pn xe) Wd Wx) body (tb Wd))
    (hh : DHds X (h₀ :: hds) l l') : PDS X (.Try body (h₀ :: hds) [] [] pos) (dTryM l Wout tb) := by
  obtain ⟨Wx0, tk0, hw0⟩ := wh
  let B1 : DWX → WX → Bs := fun Wd Wx => ⟨X.prog, X.w, X.K, KtW (Bs.no X.prog X.w X.K) Wd Wx, fun h _ f => h.st f⟩
  let tb' : WX → TS := fun Wx F σ H => ∃ Wd ρ G E, RpS X.K H ρ σ ∧ Wld (B1 Wd Wx) G H ∧ tb Wd E ρ G ∧ KtE (B1 Wd Wx) G H E F
  refine ⟨_, ps_try_mix (tb := tb') hs hf hN tk0 (fun Wx pn xe tk po => ⟨fun pins s σ H F I q => ?_⟩) hh.mix, fun ρ σ G H E F s w h k => ?_⟩
  · obtain ⟨Wd, ρ, G, E, q1, q2, q3, q4⟩ := q
    exact (hb Wd Wx pn xe (wsh_of tk) po).low.run pins s σ H F I ⟨ρ, G, E, q1, q2, q3, q4⟩
  · refine ⟨wTryM Wout E l, ρ, G, E, s, ⟨fun a o e => w.1 a o e, ?_⟩, h, ?_⟩
    · exact fun c C fs d ρ' σ' G' H' hn hx s' w' f' q => wmix_of w k (hw0 G H w.2) hh hn hx s' w' f' q
    · have cv : ∀ {G2 : DG} {H2 : Hp}, Wld (B1 (wTryM Wout E l) (wMix X.K Wx0 F l')) G2 H2 → Fm G H G2 H2 → Wld (bs X) G2 H2 := fun w2 f2 => w.to f2 fun a o e => w2.1 a o e
      exact ⟨fun ρ2 σ2 G2 H2 s2 w2 f2 q => k.nx _ _ G2 H2 s2 (cv w2 f2) f2 q, fun d v G2 H2 r2 w2 f2 q => k.rt d v G2 H2 r2 (cv w2 f2) f2 q, fun ρ2 σ2 G2 H2 s2 w2 f2 q => k.bk _ _ G2 H2 s2 (cv w2 f2) f2 q, fun ρ2 σ2 G2 H2 s2 w2 f2 q => k.ct _ _ G2 H2 s2 (cv w2 f2) f2 q⟩
end FD

/-! FIm: exceptions without arguments as values; isinstance of them and built-in classes. -/
namespace FD
open PySem PySem.Spec PyProof.Rows L2
section
variable {X : DCx} {c : Str} {C fI : Addr} {p p3 pos : Pos} {e : Expr} {te : DE}
theorem pd_exn0 (T : XCls0 X.K X.prog C fI) (hr : Room 2 X.A) (hg : Gl X c) (hm : X.mg c = some (.ref C)) (hn : ClsAt X.K c C) (hsup : X.mg "super" = none)
    (hdb : (c == ("__debug__" : Str)) = false := by decide) : PD X (.Call (.Name c p) [] [] pos) (dExn0 c) := by
  refine ⟨_, pe_of_pmk (pmk_x0 T hr hg hm hsup hdb), fun ρ σ G H Q R s w h kk => ?_⟩
  refine ⟨C, rfl, fun a ha => ?_⟩
  exact kk _ _ _ _ (rp_ref.mpr rfl) (wld_new (d := .exn c []) w ha ⟨C, none, [], upd_same, rfl, hn, .nil⟩) (fm_new ha) (h a (w.none ha))
theorem pd_isVB {cn : Str} {T : String} {ms : Str → Option Bool} (hgi : Gl X "isinstance") (hmi : X.mg "isinstance" = none) (hgc : Gl X cn) (hmc : X.mg cn = none) (hbb : bootBuiltins cn = some (.type T))
    (hms : ∀ c b, ms c = some b → ∀ C, ClsAt X.K c C → ExcC X.K C ∧ PySem.W.kitOne X.K (.ref C) (.type T) = some b) (he0 : PD X e te) (hdc : (cn == ("__debug__" : Str)) = false := by decide) (hnn : cn ≠ "__name__" := by decide)
    (he : starEach [e, .Name cn p3] X.env = (false, eval e X.env) :: starEach [.Name cn p3] X.env := by rfl) (hpl : (backTo pos (starEach [.Name cn p3] X.env)).any (·.1) = false := by rfl) :
    PD X (.Call (.Name "isinstance" p) [e, .Name cn p3] [] pos) (dIsV ms te) := by
  obtain ⟨t, pe, le⟩ := he0
  refine ⟨_, pe_callB call_isV hgi hmi (by decide +kernel) (pa_cons pe (pa_cons (pe_bltn (v := .ty T) hgc hmc hbb rfl hnn hdc) pa_nil) (hs := he)) (by decide) (by decide) he hpl, fun ρ σ G H Q R s w h kk => ?_⟩
  refine le ρ σ G H _ _ s w h fun d v G1 H1 r1 w1 f1 q1 => ?_
  cases d with
  | ref a =>
    obtain ⟨c, fs, b, ea, hc, q⟩ := q1
    obtain ⟨C, dd, gs, eh, ed, hn, rl⟩ := w1.1 a _ ea
    obtain ⟨EC, hk⟩ := hms c b hc C hn
    cases (rp_ref.mp r1)
    refine ⟨a, C, dd, .ty T, .type T, b, rfl, eh, ?_, EC, fun u r => r, hk, kk _ _ G1 H1 (rp_bl.mpr rfl) w1 f1 q⟩
    cases dd with
    | none => exact .inl rfl
    | some dd => exact .inr ⟨dd, gs, rfl, ed⟩
  | _ => exact q1.elim
end
end FD

/-! FIn: an own exception made with keywords. -/
namespace FD
open PySem PySem.W PySem.Calls PyProof.Rows L2 PySem.HandSPX
section
variable {M : Model} {A : Around} {E : Value → Shared → Prop} {h : Heap} {g : Array GenState} {d : Drawn} {t : Nat} {os : OsState}
variable {nm q : Str} {C N : Addr} {bs bm bmB : List Value} {hdct : Bool} {sn : List Str} {sub : List Value} {ab : Bool} {col : Option Bool} {dd : Option Addr} {k0 k1 k2 k3 k5 : Option Value} {B newId initId : String} {kw : List (Str × Value)}
theorem check_new_kw (F : ExcBaseFacts B newId initId bmB) (hT : ∀ X : String, bm.contains (.type X) = bmB.contains (.type X)) {Q : Unit → Shared → Prop}
    (hC : h.get? C = some (excClassObj nm q C N bs bm hdct sn sub ab col dd k0 k1 k2 k3 k5 newId)) (hq : Q () ⟨h, g, d, t, os⟩) : wpAny M A (checkBuiltinCall newId ⟨[.ref C], kw⟩) Q E ⟨h, g, d, t, os⟩ := by
  have hcont : (Value.ref C :: bm).contains (.type B) = true := by rw [List.contains_cons, hT, F.hasB, Bool.or_true]
  have hstar := F.noStar
  simp only [checkBuiltinCall, F.newKind, F.newSplit, F.newRow]
  repeat (first | refine wpAny_loadPart_at hC ?_ | (refine wpAny_isSubtype_exc hC ?_; rw [hcont]) | refine wpAny_staticBase_exc hC ?_ | refine wpAny_madeBy_exc hC ?_ | simp only [bne_self_eq_false, Bool.false_eq_true, if_false] | wp_step)
  exact hq
end
section
variable {prog : Program} {w : World} {A : Around} {E : Value → Shared → Prop} {R : Result → Shared → Prop} {h : Heap} {g : Array GenState} {d : Drawn} {t : Nat} {os : OsState}
variable {nm q : Str} {C N : Addr} {bs bm bmB : List Value} {hdct : Bool} {sn : List Str} {sub : List Value} {ab : Bool} {col : Option Bool} {dd : Option Addr} {k0 k1 k2 k3 k5 : Option Value} {B newId initId : String} {kw : List (Str × Value)}
theorem new_kw (F : ExcBaseFacts B newId initId bmB) (hT : ∀ X : String, bm.contains (.type X) = bmB.contains (.type X))
    (hC : h.get? C = some (excClassObj nm q C N bs bm hdct sn sub ab col dd k0 k1 k2 k3 k5 newId))
    (hq : R (.ok (.ret (.ref (h.objs.size + 1)))) ⟨(h.push { cls := .type "tuple", data := .seq #[] }).push
      { cls := .ref C, data := .fields #[.ref h.objs.size, .none, .none, .none, .bool false, .none] }, g, d, t, os⟩) :
    codeAny (model prog w) A (.builtin newId ⟨[.ref C], kw⟩) R ⟨h, g, d, t, os⟩ := by
  have hends := F.ends
  have hcB : (Value.ref C :: bm).contains (.type B) = true := by rw [List.contains_cons, hT, F.hasB, Bool.or_true]
  have hcA : (Value.ref C :: bm).contains (.type "AttributeError") = false := by rw [List.contains_cons, hT, F.noAttr]; rfl
  have hcN : (Value.ref C :: bm).contains (.type "NameError") = false := by rw [List.contains_cons, hT, F.noName]; rfl
  refine codeAny_builtinAt F.entry ?_
  unfold Builtin.«BaseException.__new__»
  refine PySem.wpAt_bind ?_
  show PySem.wpAt _ _ _ (stack >>= _) _ _ _
  refine PySem.wpAt_bind (PySem.wpAt_stack fun p below => PySem.wpAt_of_wpAny ?_)
  wp_walk
  refine PySem.wpAt_of_wpAny ?_
  rw [F.owner]
  repeat (first | with_reducible refine wpAny_madeHere_exc F.canon hC ?_ | with_reducible refine wpAny_loadPart_at hC ?_ | (with_reducible refine wpAny_isSubtype_exc hC ?_; first | rw [hcB] | rw [hcA] | rw [hcN]) | wp_step)
  show R _ _
  rw [Heap.size_push]
  exact hq
theorem type_call_kw (F : ExcBaseFacts B newId initId bmB) (hT : ∀ X : String, bm.contains (.type X) = bmB.contains (.type X)) {fI : Addr} {Q : Fin → Shared → Prop}
    (hC : h.get? C = some (excClassObj nm q C N bs bm hdct sn sub ab col dd k0 k1 k2 k3 k5 newId))
    (hi : W.Looks (model prog w) h (typeLookup (.ref C) "__init__") (some (.ref fI))) (hb : ∀ self, W.Looks (model prog w) h (bindSpecial (.ref fI) self) (.ref fI, [self]))
    (hq : codeAny (model prog w) A (.call (.ref fI) ⟨[.ref (h.objs.size + 1)], kw⟩)
      (fun r s' => match r with | .ok (.ret v) => v = .none ∧ Q (.done (.ret (.ref (h.objs.size + 1)))) s' | .ok _ => False | .error e => E e s')
      ⟨(h.push (W.kdv_tup [])).push (excO C h.objs.size), g, d, t, os⟩) :
    wpAny (model prog w) A (Builtin.«type.__call__» ⟨[.ref C], kw⟩) Q E ⟨h, g, d, t, os⟩ := by
  repeat (first | with_reducible refine wpAny_loadPart_at hC ?_ | with_reducible refine wpAny_madeBy_exc hC ?_ | wp_step)
  refine codeAny_call_builtin_code (Code.quiet_builtin _ F.quiet) (check_new_kw F hT hC ?_)
  refine new_kw F hT hC ?_
  show wpAny _ _ _ _ _ _
  have k : ∀ b o, h.get? b = some o → ((h.push (W.kdv_tup [])).push (excO C h.objs.size)).get? b = some o := fun b o e => Heap.get?_push_of_some _ (Heap.get?_push_of_some _ e)
  have hC₁ := k _ _ hC
  have hget : ((h.push (W.kdv_tup [])).push (excO C h.objs.size)).get? (h.objs.size + 1) = some (excO C h.objs.size) := by heap_get
  have hcC : (Value.ref C :: bm).contains (.ref C) = true := by simp
  have i1 := hi.keeps k
  have b1 := (hb (.ref (h.objs.size + 1))).keeps k
  unfold isInstance
  repeat (first | with_reducible refine wpAny_loadPart_at hget ?_ | (with_reducible refine wpAny_isSubtype_exc hC₁ ?_; rw [hcC]) | wp_step)
  show wpAny _ _ (typeLookup (.ref C) _) _ _ _
  refine i1.at ?_
  refine wpAny_holding (wpAny_bind (b1.at ?_))
  refine wpAny_bind (wpAny_call (codeAny_mono hq fun r s' z => ?_))
  rcases r with e | (v | _ | _ | _) <;> first | exact z | exact z.elim | skip
  obtain ⟨rfl, z⟩ := z
  first
    | exact wpAny_pure (wpAny_pure z)
    | (wp_walk; exact z)
theorem call_own_kw (F : ExcBaseFacts B newId initId bmB) (hT : ∀ X : String, bm.contains (.type X) = bmB.contains (.type X)) {fI : Addr}
    (hC : h.get? C = some (excClassObj nm q C N bs bm hdct sn sub ab col dd k0 k1 k2 k3 k5 newId))
    (hi : W.Looks (model prog w) h (typeLookup (.ref C) "__init__") (some (.ref fI))) (hb : ∀ self, W.Looks (model prog w) h (bindSpecial (.ref fI) self) (.ref fI, [self]))
    (hq : codeAny (model prog w) (A.under (.builtin "type.__call__" ⟨[.ref C], kw⟩)) (.call (.ref fI) ⟨[.ref (h.objs.size + 1)], kw⟩) (W.InitBack (h.objs.size + 1) R)
      ⟨(h.push (W.kdv_tup [])).push (excO C h.objs.size), g, d, t, os⟩) :
    codeAny (model prog w) A (.call (.ref C) ⟨[], kw⟩) R ⟨h, g, d, t, os⟩ := by
  have f1 := tc_lookup
  have f2 := tc_bind (.ref C)
  have hTy : (⟨h, g, d, t, os⟩ : Shared).TypeIs (.ref C) "type" := ⟨_, hC, rfl⟩
  refine codeAny_of_tree ?_
  show wpAny _ _ (callAny (.ref C) _) _ _ _
  repeat (any_goals (first | assumption | with_reducible refine wpAny_loadPart_at hC ?_ | wp_step))
  refine ⟨rfl, ?_⟩
  refine codeAny_call_builtin_at (Code.quiet_builtin _ (by decide +kernel)) entry_typeCall (wpAny_check_type_call_sub hC (type_call_kw F hT hC hi hb ?_))
  refine codeAny_mono hq fun r s' z => ?_
  rcases r with e | (v | _ | _ | _) <;> exact z
end
end FD

/-! FIo: an own exception over ValueError made by a keyword, C(x=e). Printed by mkfio.py of FD18, FD19, FD23. -/
namespace FD
open PySem PySem.W PySem.Calls PyProof.Rows L2 PySem.HandSPX
open PySem PySem.W PySem.Calls PyProof.Rows L2 PySem.HandSPX
section
variable {prog : Program} {w : World} {A : Around} {R : Result → Shared → Prop} {hp : Heap} {g : Array GenState} {dr : Drawn} {t : Nat} {os : OsState} {K : PySem.W.Frag} {mg : Str → Option Value} {base : Heap}
/-- what the written part tells of the class C and of its __init__ at fI -/
structure XInitW (K : PySem.W.Frag) (P : Program) (C fI : Addr) (x fld : Str) : Prop where
  fn : ∃ (oc : Value) (od : Option Addr) (qual : Str) (params : Arguments) (scope : Scope) (dV kV doc pm : Value) (an : Option Addr) (cda : Addr) (ct : Value) (cc : Addr) (osl : Array (Option Value)) (p0 p1 p2 p3 p4 p5 p6 p7 p8 p9 : Pos) (ar : Arg) (ccl : Value) (cdd : Option Addr) (vs : Array Value) (ccs : Array (Option Value)) (file : Str) (tf : Tok) (cl : Value) (cld : Option Addr) (csl : Array (Option Value)),
    K.lookup fI = some ⟨oc, od, .func (ksFn "__init__" qual params [.Expr (.Call (.Attribute (.Call (.Name "super" p0) [] [] p1) "__init__" p2) [.Name x p3] [] p4) p5, .Assign [.Attribute (.Name "self" p6) fld p7] (.Name x p8) p9] scope dV kV doc pm an (.ref cda) ct cc), osl⟩ ∧
    codeIn K (.ref cda) qual = true ∧ (params.posonlyargs ++ params.args).head? = some ar ∧ ar.arg = "self" ∧
    (∀ a u, bindArgs (ksFn "__init__" qual params [.Expr (.Call (.Attribute (.Call (.Name "super" p0) [] [] p1) "__init__" p2) [.Name x p3] [] p4) p5, .Assign [.Attribute (.Name "self" p6) fld p7] (.Name x p8) p9] scope dV kV doc pm an (.ref cda) ct cc) ⟨[a], [(x, u)]⟩ = pure [(("self" : Str), a), (x, u)]) ∧
    (scope.names.lookup ("super" : Str) = some .globalImplicit ∧ scope.names.lookup ("__class__" : Str) = some .free ∧ scope.names.lookup ("self" : Str) = some .local ∧ scope.names.lookup x = some .local ∧ scope.kind = .function ∧ (∀ y ∈ scope.names, y.2 ≠ .cell) ∧ scope.isCoroutine = false ∧ scope.isGenerator = false) ∧
    (∀ L, interactive (ksEnv qual scope L fI (.ref cda) cc) = false ∧ swapsWith (.Call (.Attribute (.Call (.Name "super" p0) [] [] p1) "__init__" p2) [.Name x p3] [] p4) none p5.line (ksEnv qual scope L fI (.ref cda) cc) = pure false ∧ swapsWith (.Name x p8) (some (.Attribute (.Name "self" p6) fld p7)) p9.line (ksEnv qual scope L fI (.ref cda) cc) = pure false ∧
      ∃ pl : Sem Bool, eval (.Call (.Attribute (.Call (.Name "super" p0) [] [] p1) "__init__" p2) [.Name x p3] [] p4) (ksEnv qual scope L fI (.ref cda) cc) = (do
        let ov ← attributeBase (.Call (.Name "super" p0) [] [] p1) "__init__" (ksEnv qual scope L fI (.ref cda) cc) (eval (.Call (.Name "super" p0) [] [] p1) (ksEnv qual scope L fI (.ref cda) cc))
        standAt p2.atName
        let (f, first) ← holding [ov] (getMethod ov "__init__" pl)
        callWith p4 f first (backTo p4 (starEach [.Name x p3] (ksEnv qual scope L fI (.ref cda) cc))) [])) ∧
    K.lookup cda = some ⟨ccl, cdd, .fields vs, ccs⟩ ∧ vs[2]? = some (.str file tf) ∧ ((P.main.file : Str) == file) = true ∧ K.lookup cc = some ⟨cl, cld, .cell (some (.ref C)), csl⟩
  top : (P.main.scope.names.lookup ("super" : Str)).isSome = false
  xs : x ≠ "self" ∧ (x == ("__debug__" : Str)) = false
  cls : ∃ cd, clsIn K C = some cd ∧ cd.hasDict = true ∧ refsVE cd.mro = true
  sub : mroIn K C (.ref C) = some true
  ho : nsIn K cStatics "thirdparty.any" = some none
  sup : ks_superIn K C C "__init__" = some (some (.builtin "ValueError.__init__"))
  ve : subIn K (.ref C) (.type "ValueError") = some true
  nw : excInitIn K C veTail "ValueError.__new__" = true
  sa : findIn K (.ref C) "__setattr__" = some (some (.builtin "object.__setattr__"))
  no : findIn K (.ref C) fld = some none
theorem xi_runW {C fI a t0 : Addr} {x fld : Str} {u : Value} (T : XInitW K prog C fI x fld) (MO : Mod K mg base) (bk : ∀ b o, base.get? b = some o → hp.get? b = some o) (hsuper : mg "super" = none) (hroom : A.depth < recursionLimit) (hab : base.get? a = none) (ha : hp.get? a = some (excO C t0))
    (hq : ∀ h' tk' dx t1, (∀ b o, b ≠ a → hp.get? b = some o → h'.get? b = some o) → hp.objs.size ≤ dx → h'.get? a = some ({ cls := .ref C, dict := some dx, data := .fields #[.ref t1, .none, .none, .none, .bool false, .none] } : Obj) → h'.Ns1 dx (fun y => if y = fld then some u else none) → R (.ok (.ret .none)) ⟨h', g, dr, tk', os⟩) :
    codeAny (model prog w) A (.call (.ref fI) ⟨[.ref a], [(x, u)]⟩) R ⟨hp, g, dr, t, os⟩ := by
  obtain ⟨oc, od, qual, params, scope, dV, kV, doc, pm, an, cda, ct, cc, osl, p0, p1, p2, p3, p4, p5, p6, p7, p8, p9, ar, ccl, cdd, vs, ccs, file, tf, cl, cld, csl, lk, hcd, hpar, har, hbd, ⟨hks, hkc, hka, hkx, hk, hcell, hco, hgen⟩, hsh, hcode, hvs, hfile, hcc⟩ := T.fn
  obtain ⟨cd, hcl, hdi, hmro⟩ := T.cls
  have KX : K.In hp := MO.kin.keeps bk
  have hxs := T.xs
  refine ks_codeAny_call_defAt (s := ⟨hp, g, dr, t, os⟩) (binds := [(("self" : Str), .ref a), (x, u)]) hroom (KX _ _ lk) rfl (MO.nolimit.keeps bk) (codeRec_of KX hcd) rfl (BindsTo.of_eq (hbd _ _)) hcell (fun y hy => ?_) (fun h1 hns k1 => ?_) hco hgen hk
  · simp only [List.mem_cons, List.not_mem_nil, or_false] at hy
    rcases hy with rfl | rfl
    · exact hka
    · exact hkx
  have KX1 : K.In h1 := KX.keeps k1
  have bk1 : ∀ b o, base.get? b = some o → h1.get? b = some o := fun b o e => k1 b o (bk b o e)
  have ha1 := k1 _ _ ha
  have I1 : InstAt h1 a (excO C t0) C none := ⟨ha1, rfl, rfl, trivial⟩
  obtain ⟨mb, hb1, hb2⟩ := MO.blt
  obtain ⟨oD, hD1, hD2⟩ : ∃ oD, h1.get? C = some oD ∧ oD.data = .cls cd := by
    have hcl' := hcl
    unfold clsIn at hcl'
    split at hcl'
    · rename_i c d cd' sl ho
      cases hcl'
      exact ⟨_, KX1 _ _ ho, rfl⟩
    · cases hcl'
  obtain ⟨hi, hs1, hs2, pl, he⟩ := hsh hp.objs.size
  show PySem.wpAt (model prog w) (A.deeper (ksEnv qual scope hp.objs.size fI (.ref cda) cc)) (.func _ (ksEnv qual scope hp.objs.size fI (.ref cda) cc)) (execs _ (ksEnv qual scope hp.objs.size fI (.ref cda) cc)) _ _ _
  refine ks_wpAt_execs_cons (ks_wpAt_Expr_any (ks_wpAt_MethodCall (pl := pl) ?_ he) hi hs1)
  refine ks_wpAt_super_base (ar := ar) hks hkc rfl rfl (KX1 _ _ lk) rfl hpar rfl (KX1 _ _ hcode) rfl hvs hfile T.top ?_
  refine ks_loadName_global hk hks (loadGlobal_builtin (MO.glob.keeps bk1) hsuper (hb1.keeps bk1) ((hb2 _ (by decide +kernel)).trans PyProof.Rows.Boot.«super») ⟨rfl, ?_⟩)
  refine wpAny_loadName_free hk hkc rfl ⟨_, KX1 _ _ hcc, rfl⟩ ?_
  refine wpAny_loadName_local hk (by rw [har]; exact hka) hns (by rw [har]; show List.lookup ("self" : Str) [(x, u), (("self" : Str), Value.ref a)] = some (Value.ref a); rw [List.lookup_cons, beq_eq_false_iff_ne.mpr (Ne.symm hxs.1)]; rfl) ?_
  refine ks_wpAny_isType_cls hD1 hD2 ⟨rfl, ?_⟩
  refine ks_wpAny_call_super hD1 hD2 ha1 rfl (fun c e => by cases e) (looks_mroIn KX1 T.sub) (fun h2 e2 k2 => ?_)
  have KX2 : K.In h2 := KX1.keeps k2
  have I2 : InstAt h2 a (excO C t0) C none := ⟨k2 _ _ ha1, rfl, rfl, trivial⟩
  have hsup := T.sup
  unfold ks_superIn at hsup
  rw [hcl] at hsup
  refine kxs_getMethod kxs_ValueError e2 (looks_opaque KX2 T.ho) (l₀ := cd.mro) (fun A Q E s k q => wpAny_bind ((looks_clsIn KX2 hcl) A _ E s k (wpAny_pure q))) rfl KX2 hsup (I2.type.andThen (looks_subIn KX2 T.ve)) (ks_ne KX2 I2 hcl) rfl ?_
  have k3 : ∀ b o, h2.get? b = some o → (h2.push (kxs_mw "ValueError.__init__" a)).get? b = some o := fun b o e => Heap.get?_push_of_some _ e
  have hmw : (h2.push (kxs_mw "ValueError.__init__" a)).get? h2.objs.size = some (kxs_mw "ValueError.__init__" a) := Heap.get?_push_at rfl rfl
  generalize hh3 : h2.push (kxs_mw "ValueError.__init__" a) = h3 at k3 hmw
  have hlx : List.lookup x [(x, u), (("self" : Str), Value.ref a)] = some u := by rw [List.lookup_cons, beq_self_eq_true]
  have ns3 : h3.Ns hp.objs.size (fun y => List.lookup y [(x, u), (("self" : Str), Value.ref a)]) := hns.keeps fun b o e => k3 b o (k2 b o e)
  refine kxs_callWith (i := "ValueError.__init__") (x := a) rfl (evalArgs_plain (spliced_more (wpAny_Name (wpAny_loadName_local (env := ksEnv qual scope hp.objs.size fI (.ref cda) cc) hk hkx ns3 hlx (spliced_none ⟨hmw, ?_⟩)) hxs.2)))
  have ha3 : h3.get? a = some (excO C t0) := k3 _ _ (k2 _ _ ha1)
  obtain ⟨nm, N', qn, bs', bm, hdct, sn, sub', ab, col, dd, k0', k1', k2', k3', k5', hC3, hT3⟩ := excInit_of ((KX2).keeps k3) T.nw
  refine wpAny_call (codeAny_of_tree ?_)
  show wpAny _ (Around.in1 _) (callAny (.ref _) ⟨[u], []⟩) _ _ _
  simp only [callAny]
  refine wpAny_bind (wpAny_load hmw ?_)
  simp only [kxs_mw, show (Value.type "method-wrapper" == Value.type "method" || Value.type "method-wrapper" == Value.type "builtin_function_or_method" || Value.type "method-wrapper" == Value.type "method-wrapper") = true by decide, if_true]
  refine KFB.if_so (by decide) ?_
  refine wpAny_bind (check_bound_init F.excBase_ValueError.toExcCallFacts hC3 ha3 rfl ?_)
  refine wpAny_bind (wpAny_pure (wpAny_pure ?_))
  refine ⟨plainId_quiet F.excBase_ValueError.init.plain _, codeAny_builtin F.excBase_ValueError.initEntry ?_⟩
  refine exc_init_tree (cls := .ref C) (t0 := t0) (dv := none) (c2 := .none) (c3 := .none) (b4 := .bool false) ha3 (by simp [sizeLine]) fun h4 k4 e4 _ => ?_
  have ns4 : h4.Ns hp.objs.size (fun y => List.lookup y [(x, u), (("self" : Str), Value.ref a)]) := by
    obtain ⟨o, es, ep, e, r⟩ := ns3
    refine ⟨o, es, ep, k4 _ _ (fun z => ?_) e, r⟩
    exact absurd (Heap.lt_size ha) (by rw [← z]; exact Nat.lt_irrefl _)
  show PySem.wpAt _ _ _ (execs [.Assign [.Attribute (.Name "self" p6) fld p7] (.Name x p8) p9] (ksEnv qual scope hp.objs.size fI (.ref cda) cc)) _ _ _
  refine ks_wpAt_execs_cons (ks_wpAt_Assign_Attr ?_ hs2)
  refine wpAt_of_wpAny (wpAny_Name (wpAny_loadName_local hk hkx ns4 hlx ?_) hxs.2)
  refine wpAny_Name (wpAny_loadName_local hk hka ns4 (by show List.lookup ("self" : Str) [(x, u), (("self" : Str), Value.ref a)] = some (Value.ref a); rw [List.lookup_cons, beq_eq_false_iff_ne.mpr (Ne.symm hxs.1)]; rfl) ?_) (by decide)
  have kk : ∀ b o, b ≠ a → hp.get? b = some o → h4.get? b = some o := fun b o hb e => k4 b o hb (k3 b o (k2 b o (k1 b o e)))
  have hcl4 : ∀ b o, base.get? b = some o → b ≠ a := fun b o e z => by rw [z, hab] at e; cases e
  have KX4 : K.In h4 := MO.kin.keeps fun b o e => kk b o (hcl4 b o e) (bk b o e)
  refine set_plain KX4 (ox := excO C h3.objs.size) (od := none) ⟨e4, rfl, rfl, trivial⟩ T.sa ?_
  refine exc_osa KX4 e4 hcl hmro hdi T.no (fun h5 tk5 dx k5 dn dne hx5 hn5 => ?_)
  refine wpAt_of_wpAny (wpAny_execs_nil ?_)
  refine hq h5 tk5 dx _ (fun b o hb e => k5 b o hb (kk b o hb e)) ?_ hx5 hn5
  exact Nat.le_trans (Nat.le_of_lt ns4.lt) dn
end
open PySem PySem.Spec PyProof.Rows L2
structure XClsW (K : PySem.W.Frag) (P : Program) (C fI : Addr) (x fld : Str) : Prop where
  ini : XInitW K P C fI x fld
  at_ : PySem.W.findIn K (.ref C) "__init__" = some (some (.ref fI))
  fn : PySem.W.typeIn K (.ref fI) = some (.type "function")
  exC : PySem.W.subIn K (.ref C) (.type "BaseException") = some true
  tyC : PySem.W.typeIn K (.ref C) = some (.type "type")
  kC : PySem.W.keepIn K (.ref C) = true
theorem pmk_xW {X : Cx} {c x fld : Str} {C fI : Addr} {p pos kp : Pos} {e : Expr} {te : TE} (T : XClsW X.K X.prog C fI x fld) (hr : Room 2 X.A) (hg : Gl X c) (hm : X.mg c = some (.ref C)) (hsup : X.mg "super" = none) (he0 : PE X e te)
    (hdb : (c == ("__debug__" : Str)) = false := by decide) (hall : (backToKw pos (keywordEach [⟨some x, e, kp⟩] X.env)).all (·.1.isSome) = true := by rfl) (hks : (backToKw pos (keywordEach [⟨some x, e, kp⟩] X.env)).filterMap (·.1) = [x] := by rfl)
    (hpl : ((backTo pos (starEach [] X.env)).any (·.1) || (backToKw pos (keywordEach [⟨some x, e, kp⟩] X.env)).any (·.1.isNone)) = false := by rfl) :
    PMk X (.Call (.Name c p) [] [⟨some x, e, kp⟩] pos) (tMkX C fld (tCons te tNil)) := by
  intro pins s σ H Q I h
  refine wpAny_Call_Name_kw (ld_glob I hg hm ?_ hdb)
  refine PySem.W.callWith_KW0 (h₀ := X.base) I.ok.mod.kin T.kC hall ?_ hpl
  refine thn ((pk_cons he0 pk_nil).run pos pins s σ H _ I h) fun us s1 ⟨vs, H1, I1, r1, v, ev, q1⟩ => ⟨I1.kIn, ?_⟩
  rw [hks]
  subst ev
  cases r1 with
  | @cons _ u _ ur ru rr =>
  cases rr
  show wpAny _ _ (call (.ref C) [] [(x, u)]) _ _ _
  obtain ⟨hp, g, dr, tk, os⟩ := s1
  obtain ⟨nm, N', qn, bs', bm, hdct, sn, sub', ab, col, dd, k0', k1', k2', k3', k5', hC, hT⟩ := PySem.W.excInit_of I1.kIn T.ini.nw
  have kk : ∀ b o, hp.get? b = some o → ((hp.push (PySem.W.kdv_tup [])).push (PySem.HandSPX.excO C hp.objs.size)).get? b = some o := fun b o e => Heap.get?_push_of_some _ (Heap.get?_push_of_some _ e)
  have hget : ((hp.push (PySem.W.kdv_tup [])).push (PySem.HandSPX.excO C hp.objs.size)).get? (hp.objs.size + 1) = some (PySem.HandSPX.excO C hp.objs.size) := by heap_get
  have lt0 : ∀ {b : Addr} {o : Obj}, hp.get? b = some o → b ≠ hp.objs.size + 1 := fun {b o} z y => by
    have := Heap.lt_size z
    rw [y] at this
    exact absurd this (Nat.not_lt.mpr (Nat.le_succ _))
  refine wpAny_call (call_own_kw (kw := [(x, u)]) F.excBase_ValueError hT hC (PySem.W.looks_findIn I1.kIn T.at_) (fun self => PySem.W.bind_fn I1.kIn self T.fn) ?_)
  refine xi_runW T.ini I1.mod (fun b o e => kk b o (I1.bk b o e)) hsup (hr.make C [] [(x, u)]).depth ?_ hget fun h' tk' dx t1 k5 dn hx hn => ?_
  · cases z : X.base.get? (hp.objs.size + 1) with
    | none => rfl
    | some o => exact absurd rfl (lt0 (I1.bk _ _ z))
  have hda : dx ≠ hp.objs.size + 1 := fun z => by
    have := Heap.lt_size hget
    rw [z] at dn
    exact absurd this (Nat.not_lt.mpr dn)
  have hsz : hp.objs.size ≤ dx := by
    have h1 : hp.objs.size + 1 < ((hp.push (PySem.W.kdv_tup [])).push (PySem.HandSPX.excO C hp.objs.size)).objs.size := Heap.lt_size hget
    exact Nat.le_trans (Nat.le_of_lt (Nat.lt_trans (Nat.lt_succ_self _) h1)) dn
  obtain ⟨G, g1', g2'⟩ := restrict h' fun b => decide (b ≠ hp.objs.size + 1)
  have gk : ∀ b, b ≠ hp.objs.size + 1 → G.get? b = h'.get? b := fun b hb => g1' b (decide_eq_true hb)
  have ge : G.get? (hp.objs.size + 1) = none := g2' _ (by simp)
  have hdn : H1 dx = none := I1.hok.fresh hsz
  have hq := q1 dx hdn
  have J : Inv X pins σ (L2.upd H1 dx (.xd [(fld, v)])) ⟨G, g, dr, tk', os⟩ := by
    refine I1.laid (t' := tk') (a := dx) (o := .xd [(fld, v)]) (h' := G) (fun b o e => ?_) hsz ?_
    · rw [gk b (lt0 e)]
      exact k5 b o (lt0 e) (kk b o e)
    · refine ⟨_, hn.at fun o y => (gk dx hda).trans y, fun f => ?_⟩
      show RelO (List.lookup f [(fld, v)]) (if f = fld then some u else none)
      by_cases hf : f = fld
      · subst hf
        rw [List.lookup_cons, beq_self_eq_true, if_pos rfl]
        exact ru
      · rw [List.lookup_cons, beq_eq_false_iff_ne.mpr hf, if_neg hf]
        exact True.intro
  refine ⟨rfl, hp.objs.size + 1, _, _, ⟨G, g, dr, tk', os⟩, _, .ref C, some dx, rfl, J, fun b o z => ?_, ge, hx, ⟨rfl, rfl⟩, rfl, rfl, ?_, rfl, I1.bare, raises_own T.exC T.tyC, hq⟩
  · by_cases hb : b = hp.objs.size + 1
    · rw [hb, ge] at z; cases z
    · exact (gk b hb).symm.trans z
  · rw [upd_ne (Ne.symm hda)]
    exact I1.hok.fresh (Nat.le_succ _)
open PySem PySem.W PySem.Calls PyProof.Rows L2 PySem.HandSPX
theorem xcls_mkW {K : PySem.W.Frag} {P : Program} {C fI : Addr} {x fld : Str} {oc : Value} {od : Option Addr} {qual : Str} {params : Arguments} {body : List Stmt} {scope : Scope} {dV kV doc pm : Value} {an : Option Addr} {cda : Addr} {ct : Value} {cc : Addr} {osl : Array (Option Value)} {p0 p1 p2 p3 p4 p5 p6 p7 p8 p9 : Pos} {ar : Arg} {ccl : Value} {cdd : Option Addr} {vs : Array Value} {ccs : Array (Option Value)} {file : Str} {tf : Tok} {cl : Value} {cld : Option Addr} {csl : Array (Option Value)} {cd : ClassData}
    (at_ : findIn K (.ref C) "__init__" = some (some (.ref fI)))
    (lk : K.lookup fI = some ⟨oc, od, .func (ksFn "__init__" qual params body scope dV kV doc pm an (.ref cda) ct cc), osl⟩)
    (hcd : codeIn K (.ref cda) qual = true)
    (hb : body = [.Expr (.Call (.Attribute (.Call (.Name "super" p0) [] [] p1) "__init__" p2) [.Name x p3] [] p4) p5, .Assign [.Attribute (.Name "self" p6) fld p7] (.Name x p8) p9])
    (hpar : (params.posonlyargs ++ params.args).head? = some ar) (har : ar.arg = "self")
    (hbd : ∀ a u, bindArgs (ksFn "__init__" qual params body scope dV kV doc pm an (.ref cda) ct cc) ⟨[a], [(x, u)]⟩ = pure [(("self" : Str), a), (x, u)])
    (hsc : scope.names.lookup ("super" : Str) = some .globalImplicit ∧ scope.names.lookup ("__class__" : Str) = some .free ∧ scope.names.lookup ("self" : Str) = some .local ∧ scope.names.lookup x = some .local ∧ scope.kind = .function ∧ (∀ y ∈ scope.names, y.2 ≠ .cell) ∧ scope.isCoroutine = false ∧ scope.isGenerator = false)
    (hsh : ∀ L, interactive (ksEnv qual scope L fI (.ref cda) cc) = false ∧ swapsWith (.Call (.Attribute (.Call (.Name "super" p0) [] [] p1) "__init__" p2) [.Name x p3] [] p4) none p5.line (ksEnv qual scope L fI (.ref cda) cc) = pure false ∧ swapsWith (.Name x p8) (some (.Attribute (.Name "self" p6) fld p7)) p9.line (ksEnv qual scope L fI (.ref cda) cc) = pure false ∧
      ∃ pl : Sem Bool, eval (.Call (.Attribute (.Call (.Name "super" p0) [] [] p1) "__init__" p2) [.Name x p3] [] p4) (ksEnv qual scope L fI (.ref cda) cc) = (do
        let ov ← attributeBase (.Call (.Name "super" p0) [] [] p1) "__init__" (ksEnv qual scope L fI (.ref cda) cc) (eval (.Call (.Name "super" p0) [] [] p1) (ksEnv qual scope L fI (.ref cda) cc))
        standAt p2.atName
        let (f, first) ← holding [ov] (getMethod ov "__init__" pl)
        callWith p4 f first (backTo p4 (starEach [.Name x p3] (ksEnv qual scope L fI (.ref cda) cc))) []))
    (hcode : K.lookup cda = some ⟨ccl, cdd, .fields vs, ccs⟩) (hvs : vs[2]? = some (.str file tf)) (hfile : ((P.main.file : Str) == file) = true) (hcc : K.lookup cc = some ⟨cl, cld, .cell (some (.ref C)), csl⟩)
    (top : (P.main.scope.names.lookup ("super" : Str)).isSome = false) (xs : x ≠ "self" ∧ (x == ("__debug__" : Str)) = false)
    (hcl : clsIn K C = some cd) (hdi : cd.hasDict = true) (hm : refsVE cd.mro = true)
    (sub : mroIn K C (.ref C) = some true) (ho : nsIn K cStatics "thirdparty.any" = some none) (sup : ks_superIn K C C "__init__" = some (some (.builtin "ValueError.__init__")))
    (ve : subIn K (.ref C) (.type "ValueError") = some true) (nw : excInitIn K C veTail "ValueError.__new__" = true) (sa : findIn K (.ref C) "__setattr__" = some (some (.builtin "object.__setattr__"))) (no : findIn K (.ref C) fld = some none)
    (fn : typeIn K (.ref fI) = some (.type "function")) (exC : subIn K (.ref C) (.type "BaseException") = some true) (tyC : typeIn K (.ref C) = some (.type "type")) (kC : keepIn K (.ref C) = true) : XClsW K P C fI x fld := by
  subst hb
  exact ⟨⟨⟨oc, od, qual, params, scope, dV, kV, doc, pm, an, cda, ct, cc, osl, p0, p1, p2, p3, p4, p5, p6, p7, p8, p9, ar, ccl, cdd, vs, ccs, file, tf, cl, cld, csl, lk, hcd, hpar, har, hbd, hsc, hsh, hcode, hvs, hfile, hcc⟩, top, xs, ⟨cd, hcl, hdi, hm⟩, sub, ho, sup, ve, nw, sa, no⟩, at_, fn, exC, tyC, kC⟩
theorem lk_cons1 {B : Bs} {te : TE} {t : DE} (l1 : LkE B te t) : LkA B (tCons te tNil) (dCons t dNil) := fun ρ σ G H Q R s w h k => by
  refine l1 ρ σ G H _ _ s w h fun x v G1 H1 r1 w1 f1 q1 => ?_
  exact k _ _ G1 H1 (RpL.cons r1 RpL.nil) w1 f1 q1
/-- C(x=e) as a value -/
theorem pd_exnW {X : DCx} {c x fld : Str} {C fI : Addr} {p pos kp : Pos} {e : Expr} {te : DE} (T : XClsW X.K X.prog C fI x fld) (hr : Room 2 X.A) (hg : Gl X c) (hm : X.mg c = some (.ref C)) (hn : ClsAt X.K c C) (hsup : X.mg "super" = none) (he0 : PD X e te)
    (hdb : (c == ("__debug__" : Str)) = false := by decide) (hall : (backToKw pos (keywordEach [⟨some x, e, kp⟩] X.env)).all (·.1.isSome) = true := by rfl) (hks : (backToKw pos (keywordEach [⟨some x, e, kp⟩] X.env)).filterMap (·.1) = [x] := by rfl)
    (hpl : ((backTo pos (starEach [] X.env)).any (·.1) || (backToKw pos (keywordEach [⟨some x, e, kp⟩] X.env)).any (·.1.isNone)) = false := by rfl) :
    PD X (.Call (.Name c p) [] [⟨some x, e, kp⟩] pos) (dExn c fld (dCons te dNil)) := by
  obtain ⟨t, pe, le⟩ := he0
  exact ⟨_, pe_of_pmk (pmk_xW T hr hg hm hsup pe hdb hall hks hpl), lk_exn hn (lk_cons1 le)⟩
end FD

/-! FIp: an own exception over IndexError made by a keyword. Printed by mkfip.py of FIo. -/
namespace FD
open PySem PySem.W PySem.Calls PyProof.Rows L2 PySem.HandSPX
open PySem PySem.W PySem.Calls PyProof.Rows L2 PySem.HandSPX
open PySem PySem.W PySem.Calls PyProof.Rows L2 PySem.HandSPX
section
variable {prog : Program} {w : World} {A : Around} {R : Result → Shared → Prop} {hp : Heap} {g : Array GenState} {dr : Drawn} {t : Nat} {os : OsState} {K : PySem.W.Frag} {mg : Str → Option Value} {base : Heap}
/-- what the written part tells of the class C and of its __init__ at fI -/
structure XInitWI (K : PySem.W.Frag) (P : Program) (C fI : Addr) (x fld : Str) : Prop where
  fn : ∃ (oc : Value) (od : Option Addr) (qual : Str) (params : Arguments) (scope : Scope) (dV kV doc pm : Value) (an : Option Addr) (cda : Addr) (ct : Value) (cc : Addr) (osl : Array (Option Value)) (p0 p1 p2 p3 p4 p5 p6 p7 p8 p9 : Pos) (ar : Arg) (ccl : Value) (cdd : Option Addr) (vs : Array Value) (ccs : Array (Option Value)) (file : Str) (tf : Tok) (cl : Value) (cld : Option Addr) (csl : Array (Option Value)),
    K.lookup fI = some ⟨oc, od, .func (ksFn "__init__" qual params [.Expr (.Call (.Attribute (.Call (.Name "super" p0) [] [] p1) "__init__" p2) [.Name x p3] [] p4) p5, .Assign [.Attribute (.Name "self" p6) fld p7] (.Name x p8) p9] scope dV kV doc pm an (.ref cda) ct cc), osl⟩ ∧
    codeIn K (.ref cda) qual = true ∧ (params.posonlyargs ++ params.args).head? = some ar ∧ ar.arg = "self" ∧
    (∀ a u, bindArgs (ksFn "__init__" qual params [.Expr (.Call (.Attribute (.Call (.Name "super" p0) [] [] p1) "__init__" p2) [.Name x p3] [] p4) p5, .Assign [.Attribute (.Name "self" p6) fld p7] (.Name x p8) p9] scope dV kV doc pm an (.ref cda) ct cc) ⟨[a], [(x, u)]⟩ = pure [(("self" : Str), a), (x, u)]) ∧
    (scope.names.lookup ("super" : Str) = some .globalImplicit ∧ scope.names.lookup ("__class__" : Str) = some .free ∧ scope.names.lookup ("self" : Str) = some .local ∧ scope.names.lookup x = some .local ∧ scope.kind = .function ∧ (∀ y ∈ scope.names, y.2 ≠ .cell) ∧ scope.isCoroutine = false ∧ scope.isGenerator = false) ∧
    (∀ L, interactive (ksEnv qual scope L fI (.ref cda) cc) = false ∧ swapsWith (.Call (.Attribute (.Call (.Name "super" p0) [] [] p1) "__init__" p2) [.Name x p3] [] p4) none p5.line (ksEnv qual scope L fI (.ref cda) cc) = pure false ∧ swapsWith (.Name x p8) (some (.Attribute (.Name "self" p6) fld p7)) p9.line (ksEnv qual scope L fI (.ref cda) cc) = pure false ∧
      ∃ pl : Sem Bool, eval (.Call (.Attribute (.Call (.Name "super" p0) [] [] p1) "__init__" p2) [.Name x p3] [] p4) (ksEnv qual scope L fI (.ref cda) cc) = (do
        let ov ← attributeBase (.Call (.Name "super" p0) [] [] p1) "__init__" (ksEnv qual scope L fI (.ref cda) cc) (eval (.Call (.Name "super" p0) [] [] p1) (ksEnv qual scope L fI (.ref cda) cc))
        standAt p2.atName
        let (f, first) ← holding [ov] (getMethod ov "__init__" pl)
        callWith p4 f first (backTo p4 (starEach [.Name x p3] (ksEnv qual scope L fI (.ref cda) cc))) [])) ∧
    K.lookup cda = some ⟨ccl, cdd, .fields vs, ccs⟩ ∧ vs[2]? = some (.str file tf) ∧ ((P.main.file : Str) == file) = true ∧ K.lookup cc = some ⟨cl, cld, .cell (some (.ref C)), csl⟩
  top : (P.main.scope.names.lookup ("super" : Str)).isSome = false
  xs : x ≠ "self" ∧ (x == ("__debug__" : Str)) = false
  cls : ∃ cd, clsIn K C = some cd ∧ cd.hasDict = true ∧ refsIE cd.mro = true
  sub : mroIn K C (.ref C) = some true
  ho : nsIn K cStatics "thirdparty.any" = some none
  sup : ks_superIn K C C "__init__" = some (some (.builtin "IndexError.__init__"))
  ve : subIn K (.ref C) (.type "IndexError") = some true
  nw : excInitIn K C ieTail "IndexError.__new__" = true
  sa : findIn K (.ref C) "__setattr__" = some (some (.builtin "object.__setattr__"))
  no : findIn K (.ref C) fld = some none
theorem xi_runWI {C fI a t0 : Addr} {x fld : Str} {u : Value} (T : XInitWI K prog C fI x fld) (MO : Mod K mg base) (bk : ∀ b o, base.get? b = some o → hp.get? b = some o) (hsuper : mg "super" = none) (hroom : A.depth < recursionLimit) (hab : base.get? a = none) (ha : hp.get? a = some (excO C t0))
    (hq : ∀ h' tk' dx t1, (∀ b o, b ≠ a → hp.get? b = some o → h'.get? b = some o) → hp.objs.size ≤ dx → h'.get? a = some ({ cls := .ref C, dict := some dx, data := .fields #[.ref t1, .none, .none, .none, .bool false, .none] } : Obj) → h'.Ns1 dx (fun y => if y = fld then some u else none) → R (.ok (.ret .none)) ⟨h', g, dr, tk', os⟩) :
    codeAny (model prog w) A (.call (.ref fI) ⟨[.ref a], [(x, u)]⟩) R ⟨hp, g, dr, t, os⟩ := by
  obtain ⟨oc, od, qual, params, scope, dV, kV, doc, pm, an, cda, ct, cc, osl, p0, p1, p2, p3, p4, p5, p6, p7, p8, p9, ar, ccl, cdd, vs, ccs, file, tf, cl, cld, csl, lk, hcd, hpar, har, hbd, ⟨hks, hkc, hka, hkx, hk, hcell, hco, hgen⟩, hsh, hcode, hvs, hfile, hcc⟩ := T.fn
  obtain ⟨cd, hcl, hdi, hmro⟩ := T.cls
  have KX : K.In hp := MO.kin.keeps bk
  have hxs := T.xs
  refine ks_codeAny_call_defAt (s := ⟨hp, g, dr, t, os⟩) (binds := [(("self" : Str), .ref a), (x, u)]) hroom (KX _ _ lk) rfl (MO.nolimit.keeps bk) (codeRec_of KX hcd) rfl (BindsTo.of_eq (hbd _ _)) hcell (fun y hy => ?_) (fun h1 hns k1 => ?_) hco hgen hk
  · simp only [List.mem_cons, List.not_mem_nil, or_false] at hy
    rcases hy with rfl | rfl
    · exact hka
    · exact hkx
  have KX1 : K.In h1 := KX.keeps k1
  have bk1 : ∀ b o, base.get? b = some o → h1.get? b = some o := fun b o e => k1 b o (bk b o e)
  have ha1 := k1 _ _ ha
  have I1 : InstAt h1 a (excO C t0) C none := ⟨ha1, rfl, rfl, trivial⟩
  obtain ⟨mb, hb1, hb2⟩ := MO.blt
  obtain ⟨oD, hD1, hD2⟩ : ∃ oD, h1.get? C = some oD ∧ oD.data = .cls cd := by
    have hcl' := hcl
    unfold clsIn at hcl'
    split at hcl'
    · rename_i c d cd' sl ho
      cases hcl'
      exact ⟨_, KX1 _ _ ho, rfl⟩
    · cases hcl'
  obtain ⟨hi, hs1, hs2, pl, he⟩ := hsh hp.objs.size
  show PySem.wpAt (model prog w) (A.deeper (ksEnv qual scope hp.objs.size fI (.ref cda) cc)) (.func _ (ksEnv qual scope hp.objs.size fI (.ref cda) cc)) (execs _ (ksEnv qual scope hp.objs.size fI (.ref cda) cc)) _ _ _
  refine ks_wpAt_execs_cons (ks_wpAt_Expr_any (ks_wpAt_MethodCall (pl := pl) ?_ he) hi hs1)
  refine ks_wpAt_super_base (ar := ar) hks hkc rfl rfl (KX1 _ _ lk) rfl hpar rfl (KX1 _ _ hcode) rfl hvs hfile T.top ?_
  refine ks_loadName_global hk hks (loadGlobal_builtin (MO.glob.keeps bk1) hsuper (hb1.keeps bk1) ((hb2 _ (by decide +kernel)).trans PyProof.Rows.Boot.«super») ⟨rfl, ?_⟩)
  refine wpAny_loadName_free hk hkc rfl ⟨_, KX1 _ _ hcc, rfl⟩ ?_
  refine wpAny_loadName_local hk (by rw [har]; exact hka) hns (by rw [har]; show List.lookup ("self" : Str) [(x, u), (("self" : Str), Value.ref a)] = some (Value.ref a); rw [List.lookup_cons, beq_eq_false_iff_ne.mpr (Ne.symm hxs.1)]; rfl) ?_
  refine ks_wpAny_isType_cls hD1 hD2 ⟨rfl, ?_⟩
  refine ks_wpAny_call_super hD1 hD2 ha1 rfl (fun c e => by cases e) (looks_mroIn KX1 T.sub) (fun h2 e2 k2 => ?_)
  have KX2 : K.In h2 := KX1.keeps k2
  have I2 : InstAt h2 a (excO C t0) C none := ⟨k2 _ _ ha1, rfl, rfl, trivial⟩
  have hsup := T.sup
  unfold ks_superIn at hsup
  rw [hcl] at hsup
  refine kxs_getMethod kxs_IndexError e2 (looks_opaque KX2 T.ho) (l₀ := cd.mro) (fun A Q E s k q => wpAny_bind ((looks_clsIn KX2 hcl) A _ E s k (wpAny_pure q))) rfl KX2 hsup (I2.type.andThen (looks_subIn KX2 T.ve)) (ks_ne KX2 I2 hcl) rfl ?_
  have k3 : ∀ b o, h2.get? b = some o → (h2.push (kxs_mw "IndexError.__init__" a)).get? b = some o := fun b o e => Heap.get?_push_of_some _ e
  have hmw : (h2.push (kxs_mw "IndexError.__init__" a)).get? h2.objs.size = some (kxs_mw "IndexError.__init__" a) := Heap.get?_push_at rfl rfl
  generalize hh3 : h2.push (kxs_mw "IndexError.__init__" a) = h3 at k3 hmw
  have hlx : List.lookup x [(x, u), (("self" : Str), Value.ref a)] = some u := by rw [List.lookup_cons, beq_self_eq_true]
  have ns3 : h3.Ns hp.objs.size (fun y => List.lookup y [(x, u), (("self" : Str), Value.ref a)]) := hns.keeps fun b o e => k3 b o (k2 b o e)
  refine kxs_callWith (i := "IndexError.__init__") (x := a) rfl (evalArgs_plain (spliced_more (wpAny_Name (wpAny_loadName_local (env := ksEnv qual scope hp.objs.size fI (.ref cda) cc) hk hkx ns3 hlx (spliced_none ⟨hmw, ?_⟩)) hxs.2)))
  have ha3 : h3.get? a = some (excO C t0) := k3 _ _ (k2 _ _ ha1)
  obtain ⟨nm, N', qn, bs', bm, hdct, sn, sub', ab, col, dd, k0', k1', k2', k3', k5', hC3, hT3⟩ := excInit_of ((KX2).keeps k3) T.nw
  refine wpAny_call (codeAny_of_tree ?_)
  show wpAny _ (Around.in1 _) (callAny (.ref _) ⟨[u], []⟩) _ _ _
  simp only [callAny]
  refine wpAny_bind (wpAny_load hmw ?_)
  simp only [kxs_mw, show (Value.type "method-wrapper" == Value.type "method" || Value.type "method-wrapper" == Value.type "builtin_function_or_method" || Value.type "method-wrapper" == Value.type "method-wrapper") = true by decide, if_true]
  refine KFB.if_so (by decide) ?_
  refine wpAny_bind (check_bound_init F.excBase_IndexError.toExcCallFacts hC3 ha3 rfl ?_)
  refine wpAny_bind (wpAny_pure (wpAny_pure ?_))
  refine ⟨plainId_quiet F.excBase_IndexError.init.plain _, codeAny_builtin F.excBase_IndexError.initEntry ?_⟩
  refine exc_init_tree (cls := .ref C) (t0 := t0) (dv := none) (c2 := .none) (c3 := .none) (b4 := .bool false) ha3 (by simp [sizeLine]) fun h4 k4 e4 _ => ?_
  have ns4 : h4.Ns hp.objs.size (fun y => List.lookup y [(x, u), (("self" : Str), Value.ref a)]) := by
    obtain ⟨o, es, ep, e, r⟩ := ns3
    refine ⟨o, es, ep, k4 _ _ (fun z => ?_) e, r⟩
    exact absurd (Heap.lt_size ha) (by rw [← z]; exact Nat.lt_irrefl _)
  show PySem.wpAt _ _ _ (execs [.Assign [.Attribute (.Name "self" p6) fld p7] (.Name x p8) p9] (ksEnv qual scope hp.objs.size fI (.ref cda) cc)) _ _ _
  refine ks_wpAt_execs_cons (ks_wpAt_Assign_Attr ?_ hs2)
  refine wpAt_of_wpAny (wpAny_Name (wpAny_loadName_local hk hkx ns4 hlx ?_) hxs.2)
  refine wpAny_Name (wpAny_loadName_local hk hka ns4 (by show List.lookup ("self" : Str) [(x, u), (("self" : Str), Value.ref a)] = some (Value.ref a); rw [List.lookup_cons, beq_eq_false_iff_ne.mpr (Ne.symm hxs.1)]; rfl) ?_) (by decide)
  have kk : ∀ b o, b ≠ a → hp.get? b = some o → h4.get? b = some o := fun b o hb e => k4 b o hb (k3 b o (k2 b o (k1 b o e)))
  have hcl4 : ∀ b o, base.get? b = some o → b ≠ a := fun b o e z => by rw [z, hab] at e; cases e
  have KX4 : K.In h4 := MO.kin.keeps fun b o e => kk b o (hcl4 b o e) (bk b o e)
  refine set_plain KX4 (ox := excO C h3.objs.size) (od := none) ⟨e4, rfl, rfl, trivial⟩ T.sa ?_
  refine exc_osaI KX4 e4 hcl hmro hdi T.no (fun h5 tk5 dx k5 dn dne hx5 hn5 => ?_)
  refine wpAt_of_wpAny (wpAny_execs_nil ?_)
  refine hq h5 tk5 dx _ (fun b o hb e => k5 b o hb (kk b o hb e)) ?_ hx5 hn5
  exact Nat.le_trans (Nat.le_of_lt ns4.lt) dn
end
open PySem PySem.Spec PyProof.Rows L2
structure XClsWI (K : PySem.W.Frag) (P : Program) (C fI : Addr) (x fld : Str) : Prop where
  ini : XInitWI K P C fI x fld
  at_ : PySem.W.findIn K (.ref C) "__init__" = some (some (.ref fI))
  fn : PySem.W.typeIn K (.ref fI) = some (.type "function")
  exC : PySem.W.subIn K (.ref C) (.type "BaseException") = some true
  tyC : PySem.W.typeIn K (.ref C) = some (.type "type")
  kC : PySem.W.keepIn K (.ref C) = true
theorem pmk_xWI {X : Cx} {c x fld : Str} {C fI : Addr} {p pos kp : Pos} {e : Expr} {te : TE} (T : XClsWI X.K X.prog C fI x fld) (hr : Room 2 X.A) (hg : Gl X c) (hm : X.mg c = some (.ref C)) (hsup : X.mg "super" = none) (he0 : PE X e te)
    (hdb : (c == ("__debug__" : Str)) = false := by decide) (hall : (backToKw pos (keywordEach [⟨some x, e, kp⟩] X.env)).all (·.1.isSome) = true := by rfl) (hks : (backToKw pos (keywordEach [⟨some x, e, kp⟩] X.env)).filterMap (·.1) = [x] := by rfl)
    (hpl : ((backTo pos (starEach [] X.env)).any (·.1) || (backToKw pos (keywordEach [⟨some x, e, kp⟩] X.env)).any (·.1.isNone)) = false := by rfl) :
    PMk X (.Call (.Name c p) [] [⟨some x, e, kp⟩] pos) (tMkX C fld (tCons te tNil)) := by
  intro pins s σ H Q I h
  refine wpAny_Call_Name_kw (ld_glob I hg hm ?_ hdb)
  refine PySem.W.callWith_KW0 (h₀ := X.base) I.ok.mod.kin T.kC hall ?_ hpl
  refine thn ((pk_cons he0 pk_nil).run pos pins s σ H _ I h) fun us s1 ⟨vs, H1, I1, r1, v, ev, q1⟩ => ⟨I1.kIn, ?_⟩
  rw [hks]
  subst ev
  cases r1 with
  | @cons _ u _ ur ru rr =>
  cases rr
  show wpAny _ _ (call (.ref C) [] [(x, u)]) _ _ _
  obtain ⟨hp, g, dr, tk, os⟩ := s1
  obtain ⟨nm, N', qn, bs', bm, hdct, sn, sub', ab, col, dd, k0', k1', k2', k3', k5', hC, hT⟩ := PySem.W.excInit_of I1.kIn T.ini.nw
  have kk : ∀ b o, hp.get? b = some o → ((hp.push (PySem.W.kdv_tup [])).push (PySem.HandSPX.excO C hp.objs.size)).get? b = some o := fun b o e => Heap.get?_push_of_some _ (Heap.get?_push_of_some _ e)
  have hget : ((hp.push (PySem.W.kdv_tup [])).push (PySem.HandSPX.excO C hp.objs.size)).get? (hp.objs.size + 1) = some (PySem.HandSPX.excO C hp.objs.size) := by heap_get
  have lt0 : ∀ {b : Addr} {o : Obj}, hp.get? b = some o → b ≠ hp.objs.size + 1 := fun {b o} z y => by
    have := Heap.lt_size z
    rw [y] at this
    exact absurd this (Nat.not_lt.mpr (Nat.le_succ _))
  refine wpAny_call (call_own_kw (kw := [(x, u)]) F.excBase_IndexError hT hC (PySem.W.looks_findIn I1.kIn T.at_) (fun self => PySem.W.bind_fn I1.kIn self T.fn) ?_)
  refine xi_runWI T.ini I1.mod (fun b o e => kk b o (I1.bk b o e)) hsup (hr.make C [] [(x, u)]).depth ?_ hget fun h' tk' dx t1 k5 dn hx hn => ?_
  · cases z : X.base.get? (hp.objs.size + 1) with
    | none => rfl
    | some o => exact absurd rfl (lt0 (I1.bk _ _ z))
  have hda : dx ≠ hp.objs.size + 1 := fun z => by
    have := Heap.lt_size hget
    rw [z] at dn
    exact absurd this (Nat.not_lt.mpr dn)
  have hsz : hp.objs.size ≤ dx := by
    have h1 : hp.objs.size + 1 < ((hp.push (PySem.W.kdv_tup [])).push (PySem.HandSPX.excO C hp.objs.size)).objs.size := Heap.lt_size hget
    exact Nat.le_trans (Nat.le_of_lt (Nat.lt_trans (Nat.lt_succ_self _) h1)) dn
  obtain ⟨G, g1', g2'⟩ := restrict h' fun b => decide (b ≠ hp.objs.size + 1)
  have gk : ∀ b, b ≠ hp.objs.size + 1 → G.get? b = h'.get? b := fun b hb => g1' b (decide_eq_true hb)
  have ge : G.get? (hp.objs.size + 1) = none := g2' _ (by simp)
  have hdn : H1 dx = none := I1.hok.fresh hsz
  have hq := q1 dx hdn
  have J : Inv X pins σ (L2.upd H1 dx (.xd [(fld, v)])) ⟨G, g, dr, tk', os⟩ := by
    refine I1.laid (t' := tk') (a := dx) (o := .xd [(fld, v)]) (h' := G) (fun b o e => ?_) hsz ?_
    · rw [gk b (lt0 e)]
      exact k5 b o (lt0 e) (kk b o e)
    · refine ⟨_, hn.at fun o y => (gk dx hda).trans y, fun f => ?_⟩
      show RelO (List.lookup f [(fld, v)]) (if f = fld then some u else none)
      by_cases hf : f = fld
      · subst hf
        rw [List.lookup_cons, beq_self_eq_true, if_pos rfl]
        exact ru
      · rw [List.lookup_cons, beq_eq_false_iff_ne.mpr hf, if_neg hf]
        exact True.intro
  refine ⟨rfl, hp.objs.size + 1, _, _, ⟨G, g, dr, tk', os⟩, _, .ref C, some dx, rfl, J, fun b o z => ?_, ge, hx, ⟨rfl, rfl⟩, rfl, rfl, ?_, rfl, I1.bare, raises_own T.exC T.tyC, hq⟩
  · by_cases hb : b = hp.objs.size + 1
    · rw [hb, ge] at z; cases z
    · exact (gk b hb).symm.trans z
  · rw [upd_ne (Ne.symm hda)]
    exact I1.hok.fresh (Nat.le_succ _)
open PySem PySem.W PySem.Calls PyProof.Rows L2 PySem.HandSPX
theorem xcls_mkWI {K : PySem.W.Frag} {P : Program} {C fI : Addr} {x fld : Str} {oc : Value} {od : Option Addr} {qual : Str} {params : Arguments} {body : List Stmt} {scope : Scope} {dV kV doc pm : Value} {an : Option Addr} {cda : Addr} {ct : Value} {cc : Addr} {osl : Array (Option Value)} {p0 p1 p2 p3 p4 p5 p6 p7 p8 p9 : Pos} {ar : Arg} {ccl : Value} {cdd : Option Addr} {vs : Array Value} {ccs : Array (Option Value)} {file : Str} {tf : Tok} {cl : Value} {cld : Option Addr} {csl : Array (Option Value)} {cd : ClassData}
    (at_ : findIn K (.ref C) "__init__" = some (some (.ref fI)))
    (lk : K.lookup fI = some ⟨oc, od, .func (ksFn "__init__" qual params body scope dV kV doc pm an (.ref cda) ct cc), osl⟩)
    (hcd : codeIn K (.ref cda) qual = true)
    (hb : body = [.Expr (.Call (.Attribute (.Call (.Name "super" p0) [] [] p1) "__init__" p2) [.Name x p3] [] p4) p5, .Assign [.Attribute (.Name "self" p6) fld p7] (.Name x p8) p9])
    (hpar : (params.posonlyargs ++ params.args).head? = some ar) (har : ar.arg = "self")
    (hbd : ∀ a u, bindArgs (ksFn "__init__" qual params body scope dV kV doc pm an (.ref cda) ct cc) ⟨[a], [(x, u)]⟩ = pure [(("self" : Str), a), (x, u)])
    (hsc : scope.names.lookup ("super" : Str) = some .globalImplicit ∧ scope.names.lookup ("__class__" : Str) = some .free ∧ scope.names.lookup ("self" : Str) = some .local ∧ scope.names.lookup x = some .local ∧ scope.kind = .function ∧ (∀ y ∈ scope.names, y.2 ≠ .cell) ∧ scope.isCoroutine = false ∧ scope.isGenerator = false)
    (hsh : ∀ L, interactive (ksEnv qual scope L fI (.ref cda) cc) = false ∧ swapsWith (.Call (.Attribute (.Call (.Name "super" p0) [] [] p1) "__init__" p2) [.Name x p3] [] p4) none p5.line (ksEnv qual scope L fI (.ref cda) cc) = pure false ∧ swapsWith (.Name x p8) (some (.Attribute (.Name "self" p6) fld p7)) p9.line (ksEnv qual scope L fI (.ref cda) cc) = pure false ∧
      ∃ pl : Sem Bool, eval (.Call (.Attribute (.Call (.Name "super" p0) [] [] p1) "__init__" p2) [.Name x p3] [] p4) (ksEnv qual scope L fI (.ref cda) cc) = (do
        let ov ← attributeBase (.Call (.Name "super" p0) [] [] p1) "__init__" (ksEnv qual scope L fI (.ref cda) cc) (eval (.Call (.Name "super" p0) [] [] p1) (ksEnv qual scope L fI (.ref cda) cc))
        standAt p2.atName
        let (f, first) ← holding [ov] (getMethod ov "__init__" pl)
        callWith p4 f first (backTo p4 (starEach [.Name x p3] (ksEnv qual scope L fI (.ref cda) cc))) []))
    (hcode : K.lookup cda = some ⟨ccl, cdd, .fields vs, ccs⟩) (hvs : vs[2]? = some (.str file tf)) (hfile : ((P.main.file : Str) == file) = true) (hcc : K.lookup cc = some ⟨cl, cld, .cell (some (.ref C)), csl⟩)
    (top : (P.main.scope.names.lookup ("super" : Str)).isSome = false) (xs : x ≠ "self" ∧ (x == ("__debug__" : Str)) = false)
    (hcl : clsIn K C = some cd) (hdi : cd.hasDict = true) (hm : refsIE cd.mro = true)
    (sub : mroIn K C (.ref C) = some true) (ho : nsIn K cStatics "thirdparty.any" = some none) (sup : ks_superIn K C C "__init__" = some (some (.builtin "IndexError.__init__")))
    (ve : subIn K (.ref C) (.type "IndexError") = some true) (nw : excInitIn K C ieTail "IndexError.__new__" = true) (sa : findIn K (.ref C) "__setattr__" = some (some (.builtin "object.__setattr__"))) (no : findIn K (.ref C) fld = some none)
    (fn : typeIn K (.ref fI) = some (.type "function")) (exC : subIn K (.ref C) (.type "BaseException") = some true) (tyC : typeIn K (.ref C) = some (.type "type")) (kC : keepIn K (.ref C) = true) : XClsWI K P C fI x fld := by
  subst hb
  exact ⟨⟨⟨oc, od, qual, params, scope, dV, kV, doc, pm, an, cda, ct, cc, osl, p0, p1, p2, p3, p4, p5, p6, p7, p8, p9, ar, ccl, cdd, vs, ccs, file, tf, cl, cld, csl, lk, hcd, hpar, har, hbd, hsc, hsh, hcode, hvs, hfile, hcc⟩, top, xs, ⟨cd, hcl, hdi, hm⟩, sub, ho, sup, ve, nw, sa, no⟩, at_, fn, exC, tyC, kC⟩
/-- C(x=e) as a value -/
theorem pd_exnWI {X : DCx} {c x fld : Str} {C fI : Addr} {p pos kp : Pos} {e : Expr} {te : DE} (T : XClsWI X.K X.prog C fI x fld) (hr : Room 2 X.A) (hg : Gl X c) (hm : X.mg c = some (.ref C)) (hn : ClsAt X.K c C) (hsup : X.mg "super" = none) (he0 : PD X e te)
    (hdb : (c == ("__debug__" : Str)) = false := by decide) (hall : (backToKw pos (keywordEach [⟨some x, e, kp⟩] X.env)).all (·.1.isSome) = true := by rfl) (hks : (backToKw pos (keywordEach [⟨some x, e, kp⟩] X.env)).filterMap (·.1) = [x] := by rfl)
    (hpl : ((backTo pos (starEach [] X.env)).any (·.1) || (backToKw pos (keywordEach [⟨some x, e, kp⟩] X.env)).any (·.1.isNone)) = false := by rfl) :
    PD X (.Call (.Name c p) [] [⟨some x, e, kp⟩] pos) (dExn c fld (dCons te dNil)) := by
  obtain ⟨t, pe, le⟩ := he0
  exact ⟨_, pe_of_pmk (pmk_xWI T hr hg hm hsup pe hdb hall hks hpl), lk_exn hn (lk_cons1 le)⟩
end FD

/-! FIq: an own exception over KeyError made by a keyword. Printed by mkfip.py of FIo. -/
namespace FD
open PySem PySem.W PySem.Calls PyProof.Rows L2 PySem.HandSPX
section
variable {M : Model} {A : Around} {E : Value → Shared → Prop} {h : Heap} {g : Array GenState} {d : Drawn} {t : Nat} {os : OsState}
variable {nm q : Str} {C N : Addr} {bs bm : List Value} {hdct : Bool} {sn : List Str} {sub : List Value} {ab : Bool} {col : Option Bool} {dd : Option Addr} {k0 k1 k2 k3 k5 : Option Value} {kw : List (Str × Value)}
theorem check_newK_kw (hT : ∀ X : String, bm.contains (.type X) = keTail.contains (.type X)) {Q : Unit → Shared → Prop}
    (hC : h.get? C = some (excClassObj nm q C N bs bm hdct sn sub ab col dd k0 k1 k2 k3 k5 "LookupError.__new__")) (hq : Q () ⟨h, g, d, t, os⟩) : wpAny M A (checkBuiltinCall "LookupError.__new__" ⟨[.ref C], kw⟩) Q E ⟨h, g, d, t, os⟩ := by
  have hcont : (Value.ref C :: bm).contains (.type "LookupError") = true := ke_has hT true (by decide +kernel)
  have hstar := PySem.F.excBase_LookupError.noStar
  simp only [checkBuiltinCall, PySem.F.excBase_LookupError.newKind, PySem.F.excBase_LookupError.newSplit, PySem.F.excBase_LookupError.newRow]
  repeat (first | refine wpAny_loadPart_at hC ?_ | (refine wpAny_isSubtype_exc hC ?_; rw [hcont]) | refine wpAny_staticBase_exc hC ?_ | refine wpAny_madeBy_exc hC ?_ | simp only [bne_self_eq_false, Bool.false_eq_true, if_false] | wp_step)
  exact hq
end
section
variable {prog : Program} {w : World} {A : Around} {E : Value → Shared → Prop} {R : Result → Shared → Prop} {h : Heap} {g : Array GenState} {d : Drawn} {t : Nat} {os : OsState}
variable {nm q : Str} {C N : Addr} {bs bm : List Value} {hdct : Bool} {sn : List Str} {sub : List Value} {ab : Bool} {col : Option Bool} {dd : Option Addr} {k0 k1 k2 k3 k5 : Option Value} {kw : List (Str × Value)}
theorem newK_kw (hT : ∀ X : String, bm.contains (.type X) = keTail.contains (.type X))
    (hC : h.get? C = some (excClassObj nm q C N bs bm hdct sn sub ab col dd k0 k1 k2 k3 k5 "LookupError.__new__"))
    (hq : R (.ok (.ret (.ref (h.objs.size + 1)))) ⟨(h.push { cls := .type "tuple", data := .seq #[] }).push
      { cls := .ref C, data := .fields #[.ref h.objs.size, .none, .none, .none, .bool false, .none] }, g, d, t, os⟩) :
    codeAny (model prog w) A (.builtin "LookupError.__new__" ⟨[.ref C], kw⟩) R ⟨h, g, d, t, os⟩ := by
  have hends := PySem.F.excBase_LookupError.ends
  have hcB : (Value.ref C :: bm).contains (.type "LookupError") = true := ke_has hT true (by decide +kernel)
  have hcA : (Value.ref C :: bm).contains (.type "AttributeError") = false := ke_has hT false (by decide +kernel)
  have hcN : (Value.ref C :: bm).contains (.type "NameError") = false := ke_has hT false (by decide +kernel)
  refine codeAny_builtinAt PySem.F.excBase_LookupError.entry ?_
  unfold Builtin.«BaseException.__new__»
  refine PySem.wpAt_bind ?_
  show PySem.wpAt _ _ _ (stack >>= _) _ _ _
  refine PySem.wpAt_bind (PySem.wpAt_stack fun p below => PySem.wpAt_of_wpAny ?_)
  wp_walk
  refine PySem.wpAt_of_wpAny ?_
  rw [PySem.F.excBase_LookupError.owner]
  repeat (first | with_reducible refine wpAny_madeHere_exc PySem.F.excBase_LookupError.canon hC ?_ | with_reducible refine wpAny_loadPart_at hC ?_ | (with_reducible refine wpAny_isSubtype_exc hC ?_; first | rw [hcB] | rw [hcA] | rw [hcN]) | wp_step)
  show R _ _
  rw [Heap.size_push]
  exact hq
theorem type_callK_kw (hT : ∀ X : String, bm.contains (.type X) = keTail.contains (.type X)) {fI : Addr} {Q : Fin → Shared → Prop}
    (hC : h.get? C = some (excClassObj nm q C N bs bm hdct sn sub ab col dd k0 k1 k2 k3 k5 "LookupError.__new__"))
    (hi : W.Looks (model prog w) h (typeLookup (.ref C) "__init__") (some (.ref fI))) (hb : ∀ self, W.Looks (model prog w) h (bindSpecial (.ref fI) self) (.ref fI, [self]))
    (hq : codeAny (model prog w) A (.call (.ref fI) ⟨[.ref (h.objs.size + 1)], kw⟩)
      (fun r s' => match r with | .ok (.ret v) => v = .none ∧ Q (.done (.ret (.ref (h.objs.size + 1)))) s' | .ok _ => False | .error e => E e s')
      ⟨(h.push (W.kdv_tup [])).push (excO C h.objs.size), g, d, t, os⟩) :
    wpAny (model prog w) A (Builtin.«type.__call__» ⟨[.ref C], kw⟩) Q E ⟨h, g, d, t, os⟩ := by
  repeat (first | with_reducible refine wpAny_loadPart_at hC ?_ | with_reducible refine wpAny_madeBy_exc hC ?_ | wp_step)
  refine codeAny_call_builtin_code (Code.quiet_builtin _ PySem.F.excBase_LookupError.quiet) (check_newK_kw hT hC ?_)
  refine newK_kw hT hC ?_
  show wpAny _ _ _ _ _ _
  have k : ∀ b o, h.get? b = some o → ((h.push (W.kdv_tup [])).push (excO C h.objs.size)).get? b = some o := fun b o e => Heap.get?_push_of_some _ (Heap.get?_push_of_some _ e)
  have hC₁ := k _ _ hC
  have hget : ((h.push (W.kdv_tup [])).push (excO C h.objs.size)).get? (h.objs.size + 1) = some (excO C h.objs.size) := by heap_get
  have hcC : (Value.ref C :: bm).contains (.ref C) = true := by simp
  have i1 := hi.keeps k
  have b1 := (hb (.ref (h.objs.size + 1))).keeps k
  unfold isInstance
  repeat (first | with_reducible refine wpAny_loadPart_at hget ?_ | (with_reducible refine wpAny_isSubtype_exc hC₁ ?_; rw [hcC]) | wp_step)
  show wpAny _ _ (typeLookup (.ref C) _) _ _ _
  refine i1.at ?_
  refine wpAny_holding (wpAny_bind (b1.at ?_))
  refine wpAny_bind (wpAny_call (codeAny_mono hq fun r s' z => ?_))
  rcases r with e | (v | _ | _ | _) <;> first | exact z | exact z.elim | skip
  obtain ⟨rfl, z⟩ := z
  first
    | exact wpAny_pure (wpAny_pure z)
    | (wp_walk; exact z)
theorem call_ownK_kw (hT : ∀ X : String, bm.contains (.type X) = keTail.contains (.type X)) {fI : Addr}
    (hC : h.get? C = some (excClassObj nm q C N bs bm hdct sn sub ab col dd k0 k1 k2 k3 k5 "LookupError.__new__"))
    (hi : W.Looks (model prog w) h (typeLookup (.ref C) "__init__") (some (.ref fI))) (hb : ∀ self, W.Looks (model prog w) h (bindSpecial (.ref fI) self) (.ref fI, [self]))
    (hq : codeAny (model prog w) (A.under (.builtin "type.__call__" ⟨[.ref C], kw⟩)) (.call (.ref fI) ⟨[.ref (h.objs.size + 1)], kw⟩) (W.InitBack (h.objs.size + 1) R)
      ⟨(h.push (W.kdv_tup [])).push (excO C h.objs.size), g, d, t, os⟩) :
    codeAny (model prog w) A (.call (.ref C) ⟨[], kw⟩) R ⟨h, g, d, t, os⟩ := by
  have f1 := tc_lookup
  have f2 := tc_bind (.ref C)
  have hTy : (⟨h, g, d, t, os⟩ : Shared).TypeIs (.ref C) "type" := ⟨_, hC, rfl⟩
  refine codeAny_of_tree ?_
  show wpAny _ _ (callAny (.ref C) _) _ _ _
  repeat (any_goals (first | assumption | with_reducible refine wpAny_loadPart_at hC ?_ | wp_step))
  refine ⟨rfl, ?_⟩
  refine codeAny_call_builtin_at (Code.quiet_builtin _ (by decide +kernel)) entry_typeCall (wpAny_check_type_call_sub hC (type_callK_kw hT hC hi hb ?_))
  refine codeAny_mono hq fun r s' z => ?_
  rcases r with e | (v | _ | _ | _) <;> exact z
end
open PySem PySem.W PySem.Calls PyProof.Rows L2 PySem.HandSPX
open PySem PySem.W PySem.Calls PyProof.Rows L2 PySem.HandSPX
section
variable {prog : Program} {w : World} {A : Around} {R : Result → Shared → Prop} {hp : Heap} {g : Array GenState} {dr : Drawn} {t : Nat} {os : OsState} {K : PySem.W.Frag} {mg : Str → Option Value} {base : Heap}
/-- what the written part tells of the class C and of its __init__ at fI -/
structure XInitWK (K : PySem.W.Frag) (P : Program) (C fI : Addr) (x fld : Str) : Prop where
  fn : ∃ (oc : Value) (od : Option Addr) (qual : Str) (params : Arguments) (scope : Scope) (dV kV doc pm : Value) (an : Option Addr) (cda : Addr) (ct : Value) (cc : Addr) (osl : Array (Option Value)) (p0 p1 p2 p3 p4 p5 p6 p7 p8 p9 : Pos) (ar : Arg) (ccl : Value) (cdd : Option Addr) (vs : Array Value) (ccs : Array (Option Value)) (file : Str) (tf : Tok) (cl : Value) (cld : Option Addr) (csl : Array (Option Value)),
    K.lookup fI = some ⟨oc, od, .func (ksFn "__init__" qual params [.Expr (.Call (.Attribute (.Call (.Name "super" p0) [] [] p1) "__init__" p2) [.Name x p3] [] p4) p5, .Assign [.Attribute (.Name "self" p6) fld p7] (.Name x p8) p9] scope dV kV doc pm an (.ref cda) ct cc), osl⟩ ∧
    codeIn K (.ref cda) qual = true ∧ (params.posonlyargs ++ params.args).head? = some ar ∧ ar.arg = "self" ∧
    (∀ a u, bindArgs (ksFn "__init__" qual params [.Expr (.Call (.Attribute (.Call (.Name "super" p0) [] [] p1) "__init__" p2) [.Name x p3] [] p4) p5, .Assign [.Attribute (.Name "self" p6) fld p7] (.Name x p8) p9] scope dV kV doc pm an (.ref cda) ct cc) ⟨[a], [(x, u)]⟩ = pure [(("self" : Str), a), (x, u)]) ∧
    (scope.names.lookup ("super" : Str) = some .globalImplicit ∧ scope.names.lookup ("__class__" : Str) = some .free ∧ scope.names.lookup ("self" : Str) = some .local ∧ scope.names.lookup x = some .local ∧ scope.kind = .function ∧ (∀ y ∈ scope.names, y.2 ≠ .cell) ∧ scope.isCoroutine = false ∧ scope.isGenerator = false) ∧
    (∀ L, interactive (ksEnv qual scope L fI (.ref cda) cc) = false ∧ swapsWith (.Call (.Attribute (.Call (.Name "super" p0) [] [] p1) "__init__" p2) [.Name x p3] [] p4) none p5.line (ksEnv qual scope L fI (.ref cda) cc) = pure false ∧ swapsWith (.Name x p8) (some (.Attribute (.Name "self" p6) fld p7)) p9.line (ksEnv qual scope L fI (.ref cda) cc) = pure false ∧
      ∃ pl : Sem Bool, eval (.Call (.Attribute (.Call (.Name "super" p0) [] [] p1) "__init__" p2) [.Name x p3] [] p4) (ksEnv qual scope L fI (.ref cda) cc) = (do
        let ov ← attributeBase (.Call (.Name "super" p0) [] [] p1) "__init__" (ksEnv qual scope L fI (.ref cda) cc) (eval (.Call (.Name "super" p0) [] [] p1) (ksEnv qual scope L fI (.ref cda) cc))
        standAt p2.atName
        let (f, first) ← holding [ov] (getMethod ov "__init__" pl)
        callWith p4 f first (backTo p4 (starEach [.Name x p3] (ksEnv qual scope L fI (.ref cda) cc))) [])) ∧
    K.lookup cda = some ⟨ccl, cdd, .fields vs, ccs⟩ ∧ vs[2]? = some (.str file tf) ∧ ((P.main.file : Str) == file) = true ∧ K.lookup cc = some ⟨cl, cld, .cell (some (.ref C)), csl⟩
  top : (P.main.scope.names.lookup ("super" : Str)).isSome = false
  xs : x ≠ "self" ∧ (x == ("__debug__" : Str)) = false
  cls : ∃ cd, clsIn K C = some cd ∧ cd.hasDict = true ∧ refsKE cd.mro = true
  sub : mroIn K C (.ref C) = some true
  ho : nsIn K cStatics "thirdparty.any" = some none
  sup : ks_superIn K C C "__init__" = some (some (.builtin "KeyError.__init__"))
  ve : subIn K (.ref C) (.type "KeyError") = some true
  nw : excInitIn K C keTail "LookupError.__new__" = true
  sa : findIn K (.ref C) "__setattr__" = some (some (.builtin "object.__setattr__"))
  no : findIn K (.ref C) fld = some none
theorem xi_runWK {C fI a t0 : Addr} {x fld : Str} {u : Value} (T : XInitWK K prog C fI x fld) (MO : Mod K mg base) (bk : ∀ b o, base.get? b = some o → hp.get? b = some o) (hsuper : mg "super" = none) (hroom : A.depth < recursionLimit) (hab : base.get? a = none) (ha : hp.get? a = some (excO C t0))
    (hq : ∀ h' tk' dx t1, (∀ b o, b ≠ a → hp.get? b = some o → h'.get? b = some o) → hp.objs.size ≤ dx → h'.get? a = some ({ cls := .ref C, dict := some dx, data := .fields #[.ref t1, .none, .none, .none, .bool false, .none] } : Obj) → h'.Ns1 dx (fun y => if y = fld then some u else none) → R (.ok (.ret .none)) ⟨h', g, dr, tk', os⟩) :
    codeAny (model prog w) A (.call (.ref fI) ⟨[.ref a], [(x, u)]⟩) R ⟨hp, g, dr, t, os⟩ := by
  obtain ⟨oc, od, qual, params, scope, dV, kV, doc, pm, an, cda, ct, cc, osl, p0, p1, p2, p3, p4, p5, p6, p7, p8, p9, ar, ccl, cdd, vs, ccs, file, tf, cl, cld, csl, lk, hcd, hpar, har, hbd, ⟨hks, hkc, hka, hkx, hk, hcell, hco, hgen⟩, hsh, hcode, hvs, hfile, hcc⟩ := T.fn
  obtain ⟨cd, hcl, hdi, hmro⟩ := T.cls
  have KX : K.In hp := MO.kin.keeps bk
  have hxs := T.xs
  refine ks_codeAny_call_defAt (s := ⟨hp, g, dr, t, os⟩) (binds := [(("self" : Str), .ref a), (x, u)]) hroom (KX _ _ lk) rfl (MO.nolimit.keeps bk) (codeRec_of KX hcd) rfl (BindsTo.of_eq (hbd _ _)) hcell (fun y hy => ?_) (fun h1 hns k1 => ?_) hco hgen hk
  · simp only [List.mem_cons, List.not_mem_nil, or_false] at hy
    rcases hy with rfl | rfl
    · exact hka
    · exact hkx
  have KX1 : K.In h1 := KX.keeps k1
  have bk1 : ∀ b o, base.get? b = some o → h1.get? b = some o := fun b o e => k1 b o (bk b o e)
  have ha1 := k1 _ _ ha
  have I1 : InstAt h1 a (excO C t0) C none := ⟨ha1, rfl, rfl, trivial⟩
  obtain ⟨mb, hb1, hb2⟩ := MO.blt
  obtain ⟨oD, hD1, hD2⟩ : ∃ oD, h1.get? C = some oD ∧ oD.data = .cls cd := by
    have hcl' := hcl
    unfold clsIn at hcl'
    split at hcl'
    · rename_i c d cd' sl ho
      cases hcl'
      exact ⟨_, KX1 _ _ ho, rfl⟩
    · cases hcl'
  obtain ⟨hi, hs1, hs2, pl, he⟩ := hsh hp.objs.size
  show PySem.wpAt (model prog w) (A.deeper (ksEnv qual scope hp.objs.size fI (.ref cda) cc)) (.func _ (ksEnv qual scope hp.objs.size fI (.ref cda) cc)) (execs _ (ksEnv qual scope hp.objs.size fI (.ref cda) cc)) _ _ _
  refine ks_wpAt_execs_cons (ks_wpAt_Expr_any (ks_wpAt_MethodCall (pl := pl) ?_ he) hi hs1)
  refine ks_wpAt_super_base (ar := ar) hks hkc rfl rfl (KX1 _ _ lk) rfl hpar rfl (KX1 _ _ hcode) rfl hvs hfile T.top ?_
  refine ks_loadName_global hk hks (loadGlobal_builtin (MO.glob.keeps bk1) hsuper (hb1.keeps bk1) ((hb2 _ (by decide +kernel)).trans PyProof.Rows.Boot.«super») ⟨rfl, ?_⟩)
  refine wpAny_loadName_free hk hkc rfl ⟨_, KX1 _ _ hcc, rfl⟩ ?_
  refine wpAny_loadName_local hk (by rw [har]; exact hka) hns (by rw [har]; show List.lookup ("self" : Str) [(x, u), (("self" : Str), Value.ref a)] = some (Value.ref a); rw [List.lookup_cons, beq_eq_false_iff_ne.mpr (Ne.symm hxs.1)]; rfl) ?_
  refine ks_wpAny_isType_cls hD1 hD2 ⟨rfl, ?_⟩
  refine ks_wpAny_call_super hD1 hD2 ha1 rfl (fun c e => by cases e) (looks_mroIn KX1 T.sub) (fun h2 e2 k2 => ?_)
  have KX2 : K.In h2 := KX1.keeps k2
  have I2 : InstAt h2 a (excO C t0) C none := ⟨k2 _ _ ha1, rfl, rfl, trivial⟩
  have hsup := T.sup
  unfold ks_superIn at hsup
  rw [hcl] at hsup
  refine kxs_getMethod kxs_KeyError e2 (looks_opaque KX2 T.ho) (l₀ := cd.mro) (fun A Q E s k q => wpAny_bind ((looks_clsIn KX2 hcl) A _ E s k (wpAny_pure q))) rfl KX2 hsup (I2.type.andThen (looks_subIn KX2 T.ve)) (ks_ne KX2 I2 hcl) rfl ?_
  have k3 : ∀ b o, h2.get? b = some o → (h2.push (kxs_mw "KeyError.__init__" a)).get? b = some o := fun b o e => Heap.get?_push_of_some _ e
  have hmw : (h2.push (kxs_mw "KeyError.__init__" a)).get? h2.objs.size = some (kxs_mw "KeyError.__init__" a) := Heap.get?_push_at rfl rfl
  generalize hh3 : h2.push (kxs_mw "KeyError.__init__" a) = h3 at k3 hmw
  have hlx : List.lookup x [(x, u), (("self" : Str), Value.ref a)] = some u := by rw [List.lookup_cons, beq_self_eq_true]
  have ns3 : h3.Ns hp.objs.size (fun y => List.lookup y [(x, u), (("self" : Str), Value.ref a)]) := hns.keeps fun b o e => k3 b o (k2 b o e)
  refine kxs_callWith (i := "KeyError.__init__") (x := a) rfl (evalArgs_plain (spliced_more (wpAny_Name (wpAny_loadName_local (env := ksEnv qual scope hp.objs.size fI (.ref cda) cc) hk hkx ns3 hlx (spliced_none ⟨hmw, ?_⟩)) hxs.2)))
  have ha3 : h3.get? a = some (excO C t0) := k3 _ _ (k2 _ _ ha1)
  obtain ⟨nm, N', qn, bs', bm, hdct, sn, sub', ab, col, dd, k0', k1', k2', k3', k5', hC3, hT3⟩ := excInit_of ((KX2).keeps k3) T.nw
  refine wpAny_call (codeAny_of_tree ?_)
  show wpAny _ (Around.in1 _) (callAny (.ref _) ⟨[u], []⟩) _ _ _
  simp only [callAny]
  refine wpAny_bind (wpAny_load hmw ?_)
  simp only [kxs_mw, show (Value.type "method-wrapper" == Value.type "method" || Value.type "method-wrapper" == Value.type "builtin_function_or_method" || Value.type "method-wrapper" == Value.type "method-wrapper") = true by decide, if_true]
  refine KFB.if_so (by decide) ?_
  refine wpAny_bind (check_boundK hC3 ha3 rfl ?_)
  refine wpAny_bind (wpAny_pure (wpAny_pure ?_))
  refine ⟨plainId_quiet ke_slot.plain _, codeAny_builtin ke_entry ?_⟩
  refine exc_init_tree (cls := .ref C) (t0 := t0) (dv := none) (c2 := .none) (c3 := .none) (b4 := .bool false) ha3 (by simp [sizeLine]) fun h4 k4 e4 _ => ?_
  have ns4 : h4.Ns hp.objs.size (fun y => List.lookup y [(x, u), (("self" : Str), Value.ref a)]) := by
    obtain ⟨o, es, ep, e, r⟩ := ns3
    refine ⟨o, es, ep, k4 _ _ (fun z => ?_) e, r⟩
    exact absurd (Heap.lt_size ha) (by rw [← z]; exact Nat.lt_irrefl _)
  show PySem.wpAt _ _ _ (execs [.Assign [.Attribute (.Name "self" p6) fld p7] (.Name x p8) p9] (ksEnv qual scope hp.objs.size fI (.ref cda) cc)) _ _ _
  refine ks_wpAt_execs_cons (ks_wpAt_Assign_Attr ?_ hs2)
  refine wpAt_of_wpAny (wpAny_Name (wpAny_loadName_local hk hkx ns4 hlx ?_) hxs.2)
  refine wpAny_Name (wpAny_loadName_local hk hka ns4 (by show List.lookup ("self" : Str) [(x, u), (("self" : Str), Value.ref a)] = some (Value.ref a); rw [List.lookup_cons, beq_eq_false_iff_ne.mpr (Ne.symm hxs.1)]; rfl) ?_) (by decide)
  have kk : ∀ b o, b ≠ a → hp.get? b = some o → h4.get? b = some o := fun b o hb e => k4 b o hb (k3 b o (k2 b o (k1 b o e)))
  have hcl4 : ∀ b o, base.get? b = some o → b ≠ a := fun b o e z => by rw [z, hab] at e; cases e
  have KX4 : K.In h4 := MO.kin.keeps fun b o e => kk b o (hcl4 b o e) (bk b o e)
  refine set_plain KX4 (ox := excO C h3.objs.size) (od := none) ⟨e4, rfl, rfl, trivial⟩ T.sa ?_
  refine exc_osaK KX4 e4 hcl hmro hdi T.no (fun h5 tk5 dx k5 dn dne hx5 hn5 => ?_)
  refine wpAt_of_wpAny (wpAny_execs_nil ?_)
  refine hq h5 tk5 dx _ (fun b o hb e => k5 b o hb (kk b o hb e)) ?_ hx5 hn5
  exact Nat.le_trans (Nat.le_of_lt ns4.lt) dn
end
open PySem PySem.Spec PyProof.Rows L2
structure XClsWK (K : PySem.W.Frag) (P : Program) (C fI : Addr) (x fld : Str) : Prop where
  ini : XInitWK K P C fI x fld
  at_ : PySem.W.findIn K (.ref C) "__init__" = some (some (.ref fI))
  fn : PySem.W.typeIn K (.ref fI) = some (.type "function")
  exC : PySem.W.subIn K (.ref C) (.type "BaseException") = some true
  tyC : PySem.W.typeIn K (.ref C) = some (.type "type")
  kC : PySem.W.keepIn K (.ref C) = true
theorem pmk_xWK {X : Cx} {c x fld : Str} {C fI : Addr} {p pos kp : Pos} {e : Expr} {te : TE} (T : XClsWK X.K X.prog C fI x fld) (hr : Room 2 X.A) (hg : Gl X c) (hm : X.mg c = some (.ref C)) (hsup : X.mg "super" = none) (he0 : PE X e te)
    (hdb : (c == ("__debug__" : Str)) = false := by decide) (hall : (backToKw pos (keywordEach [⟨some x, e, kp⟩] X.env)).all (·.1.isSome) = true := by rfl) (hks : (backToKw pos (keywordEach [⟨some x, e, kp⟩] X.env)).filterMap (·.1) = [x] := by rfl)
    (hpl : ((backTo pos (starEach [] X.env)).any (·.1) || (backToKw pos (keywordEach [⟨some x, e, kp⟩] X.env)).any (·.1.isNone)) = false := by rfl) :
    PMk X (.Call (.Name c p) [] [⟨some x, e, kp⟩] pos) (tMkX C fld (tCons te tNil)) := by
  intro pins s σ H Q I h
  refine wpAny_Call_Name_kw (ld_glob I hg hm ?_ hdb)
  refine PySem.W.callWith_KW0 (h₀ := X.base) I.ok.mod.kin T.kC hall ?_ hpl
  refine thn ((pk_cons he0 pk_nil).run pos pins s σ H _ I h) fun us s1 ⟨vs, H1, I1, r1, v, ev, q1⟩ => ⟨I1.kIn, ?_⟩
  rw [hks]
  subst ev
  cases r1 with
  | @cons _ u _ ur ru rr =>
  cases rr
  show wpAny _ _ (call (.ref C) [] [(x, u)]) _ _ _
  obtain ⟨hp, g, dr, tk, os⟩ := s1
  obtain ⟨nm, N', qn, bs', bm, hdct, sn, sub', ab, col, dd, k0', k1', k2', k3', k5', hC, hT⟩ := PySem.W.excInit_of I1.kIn T.ini.nw
  have kk : ∀ b o, hp.get? b = some o → ((hp.push (PySem.W.kdv_tup [])).push (PySem.HandSPX.excO C hp.objs.size)).get? b = some o := fun b o e => Heap.get?_push_of_some _ (Heap.get?_push_of_some _ e)
  have hget : ((hp.push (PySem.W.kdv_tup [])).push (PySem.HandSPX.excO C hp.objs.size)).get? (hp.objs.size + 1) = some (PySem.HandSPX.excO C hp.objs.size) := by heap_get
  have lt0 : ∀ {b : Addr} {o : Obj}, hp.get? b = some o → b ≠ hp.objs.size + 1 := fun {b o} z y => by
    have := Heap.lt_size z
    rw [y] at this
    exact absurd this (Nat.not_lt.mpr (Nat.le_succ _))
  refine wpAny_call (call_ownK_kw (kw := [(x, u)]) hT hC (PySem.W.looks_findIn I1.kIn T.at_) (fun self => PySem.W.bind_fn I1.kIn self T.fn) ?_)
  refine xi_runWK T.ini I1.mod (fun b o e => kk b o (I1.bk b o e)) hsup (hr.make C [] [(x, u)]).depth ?_ hget fun h' tk' dx t1 k5 dn hx hn => ?_
  · cases z : X.base.get? (hp.objs.size + 1) with
    | none => rfl
    | some o => exact absurd rfl (lt0 (I1.bk _ _ z))
  have hda : dx ≠ hp.objs.size + 1 := fun z => by
    have := Heap.lt_size hget
    rw [z] at dn
    exact absurd this (Nat.not_lt.mpr dn)
  have hsz : hp.objs.size ≤ dx := by
    have h1 : hp.objs.size + 1 < ((hp.push (PySem.W.kdv_tup [])).push (PySem.HandSPX.excO C hp.objs.size)).objs.size := Heap.lt_size hget
    exact Nat.le_trans (Nat.le_of_lt (Nat.lt_trans (Nat.lt_succ_self _) h1)) dn
  obtain ⟨G, g1', g2'⟩ := restrict h' fun b => decide (b ≠ hp.objs.size + 1)
  have gk : ∀ b, b ≠ hp.objs.size + 1 → G.get? b = h'.get? b := fun b hb => g1' b (decide_eq_true hb)
  have ge : G.get? (hp.objs.size + 1) = none := g2' _ (by simp)
  have hdn : H1 dx = none := I1.hok.fresh hsz
  have hq := q1 dx hdn
  have J : Inv X pins σ (L2.upd H1 dx (.xd [(fld, v)])) ⟨G, g, dr, tk', os⟩ := by
    refine I1.laid (t' := tk') (a := dx) (o := .xd [(fld, v)]) (h' := G) (fun b o e => ?_) hsz ?_
    · rw [gk b (lt0 e)]
      exact k5 b o (lt0 e) (kk b o e)
    · refine ⟨_, hn.at fun o y => (gk dx hda).trans y, fun f => ?_⟩
      show RelO (List.lookup f [(fld, v)]) (if f = fld then some u else none)
      by_cases hf : f = fld
      · subst hf
        rw [List.lookup_cons, beq_self_eq_true, if_pos rfl]
        exact ru
      · rw [List.lookup_cons, beq_eq_false_iff_ne.mpr hf, if_neg hf]
        exact True.intro
  refine ⟨rfl, hp.objs.size + 1, _, _, ⟨G, g, dr, tk', os⟩, _, .ref C, some dx, rfl, J, fun b o z => ?_, ge, hx, ⟨rfl, rfl⟩, rfl, rfl, ?_, rfl, I1.bare, raises_own T.exC T.tyC, hq⟩
  · by_cases hb : b = hp.objs.size + 1
    · rw [hb, ge] at z; cases z
    · exact (gk b hb).symm.trans z
  · rw [upd_ne (Ne.symm hda)]
    exact I1.hok.fresh (Nat.le_succ _)
open PySem PySem.W PySem.Calls PyProof.Rows L2 PySem.HandSPX
theorem xcls_mkWK {K : PySem.W.Frag} {P : Program} {C fI : Addr} {x fld : Str} {oc : Value} {od : Option Addr} {qual : Str} {params : Arguments} {body : List Stmt} {scope : Scope} {dV kV doc pm : Value} {an : Option Addr} {cda : Addr} {ct : Value} {cc : Addr} {osl : Array (Option Value)} {p0 p1 p2 p3 p4 p5 p6 p7 p8 p9 : Pos} {ar : Arg} {ccl : Value} {cdd : Option Addr} {vs : Array Value} {ccs : Array (Option Value)} {file : Str} {tf : Tok} {cl : Value} {cld : Option Addr} {csl : Array (Option Value)} {cd : ClassData}
    (at_ : findIn K (.ref C) "__init__" = some (some (.ref fI)))
    (lk : K.lookup fI = some ⟨oc, od, .func (ksFn "__init__" qual params body scope dV kV doc pm an (.ref cda) ct cc), osl⟩)
    (hcd : codeIn K (.ref cda) qual = true)
    (hb : body = [.Expr (.Call (.Attribute (.Call (.Name "super" p0) [] [] p1) "__init__" p2) [.Name x p3] [] p4) p5, .Assign [.Attribute (.Name "self" p6) fld p7] (.Name x p8) p9])
    (hpar : (params.posonlyargs ++ params.args).head? = some ar) (har : ar.arg = "self")
    (hbd : ∀ a u, bindArgs (ksFn "__init__" qual params body scope dV kV doc pm an (.ref cda) ct cc) ⟨[a], [(x, u)]⟩ = pure [(("self" : Str), a), (x, u)])
    (hsc : scope.names.lookup ("super" : Str) = some .globalImplicit ∧ scope.names.lookup ("__class__" : Str) = some .free ∧ scope.names.lookup ("self" : Str) = some .local ∧ scope.names.lookup x = some .local ∧ scope.kind = .function ∧ (∀ y ∈ scope.names, y.2 ≠ .cell) ∧ scope.isCoroutine = false ∧ scope.isGenerator = false)
    (hsh : ∀ L, interactive (ksEnv qual scope L fI (.ref cda) cc) = false ∧ swapsWith (.Call (.Attribute (.Call (.Name "super" p0) [] [] p1) "__init__" p2) [.Name x p3] [] p4) none p5.line (ksEnv qual scope L fI (.ref cda) cc) = pure false ∧ swapsWith (.Name x p8) (some (.Attribute (.Name "self" p6) fld p7)) p9.line (ksEnv qual scope L fI (.ref cda) cc) = pure false ∧
      ∃ pl : Sem Bool, eval (.Call (.Attribute (.Call (.Name "super" p0) [] [] p1) "__init__" p2) [.Name x p3] [] p4) (ksEnv qual scope L fI (.ref cda) cc) = (do
        let ov ← attributeBase (.Call (.Name "super" p0) [] [] p1) "__init__" (ksEnv qual scope L fI (.ref cda) cc) (eval (.Call (.Name "super" p0) [] [] p1) (ksEnv qual scope L fI (.ref cda) cc))
        standAt p2.atName
        let (f, first) ← holding [ov] (getMethod ov "__init__" pl)
        callWith p4 f first (backTo p4 (starEach [.Name x p3] (ksEnv qual scope L fI (.ref cda) cc))) []))
    (hcode : K.lookup cda = some ⟨ccl, cdd, .fields vs, ccs⟩) (hvs : vs[2]? = some (.str file tf)) (hfile : ((P.main.file : Str) == file) = true) (hcc : K.lookup cc = some ⟨cl, cld, .cell (some (.ref C)), csl⟩)
    (top : (P.main.scope.names.lookup ("super" : Str)).isSome = false) (xs : x ≠ "self" ∧ (x == ("__debug__" : Str)) = false)
    (hcl : clsIn K C = some cd) (hdi : cd.hasDict = true) (hm : refsKE cd.mro = true)
    (sub : mroIn K C (.ref C) = some true) (ho : nsIn K cStatics "thirdparty.any" = some none) (sup : ks_superIn K C C "__init__" = some (some (.builtin "KeyError.__init__")))
    (ve : subIn K (.ref C) (.type "KeyError") = some true) (nw : excInitIn K C keTail "LookupError.__new__" = true) (sa : findIn K (.ref C) "__setattr__" = some (some (.builtin "object.__setattr__"))) (no : findIn K (.ref C) fld = some none)
    (fn : typeIn K (.ref fI) = some (.type "function")) (exC : subIn K (.ref C) (.type "BaseException") = some true) (tyC : typeIn K (.ref C) = some (.type "type")) (kC : keepIn K (.ref C) = true) : XClsWK K P C fI x fld := by
  subst hb
  exact ⟨⟨⟨oc, od, qual, params, scope, dV, kV, doc, pm, an, cda, ct, cc, osl, p0, p1, p2, p3, p4, p5, p6, p7, p8, p9, ar, ccl, cdd, vs, ccs, file, tf, cl, cld, csl, lk, hcd, hpar, har, hbd, hsc, hsh, hcode, hvs, hfile, hcc⟩, top, xs, ⟨cd, hcl, hdi, hm⟩, sub, ho, sup, ve, nw, sa, no⟩, at_, fn, exC, tyC, kC⟩
/-- C(x=e) as a value -/
theorem pd_exnWK {X : DCx} {c x fld : Str} {C fI : Addr} {p pos kp : Pos} {e : Expr} {te : DE} (T : XClsWK X.K X.prog C fI x fld) (hr : Room 2 X.A) (hg : Gl X c) (hm : X.mg c = some (.ref C)) (hn : ClsAt X.K c C) (hsup : X.mg "super" = none) (he0 : PD X e te)
    (hdb : (c == ("__debug__" : Str)) = false := by decide) (hall : (backToKw pos (keywordEach [⟨some x, e, kp⟩] X.env)).all (·.1.isSome) = true := by rfl) (hks : (backToKw pos (keywordEach [⟨some x, e, kp⟩] X.env)).filterMap (·.1) = [x] := by rfl)
    (hpl : ((backTo pos (starEach [] X.env)).any (·.1) || (backToKw pos (keywordEach [⟨some x, e, kp⟩] X.env)).any (·.1.isNone)) = false := by rfl) :
    PD X (.Call (.Name c p) [] [⟨some x, e, kp⟩] pos) (dExn c fld (dCons te dNil)) := by
  obtain ⟨t, pe, le⟩ := he0
  exact ⟨_, pe_of_pmk (pmk_xWK T hr hg hm hsup pe hdb hall hks hpl), lk_exn hn (lk_cons1 le)⟩
end FD

/-! FIr: an own exception over ValueError with two fields. Printed by mkfir.py of FD18. -/
namespace FD
open PySem PySem.W PySem.Calls PyProof.Rows L2 PySem.HandSPX
section
variable {prog : Program} {w : World} {A : Around} {R : Result → Shared → Prop} {hp : Heap} {g : Array GenState} {dr : Drawn} {t : Nat} {os : OsState} {K : PySem.W.Frag} {mg : Str → Option Value} {base : Heap}
/-- what the written part tells of the class C and of its __init__ at fI -/
structure XInit2 (K : PySem.W.Frag) (P : Program) (C fI : Addr) (x z fx fz : Str) : Prop where
  fn : ∃ (oc : Value) (od : Option Addr) (qual : Str) (params : Arguments) (scope : Scope) (dV kV doc pm : Value) (an : Option Addr) (cda : Addr) (ct : Value) (cc : Addr) (osl : Array (Option Value)) (p0 p1 p2 p3 p4 p5 p6 p7 p8 p9 r3 r6 r7 r8 r9 : Pos) (ar : Arg) (ccl : Value) (cdd : Option Addr) (vs : Array Value) (ccs : Array (Option Value)) (file : Str) (tf : Tok) (cl : Value) (cld : Option Addr) (csl : Array (Option Value)),
    K.lookup fI = some ⟨oc, od, .func (ksFn "__init__" qual params [.Expr (.Call (.Attribute (.Call (.Name "super" p0) [] [] p1) "__init__" p2) [.Name x p3, .Name z r3] [] p4) p5, .Assign [.Attribute (.Name "self" p6) fx p7] (.Name x p8) p9, .Assign [.Attribute (.Name "self" r6) fz r7] (.Name z r8) r9] scope dV kV doc pm an (.ref cda) ct cc), osl⟩ ∧
    codeIn K (.ref cda) qual = true ∧ (params.posonlyargs ++ params.args).head? = some ar ∧ ar.arg = "self" ∧
    (∀ a u v, bindArgs (ksFn "__init__" qual params [.Expr (.Call (.Attribute (.Call (.Name "super" p0) [] [] p1) "__init__" p2) [.Name x p3, .Name z r3] [] p4) p5, .Assign [.Attribute (.Name "self" p6) fx p7] (.Name x p8) p9, .Assign [.Attribute (.Name "self" r6) fz r7] (.Name z r8) r9] scope dV kV doc pm an (.ref cda) ct cc) ⟨[a, u, v], []⟩ = pure [(("self" : Str), a), (x, u), (z, v)]) ∧
    (scope.names.lookup ("super" : Str) = some .globalImplicit ∧ scope.names.lookup ("__class__" : Str) = some .free ∧ scope.names.lookup ("self" : Str) = some .local ∧ scope.names.lookup x = some .local ∧ scope.names.lookup z = some .local ∧ scope.kind = .function ∧ (∀ y ∈ scope.names, y.2 ≠ .cell) ∧ scope.isCoroutine = false ∧ scope.isGenerator = false) ∧
    (∀ L, interactive (ksEnv qual scope L fI (.ref cda) cc) = false ∧ swapsWith (.Call (.Attribute (.Call (.Name "super" p0) [] [] p1) "__init__" p2) [.Name x p3, .Name z r3] [] p4) none p5.line (ksEnv qual scope L fI (.ref cda) cc) = pure false ∧ swapsWith (.Name x p8) (some (.Attribute (.Name "self" p6) fx p7)) p9.line (ksEnv qual scope L fI (.ref cda) cc) = pure false ∧ swapsWith (.Name z r8) (some (.Attribute (.Name "self" r6) fz r7)) r9.line (ksEnv qual scope L fI (.ref cda) cc) = pure false ∧
      ∃ pl : Sem Bool, eval (.Call (.Attribute (.Call (.Name "super" p0) [] [] p1) "__init__" p2) [.Name x p3, .Name z r3] [] p4) (ksEnv qual scope L fI (.ref cda) cc) = (do
        let ov ← attributeBase (.Call (.Name "super" p0) [] [] p1) "__init__" (ksEnv qual scope L fI (.ref cda) cc) (eval (.Call (.Name "super" p0) [] [] p1) (ksEnv qual scope L fI (.ref cda) cc))
        standAt p2.atName
        let (f, first) ← holding [ov] (getMethod ov "__init__" pl)
        callWith p4 f first (backTo p4 (starEach [.Name x p3, .Name z r3] (ksEnv qual scope L fI (.ref cda) cc))) [])) ∧
    K.lookup cda = some ⟨ccl, cdd, .fields vs, ccs⟩ ∧ vs[2]? = some (.str file tf) ∧ ((P.main.file : Str) == file) = true ∧ K.lookup cc = some ⟨cl, cld, .cell (some (.ref C)), csl⟩
  top : (P.main.scope.names.lookup ("super" : Str)).isSome = false
  xs : x ≠ "self" ∧ (x == ("__debug__" : Str)) = false ∧ z ≠ "self" ∧ (z == ("__debug__" : Str)) = false ∧ x ≠ z
  cls : ∃ cd, clsIn K C = some cd ∧ cd.hasDict = true ∧ refsVE cd.mro = true
  sub : mroIn K C (.ref C) = some true
  ho : nsIn K cStatics "thirdparty.any" = some none
  sup : ks_superIn K C C "__init__" = some (some (.builtin "ValueError.__init__"))
  ve : subIn K (.ref C) (.type "ValueError") = some true
  nw : excInitIn K C veTail "ValueError.__new__" = true
  sa : findIn K (.ref C) "__setattr__" = some (some (.builtin "object.__setattr__"))
  no : findIn K (.ref C) fx = some none
  nz : findIn K (.ref C) fz = some none
theorem xi_run2 {C fI a t0 : Addr} {x z fx fz : Str} {u v : Value} (T : XInit2 K prog C fI x z fx fz) (MO : Mod K mg base) (bk : ∀ b o, base.get? b = some o → hp.get? b = some o) (hsuper : mg "super" = none) (hroom : A.depth < recursionLimit) (hab : base.get? a = none) (ha : hp.get? a = some (excO C t0))
    (hq : ∀ h' tk' dx t1, (∀ b o, b ≠ a → hp.get? b = some o → h'.get? b = some o) → hp.objs.size ≤ dx → h'.get? a = some ({ cls := .ref C, dict := some dx, data := .fields #[.ref t1, .none, .none, .none, .bool false, .none] } : Obj) → h'.Ns1 dx (fun y => if y = fz then some v else if y = fx then some u else none) → R (.ok (.ret .none)) ⟨h', g, dr, tk', os⟩) :
    codeAny (model prog w) A (.call (.ref fI) ⟨[.ref a, u, v], []⟩) R ⟨hp, g, dr, t, os⟩ := by
  obtain ⟨oc, od, qual, params, scope, dV, kV, doc, pm, an, cda, ct, cc, osl, p0, p1, p2, p3, p4, p5, p6, p7, p8, p9, r3, r6, r7, r8, r9, ar, ccl, cdd, vs, ccs, file, tf, cl, cld, csl, lk, hcd, hpar, har, hbd, ⟨hks, hkc, hka, hkx, hkz, hk, hcell, hco, hgen⟩, hsh, hcode, hvs, hfile, hcc⟩ := T.fn
  obtain ⟨cd, hcl, hdi, hmro⟩ := T.cls
  have KX : K.In hp := MO.kin.keeps bk
  have hxs := T.xs
  have hls : List.lookup ("self" : Str) [(z, v), (x, u), (("self" : Str), Value.ref a)] = some (Value.ref a) := by rw [List.lookup_cons, beq_eq_false_iff_ne.mpr (Ne.symm hxs.2.2.1), List.lookup_cons, beq_eq_false_iff_ne.mpr (Ne.symm hxs.1)]; rfl
  refine ks_codeAny_call_defAt (s := ⟨hp, g, dr, t, os⟩) (binds := [(("self" : Str), .ref a), (x, u), (z, v)]) hroom (KX _ _ lk) rfl (MO.nolimit.keeps bk) (codeRec_of KX hcd) rfl (BindsTo.of_eq (hbd _ _ _)) hcell (fun y hy => ?_) (fun h1 hns k1 => ?_) hco hgen hk
  · simp only [List.mem_cons, List.not_mem_nil, or_false] at hy
    rcases hy with rfl | rfl | rfl
    · exact hka
    · exact hkx
    · exact hkz
  have KX1 : K.In h1 := KX.keeps k1
  have bk1 : ∀ b o, base.get? b = some o → h1.get? b = some o := fun b o e => k1 b o (bk b o e)
  have ha1 := k1 _ _ ha
  have I1 : InstAt h1 a (excO C t0) C none := ⟨ha1, rfl, rfl, trivial⟩
  obtain ⟨mb, hb1, hb2⟩ := MO.blt
  obtain ⟨oD, hD1, hD2⟩ : ∃ oD, h1.get? C = some oD ∧ oD.data = .cls cd := by
    have hcl' := hcl
    unfold clsIn at hcl'
    split at hcl'
    · rename_i c d cd' sl ho
      cases hcl'
      exact ⟨_, KX1 _ _ ho, rfl⟩
    · cases hcl'
  obtain ⟨hi, hs1, hs2, hs3, pl, he⟩ := hsh hp.objs.size
  show PySem.wpAt (model prog w) (A.deeper (ksEnv qual scope hp.objs.size fI (.ref cda) cc)) (.func _ (ksEnv qual scope hp.objs.size fI (.ref cda) cc)) (execs _ (ksEnv qual scope hp.objs.size fI (.ref cda) cc)) _ _ _
  refine ks_wpAt_execs_cons (ks_wpAt_Expr_any (ks_wpAt_MethodCall (pl := pl) ?_ he) hi hs1)
  refine ks_wpAt_super_base (ar := ar) hks hkc rfl rfl (KX1 _ _ lk) rfl hpar rfl (KX1 _ _ hcode) rfl hvs hfile T.top ?_
  refine ks_loadName_global hk hks (loadGlobal_builtin (MO.glob.keeps bk1) hsuper (hb1.keeps bk1) ((hb2 _ (by decide +kernel)).trans PyProof.Rows.Boot.«super») ⟨rfl, ?_⟩)
  refine wpAny_loadName_free hk hkc rfl ⟨_, KX1 _ _ hcc, rfl⟩ ?_
  refine wpAny_loadName_local hk (by rw [har]; exact hka) hns (by rw [har]; exact hls) ?_
  refine ks_wpAny_isType_cls hD1 hD2 ⟨rfl, ?_⟩
  refine ks_wpAny_call_super hD1 hD2 ha1 rfl (fun c e => by cases e) (looks_mroIn KX1 T.sub) (fun h2 e2 k2 => ?_)
  have KX2 : K.In h2 := KX1.keeps k2
  have I2 : InstAt h2 a (excO C t0) C none := ⟨k2 _ _ ha1, rfl, rfl, trivial⟩
  have hsup := T.sup
  unfold ks_superIn at hsup
  rw [hcl] at hsup
  refine kxs_getMethod kxs_ValueError e2 (looks_opaque KX2 T.ho) (l₀ := cd.mro) (fun A Q E s k q => wpAny_bind ((looks_clsIn KX2 hcl) A _ E s k (wpAny_pure q))) rfl KX2 hsup (I2.type.andThen (looks_subIn KX2 T.ve)) (ks_ne KX2 I2 hcl) rfl ?_
  have k3 : ∀ b o, h2.get? b = some o → (h2.push (kxs_mw "ValueError.__init__" a)).get? b = some o := fun b o e => Heap.get?_push_of_some _ e
  have hmw : (h2.push (kxs_mw "ValueError.__init__" a)).get? h2.objs.size = some (kxs_mw "ValueError.__init__" a) := Heap.get?_push_at rfl rfl
  generalize hh3 : h2.push (kxs_mw "ValueError.__init__" a) = h3 at k3 hmw
  have hlx : List.lookup x [(z, v), (x, u), (("self" : Str), Value.ref a)] = some u := by rw [List.lookup_cons, beq_eq_false_iff_ne.mpr hxs.2.2.2.2, List.lookup_cons, beq_self_eq_true]
  have hlz : List.lookup z [(z, v), (x, u), (("self" : Str), Value.ref a)] = some v := by rw [List.lookup_cons, beq_self_eq_true]
  have ns3 : h3.Ns hp.objs.size (fun y => List.lookup y [(z, v), (x, u), (("self" : Str), Value.ref a)]) := hns.keeps fun b o e => k3 b o (k2 b o e)
  refine kxs_callWith (i := "ValueError.__init__") (x := a) rfl (evalArgs_plain (spliced_more (wpAny_Name (wpAny_loadName_local (env := ksEnv qual scope hp.objs.size fI (.ref cda) cc) hk hkx ns3 hlx (spliced_more (wpAny_Name (wpAny_loadName_local (env := ksEnv qual scope hp.objs.size fI (.ref cda) cc) hk hkz ns3 hlz (spliced_none ⟨hmw, ?_⟩)) hxs.2.2.2.1))) hxs.2.1)))
  have ha3 : h3.get? a = some (excO C t0) := k3 _ _ (k2 _ _ ha1)
  obtain ⟨nm, N', qn, bs', bm, hdct, sn, sub', ab, col, dd, k0', k1', k2', k3', k5', hC3, hT3⟩ := excInit_of ((KX2).keeps k3) T.nw
  refine wpAny_call (codeAny_of_tree ?_)
  show wpAny _ (Around.in1 _) (callAny (.ref _) ⟨[u, v], []⟩) _ _ _
  simp only [callAny]
  refine wpAny_bind (wpAny_load hmw ?_)
  simp only [kxs_mw, show (Value.type "method-wrapper" == Value.type "method" || Value.type "method-wrapper" == Value.type "builtin_function_or_method" || Value.type "method-wrapper" == Value.type "method-wrapper") = true by decide, if_true]
  refine KFB.if_so (by decide) ?_
  refine wpAny_bind (check_bound_init F.excBase_ValueError.toExcCallFacts hC3 ha3 rfl ?_)
  refine wpAny_bind (wpAny_pure (wpAny_pure ?_))
  refine ⟨plainId_quiet F.excBase_ValueError.init.plain _, codeAny_builtin F.excBase_ValueError.initEntry ?_⟩
  refine exc_init_tree (cls := .ref C) (t0 := t0) (dv := none) (c2 := .none) (c3 := .none) (b4 := .bool false) ha3 (by simp [sizeLine]) fun h4 k4 e4 _ => ?_
  have ns4 : h4.Ns hp.objs.size (fun y => List.lookup y [(z, v), (x, u), (("self" : Str), Value.ref a)]) := by
    obtain ⟨o, es, ep, e, r⟩ := ns3
    refine ⟨o, es, ep, k4 _ _ (fun z => ?_) e, r⟩
    exact absurd (Heap.lt_size ha) (by rw [← z]; exact Nat.lt_irrefl _)
  show PySem.wpAt _ _ _ (execs [.Assign [.Attribute (.Name "self" p6) fx p7] (.Name x p8) p9, .Assign [.Attribute (.Name "self" r6) fz r7] (.Name z r8) r9] (ksEnv qual scope hp.objs.size fI (.ref cda) cc)) _ _ _
  refine ks_wpAt_execs_cons (ks_wpAt_Assign_Attr ?_ hs2)
  refine wpAt_of_wpAny (wpAny_Name (wpAny_loadName_local hk hkx ns4 hlx ?_) hxs.2.1)
  refine wpAny_Name (wpAny_loadName_local hk hka ns4 hls ?_) (by decide)
  have kk : ∀ b o, b ≠ a → hp.get? b = some o → h4.get? b = some o := fun b o hb e => k4 b o hb (k3 b o (k2 b o (k1 b o e)))
  have hcl4 : ∀ b o, base.get? b = some o → b ≠ a := fun b o e z => by rw [z, hab] at e; cases e
  have KX4 : K.In h4 := MO.kin.keeps fun b o e => kk b o (hcl4 b o e) (bk b o e)
  refine set_plain KX4 (ox := excO C h3.objs.size) (od := none) ⟨e4, rfl, rfl, trivial⟩ T.sa ?_
  refine exc_osa KX4 e4 hcl hmro hdi T.no (fun h5 tk5 dx k5 dn dne hx5 hn5 => ?_)
  have ns5 : h5.Ns hp.objs.size (fun y => List.lookup y [(z, v), (x, u), (("self" : Str), Value.ref a)]) := by
    obtain ⟨o, es, ep, e, r⟩ := ns4
    refine ⟨o, es, ep, k5 _ _ (fun q => ?_) e, r⟩
    exact absurd (Heap.lt_size ha) (by rw [← q]; exact Nat.lt_irrefl _)
  refine ks_wpAt_execs_cons (ks_wpAt_Assign_Attr ?_ hs3)
  refine wpAt_of_wpAny (wpAny_Name (wpAny_loadName_local hk hkz ns5 hlz ?_) hxs.2.2.2.1)
  refine wpAny_Name (wpAny_loadName_local hk hka ns5 hls ?_) (by decide)
  have KX5 : K.In h5 := MO.kin.keeps fun b o e => k5 b o (hcl4 b o e) (kk b o (hcl4 b o e) (bk b o e))
  have hw5 : Within (fun y => if y = fx then some u else none) [fx] := Within.cons fx u Within.nil
  obtain ⟨oD5, esD5, epD5, hoD5, hdD5, _⟩ := hn5.count hw5
  refine set_plain KX5 (od := some oD5) ⟨hx5, rfl, rfl, hoD5⟩ T.sa ?_
  have nb : ∀ b o, hp.get? b = some o → b ≠ dx := fun b o e q => by
    have h1 := Heap.lt_size e
    have h2 := ns4.lt
    rw [q] at h1
    exact absurd (Nat.lt_of_lt_of_le h2 dn) (Nat.not_lt.mpr (Nat.le_of_lt h1))
  refine PySem.OEX.osa_old KX5 hx5 hn5 hw5 (by simp) hcl hmro hdi T.nz (fun h6 tk6 k6 hn6 => ?_)
  refine wpAt_of_wpAny (wpAny_execs_nil ?_)
  refine hq h6 tk6 dx _ (fun b o hb e => k6 b o (nb b o e) (k5 b o hb (kk b o hb e))) ?_ (k6 _ _ (Ne.symm dne) hx5) hn6
  exact Nat.le_trans (Nat.le_of_lt ns4.lt) dn
/-- what the written part tells of the class C and of its __init__ at fI -/
structure XInit2W (K : PySem.W.Frag) (P : Program) (C fI : Addr) (x z fx fz : Str) : Prop where
  fn : ∃ (oc : Value) (od : Option Addr) (qual : Str) (params : Arguments) (scope : Scope) (dV kV doc pm : Value) (an : Option Addr) (cda : Addr) (ct : Value) (cc : Addr) (osl : Array (Option Value)) (p0 p1 p2 p3 p4 p5 p6 p7 p8 p9 r3 r6 r7 r8 r9 : Pos) (ar : Arg) (ccl : Value) (cdd : Option Addr) (vs : Array Value) (ccs : Array (Option Value)) (file : Str) (tf : Tok) (cl : Value) (cld : Option Addr) (csl : Array (Option Value)),
    K.lookup fI = some ⟨oc, od, .func (ksFn "__init__" qual params [.Expr (.Call (.Attribute (.Call (.Name "super" p0) [] [] p1) "__init__" p2) [.Name x p3, .Name z r3] [] p4) p5, .Assign [.Attribute (.Name "self" p6) fx p7] (.Name x p8) p9, .Assign [.Attribute (.Name "self" r6) fz r7] (.Name z r8) r9] scope dV kV doc pm an (.ref cda) ct cc), osl⟩ ∧
    codeIn K (.ref cda) qual = true ∧ (params.posonlyargs ++ params.args).head? = some ar ∧ ar.arg = "self" ∧
    (∀ a u v, bindArgs (ksFn "__init__" qual params [.Expr (.Call (.Attribute (.Call (.Name "super" p0) [] [] p1) "__init__" p2) [.Name x p3, .Name z r3] [] p4) p5, .Assign [.Attribute (.Name "self" p6) fx p7] (.Name x p8) p9, .Assign [.Attribute (.Name "self" r6) fz r7] (.Name z r8) r9] scope dV kV doc pm an (.ref cda) ct cc) ⟨[a], [(z, v), (x, u)]⟩ = pure [(("self" : Str), a), (x, u), (z, v)]) ∧
    (scope.names.lookup ("super" : Str) = some .globalImplicit ∧ scope.names.lookup ("__class__" : Str) = some .free ∧ scope.names.lookup ("self" : Str) = some .local ∧ scope.names.lookup x = some .local ∧ scope.names.lookup z = some .local ∧ scope.kind = .function ∧ (∀ y ∈ scope.names, y.2 ≠ .cell) ∧ scope.isCoroutine = false ∧ scope.isGenerator = false) ∧
    (∀ L, interactive (ksEnv qual scope L fI (.ref cda) cc) = false ∧ swapsWith (.Call (.Attribute (.Call (.Name "super" p0) [] [] p1) "__init__" p2) [.Name x p3, .Name z r3] [] p4) none p5.line (ksEnv qual scope L fI (.ref cda) cc) = pure false ∧ swapsWith (.Name x p8) (some (.Attribute (.Name "self" p6) fx p7)) p9.line (ksEnv qual scope L fI (.ref cda) cc) = pure false ∧ swapsWith (.Name z r8) (some (.Attribute (.Name "self" r6) fz r7)) r9.line (ksEnv qual scope L fI (.ref cda) cc) = pure false ∧
      ∃ pl : Sem Bool, eval (.Call (.Attribute (.Call (.Name "super" p0) [] [] p1) "__init__" p2) [.Name x p3, .Name z r3] [] p4) (ksEnv qual scope L fI (.ref cda) cc) = (do
        let ov ← attributeBase (.Call (.Name "super" p0) [] [] p1) "__init__" (ksEnv qual scope L fI (.ref cda) cc) (eval (.Call (.Name "super" p0) [] [] p1) (ksEnv qual scope L fI (.ref cda) cc))
        standAt p2.atName
        let (f, first) ← holding [ov] (getMethod ov "__init__" pl)
        callWith p4 f first (backTo p4 (starEach [.Name x p3, .Name z r3] (ksEnv qual scope L fI (.ref cda) cc))) [])) ∧
    K.lookup cda = some ⟨ccl, cdd, .fields vs, ccs⟩ ∧ vs[2]? = some (.str file tf) ∧ ((P.main.file : Str) == file) = true ∧ K.lookup cc = some ⟨cl, cld, .cell (some (.ref C)), csl⟩
  top : (P.main.scope.names.lookup ("super" : Str)).isSome = false
  xs : x ≠ "self" ∧ (x == ("__debug__" : Str)) = false ∧ z ≠ "self" ∧ (z == ("__debug__" : Str)) = false ∧ x ≠ z
  cls : ∃ cd, clsIn K C = some cd ∧ cd.hasDict = true ∧ refsVE cd.mro = true
  sub : mroIn K C (.ref C) = some true
  ho : nsIn K cStatics "thirdparty.any" = some none
  sup : ks_superIn K C C "__init__" = some (some (.builtin "ValueError.__init__"))
  ve : subIn K (.ref C) (.type "ValueError") = some true
  nw : excInitIn K C veTail "ValueError.__new__" = true
  sa : findIn K (.ref C) "__setattr__" = some (some (.builtin "object.__setattr__"))
  no : findIn K (.ref C) fx = some none
  nz : findIn K (.ref C) fz = some none
theorem xi_run2W {C fI a t0 : Addr} {x z fx fz : Str} {u v : Value} (T : XInit2W K prog C fI x z fx fz) (MO : Mod K mg base) (bk : ∀ b o, base.get? b = some o → hp.get? b = some o) (hsuper : mg "super" = none) (hroom : A.depth < recursionLimit) (hab : base.get? a = none) (ha : hp.get? a = some (excO C t0))
    (hq : ∀ h' tk' dx t1, (∀ b o, b ≠ a → hp.get? b = some o → h'.get? b = some o) → hp.objs.size ≤ dx → h'.get? a = some ({ cls := .ref C, dict := some dx, data := .fields #[.ref t1, .none, .none, .none, .bool false, .none] } : Obj) → h'.Ns1 dx (fun y => if y = fz then some v else if y = fx then some u else none) → R (.ok (.ret .none)) ⟨h', g, dr, tk', os⟩) :
    codeAny (model prog w) A (.call (.ref fI) ⟨[.ref a], [(z, v), (x, u)]⟩) R ⟨hp, g, dr, t, os⟩ := by
  obtain ⟨oc, od, qual, params, scope, dV, kV, doc, pm, an, cda, ct, cc, osl, p0, p1, p2, p3, p4, p5, p6, p7, p8, p9, r3, r6, r7, r8, r9, ar, ccl, cdd, vs, ccs, file, tf, cl, cld, csl, lk, hcd, hpar, har, hbd, ⟨hks, hkc, hka, hkx, hkz, hk, hcell, hco, hgen⟩, hsh, hcode, hvs, hfile, hcc⟩ := T.fn
  obtain ⟨cd, hcl, hdi, hmro⟩ := T.cls
  have KX : K.In hp := MO.kin.keeps bk
  have hxs := T.xs
  have hls : List.lookup ("self" : Str) [(z, v), (x, u), (("self" : Str), Value.ref a)] = some (Value.ref a) := by rw [List.lookup_cons, beq_eq_false_iff_ne.mpr (Ne.symm hxs.2.2.1), List.lookup_cons, beq_eq_false_iff_ne.mpr (Ne.symm hxs.1)]; rfl
  refine ks_codeAny_call_defAt (s := ⟨hp, g, dr, t, os⟩) (binds := [(("self" : Str), .ref a), (x, u), (z, v)]) hroom (KX _ _ lk) rfl (MO.nolimit.keeps bk) (codeRec_of KX hcd) rfl (BindsTo.of_eq (hbd _ _ _)) hcell (fun y hy => ?_) (fun h1 hns k1 => ?_) hco hgen hk
  · simp only [List.mem_cons, List.not_mem_nil, or_false] at hy
    rcases hy with rfl | rfl | rfl
    · exact hka
    · exact hkx
    · exact hkz
  have KX1 : K.In h1 := KX.keeps k1
  have bk1 : ∀ b o, base.get? b = some o → h1.get? b = some o := fun b o e => k1 b o (bk b o e)
  have ha1 := k1 _ _ ha
  have I1 : InstAt h1 a (excO C t0) C none := ⟨ha1, rfl, rfl, trivial⟩
  obtain ⟨mb, hb1, hb2⟩ := MO.blt
  obtain ⟨oD, hD1, hD2⟩ : ∃ oD, h1.get? C = some oD ∧ oD.data = .cls cd := by
    have hcl' := hcl
    unfold clsIn at hcl'
    split at hcl'
    · rename_i c d cd' sl ho
      cases hcl'
      exact ⟨_, KX1 _ _ ho, rfl⟩
    · cases hcl'
  obtain ⟨hi, hs1, hs2, hs3, pl, he⟩ := hsh hp.objs.size
  show PySem.wpAt (model prog w) (A.deeper (ksEnv qual scope hp.objs.size fI (.ref cda) cc)) (.func _ (ksEnv qual scope hp.objs.size fI (.ref cda) cc)) (execs _ (ksEnv qual scope hp.objs.size fI (.ref cda) cc)) _ _ _
  refine ks_wpAt_execs_cons (ks_wpAt_Expr_any (ks_wpAt_MethodCall (pl := pl) ?_ he) hi hs1)
  refine ks_wpAt_super_base (ar := ar) hks hkc rfl rfl (KX1 _ _ lk) rfl hpar rfl (KX1 _ _ hcode) rfl hvs hfile T.top ?_
  refine ks_loadName_global hk hks (loadGlobal_builtin (MO.glob.keeps bk1) hsuper (hb1.keeps bk1) ((hb2 _ (by decide +kernel)).trans PyProof.Rows.Boot.«super») ⟨rfl, ?_⟩)
  refine wpAny_loadName_free hk hkc rfl ⟨_, KX1 _ _ hcc, rfl⟩ ?_
  refine wpAny_loadName_local hk (by rw [har]; exact hka) hns (by rw [har]; exact hls) ?_
  refine ks_wpAny_isType_cls hD1 hD2 ⟨rfl, ?_⟩
  refine ks_wpAny_call_super hD1 hD2 ha1 rfl (fun c e => by cases e) (looks_mroIn KX1 T.sub) (fun h2 e2 k2 => ?_)
  have KX2 : K.In h2 := KX1.keeps k2
  have I2 : InstAt h2 a (excO C t0) C none := ⟨k2 _ _ ha1, rfl, rfl, trivial⟩
  have hsup := T.sup
  unfold ks_superIn at hsup
  rw [hcl] at hsup
  refine kxs_getMethod kxs_ValueError e2 (looks_opaque KX2 T.ho) (l₀ := cd.mro) (fun A Q E s k q => wpAny_bind ((looks_clsIn KX2 hcl) A _ E s k (wpAny_pure q))) rfl KX2 hsup (I2.type.andThen (looks_subIn KX2 T.ve)) (ks_ne KX2 I2 hcl) rfl ?_
  have k3 : ∀ b o, h2.get? b = some o → (h2.push (kxs_mw "ValueError.__init__" a)).get? b = some o := fun b o e => Heap.get?_push_of_some _ e
  have hmw : (h2.push (kxs_mw "ValueError.__init__" a)).get? h2.objs.size = some (kxs_mw "ValueError.__init__" a) := Heap.get?_push_at rfl rfl
  generalize hh3 : h2.push (kxs_mw "ValueError.__init__" a) = h3 at k3 hmw
  have hlx : List.lookup x [(z, v), (x, u), (("self" : Str), Value.ref a)] = some u := by rw [List.lookup_cons, beq_eq_false_iff_ne.mpr hxs.2.2.2.2, List.lookup_cons, beq_self_eq_true]
  have hlz : List.lookup z [(z, v), (x, u), (("self" : Str), Value.ref a)] = some v := by rw [List.lookup_cons, beq_self_eq_true]
  have ns3 : h3.Ns hp.objs.size (fun y => List.lookup y [(z, v), (x, u), (("self" : Str), Value.ref a)]) := hns.keeps fun b o e => k3 b o (k2 b o e)
  refine kxs_callWith (i := "ValueError.__init__") (x := a) rfl (evalArgs_plain (spliced_more (wpAny_Name (wpAny_loadName_local (env := ksEnv qual scope hp.objs.size fI (.ref cda) cc) hk hkx ns3 hlx (spliced_more (wpAny_Name (wpAny_loadName_local (env := ksEnv qual scope hp.objs.size fI (.ref cda) cc) hk hkz ns3 hlz (spliced_none ⟨hmw, ?_⟩)) hxs.2.2.2.1))) hxs.2.1)))
  have ha3 : h3.get? a = some (excO C t0) := k3 _ _ (k2 _ _ ha1)
  obtain ⟨nm, N', qn, bs', bm, hdct, sn, sub', ab, col, dd, k0', k1', k2', k3', k5', hC3, hT3⟩ := excInit_of ((KX2).keeps k3) T.nw
  refine wpAny_call (codeAny_of_tree ?_)
  show wpAny _ (Around.in1 _) (callAny (.ref _) ⟨[u, v], []⟩) _ _ _
  simp only [callAny]
  refine wpAny_bind (wpAny_load hmw ?_)
  simp only [kxs_mw, show (Value.type "method-wrapper" == Value.type "method" || Value.type "method-wrapper" == Value.type "builtin_function_or_method" || Value.type "method-wrapper" == Value.type "method-wrapper") = true by decide, if_true]
  refine KFB.if_so (by decide) ?_
  refine wpAny_bind (check_bound_init F.excBase_ValueError.toExcCallFacts hC3 ha3 rfl ?_)
  refine wpAny_bind (wpAny_pure (wpAny_pure ?_))
  refine ⟨plainId_quiet F.excBase_ValueError.init.plain _, codeAny_builtin F.excBase_ValueError.initEntry ?_⟩
  refine exc_init_tree (cls := .ref C) (t0 := t0) (dv := none) (c2 := .none) (c3 := .none) (b4 := .bool false) ha3 (by simp [sizeLine]) fun h4 k4 e4 _ => ?_
  have ns4 : h4.Ns hp.objs.size (fun y => List.lookup y [(z, v), (x, u), (("self" : Str), Value.ref a)]) := by
    obtain ⟨o, es, ep, e, r⟩ := ns3
    refine ⟨o, es, ep, k4 _ _ (fun z => ?_) e, r⟩
    exact absurd (Heap.lt_size ha) (by rw [← z]; exact Nat.lt_irrefl _)
  show PySem.wpAt _ _ _ (execs [.Assign [.Attribute (.Name "self" p6) fx p7] (.Name x p8) p9, .Assign [.Attribute (.Name "self" r6) fz r7] (.Name z r8) r9] (ksEnv qual scope hp.objs.size fI (.ref cda) cc)) _ _ _
  refine ks_wpAt_execs_cons (ks_wpAt_Assign_Attr ?_ hs2)
  refine wpAt_of_wpAny (wpAny_Name (wpAny_loadName_local hk hkx ns4 hlx ?_) hxs.2.1)
  refine wpAny_Name (wpAny_loadName_local hk hka ns4 hls ?_) (by decide)
  have kk : ∀ b o, b ≠ a → hp.get? b = some o → h4.get? b = some o := fun b o hb e => k4 b o hb (k3 b o (k2 b o (k1 b o e)))
  have hcl4 : ∀ b o, base.get? b = some o → b ≠ a := fun b o e z => by rw [z, hab] at e; cases e
  have KX4 : K.In h4 := MO.kin.keeps fun b o e => kk b o (hcl4 b o e) (bk b o e)
  refine set_plain KX4 (ox := excO C h3.objs.size) (od := none) ⟨e4, rfl, rfl, trivial⟩ T.sa ?_
  refine exc_osa KX4 e4 hcl hmro hdi T.no (fun h5 tk5 dx k5 dn dne hx5 hn5 => ?_)
  have ns5 : h5.Ns hp.objs.size (fun y => List.lookup y [(z, v), (x, u), (("self" : Str), Value.ref a)]) := by
    obtain ⟨o, es, ep, e, r⟩ := ns4
    refine ⟨o, es, ep, k5 _ _ (fun q => ?_) e, r⟩
    exact absurd (Heap.lt_size ha) (by rw [← q]; exact Nat.lt_irrefl _)
  refine ks_wpAt_execs_cons (ks_wpAt_Assign_Attr ?_ hs3)
  refine wpAt_of_wpAny (wpAny_Name (wpAny_loadName_local hk hkz ns5 hlz ?_) hxs.2.2.2.1)
  refine wpAny_Name (wpAny_loadName_local hk hka ns5 hls ?_) (by decide)
  have KX5 : K.In h5 := MO.kin.keeps fun b o e => k5 b o (hcl4 b o e) (kk b o (hcl4 b o e) (bk b o e))
  have hw5 : Within (fun y => if y = fx then some u else none) [fx] := Within.cons fx u Within.nil
  obtain ⟨oD5, esD5, epD5, hoD5, hdD5, _⟩ := hn5.count hw5
  refine set_plain KX5 (od := some oD5) ⟨hx5, rfl, rfl, hoD5⟩ T.sa ?_
  have nb : ∀ b o, hp.get? b = some o → b ≠ dx := fun b o e q => by
    have h1 := Heap.lt_size e
    have h2 := ns4.lt
    rw [q] at h1
    exact absurd (Nat.lt_of_lt_of_le h2 dn) (Nat.not_lt.mpr (Nat.le_of_lt h1))
  refine PySem.OEX.osa_old KX5 hx5 hn5 hw5 (by simp) hcl hmro hdi T.nz (fun h6 tk6 k6 hn6 => ?_)
  refine wpAt_of_wpAny (wpAny_execs_nil ?_)
  refine hq h6 tk6 dx _ (fun b o hb e => k6 b o (nb b o e) (k5 b o hb (kk b o hb e))) ?_ (k6 _ _ (Ne.symm dne) hx5) hn6
  exact Nat.le_trans (Nat.le_of_lt ns4.lt) dn
end
end FD

/-! FIs: own exceptions with two fields. Printed by mkfis.py of FD19. -/
namespace FD
open PySem PySem.Spec PyProof.Rows L2
/-- made of two values: the first is the field fx, the second fz -/
def tMkX2 (C : Addr) (fx fz : Str) (ta : TA) : L2.St → Hp → XK → Prop := fun σ H Q => ta σ H fun vs H1 => ∃ v v2, vs = [v, v2] ∧ ∀ dx, H1 dx = none → Q (.ref C) (some dx) (L2.upd H1 dx (.xd [(fz, v2), (fx, v)]))
structure XCls2 (K : PySem.W.Frag) (P : Program) (C fI : Addr) (x z fx fz : Str) : Prop where
  ini : XInit2 K P C fI x z fx fz
  at_ : PySem.W.findIn K (.ref C) "__init__" = some (some (.ref fI))
  fn : PySem.W.typeIn K (.ref fI) = some (.type "function")
  exC : PySem.W.subIn K (.ref C) (.type "BaseException") = some true
  tyC : PySem.W.typeIn K (.ref C) = some (.type "type")
  kC : PySem.W.keepIn K (.ref C) = true
theorem pmk_x2 {X : Cx} {c x z fx fz : Str} {C fI : Addr} {p pos : Pos} {e e2 : Expr} {ta : TA} (T : XCls2 X.K X.prog C fI x z fx fz) (hr : Room 2 X.A) (hg : Gl X c) (hm : X.mg c = some (.ref C)) (hsup : X.mg "super" = none) (ha : PA X [e, e2] ta)
    (hdb : (c == ("__debug__" : Str)) = false := by decide) (he : starEach [e, e2] X.env = (false, eval e X.env) :: starEach [e2] X.env := by rfl) (hpl : (backTo pos (starEach [e2] X.env)).any (·.1) = false := by rfl) :
    PMk X (.Call (.Name c p) [e, e2] [] pos) (tMkX2 C fx fz ta) := by
  intro pins s σ H Q I h
  refine wpAny_Call_Name_kw (ld_glob I hg hm ?_ hdb)
  refine PySem.W.callWith_K (h₀ := X.base) I.ok.mod.kin T.kC (thn (ha.run pos pins s σ H _ I h) fun us s1 ⟨vs, H1, I1, r1, v, v2, ev, q1⟩ => ⟨I1.kIn, ?_⟩) he hpl
  subst ev
  cases r1 with
  | @cons _ u _ ur ru rr =>
  cases rr with
  | @cons _ u2 _ ur2 ru2 rr2 =>
  cases rr2
  show wpAny _ _ (call (.ref C) [u, u2]) _ _ _
  obtain ⟨hp, g, dr, tk, os⟩ := s1
  obtain ⟨nm, N', qn, bs', bm, hdct, sn, sub', ab, col, dd, k0', k1', k2', k3', k5', hC, hT⟩ := PySem.W.excInit_of I1.kIn T.ini.nw
  have kk : ∀ b o, hp.get? b = some o → ((hp.push (PySem.W.kdv_tup [u, u2])).push (PySem.HandSPX.excO C hp.objs.size)).get? b = some o := fun b o e => Heap.get?_push_of_some _ (Heap.get?_push_of_some _ e)
  have hget : ((hp.push (PySem.W.kdv_tup [u, u2])).push (PySem.HandSPX.excO C hp.objs.size)).get? (hp.objs.size + 1) = some (PySem.HandSPX.excO C hp.objs.size) := by heap_get
  have lt0 : ∀ {b : Addr} {o : Obj}, hp.get? b = some o → b ≠ hp.objs.size + 1 := fun {b o} z y => by
    have := Heap.lt_size z
    rw [y] at this
    exact absurd this (Nat.not_lt.mpr (Nat.le_succ _))
  refine wpAny_call (PySem.HandSPX.call_own F.excBase_ValueError hT hC (PySem.W.looks_findIn I1.kIn T.at_) (fun self => PySem.W.bind_fn I1.kIn self T.fn) (by simp [sizeLine]) ?_)
  refine xi_run2 T.ini I1.mod (fun b o e => kk b o (I1.bk b o e)) hsup (hr.make C [u, u2] []).depth ?_ hget fun h' tk' dx t1 k5 dn hx hn => ?_
  · cases z : X.base.get? (hp.objs.size + 1) with
    | none => rfl
    | some o => exact absurd rfl (lt0 (I1.bk _ _ z))
  have hda : dx ≠ hp.objs.size + 1 := fun z => by
    have := Heap.lt_size hget
    rw [z] at dn
    exact absurd this (Nat.not_lt.mpr dn)
  have hsz : hp.objs.size ≤ dx := by
    have h1 : hp.objs.size + 1 < ((hp.push (PySem.W.kdv_tup [u, u2])).push (PySem.HandSPX.excO C hp.objs.size)).objs.size := Heap.lt_size hget
    exact Nat.le_trans (Nat.le_of_lt (Nat.lt_trans (Nat.lt_succ_self _) h1)) dn
  obtain ⟨G, g1', g2'⟩ := restrict h' fun b => decide (b ≠ hp.objs.size + 1)
  have gk : ∀ b, b ≠ hp.objs.size + 1 → G.get? b = h'.get? b := fun b hb => g1' b (decide_eq_true hb)
  have ge : G.get? (hp.objs.size + 1) = none := g2' _ (by simp)
  have hdn : H1 dx = none := I1.hok.fresh hsz
  have hq := q1 dx hdn
  have J : Inv X pins σ (L2.upd H1 dx (.xd [(fz, v2), (fx, v)])) ⟨G, g, dr, tk', os⟩ := by
    refine I1.laid (t' := tk') (a := dx) (o := .xd [(fz, v2), (fx, v)]) (h' := G) (fun b o e => ?_) hsz ?_
    · rw [gk b (lt0 e)]
      exact k5 b o (lt0 e) (kk b o e)
    · refine ⟨_, hn.at fun o y => (gk dx hda).trans y, fun f => ?_⟩
      show RelO (List.lookup f [(fz, v2), (fx, v)]) (if f = fz then some u2 else if f = fx then some u else none)
      by_cases hf : f = fz
      · subst hf
        rw [List.lookup_cons, beq_self_eq_true, if_pos rfl]
        exact ru2
      · rw [List.lookup_cons, beq_eq_false_iff_ne.mpr hf, if_neg hf]
        by_cases hf2 : f = fx
        · subst hf2
          dsimp only
          rw [List.lookup_cons, beq_self_eq_true, if_pos rfl]
          exact ru
        · dsimp only
          rw [List.lookup_cons, beq_eq_false_iff_ne.mpr hf2, if_neg hf2]
          exact True.intro
  refine ⟨rfl, hp.objs.size + 1, _, _, ⟨G, g, dr, tk', os⟩, _, .ref C, some dx, rfl, J, fun b o z => ?_, ge, hx, ⟨rfl, rfl⟩, rfl, rfl, ?_, rfl, I1.bare, raises_own T.exC T.tyC, hq⟩
  · by_cases hb : b = hp.objs.size + 1
    · rw [hb, ge] at z; cases z
    · exact (gk b hb).symm.trans z
  · rw [upd_ne (Ne.symm hda)]
    exact I1.hok.fresh (Nat.le_succ _)
structure XCls2W (K : PySem.W.Frag) (P : Program) (C fI : Addr) (x z fx fz : Str) : Prop where
  ini : XInit2W K P C fI x z fx fz
  at_ : PySem.W.findIn K (.ref C) "__init__" = some (some (.ref fI))
  fn : PySem.W.typeIn K (.ref fI) = some (.type "function")
  exC : PySem.W.subIn K (.ref C) (.type "BaseException") = some true
  tyC : PySem.W.typeIn K (.ref C) = some (.type "type")
  kC : PySem.W.keepIn K (.ref C) = true
  ne : ¬ fx = fz
theorem pmk_x2W {X : Cx} {c x z fx fz : Str} {C fI : Addr} {p pos kp kq : Pos} {e e2 : Expr} {te te2 : TE} (T : XCls2W X.K X.prog C fI x z fx fz) (hr : Room 2 X.A) (hg : Gl X c) (hm : X.mg c = some (.ref C)) (hsup : X.mg "super" = none) (he0 : PE X e te) (he2 : PE X e2 te2)
    (hdb : (c == ("__debug__" : Str)) = false := by decide) (hall : (backToKw pos (keywordEach [⟨some z, e, kp⟩, ⟨some x, e2, kq⟩] X.env)).all (·.1.isSome) = true := by rfl) (hks : (backToKw pos (keywordEach [⟨some z, e, kp⟩, ⟨some x, e2, kq⟩] X.env)).filterMap (·.1) = [z, x] := by rfl)
    (hpl : ((backTo pos (starEach [] X.env)).any (·.1) || (backToKw pos (keywordEach [⟨some z, e, kp⟩, ⟨some x, e2, kq⟩] X.env)).any (·.1.isNone)) = false := by rfl) :
    PMk X (.Call (.Name c p) [] [⟨some z, e, kp⟩, ⟨some x, e2, kq⟩] pos) (tMkX2 C fz fx (tCons te (tCons te2 tNil))) := by
  intro pins s σ H Q I h
  refine wpAny_Call_Name_kw (ld_glob I hg hm ?_ hdb)
  refine PySem.W.callWith_KW0 (h₀ := X.base) I.ok.mod.kin T.kC hall ?_ hpl
  refine thn ((pk_cons he0 (pk_cons he2 pk_nil)).run pos pins s σ H _ I h) fun us s1 ⟨vs, H1, I1, r1, v2, v, ev, q1⟩ => ⟨I1.kIn, ?_⟩
  rw [hks]
  subst ev
  cases r1 with
  | @cons _ u2 _ ur ru2 rr =>
  cases rr with
  | @cons _ u _ ur2 ru rr2 =>
  cases rr2
  show wpAny _ _ (call (.ref C) [] [(z, u2), (x, u)]) _ _ _
  obtain ⟨hp, g, dr, tk, os⟩ := s1
  obtain ⟨nm, N', qn, bs', bm, hdct, sn, sub', ab, col, dd, k0', k1', k2', k3', k5', hC, hT⟩ := PySem.W.excInit_of I1.kIn T.ini.nw
  have kk : ∀ b o, hp.get? b = some o → ((hp.push (PySem.W.kdv_tup [])).push (PySem.HandSPX.excO C hp.objs.size)).get? b = some o := fun b o e => Heap.get?_push_of_some _ (Heap.get?_push_of_some _ e)
  have hget : ((hp.push (PySem.W.kdv_tup [])).push (PySem.HandSPX.excO C hp.objs.size)).get? (hp.objs.size + 1) = some (PySem.HandSPX.excO C hp.objs.size) := by heap_get
  have lt0 : ∀ {b : Addr} {o : Obj}, hp.get? b = some o → b ≠ hp.objs.size + 1 := fun {b o} z y => by
    have := Heap.lt_size z
    rw [y] at this
    exact absurd this (Nat.not_lt.mpr (Nat.le_succ _))
  refine wpAny_call (call_own_kw (kw := [(z, u2), (x, u)]) F.excBase_ValueError hT hC (PySem.W.looks_findIn I1.kIn T.at_) (fun self => PySem.W.bind_fn I1.kIn self T.fn) ?_)
  refine xi_run2W T.ini I1.mod (fun b o e => kk b o (I1.bk b o e)) hsup (hr.make C [] [(z, u2), (x, u)]).depth ?_ hget fun h' tk' dx t1 k5 dn hx hn => ?_
  · cases z : X.base.get? (hp.objs.size + 1) with
    | none => rfl
    | some o => exact absurd rfl (lt0 (I1.bk _ _ z))
  have hda : dx ≠ hp.objs.size + 1 := fun z => by
    have := Heap.lt_size hget
    rw [z] at dn
    exact absurd this (Nat.not_lt.mpr dn)
  have hsz : hp.objs.size ≤ dx := by
    have h1 : hp.objs.size + 1 < ((hp.push (PySem.W.kdv_tup [])).push (PySem.HandSPX.excO C hp.objs.size)).objs.size := Heap.lt_size hget
    exact Nat.le_trans (Nat.le_of_lt (Nat.lt_trans (Nat.lt_succ_self _) h1)) dn
  obtain ⟨G, g1', g2'⟩ := restrict h' fun b => decide (b ≠ hp.objs.size + 1)
  have gk : ∀ b, b ≠ hp.objs.size + 1 → G.get? b = h'.get? b := fun b hb => g1' b (decide_eq_true hb)
  have ge : G.get? (hp.objs.size + 1) = none := g2' _ (by simp)
  have hdn : H1 dx = none := I1.hok.fresh hsz
  have hq := q1 dx hdn
  have J : Inv X pins σ (L2.upd H1 dx (.xd [(fx, v), (fz, v2)])) ⟨G, g, dr, tk', os⟩ := by
    refine I1.laid (t' := tk') (a := dx) (o := .xd [(fx, v), (fz, v2)]) (h' := G) (fun b o e => ?_) hsz ?_
    · rw [gk b (lt0 e)]
      exact k5 b o (lt0 e) (kk b o e)
    · refine ⟨_, hn.at fun o y => (gk dx hda).trans y, fun f => ?_⟩
      show RelO (List.lookup f [(fx, v), (fz, v2)]) (if f = fz then some u2 else if f = fx then some u else none)
      by_cases hf : f = fx
      · subst hf
        rw [List.lookup_cons, beq_self_eq_true, if_neg T.ne, if_pos rfl]
        exact ru
      · rw [List.lookup_cons, beq_eq_false_iff_ne.mpr hf]
        dsimp only
        by_cases hf2 : f = fz
        · subst hf2
          rw [List.lookup_cons, beq_self_eq_true, if_pos rfl]
          exact ru2
        · rw [List.lookup_cons, beq_eq_false_iff_ne.mpr hf2, if_neg hf2, if_neg hf]
          exact True.intro
  refine ⟨rfl, hp.objs.size + 1, _, _, ⟨G, g, dr, tk', os⟩, _, .ref C, some dx, rfl, J, fun b o z => ?_, ge, hx, ⟨rfl, rfl⟩, rfl, rfl, ?_, rfl, I1.bare, raises_own T.exC T.tyC, hq⟩
  · by_cases hb : b = hp.objs.size + 1
    · rw [hb, ge] at z; cases z
    · exact (gk b hb).symm.trans z
  · rw [upd_ne (Ne.symm hda)]
    exact I1.hok.fresh (Nat.le_succ _)
end FD

/-! FIt: own exceptions with two fields, at the data level. Its end is printed by mkfit.py of FD23. -/
namespace FD
section
open PySem PySem.Spec PyProof.Rows L2
def dExn2 (c fx fz : Str) (t : DA) : DE := fun ρ G Q => t ρ G fun xs G1 => match xs with
  | [x, y] => ∀ p, G1 p = none → Q (.ref p) (G1.upd p (.exn c [(fz, y), (fx, x)]))
  | _ => False
theorem lk_exn2 {X : DCx} {C : Addr} {c fx fz : Str} {ta : TA} {t : DA} (hn : ClsAt X.K c C) (la : LkA (bs X) ta t) : LkE (bs X) (fun σ H Q => tMkX2 C fx fz ta σ H fun cls d H1 => ∃ C, cls = .ref C ∧ ∀ a, H1 a = none → Q (.ref a) (L2.upd H1 a (exv a C d))) (dExn2 c fx fz t) := fun ρ σ G H Q R s w h kk => by
  refine la ρ σ G H _ _ s w h fun ds vs G1 H1 r1 w1 f1 q1 => ?_
  match ds, q1 with
  | [x, y], q1 =>
    obtain ⟨v, vs1, rfl, rv, r2⟩ := rpl_cons.mp r1
    obtain ⟨v2, rfl, rv2⟩ := r2.one
    refine ⟨v, v2, rfl, fun dx hd => ⟨C, rfl, fun a ha => ?_⟩⟩
    have w2 := wld_hid (o := .xd [(fz, v2), (fx, v)]) w1 hd
    have ne : dx ≠ a := fun z => by rw [← z, upd_same] at ha; cases ha
    have k1 := kp_new (B := bs X) (o := .xd [(fz, v2), (fx, v)]) hd
    have k2 := kp_new (B := bs X) (o := exv a C (some dx)) ha
    refine kk _ _ _ _ (rp_ref.mpr rfl) (wld_new (d := .exn c [(fz, y), (fx, x)]) w2 ha ⟨C, some dx, [(fz, v2), (fx, v)], upd_same, ?_, hn, .cons ⟨rfl, (rv2.mono k1).mono k2⟩ (.cons ⟨rfl, (rv.mono k1).mono k2⟩ .nil)⟩) ((f1.trans (fm_hid hd)).trans (fm_new ha)) (q1 a (w2.none ha))
    show L2.upd _ a _ dx = _
    rw [upd_ne ne, upd_same]
variable {X : DCx} {c x z fx fz : Str} {C fI : Addr} {p pos kp kq : Pos} {e e2 : Expr} {t : DA} {te te2 : DE}
theorem pd_exn2 (T : XCls2 X.K X.prog C fI x z fx fz) (hr : Room 2 X.A) (hg : Gl X c) (hm : X.mg c = some (.ref C)) (hn : ClsAt X.K c C) (hsup : X.mg "super" = none) (ha : PDA X [e, e2] t)
    (hdb : (c == ("__debug__" : Str)) = false := by decide) (he : starEach [e, e2] X.env = (false, eval e X.env) :: starEach [e2] X.env := by rfl) (hpl : (backTo pos (starEach [e2] X.env)).any (·.1) = false := by rfl) :
    PD X (.Call (.Name c p) [e, e2] [] pos) (dExn2 c fx fz t) := by
  obtain ⟨ta, pa, la⟩ := ha
  exact ⟨_, pe_of_pmk (pmk_x2 T hr hg hm hsup pa hdb he hpl), lk_exn2 hn la⟩
theorem lk_cons2 {B : Bs} {te te2 : TE} {t t2 : DE} (l1 : LkE B te t) (l2 : LkE B te2 t2) : LkA B (tCons te (tCons te2 tNil)) (dCons t (dCons t2 dNil)) := fun ρ σ G H Q R s w h k => by
  refine l1 ρ σ G H _ _ s w h fun x v G1 H1 r1 w1 f1 q1 => ?_
  refine l2 ρ σ G1 H1 _ _ (s.mono (f1.kp w)) w1 q1 fun y v2 G2 H2 r2 w2 f2 q2 => ?_
  exact k _ _ G2 H2 (RpL.cons (r1.mono (f2.kp w1)) (RpL.cons r2 RpL.nil)) w2 (f1.trans f2) q2
theorem pd_exn2W (T : XCls2W X.K X.prog C fI x z fx fz) (hr : Room 2 X.A) (hg : Gl X c) (hm : X.mg c = some (.ref C)) (hn : ClsAt X.K c C) (hsup : X.mg "super" = none) (he0 : PD X e te) (he2 : PD X e2 te2)
    (hdb : (c == ("__debug__" : Str)) = false := by decide) (hall : (backToKw pos (keywordEach [⟨some z, e, kp⟩, ⟨some x, e2, kq⟩] X.env)).all (·.1.isSome) = true := by rfl) (hks : (backToKw pos (keywordEach [⟨some z, e, kp⟩, ⟨some x, e2, kq⟩] X.env)).filterMap (·.1) = [z, x] := by rfl)
    (hpl : ((backTo pos (starEach [] X.env)).any (·.1) || (backToKw pos (keywordEach [⟨some z, e, kp⟩, ⟨some x, e2, kq⟩] X.env)).any (·.1.isNone)) = false := by rfl) :
    PD X (.Call (.Name c p) [] [⟨some z, e, kp⟩, ⟨some x, e2, kq⟩] pos) (dExn2 c fz fx (dCons te (dCons te2 dNil))) := by
  obtain ⟨t1, pe1, le1⟩ := he0
  obtain ⟨t2, pe2, le2⟩ := he2
  exact ⟨_, pe_of_pmk (pmk_x2W T hr hg hm hsup pe1 pe2 hdb hall hks hpl), lk_exn2 hn (lk_cons2 le1 le2)⟩
end
open PySem PySem.W PySem.Calls PyProof.Rows L2 PySem.HandSPX
theorem xcls2_mk {K : PySem.W.Frag} {P : Program} {C fI : Addr} {x z fx fz : Str} {oc : Value} {od : Option Addr} {qual : Str} {params : Arguments} {body : List Stmt} {scope : Scope} {dV kV doc pm : Value} {an : Option Addr} {cda : Addr} {ct : Value} {cc : Addr} {osl : Array (Option Value)} {p0 p1 p2 p3 p4 p5 p6 p7 p8 p9 r3 r6 r7 r8 r9 : Pos} {ar : Arg} {ccl : Value} {cdd : Option Addr} {vs : Array Value} {ccs : Array (Option Value)} {file : Str} {tf : Tok} {cl : Value} {cld : Option Addr} {csl : Array (Option Value)} {cd : ClassData}
    (at_ : findIn K (.ref C) "__init__" = some (some (.ref fI)))
    (lk : K.lookup fI = some ⟨oc, od, .func (ksFn "__init__" qual params body scope dV kV doc pm an (.ref cda) ct cc), osl⟩)
    (hcd : codeIn K (.ref cda) qual = true)
    (hb : body = [.Expr (.Call (.Attribute (.Call (.Name "super" p0) [] [] p1) "__init__" p2) [.Name x p3, .Name z r3] [] p4) p5, .Assign [.Attribute (.Name "self" p6) fx p7] (.Name x p8) p9, .Assign [.Attribute (.Name "self" r6) fz r7] (.Name z r8) r9])
    (hpar : (params.posonlyargs ++ params.args).head? = some ar) (har : ar.arg = "self")
    (hbd : ∀ a u v, bindArgs (ksFn "__init__" qual params body scope dV kV doc pm an (.ref cda) ct cc) ⟨[a, u, v], []⟩ = pure [(("self" : Str), a), (x, u), (z, v)])
    (hsc : scope.names.lookup ("super" : Str) = some .globalImplicit ∧ scope.names.lookup ("__class__" : Str) = some .free ∧ scope.names.lookup ("self" : Str) = some .local ∧ scope.names.lookup x = some .local ∧ scope.names.lookup z = some .local ∧ scope.kind = .function ∧ (∀ y ∈ scope.names, y.2 ≠ .cell) ∧ scope.isCoroutine = false ∧ scope.isGenerator = false)
    (hsh : ∀ L, interactive (ksEnv qual scope L fI (.ref cda) cc) = false ∧ swapsWith (.Call (.Attribute (.Call (.Name "super" p0) [] [] p1) "__init__" p2) [.Name x p3, .Name z r3] [] p4) none p5.line (ksEnv qual scope L fI (.ref cda) cc) = pure false ∧ swapsWith (.Name x p8) (some (.Attribute (.Name "self" p6) fx p7)) p9.line (ksEnv qual scope L fI (.ref cda) cc) = pure false ∧ swapsWith (.Name z r8) (some (.Attribute (.Name "self" r6) fz r7)) r9.line (ksEnv qual scope L fI (.ref cda) cc) = pure false ∧
      ∃ pl : Sem Bool, eval (.Call (.Attribute (.Call (.Name "super" p0) [] [] p1) "__init__" p2) [.Name x p3, .Name z r3] [] p4) (ksEnv qual scope L fI (.ref cda) cc) = (do
        let ov ← attributeBase (.Call (.Name "super" p0) [] [] p1) "__init__" (ksEnv qual scope L fI (.ref cda) cc) (eval (.Call (.Name "super" p0) [] [] p1) (ksEnv qual scope L fI (.ref cda) cc))
        standAt p2.atName
        let (f, first) ← holding [ov] (getMethod ov "__init__" pl)
        callWith p4 f first (backTo p4 (starEach [.Name x p3, .Name z r3] (ksEnv qual scope L fI (.ref cda) cc))) []))
    (hcode : K.lookup cda = some ⟨ccl, cdd, .fields vs, ccs⟩) (hvs : vs[2]? = some (.str file tf)) (hfile : ((P.main.file : Str) == file) = true) (hcc : K.lookup cc = some ⟨cl, cld, .cell (some (.ref C)), csl⟩)
    (top : (P.main.scope.names.lookup ("super" : Str)).isSome = false) (xs : x ≠ "self" ∧ (x == ("__debug__" : Str)) = false ∧ z ≠ "self" ∧ (z == ("__debug__" : Str)) = false ∧ x ≠ z)
    (hcl : clsIn K C = some cd) (hdi : cd.hasDict = true) (hm : refsVE cd.mro = true)
    (sub : mroIn K C (.ref C) = some true) (ho : nsIn K cStatics "thirdparty.any" = some none) (sup : ks_superIn K C C "__init__" = some (some (.builtin "ValueError.__init__")))
    (ve : subIn K (.ref C) (.type "ValueError") = some true) (nw : excInitIn K C veTail "ValueError.__new__" = true) (sa : findIn K (.ref C) "__setattr__" = some (some (.builtin "object.__setattr__"))) (no : findIn K (.ref C) fx = some none) (nz : findIn K (.ref C) fz = some none)
    (fn : typeIn K (.ref fI) = some (.type "function")) (exC : subIn K (.ref C) (.type "BaseException") = some true) (tyC : typeIn K (.ref C) = some (.type "type")) (kC : keepIn K (.ref C) = true) : XCls2 K P C fI x z fx fz := by
  subst hb
  exact ⟨⟨⟨oc, od, qual, params, scope, dV, kV, doc, pm, an, cda, ct, cc, osl, p0, p1, p2, p3, p4, p5, p6, p7, p8, p9, r3, r6, r7, r8, r9, ar, ccl, cdd, vs, ccs, file, tf, cl, cld, csl, lk, hcd, hpar, har, hbd, hsc, hsh, hcode, hvs, hfile, hcc⟩, top, xs, ⟨cd, hcl, hdi, hm⟩, sub, ho, sup, ve, nw, sa, no, nz⟩, at_, fn, exC, tyC, kC⟩
theorem xcls2_mkW {K : PySem.W.Frag} {P : Program} {C fI : Addr} {x z fx fz : Str} {oc : Value} {od : Option Addr} {qual : Str} {params : Arguments} {body : List Stmt} {scope : Scope} {dV kV doc pm : Value} {an : Option Addr} {cda : Addr} {ct : Value} {cc : Addr} {osl : Array (Option Value)} {p0 p1 p2 p3 p4 p5 p6 p7 p8 p9 r3 r6 r7 r8 r9 : Pos} {ar : Arg} {ccl : Value} {cdd : Option Addr} {vs : Array Value} {ccs : Array (Option Value)} {file : Str} {tf : Tok} {cl : Value} {cld : Option Addr} {csl : Array (Option Value)} {cd : ClassData}
    (at_ : findIn K (.ref C) "__init__" = some (some (.ref fI)))
    (lk : K.lookup fI = some ⟨oc, od, .func (ksFn "__init__" qual params body scope dV kV doc pm an (.ref cda) ct cc), osl⟩)
    (hcd : codeIn K (.ref cda) qual = true)
    (hb : body = [.Expr (.Call (.Attribute (.Call (.Name "super" p0) [] [] p1) "__init__" p2) [.Name x p3, .Name z r3] [] p4) p5, .Assign [.Attribute (.Name "self" p6) fx p7] (.Name x p8) p9, .Assign [.Attribute (.Name "self" r6) fz r7] (.Name z r8) r9])
    (hpar : (params.posonlyargs ++ params.args).head? = some ar) (har : ar.arg = "self")
    (hbd : ∀ a u v, bindArgs (ksFn "__init__" qual params body scope dV kV doc pm an (.ref cda) ct cc) ⟨[a], [(z, v), (x, u)]⟩ = pure [(("self" : Str), a), (x, u), (z, v)])
    (hsc : scope.names.lookup ("super" : Str) = some .globalImplicit ∧ scope.names.lookup ("__class__" : Str) = some .free ∧ scope.names.lookup ("self" : Str) = some .local ∧ scope.names.lookup x = some .local ∧ scope.names.lookup z = some .local ∧ scope.kind = .function ∧ (∀ y ∈ scope.names, y.2 ≠ .cell) ∧ scope.isCoroutine = false ∧ scope.isGenerator = false)
    (hsh : ∀ L, interactive (ksEnv qual scope L fI (.ref cda) cc) = false ∧ swapsWith (.Call (.Attribute (.Call (.Name "super" p0) [] [] p1) "__init__" p2) [.Name x p3, .Name z r3] [] p4) none p5.line (ksEnv qual scope L fI (.ref cda) cc) = pure false ∧ swapsWith (.Name x p8) (some (.Attribute (.Name "self" p6) fx p7)) p9.line (ksEnv qual scope L fI (.ref cda) cc) = pure false ∧ swapsWith (.Name z r8) (some (.Attribute (.Name "self" r6) fz r7)) r9.line (ksEnv qual scope L fI (.ref cda) cc) = pure false ∧
      ∃ pl : Sem Bool, eval (.Call (.Attribute (.Call (.Name "super" p0) [] [] p1) "__init__" p2) [.Name x p3, .Name z r3] [] p4) (ksEnv qual scope L fI (.ref cda) cc) = (do
        let ov ← attributeBase (.Call (.Name "super" p0) [] [] p1) "__init__" (ksEnv qual scope L fI (.ref cda) cc) (eval (.Call (.Name "super" p0) [] [] p1) (ksEnv qual scope L fI (.ref cda) cc))
        standAt p2.atName
        let (f, first) ← holding [ov] (getMethod ov "__init__" pl)
        callWith p4 f first (backTo p4 (starEach [.Name x p3, .Name z r3] (ksEnv qual scope L fI (.ref cda) cc))) []))
    (hcode : K.lookup cda = some ⟨ccl, cdd, .fields vs, ccs⟩) (hvs : vs[2]? = some (.str file tf)) (hfile : ((P.main.file : Str) == file) = true) (hcc : K.lookup cc = some ⟨cl, cld, .cell (some (.ref C)), csl⟩)
    (top : (P.main.scope.names.lookup ("super" : Str)).isSome = false) (xs : x ≠ "self" ∧ (x == ("__debug__" : Str)) = false ∧ z ≠ "self" ∧ (z == ("__debug__" : Str)) = false ∧ x ≠ z)
    (hcl : clsIn K C = some cd) (hdi : cd.hasDict = true) (hm : refsVE cd.mro = true)
    (sub : mroIn K C (.ref C) = some true) (ho : nsIn K cStatics "thirdparty.any" = some none) (sup : ks_superIn K C C "__init__" = some (some (.builtin "ValueError.__init__")))
    (ve : subIn K (.ref C) (.type "ValueError") = some true) (nw : excInitIn K C veTail "ValueError.__new__" = true) (sa : findIn K (.ref C) "__setattr__" = some (some (.builtin "object.__setattr__"))) (no : findIn K (.ref C) fx = some none) (nz : findIn K (.ref C) fz = some none)
    (fn : typeIn K (.ref fI) = some (.type "function")) (exC : subIn K (.ref C) (.type "BaseException") = some true) (tyC : typeIn K (.ref C) = some (.type "type")) (kC : keepIn K (.ref C) = true) (ne : ¬ fx = fz) : XCls2W K P C fI x z fx fz := by
  subst hb
  exact ⟨⟨⟨oc, od, qual, params, scope, dV, kV, doc, pm, an, cda, ct, cc, osl, p0, p1, p2, p3, p4, p5, p6, p7, p8, p9, r3, r6, r7, r8, r9, ar, ccl, cdd, vs, ccs, file, tf, cl, cld, csl, lk, hcd, hpar, har, hbd, hsc, hsh, hcode, hvs, hfile, hcc⟩, top, xs, ⟨cd, hcl, hdi, hm⟩, sub, ho, sup, ve, nw, sa, no, nz⟩, at_, fn, exC, tyC, kC, ne⟩
end FD

/-! the readings of the defs, printed by gen.py -/
namespace K01
open PySem L2 FD

def ms_BadEntry : Str → Option Bool := tab [("BadEntry", true), ("BadKind", false), ("BadLine", false), ("BadName", false), ("BadTree", false), ("Clash", false), ("Conflict", false), ("Failed", false), ("Gap", false), ("Halted", false), ("Mismatch", false), ("NoPlace", false), ("NoRow", false), ("NoTarget", false), ("NoVersion", false), ("NotAsked", false), ("NotCause", false), ("NotFresh", false), ("NotNeeded", false), ("NotOpen", false), ("NotPart", false), ("NotSettled", false), ("NotSource", false), ("Rewritten", false), ("Stuck", false), ("Taken", false)]
def ms_BadKind : Str → Option Bool := tab [("BadEntry", false), ("BadKind", true), ("BadLine", false), ("BadName", false), ("BadTree", false), ("Clash", false), ("Conflict", false), ("Failed", false), ("Gap", false), ("Halted", false), ("Mismatch", false), ("NoPlace", false), ("NoRow", false), ("NoTarget", false), ("NoVersion", false), ("NotAsked", false), ("NotCause", false), ("NotFresh", false), ("NotNeeded", false), ("NotOpen", false), ("NotPart", false), ("NotSettled", false), ("NotSource", false), ("Rewritten", false), ("Stuck", false), ("Taken", false)]
def ms_BadLine : Str → Option Bool := tab [("BadEntry", false), ("BadKind", false), ("BadLine", true), ("BadName", false), ("BadTree", false), ("Clash", false), ("Conflict", false), ("Failed", false), ("Gap", false), ("Halted", false), ("Mismatch", false), ("NoPlace", false), ("NoRow", false), ("NoTarget", false), ("NoVersion", false), ("NotAsked", false), ("NotCause", false), ("NotFresh", false), ("NotNeeded", false), ("NotOpen", false), ("NotPart", false), ("NotSettled", false), ("NotSource", false), ("Rewritten", false), ("Stuck", false), ("Taken", false)]
def ms_BadName : Str → Option Bool := tab [("BadEntry", false), ("BadKind", false), ("BadLine", false), ("BadName", true), ("BadTree", false), ("Clash", false), ("Conflict", false), ("Failed", false), ("Gap", false), ("Halted", false), ("Mismatch", false), ("NoPlace", false), ("NoRow", false), ("NoTarget", false), ("NoVersion", false), ("NotAsked", false), ("NotCause", false), ("NotFresh", false), ("NotNeeded", false), ("NotOpen", false), ("NotPart", false), ("NotSettled", false), ("NotSource", false), ("Rewritten", false), ("Stuck", false), ("Taken", false)]
def ms_BadTree : Str → Option Bool := tab [("BadEntry", false), ("BadKind", false), ("BadLine", false), ("BadName", false), ("BadTree", true), ("Clash", false), ("Conflict", false), ("Failed", false), ("Gap", false), ("Halted", false), ("Mismatch", false), ("NoPlace", false), ("NoRow", false), ("NoTarget", false), ("NoVersion", false), ("NotAsked", false), ("NotCause", false), ("NotFresh", false), ("NotNeeded", false), ("NotOpen", false), ("NotPart", false), ("NotSettled", false), ("NotSource", false), ("Rewritten", false), ("Stuck", false), ("Taken", false)]
def ms_BuildError : Str → Option Bool := tab [("BadEntry", true), ("BadKind", true), ("BadLine", true), ("BadName", true), ("BadTree", true), ("Clash", true), ("Conflict", true), ("Failed", true), ("Gap", true), ("Halted", true), ("Mismatch", true), ("NoPlace", true), ("NoRow", true), ("NoTarget", true), ("NoVersion", false), ("NotAsked", false), ("NotCause", true), ("NotFresh", true), ("NotNeeded", true), ("NotOpen", true), ("NotPart", true), ("NotSettled", true), ("NotSource", true), ("Rewritten", true), ("Stuck", true), ("Taken", true)]
def ms_Clash : Str → Option Bool := tab [("BadEntry", false), ("BadKind", false), ("BadLine", false), ("BadName", false), ("BadTree", false), ("Clash", true), ("Conflict", false), ("Failed", false), ("Gap", false), ("Halted", false), ("Mismatch", false), ("NoPlace", false), ("NoRow", false), ("NoTarget", false), ("NoVersion", false), ("NotAsked", false), ("NotCause", false), ("NotFresh", false), ("NotNeeded", false), ("NotOpen", false), ("NotPart", false), ("NotSettled", false), ("NotSource", false), ("Rewritten", false), ("Stuck", false), ("Taken", false)]
def ms_Conflict : Str → Option Bool := tab [("BadEntry", false), ("BadKind", false), ("BadLine", false), ("BadName", false), ("BadTree", false), ("Clash", false), ("Conflict", true), ("Failed", false), ("Gap", false), ("Halted", false), ("Mismatch", false), ("NoPlace", false), ("NoRow", false), ("NoTarget", false), ("NoVersion", false), ("NotAsked", false), ("NotCause", false), ("NotFresh", false), ("NotNeeded", false), ("NotOpen", false), ("NotPart", false), ("NotSettled", false), ("NotSource", false), ("Rewritten", false), ("Stuck", false), ("Taken", false)]
def ms_Failed : Str → Option Bool := tab [("BadEntry", false), ("BadKind", false), ("BadLine", false), ("BadName", false), ("BadTree", false), ("Clash", false), ("Conflict", false), ("Failed", true), ("Gap", false), ("Halted", false), ("Mismatch", false), ("NoPlace", false), ("NoRow", false), ("NoTarget", false), ("NoVersion", false), ("NotAsked", false), ("NotCause", false), ("NotFresh", false), ("NotNeeded", false), ("NotOpen", false), ("NotPart", false), ("NotSettled", false), ("NotSource", false), ("Rewritten", false), ("Stuck", false), ("Taken", false)]
def ms_Gap : Str → Option Bool := tab [("BadEntry", false), ("BadKind", false), ("BadLine", false), ("BadName", false), ("BadTree", false), ("Clash", false), ("Conflict", false), ("Failed", false), ("Gap", true), ("Halted", false), ("Mismatch", false), ("NoPlace", false), ("NoRow", false), ("NoTarget", false), ("NoVersion", false), ("NotAsked", false), ("NotCause", false), ("NotFresh", false), ("NotNeeded", false), ("NotOpen", false), ("NotPart", false), ("NotSettled", false), ("NotSource", false), ("Rewritten", false), ("Stuck", false), ("Taken", false)]
def ms_Halted : Str → Option Bool := tab [("BadEntry", false), ("BadKind", false), ("BadLine", false), ("BadName", false), ("BadTree", false), ("Clash", false), ("Conflict", false), ("Failed", false), ("Gap", false), ("Halted", true), ("Mismatch", false), ("NoPlace", false), ("NoRow", false), ("NoTarget", false), ("NoVersion", false), ("NotAsked", false), ("NotCause", false), ("NotFresh", false), ("NotNeeded", false), ("NotOpen", false), ("NotPart", false), ("NotSettled", false), ("NotSource", false), ("Rewritten", false), ("Stuck", false), ("Taken", false)]
def ms_IndexError : Str → Option Bool := tab [("BadEntry", false), ("BadKind", false), ("BadLine", false), ("BadName", false), ("BadTree", false), ("Clash", false), ("Conflict", false), ("Failed", false), ("Gap", false), ("Halted", false), ("Mismatch", false), ("NoPlace", false), ("NoRow", false), ("NoTarget", false), ("NoVersion", true), ("NotAsked", false), ("NotCause", false), ("NotFresh", false), ("NotNeeded", false), ("NotOpen", false), ("NotPart", false), ("NotSettled", false), ("NotSource", false), ("Rewritten", false), ("Stuck", false), ("Taken", false)]
def ms_KeyError : Str → Option Bool := tab [("BadEntry", false), ("BadKind", false), ("BadLine", false), ("BadName", false), ("BadTree", false), ("Clash", false), ("Conflict", false), ("Failed", false), ("Gap", false), ("Halted", false), ("Mismatch", false), ("NoPlace", false), ("NoRow", false), ("NoTarget", false), ("NoVersion", false), ("NotAsked", true), ("NotCause", false), ("NotFresh", false), ("NotNeeded", false), ("NotOpen", false), ("NotPart", false), ("NotSettled", false), ("NotSource", false), ("Rewritten", false), ("Stuck", false), ("Taken", false)]
def ms_LookupError : Str → Option Bool := tab [("BadEntry", false), ("BadKind", false), ("BadLine", false), ("BadName", false), ("BadTree", false), ("Clash", false), ("Conflict", false), ("Failed", false), ("Gap", false), ("Halted", false), ("Mismatch", false), ("NoPlace", false), ("NoRow", false), ("NoTarget", false), ("NoVersion", true), ("NotAsked", true), ("NotCause", false), ("NotFresh", false), ("NotNeeded", false), ("NotOpen", false), ("NotPart", false), ("NotSettled", false), ("NotSource", false), ("Rewritten", false), ("Stuck", false), ("Taken", false)]
def ms_Mismatch : Str → Option Bool := tab [("BadEntry", false), ("BadKind", false), ("BadLine", false), ("BadName", false), ("BadTree", false), ("Clash", false), ("Conflict", false), ("Failed", false), ("Gap", false), ("Halted", false), ("Mismatch", true), ("NoPlace", false), ("NoRow", false), ("NoTarget", false), ("NoVersion", false), ("NotAsked", false), ("NotCause", false), ("NotFresh", false), ("NotNeeded", false), ("NotOpen", false), ("NotPart", false), ("NotSettled", false), ("NotSource", false), ("Rewritten", false), ("Stuck", false), ("Taken", false)]
def ms_NoPlace : Str → Option Bool := tab [("BadEntry", false), ("BadKind", false), ("BadLine", false), ("BadName", false), ("BadTree", false), ("Clash", false), ("Conflict", false), ("Failed", false), ("Gap", false), ("Halted", false), ("Mismatch", false), ("NoPlace", true), ("NoRow", false), ("NoTarget", false), ("NoVersion", false), ("NotAsked", false), ("NotCause", false), ("NotFresh", false), ("NotNeeded", false), ("NotOpen", false), ("NotPart", false), ("NotSettled", false), ("NotSource", false), ("Rewritten", false), ("Stuck", false), ("Taken", false)]
def ms_NoRow : Str → Option Bool := tab [("BadEntry", false), ("BadKind", false), ("BadLine", false), ("BadName", false), ("BadTree", false), ("Clash", false), ("Conflict", false), ("Failed", false), ("Gap", false), ("Halted", false), ("Mismatch", false), ("NoPlace", false), ("NoRow", true), ("NoTarget", false), ("NoVersion", false), ("NotAsked", false), ("NotCause", false), ("NotFresh", false), ("NotNeeded", false), ("NotOpen", false), ("NotPart", false), ("NotSettled", false), ("NotSource", false), ("Rewritten", false), ("Stuck", false), ("Taken", false)]
def ms_NoTarget : Str → Option Bool := tab [("BadEntry", false), ("BadKind", false), ("BadLine", false), ("BadName", false), ("BadTree", false), ("Clash", false), ("Conflict", false), ("Failed", false), ("Gap", false), ("Halted", false), ("Mismatch", false), ("NoPlace", false), ("NoRow", false), ("NoTarget", true), ("NoVersion", false), ("NotAsked", false), ("NotCause", false), ("NotFresh", false), ("NotNeeded", false), ("NotOpen", false), ("NotPart", false), ("NotSettled", false), ("NotSource", false), ("Rewritten", false), ("Stuck", false), ("Taken", false)]
def ms_NoVersion : Str → Option Bool := tab [("BadEntry", false), ("BadKind", false), ("BadLine", false), ("BadName", false), ("BadTree", false), ("Clash", false), ("Conflict", false), ("Failed", false), ("Gap", false), ("Halted", false), ("Mismatch", false), ("NoPlace", false), ("NoRow", false), ("NoTarget", false), ("NoVersion", true), ("NotAsked", false), ("NotCause", false), ("NotFresh", false), ("NotNeeded", false), ("NotOpen", false), ("NotPart", false), ("NotSettled", false), ("NotSource", false), ("Rewritten", false), ("Stuck", false), ("Taken", false)]
def ms_NotAsked : Str → Option Bool := tab [("BadEntry", false), ("BadKind", false), ("BadLine", false), ("BadName", false), ("BadTree", false), ("Clash", false), ("Conflict", false), ("Failed", false), ("Gap", false), ("Halted", false), ("Mismatch", false), ("NoPlace", false), ("NoRow", false), ("NoTarget", false), ("NoVersion", false), ("NotAsked", true), ("NotCause", false), ("NotFresh", false), ("NotNeeded", false), ("NotOpen", false), ("NotPart", false), ("NotSettled", false), ("NotSource", false), ("Rewritten", false), ("Stuck", false), ("Taken", false)]
def ms_NotCause : Str → Option Bool := tab [("BadEntry", false), ("BadKind", false), ("BadLine", false), ("BadName", false), ("BadTree", false), ("Clash", false), ("Conflict", false), ("Failed", false), ("Gap", false), ("Halted", false), ("Mismatch", false), ("NoPlace", false), ("NoRow", false), ("NoTarget", false), ("NoVersion", false), ("NotAsked", false), ("NotCause", true), ("NotFresh", false), ("NotNeeded", false), ("NotOpen", false), ("NotPart", false), ("NotSettled", false), ("NotSource", false), ("Rewritten", false), ("Stuck", false), ("Taken", false)]
def ms_NotFresh : Str → Option Bool := tab [("BadEntry", false), ("BadKind", false), ("BadLine", false), ("BadName", false), ("BadTree", false), ("Clash", false), ("Conflict", false), ("Failed", false), ("Gap", false), ("Halted", false), ("Mismatch", false), ("NoPlace", false), ("NoRow", false), ("NoTarget", false), ("NoVersion", false), ("NotAsked", false), ("NotCause", false), ("NotFresh", true), ("NotNeeded", false), ("NotOpen", false), ("NotPart", false), ("NotSettled", false), ("NotSource", false), ("Rewritten", false), ("Stuck", false), ("Taken", false)]
def ms_NotNeeded : Str → Option Bool := tab [("BadEntry", false), ("BadKind", false), ("BadLine", false), ("BadName", false), ("BadTree", false), ("Clash", false), ("Conflict", false), ("Failed", false), ("Gap", false), ("Halted", false), ("Mismatch", false), ("NoPlace", false), ("NoRow", false), ("NoTarget", false), ("NoVersion", false), ("NotAsked", false), ("NotCause", false), ("NotFresh", false), ("NotNeeded", true), ("NotOpen", false), ("NotPart", false), ("NotSettled", false), ("NotSource", false), ("Rewritten", false), ("Stuck", false), ("Taken", false)]
def ms_NotOpen : Str → Option Bool := tab [("BadEntry", false), ("BadKind", false), ("BadLine", false), ("BadName", false), ("BadTree", false), ("Clash", false), ("Conflict", false), ("Failed", false), ("Gap", false), ("Halted", false), ("Mismatch", false), ("NoPlace", false), ("NoRow", false), ("NoTarget", false), ("NoVersion", false), ("NotAsked", false), ("NotCause", false), ("NotFresh", false), ("NotNeeded", false), ("NotOpen", true), ("NotPart", false), ("NotSettled", false), ("NotSource", false), ("Rewritten", false), ("Stuck", false), ("Taken", false)]
def ms_NotPart : Str → Option Bool := tab [("BadEntry", false), ("BadKind", false), ("BadLine", false), ("BadName", false), ("BadTree", false), ("Clash", false), ("Conflict", false), ("Failed", false), ("Gap", false), ("Halted", false), ("Mismatch", false), ("NoPlace", false), ("NoRow", false), ("NoTarget", false), ("NoVersion", false), ("NotAsked", false), ("NotCause", false), ("NotFresh", false), ("NotNeeded", false), ("NotOpen", false), ("NotPart", true), ("NotSettled", false), ("NotSource", false), ("Rewritten", false), ("Stuck", false), ("Taken", false)]
def ms_NotSettled : Str → Option Bool := tab [("BadEntry", false), ("BadKind", false), ("BadLine", false), ("BadName", false), ("BadTree", false), ("Clash", false), ("Conflict", false), ("Failed", false), ("Gap", false), ("Halted", false), ("Mismatch", false), ("NoPlace", false), ("NoRow", false), ("NoTarget", false), ("NoVersion", false), ("NotAsked", false), ("NotCause", false), ("NotFresh", false), ("NotNeeded", false), ("NotOpen", false), ("NotPart", false), ("NotSettled", true), ("NotSource", false), ("Rewritten", false), ("Stuck", false), ("Taken", false)]
def ms_NotSource : Str → Option Bool := tab [("BadEntry", false), ("BadKind", false), ("BadLine", false), ("BadName", false), ("BadTree", false), ("Clash", false), ("Conflict", false), ("Failed", false), ("Gap", false), ("Halted", false), ("Mismatch", false), ("NoPlace", false), ("NoRow", false), ("NoTarget", false), ("NoVersion", false), ("NotAsked", false), ("NotCause", false), ("NotFresh", false), ("NotNeeded", false), ("NotOpen", false), ("NotPart", false), ("NotSettled", false), ("NotSource", true), ("Rewritten", false), ("Stuck", false), ("Taken", false)]
def ms_Rewritten : Str → Option Bool := tab [("BadEntry", false), ("BadKind", false), ("BadLine", false), ("BadName", false), ("BadTree", false), ("Clash", false), ("Conflict", false), ("Failed", false), ("Gap", false), ("Halted", false), ("Mismatch", false), ("NoPlace", false), ("NoRow", false), ("NoTarget", false), ("NoVersion", false), ("NotAsked", false), ("NotCause", false), ("NotFresh", false), ("NotNeeded", false), ("NotOpen", false), ("NotPart", false), ("NotSettled", false), ("NotSource", false), ("Rewritten", true), ("Stuck", false), ("Taken", false)]
def ms_Stuck : Str → Option Bool := tab [("BadEntry", false), ("BadKind", false), ("BadLine", false), ("BadName", false), ("BadTree", false), ("Clash", false), ("Conflict", false), ("Failed", false), ("Gap", false), ("Halted", false), ("Mismatch", false), ("NoPlace", false), ("NoRow", false), ("NoTarget", false), ("NoVersion", false), ("NotAsked", false), ("NotCause", false), ("NotFresh", false), ("NotNeeded", false), ("NotOpen", false), ("NotPart", false), ("NotSettled", false), ("NotSource", false), ("Rewritten", false), ("Stuck", true), ("Taken", false)]
def ms_Taken : Str → Option Bool := tab [("BadEntry", false), ("BadKind", false), ("BadLine", false), ("BadName", false), ("BadTree", false), ("Clash", false), ("Conflict", false), ("Failed", false), ("Gap", false), ("Halted", false), ("Mismatch", false), ("NoPlace", false), ("NoRow", false), ("NoTarget", false), ("NoVersion", false), ("NotAsked", false), ("NotCause", false), ("NotFresh", false), ("NotNeeded", false), ("NotOpen", false), ("NotPart", false), ("NotSettled", false), ("NotSource", false), ("Rewritten", false), ("Stuck", false), ("Taken", true)]
def ms_ValueError : Str → Option Bool := tab [("BadEntry", true), ("BadKind", true), ("BadLine", true), ("BadName", true), ("BadTree", true), ("Clash", true), ("Conflict", true), ("Failed", true), ("Gap", true), ("Halted", true), ("Mismatch", true), ("NoPlace", true), ("NoRow", true), ("NoTarget", true), ("NoVersion", false), ("NotAsked", false), ("NotCause", true), ("NotFresh", true), ("NotNeeded", true), ("NotOpen", true), ("NotPart", true), ("NotSettled", true), ("NotSource", true), ("Rewritten", true), ("Stuck", true), ("Taken", true)]
def N_feed_of : List Str := ["_law_script", "_law_k", "_law_cell", "_law_great"]
def t_feed_of : DS := (dSeq (dAsg (dOp addD (dOp mulD (dC (.int 9029)) (dVar 1)) (dC (.int 31))) (gnD 2))
    (dSeq (dIfS (dBool (dOp ltD (dVar 1) (dCB lenD (dCons (dVar 0) dNil)))) (dAsg (dOp ixD (dVar 0) (dVar 1)) (gnD 2)) dNext)
    (dSeq (dIfS (dBool (dOp ltD (dVar 2) (dC (.int 0)))) (dAsg (dOp subD (dC (.int 5)) (dOp mulD (dC (.int 7)) (dVar 2))) (gnD 2)) dNext)
    (dSeq (dAsg (dIf (dBool (dOp geD (dVar 2) (dOp powD (dC (.int 10)) (dC (.int 18))))) (dVar 2) (dC (.int 0))) (gnD 3))
    (dRet (dLst (dCons (dVar 3) (dCons (dOp addD (dOp addD (dOp modD (dVar 2) (dC (.int 1000003))) (dOp mulD (dC (.int 11)) (dVar 1))) (dC (.int 1))) dNil))))))))
abbrev sp_feed_of : DSp := self N_feed_of 2 t_feed_of
def N_draw : List Str := ["_law_feed", "_law_many", "_law_digit"]
def t_draw : DS := (dSeq (dIfS (dBool (dOp gtD' (dOp ixD (dVar 0) (dC (.int 0))) (dC (.int 0)))) (dSeq (dAsg (dOp modD (dOp ixD (dVar 0) (dC (.int 0))) (dVar 1)) (gnD 2))
    (dSeq (dAsg (dOp fdivD (dOp ixD (dVar 0) (dC (.int 0))) (dVar 1)) (gsD (dVar 0) (dC (.int 0)) setLD))
    (dRet (dVar 2)))) dNext)
    (dSeq (dAsg (dOp modD (dOp addD (dOp mulD (dOp ixD (dVar 0) (dC (.int 1))) (dC (.int 48271))) (dC (.int 11))) (dC (.int 2147483647))) (gsD (dVar 0) (dC (.int 1)) setLD))
    (dRet (dOp modD (dOp fdivD (dOp ixD (dVar 0) (dC (.int 1))) (dC (.int 127))) (dVar 1)))))
abbrev sp_draw : DSp := self N_draw 2 t_draw
def N_pick : List Str := ["_law_feed", "_law_items"]
def t_pick : DS := (dRet (dOp ixD (dVar 1) (dCall sp_draw (dCons (dVar 0) (dCons (dCB lenD (dCons (dVar 1) dNil)) dNil)))))
abbrev sp_pick : DSp := self N_pick 2 t_pick
def N_calls : List Str := []
def t_calls : DS := (dRet (dLst (dCons (dC (.str "make")) (dCons (dC (.str "")) (dCons (dC (.str "r 2")) (dCons (dC (.str "Mend!")) (dCons (dC (.str "m")) dNil)))))))
abbrev sp_calls : DSp := self N_calls 0 t_calls
def N_some_text : List Str := ["_law_feed", "_law_form", "_law_many"]
def t_some_text : DS := (dSeq (dAsg (dCall sp_draw (dCons (dVar 0) (dCons (dC (.int 8)) dNil))) (gnD 1))
    (dSeq (dIfS (dBool (dOp (eqD false) (dVar 1) (dC (.int 7)))) (dRet (dCall sp_pick (dCons (dVar 0) (dCons (dCall sp_calls dNil) dNil)))) dNext)
    (dSeq (dIfS (dBool (dOp (eqD false) (dVar 1) (dC (.int 6)))) (dSeq (dAsg (dOp ixD (dLst (dCons (dOp addD (dC (.int 1)) (dCall sp_draw (dCons (dVar 0) (dCons (dC (.int 90)) dNil)))) (dCons (dC (.int 400)) dNil))) (dOp fdivD (dCall sp_draw (dCons (dVar 0) (dCons (dC (.int 7)) dNil))) (dC (.int 6)))) (gnD 2))
    (dRet (dCall sp_pick (dCons (dVar 0) (dCons (dLst (dCons (dC (.str " ")) (dCons (dC (.str "a b")) (dCons (dC (.str "\"")) (dCons (dC (.str "~")) (dCons (dC (.str "None")) (dCons (dOp mulD (dC (.str "x")) (dVar 2)) (dCons (dC (.str "read")) (dCons (dC (.str "write")) (dCons (dC (.str "stop")) (dCons (dC (.str "o")) dNil))))))))))) dNil))))) dNext)
    (dRet (dOp ixD (dLst (dCons (dC (.str "0")) (dCons (dC (.str "1")) (dCons (dC (.str "0")) (dCons (dC (.str "1")) (dCons (dC (.str "")) (dCons (dC (.str "10")) dNil))))))) (dVar 1))))))
abbrev sp_some_text : DSp := self N_some_text 1 t_some_text
def N_any_value : List Str := ["_law_feed", "_law_form"]
def t_any_value : DS := (dSeq (dAsg (dCall sp_draw (dCons (dVar 0) (dCons (dC (.int 7)) dNil))) (gnD 1))
    (dSeq (dIfS (dBool (dOp (eqD false) (dVar 1) (dC (.int 0)))) (dRet (dTup (dCons (dCall sp_some_text (dCons (dVar 0) dNil)) (dCons (dTup (dCons (dCall sp_draw (dCons (dVar 0) (dCons (dC (.int 9)) dNil))) (dCons (dC .non) dNil))) dNil)))) dNext)
    (dRet (dOp ixD (dLst (dCons (dC .non) (dCons (dC (.bl true)) (dCons (dOp subD (dC (.int 0)) (dCall sp_draw (dCons (dVar 0) (dCons (dC (.int 99)) dNil)))) (dCons (dOp powD (dC (.int 10)) (dC (.int 30))) (dCons (dCall sp_some_text (dCons (dVar 0) dNil)) (dCons (dTup dNil) dNil))))))) (dOp subD (dVar 1) (dC (.int 1)))))))
abbrev sp_any_value : DSp := self N_any_value 1 t_any_value
def N_with_places : List Str := ["_law_a", "_law_one", "_law_two", "_law_three", "_law_four", "_law_five", "_law_six", "_law_seven", "_law_eight", "_law_nine", "_law_ten"]
def t_with_places : DS := (dSeq (dPar3 1 2 3 (dCons (dExn "Clash" "spot" (dCons (dVar 0) dNil)) (dCons (dExn "Gap" "spot" (dCons (dVar 0) dNil)) (dCons (dExn "Rewritten" "spot" (dCons (dVar 0) dNil)) dNil))))
    (dSeq (dAsg (dTup (dCons (dExn "NoPlace" "spot" (dCons (dVar 0) dNil)) (dCons (dExn "NotNeeded" "spot" (dCons (dVar 0) dNil)) (dCons (dExn "NotPart" "spot" (dCons (dVar 0) dNil)) (dCons (dExn "BadTree" "path" (dCons (dVar 0) dNil)) dNil))))) (gtD 4 (gtCons (gnD 4) (gtCons (gnD 5) (gtCons (gnD 6) (gtCons (gnD 7) gtNil))))))
    (dSeq (dPar3 8 9 10 (dCons (dExn "NotSettled" "key" (dCons (dVar 0) dNil)) (dCons (dExn "NotOpen" "key" (dCons (dVar 0) dNil)) (dCons (dExn "NotCause" "cause" (dCons (dVar 0) dNil)) dNil))))
    (dRet (dLst (dCons (dTup (dCons (dVar 1) (dCons (dXv ["Clash", "Gap", "Rewritten", "NoPlace", "NotNeeded", "NotPart"] "spot" (dVar 1)) dNil))) (dCons (dTup (dCons (dVar 2) (dCons (dXv ["Clash", "Gap", "Rewritten", "NoPlace", "NotNeeded", "NotPart"] "spot" (dVar 2)) dNil))) (dCons (dTup (dCons (dVar 3) (dCons (dXv ["Clash", "Gap", "Rewritten", "NoPlace", "NotNeeded", "NotPart"] "spot" (dVar 3)) dNil))) (dCons (dTup (dCons (dVar 4) (dCons (dXv ["Clash", "Gap", "Rewritten", "NoPlace", "NotNeeded", "NotPart"] "spot" (dVar 4)) dNil))) (dCons (dTup (dCons (dVar 5) (dCons (dXv ["Clash", "Gap", "Rewritten", "NoPlace", "NotNeeded", "NotPart"] "spot" (dVar 5)) dNil))) (dCons (dTup (dCons (dVar 6) (dCons (dXv ["Clash", "Gap", "Rewritten", "NoPlace", "NotNeeded", "NotPart"] "spot" (dVar 6)) dNil))) (dCons (dTup (dCons (dVar 7) (dCons (dXv ["BadTree", "Failed"] "path" (dVar 7)) dNil))) (dCons (dTup (dCons (dVar 8) (dCons (dXv ["NotSettled", "NotOpen", "NotAsked"] "key" (dVar 8)) dNil))) (dCons (dTup (dCons (dVar 9) (dCons (dXv ["NotSettled", "NotOpen", "NotAsked"] "key" (dVar 9)) dNil))) (dCons (dTup (dCons (dVar 10) (dCons (dXv ["NotCause"] "cause" (dVar 10)) dNil))) dNil)))))))))))))))
abbrev sp_with_places : DSp := self N_with_places 1 t_with_places
def N_with_others : List Str := ["_law_a", "_law_one", "_law_two", "_law_three", "_law_four", "_law_five", "_law_six", "_law_seven", "_law_eight", "_law_nine", "_law_ten", "_law_last"]
def t_with_others : DS := (dSeq (dAsg (dTup (dCons (dExn "NoTarget" "name" (dCons (dVar 0) dNil)) (dCons (dExn "NotSource" "name" (dCons (dVar 0) dNil)) (dCons (dExn "Mismatch" "name" (dCons (dVar 0) dNil)) (dCons (dExn "Taken" "name" (dCons (dVar 0) dNil)) dNil))))) (gtD 4 (gtCons (gnD 1) (gtCons (gnD 2) (gtCons (gnD 3) (gtCons (gnD 4) gtNil))))))
    (dSeq (dAsg (dTup (dCons (dExn "Stuck" "ring" (dCons (dVar 0) dNil)) (dCons (dExn "BadLine" "line" (dCons (dVar 0) dNil)) (dCons (dExn "BadKind" "line" (dCons (dVar 0) dNil)) (dCons (dExn "NotFresh" "words" (dCons (dVar 0) dNil)) dNil))))) (gtD 4 (gtCons (gnD 5) (gtCons (gnD 6) (gtCons (gnD 7) (gtCons (gnD 8) gtNil))))))
    (dSeq (dPar3 9 10 11 (dCons (dExn "Conflict" "conflicts" (dCons (dVar 0) dNil)) (dCons (dExn "Failed" "path" (dCons (dVar 0) dNil)) (dCons (dExn "BadEntry" "entry" (dCons (dVar 0) dNil)) dNil))))
    (dRet (dLst (dCons (dTup (dCons (dVar 1) (dCons (dXv ["NoTarget", "NotSource", "Mismatch", "Taken", "BadName"] "name" (dVar 1)) dNil))) (dCons (dTup (dCons (dVar 2) (dCons (dXv ["NoTarget", "NotSource", "Mismatch", "Taken", "BadName"] "name" (dVar 2)) dNil))) (dCons (dTup (dCons (dVar 3) (dCons (dXv ["NoTarget", "NotSource", "Mismatch", "Taken", "BadName"] "name" (dVar 3)) dNil))) (dCons (dTup (dCons (dVar 4) (dCons (dXv ["NoTarget", "NotSource", "Mismatch", "Taken", "BadName"] "name" (dVar 4)) dNil))) (dCons (dTup (dCons (dVar 5) (dCons (dXv ["Stuck"] "ring" (dVar 5)) dNil))) (dCons (dTup (dCons (dVar 6) (dCons (dXv ["BadLine", "BadKind", "BadName"] "line" (dVar 6)) dNil))) (dCons (dTup (dCons (dVar 7) (dCons (dXv ["BadLine", "BadKind", "BadName"] "line" (dVar 7)) dNil))) (dCons (dTup (dCons (dVar 8) (dCons (dXv ["NotFresh"] "words" (dVar 8)) dNil))) (dCons (dTup (dCons (dVar 9) (dCons (dXv ["Conflict"] "conflicts" (dVar 9)) dNil))) (dCons (dTup (dCons (dVar 10) (dCons (dXv ["BadTree", "Failed"] "path" (dVar 10)) dNil))) (dCons (dTup (dCons (dVar 11) (dCons (dXv ["BadEntry"] "entry" (dVar 11)) dNil))) dNil))))))))))))))))
abbrev sp_with_others : DSp := self N_with_others 1 t_with_others
def N_same : List Str := ["_law_found", "_law_due", "_law_a", "_law_b"]
def t_same : Nat → DS
  | 0 => fun _ _ _ => False
  | n + 1 => (dSeq (dIfS (dTru (dCB isiD (dCons (dVar 1) (dCons (dTup (dCons (dC (.ty "list")) (dCons (dC (.ty "tuple")) dNil))) dNil)))) (dSeq (dIfS (dOrT (dBool (dOp (eqD true) (dCB isiD (dCons (dVar 0) (dCons (dC (.ty "list")) dNil))) (dCB isiD (dCons (dVar 1) (dCons (dC (.ty "list")) dNil))))) (dNotT (dTru (dCB isiD (dCons (dVar 0) (dCons (dTup (dCons (dC (.ty "list")) (dCons (dC (.ty "tuple")) dNil))) dNil)))))) (dRet (dC (.bl false))) dNext)
    (dRet (dAnd (dOp (eqD false) (dCB lenD (dCons (dVar 0) dNil)) (dCB lenD (dCons (dVar 1) dNil))) (dCB allD (dCons (dLc (diZip (dCons (dVar 0) (dCons (dVar 1) dNil))) (gtD 2 (gtCons (gnD 2) (gtCons (gnD 3) gtNil))) dYes (dCall (self N_same 2 (t_same n)) (dCons (dVar 2) (dCons (dVar 3) dNil))) [2, 3]) dNil))))) dNext)
    (dSeq (dIfS (dOrT (dBool (dOp (eqD true) (dCB isiD (dCons (dVar 0) (dCons (dC (.ty "bool")) dNil))) (dCB isiD (dCons (dVar 1) (dCons (dC (.ty "bool")) dNil))))) (dBool (dOp (eqD true) (dCB isiD (dCons (dVar 0) (dCons (dC (.ty "int")) dNil))) (dCB isiD (dCons (dVar 1) (dCons (dC (.ty "int")) dNil)))))) (dRet (dC (.bl false))) dNext)
    (dRet (dAnd (dOp (eqD false) (dCB isiD (dCons (dVar 0) (dCons (dC (.ty "str")) dNil))) (dCB isiD (dCons (dVar 1) (dCons (dC (.ty "str")) dNil)))) (dOp (eqD false) (dVar 0) (dVar 1))))))
abbrev sp_same (n : Nat) : DSp := self N_same 2 (t_same n)
def N_names_of : List Str := ["_law_e", "_law_found", "_law_k"]
def t_names_of : DS := (dSeq (dAsg (dLst (dCons (dIsV ms_Clash (dVar 0)) (dCons (dIsV ms_Gap (dVar 0)) (dCons (dIsV ms_Rewritten (dVar 0)) (dCons (dIsV ms_NoPlace (dVar 0)) dNil))))) (gnD 1))
    (dSeq (dAsg (dOp addD (dVar 1) (dLst (dCons (dIsV ms_NotNeeded (dVar 0)) (dCons (dIsV ms_NotPart (dVar 0)) (dCons (dIsV ms_BadTree (dVar 0)) dNil))))) (gnD 1))
    (dSeq (dAsg (dOp addD (dVar 1) (dLst (dCons (dIsV ms_NotSettled (dVar 0)) (dCons (dIsV ms_NotOpen (dVar 0)) (dCons (dIsV ms_NotCause (dVar 0)) dNil))))) (gnD 1))
    (dSeq (dAsg (dOp addD (dVar 1) (dLst (dCons (dIsV ms_NoTarget (dVar 0)) (dCons (dIsV ms_NotSource (dVar 0)) (dCons (dIsV ms_Mismatch (dVar 0)) (dCons (dIsV ms_Taken (dVar 0)) dNil)))))) (gnD 1))
    (dSeq (dAsg (dOp addD (dVar 1) (dLst (dCons (dIsV ms_Stuck (dVar 0)) (dCons (dIsV ms_BadLine (dVar 0)) (dCons (dIsV ms_BadKind (dVar 0)) (dCons (dIsV ms_NotFresh (dVar 0)) dNil)))))) (gnD 1))
    (dSeq (dAsg (dOp addD (dVar 1) (dLst (dCons (dIsV ms_Conflict (dVar 0)) (dCons (dIsV ms_Failed (dVar 0)) (dCons (dIsV ms_BadEntry (dVar 0)) dNil))))) (gnD 1))
    (dSeq (dAsg (dOp addD (dVar 1) (dLst (dCons (dIsV ms_BadName (dVar 0)) (dCons (dIsV ms_Halted (dVar 0)) (dCons (dIsV ms_NoRow (dVar 0)) dNil))))) (gnD 1))
    (dSeq (dAsg (dOp addD (dVar 1) (dLst (dCons (dIsV ms_NotAsked (dVar 0)) (dCons (dIsV ms_NoVersion (dVar 0)) dNil)))) (gnD 1))
    (dRet (dLc (diRng1 (dCons (dCB lenD (dCons (dVar 1) dNil)) dNil)) (gnD 2) (dTru (dOp ixD (dVar 1) (dVar 2))) (dVar 2) [2]))))))))))
abbrev sp_names_of : DSp := self N_names_of 1 t_names_of
def N_caught : List Str := ["_law_e"]
def t_caught : DS := (dRet (dAnd (dIsV ms_BuildError (dVar 0)) (dAnd (dIsV ms_ValueError (dVar 0)) (dNot (dIsV ms_LookupError (dVar 0))))))
abbrev sp_caught : DSp := self N_caught 1 t_caught
def N_named_right : List Str := ["_law_a", "_law_b", "_law_one", "_law_other", "_law_found"]
def t_named_right : DS := (dSeq (dPar 2 3 (dCons (dExn2 "BadName" "name" "line" (dCons (dVar 1) (dCons (dVar 0) dNil))) (dCons (dLst (dCons (dExn "Stuck" "ring" (dCons (dVar 0) dNil)) (dCons (dExn "Conflict" "conflicts" (dCons (dVar 0) dNil)) (dCons (dExn "Clash" "spot" (dCons (dVar 0) dNil)) (dCons (dExn "BadTree" "path" (dCons (dVar 0) dNil)) dNil))))) dNil)))
    (dSeq (dAsg (dLst (dCons (dXv ["BadLine", "BadKind", "BadName"] "line" (dVar 2)) (dCons (dXv ["NoTarget", "NotSource", "Mismatch", "Taken", "BadName"] "name" (dVar 2)) (dCons (dXv ["Stuck"] "ring" (dOp ixD (dVar 3) (dC (.int 0)))) (dCons (dXv ["Conflict"] "conflicts" (dOp ixD (dVar 3) (dC (.int 1)))) (dCons (dXv ["Clash", "Gap", "Rewritten", "NoPlace", "NotNeeded", "NotPart"] "spot" (dOp ixD (dVar 3) (dC (.int 2)))) (dCons (dXv ["BadTree", "Failed"] "path" (dOp ixD (dVar 3) (dC (.int 3)))) dNil))))))) (gnD 4))
    (dSeq (dAsg (dOp addD (dVar 4) (dLst (dCons (dXv ["NotSettled", "NotOpen", "NotAsked"] "key" (dExn "NotAsked" "key" (dCons (dVar 0) dNil))) (dCons (dXv ["NoVersion"] "number" (dExn "NoVersion" "number" (dCons (dVar 0) dNil))) (dCons (dXv ["BadEntry"] "entry" (dExn "BadEntry" "entry" (dCons (dVar 0) dNil))) (dCons (dXv ["BadLine", "BadKind", "BadName"] "line" (dExn "BadLine" "line" (dCons (dVar 0) dNil))) dNil)))))) (gnD 4))
    (dRet (dCall (sp_same 12) (dCons (dVar 4) (dCons (dOp addD (dLst (dCons (dVar 0) (dCons (dVar 1) dNil))) (dOp mulD (dLst (dCons (dVar 0) dNil)) (dC (.int 8)))) dNil)))))))
abbrev sp_named_right : DSp := self N_named_right 2 t_named_right
def N_raised : List Str := ["_law_form", "_law_a", "_law_found", "_law_e"]
def t_raised : DS := (dSeq (dAsg (dC (.str "none")) (gnD 2))
    (dSeq (dTryM [(ms_Stuck, some 3, fun a c fs => (dAsg (dTup (dCons (dC (.str "stuck")) (dCons (dExF ["Stuck"] a c fs "ring" 3) dNil))) (gnD 2))), (ms_BuildError, some 3, fun a c fs => (dAsg (dTup (dCons (dC (.str "base")) (dCons (dExI ms_Halted a c 3) dNil))) (gnD 2))), (ms_KeyError, none, fun a c fs => (dAsg (dTup (dCons (dC (.str "key")) dNil)) (gnD 2)))] dNoW (fun W1 => (dSeq (dIfS (dBool (dOp (eqD false) (dVar 0) (dC (.int 0)))) (dRaise "Stuck" "ring" W1 (dCons (dVar 1) dNil)) dNext)
    (dSeq (dIfS (dBool (dOp (eqD false) (dVar 0) (dC (.int 1)))) (dRaise "NotAsked" "key" W1 (dCons (dVar 1) dNil)) dNext)
    (dIfS (dBool (dOp (eqD false) (dVar 0) (dC (.int 2)))) (dRaise0 "Halted" W1) dNext)))))
    (dRet (dVar 2))))
abbrev sp_raised : DSp := self N_raised 2 t_raised
def N_law : List Str := ["_law_script", "_law_k", "_law_feed", "_law_a", "_law_b", "_law_made", "_law_index", "_law_error", "_law_kept", "_law_bad", "_law_asked", "_law_version", "_law_form"]
def t_law : DS := (dSeq (dFor (diRng1 (dCons (dCB max2D (dCons (dC (.int 2)) (dCons (dCB min2D (dCons (dC (.int 3)) (dCons (dCB lenD (dCons (dVar 0) dNil)) dNil))) dNil))) dNil)) (gnD 1) (dSeq (dAsg (dCall sp_feed_of (dCons (dVar 0) (dCons (dVar 1) dNil))) (gnD 2))
    (dSeq (dAsg (dTup (dCons (dCall sp_any_value (dCons (dVar 2) dNil)) (dCons (dCall sp_any_value (dCons (dVar 2) dNil)) dNil))) (gtD 2 (gtCons (gnD 3) (gtCons (gnD 4) gtNil))))
    (dSeq (dAsg (dOp addD (dCall sp_with_places (dCons (dVar 3) dNil)) (dCall sp_with_others (dCons (dVar 3) dNil))) (gnD 5))
    (dSeq (dFor (diEnum (dCons (dVar 5) dNil)) (gtD 2 (gtCons (gnD 6) (gtCons (gtD 2 (gtCons (gnD 7) (gtCons (gnD 8) gtNil))) gtNil))) (dIfS (dOrT (dNotT (dTru (dCall (sp_same 12) (dCons (dVar 8) (dCons (dVar 3) dNil))))) (dOrT (dBool (dOp (eqD true) (dCall sp_names_of (dCons (dVar 7) dNil)) (dLst (dCons (dVar 6) dNil)))) (dNotT (dTru (dCall sp_caught (dCons (dVar 7) dNil)))))) (dRet (dC (.bl false))) dNext))
    (dSeq (dIfS (dNotT (dTru (dCall sp_named_right (dCons (dVar 3) (dCons (dVar 4) dNil))))) (dRet (dC (.bl false))) dNext)
    (dSeq (dAsg (dExn2 "BadName" "line" "name" (dCons (dVar 3) (dCons (dVar 4) dNil))) (gnD 9))
    (dSeq (dIfS (dOrT (dNotT (dTru (dCall (sp_same 12) (dCons (dLst (dCons (dXv ["BadLine", "BadKind", "BadName"] "line" (dVar 9)) (dCons (dXv ["NoTarget", "NotSource", "Mismatch", "Taken", "BadName"] "name" (dVar 9)) dNil))) (dCons (dLst (dCons (dVar 3) (dCons (dVar 4) dNil))) dNil))))) (dOrT (dBool (dOp (eqD true) (dCall sp_names_of (dCons (dVar 9) dNil)) (dLst (dCons (dC (.int 21)) dNil)))) (dNotT (dTru (dCall sp_caught (dCons (dVar 9) dNil)))))) (dRet (dC (.bl false))) dNext)
    (dSeq (dIfS (dOrT (dNotT (dTru (dCall sp_caught (dCons (dExn0 "Halted") dNil)))) (dOrT (dNotT (dTru (dCall sp_caught (dCons (dExn0 "NoRow") dNil)))) (dBool (dOp (eqD true) (dCall sp_names_of (dCons (dExn0 "NoRow") dNil)) (dLst (dCons (dC (.int 23)) dNil)))))) (dRet (dC (.bl false))) dNext)
    (dSeq (dPar 10 11 (dCons (dExn "NotAsked" "key" (dCons (dVar 3) dNil)) (dCons (dExn "NoVersion" "number" (dCons (dVar 4) dNil)) dNil)))
    (dSeq (dIfS (dOrT (dNotT (dTru (dIsV ms_KeyError (dVar 10)))) (dOrT (dNotT (dTru (dIsV ms_IndexError (dVar 11)))) (dTru (dIsV ms_BuildError (dVar 11))))) (dRet (dC (.bl false))) dNext)
    (dSeq (dIfS (dOrT (dNotT (dTru (dCall (sp_same 12) (dCons (dLst (dCons (dXv ["NotSettled", "NotOpen", "NotAsked"] "key" (dVar 10)) (dCons (dXv ["NoVersion"] "number" (dVar 11)) dNil))) (dCons (dLst (dCons (dVar 3) (dCons (dVar 4) dNil))) dNil))))) (dTru (dIsV ms_BuildError (dVar 10)))) (dRet (dC (.bl false))) dNext)
    (dSeq (dIfS (dOrT (dBool (dOp (eqD true) (dCall sp_names_of (dCons (dVar 10) dNil)) (dLst (dCons (dC (.int 24)) dNil)))) (dOrT (dBool (dOp (eqD true) (dCall sp_names_of (dCons (dVar 11) dNil)) (dLst (dCons (dC (.int 25)) dNil)))) (dBool (dOp (eqD true) (dCall sp_names_of (dCons (dExn0 "Halted") dNil)) (dLst (dCons (dC (.int 22)) dNil)))))) (dRet (dC (.bl false))) dNext)
    (dIfS (dBool (dOp (eqD true) (dLc (diRng1 (dCons (dC (.int 4)) dNil)) (gnD 12) dYes (dCall sp_raised (dCons (dVar 12) (dCons (dVar 3) dNil))) [12]) (dLst (dCons (dTup (dCons (dC (.str "stuck")) (dCons (dVar 3) dNil))) (dCons (dTup (dCons (dC (.str "key")) dNil)) (dCons (dTup (dCons (dC (.str "base")) (dCons (dC (.bl true)) dNil))) (dCons (dC (.str "none")) dNil))))))) (dRet (dC (.bl false))) dNext))))))))))))))
    (dRet (dC (.bl true))))
abbrev sp_law : DSp := self N_law 1 t_law
end K01

/-! what the common defs of the law do, at the data level -/
namespace K01
open PySem L2 FD
theorem feed_tail {ns : List Int} {k c : Int} {G : DG} {Q : DK} (h0 : 0 ≤ k) (h1 : k ≤ 1000) (hc : 0 ≤ c) (h : ∀ f G', G f = none → Feed f G' → Keep G G' → Q (.ref f) G') : 
    dSeq
              (dAsg (dIf (dBool (dOp geD (dVar 2) (dOp powD (dC (D.int 10)) (dC (D.int 18))))) (dVar 2) (dC (D.int 0)))
                (gnD 3))
              (dRet
                (dLst
                  (dCons (dVar 3)
                    (dCons
                      (dOp addD (dOp addD (dOp modD (dVar 2) (dC (D.int 1000003))) (dOp mulD (dC (D.int 11)) (dVar 1)))
                        (dC (D.int 1)))
                      dNil)))) { nx := fun x G' => Q D.non G', rt := Q } [some (D.fl (List.map D.int ns)), some (D.int k), some (D.int c), none] G := by
  have hm : 0 ≤ c % 1000003 := Int.emod_nonneg _ (by decide)
  have key : ∀ g, 0 ≤ g → kNew G (.lst [.int g, .int (c % 1000003 + 11 * k + 1)]) Q := fun g hg => new_ fun p G' hp e kk => h p G' hp ⟨g, _, hg, by omega, e⟩ kk
  try simp only [seq_, next_, ret_, drop_, ifs_, br_t, br_f, asg_, gn_, gt_, gtc_, gtn_, par_, var_0, var_s, c_, nil_, cons_, tup_, lst_, op_, bool_, kb_, tru_, tr_bl, andT_, orT_, kn_tt, kn_tf, kn_ff, kn_ft, notT_, and_, kand_t, kand_f, if_, bre_t, bre_f, call_, cb_, neg_, sl_, nopart_, part_, FD.sl_tup, eq_int0, eq_int1, eq_bl0, eq_bl1, beq_self_eq_true, Bool.not_true, Bool.not_false, add_int, add_tup, add_ref, int_, int0_, mul_int, mul_str, ord_int, FD.ix_tup, ix_fl, ix_ref, at_0, at_1, at_2, at_3, len_tup, len_fl, len_ref, max2_, min2_, tuple_tup, tuple_ref, is_, gs_, setL_, ml_, for_, rng1_, any_, lc_, FD.sl_ref, list_tup, dict0_, dn_, sortK_, val_tup, yes_, isLst_, List.set_cons_zero, List.set_cons_succ, or_, kor_t, kor_f, not_, chain_, kch_t, kch_f, ord_str, len_str, ordc_, strc_int, val_str, add_str, sl_strD, match_, cc_, kc_n, kc_s, cn_, wild_]
  refine ⟨⟨by decide, by decide, by decide⟩, ?_⟩
  by_cases hb : (10 : Int) ^ (18 : Int).toNat ≤ c
  · rw [decide_eq_true hb]
    try simp only [seq_, next_, ret_, drop_, ifs_, br_t, br_f, asg_, gn_, gt_, gtc_, gtn_, par_, var_0, var_s, c_, nil_, cons_, tup_, lst_, op_, bool_, kb_, tru_, tr_bl, andT_, orT_, kn_tt, kn_tf, kn_ff, kn_ft, notT_, and_, kand_t, kand_f, if_, bre_t, bre_f, call_, cb_, neg_, sl_, nopart_, part_, FD.sl_tup, eq_int0, eq_int1, eq_bl0, eq_bl1, beq_self_eq_true, Bool.not_true, Bool.not_false, add_int, add_tup, add_ref, int_, int0_, mul_int, mul_str, ord_int, FD.ix_tup, ix_fl, ix_ref, at_0, at_1, at_2, at_3, len_tup, len_fl, len_ref, max2_, min2_, tuple_tup, tuple_ref, is_, gs_, setL_, ml_, for_, rng1_, any_, lc_, FD.sl_ref, list_tup, dict0_, dn_, sortK_, val_tup, yes_, isLst_, List.set_cons_zero, List.set_cons_succ, or_, kor_t, kor_f, not_, chain_, kch_t, kch_f, ord_str, len_str, ordc_, strc_int, val_str, add_str, sl_strD, match_, cc_, kc_n, kc_s, cn_, wild_]
    exact ⟨by decide, .inl ⟨by decide, by decide⟩, by simp [sizeLine], key c hc⟩
  · rw [decide_eq_false hb]
    try simp only [seq_, next_, ret_, drop_, ifs_, br_t, br_f, asg_, gn_, gt_, gtc_, gtn_, par_, var_0, var_s, c_, nil_, cons_, tup_, lst_, op_, bool_, kb_, tru_, tr_bl, andT_, orT_, kn_tt, kn_tf, kn_ff, kn_ft, notT_, and_, kand_t, kand_f, if_, bre_t, bre_f, call_, cb_, neg_, sl_, nopart_, part_, FD.sl_tup, eq_int0, eq_int1, eq_bl0, eq_bl1, beq_self_eq_true, Bool.not_true, Bool.not_false, add_int, add_tup, add_ref, int_, int0_, mul_int, mul_str, ord_int, FD.ix_tup, ix_fl, ix_ref, at_0, at_1, at_2, at_3, len_tup, len_fl, len_ref, max2_, min2_, tuple_tup, tuple_ref, is_, gs_, setL_, ml_, for_, rng1_, any_, lc_, FD.sl_ref, list_tup, dict0_, dn_, sortK_, val_tup, yes_, isLst_, List.set_cons_zero, List.set_cons_succ, or_, kor_t, kor_f, not_, chain_, kch_t, kch_f, ord_str, len_str, ordc_, strc_int, val_str, add_str, sl_strD, match_, cc_, kc_n, kc_s, cn_, wild_]
    exact ⟨by decide, .inl ⟨by decide, by decide⟩, by simp [sizeLine], key 0 (Int.le_refl _)⟩
theorem feed_mid {ns : List Int} {k c : Int} {G : DG} {Q : DK} (h0 : 0 ≤ k) (h1 : k ≤ 1000) (h : ∀ f G', G f = none → Feed f G' → Keep G G' → Q (.ref f) G') : 
    dSeq
            (dIfS (dBool (dOp ltD (dVar 2) (dC (D.int 0))))
              (dAsg (dOp subD (dC (D.int 5)) (dOp mulD (dC (D.int 7)) (dVar 2))) (gnD 2)) dNext)
            (dSeq
              (dAsg (dIf (dBool (dOp geD (dVar 2) (dOp powD (dC (D.int 10)) (dC (D.int 18))))) (dVar 2) (dC (D.int 0)))
                (gnD 3))
              (dRet
                (dLst
                  (dCons (dVar 3)
                    (dCons
                      (dOp addD (dOp addD (dOp modD (dVar 2) (dC (D.int 1000003))) (dOp mulD (dC (D.int 11)) (dVar 1)))
                        (dC (D.int 1)))
                      dNil))))) { nx := fun x G' => Q D.non G', rt := Q } [some (D.fl (List.map D.int ns)), some (D.int k), some (D.int c), none] G := by
  rw [seq_]
  simp only [ifs_, bool_, op_, var_0, var_s, c_, ord_int, kb_]
  by_cases hb : c < 0
  · rw [decide_eq_true hb]
    simp only [br_t, asg_, op_, var_0, var_s, c_, mul_int, int0_, gn_, List.set_cons_zero, List.set_cons_succ]
    exact ⟨.inl ⟨by decide, by decide⟩, feed_tail h0 h1 (by omega) h⟩
  · rw [decide_eq_false hb]
    exact feed_tail h0 h1 (by omega) h
theorem feed_spec {ns : List Int} {k : Int} {G : DG} {Q : DK} (h0 : 0 ≤ k) (h1 : k ≤ 1000) (h : ∀ f G', G f = none → Feed f G' → Keep G G' → Q (.ref f) G') : sp_feed_of [.fl (ns.map D.int), .int k] G Q := by
  refine ⟨rfl, ?_⟩
  show t_feed_of _ [some (.fl (ns.map D.int)), some (.int k), none, none] G
  unfold t_feed_of
  try simp only [seq_, next_, ret_, drop_, ifs_, br_t, br_f, asg_, gn_, gt_, gtc_, gtn_, par_, var_0, var_s, c_, nil_, cons_, tup_, lst_, op_, bool_, kb_, tru_, tr_bl, andT_, orT_, kn_tt, kn_tf, kn_ff, kn_ft, notT_, and_, kand_t, kand_f, if_, bre_t, bre_f, call_, cb_, neg_, sl_, nopart_, part_, FD.sl_tup, eq_int0, eq_int1, eq_bl0, eq_bl1, beq_self_eq_true, Bool.not_true, Bool.not_false, add_int, add_tup, add_ref, int_, int0_, mul_int, mul_str, ord_int, FD.ix_tup, ix_fl, ix_ref, at_0, at_1, at_2, at_3, len_tup, len_fl, len_ref, max2_, min2_, tuple_tup, tuple_ref, is_, gs_, setL_, ml_, for_, rng1_, any_, lc_, FD.sl_ref, list_tup, dict0_, dn_, sortK_, val_tup, yes_, isLst_, List.set_cons_zero, List.set_cons_succ, or_, kor_t, kor_f, not_, chain_, kch_t, kch_f, ord_str, len_str, ordc_, strc_int, val_str, add_str, sl_strD, match_, cc_, kc_n, kc_s, cn_, wild_]
  refine ⟨.inl ⟨by decide, by decide⟩, ?_⟩
  by_cases hb : k < ((ns.map D.int).length : Int)
  · rw [decide_eq_true hb]
    try simp only [seq_, next_, ret_, drop_, ifs_, br_t, br_f, asg_, gn_, gt_, gtc_, gtn_, par_, var_0, var_s, c_, nil_, cons_, tup_, lst_, op_, bool_, kb_, tru_, tr_bl, andT_, orT_, kn_tt, kn_tf, kn_ff, kn_ft, notT_, and_, kand_t, kand_f, if_, bre_t, bre_f, call_, cb_, neg_, sl_, nopart_, part_, FD.sl_tup, eq_int0, eq_int1, eq_bl0, eq_bl1, beq_self_eq_true, Bool.not_true, Bool.not_false, add_int, add_tup, add_ref, int_, int0_, mul_int, mul_str, ord_int, FD.ix_tup, ix_fl, ix_ref, at_0, at_1, at_2, at_3, len_tup, len_fl, len_ref, max2_, min2_, tuple_tup, tuple_ref, is_, gs_, setL_, ml_, for_, rng1_, any_, lc_, FD.sl_ref, list_tup, dict0_, dn_, sortK_, val_tup, yes_, isLst_, List.set_cons_zero, List.set_cons_succ, or_, kor_t, kor_f, not_, chain_, kch_t, kch_f, ord_str, len_str, ordc_, strc_int, val_str, add_str, sl_strD, match_, cc_, kc_n, kc_s, cn_, wild_]
    refine at_in h0 hb fun d hd => ?_
    obtain ⟨c, _, rfl⟩ := List.mem_map.mp hd
    exact feed_mid h0 h1 h
  · rw [decide_eq_false hb]
    exact feed_mid h0 h1 h
theorem draw_spec {f : Addr} {m : Int} {G : DG} {Q : DK} (F : Feed f G) (h0 : 0 < m) (h1 : m < 1073741824) (h : ∀ d G', 0 ≤ d → d < m → Feed f G' → Ext f G G' → Q (.int d) G') : sp_draw [.ref f, .int m] G Q := by
  obtain ⟨g, n, hg, hn, e⟩ := F
  refine ⟨rfl, ?_⟩
  show t_draw _ [some (.ref f), some (.int m), none] G
  unfold t_draw
  try simp only [seq_, next_, ret_, drop_, ifs_, br_t, br_f, asg_, gn_, gt_, gtc_, gtn_, par_, var_0, var_s, c_, nil_, cons_, tup_, lst_, op_, bool_, kb_, tru_, tr_bl, andT_, orT_, kn_tt, kn_tf, kn_ff, kn_ft, notT_, and_, kand_t, kand_f, if_, bre_t, bre_f, call_, cb_, neg_, sl_, nopart_, part_, FD.sl_tup, eq_int0, eq_int1, eq_bl0, eq_bl1, beq_self_eq_true, Bool.not_true, Bool.not_false, add_int, add_tup, add_ref, int_, int0_, mul_int, mul_str, ord_int, FD.ix_tup, ix_fl, ix_ref, at_0, at_1, at_2, at_3, len_tup, len_fl, len_ref, max2_, min2_, tuple_tup, tuple_ref, is_, gs_, setL_, ml_, for_, rng1_, any_, lc_, FD.sl_ref, list_tup, dict0_, dn_, sortK_, val_tup, yes_, isLst_, List.set_cons_zero, List.set_cons_succ, or_, kor_t, kor_f, not_, chain_, kch_t, kch_f, ord_str, len_str, ordc_, strc_int, val_str, add_str, sl_strD, match_, cc_, kc_n, kc_s, cn_, wild_, ex_lst e]
  by_cases hb : 0 < g
  · rw [decide_eq_true hb]
    try simp only [seq_, next_, ret_, drop_, ifs_, br_t, br_f, asg_, gn_, gt_, gtc_, gtn_, par_, var_0, var_s, c_, nil_, cons_, tup_, lst_, op_, bool_, kb_, tru_, tr_bl, andT_, orT_, kn_tt, kn_tf, kn_ff, kn_ft, notT_, and_, kand_t, kand_f, if_, bre_t, bre_f, call_, cb_, neg_, sl_, nopart_, part_, FD.sl_tup, eq_int0, eq_int1, eq_bl0, eq_bl1, beq_self_eq_true, Bool.not_true, Bool.not_false, add_int, add_tup, add_ref, int_, int0_, mul_int, mul_str, ord_int, FD.ix_tup, ix_fl, ix_ref, at_0, at_1, at_2, at_3, len_tup, len_fl, len_ref, max2_, min2_, tuple_tup, tuple_ref, is_, gs_, setL_, ml_, for_, rng1_, any_, lc_, FD.sl_ref, list_tup, dict0_, dn_, sortK_, val_tup, yes_, isLst_, List.set_cons_zero, List.set_cons_succ, or_, kor_t, kor_f, not_, chain_, kch_t, kch_f, ord_str, len_str, ordc_, strc_int, val_str, add_str, sl_strD, match_, cc_, kc_n, kc_s, cn_, wild_, ex_lst e]
    refine ⟨h0, ⟨h0, h1⟩, [.int g, .int n], 0, e, rfl, ?_⟩
    exact h _ _ (Int.emod_nonneg _ (by omega)) (Int.emod_lt_of_pos _ h0) ⟨g / m, n, Int.ediv_nonneg hg (by omega), hn, gupd_same⟩ ext_upd
  · rw [decide_eq_false hb]
    try simp only [seq_, next_, ret_, drop_, ifs_, br_t, br_f, asg_, gn_, gt_, gtc_, gtn_, par_, var_0, var_s, c_, nil_, cons_, tup_, lst_, op_, bool_, kb_, tru_, tr_bl, andT_, orT_, kn_tt, kn_tf, kn_ff, kn_ft, notT_, and_, kand_t, kand_f, if_, bre_t, bre_f, call_, cb_, neg_, sl_, nopart_, part_, FD.sl_tup, eq_int0, eq_int1, eq_bl0, eq_bl1, beq_self_eq_true, Bool.not_true, Bool.not_false, add_int, add_tup, add_ref, int_, int0_, mul_int, mul_str, ord_int, FD.ix_tup, ix_fl, ix_ref, at_0, at_1, at_2, at_3, len_tup, len_fl, len_ref, max2_, min2_, tuple_tup, tuple_ref, is_, gs_, setL_, ml_, for_, rng1_, any_, lc_, FD.sl_ref, list_tup, dict0_, dn_, sortK_, val_tup, yes_, isLst_, List.set_cons_zero, List.set_cons_succ, or_, kor_t, kor_f, not_, chain_, kch_t, kch_f, ord_str, len_str, ordc_, strc_int, val_str, add_str, sl_strD, match_, cc_, kc_n, kc_s, cn_, wild_, ex_lst e]
    refine ⟨.inr ⟨by decide, by decide⟩, by decide, [.int g, .int n], 1, e, rfl, ?_⟩
    have e2 : (G.upd f (.lst [D.int g, D.int ((n * 48271 + 11) % 2147483647)])) f = some (.lst [.int g, .int ((n * 48271 + 11) % 2147483647)]) := gupd_same
    try simp only [seq_, next_, ret_, drop_, ifs_, br_t, br_f, asg_, gn_, gt_, gtc_, gtn_, par_, var_0, var_s, c_, nil_, cons_, tup_, lst_, op_, bool_, kb_, tru_, tr_bl, andT_, orT_, kn_tt, kn_tf, kn_ff, kn_ft, notT_, and_, kand_t, kand_f, if_, bre_t, bre_f, call_, cb_, neg_, sl_, nopart_, part_, FD.sl_tup, eq_int0, eq_int1, eq_bl0, eq_bl1, beq_self_eq_true, Bool.not_true, Bool.not_false, add_int, add_tup, add_ref, int_, int0_, mul_int, mul_str, ord_int, FD.ix_tup, ix_fl, ix_ref, at_0, at_1, at_2, at_3, len_tup, len_fl, len_ref, max2_, min2_, tuple_tup, tuple_ref, is_, gs_, setL_, ml_, for_, rng1_, any_, lc_, FD.sl_ref, list_tup, dict0_, dn_, sortK_, val_tup, yes_, isLst_, List.set_cons_zero, List.set_cons_succ, or_, kor_t, kor_f, not_, chain_, kch_t, kch_f, ord_str, len_str, ordc_, strc_int, val_str, add_str, sl_strD, match_, cc_, kc_n, kc_s, cn_, wild_, ex_lst e2]
    refine ⟨⟨by decide, by decide⟩, h0, ?_⟩
    exact h _ _ (Int.emod_nonneg _ (by omega)) (Int.emod_lt_of_pos _ h0) ⟨g, (n * 48271 + 11) % 2147483647, hg, Int.emod_nonneg _ (by decide), gupd_same⟩ ext_upd
theorem pick_spec {f l : Addr} {xs : List D} {G : DG} {Q : DK} (F : Feed f G) (hl : G l = some (.lst xs)) (hn : l ≠ f) (h0 : xs ≠ []) (h1 : xs.length < 1073741824) (h : ∀ x G', x ∈ xs → Feed f G' → Ext f G G' → Q x G') : sp_pick [.ref f, .ref l] G Q := by
  refine ⟨rfl, ?_⟩
  show t_pick _ [some (.ref f), some (.ref l)] G
  unfold t_pick
  try simp only [seq_, next_, ret_, drop_, ifs_, br_t, br_f, asg_, gn_, gt_, gtc_, gtn_, par_, var_0, var_s, c_, nil_, cons_, tup_, lst_, op_, bool_, kb_, tru_, tr_bl, andT_, orT_, kn_tt, kn_tf, kn_ff, kn_ft, notT_, and_, kand_t, kand_f, if_, bre_t, bre_f, call_, cb_, neg_, sl_, nopart_, part_, FD.sl_tup, eq_int0, eq_int1, eq_bl0, eq_bl1, beq_self_eq_true, Bool.not_true, Bool.not_false, add_int, add_tup, add_ref, int_, int0_, mul_int, mul_str, ord_int, FD.ix_tup, ix_fl, ix_ref, at_0, at_1, at_2, at_3, len_tup, len_fl, len_ref, max2_, min2_, tuple_tup, tuple_ref, is_, gs_, setL_, ml_, for_, rng1_, any_, lc_, FD.sl_ref, list_tup, dict0_, dn_, sortK_, val_tup, yes_, isLst_, List.set_cons_zero, List.set_cons_succ, or_, kor_t, kor_f, not_, chain_, kch_t, kch_f, ord_str, len_str, ordc_, strc_int, val_str, add_str, sl_strD, match_, cc_, kc_n, kc_s, cn_, wild_, ex_lst hl]
  have hp : 0 < xs.length := List.length_pos_iff.mpr h0
  refine draw_spec F (by omega) (by omega) fun d G' hd hm F' x' => ?_
  have hl' : G' l = some (.lst xs) := x' l _ hn hl
  try simp only [seq_, next_, ret_, drop_, ifs_, br_t, br_f, asg_, gn_, gt_, gtc_, gtn_, par_, var_0, var_s, c_, nil_, cons_, tup_, lst_, op_, bool_, kb_, tru_, tr_bl, andT_, orT_, kn_tt, kn_tf, kn_ff, kn_ft, notT_, and_, kand_t, kand_f, if_, bre_t, bre_f, call_, cb_, neg_, sl_, nopart_, part_, FD.sl_tup, eq_int0, eq_int1, eq_bl0, eq_bl1, beq_self_eq_true, Bool.not_true, Bool.not_false, add_int, add_tup, add_ref, int_, int0_, mul_int, mul_str, ord_int, FD.ix_tup, ix_fl, ix_ref, at_0, at_1, at_2, at_3, len_tup, len_fl, len_ref, max2_, min2_, tuple_tup, tuple_ref, is_, gs_, setL_, ml_, for_, rng1_, any_, lc_, FD.sl_ref, list_tup, dict0_, dn_, sortK_, val_tup, yes_, isLst_, List.set_cons_zero, List.set_cons_succ, or_, kor_t, kor_f, not_, chain_, kch_t, kch_f, ord_str, len_str, ordc_, strc_int, val_str, add_str, sl_strD, match_, cc_, kc_n, kc_s, cn_, wild_, ex_lst hl']
  exact at_in hd hm fun x hx => h x G' hx F' x'
end K01

/-! texts with bounds; what is drawn -/
namespace K01
open PySem L2 FD
def chText (c : Nat) : Bool := decide (32 ≤ c) && decide (c ≤ 126) && !(c == 37)
/-- a text: printable signs -/
def SOk (n : Nat) (s : Str) : Prop := PyData.strOk s = true ∧ s.length ≤ n ∧ s.cps.toList.all chText = true
theorem SOk.mono {n m : Nat} {s : Str} (h : SOk n s) (hm : n ≤ m) : SOk m s := ⟨h.1, Nat.le_trans h.2.1 hm, h.2.2⟩
theorem all_foldl {p : Nat → Bool} {x : Array Nat} (hx : x.all p = true) : ∀ (k : Nat) (acc : Array Nat), acc.all p = true → ((List.replicate k x).foldl (· ++ ·) acc).all p = true
  | 0, acc, h => h
  | k + 1, acc, h => by
    rw [List.replicate_succ, List.foldl_cons]
    exact all_foldl hx k (acc ++ x) (by rw [Array.all_append, h, hx]; rfl)
theorem size_foldl {x : Array Nat} : ∀ (k : Nat) (acc : Array Nat), ((List.replicate k x).foldl (· ++ ·) acc).size = acc.size + k * x.size
  | 0, acc => by simp
  | k + 1, acc => by
    rw [List.replicate_succ, List.foldl_cons, size_foldl k (acc ++ x), Array.size_append, Nat.succ_mul]; omega
theorem sok_mul {x : Str} {n : Int} (h : SOk 1 x) (h1 : n ≤ 400) : SOk 400 (Txt.mul x n) := by
  unfold Txt.mul
  split
  · exact ⟨by decide +kernel, by decide +kernel, by decide +kernel⟩
  · split
    · exact h.mono (by decide)
    · refine ⟨?_, ?_, ?_⟩
      · unfold PyData.strOk
        exact all_foldl h.1 _ _ (by decide +kernel)
      · show ((List.replicate n.toNat x.cps).foldl (· ++ ·) #[]).size ≤ 400
        rw [size_foldl]
        have h2 := h.2.1
        unfold Str.length at h2
        have : n.toNat * x.cps.size ≤ 400 * 1 := Nat.mul_le_mul (by omega) h2
        simpa using this
      · rw [Array.all_toList]
        exact all_foldl (by rw [← Array.all_toList]; exact h.2.2) _ _ (by decide +kernel)
theorem mul_ok {x : Str} {n : Int} (h : SOk 1 x) (h0 : 0 ≤ n) (h1 : n ≤ 500) : MulOk x n := by
  have h2 := h.2.1
  refine ⟨by simp; omega, fun h3 _ => ?_, fun _ _ => ?_⟩
  · have : (1 : Int) ≤ (2 ^ 63 - 1) / n := by
      rw [Int.le_ediv_iff_mul_le (by omega)]; omega
    omega
  · have : x.length * n.toNat ≤ 1 * 500 := Nat.mul_le_mul h2 (by omega)
    exact decide_eq_false (by simp only [sizeLine]; omega)
/-- data of at most k levels, rows of at most b items, texts of printable signs and line feeds -/
def Vb (b : Nat) : Nat → D → Prop
  | _, .non => True
  | _, .bl _ => True
  | _, .int _ => True
  | _, .str s => PyData.strOk s = true ∧ s.length ≤ 1000 ∧ (s.cps.toList.all fun c => chText c || c == 10) = true
  | 0, .tup _ => False
  | k + 1, .tup ds => ds.length ≤ b ∧ ∀ d ∈ ds, Vb b k d
  | _, .fl _ => False
  | _, .ref _ => False
  | _, .ty _ => False
section
variable {b k : Nat}
theorem vb_tup {ds : List D} : Vb b (k + 1) (.tup ds) ↔ ds.length ≤ b ∧ ∀ d ∈ ds, Vb b k d := by rw [Vb]
theorem vb_str {s : Str} : Vb b k (.str s) ↔ PyData.strOk s = true ∧ s.length ≤ 1000 ∧ (s.cps.toList.all fun c => chText c || c == 10) = true := by cases k <;> rw [Vb]
theorem vb_non : Vb b k .non := by cases k <;> rw [Vb] <;> trivial
theorem vb_int {i : Int} : Vb b k (.int i) := by cases k <;> rw [Vb] <;> trivial
theorem vb_bl {i : Bool} : Vb b k (.bl i) := by cases k <;> rw [Vb] <;> trivial
end
theorem Vb.pb : ∀ {b k : Nat} {d : D}, Vb b k d → Pb b k d
  | b, k, .non, _ => pb_non
  | b, k, .bl _, _ => pb_bl
  | b, k, .int _, _ => pb_int
  | b, k, .str s, h => pb_str.mpr ⟨(vb_str.mp h).1, (vb_str.mp h).2.1⟩
  | b, 0, .tup _, h => by rw [Vb] at h; exact h.elim
  | b, k + 1, .tup ds, h => pb_tup.mpr ⟨(vb_tup.mp h).1, fun d hd => ((vb_tup.mp h).2 d hd).pb⟩
  | b, 0, .fl _, h => by rw [Vb] at h; exact h.elim
  | b, k + 1, .fl _, h => by rw [Vb] at h; exact h.elim
  | b, 0, .ref _, h => by rw [Vb] at h; exact h.elim
  | b, k + 1, .ref _, h => by rw [Vb] at h; exact h.elim
  | b, 0, .ty _, h => by rw [Vb] at h; exact h.elim
  | b, k + 1, .ty _, h => by rw [Vb] at h; exact h.elim
theorem Vb.no {b k : Nat} {d : D} (h : Vb b k d) : (∃ ds, d = .tup ds) ∨ d = .non ∨ (∃ i, d = .int i) ∨ (∃ i, d = .bl i) ∨ ∃ s, d = .str s ∧ PyData.strOk s = true ∧ s.length ≤ 1000 := h.pb.no
theorem Vb.mono : ∀ {b c k m : Nat} {d : D}, Vb b k d → b ≤ c → k ≤ m → Vb c m d
  | b, c, k, m, .non, _, _, _ => vb_non
  | b, c, k, m, .bl _, _, _, _ => vb_bl
  | b, c, k, m, .int _, _, _, _ => vb_int
  | b, c, k, m, .str s, h, _, _ => vb_str.mpr (vb_str.mp h)
  | b, c, 0, m, .tup _, h, _, _ => by rw [Vb] at h; exact h.elim
  | b, c, k + 1, m, .tup ds, h, hb, hk => by
    obtain ⟨m, rfl⟩ : ∃ m', m = m' + 1 := ⟨m - 1, by omega⟩
    obtain ⟨h1, h2⟩ := vb_tup.mp h
    exact vb_tup.mpr ⟨by omega, fun d hd => (h2 d hd).mono hb (by omega)⟩
  | b, c, 0, m, .fl _, h, _, _ => by rw [Vb] at h; exact h.elim
  | b, c, k + 1, m, .fl _, h, _, _ => by rw [Vb] at h; exact h.elim
  | b, c, 0, m, .ref _, h, _, _ => by rw [Vb] at h; exact h.elim
  | b, c, k + 1, m, .ref _, h, _, _ => by rw [Vb] at h; exact h.elim
  | b, c, 0, m, .ty _, h, _, _ => by rw [Vb] at h; exact h.elim
  | b, c, k + 1, m, .ty _, h, _, _ => by rw [Vb] at h; exact h.elim
theorem Vb.items {b k : Nat} {ds : List D} (h : Vb b k (.tup ds)) : ds.length ≤ b ∧ ∀ d ∈ ds, Vb b (k - 1) d := by
  cases k with
  | zero => rw [Vb] at h; exact h.elim
  | succ k => exact vb_tup.mp h
theorem Vb.pos {b k : Nat} {ds : List D} (h : Vb b k (.tup ds)) : 0 < k := by
  cases k with
  | zero => rw [Vb] at h; exact h.elim
  | succ k => omega
def Tx (d : D) : Prop := ∃ s, d = .str s ∧ SOk 400 s
theorem calls_spec {G : DG} {Q : DK} (h : ∀ p G', G p = none → G' p = some (.lst [.str "make", .str "", .str "r 2", .str "Mend!", .str "m"]) → Keep G G' → Q (.ref p) G') : sp_calls [] G Q := by
  refine ⟨rfl, ?_⟩
  show t_calls _ [] G
  unfold t_calls
  try simp only [seq_, next_, ret_, drop_, ifs_, br_t, br_f, asg_, gn_, gt_, gtc_, gtn_, par_, var_0, var_s, c_, nil_, cons_, tup_, lst_, op_, bool_, kb_, tru_, tr_bl, andT_, orT_, kn_tt, kn_tf, kn_ff, kn_ft, notT_, and_, kand_t, kand_f, if_, bre_t, bre_f, call_, cb_, neg_, sl_, nopart_, part_, FD.sl_tup, eq_int0, eq_int1, eq_bl0, eq_bl1, beq_self_eq_true, Bool.not_true, Bool.not_false, add_int, add_tup, add_ref, int_, int0_, mul_int, mul_str, ord_int, FD.ix_tup, ix_fl, ix_ref, at_0, at_1, at_2, at_3, len_tup, len_fl, len_ref, max2_, min2_, tuple_tup, tuple_ref, is_, gs_, setL_, ml_, for_, rng1_, any_, lc_, FD.sl_ref, list_tup, dict0_, dn_, sortK_, val_tup, yes_, isLst_, List.set_cons_zero, List.set_cons_succ, or_, kor_t, kor_f, not_, chain_, kch_t, kch_f, ord_str, len_str, ordc_, strc_int, val_str, add_str, sl_strD, match_, cc_, kc_n, kc_s, cn_, wild_]
  exact ⟨by simp [sizeLine], new_ h⟩
theorem tx_c {s : Str} (h : (PyData.strOk s && decide (s.length ≤ 400) && s.cps.toList.all chText) = true) : Tx (.str s) := by
  simp only [Bool.and_eq_true, decide_eq_true_eq] at h
  exact ⟨s, rfl, h.1.1, h.1.2, h.2⟩
theorem text_spec {f : Addr} {G : DG} {Q : DK} (F : Feed f G) (h : ∀ d G', Tx d → Feed f G' → Ext f G G' → Q d G') : sp_some_text [.ref f] G Q := by
  refine ⟨rfl, ?_⟩
  show t_some_text _ [some (.ref f), none, none] G
  unfold t_some_text
  try simp only [seq_, next_, ret_, drop_, ifs_, br_t, br_f, asg_, gn_, gt_, gtc_, gtn_, par_, var_0, var_s, c_, nil_, cons_, tup_, lst_, op_, bool_, kb_, tru_, tr_bl, andT_, orT_, kn_tt, kn_tf, kn_ff, kn_ft, notT_, and_, kand_t, kand_f, if_, bre_t, bre_f, call_, cb_, neg_, sl_, nopart_, part_, FD.sl_tup, eq_int0, eq_int1, eq_bl0, eq_bl1, beq_self_eq_true, Bool.not_true, Bool.not_false, add_int, add_tup, add_ref, int_, int0_, mul_int, mul_str, ord_int, FD.ix_tup, ix_fl, ix_ref, at_0, at_1, at_2, at_3, len_tup, len_fl, len_ref, max2_, min2_, tuple_tup, tuple_ref, is_, gs_, setL_, ml_, for_, rng1_, any_, lc_, FD.sl_ref, list_tup, dict0_, dn_, sortK_, val_tup, yes_, isLst_, List.set_cons_zero, List.set_cons_succ, or_, kor_t, kor_f, not_, chain_, kch_t, kch_f, ord_str, len_str, ordc_, strc_int, val_str, add_str, sl_strD, match_, cc_, kc_n, kc_s, cn_, wild_]
  refine draw_spec F (by decide) (by decide) fun d G1 d0 d1 F1 x1 => ?_
  try simp only [seq_, next_, ret_, drop_, ifs_, br_t, br_f, asg_, gn_, gt_, gtc_, gtn_, par_, var_0, var_s, c_, nil_, cons_, tup_, lst_, op_, bool_, kb_, tru_, tr_bl, andT_, orT_, kn_tt, kn_tf, kn_ff, kn_ft, notT_, and_, kand_t, kand_f, if_, bre_t, bre_f, call_, cb_, neg_, sl_, nopart_, part_, FD.sl_tup, eq_int0, eq_int1, eq_bl0, eq_bl1, beq_self_eq_true, Bool.not_true, Bool.not_false, add_int, add_tup, add_ref, int_, int0_, mul_int, mul_str, ord_int, FD.ix_tup, ix_fl, ix_ref, at_0, at_1, at_2, at_3, len_tup, len_fl, len_ref, max2_, min2_, tuple_tup, tuple_ref, is_, gs_, setL_, ml_, for_, rng1_, any_, lc_, FD.sl_ref, list_tup, dict0_, dn_, sortK_, val_tup, yes_, isLst_, List.set_cons_zero, List.set_cons_succ, or_, kor_t, kor_f, not_, chain_, kch_t, kch_f, ord_str, len_str, ordc_, strc_int, val_str, add_str, sl_strD, match_, cc_, kc_n, kc_s, cn_, wild_]
  by_cases h7 : d = 7
  · subst h7
    try simp only [seq_, next_, ret_, drop_, ifs_, br_t, br_f, asg_, gn_, gt_, gtc_, gtn_, par_, var_0, var_s, c_, nil_, cons_, tup_, lst_, op_, bool_, kb_, tru_, tr_bl, andT_, orT_, kn_tt, kn_tf, kn_ff, kn_ft, notT_, and_, kand_t, kand_f, if_, bre_t, bre_f, call_, cb_, neg_, sl_, nopart_, part_, FD.sl_tup, eq_int0, eq_int1, eq_bl0, eq_bl1, beq_self_eq_true, Bool.not_true, Bool.not_false, add_int, add_tup, add_ref, int_, int0_, mul_int, mul_str, ord_int, FD.ix_tup, ix_fl, ix_ref, at_0, at_1, at_2, at_3, len_tup, len_fl, len_ref, max2_, min2_, tuple_tup, tuple_ref, is_, gs_, setL_, ml_, for_, rng1_, any_, lc_, FD.sl_ref, list_tup, dict0_, dn_, sortK_, val_tup, yes_, isLst_, List.set_cons_zero, List.set_cons_succ, or_, kor_t, kor_f, not_, chain_, kch_t, kch_f, ord_str, len_str, ordc_, strc_int, val_str, add_str, sl_strD, match_, cc_, kc_n, kc_s, cn_, wild_]
    refine calls_spec fun p G2 hp e k => ?_
    refine pick_spec (F1.keep k) e (F1.ne hp) (by simp) (by simp) fun x G3 hx F3 x3 => ?_
    refine h x G3 ?_ F3 (x1.trans (k.ext.trans x3))
    simp only [List.mem_cons, List.not_mem_nil, or_false] at hx
    rcases hx with rfl | rfl | rfl | rfl | rfl <;> exact tx_c (by decide +kernel)
  have b7 : (d == 7) = false := by simpa using h7
  rw [b7]
  try simp only [seq_, next_, ret_, drop_, ifs_, br_t, br_f, asg_, gn_, gt_, gtc_, gtn_, par_, var_0, var_s, c_, nil_, cons_, tup_, lst_, op_, bool_, kb_, tru_, tr_bl, andT_, orT_, kn_tt, kn_tf, kn_ff, kn_ft, notT_, and_, kand_t, kand_f, if_, bre_t, bre_f, call_, cb_, neg_, sl_, nopart_, part_, FD.sl_tup, eq_int0, eq_int1, eq_bl0, eq_bl1, beq_self_eq_true, Bool.not_true, Bool.not_false, add_int, add_tup, add_ref, int_, int0_, mul_int, mul_str, ord_int, FD.ix_tup, ix_fl, ix_ref, at_0, at_1, at_2, at_3, len_tup, len_fl, len_ref, max2_, min2_, tuple_tup, tuple_ref, is_, gs_, setL_, ml_, for_, rng1_, any_, lc_, FD.sl_ref, list_tup, dict0_, dn_, sortK_, val_tup, yes_, isLst_, List.set_cons_zero, List.set_cons_succ, or_, kor_t, kor_f, not_, chain_, kch_t, kch_f, ord_str, len_str, ordc_, strc_int, val_str, add_str, sl_strD, match_, cc_, kc_n, kc_s, cn_, wild_]
  by_cases h6 : d = 6
  · subst h6
    try simp only [seq_, next_, ret_, drop_, ifs_, br_t, br_f, asg_, gn_, gt_, gtc_, gtn_, par_, var_0, var_s, c_, nil_, cons_, tup_, lst_, op_, bool_, kb_, tru_, tr_bl, andT_, orT_, kn_tt, kn_tf, kn_ff, kn_ft, notT_, and_, kand_t, kand_f, if_, bre_t, bre_f, call_, cb_, neg_, sl_, nopart_, part_, FD.sl_tup, eq_int0, eq_int1, eq_bl0, eq_bl1, beq_self_eq_true, Bool.not_true, Bool.not_false, add_int, add_tup, add_ref, int_, int0_, mul_int, mul_str, ord_int, FD.ix_tup, ix_fl, ix_ref, at_0, at_1, at_2, at_3, len_tup, len_fl, len_ref, max2_, min2_, tuple_tup, tuple_ref, is_, gs_, setL_, ml_, for_, rng1_, any_, lc_, FD.sl_ref, list_tup, dict0_, dn_, sortK_, val_tup, yes_, isLst_, List.set_cons_zero, List.set_cons_succ, or_, kor_t, kor_f, not_, chain_, kch_t, kch_f, ord_str, len_str, ordc_, strc_int, val_str, add_str, sl_strD, match_, cc_, kc_n, kc_s, cn_, wild_]
    refine draw_spec F1 (by decide) (by decide) fun d2 G2 a0 a1 F2 x2 => ?_
    try simp only [seq_, next_, ret_, drop_, ifs_, br_t, br_f, asg_, gn_, gt_, gtc_, gtn_, par_, var_0, var_s, c_, nil_, cons_, tup_, lst_, op_, bool_, kb_, tru_, tr_bl, andT_, orT_, kn_tt, kn_tf, kn_ff, kn_ft, notT_, and_, kand_t, kand_f, if_, bre_t, bre_f, call_, cb_, neg_, sl_, nopart_, part_, FD.sl_tup, eq_int0, eq_int1, eq_bl0, eq_bl1, beq_self_eq_true, Bool.not_true, Bool.not_false, add_int, add_tup, add_ref, int_, int0_, mul_int, mul_str, ord_int, FD.ix_tup, ix_fl, ix_ref, at_0, at_1, at_2, at_3, len_tup, len_fl, len_ref, max2_, min2_, tuple_tup, tuple_ref, is_, gs_, setL_, ml_, for_, rng1_, any_, lc_, FD.sl_ref, list_tup, dict0_, dn_, sortK_, val_tup, yes_, isLst_, List.set_cons_zero, List.set_cons_succ, or_, kor_t, kor_f, not_, chain_, kch_t, kch_f, ord_str, len_str, ordc_, strc_int, val_str, add_str, sl_strD, match_, cc_, kc_n, kc_s, cn_, wild_]
    refine ⟨by simp [sizeLine], ?_⟩
    refine new_ fun p G3 hp e k => ?_
    try simp only [seq_, next_, ret_, drop_, ifs_, br_t, br_f, asg_, gn_, gt_, gtc_, gtn_, par_, var_0, var_s, c_, nil_, cons_, tup_, lst_, op_, bool_, kb_, tru_, tr_bl, andT_, orT_, kn_tt, kn_tf, kn_ff, kn_ft, notT_, and_, kand_t, kand_f, if_, bre_t, bre_f, call_, cb_, neg_, sl_, nopart_, part_, FD.sl_tup, eq_int0, eq_int1, eq_bl0, eq_bl1, beq_self_eq_true, Bool.not_true, Bool.not_false, add_int, add_tup, add_ref, int_, int0_, mul_int, mul_str, ord_int, FD.ix_tup, ix_fl, ix_ref, at_0, at_1, at_2, at_3, len_tup, len_fl, len_ref, max2_, min2_, tuple_tup, tuple_ref, is_, gs_, setL_, ml_, for_, rng1_, any_, lc_, FD.sl_ref, list_tup, dict0_, dn_, sortK_, val_tup, yes_, isLst_, List.set_cons_zero, List.set_cons_succ, or_, kor_t, kor_f, not_, chain_, kch_t, kch_f, ord_str, len_str, ordc_, strc_int, val_str, add_str, sl_strD, match_, cc_, kc_n, kc_s, cn_, wild_]
    refine draw_spec (F2.keep k) (by decide) (by decide) fun d3 G4 b0 b1 F4 x4 => ?_
    have e4 := x4.get (F2.ne hp) e
    try simp only [seq_, next_, ret_, drop_, ifs_, br_t, br_f, asg_, gn_, gt_, gtc_, gtn_, par_, var_0, var_s, c_, nil_, cons_, tup_, lst_, op_, bool_, kb_, tru_, tr_bl, andT_, orT_, kn_tt, kn_tf, kn_ff, kn_ft, notT_, and_, kand_t, kand_f, if_, bre_t, bre_f, call_, cb_, neg_, sl_, nopart_, part_, FD.sl_tup, eq_int0, eq_int1, eq_bl0, eq_bl1, beq_self_eq_true, Bool.not_true, Bool.not_false, add_int, add_tup, add_ref, int_, int0_, mul_int, mul_str, ord_int, FD.ix_tup, ix_fl, ix_ref, at_0, at_1, at_2, at_3, len_tup, len_fl, len_ref, max2_, min2_, tuple_tup, tuple_ref, is_, gs_, setL_, ml_, for_, rng1_, any_, lc_, FD.sl_ref, list_tup, dict0_, dn_, sortK_, val_tup, yes_, isLst_, List.set_cons_zero, List.set_cons_succ, or_, kor_t, kor_f, not_, chain_, kch_t, kch_f, ord_str, len_str, ordc_, strc_int, val_str, add_str, sl_strD, match_, cc_, kc_n, kc_s, cn_, wild_, ex_lst e4]
    refine ⟨⟨by decide, by decide⟩, ?_⟩
    refine at_in (by omega) (by simp; omega) fun n hn => ?_
    have hn' : ∃ m : Int, n = .int m ∧ 1 ≤ m ∧ m ≤ 400 := by
      simp only [List.mem_cons, List.not_mem_nil, or_false] at hn
      rcases hn with rfl | rfl
      · exact ⟨_, rfl, by omega, by omega⟩
      · exact ⟨_, rfl, by omega, by omega⟩
    obtain ⟨m, rfl, m0, m1⟩ := hn'
    try simp only [seq_, next_, ret_, drop_, ifs_, br_t, br_f, asg_, gn_, gt_, gtc_, gtn_, par_, var_0, var_s, c_, nil_, cons_, tup_, lst_, op_, bool_, kb_, tru_, tr_bl, andT_, orT_, kn_tt, kn_tf, kn_ff, kn_ft, notT_, and_, kand_t, kand_f, if_, bre_t, bre_f, call_, cb_, neg_, sl_, nopart_, part_, FD.sl_tup, eq_int0, eq_int1, eq_bl0, eq_bl1, beq_self_eq_true, Bool.not_true, Bool.not_false, add_int, add_tup, add_ref, int_, int0_, mul_int, mul_str, ord_int, FD.ix_tup, ix_fl, ix_ref, at_0, at_1, at_2, at_3, len_tup, len_fl, len_ref, max2_, min2_, tuple_tup, tuple_ref, is_, gs_, setL_, ml_, for_, rng1_, any_, lc_, FD.sl_ref, list_tup, dict0_, dn_, sortK_, val_tup, yes_, isLst_, List.set_cons_zero, List.set_cons_succ, or_, kor_t, kor_f, not_, chain_, kch_t, kch_f, ord_str, len_str, ordc_, strc_int, val_str, add_str, sl_strD, match_, cc_, kc_n, kc_s, cn_, wild_]
    have hx1 : SOk 1 "x" := ⟨by decide +kernel, by decide +kernel, by decide +kernel⟩
    refine ⟨mul_ok hx1 (by omega) (by omega), by simp [sizeLine], ?_⟩
    refine new_ fun q G5 hq e5 k5 => ?_
    refine pick_spec (F4.keep k5) e5 (F4.ne hq) (by simp) (by simp) fun x G6 hx F6 x6 => ?_
    refine h x G6 ?_ F6 (x1.trans (x2.trans (k.ext.trans (x4.trans (k5.ext.trans x6)))))
    simp only [List.mem_cons, List.not_mem_nil, or_false] at hx
    rcases hx with rfl | rfl | rfl | rfl | rfl | rfl | rfl | rfl | rfl | rfl <;> first | exact tx_c (by decide +kernel) | exact ⟨_, rfl, sok_mul hx1 (by omega)⟩
  have b6 : (d == 6) = false := by simpa using h6
  rw [b6]
  try simp only [seq_, next_, ret_, drop_, ifs_, br_t, br_f, asg_, gn_, gt_, gtc_, gtn_, par_, var_0, var_s, c_, nil_, cons_, tup_, lst_, op_, bool_, kb_, tru_, tr_bl, andT_, orT_, kn_tt, kn_tf, kn_ff, kn_ft, notT_, and_, kand_t, kand_f, if_, bre_t, bre_f, call_, cb_, neg_, sl_, nopart_, part_, FD.sl_tup, eq_int0, eq_int1, eq_bl0, eq_bl1, beq_self_eq_true, Bool.not_true, Bool.not_false, add_int, add_tup, add_ref, int_, int0_, mul_int, mul_str, ord_int, FD.ix_tup, ix_fl, ix_ref, at_0, at_1, at_2, at_3, len_tup, len_fl, len_ref, max2_, min2_, tuple_tup, tuple_ref, is_, gs_, setL_, ml_, for_, rng1_, any_, lc_, FD.sl_ref, list_tup, dict0_, dn_, sortK_, val_tup, yes_, isLst_, List.set_cons_zero, List.set_cons_succ, or_, kor_t, kor_f, not_, chain_, kch_t, kch_f, ord_str, len_str, ordc_, strc_int, val_str, add_str, sl_strD, match_, cc_, kc_n, kc_s, cn_, wild_]
  refine ⟨by simp [sizeLine], ?_⟩
  refine new_ fun q G5 hq e5 k5 => ?_
  try simp only [seq_, next_, ret_, drop_, ifs_, br_t, br_f, asg_, gn_, gt_, gtc_, gtn_, par_, var_0, var_s, c_, nil_, cons_, tup_, lst_, op_, bool_, kb_, tru_, tr_bl, andT_, orT_, kn_tt, kn_tf, kn_ff, kn_ft, notT_, and_, kand_t, kand_f, if_, bre_t, bre_f, call_, cb_, neg_, sl_, nopart_, part_, FD.sl_tup, eq_int0, eq_int1, eq_bl0, eq_bl1, beq_self_eq_true, Bool.not_true, Bool.not_false, add_int, add_tup, add_ref, int_, int0_, mul_int, mul_str, ord_int, FD.ix_tup, ix_fl, ix_ref, at_0, at_1, at_2, at_3, len_tup, len_fl, len_ref, max2_, min2_, tuple_tup, tuple_ref, is_, gs_, setL_, ml_, for_, rng1_, any_, lc_, FD.sl_ref, list_tup, dict0_, dn_, sortK_, val_tup, yes_, isLst_, List.set_cons_zero, List.set_cons_succ, or_, kor_t, kor_f, not_, chain_, kch_t, kch_f, ord_str, len_str, ordc_, strc_int, val_str, add_str, sl_strD, match_, cc_, kc_n, kc_s, cn_, wild_, ex_lst e5]
  refine at_in d0 (by simp; omega) fun x hx => ?_
  refine h x G5 ?_ (F1.keep k5) (x1.trans k5.ext)
  simp only [List.mem_cons, List.not_mem_nil, or_false] at hx
  rcases hx with rfl | rfl | rfl | rfl | rfl | rfl <;> exact tx_c (by decide +kernel)
end K01

/-! alike values; any value -/
namespace K01
open PySem L2 FD
theorem var_at {ρ : DSt} {v : Nat} {d : D} {G : DG} {Q : DK} (h : ρ[v]? = some (some d)) : dVar v ρ G Q = Q d G := by unfold dVar; rw [h]
def kRaise (c fld : Str) (W : DWX) (ρ : DSt) : List D → DG → Prop := fun xs G1 => match xs with
  | [x] => W c [(fld, x)] ρ G1
  | _ => False
theorem raise_ {c fld : Str} {W : DWX} {E : DEnds} {tA : DA} {ρ : DSt} {G : DG} : dRaise c fld W tA E ρ G = tA ρ G (kRaise c fld W ρ) := rfl
theorem zip_self : ∀ ds : List D, zipD ds ds = ds.map fun d => .tup [d, d]
  | [] => rfl
  | d :: ds => by
    have h := zip_self ds
    unfold zipD at h ⊢
    rw [List.zip_cons_cons, List.map_cons, List.map_cons, h]
theorem rep_of {ds ys : List D} (h : Paired (fun _ y => y = D.bl true) ds ys) : ys = List.replicate ys.length (.bl true) := List.eq_replicate_iff.mpr ⟨rfl, paired_all h⟩
/-- the items, one by one -/
theorem same_items {k n : Nat} {x y : D} {chk : DG → Prop} {xs : List D} {G : DG} {Q : DK} (ih : ∀ d ∈ xs, ∀ {G : DG} {Q : DK}, (∀ G', Keep G G' → Q (.bl true) G') → sp_same n [d, d] G Q) (hc : ∀ G', Keep G G' → chk G') (hl : xs.length ≤ sizeLine)
    (h : ∀ p m G', G' p = some (.lst (List.replicate m (.bl true))) → Keep G G' → Q (.ref p) G') :
    lcGo chk (gtD 2 (gtCons (gnD 2) (gtCons (gnD 3) gtNil))) dYes (dCall (self N_same 2 (t_same n)) (dCons (dVar 2) (dCons (dVar 3) dNil))) [some x, some y, none, none] (fun acc G' => kNew G' (.lst acc) Q) (zipD xs xs) [] G := by
  rw [zip_self]
  refine lcGo_inv (fun G' => Keep G G') (fun _ y => y = D.bl true) hc _ _ _ ?_ .refl (by simpa using hl) fun ys G1 hp k1 => ?_
  · intro d hd G1 K k1 kk
    obtain ⟨e, he, rfl⟩ := List.mem_map.mp hd
    try simp only [seq_, next_, ret_, drop_, ifs_, br_t, br_f, asg_, gn_, gt_, gtc_, gtn_, par_, var_0, var_s, c_, nil_, cons_, tup_, lst_, op_, bool_, kb_, tru_, tr_bl, andT_, orT_, kn_tt, kn_tf, kn_ff, kn_ft, notT_, and_, kand_t, kand_f, if_, bre_t, bre_f, call_, cb_, neg_, sl_, nopart_, part_, FD.sl_tup, eq_int0, eq_int1, eq_bl0, eq_bl1, beq_self_eq_true, Bool.not_true, Bool.not_false, add_int, add_tup, add_ref, int_, int0_, mul_int, mul_str, ord_int, FD.ix_tup, ix_fl, ix_ref, at_0, at_1, at_2, at_3, len_tup, len_fl, len_ref, max2_, min2_, tuple_tup, tuple_ref, is_, gs_, setL_, ml_, for_, rng1_, any_, lc_, FD.sl_ref, list_tup, dict0_, dn_, sortK_, val_tup, yes_, isLst_, List.set_cons_zero, List.set_cons_succ, or_, kor_t, kor_f, not_, chain_, kch_t, kch_f, ord_str, len_str, ordc_, strc_int, val_str, add_str, sl_strD, match_, cc_, kc_n, kc_s, cn_, wild_]
    refine ⟨rfl, ?_⟩
    exact ih e he fun G2 k2 => kk _ G2 rfl (k1.trans k2)
  · rw [List.nil_append, rep_of hp]
    exact new_ fun p G2 _ e k2 => h p _ G2 e (k1.trans k2)
theorem same_tail {k n : Nat} {d : D} {G : DG} {Q : DK} (hd : Pl k d) (hk : k ≤ 64) (a : Ty) (ha : tyD G d = some a) (h1 : Ty.isa a .list = false) (h2 : Ty.isa a .tuple = false) (h : Q (.bl true) G) : sp_same (n + 1) [d, d] G Q := by
  refine ⟨rfl, ?_⟩
  show t_same (n + 1) _ [some d, some d, none, none] G
  unfold t_same
  try simp only [seq_, next_, ret_, drop_, ifs_, br_t, br_f, asg_, gn_, gt_, gtc_, gtn_, par_, var_0, var_s, c_, nil_, cons_, tup_, lst_, op_, bool_, kb_, tru_, tr_bl, andT_, orT_, kn_tt, kn_tf, kn_ff, kn_ft, notT_, and_, kand_t, kand_f, if_, bre_t, bre_f, call_, cb_, neg_, sl_, nopart_, part_, FD.sl_tup, eq_int0, eq_int1, eq_bl0, eq_bl1, beq_self_eq_true, Bool.not_true, Bool.not_false, add_int, add_tup, add_ref, int_, int0_, mul_int, mul_str, ord_int, FD.ix_tup, ix_fl, ix_ref, at_0, at_1, at_2, at_3, len_tup, len_fl, len_ref, max2_, min2_, tuple_tup, tuple_ref, is_, gs_, setL_, ml_, for_, rng1_, any_, lc_, FD.sl_ref, list_tup, dict0_, dn_, sortK_, val_tup, yes_, isLst_, List.set_cons_zero, List.set_cons_succ, or_, kor_t, kor_f, not_, chain_, kch_t, kch_f, ord_str, len_str, ordc_, strc_int, val_str, add_str, sl_strD, match_, cc_, kc_n, kc_s, cn_, wild_, isi_ty ha ty_list, isi_ty ha ty_bool, isi_ty ha ty_int, isi_ty ha ty_str, isi_ty2 ha ty_list ty_tuple, h1, h2, Bool.or_self]
  repeat (with_reducible refine And.intro (by first | rfl | omega | (simp only [sizeLine, List.length_cons, List.length_nil, List.length_append] <;> omega)) ?_)
  refine eq_pl hd hd hk hk ?_
  rw [hd.refl]
  exact h
theorem same_pl : ∀ (k n : Nat) (d : D) {G : DG} {Q : DK}, Pl k d → k ≤ 64 → k ≤ n → (∀ G', Keep G G' → Q (.bl true) G') → sp_same (n + 1) [d, d] G Q
  | k, n, .non, G, Q, hd, hk, hn, h => same_tail hd hk .none rfl rfl rfl (h G .refl)
  | k, n, .bl _, G, Q, hd, hk, hn, h => same_tail hd hk .bool rfl rfl rfl (h G .refl)
  | k, n, .int _, G, Q, hd, hk, hn, h => same_tail hd hk .int rfl rfl rfl (h G .refl)
  | k, n, .str _, G, Q, hd, hk, hn, h => same_tail hd hk .str rfl rfl rfl (h G .refl)
  | 0, n, .tup ds, G, Q, hd, hk, hn, h => by rw [Pl] at hd; exact hd.elim
  | k + 1, 0, .tup ds, G, Q, hd, hk, hn, h => by omega
  | k + 1, n + 1, .tup ds, G, Q, hd, hk, hn, h => by
    obtain ⟨hl, hi⟩ := pl_tup.mp hd
    have ha : ∀ {G : DG}, tyD G (.tup ds) = some .tuple := rfl
    refine ⟨rfl, ?_⟩
    show t_same (n + 1 + 1) _ [some (.tup ds), some (.tup ds), none, none] G
    rw [t_same]
    try simp only [seq_, next_, ret_, drop_, ifs_, br_t, br_f, asg_, gn_, gt_, gtc_, gtn_, par_, var_0, var_s, c_, nil_, cons_, tup_, lst_, op_, bool_, kb_, tru_, tr_bl, andT_, orT_, kn_tt, kn_tf, kn_ff, kn_ft, notT_, and_, kand_t, kand_f, if_, bre_t, bre_f, call_, cb_, neg_, sl_, nopart_, part_, FD.sl_tup, eq_int0, eq_int1, eq_bl0, eq_bl1, beq_self_eq_true, Bool.not_true, Bool.not_false, add_int, add_tup, add_ref, int_, int0_, mul_int, mul_str, ord_int, FD.ix_tup, ix_fl, ix_ref, at_0, at_1, at_2, at_3, len_tup, len_fl, len_ref, max2_, min2_, tuple_tup, tuple_ref, is_, gs_, setL_, ml_, for_, rng1_, any_, lc_, FD.sl_ref, list_tup, dict0_, dn_, sortK_, val_tup, yes_, isLst_, List.set_cons_zero, List.set_cons_succ, or_, kor_t, kor_f, not_, chain_, kch_t, kch_f, ord_str, len_str, ordc_, strc_int, val_str, add_str, sl_strD, match_, cc_, kc_n, kc_s, cn_, wild_, isi_ty ha ty_list, isi_ty2 ha ty_list ty_tuple, show Ty.isa .tuple .list = false from rfl, show Ty.isa .tuple .tuple = true from rfl, Bool.false_or]
    repeat (with_reducible refine And.intro (by first | rfl | omega | (simp only [sizeLine, List.length_cons, List.length_nil, List.length_append] <;> omega)) ?_)
    refine same_items (k := k) (fun d hd' {G Q} => same_pl k n d (hi d hd') (by omega) (by omega)) (fun _ _ => True.intro) hl fun p m G' e kk => all_true e (h _ kk)
  | 0, n, .fl ds, G, Q, hd, hk, hn, h => by rw [Pl] at hd; exact hd.elim
  | 0, n, .ref ds, G, Q, hd, hk, hn, h => by rw [Pl] at hd; exact hd.elim
  | 0, n, .ty ds, G, Q, hd, hk, hn, h => by rw [Pl] at hd; exact hd.elim
  | k + 1, n, .fl ds, G, Q, hd, hk, hn, h => by rw [Pl] at hd; exact hd.elim
  | k + 1, n, .ref ds, G, Q, hd, hk, hn, h => by rw [Pl] at hd; exact hd.elim
  | k + 1, n, .ty ds, G, Q, hd, hk, hn, h => by rw [Pl] at hd; exact hd.elim
theorem any_value_spec {f : Addr} {G : DG} {Q : DK} (F : Feed f G) (h : ∀ d G', Pl 2 d → Feed f G' → Ext f G G' → Q d G') : sp_any_value [.ref f] G Q := by
  have pt : ∀ {k : Nat} {d : D}, Tx d → Pl k d := fun {k d} ⟨s, e, hs⟩ => by
    subst e
    cases k <;> (rw [Pl]; exact hs.1)
  have pi : ∀ {k : Nat} {i : Int}, Pl k (.int i) := fun {k i} => by cases k <;> (rw [Pl]; trivial)
  have pn : ∀ {k : Nat}, Pl k .non := fun {k} => by cases k <;> (rw [Pl]; trivial)
  have pb : ∀ {k : Nat} {b : Bool}, Pl k (.bl b) := fun {k b} => by cases k <;> (rw [Pl]; trivial)
  refine ⟨rfl, ?_⟩
  show t_any_value _ [some (.ref f), none] G
  unfold t_any_value
  rw [seq_, asg_, call_, cons_, var_at (d := .ref f) rfl, cons_, c_, nil_]
  refine draw_spec F (by decide) (by decide) fun i G1 i0 i1 F1 x1 => ?_
  simp only [gn_, List.set_cons_zero, List.set_cons_succ]
  rw [seq_, ifs_, bool_, op_, var_at (d := .int i) rfl, c_, eq_int0, kb_]
  cases hi : (i == (0 : Int)) with
  | true =>
    rw [br_t, ret_, tup_, cons_, call_, cons_, var_at (d := .ref f) rfl, nil_]
    refine text_spec F1 fun d G2 hd F2 x2 => ?_
    rw [cons_, tup_, cons_, call_, cons_, var_at (d := .ref f) rfl, cons_, c_, nil_]
    refine draw_spec F2 (by decide) (by decide) fun j G3 _ _ F3 x3 => ?_
    rw [cons_, c_, nil_]
    refine ⟨by simp [sizeLine], ?_⟩
    rw [nil_]
    refine ⟨by simp [sizeLine], h _ G3 ?_ F3 (x1.trans (x2.trans x3))⟩
    refine pl_tup.mpr ⟨by simp [sizeLine], fun z hz => ?_⟩
    simp only [List.mem_cons, List.not_mem_nil, or_false] at hz
    rcases hz with rfl | rfl
    · exact pt hd
    · refine pl_tup.mpr ⟨by simp [sizeLine], fun z hz => ?_⟩
      simp only [List.mem_cons, List.not_mem_nil, or_false] at hz
      rcases hz with rfl | rfl
      · exact pi
      · exact pn
  | false =>
    rw [br_f, next_]
    dsimp only
    have i1' : i ≠ 0 := by
      intro e
      rw [e] at hi
      cases hi
    rw [ret_, op_, lst_, cons_, c_, cons_, c_, cons_, op_, c_, call_, cons_, var_at (d := .ref f) rfl, cons_, c_, nil_]
    refine draw_spec F1 (by decide) (by decide) fun j G2 _ _ F2 x2 => ?_
    simp only [int0_]
    rw [cons_, op_, c_, c_]
    refine ⟨⟨by decide, by decide, by decide⟩, ?_⟩
    refine (?_ : dCons (dCall sp_some_text (dCons (dVar 0) dNil)) (dCons (dTup dNil) dNil) _ G2 _)
    rw [cons_, call_, cons_, var_at (d := .ref f) rfl, nil_]
    refine text_spec F2 fun d G3 hd F3 x3 => ?_
    rw [cons_, tup_, nil_]
    refine ⟨by simp [sizeLine], ?_⟩
    rw [nil_]
    refine ⟨by simp [sizeLine], new_ fun m G4 hm e4 k4 => ?_⟩
    rw [op_, var_at (d := .int i) rfl, c_]
    simp only [int0_]
    rw [ix_ref]
    refine ⟨_, e4, at_in (by omega) (by simp only [List.length_cons, List.length_nil]; omega) fun z hz => ?_⟩
    refine h z G4 ?_ (F3.keep k4) (x1.trans (x2.trans (x3.trans k4.ext)))
    simp only [List.mem_cons, List.not_mem_nil, or_false] at hz
    rcases hz with rfl | rfl | rfl | rfl | rfl | rfl
    · exact pn
    · exact pb
    · exact pi
    · exact pi
    · exact pt hd
    · exact pl_tup.mpr ⟨by simp [sizeLine], fun _ q => nomatch q⟩
end K01

/-! the exceptions that are made, one for each class, with the value each keeps -/
namespace K01
open PySem L2 FD
section
variable {ρ : DSt} {G : DG} {Q : DK}
def kPar3 (i j l : Nat) (E : DEnds) (ρ : DSt) : List D → DG → Prop := fun ds G1 => match ds with
  | [x, y, z] => E.nx (((ρ.set i (some x)).set j (some y)).set l (some z)) G1
  | _ => False
theorem par3_ {i j l : Nat} {E : DEnds} {tA : DA} : dPar3 i j l tA E ρ G = tA ρ G (kPar3 i j l E ρ) := rfl
theorem kpar3_ {i j l : Nat} {E : DEnds} {x y z : D} : kPar3 i j l E ρ [x, y, z] G = E.nx (((ρ.set i (some x)).set j (some y)).set l (some z)) G := rfl
def kExn (c f : Str) (Q : DK) (x : D) (G : DG) : Prop := ∀ p, G p = none → Q (.ref p) (G.upd p (.exn c [(f, x)]))
theorem exn_ {c f : Str} {te : DE} : dExn c f (dCons te dNil) ρ G Q = te ρ G fun x G1 => kExn c f Q x G1 := rfl
theorem exn_g {c f : Str} {x : D} (h : ∀ p G', G p = none → G' p = some (.exn c [(f, x)]) → Keep G G' → Q (.ref p) G') : kExn c f Q x G := fun p hp => h p _ hp gupd_same (keep_new hp)
def kExn0 (c : Str) (Q : DK) (G : DG) : Prop := ∀ p, G p = none → Q (.ref p) (G.upd p (.exn c []))
theorem exn0_ {c : Str} : dExn0 c ρ G Q = kExn0 c Q G := rfl
theorem exn0_g {c : Str} (h : ∀ p G', G p = none → G' p = some (.exn c []) → Keep G G' → Q (.ref p) G') : kExn0 c Q G := fun p hp => h p _ hp gupd_same (keep_new hp)
def kExn2 (c fx fz : Str) (Q : DK) (x y : D) (G : DG) : Prop := ∀ p, G p = none → Q (.ref p) (G.upd p (.exn c [(fz, y), (fx, x)]))
theorem exn2_ {c fx fz : Str} {te tz : DE} : dExn2 c fx fz (dCons te (dCons tz dNil)) ρ G Q = te ρ G fun x G1 => tz ρ G1 fun y G2 => kExn2 c fx fz Q x y G2 := rfl
theorem exn2_g {c fx fz : Str} {x y : D} (h : ∀ p G', G p = none → G' p = some (.exn c [(fz, y), (fx, x)]) → Keep G G' → Q (.ref p) G') : kExn2 c fx fz Q x y G := fun p hp => h p _ hp gupd_same (keep_new hp)
def kXv (cs : List Str) (f : Str) (Q : DK) : DK := fun x G1 => match x with
  | .ref a => ∃ c fs v, G1 a = some (.exn c fs) ∧ c ∈ cs ∧ fs.lookup f = some v ∧ Q v G1
  | _ => False
theorem xv_ {cs : List Str} {f : Str} {te : DE} : dXv cs f te ρ G Q = te ρ G (kXv cs f Q) := rfl
theorem xv_g {cs : List Str} {f : Str} {a : Addr} {c : Str} {fs : List (Str × D)} {v : D} (h1 : G a = some (.exn c fs)) (h2 : c ∈ cs) (h3 : fs.lookup f = some v) (h : Q v G) : kXv cs f Q (.ref a) G := ⟨c, fs, v, h1, h2, h3, h⟩
def kIsV (ms : Str → Option Bool) (Q : DK) : DK := fun x G1 => match x with
  | .ref a => ∃ c fs b, G1 a = some (.exn c fs) ∧ ms c = some b ∧ Q (.bl b) G1
  | _ => False
theorem isV_ {ms : Str → Option Bool} {te : DE} : dIsV ms te ρ G Q = te ρ G (kIsV ms Q) := rfl
theorem isV_g {ms : Str → Option Bool} {a : Addr} {c : Str} {fs : List (Str × D)} {b : Bool} (h1 : G a = some (.exn c fs)) (h2 : ms c = some b) (h : Q (.bl b) G) : kIsV ms Q (.ref a) G := ⟨c, fs, b, h1, h2, h⟩
end
/-- rows of an exception and what it keeps -/
def Made (G : DG) (a : D) : List (Str × Str) → List D → Prop
  | [], xs => xs = []
  | (c, f) :: r, xs => ∃ p ys, xs = .tup [.ref p, a] :: ys ∧ G p = some (.exn c [(f, a)]) ∧ Made G a r ys
theorem Made.keep {G G' : DG} {a : D} (k : Keep G G') : ∀ {r : List (Str × Str)} {xs : List D}, Made G a r xs → Made G' a r xs
  | [], _, h => h
  | (c, f) :: r, xs, h => by
    obtain ⟨p, ys, e, hp, h⟩ := h
    exact ⟨p, ys, e, k _ _ hp, h.keep k⟩
theorem Made.app {G : DG} {a : D} : ∀ {r s : List (Str × Str)} {xs ys : List D}, Made G a r xs → Made G a s ys → Made G a (r ++ s) (xs ++ ys)
  | [], s, xs, ys, h, g => by
    rw [Made] at h
    subst h
    exact g
  | (c, f) :: r, s, xs, ys, h, g => by
    obtain ⟨p, zs, rfl, hp, h⟩ := h
    exact ⟨p, zs ++ ys, rfl, hp, h.app g⟩
theorem Made.len {G : DG} {a : D} : ∀ {r : List (Str × Str)} {xs : List D}, Made G a r xs → xs.length = r.length
  | [], _, h => by rw [Made] at h; rw [h]; rfl
  | (c, f) :: r, xs, h => by
    obtain ⟨p, zs, rfl, hp, h⟩ := h
    rw [List.length_cons, List.length_cons, h.len]
def RA : List (Str × Str) := [("Clash", "spot"), ("Gap", "spot"), ("Rewritten", "spot"), ("NoPlace", "spot"), ("NotNeeded", "spot"), ("NotPart", "spot"), ("BadTree", "path"), ("NotSettled", "key"), ("NotOpen", "key"), ("NotCause", "cause")]
def RB : List (Str × Str) := [("NoTarget", "name"), ("NotSource", "name"), ("Mismatch", "name"), ("Taken", "name"), ("Stuck", "ring"), ("BadLine", "line"), ("BadKind", "line"), ("NotFresh", "words"), ("Conflict", "conflicts"), ("Failed", "path"), ("BadEntry", "entry")]
theorem keep_back {p : Addr} {G0 G : DG} (x : FD.Keep G0 G) (h : G p = none) : G0 p = none := by
  cases e : G0 p with
  | none => rfl
  | some u => rw [x p u e] at h; cases h
theorem with_places_spec {a : D} {G : DG} {Q : DK} (h : ∀ m xs G', G m = none → G' m = some (.lst xs) → Made G' a RA xs → Keep G G' → Q (.ref m) G') : sp_with_places [a] G Q := by
  refine ⟨rfl, ?_⟩
  show t_with_places _ [some a, none, none, none, none, none, none, none, none, none, none] G
  unfold t_with_places
  try simp only [seq_, next_, ret_, drop_, ifs_, br_t, br_f, asg_, gn_, gt_, gtc_, gtn_, par_, var_0, var_s, c_, nil_, cons_, tup_, lst_, op_, bool_, kb_, tru_, tr_bl, andT_, orT_, kn_tt, kn_tf, kn_ff, kn_ft, notT_, and_, kand_t, kand_f, if_, bre_t, bre_f, call_, cb_, neg_, sl_, nopart_, part_, FD.sl_tup, eq_int0, eq_int1, eq_bl0, eq_bl1, beq_self_eq_true, Bool.not_true, Bool.not_false, add_int, add_tup, add_ref, int_, int0_, mul_int, mul_str, ord_int, FD.ix_tup, ix_fl, ix_ref, at_0, at_1, at_2, at_3, len_tup, len_fl, len_ref, max2_, min2_, tuple_tup, tuple_ref, is_, gs_, setL_, ml_, for_, rng1_, any_, lc_, FD.sl_ref, list_tup, dict0_, dn_, sortK_, val_tup, yes_, isLst_, List.set_cons_zero, List.set_cons_succ, or_, kor_t, kor_f, not_, chain_, kch_t, kch_f, ord_str, len_str, ordc_, strc_int, val_str, add_str, sl_strD, match_, cc_, kc_n, kc_s, cn_, wild_, exn_, xv_, par3_, kpar3_]
  refine exn_g fun p1 G1 h1 e1 k1 => ?_
  try dsimp only
  refine exn_g fun p2 G2 h2 e2 k2 => ?_
  try dsimp only
  refine exn_g fun p3 G3 h3 e3 k3 => ?_
  try dsimp only
  refine exn_g fun p4 G4 h4 e4 k4 => ?_
  try dsimp only
  refine exn_g fun p5 G5 h5 e5 k5 => ?_
  try dsimp only
  refine exn_g fun p6 G6 h6 e6 k6 => ?_
  try dsimp only
  refine exn_g fun p7 G7 h7 e7 k7 => ?_
  try dsimp only
  try (refine ⟨by simp [sizeLine], ?_⟩)
  try (refine ⟨rfl, ?_⟩)
  try simp only [seq_, next_, ret_, drop_, ifs_, br_t, br_f, asg_, gn_, gt_, gtc_, gtn_, par_, var_0, var_s, c_, nil_, cons_, tup_, lst_, op_, bool_, kb_, tru_, tr_bl, andT_, orT_, kn_tt, kn_tf, kn_ff, kn_ft, notT_, and_, kand_t, kand_f, if_, bre_t, bre_f, call_, cb_, neg_, sl_, nopart_, part_, FD.sl_tup, eq_int0, eq_int1, eq_bl0, eq_bl1, beq_self_eq_true, Bool.not_true, Bool.not_false, add_int, add_tup, add_ref, int_, int0_, mul_int, mul_str, ord_int, FD.ix_tup, ix_fl, ix_ref, at_0, at_1, at_2, at_3, len_tup, len_fl, len_ref, max2_, min2_, tuple_tup, tuple_ref, is_, gs_, setL_, ml_, for_, rng1_, any_, lc_, FD.sl_ref, list_tup, dict0_, dn_, sortK_, val_tup, yes_, isLst_, List.set_cons_zero, List.set_cons_succ, or_, kor_t, kor_f, not_, chain_, kch_t, kch_f, ord_str, len_str, ordc_, strc_int, val_str, add_str, sl_strD, match_, cc_, kc_n, kc_s, cn_, wild_, exn_, xv_, par3_, kpar3_]
  refine exn_g fun p8 G8 h8 e8 k8 => ?_
  try dsimp only
  refine exn_g fun p9 G9 h9 e9 k9 => ?_
  try dsimp only
  refine exn_g fun p10 G10 h10 e10 k10 => ?_
  try dsimp only
  try simp only [seq_, next_, ret_, drop_, ifs_, br_t, br_f, asg_, gn_, gt_, gtc_, gtn_, par_, var_0, var_s, c_, nil_, cons_, tup_, lst_, op_, bool_, kb_, tru_, tr_bl, andT_, orT_, kn_tt, kn_tf, kn_ff, kn_ft, notT_, and_, kand_t, kand_f, if_, bre_t, bre_f, call_, cb_, neg_, sl_, nopart_, part_, FD.sl_tup, eq_int0, eq_int1, eq_bl0, eq_bl1, beq_self_eq_true, Bool.not_true, Bool.not_false, add_int, add_tup, add_ref, int_, int0_, mul_int, mul_str, ord_int, FD.ix_tup, ix_fl, ix_ref, at_0, at_1, at_2, at_3, len_tup, len_fl, len_ref, max2_, min2_, tuple_tup, tuple_ref, is_, gs_, setL_, ml_, for_, rng1_, any_, lc_, FD.sl_ref, list_tup, dict0_, dn_, sortK_, val_tup, yes_, isLst_, List.set_cons_zero, List.set_cons_succ, or_, kor_t, kor_f, not_, chain_, kch_t, kch_f, ord_str, len_str, ordc_, strc_int, val_str, add_str, sl_strD, match_, cc_, kc_n, kc_s, cn_, wild_, exn_, xv_, par3_, kpar3_]
  have e1' := (k10 _ _ (k9 _ _ (k8 _ _ (k7 _ _ (k6 _ _ (k5 _ _ (k4 _ _ (k3 _ _ (k2 _ _ e1)))))))))
  have e2' := (k10 _ _ (k9 _ _ (k8 _ _ (k7 _ _ (k6 _ _ (k5 _ _ (k4 _ _ (k3 _ _ e2))))))))
  have e3' := (k10 _ _ (k9 _ _ (k8 _ _ (k7 _ _ (k6 _ _ (k5 _ _ (k4 _ _ e3)))))))
  have e4' := (k10 _ _ (k9 _ _ (k8 _ _ (k7 _ _ (k6 _ _ (k5 _ _ e4))))))
  have e5' := (k10 _ _ (k9 _ _ (k8 _ _ (k7 _ _ (k6 _ _ e5)))))
  have e6' := (k10 _ _ (k9 _ _ (k8 _ _ (k7 _ _ e6))))
  have e7' := (k10 _ _ (k9 _ _ (k8 _ _ e7)))
  have e8' := (k10 _ _ (k9 _ _ e8))
  have e9' := (k10 _ _ e9)
  have e10' := e10
  refine xv_g e1' (by decide) rfl ?_
  try (refine ⟨by simp [sizeLine], ?_⟩)
  refine xv_g e2' (by decide) rfl ?_
  try (refine ⟨by simp [sizeLine], ?_⟩)
  refine xv_g e3' (by decide) rfl ?_
  try (refine ⟨by simp [sizeLine], ?_⟩)
  refine xv_g e4' (by decide) rfl ?_
  try (refine ⟨by simp [sizeLine], ?_⟩)
  refine xv_g e5' (by decide) rfl ?_
  try (refine ⟨by simp [sizeLine], ?_⟩)
  refine xv_g e6' (by decide) rfl ?_
  try (refine ⟨by simp [sizeLine], ?_⟩)
  refine xv_g e7' (by decide) rfl ?_
  try (refine ⟨by simp [sizeLine], ?_⟩)
  refine xv_g e8' (by decide) rfl ?_
  try (refine ⟨by simp [sizeLine], ?_⟩)
  refine xv_g e9' (by decide) rfl ?_
  try (refine ⟨by simp [sizeLine], ?_⟩)
  refine xv_g e10' (by decide) rfl ?_
  try (refine ⟨by simp [sizeLine], ?_⟩)
  repeat (with_reducible refine And.intro (by first | rfl | omega | (simp only [sizeLine, List.length_cons, List.length_nil, List.length_append] <;> omega)) ?_)
  refine new_ fun m G' hm em km => ?_
  exact h m _ G' (keep_back (((((((((k1.trans k2).trans k3).trans k4).trans k5).trans k6).trans k7).trans k8).trans k9).trans k10) hm) em ⟨p1, _, rfl, km _ _ e1', ⟨p2, _, rfl, km _ _ e2', ⟨p3, _, rfl, km _ _ e3', ⟨p4, _, rfl, km _ _ e4', ⟨p5, _, rfl, km _ _ e5', ⟨p6, _, rfl, km _ _ e6', ⟨p7, _, rfl, km _ _ e7', ⟨p8, _, rfl, km _ _ e8', ⟨p9, _, rfl, km _ _ e9', ⟨p10, _, rfl, km _ _ e10', rfl⟩⟩⟩⟩⟩⟩⟩⟩⟩⟩ ((((((((((k1.trans k2).trans k3).trans k4).trans k5).trans k6).trans k7).trans k8).trans k9).trans k10).trans km)
theorem with_others_spec {a : D} {G : DG} {Q : DK} (h : ∀ m xs G', G m = none → G' m = some (.lst xs) → Made G' a RB xs → Keep G G' → Q (.ref m) G') : sp_with_others [a] G Q := by
  refine ⟨rfl, ?_⟩
  show t_with_others _ [some a, none, none, none, none, none, none, none, none, none, none, none] G
  unfold t_with_others
  try simp only [seq_, next_, ret_, drop_, ifs_, br_t, br_f, asg_, gn_, gt_, gtc_, gtn_, par_, var_0, var_s, c_, nil_, cons_, tup_, lst_, op_, bool_, kb_, tru_, tr_bl, andT_, orT_, kn_tt, kn_tf, kn_ff, kn_ft, notT_, and_, kand_t, kand_f, if_, bre_t, bre_f, call_, cb_, neg_, sl_, nopart_, part_, FD.sl_tup, eq_int0, eq_int1, eq_bl0, eq_bl1, beq_self_eq_true, Bool.not_true, Bool.not_false, add_int, add_tup, add_ref, int_, int0_, mul_int, mul_str, ord_int, FD.ix_tup, ix_fl, ix_ref, at_0, at_1, at_2, at_3, len_tup, len_fl, len_ref, max2_, min2_, tuple_tup, tuple_ref, is_, gs_, setL_, ml_, for_, rng1_, any_, lc_, FD.sl_ref, list_tup, dict0_, dn_, sortK_, val_tup, yes_, isLst_, List.set_cons_zero, List.set_cons_succ, or_, kor_t, kor_f, not_, chain_, kch_t, kch_f, ord_str, len_str, ordc_, strc_int, val_str, add_str, sl_strD, match_, cc_, kc_n, kc_s, cn_, wild_, exn_, xv_, par3_, kpar3_]
  refine exn_g fun p1 G1 h1 e1 k1 => ?_
  try dsimp only
  refine exn_g fun p2 G2 h2 e2 k2 => ?_
  try dsimp only
  refine exn_g fun p3 G3 h3 e3 k3 => ?_
  try dsimp only
  refine exn_g fun p4 G4 h4 e4 k4 => ?_
  try dsimp only
  try (refine ⟨by simp [sizeLine], ?_⟩)
  try (refine ⟨rfl, ?_⟩)
  try simp only [seq_, next_, ret_, drop_, ifs_, br_t, br_f, asg_, gn_, gt_, gtc_, gtn_, par_, var_0, var_s, c_, nil_, cons_, tup_, lst_, op_, bool_, kb_, tru_, tr_bl, andT_, orT_, kn_tt, kn_tf, kn_ff, kn_ft, notT_, and_, kand_t, kand_f, if_, bre_t, bre_f, call_, cb_, neg_, sl_, nopart_, part_, FD.sl_tup, eq_int0, eq_int1, eq_bl0, eq_bl1, beq_self_eq_true, Bool.not_true, Bool.not_false, add_int, add_tup, add_ref, int_, int0_, mul_int, mul_str, ord_int, FD.ix_tup, ix_fl, ix_ref, at_0, at_1, at_2, at_3, len_tup, len_fl, len_ref, max2_, min2_, tuple_tup, tuple_ref, is_, gs_, setL_, ml_, for_, rng1_, any_, lc_, FD.sl_ref, list_tup, dict0_, dn_, sortK_, val_tup, yes_, isLst_, List.set_cons_zero, List.set_cons_succ, or_, kor_t, kor_f, not_, chain_, kch_t, kch_f, ord_str, len_str, ordc_, strc_int, val_str, add_str, sl_strD, match_, cc_, kc_n, kc_s, cn_, wild_, exn_, xv_, par3_, kpar3_]
  refine exn_g fun p5 G5 h5 e5 k5 => ?_
  try dsimp only
  refine exn_g fun p6 G6 h6 e6 k6 => ?_
  try dsimp only
  refine exn_g fun p7 G7 h7 e7 k7 => ?_
  try dsimp only
  refine exn_g fun p8 G8 h8 e8 k8 => ?_
  try dsimp only
  try (refine ⟨by simp [sizeLine], ?_⟩)
  try (refine ⟨rfl, ?_⟩)
  try simp only [seq_, next_, ret_, drop_, ifs_, br_t, br_f, asg_, gn_, gt_, gtc_, gtn_, par_, var_0, var_s, c_, nil_, cons_, tup_, lst_, op_, bool_, kb_, tru_, tr_bl, andT_, orT_, kn_tt, kn_tf, kn_ff, kn_ft, notT_, and_, kand_t, kand_f, if_, bre_t, bre_f, call_, cb_, neg_, sl_, nopart_, part_, FD.sl_tup, eq_int0, eq_int1, eq_bl0, eq_bl1, beq_self_eq_true, Bool.not_true, Bool.not_false, add_int, add_tup, add_ref, int_, int0_, mul_int, mul_str, ord_int, FD.ix_tup, ix_fl, ix_ref, at_0, at_1, at_2, at_3, len_tup, len_fl, len_ref, max2_, min2_, tuple_tup, tuple_ref, is_, gs_, setL_, ml_, for_, rng1_, any_, lc_, FD.sl_ref, list_tup, dict0_, dn_, sortK_, val_tup, yes_, isLst_, List.set_cons_zero, List.set_cons_succ, or_, kor_t, kor_f, not_, chain_, kch_t, kch_f, ord_str, len_str, ordc_, strc_int, val_str, add_str, sl_strD, match_, cc_, kc_n, kc_s, cn_, wild_, exn_, xv_, par3_, kpar3_]
  refine exn_g fun p9 G9 h9 e9 k9 => ?_
  try dsimp only
  refine exn_g fun p10 G10 h10 e10 k10 => ?_
  try dsimp only
  refine exn_g fun p11 G11 h11 e11 k11 => ?_
  try dsimp only
  try simp only [seq_, next_, ret_, drop_, ifs_, br_t, br_f, asg_, gn_, gt_, gtc_, gtn_, par_, var_0, var_s, c_, nil_, cons_, tup_, lst_, op_, bool_, kb_, tru_, tr_bl, andT_, orT_, kn_tt, kn_tf, kn_ff, kn_ft, notT_, and_, kand_t, kand_f, if_, bre_t, bre_f, call_, cb_, neg_, sl_, nopart_, part_, FD.sl_tup, eq_int0, eq_int1, eq_bl0, eq_bl1, beq_self_eq_true, Bool.not_true, Bool.not_false, add_int, add_tup, add_ref, int_, int0_, mul_int, mul_str, ord_int, FD.ix_tup, ix_fl, ix_ref, at_0, at_1, at_2, at_3, len_tup, len_fl, len_ref, max2_, min2_, tuple_tup, tuple_ref, is_, gs_, setL_, ml_, for_, rng1_, any_, lc_, FD.sl_ref, list_tup, dict0_, dn_, sortK_, val_tup, yes_, isLst_, List.set_cons_zero, List.set_cons_succ, or_, kor_t, kor_f, not_, chain_, kch_t, kch_f, ord_str, len_str, ordc_, strc_int, val_str, add_str, sl_strD, match_, cc_, kc_n, kc_s, cn_, wild_, exn_, xv_, par3_, kpar3_]
  have e1' := (k11 _ _ (k10 _ _ (k9 _ _ (k8 _ _ (k7 _ _ (k6 _ _ (k5 _ _ (k4 _ _ (k3 _ _ (k2 _ _ e1))))))))))
  have e2' := (k11 _ _ (k10 _ _ (k9 _ _ (k8 _ _ (k7 _ _ (k6 _ _ (k5 _ _ (k4 _ _ (k3 _ _ e2)))))))))
  have e3' := (k11 _ _ (k10 _ _ (k9 _ _ (k8 _ _ (k7 _ _ (k6 _ _ (k5 _ _ (k4 _ _ e3))))))))
  have e4' := (k11 _ _ (k10 _ _ (k9 _ _ (k8 _ _ (k7 _ _ (k6 _ _ (k5 _ _ e4)))))))
  have e5' := (k11 _ _ (k10 _ _ (k9 _ _ (k8 _ _ (k7 _ _ (k6 _ _ e5))))))
  have e6' := (k11 _ _ (k10 _ _ (k9 _ _ (k8 _ _ (k7 _ _ e6)))))
  have e7' := (k11 _ _ (k10 _ _ (k9 _ _ (k8 _ _ e7))))
  have e8' := (k11 _ _ (k10 _ _ (k9 _ _ e8)))
  have e9' := (k11 _ _ (k10 _ _ e9))
  have e10' := (k11 _ _ e10)
  have e11' := e11
  refine xv_g e1' (by decide) rfl ?_
  try (refine ⟨by simp [sizeLine], ?_⟩)
  refine xv_g e2' (by decide) rfl ?_
  try (refine ⟨by simp [sizeLine], ?_⟩)
  refine xv_g e3' (by decide) rfl ?_
  try (refine ⟨by simp [sizeLine], ?_⟩)
  refine xv_g e4' (by decide) rfl ?_
  try (refine ⟨by simp [sizeLine], ?_⟩)
  refine xv_g e5' (by decide) rfl ?_
  try (refine ⟨by simp [sizeLine], ?_⟩)
  refine xv_g e6' (by decide) rfl ?_
  try (refine ⟨by simp [sizeLine], ?_⟩)
  refine xv_g e7' (by decide) rfl ?_
  try (refine ⟨by simp [sizeLine], ?_⟩)
  refine xv_g e8' (by decide) rfl ?_
  try (refine ⟨by simp [sizeLine], ?_⟩)
  refine xv_g e9' (by decide) rfl ?_
  try (refine ⟨by simp [sizeLine], ?_⟩)
  refine xv_g e10' (by decide) rfl ?_
  try (refine ⟨by simp [sizeLine], ?_⟩)
  refine xv_g e11' (by decide) rfl ?_
  try (refine ⟨by simp [sizeLine], ?_⟩)
  repeat (with_reducible refine And.intro (by first | rfl | omega | (simp only [sizeLine, List.length_cons, List.length_nil, List.length_append] <;> omega)) ?_)
  refine new_ fun m G' hm em km => ?_
  exact h m _ G' (keep_back ((((((((((k1.trans k2).trans k3).trans k4).trans k5).trans k6).trans k7).trans k8).trans k9).trans k10).trans k11) hm) em ⟨p1, _, rfl, km _ _ e1', ⟨p2, _, rfl, km _ _ e2', ⟨p3, _, rfl, km _ _ e3', ⟨p4, _, rfl, km _ _ e4', ⟨p5, _, rfl, km _ _ e5', ⟨p6, _, rfl, km _ _ e6', ⟨p7, _, rfl, km _ _ e7', ⟨p8, _, rfl, km _ _ e8', ⟨p9, _, rfl, km _ _ e9', ⟨p10, _, rfl, km _ _ e10', ⟨p11, _, rfl, km _ _ e11', rfl⟩⟩⟩⟩⟩⟩⟩⟩⟩⟩⟩ (((((((((((k1.trans k2).trans k3).trans k4).trans k5).trans k6).trans k7).trans k8).trans k9).trans k10).trans k11).trans km)
end K01

/-! which classes an exception is an instance of -/
namespace K01
open PySem L2 FD
def TT : List (Str → Option Bool) := [ms_Clash, ms_Gap, ms_Rewritten, ms_NoPlace, ms_NotNeeded, ms_NotPart, ms_BadTree, ms_NotSettled, ms_NotOpen, ms_NotCause, ms_NoTarget, ms_NotSource, ms_Mismatch, ms_Taken, ms_Stuck, ms_BadLine, ms_BadKind, ms_NotFresh, ms_Conflict, ms_Failed, ms_BadEntry, ms_BadName, ms_Halted, ms_NoRow, ms_NotAsked, ms_NoVersion]
def bit (c : Str) (m : Str → Option Bool) : Bool := (m c).getD false
def bitsOf (c : Str) : List Bool := TT.map (bit c)
def pB (c : Str) : D → Bool := fun d => match d with
  | .int i => ((bitsOf c)[i.toNat]?).getD false
  | _ => false
def nmOf (c : Str) : List D := ((rngD 0 26).filter (pB c)).map fun d => d
def Kn (c : Str) : Bool := TT.all fun m => (m c).isSome
theorem kn_all {c : Str} (h : Kn c = true) : ∀ m ∈ TT, m c = some (bit c m) := fun m hm => by
  have := List.all_eq_true.mp h m hm
  unfold bit
  cases e : m c with
  | none => rw [e] at this; cases this
  | some b => rfl
theorem mem26 {d : D} (h : d ∈ rngD 0 26) : ∃ i : Int, 0 ≤ i ∧ i < 26 ∧ d = .int i := by
  simp only [rngD, List.mem_map, List.mem_range] at h
  obtain ⟨j, hj, rfl⟩ := h
  exact ⟨_, by omega, by omega, rfl⟩
theorem at_bit {c : Str} {i : Int} {G : DG} {Q : DK} (h0 : 0 ≤ i) (h1 : i < 26) (h : Q (.bl (((bitsOf c)[i.toNat]?).getD false)) G) : atQ ((bitsOf c).map D.bl) i G Q := by
  unfold atQ atI ixN
  rw [if_pos h0, if_pos (by rw [List.length_map]; exact h1)]
  have e : i.toNat < (bitsOf c).length := by show i.toNat < 26; omega
  show (match ((bitsOf c).map D.bl)[i.toNat]? with | some d => Q d G | none => False)
  rw [List.getElem?_map, List.getElem?_eq_getElem e]
  rw [List.getElem?_eq_getElem e] at h
  exact h
theorem names_tail {c : Str} {p l : Addr} {x : Option D} {G : DG} {Q : DK} (hl : G l = some (.lst ((bitsOf c).map D.bl))) (h : ∀ m G', G m = none → G' m = some (.lst (nmOf c)) → Keep G G' → Q (.ref m) G') :
    dLc (diRng1 (dCons (dCB lenD (dCons (dVar 1) dNil)) dNil)) (gnD 2) (dTru (dOp ixD (dVar 1) (dVar 2))) (dVar 2) [2] [some (.ref p), some (.ref l), x] G Q := by
  try simp only [seq_, next_, ret_, drop_, ifs_, br_t, br_f, asg_, gn_, gt_, gtc_, gtn_, par_, var_0, var_s, c_, nil_, cons_, tup_, lst_, op_, bool_, kb_, tru_, tr_bl, andT_, orT_, kn_tt, kn_tf, kn_ff, kn_ft, notT_, and_, kand_t, kand_f, if_, bre_t, bre_f, call_, cb_, neg_, sl_, nopart_, part_, FD.sl_tup, eq_int0, eq_int1, eq_bl0, eq_bl1, beq_self_eq_true, Bool.not_true, Bool.not_false, add_int, add_tup, add_ref, int_, int0_, mul_int, mul_str, ord_int, FD.ix_tup, ix_fl, ix_ref, at_0, at_1, at_2, at_3, len_tup, len_fl, len_ref, max2_, min2_, tuple_tup, tuple_ref, is_, gs_, setL_, ml_, for_, rng1_, any_, lc_, FD.sl_ref, list_tup, dict0_, dn_, sortK_, val_tup, yes_, isLst_, List.set_cons_zero, List.set_cons_succ, or_, kor_t, kor_f, not_, chain_, kch_t, kch_f, ord_str, len_str, ordc_, strc_int, val_str, add_str, sl_strD, match_, cc_, kc_n, kc_s, cn_, wild_]
  refine ⟨_, hl, ⟨by rw [List.length_map]; show -(2 ^ 62 : Int) ≤ 26; decide, by rw [List.length_map]; show (26 : Int) < 2 ^ 62; decide⟩, ?_⟩
  rw [List.length_map, show (((bitsOf c).length : Nat) : Int).toNat = 26 from rfl]
  refine lcGo_flt (fun G' => Keep G G') (pB c) (fun d => d) (fun _ _ => True.intro) _ _ _ (fun d hd G1 Ky Kn k1 ky kn => ?_) .refl (by simp [rngD, sizeLine]) fun G1 k1 => ?_
  · obtain ⟨i, i0, i1, rfl⟩ := mem26 hd
    try simp only [seq_, next_, ret_, drop_, ifs_, br_t, br_f, asg_, gn_, gt_, gtc_, gtn_, par_, var_0, var_s, c_, nil_, cons_, tup_, lst_, op_, bool_, kb_, tru_, tr_bl, andT_, orT_, kn_tt, kn_tf, kn_ff, kn_ft, notT_, and_, kand_t, kand_f, if_, bre_t, bre_f, call_, cb_, neg_, sl_, nopart_, part_, FD.sl_tup, eq_int0, eq_int1, eq_bl0, eq_bl1, beq_self_eq_true, Bool.not_true, Bool.not_false, add_int, add_tup, add_ref, int_, int0_, mul_int, mul_str, ord_int, FD.ix_tup, ix_fl, ix_ref, at_0, at_1, at_2, at_3, len_tup, len_fl, len_ref, max2_, min2_, tuple_tup, tuple_ref, is_, gs_, setL_, ml_, for_, rng1_, any_, lc_, FD.sl_ref, list_tup, dict0_, dn_, sortK_, val_tup, yes_, isLst_, List.set_cons_zero, List.set_cons_succ, or_, kor_t, kor_f, not_, chain_, kch_t, kch_f, ord_str, len_str, ordc_, strc_int, val_str, add_str, sl_strD, match_, cc_, kc_n, kc_s, cn_, wild_]
    refine ⟨_, k1 _ _ hl, ?_⟩
    refine at_bit i0 i1 ?_
    rw [tr_bl]
    cases hb : pB c (.int i) with
    | true =>
      have e : ((bitsOf c)[i.toNat]?).getD false = true := hb
      rw [e, if_pos rfl]
      exact ky hb _ k1
    | false =>
      have e : ((bitsOf c)[i.toNat]?).getD false = false := hb
      rw [e, if_neg (by decide)]
      exact kn hb _ k1
  · rw [List.nil_append]
    refine new_ fun m G' hm em km => h m G' (keep_back k1 hm) em (k1.trans km)
theorem names_spec {c : Str} {fs : List (Str × D)} {p : Addr} {G : DG} {Q : DK} (hp : G p = some (.exn c fs)) (hk : Kn c = true) (h : ∀ m G', G m = none → G' m = some (.lst (nmOf c)) → Keep G G' → Q (.ref m) G') : sp_names_of [.ref p] G Q := by
  have ha := kn_all hk
  simp only [TT, List.forall_mem_cons] at ha
  obtain ⟨t1, t2, t3, t4, t5, t6, t7, t8, t9, t10, t11, t12, t13, t14, t15, t16, t17, t18, t19, t20, t21, t22, t23, t24, t25, t26, _⟩ := ha
  refine ⟨rfl, ?_⟩
  show t_names_of _ [some (.ref p), none, none] G
  unfold t_names_of
  rw [seq_]
  try simp only [next_, ret_, drop_, ifs_, br_t, br_f, asg_, gn_, gt_, gtc_, gtn_, par_, var_0, var_s, c_, nil_, cons_, tup_, lst_, op_, bool_, kb_, tru_, tr_bl, andT_, orT_, kn_tt, kn_tf, kn_ff, kn_ft, notT_, and_, kand_t, kand_f, if_, bre_t, bre_f, call_, cb_, neg_, sl_, nopart_, part_, FD.sl_tup, eq_int0, eq_int1, eq_bl0, eq_bl1, beq_self_eq_true, Bool.not_true, Bool.not_false, add_int, add_tup, add_ref, int_, int0_, mul_int, mul_str, ord_int, FD.ix_tup, ix_fl, ix_ref, at_0, at_1, at_2, at_3, len_tup, len_fl, len_ref, max2_, min2_, tuple_tup, tuple_ref, is_, gs_, setL_, ml_, for_, rng1_, any_, lc_, FD.sl_ref, list_tup, dict0_, dn_, sortK_, val_tup, yes_, isLst_, List.set_cons_zero, List.set_cons_succ, or_, kor_t, kor_f, not_, chain_, kch_t, kch_f, ord_str, len_str, ordc_, strc_int, val_str, add_str, sl_strD, match_, cc_, kc_n, kc_s, cn_, wild_, isV_]
  refine isV_g hp t1 ?_
  refine isV_g hp t2 ?_
  refine isV_g hp t3 ?_
  refine isV_g hp t4 ?_
  try simp only [nil_, List.length_cons, List.length_nil]
  refine ⟨by simp [sizeLine], new_ fun m0 M0 n0 u0 v0 => ?_⟩
  have q1 := v0 _ _ hp
  have l1 := u0
  have w1 := v0
  try dsimp only
  try simp only [gn_, List.set_cons_zero, List.set_cons_succ]
  rw [seq_]
  try simp only [next_, ret_, drop_, ifs_, br_t, br_f, asg_, gn_, gt_, gtc_, gtn_, par_, var_0, var_s, c_, nil_, cons_, tup_, lst_, op_, bool_, kb_, tru_, tr_bl, andT_, orT_, kn_tt, kn_tf, kn_ff, kn_ft, notT_, and_, kand_t, kand_f, if_, bre_t, bre_f, call_, cb_, neg_, sl_, nopart_, part_, FD.sl_tup, eq_int0, eq_int1, eq_bl0, eq_bl1, beq_self_eq_true, Bool.not_true, Bool.not_false, add_int, add_tup, add_ref, int_, int0_, mul_int, mul_str, ord_int, FD.ix_tup, ix_fl, ix_ref, at_0, at_1, at_2, at_3, len_tup, len_fl, len_ref, max2_, min2_, tuple_tup, tuple_ref, is_, gs_, setL_, ml_, for_, rng1_, any_, lc_, FD.sl_ref, list_tup, dict0_, dn_, sortK_, val_tup, yes_, isLst_, List.set_cons_zero, List.set_cons_succ, or_, kor_t, kor_f, not_, chain_, kch_t, kch_f, ord_str, len_str, ordc_, strc_int, val_str, add_str, sl_strD, match_, cc_, kc_n, kc_s, cn_, wild_, isV_]
  refine isV_g q1 t5 ?_
  refine isV_g q1 t6 ?_
  refine isV_g q1 t7 ?_
  try simp only [nil_, List.length_cons, List.length_nil]
  refine ⟨by simp [sizeLine], new_ fun m1 M1 n1 u1 v1 => ?_⟩
  try simp only [add_ref]
  refine ⟨_, v1 _ _ l1, _, u1, by simp [sizeLine], new_ fun r1 R1 z1 s1 y1 => ?_⟩
  have q2 := y1 _ _ (v1 _ _ q1)
  have l2 := s1
  have w2 := w1.trans (v1.trans y1)
  try dsimp only
  try simp only [gn_, List.set_cons_zero, List.set_cons_succ]
  rw [seq_]
  try simp only [next_, ret_, drop_, ifs_, br_t, br_f, asg_, gn_, gt_, gtc_, gtn_, par_, var_0, var_s, c_, nil_, cons_, tup_, lst_, op_, bool_, kb_, tru_, tr_bl, andT_, orT_, kn_tt, kn_tf, kn_ff, kn_ft, notT_, and_, kand_t, kand_f, if_, bre_t, bre_f, call_, cb_, neg_, sl_, nopart_, part_, FD.sl_tup, eq_int0, eq_int1, eq_bl0, eq_bl1, beq_self_eq_true, Bool.not_true, Bool.not_false, add_int, add_tup, add_ref, int_, int0_, mul_int, mul_str, ord_int, FD.ix_tup, ix_fl, ix_ref, at_0, at_1, at_2, at_3, len_tup, len_fl, len_ref, max2_, min2_, tuple_tup, tuple_ref, is_, gs_, setL_, ml_, for_, rng1_, any_, lc_, FD.sl_ref, list_tup, dict0_, dn_, sortK_, val_tup, yes_, isLst_, List.set_cons_zero, List.set_cons_succ, or_, kor_t, kor_f, not_, chain_, kch_t, kch_f, ord_str, len_str, ordc_, strc_int, val_str, add_str, sl_strD, match_, cc_, kc_n, kc_s, cn_, wild_, isV_]
  refine isV_g q2 t8 ?_
  refine isV_g q2 t9 ?_
  refine isV_g q2 t10 ?_
  try simp only [nil_, List.length_cons, List.length_nil]
  refine ⟨by simp [sizeLine], new_ fun m2 M2 n2 u2 v2 => ?_⟩
  try simp only [add_ref]
  refine ⟨_, v2 _ _ l2, _, u2, by simp [sizeLine], new_ fun r2 R2 z2 s2 y2 => ?_⟩
  have q3 := y2 _ _ (v2 _ _ q2)
  have l3 := s2
  have w3 := w2.trans (v2.trans y2)
  try dsimp only
  try simp only [gn_, List.set_cons_zero, List.set_cons_succ]
  rw [seq_]
  try simp only [next_, ret_, drop_, ifs_, br_t, br_f, asg_, gn_, gt_, gtc_, gtn_, par_, var_0, var_s, c_, nil_, cons_, tup_, lst_, op_, bool_, kb_, tru_, tr_bl, andT_, orT_, kn_tt, kn_tf, kn_ff, kn_ft, notT_, and_, kand_t, kand_f, if_, bre_t, bre_f, call_, cb_, neg_, sl_, nopart_, part_, FD.sl_tup, eq_int0, eq_int1, eq_bl0, eq_bl1, beq_self_eq_true, Bool.not_true, Bool.not_false, add_int, add_tup, add_ref, int_, int0_, mul_int, mul_str, ord_int, FD.ix_tup, ix_fl, ix_ref, at_0, at_1, at_2, at_3, len_tup, len_fl, len_ref, max2_, min2_, tuple_tup, tuple_ref, is_, gs_, setL_, ml_, for_, rng1_, any_, lc_, FD.sl_ref, list_tup, dict0_, dn_, sortK_, val_tup, yes_, isLst_, List.set_cons_zero, List.set_cons_succ, or_, kor_t, kor_f, not_, chain_, kch_t, kch_f, ord_str, len_str, ordc_, strc_int, val_str, add_str, sl_strD, match_, cc_, kc_n, kc_s, cn_, wild_, isV_]
  refine isV_g q3 t11 ?_
  refine isV_g q3 t12 ?_
  refine isV_g q3 t13 ?_
  refine isV_g q3 t14 ?_
  try simp only [nil_, List.length_cons, List.length_nil]
  refine ⟨by simp [sizeLine], new_ fun m3 M3 n3 u3 v3 => ?_⟩
  try simp only [add_ref]
  refine ⟨_, v3 _ _ l3, _, u3, by simp [sizeLine], new_ fun r3 R3 z3 s3 y3 => ?_⟩
  have q4 := y3 _ _ (v3 _ _ q3)
  have l4 := s3
  have w4 := w3.trans (v3.trans y3)
  try dsimp only
  try simp only [gn_, List.set_cons_zero, List.set_cons_succ]
  rw [seq_]
  try simp only [next_, ret_, drop_, ifs_, br_t, br_f, asg_, gn_, gt_, gtc_, gtn_, par_, var_0, var_s, c_, nil_, cons_, tup_, lst_, op_, bool_, kb_, tru_, tr_bl, andT_, orT_, kn_tt, kn_tf, kn_ff, kn_ft, notT_, and_, kand_t, kand_f, if_, bre_t, bre_f, call_, cb_, neg_, sl_, nopart_, part_, FD.sl_tup, eq_int0, eq_int1, eq_bl0, eq_bl1, beq_self_eq_true, Bool.not_true, Bool.not_false, add_int, add_tup, add_ref, int_, int0_, mul_int, mul_str, ord_int, FD.ix_tup, ix_fl, ix_ref, at_0, at_1, at_2, at_3, len_tup, len_fl, len_ref, max2_, min2_, tuple_tup, tuple_ref, is_, gs_, setL_, ml_, for_, rng1_, any_, lc_, FD.sl_ref, list_tup, dict0_, dn_, sortK_, val_tup, yes_, isLst_, List.set_cons_zero, List.set_cons_succ, or_, kor_t, kor_f, not_, chain_, kch_t, kch_f, ord_str, len_str, ordc_, strc_int, val_str, add_str, sl_strD, match_, cc_, kc_n, kc_s, cn_, wild_, isV_]
  refine isV_g q4 t15 ?_
  refine isV_g q4 t16 ?_
  refine isV_g q4 t17 ?_
  refine isV_g q4 t18 ?_
  try simp only [nil_, List.length_cons, List.length_nil]
  refine ⟨by simp [sizeLine], new_ fun m4 M4 n4 u4 v4 => ?_⟩
  try simp only [add_ref]
  refine ⟨_, v4 _ _ l4, _, u4, by simp [sizeLine], new_ fun r4 R4 z4 s4 y4 => ?_⟩
  have q5 := y4 _ _ (v4 _ _ q4)
  have l5 := s4
  have w5 := w4.trans (v4.trans y4)
  try dsimp only
  try simp only [gn_, List.set_cons_zero, List.set_cons_succ]
  rw [seq_]
  try simp only [next_, ret_, drop_, ifs_, br_t, br_f, asg_, gn_, gt_, gtc_, gtn_, par_, var_0, var_s, c_, nil_, cons_, tup_, lst_, op_, bool_, kb_, tru_, tr_bl, andT_, orT_, kn_tt, kn_tf, kn_ff, kn_ft, notT_, and_, kand_t, kand_f, if_, bre_t, bre_f, call_, cb_, neg_, sl_, nopart_, part_, FD.sl_tup, eq_int0, eq_int1, eq_bl0, eq_bl1, beq_self_eq_true, Bool.not_true, Bool.not_false, add_int, add_tup, add_ref, int_, int0_, mul_int, mul_str, ord_int, FD.ix_tup, ix_fl, ix_ref, at_0, at_1, at_2, at_3, len_tup, len_fl, len_ref, max2_, min2_, tuple_tup, tuple_ref, is_, gs_, setL_, ml_, for_, rng1_, any_, lc_, FD.sl_ref, list_tup, dict0_, dn_, sortK_, val_tup, yes_, isLst_, List.set_cons_zero, List.set_cons_succ, or_, kor_t, kor_f, not_, chain_, kch_t, kch_f, ord_str, len_str, ordc_, strc_int, val_str, add_str, sl_strD, match_, cc_, kc_n, kc_s, cn_, wild_, isV_]
  refine isV_g q5 t19 ?_
  refine isV_g q5 t20 ?_
  refine isV_g q5 t21 ?_
  try simp only [nil_, List.length_cons, List.length_nil]
  refine ⟨by simp [sizeLine], new_ fun m5 M5 n5 u5 v5 => ?_⟩
  try simp only [add_ref]
  refine ⟨_, v5 _ _ l5, _, u5, by simp [sizeLine], new_ fun r5 R5 z5 s5 y5 => ?_⟩
  have q6 := y5 _ _ (v5 _ _ q5)
  have l6 := s5
  have w6 := w5.trans (v5.trans y5)
  try dsimp only
  try simp only [gn_, List.set_cons_zero, List.set_cons_succ]
  rw [seq_]
  try simp only [next_, ret_, drop_, ifs_, br_t, br_f, asg_, gn_, gt_, gtc_, gtn_, par_, var_0, var_s, c_, nil_, cons_, tup_, lst_, op_, bool_, kb_, tru_, tr_bl, andT_, orT_, kn_tt, kn_tf, kn_ff, kn_ft, notT_, and_, kand_t, kand_f, if_, bre_t, bre_f, call_, cb_, neg_, sl_, nopart_, part_, FD.sl_tup, eq_int0, eq_int1, eq_bl0, eq_bl1, beq_self_eq_true, Bool.not_true, Bool.not_false, add_int, add_tup, add_ref, int_, int0_, mul_int, mul_str, ord_int, FD.ix_tup, ix_fl, ix_ref, at_0, at_1, at_2, at_3, len_tup, len_fl, len_ref, max2_, min2_, tuple_tup, tuple_ref, is_, gs_, setL_, ml_, for_, rng1_, any_, lc_, FD.sl_ref, list_tup, dict0_, dn_, sortK_, val_tup, yes_, isLst_, List.set_cons_zero, List.set_cons_succ, or_, kor_t, kor_f, not_, chain_, kch_t, kch_f, ord_str, len_str, ordc_, strc_int, val_str, add_str, sl_strD, match_, cc_, kc_n, kc_s, cn_, wild_, isV_]
  refine isV_g q6 t22 ?_
  refine isV_g q6 t23 ?_
  refine isV_g q6 t24 ?_
  try simp only [nil_, List.length_cons, List.length_nil]
  refine ⟨by simp [sizeLine], new_ fun m6 M6 n6 u6 v6 => ?_⟩
  try simp only [add_ref]
  refine ⟨_, v6 _ _ l6, _, u6, by simp [sizeLine], new_ fun r6 R6 z6 s6 y6 => ?_⟩
  have q7 := y6 _ _ (v6 _ _ q6)
  have l7 := s6
  have w7 := w6.trans (v6.trans y6)
  try dsimp only
  try simp only [gn_, List.set_cons_zero, List.set_cons_succ]
  rw [seq_]
  try simp only [next_, ret_, drop_, ifs_, br_t, br_f, asg_, gn_, gt_, gtc_, gtn_, par_, var_0, var_s, c_, nil_, cons_, tup_, lst_, op_, bool_, kb_, tru_, tr_bl, andT_, orT_, kn_tt, kn_tf, kn_ff, kn_ft, notT_, and_, kand_t, kand_f, if_, bre_t, bre_f, call_, cb_, neg_, sl_, nopart_, part_, FD.sl_tup, eq_int0, eq_int1, eq_bl0, eq_bl1, beq_self_eq_true, Bool.not_true, Bool.not_false, add_int, add_tup, add_ref, int_, int0_, mul_int, mul_str, ord_int, FD.ix_tup, ix_fl, ix_ref, at_0, at_1, at_2, at_3, len_tup, len_fl, len_ref, max2_, min2_, tuple_tup, tuple_ref, is_, gs_, setL_, ml_, for_, rng1_, any_, lc_, FD.sl_ref, list_tup, dict0_, dn_, sortK_, val_tup, yes_, isLst_, List.set_cons_zero, List.set_cons_succ, or_, kor_t, kor_f, not_, chain_, kch_t, kch_f, ord_str, len_str, ordc_, strc_int, val_str, add_str, sl_strD, match_, cc_, kc_n, kc_s, cn_, wild_, isV_]
  refine isV_g q7 t25 ?_
  refine isV_g q7 t26 ?_
  try simp only [nil_, List.length_cons, List.length_nil]
  refine ⟨by simp [sizeLine], new_ fun m7 M7 n7 u7 v7 => ?_⟩
  try simp only [add_ref]
  refine ⟨_, v7 _ _ l7, _, u7, by simp [sizeLine], new_ fun r7 R7 z7 s7 y7 => ?_⟩
  have q8 := y7 _ _ (v7 _ _ q7)
  have l8 := s7
  have w8 := w7.trans (v7.trans y7)
  try dsimp only
  try simp only [gn_, List.set_cons_zero, List.set_cons_succ]
  exact names_tail (c := c) (p := p) (l := r7) (x := none) (G := R7) (Q := Q) l8 fun m G' hm em km => h m G' (keep_back w8 hm) em (w8.trans km)
theorem caught_spec {c : Str} {fs : List (Str × D)} {p : Addr} {G : DG} {Q : DK} (hp : G p = some (.exn c fs)) (h1 : ms_BuildError c = some true) (h2 : ms_ValueError c = some true) (h3 : ms_LookupError c = some false) (h : Q (.bl true) G) : sp_caught [.ref p] G Q := by
  refine ⟨rfl, ?_⟩
  show t_caught _ [some (.ref p)] G
  unfold t_caught
  try simp only [seq_, next_, ret_, drop_, ifs_, br_t, br_f, asg_, gn_, gt_, gtc_, gtn_, par_, var_0, var_s, c_, nil_, cons_, tup_, lst_, op_, bool_, kb_, tru_, tr_bl, andT_, orT_, kn_tt, kn_tf, kn_ff, kn_ft, notT_, and_, kand_t, kand_f, if_, bre_t, bre_f, call_, cb_, neg_, sl_, nopart_, part_, FD.sl_tup, eq_int0, eq_int1, eq_bl0, eq_bl1, beq_self_eq_true, Bool.not_true, Bool.not_false, add_int, add_tup, add_ref, int_, int0_, mul_int, mul_str, ord_int, FD.ix_tup, ix_fl, ix_ref, at_0, at_1, at_2, at_3, len_tup, len_fl, len_ref, max2_, min2_, tuple_tup, tuple_ref, is_, gs_, setL_, ml_, for_, rng1_, any_, lc_, FD.sl_ref, list_tup, dict0_, dn_, sortK_, val_tup, yes_, isLst_, List.set_cons_zero, List.set_cons_succ, or_, kor_t, kor_f, not_, chain_, kch_t, kch_f, ord_str, len_str, ordc_, strc_int, val_str, add_str, sl_strD, match_, cc_, kc_n, kc_s, cn_, wild_, isV_]
  refine isV_g hp h1 ?_
  try simp only [seq_, next_, ret_, drop_, ifs_, br_t, br_f, asg_, gn_, gt_, gtc_, gtn_, par_, var_0, var_s, c_, nil_, cons_, tup_, lst_, op_, bool_, kb_, tru_, tr_bl, andT_, orT_, kn_tt, kn_tf, kn_ff, kn_ft, notT_, and_, kand_t, kand_f, if_, bre_t, bre_f, call_, cb_, neg_, sl_, nopart_, part_, FD.sl_tup, eq_int0, eq_int1, eq_bl0, eq_bl1, beq_self_eq_true, Bool.not_true, Bool.not_false, add_int, add_tup, add_ref, int_, int0_, mul_int, mul_str, ord_int, FD.ix_tup, ix_fl, ix_ref, at_0, at_1, at_2, at_3, len_tup, len_fl, len_ref, max2_, min2_, tuple_tup, tuple_ref, is_, gs_, setL_, ml_, for_, rng1_, any_, lc_, FD.sl_ref, list_tup, dict0_, dn_, sortK_, val_tup, yes_, isLst_, List.set_cons_zero, List.set_cons_succ, or_, kor_t, kor_f, not_, chain_, kch_t, kch_f, ord_str, len_str, ordc_, strc_int, val_str, add_str, sl_strD, match_, cc_, kc_n, kc_s, cn_, wild_, isV_]
  refine isV_g hp h2 ?_
  try simp only [seq_, next_, ret_, drop_, ifs_, br_t, br_f, asg_, gn_, gt_, gtc_, gtn_, par_, var_0, var_s, c_, nil_, cons_, tup_, lst_, op_, bool_, kb_, tru_, tr_bl, andT_, orT_, kn_tt, kn_tf, kn_ff, kn_ft, notT_, and_, kand_t, kand_f, if_, bre_t, bre_f, call_, cb_, neg_, sl_, nopart_, part_, FD.sl_tup, eq_int0, eq_int1, eq_bl0, eq_bl1, beq_self_eq_true, Bool.not_true, Bool.not_false, add_int, add_tup, add_ref, int_, int0_, mul_int, mul_str, ord_int, FD.ix_tup, ix_fl, ix_ref, at_0, at_1, at_2, at_3, len_tup, len_fl, len_ref, max2_, min2_, tuple_tup, tuple_ref, is_, gs_, setL_, ml_, for_, rng1_, any_, lc_, FD.sl_ref, list_tup, dict0_, dn_, sortK_, val_tup, yes_, isLst_, List.set_cons_zero, List.set_cons_succ, or_, kor_t, kor_f, not_, chain_, kch_t, kch_f, ord_str, len_str, ordc_, strc_int, val_str, add_str, sl_strD, match_, cc_, kc_n, kc_s, cn_, wild_, isV_]
  refine isV_g hp h3 ?_
  try simp only [seq_, next_, ret_, drop_, ifs_, br_t, br_f, asg_, gn_, gt_, gtc_, gtn_, par_, var_0, var_s, c_, nil_, cons_, tup_, lst_, op_, bool_, kb_, tru_, tr_bl, andT_, orT_, kn_tt, kn_tf, kn_ff, kn_ft, notT_, and_, kand_t, kand_f, if_, bre_t, bre_f, call_, cb_, neg_, sl_, nopart_, part_, FD.sl_tup, eq_int0, eq_int1, eq_bl0, eq_bl1, beq_self_eq_true, Bool.not_true, Bool.not_false, add_int, add_tup, add_ref, int_, int0_, mul_int, mul_str, ord_int, FD.ix_tup, ix_fl, ix_ref, at_0, at_1, at_2, at_3, len_tup, len_fl, len_ref, max2_, min2_, tuple_tup, tuple_ref, is_, gs_, setL_, ml_, for_, rng1_, any_, lc_, FD.sl_ref, list_tup, dict0_, dn_, sortK_, val_tup, yes_, isLst_, List.set_cons_zero, List.set_cons_succ, or_, kor_t, kor_f, not_, chain_, kch_t, kch_f, ord_str, len_str, ordc_, strc_int, val_str, add_str, sl_strD, match_, cc_, kc_n, kc_s, cn_, wild_]
  exact h
end K01

/-! lists that are alike; exceptions made by keywords; what is raised and caught -/
namespace K01
open PySem L2 FD
theorem same_list {p q : Addr} {xs : List D} {G : DG} {Q : DK} (hp : G p = some (.lst xs)) (hq : G q = some (.lst xs)) (hx : ∀ x ∈ xs, Pl 2 x) (hl : xs.length ≤ sizeLine) (h : ∀ G', Keep G G' → Q (.bl true) G') : sp_same 12 [.ref p, .ref q] G Q := by
  refine ⟨rfl, ?_⟩
  show t_same (11 + 1) _ [some (.ref p), some (.ref q), none, none] G
  rw [t_same]
  have a1 : tyD G (.ref p) = some .list := tyd_lst hp
  have a2 : tyD G (.ref q) = some .list := tyd_lst hq
  try simp only [seq_, next_, ret_, drop_, ifs_, br_t, br_f, asg_, gn_, gt_, gtc_, gtn_, par_, var_0, var_s, c_, nil_, cons_, tup_, lst_, op_, bool_, kb_, tru_, tr_bl, andT_, orT_, kn_tt, kn_tf, kn_ff, kn_ft, notT_, and_, kand_t, kand_f, if_, bre_t, bre_f, call_, cb_, neg_, sl_, nopart_, part_, FD.sl_tup, eq_int0, eq_int1, eq_bl0, eq_bl1, beq_self_eq_true, Bool.not_true, Bool.not_false, add_int, add_tup, add_ref, int_, int0_, mul_int, mul_str, ord_int, FD.ix_tup, ix_fl, ix_ref, at_0, at_1, at_2, at_3, len_tup, len_fl, len_ref, max2_, min2_, tuple_tup, tuple_ref, is_, gs_, setL_, ml_, for_, rng1_, any_, lc_, FD.sl_ref, list_tup, dict0_, dn_, sortK_, val_tup, yes_, isLst_, List.set_cons_zero, List.set_cons_succ, or_, kor_t, kor_f, not_, chain_, kch_t, kch_f, ord_str, len_str, ordc_, strc_int, val_str, add_str, sl_strD, match_, cc_, kc_n, kc_s, cn_, wild_, isi_ty a1 ty_list, isi_ty a2 ty_list, isi_ty2 a1 ty_list ty_tuple, isi_ty2 a2 ty_list ty_tuple, show Ty.isa .list .list = true from rfl, Bool.true_or]
  repeat (with_reducible refine And.intro (by first | rfl | omega | (simp only [sizeLine, List.length_cons, List.length_nil, List.length_append] <;> omega)) ?_)
  refine ⟨_, hp, _, hq, ?_⟩
  try simp only [seq_, next_, ret_, drop_, ifs_, br_t, br_f, asg_, gn_, gt_, gtc_, gtn_, par_, var_0, var_s, c_, nil_, cons_, tup_, lst_, op_, bool_, kb_, tru_, tr_bl, andT_, orT_, kn_tt, kn_tf, kn_ff, kn_ft, notT_, and_, kand_t, kand_f, if_, bre_t, bre_f, call_, cb_, neg_, sl_, nopart_, part_, FD.sl_tup, eq_int0, eq_int1, eq_bl0, eq_bl1, beq_self_eq_true, Bool.not_true, Bool.not_false, add_int, add_tup, add_ref, int_, int0_, mul_int, mul_str, ord_int, FD.ix_tup, ix_fl, ix_ref, at_0, at_1, at_2, at_3, len_tup, len_fl, len_ref, max2_, min2_, tuple_tup, tuple_ref, is_, gs_, setL_, ml_, for_, rng1_, any_, lc_, FD.sl_ref, list_tup, dict0_, dn_, sortK_, val_tup, yes_, isLst_, List.set_cons_zero, List.set_cons_succ, or_, kor_t, kor_f, not_, chain_, kch_t, kch_f, ord_str, len_str, ordc_, strc_int, val_str, add_str, sl_strD, match_, cc_, kc_n, kc_s, cn_, wild_]
  repeat (with_reducible refine And.intro (by first | rfl | omega | (simp only [sizeLine, List.length_cons, List.length_nil, List.length_append] <;> omega)) ?_)
  refine ⟨_, _, hp, hq, ?_⟩
  refine same_items (k := 2) (n := 11) (fun d hd' {G Q} => same_pl 2 10 d (hx d hd') (by omega) (by omega)) (fun G' k => ?_) hl fun p m G' e kk => all_true e (h _ kk)
  exact ⟨k _ _ hp, k _ _ hq⟩
end K01

/-! exceptions made by keywords -/
namespace K01
open PySem L2 FD
theorem mul_lst {a : Addr} {n : Int} {G : DG} {Q : DK} : mulD (.ref a) (.int n) G Q = ∃ xs, G a = some (.lst xs) ∧ (-(2 ^ 63) ≤ n ∧ n < 2 ^ 63 ∧ xs.length * n.toNat ≤ sizeLine) ∧ kNew G (.lst (List.replicate n.toNat xs).flatten) Q := rfl
theorem named_right_spec {a b : D} {G : DG} {Q : DK} (ha : Pl 2 a) (hb : Pl 2 b) (h : ∀ G', Keep G G' → Q (.bl true) G') : sp_named_right [a, b] G Q := by
  refine ⟨rfl, ?_⟩
  show t_named_right _ [some a, some b, none, none, none] G
  unfold t_named_right
  try simp only [next_, ret_, drop_, ifs_, br_t, br_f, asg_, gn_, gt_, gtc_, gtn_, par_, var_0, var_s, c_, nil_, cons_, tup_, lst_, op_, bool_, kb_, tru_, tr_bl, andT_, orT_, kn_tt, kn_tf, kn_ff, kn_ft, notT_, and_, kand_t, kand_f, if_, bre_t, bre_f, call_, cb_, neg_, sl_, nopart_, part_, FD.sl_tup, eq_int0, eq_int1, eq_bl0, eq_bl1, beq_self_eq_true, Bool.not_true, Bool.not_false, add_int, add_tup, add_ref, int_, int0_, mul_int, mul_str, ord_int, FD.ix_tup, ix_fl, ix_ref, at_0, at_1, at_2, at_3, len_tup, len_fl, len_ref, max2_, min2_, tuple_tup, tuple_ref, is_, gs_, setL_, ml_, for_, rng1_, any_, lc_, FD.sl_ref, list_tup, dict0_, dn_, sortK_, val_tup, yes_, isLst_, List.set_cons_zero, List.set_cons_succ, or_, kor_t, kor_f, not_, chain_, kch_t, kch_f, ord_str, len_str, ordc_, strc_int, val_str, add_str, sl_strD, match_, cc_, kc_n, kc_s, cn_, wild_, exn_, exn2_, xv_]
  rw [seq_]
  try simp only [next_, ret_, drop_, ifs_, br_t, br_f, asg_, gn_, gt_, gtc_, gtn_, par_, var_0, var_s, c_, nil_, cons_, tup_, lst_, op_, bool_, kb_, tru_, tr_bl, andT_, orT_, kn_tt, kn_tf, kn_ff, kn_ft, notT_, and_, kand_t, kand_f, if_, bre_t, bre_f, call_, cb_, neg_, sl_, nopart_, part_, FD.sl_tup, eq_int0, eq_int1, eq_bl0, eq_bl1, beq_self_eq_true, Bool.not_true, Bool.not_false, add_int, add_tup, add_ref, int_, int0_, mul_int, mul_str, ord_int, FD.ix_tup, ix_fl, ix_ref, at_0, at_1, at_2, at_3, len_tup, len_fl, len_ref, max2_, min2_, tuple_tup, tuple_ref, is_, gs_, setL_, ml_, for_, rng1_, any_, lc_, FD.sl_ref, list_tup, dict0_, dn_, sortK_, val_tup, yes_, isLst_, List.set_cons_zero, List.set_cons_succ, or_, kor_t, kor_f, not_, chain_, kch_t, kch_f, ord_str, len_str, ordc_, strc_int, val_str, add_str, sl_strD, match_, cc_, kc_n, kc_s, cn_, wild_, exn_, exn2_, xv_]
  refine exn2_g fun p1 G1 h1 e1 k1 => ?_
  refine exn_g fun p2 G2 h2 e2 k2 => ?_
  refine exn_g fun p3 G3 h3 e3 k3 => ?_
  refine exn_g fun p4 G4 h4 e4 k4 => ?_
  refine exn_g fun p5 G5 h5 e5 k5 => ?_
  try dsimp only
  refine ⟨by simp [sizeLine], new_ fun l G6 h6 e6 k6 => ?_⟩
  have E1 := k6 _ _ (k5 _ _ (k4 _ _ (k3 _ _ (k2 _ _ e1))))
  have E2 := k6 _ _ (k5 _ _ (k4 _ _ (k3 _ _ e2)))
  have E3 := k6 _ _ (k5 _ _ (k4 _ _ e3))
  have E4 := k6 _ _ (k5 _ _ e4)
  have E5 := k6 _ _ e5
  have K := k1.trans (k2.trans (k3.trans (k4.trans (k5.trans k6))))
  try simp only [next_, ret_, drop_, ifs_, br_t, br_f, asg_, gn_, gt_, gtc_, gtn_, par_, var_0, var_s, c_, nil_, cons_, tup_, lst_, op_, bool_, kb_, tru_, tr_bl, andT_, orT_, kn_tt, kn_tf, kn_ff, kn_ft, notT_, and_, kand_t, kand_f, if_, bre_t, bre_f, call_, cb_, neg_, sl_, nopart_, part_, FD.sl_tup, eq_int0, eq_int1, eq_bl0, eq_bl1, beq_self_eq_true, Bool.not_true, Bool.not_false, add_int, add_tup, add_ref, int_, int0_, mul_int, mul_str, ord_int, FD.ix_tup, ix_fl, ix_ref, at_0, at_1, at_2, at_3, len_tup, len_fl, len_ref, max2_, min2_, tuple_tup, tuple_ref, is_, gs_, setL_, ml_, for_, rng1_, any_, lc_, FD.sl_ref, list_tup, dict0_, dn_, sortK_, val_tup, yes_, isLst_, List.set_cons_zero, List.set_cons_succ, or_, kor_t, kor_f, not_, chain_, kch_t, kch_f, ord_str, len_str, ordc_, strc_int, val_str, add_str, sl_strD, match_, cc_, kc_n, kc_s, cn_, wild_, exn_, exn2_, xv_]
  rw [seq_]
  try simp only [next_, ret_, drop_, ifs_, br_t, br_f, asg_, gn_, gt_, gtc_, gtn_, par_, var_0, var_s, c_, nil_, cons_, tup_, lst_, op_, bool_, kb_, tru_, tr_bl, andT_, orT_, kn_tt, kn_tf, kn_ff, kn_ft, notT_, and_, kand_t, kand_f, if_, bre_t, bre_f, call_, cb_, neg_, sl_, nopart_, part_, FD.sl_tup, eq_int0, eq_int1, eq_bl0, eq_bl1, beq_self_eq_true, Bool.not_true, Bool.not_false, add_int, add_tup, add_ref, int_, int0_, mul_int, mul_str, ord_int, FD.ix_tup, ix_fl, ix_ref, at_0, at_1, at_2, at_3, len_tup, len_fl, len_ref, max2_, min2_, tuple_tup, tuple_ref, is_, gs_, setL_, ml_, for_, rng1_, any_, lc_, FD.sl_ref, list_tup, dict0_, dn_, sortK_, val_tup, yes_, isLst_, List.set_cons_zero, List.set_cons_succ, or_, kor_t, kor_f, not_, chain_, kch_t, kch_f, ord_str, len_str, ordc_, strc_int, val_str, add_str, sl_strD, match_, cc_, kc_n, kc_s, cn_, wild_, exn_, exn2_, xv_]
  refine xv_g E1 (by decide) rfl ?_
  refine xv_g E1 (by decide) rfl ?_
  try simp only [next_, ret_, drop_, ifs_, br_t, br_f, asg_, gn_, gt_, gtc_, gtn_, par_, var_0, var_s, c_, nil_, cons_, tup_, lst_, op_, bool_, kb_, tru_, tr_bl, andT_, orT_, kn_tt, kn_tf, kn_ff, kn_ft, notT_, and_, kand_t, kand_f, if_, bre_t, bre_f, call_, cb_, neg_, sl_, nopart_, part_, FD.sl_tup, eq_int0, eq_int1, eq_bl0, eq_bl1, beq_self_eq_true, Bool.not_true, Bool.not_false, add_int, add_tup, add_ref, int_, int0_, mul_int, mul_str, ord_int, FD.ix_tup, ix_fl, ix_ref, at_0, at_1, at_2, at_3, len_tup, len_fl, len_ref, max2_, min2_, tuple_tup, tuple_ref, is_, gs_, setL_, ml_, for_, rng1_, any_, lc_, FD.sl_ref, list_tup, dict0_, dn_, sortK_, val_tup, yes_, isLst_, List.set_cons_zero, List.set_cons_succ, or_, kor_t, kor_f, not_, chain_, kch_t, kch_f, ord_str, len_str, ordc_, strc_int, val_str, add_str, sl_strD, match_, cc_, kc_n, kc_s, cn_, wild_, exn_, exn2_, xv_]
  refine ⟨_, e6, ?_⟩
  try simp only [next_, ret_, drop_, ifs_, br_t, br_f, asg_, gn_, gt_, gtc_, gtn_, par_, var_0, var_s, c_, nil_, cons_, tup_, lst_, op_, bool_, kb_, tru_, tr_bl, andT_, orT_, kn_tt, kn_tf, kn_ff, kn_ft, notT_, and_, kand_t, kand_f, if_, bre_t, bre_f, call_, cb_, neg_, sl_, nopart_, part_, FD.sl_tup, eq_int0, eq_int1, eq_bl0, eq_bl1, beq_self_eq_true, Bool.not_true, Bool.not_false, add_int, add_tup, add_ref, int_, int0_, mul_int, mul_str, ord_int, FD.ix_tup, ix_fl, ix_ref, at_0, at_1, at_2, at_3, len_tup, len_fl, len_ref, max2_, min2_, tuple_tup, tuple_ref, is_, gs_, setL_, ml_, for_, rng1_, any_, lc_, FD.sl_ref, list_tup, dict0_, dn_, sortK_, val_tup, yes_, isLst_, List.set_cons_zero, List.set_cons_succ, or_, kor_t, kor_f, not_, chain_, kch_t, kch_f, ord_str, len_str, ordc_, strc_int, val_str, add_str, sl_strD, match_, cc_, kc_n, kc_s, cn_, wild_, exn_, exn2_, xv_]
  refine xv_g E2 (by decide) rfl ?_
  refine ⟨_, e6, ?_⟩
  try simp only [next_, ret_, drop_, ifs_, br_t, br_f, asg_, gn_, gt_, gtc_, gtn_, par_, var_0, var_s, c_, nil_, cons_, tup_, lst_, op_, bool_, kb_, tru_, tr_bl, andT_, orT_, kn_tt, kn_tf, kn_ff, kn_ft, notT_, and_, kand_t, kand_f, if_, bre_t, bre_f, call_, cb_, neg_, sl_, nopart_, part_, FD.sl_tup, eq_int0, eq_int1, eq_bl0, eq_bl1, beq_self_eq_true, Bool.not_true, Bool.not_false, add_int, add_tup, add_ref, int_, int0_, mul_int, mul_str, ord_int, FD.ix_tup, ix_fl, ix_ref, at_0, at_1, at_2, at_3, len_tup, len_fl, len_ref, max2_, min2_, tuple_tup, tuple_ref, is_, gs_, setL_, ml_, for_, rng1_, any_, lc_, FD.sl_ref, list_tup, dict0_, dn_, sortK_, val_tup, yes_, isLst_, List.set_cons_zero, List.set_cons_succ, or_, kor_t, kor_f, not_, chain_, kch_t, kch_f, ord_str, len_str, ordc_, strc_int, val_str, add_str, sl_strD, match_, cc_, kc_n, kc_s, cn_, wild_, exn_, exn2_, xv_]
  refine xv_g E3 (by decide) rfl ?_
  refine ⟨_, e6, ?_⟩
  try simp only [next_, ret_, drop_, ifs_, br_t, br_f, asg_, gn_, gt_, gtc_, gtn_, par_, var_0, var_s, c_, nil_, cons_, tup_, lst_, op_, bool_, kb_, tru_, tr_bl, andT_, orT_, kn_tt, kn_tf, kn_ff, kn_ft, notT_, and_, kand_t, kand_f, if_, bre_t, bre_f, call_, cb_, neg_, sl_, nopart_, part_, FD.sl_tup, eq_int0, eq_int1, eq_bl0, eq_bl1, beq_self_eq_true, Bool.not_true, Bool.not_false, add_int, add_tup, add_ref, int_, int0_, mul_int, mul_str, ord_int, FD.ix_tup, ix_fl, ix_ref, at_0, at_1, at_2, at_3, len_tup, len_fl, len_ref, max2_, min2_, tuple_tup, tuple_ref, is_, gs_, setL_, ml_, for_, rng1_, any_, lc_, FD.sl_ref, list_tup, dict0_, dn_, sortK_, val_tup, yes_, isLst_, List.set_cons_zero, List.set_cons_succ, or_, kor_t, kor_f, not_, chain_, kch_t, kch_f, ord_str, len_str, ordc_, strc_int, val_str, add_str, sl_strD, match_, cc_, kc_n, kc_s, cn_, wild_, exn_, exn2_, xv_]
  refine xv_g E4 (by decide) rfl ?_
  refine ⟨_, e6, ?_⟩
  try simp only [next_, ret_, drop_, ifs_, br_t, br_f, asg_, gn_, gt_, gtc_, gtn_, par_, var_0, var_s, c_, nil_, cons_, tup_, lst_, op_, bool_, kb_, tru_, tr_bl, andT_, orT_, kn_tt, kn_tf, kn_ff, kn_ft, notT_, and_, kand_t, kand_f, if_, bre_t, bre_f, call_, cb_, neg_, sl_, nopart_, part_, FD.sl_tup, eq_int0, eq_int1, eq_bl0, eq_bl1, beq_self_eq_true, Bool.not_true, Bool.not_false, add_int, add_tup, add_ref, int_, int0_, mul_int, mul_str, ord_int, FD.ix_tup, ix_fl, ix_ref, at_0, at_1, at_2, at_3, len_tup, len_fl, len_ref, max2_, min2_, tuple_tup, tuple_ref, is_, gs_, setL_, ml_, for_, rng1_, any_, lc_, FD.sl_ref, list_tup, dict0_, dn_, sortK_, val_tup, yes_, isLst_, List.set_cons_zero, List.set_cons_succ, or_, kor_t, kor_f, not_, chain_, kch_t, kch_f, ord_str, len_str, ordc_, strc_int, val_str, add_str, sl_strD, match_, cc_, kc_n, kc_s, cn_, wild_, exn_, exn2_, xv_]
  refine xv_g E5 (by decide) rfl ?_
  try dsimp only
  refine ⟨by simp [sizeLine], new_ fun m G7 h7 e7 k7 => ?_⟩
  try simp only [next_, ret_, drop_, ifs_, br_t, br_f, asg_, gn_, gt_, gtc_, gtn_, par_, var_0, var_s, c_, nil_, cons_, tup_, lst_, op_, bool_, kb_, tru_, tr_bl, andT_, orT_, kn_tt, kn_tf, kn_ff, kn_ft, notT_, and_, kand_t, kand_f, if_, bre_t, bre_f, call_, cb_, neg_, sl_, nopart_, part_, FD.sl_tup, eq_int0, eq_int1, eq_bl0, eq_bl1, beq_self_eq_true, Bool.not_true, Bool.not_false, add_int, add_tup, add_ref, int_, int0_, mul_int, mul_str, ord_int, FD.ix_tup, ix_fl, ix_ref, at_0, at_1, at_2, at_3, len_tup, len_fl, len_ref, max2_, min2_, tuple_tup, tuple_ref, is_, gs_, setL_, ml_, for_, rng1_, any_, lc_, FD.sl_ref, list_tup, dict0_, dn_, sortK_, val_tup, yes_, isLst_, List.set_cons_zero, List.set_cons_succ, or_, kor_t, kor_f, not_, chain_, kch_t, kch_f, ord_str, len_str, ordc_, strc_int, val_str, add_str, sl_strD, match_, cc_, kc_n, kc_s, cn_, wild_, exn_, exn2_, xv_]
  rw [seq_]
  try simp only [next_, ret_, drop_, ifs_, br_t, br_f, asg_, gn_, gt_, gtc_, gtn_, par_, var_0, var_s, c_, nil_, cons_, tup_, lst_, op_, bool_, kb_, tru_, tr_bl, andT_, orT_, kn_tt, kn_tf, kn_ff, kn_ft, notT_, and_, kand_t, kand_f, if_, bre_t, bre_f, call_, cb_, neg_, sl_, nopart_, part_, FD.sl_tup, eq_int0, eq_int1, eq_bl0, eq_bl1, beq_self_eq_true, Bool.not_true, Bool.not_false, add_int, add_tup, add_ref, int_, int0_, mul_int, mul_str, ord_int, FD.ix_tup, ix_fl, ix_ref, at_0, at_1, at_2, at_3, len_tup, len_fl, len_ref, max2_, min2_, tuple_tup, tuple_ref, is_, gs_, setL_, ml_, for_, rng1_, any_, lc_, FD.sl_ref, list_tup, dict0_, dn_, sortK_, val_tup, yes_, isLst_, List.set_cons_zero, List.set_cons_succ, or_, kor_t, kor_f, not_, chain_, kch_t, kch_f, ord_str, len_str, ordc_, strc_int, val_str, add_str, sl_strD, match_, cc_, kc_n, kc_s, cn_, wild_, exn_, exn2_, xv_]
  refine exn_g fun p8 G8 h8 e8 k8 => ?_
  refine xv_g e8 (by decide) rfl ?_
  refine exn_g fun p9 G9 h9 e9 k9 => ?_
  refine xv_g e9 (by decide) rfl ?_
  refine exn_g fun p10 G10 h10 e10 k10 => ?_
  refine xv_g e10 (by decide) rfl ?_
  refine exn_g fun p11 G11 h11 e11 k11 => ?_
  refine xv_g e11 (by decide) rfl ?_
  try dsimp only
  refine ⟨by simp [sizeLine], new_ fun n G12 h12 e12 k12 => ?_⟩
  have K2 := k8.trans (k9.trans (k10.trans (k11.trans k12)))
  try simp only [add_ref]
  refine ⟨_, K2 _ _ e7, _, e12, by simp [sizeLine], new_ fun r G13 h13 e13 k13 => ?_⟩
  try simp only [seq_, next_, ret_, drop_, ifs_, br_t, br_f, asg_, gn_, gt_, gtc_, gtn_, par_, var_0, var_s, c_, nil_, cons_, tup_, lst_, op_, bool_, kb_, tru_, tr_bl, andT_, orT_, kn_tt, kn_tf, kn_ff, kn_ft, notT_, and_, kand_t, kand_f, if_, bre_t, bre_f, call_, cb_, neg_, sl_, nopart_, part_, FD.sl_tup, eq_int0, eq_int1, eq_bl0, eq_bl1, beq_self_eq_true, Bool.not_true, Bool.not_false, add_int, add_tup, add_ref, int_, int0_, mul_int, mul_str, ord_int, FD.ix_tup, ix_fl, ix_ref, at_0, at_1, at_2, at_3, len_tup, len_fl, len_ref, max2_, min2_, tuple_tup, tuple_ref, is_, gs_, setL_, ml_, for_, rng1_, any_, lc_, FD.sl_ref, list_tup, dict0_, dn_, sortK_, val_tup, yes_, isLst_, List.set_cons_zero, List.set_cons_succ, or_, kor_t, kor_f, not_, chain_, kch_t, kch_f, ord_str, len_str, ordc_, strc_int, val_str, add_str, sl_strD, match_, cc_, kc_n, kc_s, cn_, wild_, exn_, exn2_, xv_, mul_lst]
  refine ⟨by simp [sizeLine], new_ fun u G14 h14 e14 k14 => ?_⟩
  try simp only [seq_, next_, ret_, drop_, ifs_, br_t, br_f, asg_, gn_, gt_, gtc_, gtn_, par_, var_0, var_s, c_, nil_, cons_, tup_, lst_, op_, bool_, kb_, tru_, tr_bl, andT_, orT_, kn_tt, kn_tf, kn_ff, kn_ft, notT_, and_, kand_t, kand_f, if_, bre_t, bre_f, call_, cb_, neg_, sl_, nopart_, part_, FD.sl_tup, eq_int0, eq_int1, eq_bl0, eq_bl1, beq_self_eq_true, Bool.not_true, Bool.not_false, add_int, add_tup, add_ref, int_, int0_, mul_int, mul_str, ord_int, FD.ix_tup, ix_fl, ix_ref, at_0, at_1, at_2, at_3, len_tup, len_fl, len_ref, max2_, min2_, tuple_tup, tuple_ref, is_, gs_, setL_, ml_, for_, rng1_, any_, lc_, FD.sl_ref, list_tup, dict0_, dn_, sortK_, val_tup, yes_, isLst_, List.set_cons_zero, List.set_cons_succ, or_, kor_t, kor_f, not_, chain_, kch_t, kch_f, ord_str, len_str, ordc_, strc_int, val_str, add_str, sl_strD, match_, cc_, kc_n, kc_s, cn_, wild_, mul_lst]
  refine ⟨by simp [sizeLine], new_ fun v G15 h15 e15 k15 => ?_⟩
  try simp only [seq_, next_, ret_, drop_, ifs_, br_t, br_f, asg_, gn_, gt_, gtc_, gtn_, par_, var_0, var_s, c_, nil_, cons_, tup_, lst_, op_, bool_, kb_, tru_, tr_bl, andT_, orT_, kn_tt, kn_tf, kn_ff, kn_ft, notT_, and_, kand_t, kand_f, if_, bre_t, bre_f, call_, cb_, neg_, sl_, nopart_, part_, FD.sl_tup, eq_int0, eq_int1, eq_bl0, eq_bl1, beq_self_eq_true, Bool.not_true, Bool.not_false, add_int, add_tup, add_ref, int_, int0_, mul_int, mul_str, ord_int, FD.ix_tup, ix_fl, ix_ref, at_0, at_1, at_2, at_3, len_tup, len_fl, len_ref, max2_, min2_, tuple_tup, tuple_ref, is_, gs_, setL_, ml_, for_, rng1_, any_, lc_, FD.sl_ref, list_tup, dict0_, dn_, sortK_, val_tup, yes_, isLst_, List.set_cons_zero, List.set_cons_succ, or_, kor_t, kor_f, not_, chain_, kch_t, kch_f, ord_str, len_str, ordc_, strc_int, val_str, add_str, sl_strD, match_, cc_, kc_n, kc_s, cn_, wild_, mul_lst]
  refine ⟨_, e15, ⟨by decide, by decide, by simp [sizeLine]⟩, new_ fun w G16 h16 e16 k16 => ?_⟩
  try simp only [seq_, next_, ret_, drop_, ifs_, br_t, br_f, asg_, gn_, gt_, gtc_, gtn_, par_, var_0, var_s, c_, nil_, cons_, tup_, lst_, op_, bool_, kb_, tru_, tr_bl, andT_, orT_, kn_tt, kn_tf, kn_ff, kn_ft, notT_, and_, kand_t, kand_f, if_, bre_t, bre_f, call_, cb_, neg_, sl_, nopart_, part_, FD.sl_tup, eq_int0, eq_int1, eq_bl0, eq_bl1, beq_self_eq_true, Bool.not_true, Bool.not_false, add_int, add_tup, add_ref, int_, int0_, mul_int, mul_str, ord_int, FD.ix_tup, ix_fl, ix_ref, at_0, at_1, at_2, at_3, len_tup, len_fl, len_ref, max2_, min2_, tuple_tup, tuple_ref, is_, gs_, setL_, ml_, for_, rng1_, any_, lc_, FD.sl_ref, list_tup, dict0_, dn_, sortK_, val_tup, yes_, isLst_, List.set_cons_zero, List.set_cons_succ, or_, kor_t, kor_f, not_, chain_, kch_t, kch_f, ord_str, len_str, ordc_, strc_int, val_str, add_str, sl_strD, match_, cc_, kc_n, kc_s, cn_, wild_]
  refine ⟨_, k16 _ _ (k15 _ _ e14), _, e16, by simp [sizeLine], new_ fun z G17 h17 e17 k17 => ?_⟩
  have E13 := k17 _ _ (k16 _ _ (k15 _ _ (k14 _ _ e13)))
  refine same_list E13 e17 (fun x hx => ?_) (by simp [sizeLine]) fun G' kk => h G' (K.trans (k7.trans (K2.trans (k13.trans (k14.trans (k15.trans (k16.trans (k17.trans kk))))))))
  simp only [List.cons_append, List.nil_append, List.mem_cons, List.not_mem_nil, or_false] at hx
  rcases hx with rfl | rfl | rfl | rfl | rfl | rfl | rfl | rfl | rfl | rfl <;> assumption
end K01

/-! what is raised and caught -/
namespace K01
open PySem L2 FD
theorem tryM_ {l : List HdD} {W : DWX} {tb : DWX → DS} {E : DEnds} {ρ : DSt} {G : DG} : dTryM l W tb E ρ G = tb (wTryM W E l) E ρ G := rfl
theorem wtry_yes {W : DWX} {E : DEnds} {ms : Str → Option Bool} {oi : Option Nat} {ts : TsD} {r : List HdD} {c : Str} {fs : List (Str × D)} {ρ : DSt} {G : DG} (h1 : ms c = some true) (h : ∀ a, G a = none → runD oi ts a c fs E ρ G) : wTryM W E ((ms, oi, ts) :: r) c fs ρ G := ⟨true, h1, (fun _ => h), fun e => by cases e⟩
theorem wtry_no {W : DWX} {E : DEnds} {ms : Str → Option Bool} {oi : Option Nat} {ts : TsD} {r : List HdD} {c : Str} {fs : List (Str × D)} {ρ : DSt} {G : DG} (h1 : ms c = some false) (h : wTryM W E r c fs ρ G) : wTryM W E ((ms, oi, ts) :: r) c fs ρ G := ⟨false, h1, (fun e => by cases e), fun _ => h⟩
theorem exF_ {cs : List Str} {a : Addr} {c : Str} {fs : List (Str × D)} {f : Str} {i : Nat} {ρ : DSt} {G : DG} {Q : DK} : dExF cs a c fs f i ρ G Q = (ρ[i]? = some (some (.ref a)) ∧ c ∈ cs ∧ ∃ v, fs.lookup f = some v ∧ Q v G) := rfl
theorem exI_ {ms : Str → Option Bool} {a : Addr} {c : Str} {i : Nat} {ρ : DSt} {G : DG} {Q : DK} : dExI ms a c i ρ G Q = (ρ[i]? = some (some (.ref a)) ∧ ∃ b, ms c = some b ∧ Q (.bl b) G) := rfl
theorem raise0_ {c : Str} {W : DWX} {E : DEnds} {ρ : DSt} {G : DG} : dRaise0 c W E ρ G = W c [] ρ G := rfl
theorem kraise_ {c f : Str} {W : DWX} {ρ : DSt} {x : D} {G : DG} : kRaise c f W ρ [x] G = W c [(f, x)] ρ G := rfl
def resD (a : D) : Int → D := fun k => if k = 0 then .tup [.str "stuck", a] else if k = 1 then .tup [.str "key"] else if k = 2 then .tup [.str "base", .bl true] else .str "none"
theorem raised_spec {a : D} {k : Int} {G : DG} {Q : DK} (h0 : 0 ≤ k) (h1 : k < 4) (h : Q (resD a k) G) : sp_raised [.int k, a] G Q := by
  refine ⟨rfl, ?_⟩
  show t_raised _ [some (.int k), some a, none, none] G
  unfold t_raised
  have hk : k = 0 ∨ k = 1 ∨ k = 2 ∨ k = 3 := by omega
  rcases hk with rfl | rfl | rfl | rfl
  · try simp only [seq_, next_, ret_, drop_, ifs_, br_t, br_f, asg_, gn_, gt_, gtc_, gtn_, par_, var_0, var_s, c_, nil_, cons_, tup_, lst_, op_, bool_, kb_, tru_, tr_bl, andT_, orT_, kn_tt, kn_tf, kn_ff, kn_ft, notT_, and_, kand_t, kand_f, if_, bre_t, bre_f, call_, cb_, neg_, sl_, nopart_, part_, FD.sl_tup, eq_int0, eq_int1, eq_bl0, eq_bl1, beq_self_eq_true, Bool.not_true, Bool.not_false, add_int, add_tup, add_ref, int_, int0_, mul_int, mul_str, ord_int, FD.ix_tup, ix_fl, ix_ref, at_0, at_1, at_2, at_3, len_tup, len_fl, len_ref, max2_, min2_, tuple_tup, tuple_ref, is_, gs_, setL_, ml_, for_, rng1_, any_, lc_, FD.sl_ref, list_tup, dict0_, dn_, sortK_, val_tup, yes_, isLst_, List.set_cons_zero, List.set_cons_succ, or_, kor_t, kor_f, not_, chain_, kch_t, kch_f, ord_str, len_str, ordc_, strc_int, val_str, add_str, sl_strD, match_, cc_, kc_n, kc_s, cn_, wild_, tryM_, raise_, raise0_, kraise_, show ((0 : Int) == 0) = true from rfl]
    refine wtry_yes rfl fun e he => ?_
    unfold runD
    try simp only [seq_, next_, ret_, drop_, ifs_, br_t, br_f, asg_, gn_, gt_, gtc_, gtn_, par_, var_0, var_s, c_, nil_, cons_, tup_, lst_, op_, bool_, kb_, tru_, tr_bl, andT_, orT_, kn_tt, kn_tf, kn_ff, kn_ft, notT_, and_, kand_t, kand_f, if_, bre_t, bre_f, call_, cb_, neg_, sl_, nopart_, part_, FD.sl_tup, eq_int0, eq_int1, eq_bl0, eq_bl1, beq_self_eq_true, Bool.not_true, Bool.not_false, add_int, add_tup, add_ref, int_, int0_, mul_int, mul_str, ord_int, FD.ix_tup, ix_fl, ix_ref, at_0, at_1, at_2, at_3, len_tup, len_fl, len_ref, max2_, min2_, tuple_tup, tuple_ref, is_, gs_, setL_, ml_, for_, rng1_, any_, lc_, FD.sl_ref, list_tup, dict0_, dn_, sortK_, val_tup, yes_, isLst_, List.set_cons_zero, List.set_cons_succ, or_, kor_t, kor_f, not_, chain_, kch_t, kch_f, ord_str, len_str, ordc_, strc_int, val_str, add_str, sl_strD, match_, cc_, kc_n, kc_s, cn_, wild_, exF_]
    refine ⟨rfl, by decide, _, rfl, ?_⟩
    try simp only [seq_, next_, ret_, drop_, ifs_, br_t, br_f, asg_, gn_, gt_, gtc_, gtn_, par_, var_0, var_s, c_, nil_, cons_, tup_, lst_, op_, bool_, kb_, tru_, tr_bl, andT_, orT_, kn_tt, kn_tf, kn_ff, kn_ft, notT_, and_, kand_t, kand_f, if_, bre_t, bre_f, call_, cb_, neg_, sl_, nopart_, part_, FD.sl_tup, eq_int0, eq_int1, eq_bl0, eq_bl1, beq_self_eq_true, Bool.not_true, Bool.not_false, add_int, add_tup, add_ref, int_, int0_, mul_int, mul_str, ord_int, FD.ix_tup, ix_fl, ix_ref, at_0, at_1, at_2, at_3, len_tup, len_fl, len_ref, max2_, min2_, tuple_tup, tuple_ref, is_, gs_, setL_, ml_, for_, rng1_, any_, lc_, FD.sl_ref, list_tup, dict0_, dn_, sortK_, val_tup, yes_, isLst_, List.set_cons_zero, List.set_cons_succ, or_, kor_t, kor_f, not_, chain_, kch_t, kch_f, ord_str, len_str, ordc_, strc_int, val_str, add_str, sl_strD, match_, cc_, kc_n, kc_s, cn_, wild_]
    refine ⟨by simp [sizeLine], ?_⟩
    exact h
  · try simp only [seq_, next_, ret_, drop_, ifs_, br_t, br_f, asg_, gn_, gt_, gtc_, gtn_, par_, var_0, var_s, c_, nil_, cons_, tup_, lst_, op_, bool_, kb_, tru_, tr_bl, andT_, orT_, kn_tt, kn_tf, kn_ff, kn_ft, notT_, and_, kand_t, kand_f, if_, bre_t, bre_f, call_, cb_, neg_, sl_, nopart_, part_, FD.sl_tup, eq_int0, eq_int1, eq_bl0, eq_bl1, beq_self_eq_true, Bool.not_true, Bool.not_false, add_int, add_tup, add_ref, int_, int0_, mul_int, mul_str, ord_int, FD.ix_tup, ix_fl, ix_ref, at_0, at_1, at_2, at_3, len_tup, len_fl, len_ref, max2_, min2_, tuple_tup, tuple_ref, is_, gs_, setL_, ml_, for_, rng1_, any_, lc_, FD.sl_ref, list_tup, dict0_, dn_, sortK_, val_tup, yes_, isLst_, List.set_cons_zero, List.set_cons_succ, or_, kor_t, kor_f, not_, chain_, kch_t, kch_f, ord_str, len_str, ordc_, strc_int, val_str, add_str, sl_strD, match_, cc_, kc_n, kc_s, cn_, wild_, tryM_, raise_, raise0_, kraise_, show ((1 : Int) == 0) = false from rfl, show ((1 : Int) == 1) = true from rfl]
    refine wtry_no rfl (wtry_no rfl (wtry_yes rfl fun e he => ?_))
    unfold runD
    try simp only [seq_, next_, ret_, drop_, ifs_, br_t, br_f, asg_, gn_, gt_, gtc_, gtn_, par_, var_0, var_s, c_, nil_, cons_, tup_, lst_, op_, bool_, kb_, tru_, tr_bl, andT_, orT_, kn_tt, kn_tf, kn_ff, kn_ft, notT_, and_, kand_t, kand_f, if_, bre_t, bre_f, call_, cb_, neg_, sl_, nopart_, part_, FD.sl_tup, eq_int0, eq_int1, eq_bl0, eq_bl1, beq_self_eq_true, Bool.not_true, Bool.not_false, add_int, add_tup, add_ref, int_, int0_, mul_int, mul_str, ord_int, FD.ix_tup, ix_fl, ix_ref, at_0, at_1, at_2, at_3, len_tup, len_fl, len_ref, max2_, min2_, tuple_tup, tuple_ref, is_, gs_, setL_, ml_, for_, rng1_, any_, lc_, FD.sl_ref, list_tup, dict0_, dn_, sortK_, val_tup, yes_, isLst_, List.set_cons_zero, List.set_cons_succ, or_, kor_t, kor_f, not_, chain_, kch_t, kch_f, ord_str, len_str, ordc_, strc_int, val_str, add_str, sl_strD, match_, cc_, kc_n, kc_s, cn_, wild_, exF_]
    refine ⟨by simp [sizeLine], ?_⟩
    exact h
  · try simp only [seq_, next_, ret_, drop_, ifs_, br_t, br_f, asg_, gn_, gt_, gtc_, gtn_, par_, var_0, var_s, c_, nil_, cons_, tup_, lst_, op_, bool_, kb_, tru_, tr_bl, andT_, orT_, kn_tt, kn_tf, kn_ff, kn_ft, notT_, and_, kand_t, kand_f, if_, bre_t, bre_f, call_, cb_, neg_, sl_, nopart_, part_, FD.sl_tup, eq_int0, eq_int1, eq_bl0, eq_bl1, beq_self_eq_true, Bool.not_true, Bool.not_false, add_int, add_tup, add_ref, int_, int0_, mul_int, mul_str, ord_int, FD.ix_tup, ix_fl, ix_ref, at_0, at_1, at_2, at_3, len_tup, len_fl, len_ref, max2_, min2_, tuple_tup, tuple_ref, is_, gs_, setL_, ml_, for_, rng1_, any_, lc_, FD.sl_ref, list_tup, dict0_, dn_, sortK_, val_tup, yes_, isLst_, List.set_cons_zero, List.set_cons_succ, or_, kor_t, kor_f, not_, chain_, kch_t, kch_f, ord_str, len_str, ordc_, strc_int, val_str, add_str, sl_strD, match_, cc_, kc_n, kc_s, cn_, wild_, tryM_, raise_, raise0_, kraise_, show ((2 : Int) == 0) = false from rfl, show ((2 : Int) == 1) = false from rfl, show ((2 : Int) == 2) = true from rfl]
    refine wtry_no rfl (wtry_yes rfl fun e he => ?_)
    unfold runD
    try simp only [seq_, next_, ret_, drop_, ifs_, br_t, br_f, asg_, gn_, gt_, gtc_, gtn_, par_, var_0, var_s, c_, nil_, cons_, tup_, lst_, op_, bool_, kb_, tru_, tr_bl, andT_, orT_, kn_tt, kn_tf, kn_ff, kn_ft, notT_, and_, kand_t, kand_f, if_, bre_t, bre_f, call_, cb_, neg_, sl_, nopart_, part_, FD.sl_tup, eq_int0, eq_int1, eq_bl0, eq_bl1, beq_self_eq_true, Bool.not_true, Bool.not_false, add_int, add_tup, add_ref, int_, int0_, mul_int, mul_str, ord_int, FD.ix_tup, ix_fl, ix_ref, at_0, at_1, at_2, at_3, len_tup, len_fl, len_ref, max2_, min2_, tuple_tup, tuple_ref, is_, gs_, setL_, ml_, for_, rng1_, any_, lc_, FD.sl_ref, list_tup, dict0_, dn_, sortK_, val_tup, yes_, isLst_, List.set_cons_zero, List.set_cons_succ, or_, kor_t, kor_f, not_, chain_, kch_t, kch_f, ord_str, len_str, ordc_, strc_int, val_str, add_str, sl_strD, match_, cc_, kc_n, kc_s, cn_, wild_, exI_]
    refine ⟨rfl, _, rfl, ?_⟩
    try simp only [seq_, next_, ret_, drop_, ifs_, br_t, br_f, asg_, gn_, gt_, gtc_, gtn_, par_, var_0, var_s, c_, nil_, cons_, tup_, lst_, op_, bool_, kb_, tru_, tr_bl, andT_, orT_, kn_tt, kn_tf, kn_ff, kn_ft, notT_, and_, kand_t, kand_f, if_, bre_t, bre_f, call_, cb_, neg_, sl_, nopart_, part_, FD.sl_tup, eq_int0, eq_int1, eq_bl0, eq_bl1, beq_self_eq_true, Bool.not_true, Bool.not_false, add_int, add_tup, add_ref, int_, int0_, mul_int, mul_str, ord_int, FD.ix_tup, ix_fl, ix_ref, at_0, at_1, at_2, at_3, len_tup, len_fl, len_ref, max2_, min2_, tuple_tup, tuple_ref, is_, gs_, setL_, ml_, for_, rng1_, any_, lc_, FD.sl_ref, list_tup, dict0_, dn_, sortK_, val_tup, yes_, isLst_, List.set_cons_zero, List.set_cons_succ, or_, kor_t, kor_f, not_, chain_, kch_t, kch_f, ord_str, len_str, ordc_, strc_int, val_str, add_str, sl_strD, match_, cc_, kc_n, kc_s, cn_, wild_]
    refine ⟨by simp [sizeLine], ?_⟩
    exact h
  · try simp only [seq_, next_, ret_, drop_, ifs_, br_t, br_f, asg_, gn_, gt_, gtc_, gtn_, par_, var_0, var_s, c_, nil_, cons_, tup_, lst_, op_, bool_, kb_, tru_, tr_bl, andT_, orT_, kn_tt, kn_tf, kn_ff, kn_ft, notT_, and_, kand_t, kand_f, if_, bre_t, bre_f, call_, cb_, neg_, sl_, nopart_, part_, FD.sl_tup, eq_int0, eq_int1, eq_bl0, eq_bl1, beq_self_eq_true, Bool.not_true, Bool.not_false, add_int, add_tup, add_ref, int_, int0_, mul_int, mul_str, ord_int, FD.ix_tup, ix_fl, ix_ref, at_0, at_1, at_2, at_3, len_tup, len_fl, len_ref, max2_, min2_, tuple_tup, tuple_ref, is_, gs_, setL_, ml_, for_, rng1_, any_, lc_, FD.sl_ref, list_tup, dict0_, dn_, sortK_, val_tup, yes_, isLst_, List.set_cons_zero, List.set_cons_succ, or_, kor_t, kor_f, not_, chain_, kch_t, kch_f, ord_str, len_str, ordc_, strc_int, val_str, add_str, sl_strD, match_, cc_, kc_n, kc_s, cn_, wild_, tryM_, raise_, raise0_, kraise_, show ((3 : Int) == 0) = false from rfl, show ((3 : Int) == 1) = false from rfl, show ((3 : Int) == 2) = false from rfl]
    exact h
end K01

/-! tests that come out false, whatever has been made before -/
namespace K01
open PySem L2 FD
def FT (c : DT) (ρ : DSt) (G : DG) : Prop := ∀ G1, Keep G G1 → ∀ Q : Bool → DG → Prop, (∀ G', Keep G1 G' → Q false G') → c ρ G1 Q
def VT (te : DE) (ρ : DSt) (G : DG) (d : D) : Prop := ∀ G1, Keep G G1 → ∀ Q : DK, Q d G1 → te ρ G1 Q
def ET (te : DE) (ρ : DSt) (G : DG) (c : Str) (fs : List (Str × D)) : Prop := ∀ G1, Keep G G1 → ∀ Q : DK, (∀ p G', Keep G1 G' → G' p = some (.exn c fs) → Q (.ref p) G') → te ρ G1 Q
section
variable {ρ : DSt} {G : DG}
theorem FT.or {a b : DT} (ha : FT a ρ G) (hb : FT b ρ G) : FT (dOrT a b) ρ G := fun G1 k1 Q h => by
  rw [orT_]
  refine ha G1 k1 _ fun G2 k2 => ?_
  rw [kn_ff]
  exact hb G2 (k1.trans k2) _ fun G3 k3 => h G3 (k2.trans k3)
theorem FT.if {c : DT} {t : DS} {E : DEnds} (hc : FT c ρ G) (h : ∀ G', Keep G G' → E.nx ρ G') : dIfS c t dNext E ρ G := by
  rw [ifs_]
  refine hc G .refl _ fun G1 k1 => ?_
  rw [br_f, next_]
  exact h G1 k1
theorem vt_var {v : Nat} {d : D} (h : ρ[v]? = some (some d)) : VT (dVar v) ρ G d := fun G1 _ Q q => by rw [var_at h]; exact q
theorem vt_c {d : D} : VT (dC d) ρ G d := fun G1 _ Q q => by rw [c_]; exact q
theorem vt_xv {cs : List Str} {f : Str} {v : Nat} {p : Addr} {c : Str} {fs : List (Str × D)} {d : D} (h : ρ[v]? = some (some (.ref p))) (hp : G p = some (.exn c fs)) (hc : c ∈ cs) (hf : fs.lookup f = some d) : VT (dXv cs f (dVar v)) ρ G d := fun G1 k1 Q q => by
  rw [xv_, var_at h]
  exact xv_g (k1 _ _ hp) hc hf q
theorem et_var {v : Nat} {p : Addr} {c : Str} {fs : List (Str × D)} (h : ρ[v]? = some (some (.ref p))) (hp : G p = some (.exn c fs)) : ET (dVar v) ρ G c fs := fun G1 k1 Q q => by
  rw [var_at h]
  exact q p G1 .refl (k1 _ _ hp)
theorem et_0 {c : Str} : ET (dExn0 c) ρ G c [] := fun G1 k1 Q q => by
  rw [exn0_]
  exact exn0_g fun p G2 hp e k => q p G2 k e
theorem ft_same {ta tb : DE} {d : D} (ha : VT ta ρ G d) (hb : VT tb ρ G d) (hd : Pl 2 d) : FT (dNotT (dTru (dCall (sp_same 12) (dCons ta (dCons tb dNil))))) ρ G := fun G1 k1 Q h => by
  rw [notT_, tru_, call_, cons_]
  refine ha G1 k1 _ ?_
  rw [cons_]
  refine hb G1 k1 _ ?_
  rw [nil_]
  refine same_pl 2 11 d hd (by decide) (by decide) fun G2 k2 => ?_
  rw [tr_bl]
  exact h G2 k2
theorem ft_same2 {ta tb tc td : DE} {a b : D} (ha : VT ta ρ G a) (hb : VT tb ρ G b) (hc : VT tc ρ G a) (hd : VT td ρ G b) (pa : Pl 2 a) (pb : Pl 2 b) :
    FT (dNotT (dTru (dCall (sp_same 12) (dCons (dLst (dCons ta (dCons tb dNil))) (dCons (dLst (dCons tc (dCons td dNil))) dNil))))) ρ G := fun G1 k1 Q h => by
  rw [notT_, tru_, call_, cons_, lst_, cons_]
  refine ha G1 k1 _ ?_
  rw [cons_]
  refine hb G1 k1 _ ?_
  rw [nil_]
  refine ⟨by simp [sizeLine], new_ fun m G2 hm em km => ?_⟩
  rw [cons_, lst_, cons_]
  refine hc G2 (k1.trans km) _ ?_
  rw [cons_]
  refine hd G2 (k1.trans km) _ ?_
  rw [nil_]
  refine ⟨by simp [sizeLine], new_ fun n G3 hn en kn => ?_⟩
  rw [nil_]
  refine same_list (kn _ _ em) en (fun x hx => ?_) (by simp [sizeLine]) fun G4 k4 => ?_
  · simp only [List.mem_cons, List.not_mem_nil, or_false] at hx
    rcases hx with rfl | rfl
    · exact pa
    · exact pb
  rw [tr_bl]
  exact h G4 (km.trans (kn.trans k4))
theorem ft_names {te tn : DE} {c : Str} {fs : List (Str × D)} {n : Int} (he : ET te ρ G c fs) (hn : VT tn ρ G (.int n)) (hk : Kn c = true) (hm : nmOf c = [.int n]) :
    FT (dBool (dOp (eqD true) (dCall sp_names_of (dCons te dNil)) (dLst (dCons tn dNil)))) ρ G := fun G1 k1 Q h => by
  rw [bool_, op_, call_, cons_]
  refine he G1 k1 _ fun p G2 k2 ep => ?_
  rw [nil_]
  refine names_spec ep hk fun m G3 h3 e3 k3 => ?_
  rw [hm] at e3
  rw [lst_, cons_]
  refine hn G3 (k1.trans (k2.trans k3)) _ ?_
  rw [nil_]
  refine ⟨by simp [sizeLine], new_ fun q G4 h4 e4 k4 => ?_⟩
  have hp : ∀ d ∈ [D.int n], Pl 0 d := fun d hd => by
    simp only [List.mem_cons, List.not_mem_nil, or_false] at hd
    subst hd
    rw [Pl]; trivial
  refine eq_pls1 (k := 0) (m := 0) (k4 _ _ e3) e4 hp hp (by decide) (by decide) ?_
  rw [show PyData.eqvAll (toPys [D.int n]) (toPys [D.int n]) = true by
    rw [toPys, toPys, PyData.eqvAll, PyData.eqvAll, (hp _ (List.mem_cons_self ..)).refl]; rfl, kb_]
  exact h G4 (k2.trans (k3.trans k4))
theorem ft_caught {te : DE} {c : Str} {fs : List (Str × D)} (he : ET te ρ G c fs) (h1 : ms_BuildError c = some true) (h2 : ms_ValueError c = some true) (h3 : ms_LookupError c = some false) :
    FT (dNotT (dTru (dCall sp_caught (dCons te dNil)))) ρ G := fun G1 k1 Q h => by
  rw [notT_, tru_, call_, cons_]
  refine he G1 k1 _ fun p G2 k2 ep => ?_
  rw [nil_]
  refine caught_spec ep h1 h2 h3 ?_
  rw [tr_bl]
  exact h G2 k2
theorem ft_isv {v : Nat} {p : Addr} {ms : Str → Option Bool} {c : Str} {fs : List (Str × D)} (h : ρ[v]? = some (some (.ref p))) (hp : G p = some (.exn c fs)) (hm : ms c = some false) : FT (dTru (dIsV ms (dVar v))) ρ G := fun G1 k1 Q q => by
  rw [tru_, isV_, var_at h]
  refine isV_g (k1 _ _ hp) hm ?_
  rw [tr_bl]
  exact q G1 .refl
theorem ft_nisv {v : Nat} {p : Addr} {ms : Str → Option Bool} {c : Str} {fs : List (Str × D)} (h : ρ[v]? = some (some (.ref p))) (hp : G p = some (.exn c fs)) (hm : ms c = some true) : FT (dNotT (dTru (dIsV ms (dVar v)))) ρ G := fun G1 k1 Q q => by
  rw [notT_, tru_, isV_, var_at h]
  refine isV_g (k1 _ _ hp) hm ?_
  rw [tr_bl]
  exact q G1 .refl
theorem ft_named {v w : Nat} {a b : D} (ha : ρ[v]? = some (some a)) (hb : ρ[w]? = some (some b)) (pa : Pl 2 a) (pb : Pl 2 b) : FT (dNotT (dTru (dCall sp_named_right (dCons (dVar v) (dCons (dVar w) dNil))))) ρ G := fun G1 k1 Q h => by
  rw [notT_, tru_, call_, cons_, var_at ha, cons_, var_at hb, nil_]
  refine named_right_spec pa pb fun G2 k2 => ?_
  rw [tr_bl]
  exact h G2 k2
end
def resL (a : D) : List D := [.tup [.str "stuck", a], .tup [.str "key"], .tup [.str "base", .bl true], .str "none"]
theorem resL_pl {a : D} (pa : Pl 2 a) : ∀ d ∈ resL a, Pl 3 d := by
  intro d hd
  simp only [resL, List.mem_cons, List.not_mem_nil, or_false] at hd
  have st : ∀ {s : Str}, PyData.strOk s = true → ∀ k, Pl k (.str s) := fun h k => by cases k <;> (rw [Pl]; exact h)
  rcases hd with rfl | rfl | rfl | rfl
  · refine pl_tup.mpr ⟨by simp [sizeLine], fun x hx => ?_⟩
    simp only [List.mem_cons, List.not_mem_nil, or_false] at hx
    rcases hx with rfl | rfl
    · exact st (by decide +kernel) _
    · exact pa
  · refine pl_tup.mpr ⟨by simp [sizeLine], fun x hx => ?_⟩
    simp only [List.mem_cons, List.not_mem_nil, or_false] at hx
    rcases hx with rfl
    exact st (by decide +kernel) _
  · refine pl_tup.mpr ⟨by simp [sizeLine], fun x hx => ?_⟩
    simp only [List.mem_cons, List.not_mem_nil, or_false] at hx
    rcases hx with rfl | rfl
    · exact st (by decide +kernel) _
    · rw [Pl]; trivial
  · exact st (by decide +kernel) _
theorem ft_raised {x0 x1 x2 x4 x5 x6 x7 x8 x9 x10 x11 x12 : Option D} {G : DG} {a : D} (pa : Pl 2 a) :
    FT (dBool (dOp (eqD true) (dLc (diRng1 (dCons (dC (.int 4)) dNil)) (gnD 12) dYes (dCall sp_raised (dCons (dVar 12) (dCons (dVar 3) dNil))) [12]) (dLst (dCons (dTup (dCons (dC (.str "stuck")) (dCons (dVar 3) dNil))) (dCons (dTup (dCons (dC (.str "key")) dNil)) (dCons (dTup (dCons (dC (.str "base")) (dCons (dC (.bl true)) dNil))) (dCons (dC (.str "none")) dNil))))))) [x0, x1, x2, some a, x4, x5, x6, x7, x8, x9, x10, x11, x12] G := fun G1 k1 Q h => by
  rw [bool_, op_, lc_, rng1_, cons_, c_, nil_]
  refine ⟨by decide, ?_⟩
  refine lcGo_inv (fun G' => Keep G1 G') (fun d y => y = (match d with | .int i => resD a i | _ => .non)) (fun _ _ => True.intro) _ _ _ (fun d hd G2 K k2 kk => ?_) .refl (by simp [rngD, sizeLine]) fun ys G2 hp k2 => ?_
  · obtain ⟨j, hj, e⟩ := rng_mem hd
    subst e
    rw [gn_, call_, cons_, var_at (d := .int (0 + (j : Int))) rfl, cons_, var_at (d := a) rfl, nil_]
    have : j < 4 := hj
    exact raised_spec (by omega) (by omega) (kk _ G2 rfl k2)
  · have e : ys = resL a := paired_map hp
    subst e
    rw [List.nil_append]
    refine new_ fun m G3 hm em km => ?_
    rw [lst_, cons_, tup_, cons_, c_, cons_, var_at (d := a) rfl, nil_]
    refine ⟨by simp [sizeLine], ?_⟩
    rw [cons_, tup_, cons_, c_, nil_]
    refine ⟨by simp [sizeLine], ?_⟩
    rw [cons_, tup_, cons_, c_, cons_, c_, nil_]
    refine ⟨by simp [sizeLine], ?_⟩
    rw [cons_, c_, nil_]
    refine ⟨by simp [sizeLine], new_ fun n G4 hn en kn => ?_⟩
    refine eq_pls1 (k := 3) (m := 3) (kn _ _ em) (show G4 n = some (.lst (resL a)) from en) (resL_pl pa) (resL_pl pa) (by decide) (by decide) ?_
    have er : ∀ xs : List D, (∀ d ∈ xs, Pl 3 d) → PyData.eqvAll (toPys xs) (toPys xs) = true := fun xs => by
      induction xs with
      | nil => intro _; rw [toPys, PyData.eqvAll]
      | cons d ds ih =>
        intro hd
        rw [toPys, PyData.eqvAll, (hd d (List.mem_cons_self ..)).refl, ih fun x hx => hd x (List.mem_cons_of_mem _ hx)]; rfl
    rw [er _ (resL_pl pa), kb_]
    exact h G4 (k2.trans (km.trans kn))
end K01

/-! the law -/
namespace K01
open PySem L2 FD
def Good : Nat → List (Str × Str) → Prop
  | _, [] => True
  | n, (c, f) :: r => Kn c = true ∧ nmOf c = [.int (n : Int)] ∧ ms_BuildError c = some true ∧ ms_ValueError c = some true ∧ ms_LookupError c = some false ∧ Good (n + 1) r
theorem good_all : Good 0 (RA ++ RB) := by
  unfold RA RB
  simp only [List.cons_append, List.nil_append]
  refine ⟨rfl, rfl, rfl, rfl, rfl, ⟨rfl, rfl, rfl, rfl, rfl, ⟨rfl, rfl, rfl, rfl, rfl, ⟨rfl, rfl, rfl, rfl, rfl, ⟨rfl, rfl, rfl, rfl, rfl, ⟨rfl, rfl, rfl, rfl, rfl, ⟨rfl, rfl, rfl, rfl, rfl, ⟨rfl, rfl, rfl, rfl, rfl, ⟨rfl, rfl, rfl, rfl, rfl, ⟨rfl, rfl, rfl, rfl, rfl, ⟨rfl, rfl, rfl, rfl, rfl, ⟨rfl, rfl, rfl, rfl, rfl, ⟨rfl, rfl, rfl, rfl, rfl, ⟨rfl, rfl, rfl, rfl, rfl, ⟨rfl, rfl, rfl, rfl, rfl, ⟨rfl, rfl, rfl, rfl, rfl, ⟨rfl, rfl, rfl, rfl, rfl, ⟨rfl, rfl, rfl, rfl, rfl, ⟨rfl, rfl, rfl, rfl, rfl, ⟨rfl, rfl, rfl, rfl, rfl, ⟨rfl, rfl, rfl, rfl, rfl, trivial⟩⟩⟩⟩⟩⟩⟩⟩⟩⟩⟩⟩⟩⟩⟩⟩⟩⟩⟩⟩⟩
theorem law_spec {ns : List Int} {G : DG} {Q : DK} (h : ∀ G', Q (.bl true) G') : sp_law [.fl (ns.map D.int)] G Q := by
  refine ⟨rfl, ?_⟩
  show t_law _ [some (.fl (ns.map D.int)), none, none, none, none, none, none, none, none, none, none, none, none] G
  unfold t_law
  try dsimp only
  rw [seq_]
  try simp only [next_, ret_, drop_, ifs_, br_t, br_f, asg_, gn_, gt_, gtc_, gtn_, par_, var_0, var_s, c_, nil_, cons_, tup_, lst_, op_, bool_, kb_, tru_, tr_bl, andT_, orT_, kn_tt, kn_tf, kn_ff, kn_ft, notT_, and_, kand_t, kand_f, if_, bre_t, bre_f, call_, cb_, neg_, sl_, nopart_, part_, FD.sl_tup, eq_int0, eq_int1, eq_bl0, eq_bl1, beq_self_eq_true, Bool.not_true, Bool.not_false, add_int, add_tup, add_ref, int_, int0_, mul_int, mul_str, ord_int, FD.ix_tup, ix_fl, ix_ref, at_0, at_1, at_2, at_3, len_tup, len_fl, len_ref, max2_, min2_, tuple_tup, tuple_ref, is_, gs_, setL_, ml_, for_, rng1_, any_, lc_, FD.sl_ref, list_tup, dict0_, dn_, sortK_, val_tup, yes_, isLst_, List.set_cons_zero, List.set_cons_succ, or_, kor_t, kor_f, not_, chain_, kch_t, kch_f, ord_str, len_str, ordc_, strc_int, val_str, add_str, sl_strD, match_, cc_, kc_n, kc_s, cn_, wild_]
  refine ⟨by constructor <;> split <;> split <;> omega, ?_⟩
  refine forGo_inv (fun ds ρ _ => (∃ o1 o2 o3 o4 o5 o6 o7 o8 o9 o10 o11 o12, ρ = [some (.fl (ns.map D.int)), o1, o2, o3, o4, o5, o6, o7, o8, o9, o10, o11, o12]) ∧ ∀ d ∈ ds, ∃ i : Int, 0 ≤ i ∧ i ≤ 1000 ∧ d = .int i) (fun _ _ _ _ => True.intro) ?_ ?_ _ _ _ ⟨⟨none, none, none, none, none, none, none, none, none, none, none, none, rfl⟩, fun d hd => ?_⟩
  · rintro d ds _ G0 X ⟨⟨o1, o2, o3, o4, o5, o6, o7, o8, o9, o10, o11, o12, rfl⟩, hds⟩ kx
    obtain ⟨i, i0, i1, rfl⟩ := hds d (List.mem_cons_self ..)
    have kx' : ∀ G' o1 o2 o3 o4 o5 o6 o7 o8 o9 o10 o11 o12, X [some (.fl (ns.map D.int)), o1, o2, o3, o4, o5, o6, o7, o8, o9, o10, o11, o12] G' := fun G' o1 o2 o3 o4 o5 o6 o7 o8 o9 o10 o11 o12 => kx _ G' ⟨⟨o1, o2, o3, o4, o5, o6, o7, o8, o9, o10, o11, o12, rfl⟩, fun d hd => hds d (List.mem_cons_of_mem _ hd)⟩
    clear kx hds
    rw [gn_]
    try dsimp only
    try simp only [List.set_cons_zero, List.set_cons_succ]
    rw [seq_, asg_, call_, cons_, var_at (d := .fl (ns.map D.int)) rfl, cons_, var_at (d := .int i) rfl, nil_]
    refine feed_spec i0 i1 fun f G1 hf F1 k1 => ?_
    rw [gn_]
    try dsimp only
    try simp only [List.set_cons_zero, List.set_cons_succ]
    rw [seq_, asg_, tup_, cons_, call_, cons_, var_at (d := .ref f) rfl, nil_]
    refine any_value_spec F1 fun a G2 pa F2 x2 => ?_
    rw [cons_, call_, cons_, var_at (d := .ref f) rfl, nil_]
    refine any_value_spec F2 fun b G3 pb F3 x3 => ?_
    rw [nil_]
    refine ⟨by simp [sizeLine], ?_⟩
    rw [gt_]
    refine ⟨rfl, ?_⟩
    rw [gtc_, gn_, gtc_, gn_, gtn_]
    try dsimp only
    try simp only [List.set_cons_zero, List.set_cons_succ]
    rw [seq_, asg_, op_, call_, cons_, var_at (d := a) rfl, nil_]
    refine with_places_spec fun m xs G4 hm em Mm km => ?_
    rw [call_, cons_, var_at (d := a) rfl, nil_]
    refine with_others_spec fun m' ys G5 hm' em' Mm' km' => ?_
    rw [add_ref]
    refine ⟨_, km' _ _ em, _, em', ?_, new_ fun l G6 hl el kl => ?_⟩
    · rw [Mm.len, Mm'.len]; decide
    have Ml := ((Mm.keep km').app Mm').keep kl
    rw [gn_]
    try dsimp only
    try simp only [List.set_cons_zero, List.set_cons_succ]
    rw [seq_, for_]
    refine (?_ : diEnum (dCons (dVar 5) dNil) _ G6 _)
    unfold diEnum
    rw [cons_, var_at (d := .ref l) rfl, nil_]
    refine ⟨_, el, ?_⟩
    dsimp only
    refine forGo_inv (fun ds ρ G' => (∃ o6 o7 o8, ρ = [some (.fl (ns.map D.int)), some (.int i), some (.ref f), some a, some b, some (.ref l), o6, o7, o8, o9, o10, o11, o12]) ∧ Keep G6 G' ∧ ∃ n r ys, ds = enumD n ys ∧ Made G' a r ys ∧ Good n r) (fun _ _ _ q => q.2.1 _ _ el) ?_ ?_ _ _ _ ⟨⟨_, _, _, rfl⟩, .refl, 0, _, _, rfl, Ml, good_all⟩
    · rintro d ds _ G7 Y ⟨⟨p6, p7, p8, rfl⟩, k7, n, r, zs, e, M7, gd⟩ ky
      match r, zs, M7, gd, e with
      | [], zs, M7, gd, e =>
        rw [Made] at M7
        subst M7
        cases e
      | (c, fl) :: r, zs, M7, gd, e =>
        obtain ⟨p, ws, rfl, hp, M8⟩ := M7
        obtain ⟨g1, g2, g3, g4, g5, g6⟩ := gd
        have e' := (List.cons.inj e).1
        have e'' := (List.cons.inj e).2
        subst e' e''
        rw [gt_]
        refine ⟨rfl, ?_⟩
        rw [gtc_, gn_, gtc_, gt_]
        refine ⟨rfl, ?_⟩
        rw [gtc_, gn_, gtc_, gn_, gtn_, gtn_]
        refine FT.if (.or (ft_same (d := a) (vt_var rfl) (vt_var rfl) pa) (.or (ft_names (et_var rfl hp) (vt_var rfl) g1 g2) (ft_caught (et_var rfl hp) g3 g4 g5))) fun G8 k8 => ?_
        exact ky _ _ ⟨⟨_, _, _, rfl⟩, k7.trans k8, n + 1, r, ws, rfl, M8.keep k8, g6⟩
    · rintro _ G7 ⟨⟨p6, p7, p8, rfl⟩, k7, _⟩
      try dsimp only
      rw [seq_]
      refine FT.if (ft_named (a := a) (b := b) rfl rfl pa pb) fun G8 k8 => ?_
      try dsimp only
      rw [seq_, asg_, exn2_, var_at (d := a) rfl, var_at (d := b) rfl]
      refine exn2_g fun p G9 hp e9 k9 => ?_
      rw [gn_]
      try dsimp only
      try simp only [List.set_cons_zero, List.set_cons_succ]
      rw [seq_]
      refine FT.if (.or (ft_same2 (vt_xv rfl e9 (by decide) rfl) (vt_xv rfl e9 (by decide) rfl) (vt_var rfl) (vt_var rfl) pa pb) (.or (ft_names (et_var rfl e9) vt_c rfl rfl) (ft_caught (et_var rfl e9) rfl rfl rfl))) fun G10 k10 => ?_
      try dsimp only
      rw [seq_]
      refine FT.if (.or (ft_caught et_0 rfl rfl rfl) (.or (ft_caught et_0 rfl rfl rfl) (ft_names et_0 vt_c rfl rfl))) fun G11 k11 => ?_
      try dsimp only
      rw [seq_]
      refine (?_ : dPar 10 11 _ _ _ _)
      try simp only [next_, ret_, drop_, ifs_, br_t, br_f, asg_, gn_, gt_, gtc_, gtn_, par_, var_0, var_s, c_, nil_, cons_, tup_, lst_, op_, bool_, kb_, tru_, tr_bl, andT_, orT_, kn_tt, kn_tf, kn_ff, kn_ft, notT_, and_, kand_t, kand_f, if_, bre_t, bre_f, call_, cb_, neg_, sl_, nopart_, part_, FD.sl_tup, eq_int0, eq_int1, eq_bl0, eq_bl1, beq_self_eq_true, Bool.not_true, Bool.not_false, add_int, add_tup, add_ref, int_, int0_, mul_int, mul_str, ord_int, FD.ix_tup, ix_fl, ix_ref, at_0, at_1, at_2, at_3, len_tup, len_fl, len_ref, max2_, min2_, tuple_tup, tuple_ref, is_, gs_, setL_, ml_, for_, rng1_, any_, lc_, FD.sl_ref, list_tup, dict0_, dn_, sortK_, val_tup, yes_, isLst_, List.set_cons_zero, List.set_cons_succ, or_, kor_t, kor_f, not_, chain_, kch_t, kch_f, ord_str, len_str, ordc_, strc_int, val_str, add_str, sl_strD, match_, cc_, kc_n, kc_s, cn_, wild_, exn_]
      refine exn_g fun q G12 hq e12 k12 => ?_
      refine exn_g fun v G13 hv e13 k13 => ?_
      try dsimp only
      try simp only [next_, ret_, drop_, ifs_, br_t, br_f, asg_, gn_, gt_, gtc_, gtn_, par_, var_0, var_s, c_, nil_, cons_, tup_, lst_, op_, bool_, kb_, tru_, tr_bl, andT_, orT_, kn_tt, kn_tf, kn_ff, kn_ft, notT_, and_, kand_t, kand_f, if_, bre_t, bre_f, call_, cb_, neg_, sl_, nopart_, part_, FD.sl_tup, eq_int0, eq_int1, eq_bl0, eq_bl1, beq_self_eq_true, Bool.not_true, Bool.not_false, add_int, add_tup, add_ref, int_, int0_, mul_int, mul_str, ord_int, FD.ix_tup, ix_fl, ix_ref, at_0, at_1, at_2, at_3, len_tup, len_fl, len_ref, max2_, min2_, tuple_tup, tuple_ref, is_, gs_, setL_, ml_, for_, rng1_, any_, lc_, FD.sl_ref, list_tup, dict0_, dn_, sortK_, val_tup, yes_, isLst_, List.set_cons_zero, List.set_cons_succ, or_, kor_t, kor_f, not_, chain_, kch_t, kch_f, ord_str, len_str, ordc_, strc_int, val_str, add_str, sl_strD, match_, cc_, kc_n, kc_s, cn_, wild_]
      have e12' := k13 _ _ e12
      try dsimp only
      rw [seq_]
      refine FT.if (.or (ft_nisv rfl e12' rfl) (.or (ft_nisv rfl e13 rfl) (ft_isv rfl e13 rfl))) fun G14 k14 => ?_
      have e12'' := k14 _ _ e12'
      have e13' := k14 _ _ e13
      try dsimp only
      rw [seq_]
      refine FT.if (.or (ft_same2 (vt_xv rfl e12'' (by decide) rfl) (vt_xv rfl e13' (by decide) rfl) (vt_var rfl) (vt_var rfl) pa pb) (ft_isv rfl e12'' rfl)) fun G15 k15 => ?_
      try dsimp only
      rw [seq_]
      refine FT.if (.or (ft_names (et_var rfl (k15 _ _ e12'')) vt_c rfl rfl) (.or (ft_names (et_var rfl (k15 _ _ e13')) vt_c rfl rfl) (ft_names et_0 vt_c rfl rfl))) fun G16 k16 => ?_
      refine FT.if (ft_raised pa) fun G17 k17 => ?_
      exact kx' _ _ _ _ _ _ _ _ _ _ _ _ _
  · rintro _ G1 ⟨⟨o1, o2, o3, o4, o5, o6, o7, o8, o9, o10, o11, o12, rfl⟩, _⟩
    try simp only [seq_, next_, ret_, drop_, ifs_, br_t, br_f, asg_, gn_, gt_, gtc_, gtn_, par_, var_0, var_s, c_, nil_, cons_, tup_, lst_, op_, bool_, kb_, tru_, tr_bl, andT_, orT_, kn_tt, kn_tf, kn_ff, kn_ft, notT_, and_, kand_t, kand_f, if_, bre_t, bre_f, call_, cb_, neg_, sl_, nopart_, part_, FD.sl_tup, eq_int0, eq_int1, eq_bl0, eq_bl1, beq_self_eq_true, Bool.not_true, Bool.not_false, add_int, add_tup, add_ref, int_, int0_, mul_int, mul_str, ord_int, FD.ix_tup, ix_fl, ix_ref, at_0, at_1, at_2, at_3, len_tup, len_fl, len_ref, max2_, min2_, tuple_tup, tuple_ref, is_, gs_, setL_, ml_, for_, rng1_, any_, lc_, FD.sl_ref, list_tup, dict0_, dn_, sortK_, val_tup, yes_, isLst_, List.set_cons_zero, List.set_cons_succ, or_, kor_t, kor_f, not_, chain_, kch_t, kch_f, ord_str, len_str, ordc_, strc_int, val_str, add_str, sl_strD, match_, cc_, kc_n, kc_s, cn_, wild_]
    exact h _
  · obtain ⟨j, hj, e⟩ := rng_mem hd
    refine ⟨_, ?_, ?_, e⟩
    · omega
    · revert hj
      split <;> split <;> omega
end K01

/-! the defs keep their readings, printed by gen.py -/
namespace K01
open PySem PySem.Spec PyProof.Rows L2 FD

def top (i : Nat) : Stmt := PySem.Challenge.pw_farenough_k01_errors_and_their_values.main.body.getD i (.Pass ⟨0, 0, 0, 0⟩)
abbrev s_feed_of : Stmt := top 29
abbrev s_draw : Stmt := top 30
abbrev s_pick : Stmt := top 31
abbrev s_calls : Stmt := top 32
abbrev s_some_text : Stmt := top 33
abbrev s_any_value : Stmt := top 35
abbrev s_with_places : Stmt := top 36
abbrev s_with_others : Stmt := top 37
abbrev s_same : Stmt := top 34
abbrev s_names_of : Stmt := top 38
abbrev s_caught : Stmt := top 39
abbrev s_named_right : Stmt := top 41
abbrev s_raised : Stmt := top 40
abbrev s_law : Stmt := top 42
/-- the built-ins are still the built-ins -/
structure Bl (P : Program) (K : PySem.W.Frag) (mg : Str → Option Value) (c_BadEntry c_BadKind c_BadLine c_BadName c_BadTree c_BuildError c_Clash c_Conflict c_Failed c_Gap c_Halted c_Mismatch c_NoPlace c_NoRow c_NoTarget c_NoVersion c_NotAsked c_NotCause c_NotFresh c_NotNeeded c_NotOpen c_NotPart c_NotSettled c_NotSource c_Rewritten c_Stuck c_Taken i_BadEntry i_BadKind i_BadLine i_BadName i_BadTree i_Clash i_Conflict i_Failed i_Gap i_Halted i_Mismatch i_NoPlace i_NoRow i_NoTarget i_NoVersion i_NotAsked i_NotCause i_NotFresh i_NotNeeded i_NotOpen i_NotPart i_NotSettled i_NotSource i_Rewritten i_Stuck i_Taken : Addr) : Prop where
  IndexError' : mg "IndexError" = none
  KeyError' : mg "KeyError" = none
  LookupError' : mg "LookupError" = none
  ValueError' : mg "ValueError" = none
  all' : mg "all" = none
  bool' : mg "bool" = none
  enumerate' : mg "enumerate" = none
  int' : mg "int" = none
  isinstance' : mg "isinstance" = none
  len' : mg "len" = none
  list' : mg "list" = none
  max' : mg "max" = none
  min' : mg "min" = none
  range' : mg "range" = none
  str' : mg "str" = none
  super' : mg "super" = none
  tuple' : mg "tuple" = none
  zip' : mg "zip" = none
  g_BadEntry : mg "BadEntry" = some (.ref c_BadEntry)
  n_BadEntry : ClsAt K "BadEntry" c_BadEntry
  g_BadKind : mg "BadKind" = some (.ref c_BadKind)
  n_BadKind : ClsAt K "BadKind" c_BadKind
  g_BadLine : mg "BadLine" = some (.ref c_BadLine)
  n_BadLine : ClsAt K "BadLine" c_BadLine
  g_BadName : mg "BadName" = some (.ref c_BadName)
  n_BadName : ClsAt K "BadName" c_BadName
  g_BadTree : mg "BadTree" = some (.ref c_BadTree)
  n_BadTree : ClsAt K "BadTree" c_BadTree
  g_BuildError : mg "BuildError" = some (.ref c_BuildError)
  n_BuildError : ClsAt K "BuildError" c_BuildError
  g_Clash : mg "Clash" = some (.ref c_Clash)
  n_Clash : ClsAt K "Clash" c_Clash
  g_Conflict : mg "Conflict" = some (.ref c_Conflict)
  n_Conflict : ClsAt K "Conflict" c_Conflict
  g_Failed : mg "Failed" = some (.ref c_Failed)
  n_Failed : ClsAt K "Failed" c_Failed
  g_Gap : mg "Gap" = some (.ref c_Gap)
  n_Gap : ClsAt K "Gap" c_Gap
  g_Halted : mg "Halted" = some (.ref c_Halted)
  n_Halted : ClsAt K "Halted" c_Halted
  g_Mismatch : mg "Mismatch" = some (.ref c_Mismatch)
  n_Mismatch : ClsAt K "Mismatch" c_Mismatch
  g_NoPlace : mg "NoPlace" = some (.ref c_NoPlace)
  n_NoPlace : ClsAt K "NoPlace" c_NoPlace
  g_NoRow : mg "NoRow" = some (.ref c_NoRow)
  n_NoRow : ClsAt K "NoRow" c_NoRow
  g_NoTarget : mg "NoTarget" = some (.ref c_NoTarget)
  n_NoTarget : ClsAt K "NoTarget" c_NoTarget
  g_NoVersion : mg "NoVersion" = some (.ref c_NoVersion)
  n_NoVersion : ClsAt K "NoVersion" c_NoVersion
  g_NotAsked : mg "NotAsked" = some (.ref c_NotAsked)
  n_NotAsked : ClsAt K "NotAsked" c_NotAsked
  g_NotCause : mg "NotCause" = some (.ref c_NotCause)
  n_NotCause : ClsAt K "NotCause" c_NotCause
  g_NotFresh : mg "NotFresh" = some (.ref c_NotFresh)
  n_NotFresh : ClsAt K "NotFresh" c_NotFresh
  g_NotNeeded : mg "NotNeeded" = some (.ref c_NotNeeded)
  n_NotNeeded : ClsAt K "NotNeeded" c_NotNeeded
  g_NotOpen : mg "NotOpen" = some (.ref c_NotOpen)
  n_NotOpen : ClsAt K "NotOpen" c_NotOpen
  g_NotPart : mg "NotPart" = some (.ref c_NotPart)
  n_NotPart : ClsAt K "NotPart" c_NotPart
  g_NotSettled : mg "NotSettled" = some (.ref c_NotSettled)
  n_NotSettled : ClsAt K "NotSettled" c_NotSettled
  g_NotSource : mg "NotSource" = some (.ref c_NotSource)
  n_NotSource : ClsAt K "NotSource" c_NotSource
  g_Rewritten : mg "Rewritten" = some (.ref c_Rewritten)
  n_Rewritten : ClsAt K "Rewritten" c_Rewritten
  g_Stuck : mg "Stuck" = some (.ref c_Stuck)
  n_Stuck : ClsAt K "Stuck" c_Stuck
  g_Taken : mg "Taken" = some (.ref c_Taken)
  n_Taken : ClsAt K "Taken" c_Taken
  x_BadEntry : XCls K P c_BadEntry i_BadEntry "entry" "entry"
  x_BadKind : XCls K P c_BadKind i_BadKind "line" "line"
  x_BadLine : XCls K P c_BadLine i_BadLine "line" "line"
  x_BadTree : XCls K P c_BadTree i_BadTree "path" "path"
  x_Clash : XCls K P c_Clash i_Clash "spot" "spot"
  x_Conflict : XCls K P c_Conflict i_Conflict "conflicts" "conflicts"
  x_Failed : XCls K P c_Failed i_Failed "path" "path"
  x_Gap : XCls K P c_Gap i_Gap "spot" "spot"
  x_Mismatch : XCls K P c_Mismatch i_Mismatch "name" "name"
  x_NoPlace : XCls K P c_NoPlace i_NoPlace "spot" "spot"
  x_NoTarget : XCls K P c_NoTarget i_NoTarget "name" "name"
  x_NoVersion : XClsI K P c_NoVersion i_NoVersion "number" "number"
  x_NotAsked : XClsK K P c_NotAsked i_NotAsked "key" "key"
  x_NotCause : XCls K P c_NotCause i_NotCause "cause" "cause"
  x_NotFresh : XCls K P c_NotFresh i_NotFresh "words" "words"
  x_NotNeeded : XCls K P c_NotNeeded i_NotNeeded "spot" "spot"
  x_NotOpen : XCls K P c_NotOpen i_NotOpen "key" "key"
  x_NotPart : XCls K P c_NotPart i_NotPart "spot" "spot"
  x_NotSettled : XCls K P c_NotSettled i_NotSettled "key" "key"
  x_NotSource : XCls K P c_NotSource i_NotSource "name" "name"
  x_Rewritten : XCls K P c_Rewritten i_Rewritten "spot" "spot"
  x_Stuck : XCls K P c_Stuck i_Stuck "ring" "ring"
  x_Taken : XCls K P c_Taken i_Taken "name" "name"
  x_Halted : XCls0 K P c_Halted i_Halted
  x_NoRow : XCls0 K P c_NoRow i_NoRow
  xw_BadEntry : XClsW K P c_BadEntry i_BadEntry "entry" "entry"
  xw_BadLine : XClsW K P c_BadLine i_BadLine "line" "line"
  xw_BadTree : XClsW K P c_BadTree i_BadTree "path" "path"
  xw_Clash : XClsW K P c_Clash i_Clash "spot" "spot"
  xw_Conflict : XClsW K P c_Conflict i_Conflict "conflicts" "conflicts"
  xw_NoVersion : XClsWI K P c_NoVersion i_NoVersion "number" "number"
  xw_NotAsked : XClsWK K P c_NotAsked i_NotAsked "key" "key"
  xw_Stuck : XClsW K P c_Stuck i_Stuck "ring" "ring"
  x2_BadName : XCls2 K P c_BadName i_BadName "line" "name" "line" "name"
  xw2_BadName : XCls2W K P c_BadName i_BadName "line" "name" "line" "name"
  exb_KeyError : ∀ c b, ms_KeyError c = some b → ∀ C, ClsAt K c C → PySem.W.exmOne K (.ref C) (.type "KeyError") = some b
  kb_IndexError : ∀ c b, ms_IndexError c = some b → ∀ C, ClsAt K c C → ExcC K C ∧ PySem.W.kitOne K (.ref C) (.type "IndexError") = some b
  kb_KeyError : ∀ c b, ms_KeyError c = some b → ∀ C, ClsAt K c C → ExcC K C ∧ PySem.W.kitOne K (.ref C) (.type "KeyError") = some b
  kb_LookupError : ∀ c b, ms_LookupError c = some b → ∀ C, ClsAt K c C → ExcC K C ∧ PySem.W.kitOne K (.ref C) (.type "LookupError") = some b
  kb_ValueError : ∀ c b, ms_ValueError c = some b → ∀ C, ClsAt K c C → ExcC K C ∧ PySem.W.kitOne K (.ref C) (.type "ValueError") = some b
  ex_BuildError : ∀ c b, ms_BuildError c = some b → ∀ C, ClsAt K c C → PySem.W.exmOne K (.ref C) (.ref c_BuildError) = some b
  ex_Stuck : ∀ c b, ms_Stuck c = some b → ∀ C, ClsAt K c C → PySem.W.exmOne K (.ref C) (.ref c_Stuck) = some b
  ki_BadEntry : ∀ c b, ms_BadEntry c = some b → ∀ C, ClsAt K c C → ExcC K C ∧ PySem.W.kitOne K (.ref C) (.ref c_BadEntry) = some b
  ki_BadKind : ∀ c b, ms_BadKind c = some b → ∀ C, ClsAt K c C → ExcC K C ∧ PySem.W.kitOne K (.ref C) (.ref c_BadKind) = some b
  ki_BadLine : ∀ c b, ms_BadLine c = some b → ∀ C, ClsAt K c C → ExcC K C ∧ PySem.W.kitOne K (.ref C) (.ref c_BadLine) = some b
  ki_BadName : ∀ c b, ms_BadName c = some b → ∀ C, ClsAt K c C → ExcC K C ∧ PySem.W.kitOne K (.ref C) (.ref c_BadName) = some b
  ki_BadTree : ∀ c b, ms_BadTree c = some b → ∀ C, ClsAt K c C → ExcC K C ∧ PySem.W.kitOne K (.ref C) (.ref c_BadTree) = some b
  ki_BuildError : ∀ c b, ms_BuildError c = some b → ∀ C, ClsAt K c C → ExcC K C ∧ PySem.W.kitOne K (.ref C) (.ref c_BuildError) = some b
  ki_Clash : ∀ c b, ms_Clash c = some b → ∀ C, ClsAt K c C → ExcC K C ∧ PySem.W.kitOne K (.ref C) (.ref c_Clash) = some b
  ki_Conflict : ∀ c b, ms_Conflict c = some b → ∀ C, ClsAt K c C → ExcC K C ∧ PySem.W.kitOne K (.ref C) (.ref c_Conflict) = some b
  ki_Failed : ∀ c b, ms_Failed c = some b → ∀ C, ClsAt K c C → ExcC K C ∧ PySem.W.kitOne K (.ref C) (.ref c_Failed) = some b
  ki_Gap : ∀ c b, ms_Gap c = some b → ∀ C, ClsAt K c C → ExcC K C ∧ PySem.W.kitOne K (.ref C) (.ref c_Gap) = some b
  ki_Halted : ∀ c b, ms_Halted c = some b → ∀ C, ClsAt K c C → ExcC K C ∧ PySem.W.kitOne K (.ref C) (.ref c_Halted) = some b
  ki_Mismatch : ∀ c b, ms_Mismatch c = some b → ∀ C, ClsAt K c C → ExcC K C ∧ PySem.W.kitOne K (.ref C) (.ref c_Mismatch) = some b
  ki_NoPlace : ∀ c b, ms_NoPlace c = some b → ∀ C, ClsAt K c C → ExcC K C ∧ PySem.W.kitOne K (.ref C) (.ref c_NoPlace) = some b
  ki_NoRow : ∀ c b, ms_NoRow c = some b → ∀ C, ClsAt K c C → ExcC K C ∧ PySem.W.kitOne K (.ref C) (.ref c_NoRow) = some b
  ki_NoTarget : ∀ c b, ms_NoTarget c = some b → ∀ C, ClsAt K c C → ExcC K C ∧ PySem.W.kitOne K (.ref C) (.ref c_NoTarget) = some b
  ki_NoVersion : ∀ c b, ms_NoVersion c = some b → ∀ C, ClsAt K c C → ExcC K C ∧ PySem.W.kitOne K (.ref C) (.ref c_NoVersion) = some b
  ki_NotAsked : ∀ c b, ms_NotAsked c = some b → ∀ C, ClsAt K c C → ExcC K C ∧ PySem.W.kitOne K (.ref C) (.ref c_NotAsked) = some b
  ki_NotCause : ∀ c b, ms_NotCause c = some b → ∀ C, ClsAt K c C → ExcC K C ∧ PySem.W.kitOne K (.ref C) (.ref c_NotCause) = some b
  ki_NotFresh : ∀ c b, ms_NotFresh c = some b → ∀ C, ClsAt K c C → ExcC K C ∧ PySem.W.kitOne K (.ref C) (.ref c_NotFresh) = some b
  ki_NotNeeded : ∀ c b, ms_NotNeeded c = some b → ∀ C, ClsAt K c C → ExcC K C ∧ PySem.W.kitOne K (.ref C) (.ref c_NotNeeded) = some b
  ki_NotOpen : ∀ c b, ms_NotOpen c = some b → ∀ C, ClsAt K c C → ExcC K C ∧ PySem.W.kitOne K (.ref C) (.ref c_NotOpen) = some b
  ki_NotPart : ∀ c b, ms_NotPart c = some b → ∀ C, ClsAt K c C → ExcC K C ∧ PySem.W.kitOne K (.ref C) (.ref c_NotPart) = some b
  ki_NotSettled : ∀ c b, ms_NotSettled c = some b → ∀ C, ClsAt K c C → ExcC K C ∧ PySem.W.kitOne K (.ref C) (.ref c_NotSettled) = some b
  ki_NotSource : ∀ c b, ms_NotSource c = some b → ∀ C, ClsAt K c C → ExcC K C ∧ PySem.W.kitOne K (.ref C) (.ref c_NotSource) = some b
  ki_Rewritten : ∀ c b, ms_Rewritten c = some b → ∀ C, ClsAt K c C → ExcC K C ∧ PySem.W.kitOne K (.ref C) (.ref c_Rewritten) = some b
  ki_Stuck : ∀ c b, ms_Stuck c = some b → ∀ C, ClsAt K c C → ExcC K C ∧ PySem.W.kitOne K (.ref C) (.ref c_Stuck) = some b
  ki_Taken : ∀ c b, ms_Taken c = some b → ∀ C, ClsAt K c C → ExcC K C ∧ PySem.W.kitOne K (.ref C) (.ref c_Taken) = some b
  xf_cause : ∀ c ∈ (["NotCause"] : List Str), ∀ C, ClsAt K c C → XfC K C ∧ PySem.W.findIn K (.ref C) "cause" = some none
  xf_conflicts : ∀ c ∈ (["Conflict"] : List Str), ∀ C, ClsAt K c C → XfC K C ∧ PySem.W.findIn K (.ref C) "conflicts" = some none
  xf_entry : ∀ c ∈ (["BadEntry"] : List Str), ∀ C, ClsAt K c C → XfC K C ∧ PySem.W.findIn K (.ref C) "entry" = some none
  xf_key : ∀ c ∈ (["NotSettled", "NotOpen", "NotAsked"] : List Str), ∀ C, ClsAt K c C → XfC K C ∧ PySem.W.findIn K (.ref C) "key" = some none
  xf_line : ∀ c ∈ (["BadLine", "BadKind", "BadName"] : List Str), ∀ C, ClsAt K c C → XfC K C ∧ PySem.W.findIn K (.ref C) "line" = some none
  xf_name : ∀ c ∈ (["NoTarget", "NotSource", "Mismatch", "Taken", "BadName"] : List Str), ∀ C, ClsAt K c C → XfC K C ∧ PySem.W.findIn K (.ref C) "name" = some none
  xf_number : ∀ c ∈ (["NoVersion"] : List Str), ∀ C, ClsAt K c C → XfC K C ∧ PySem.W.findIn K (.ref C) "number" = some none
  xf_path : ∀ c ∈ (["BadTree", "Failed"] : List Str), ∀ C, ClsAt K c C → XfC K C ∧ PySem.W.findIn K (.ref C) "path" = some none
  xf_ring : ∀ c ∈ (["Stuck"] : List Str), ∀ C, ClsAt K c C → XfC K C ∧ PySem.W.findIn K (.ref C) "ring" = some none
  xf_spot : ∀ c ∈ (["Clash", "Gap", "Rewritten", "NoPlace", "NotNeeded", "NotPart"] : List Str), ∀ C, ClsAt K c C → XfC K C ∧ PySem.W.findIn K (.ref C) "spot" = some none
  xf_words : ∀ c ∈ (["NotFresh"] : List Str), ∀ C, ClsAt K c C → XfC K C ∧ PySem.W.findIn K (.ref C) "words" = some none
section
variable {P : Program} {w : World} {K : PySem.W.Frag} {mg : Str → Option Value} {base : Heap} {c_BadEntry c_BadKind c_BadLine c_BadName c_BadTree c_BuildError c_Clash c_Conflict c_Failed c_Gap c_Halted c_Mismatch c_NoPlace c_NoRow c_NoTarget c_NoVersion c_NotAsked c_NotCause c_NotFresh c_NotNeeded c_NotOpen c_NotPart c_NotSettled c_NotSource c_Rewritten c_Stuck c_Taken i_BadEntry i_BadKind i_BadLine i_BadName i_BadTree i_Clash i_Conflict i_Failed i_Gap i_Halted i_Mismatch i_NoPlace i_NoRow i_NoTarget i_NoVersion i_NotAsked i_NotCause i_NotFresh i_NotNeeded i_NotOpen i_NotPart i_NotSettled i_NotSource i_Rewritten i_Stuck i_Taken : Addr}
theorem sc_feed_of : FnScope N_feed_of ["_law_script", "_law_k"] (defScope s_feed_of) := ⟨rfl, rfl, rfl, by decide +kernel, rfl, by decide +kernel, by decide +kernel⟩
theorem ok_feed_of (T : Bl P K mg c_BadEntry c_BadKind c_BadLine c_BadName c_BadTree c_BuildError c_Clash c_Conflict c_Failed c_Gap c_Halted c_Mismatch c_NoPlace c_NoRow c_NoTarget c_NoVersion c_NotAsked c_NotCause c_NotFresh c_NotNeeded c_NotOpen c_NotPart c_NotSettled c_NotSource c_Rewritten c_Stuck c_Taken i_BadEntry i_BadKind i_BadLine i_BadName i_BadTree i_Clash i_Conflict i_Failed i_Gap i_Halted i_Mismatch i_NoPlace i_NoRow i_NoTarget i_NoVersion i_NotAsked i_NotCause i_NotFresh i_NotNeeded i_NotOpen i_NotPart i_NotSettled i_NotSource i_Rewritten i_Stuck i_Taken) {f_feed_of : Addr} {fd_feed_of : FuncData} (F_feed_of : FunOn K mg "_law_feed_of" s_feed_of ["_law_script", "_law_k"] f_feed_of fd_feed_of) : FnOk P w K mg base CX0 1 f_feed_of fd_feed_of ["_law_script", "_law_k"] (lift (Bs.no P w K) sp_feed_of) := by
  refine fn_ok (t := t_feed_of) (k := 0) F_feed_of.F sc_feed_of fun cdv A outer s H E hr => ?_
  exact (pds_cons (pds_set 2 sc_feed_of.nd (pd_add (pd_mul pd_int (pd_var 1)) pd_int))
    (pds_cons (pds_if (pdt_lt (pd_var 1) (pd_len (by rfl) T.len' (pda_cons (pd_var 0) pda_nil))) (pds_one (pds_set 2 sc_feed_of.nd (pd_ix (pd_var 0) (pd_var 1)))) pds_nil)
    (pds_cons (pds_if (pdt_lt (pd_var 2) pd_int) (pds_one (pds_set 2 sc_feed_of.nd (pd_sub pd_int (pd_mul pd_int (pd_var 2))))) pds_nil)
    (pds_cons (pds_set 3 sc_feed_of.nd (pd_if (pdt_ge (pd_var 2) (pd_pow pd_int pd_int)) (pd_var 2) pd_int))
    (pds_one (pds_ret (pd_lst (pda_cons (pd_var 3) (pda_cons (pd_add (pd_add (pd_mod (pd_var 2) pd_int) (pd_mul pd_int (pd_var 1))) pd_int) pda_nil)))))))))
theorem sc_draw : FnScope N_draw ["_law_feed", "_law_many"] (defScope s_draw) := ⟨rfl, rfl, rfl, by decide +kernel, rfl, by decide +kernel, by decide +kernel⟩
theorem ok_draw (T : Bl P K mg c_BadEntry c_BadKind c_BadLine c_BadName c_BadTree c_BuildError c_Clash c_Conflict c_Failed c_Gap c_Halted c_Mismatch c_NoPlace c_NoRow c_NoTarget c_NoVersion c_NotAsked c_NotCause c_NotFresh c_NotNeeded c_NotOpen c_NotPart c_NotSettled c_NotSource c_Rewritten c_Stuck c_Taken i_BadEntry i_BadKind i_BadLine i_BadName i_BadTree i_Clash i_Conflict i_Failed i_Gap i_Halted i_Mismatch i_NoPlace i_NoRow i_NoTarget i_NoVersion i_NotAsked i_NotCause i_NotFresh i_NotNeeded i_NotOpen i_NotPart i_NotSettled i_NotSource i_Rewritten i_Stuck i_Taken) {f_draw : Addr} {fd_draw : FuncData} (F_draw : FunOn K mg "_law_draw" s_draw ["_law_feed", "_law_many"] f_draw fd_draw) : FnOk P w K mg base CX0 1 f_draw fd_draw ["_law_feed", "_law_many"] (lift (Bs.no P w K) sp_draw) := by
  refine fn_ok (t := t_draw) (k := 0) F_draw.F sc_draw fun cdv A outer s H E hr => ?_
  exact (pds_cons (pds_if (pdt_gt (pd_ix (pd_var 0) pd_int) pd_int) (pds_cons (pds_set 2 sc_draw.nd (pd_mod (pd_ix (pd_var 0) pd_int) (pd_var 1)))
    (pds_cons (pds_asg (pd_fdiv (pd_ix (pd_var 0) pd_int) (pd_var 1)) (pdg_subL (pd_var 0) pd_int))
    (pds_one (pds_ret (pd_var 2))))) pds_nil)
    (pds_cons (pds_asg (pd_mod (pd_add (pd_mul (pd_ix (pd_var 0) pd_int) pd_int) pd_int) pd_int) (pdg_subL (pd_var 0) pd_int))
    (pds_one (pds_ret (pd_mod (pd_fdiv (pd_ix (pd_var 0) pd_int) pd_int) (pd_var 1))))))
theorem sc_pick : FnScope N_pick ["_law_feed", "_law_items"] (defScope s_pick) := ⟨rfl, rfl, rfl, by decide +kernel, rfl, by decide +kernel, by decide +kernel⟩
theorem ok_pick (T : Bl P K mg c_BadEntry c_BadKind c_BadLine c_BadName c_BadTree c_BuildError c_Clash c_Conflict c_Failed c_Gap c_Halted c_Mismatch c_NoPlace c_NoRow c_NoTarget c_NoVersion c_NotAsked c_NotCause c_NotFresh c_NotNeeded c_NotOpen c_NotPart c_NotSettled c_NotSource c_Rewritten c_Stuck c_Taken i_BadEntry i_BadKind i_BadLine i_BadName i_BadTree i_Clash i_Conflict i_Failed i_Gap i_Halted i_Mismatch i_NoPlace i_NoRow i_NoTarget i_NoVersion i_NotAsked i_NotCause i_NotFresh i_NotNeeded i_NotOpen i_NotPart i_NotSettled i_NotSource i_Rewritten i_Stuck i_Taken) {f_pick : Addr} {fd_pick : FuncData} (F_pick : FunOn K mg "_law_pick" s_pick ["_law_feed", "_law_items"] f_pick fd_pick)
    {f_draw : Addr} {fd_draw : FuncData} (F_draw : FunOn K mg "_law_draw" s_draw ["_law_feed", "_law_many"] f_draw fd_draw) (G_draw : FnOk P w K mg base CX0 1 f_draw fd_draw ["_law_feed", "_law_many"] (lift (Bs.no P w K) sp_draw)) : FnOk P w K mg base CX0 4 f_pick fd_pick ["_law_feed", "_law_items"] (lift (Bs.no P w K) sp_pick) := by
  refine fn_ok (t := t_pick) (k := 3) F_pick.F sc_pick fun cdv A outer s H E hr => ?_
  exact (pds_one (pds_ret (pd_ix (pd_var 1) (pd_call G_draw (hr.mono (by decide)) (by rfl) F_draw.g F_draw.F.kp F_draw.b (pda_cons (pd_var 0) (pda_cons (pd_len (by rfl) T.len' (pda_cons (pd_var 1) pda_nil)) pda_nil))))))
theorem sc_calls : FnScope N_calls [] (defScope s_calls) := ⟨rfl, rfl, rfl, by decide +kernel, rfl, by decide +kernel, by decide +kernel⟩
theorem ok_calls (T : Bl P K mg c_BadEntry c_BadKind c_BadLine c_BadName c_BadTree c_BuildError c_Clash c_Conflict c_Failed c_Gap c_Halted c_Mismatch c_NoPlace c_NoRow c_NoTarget c_NoVersion c_NotAsked c_NotCause c_NotFresh c_NotNeeded c_NotOpen c_NotPart c_NotSettled c_NotSource c_Rewritten c_Stuck c_Taken i_BadEntry i_BadKind i_BadLine i_BadName i_BadTree i_Clash i_Conflict i_Failed i_Gap i_Halted i_Mismatch i_NoPlace i_NoRow i_NoTarget i_NoVersion i_NotAsked i_NotCause i_NotFresh i_NotNeeded i_NotOpen i_NotPart i_NotSettled i_NotSource i_Rewritten i_Stuck i_Taken) {f_calls : Addr} {fd_calls : FuncData} (F_calls : FunOn K mg "_law_calls" s_calls [] f_calls fd_calls) : FnOk P w K mg base CX0 1 f_calls fd_calls [] (lift (Bs.no P w K) sp_calls) := by
  refine fn_ok (t := t_calls) (k := 0) F_calls.F sc_calls fun cdv A outer s H E hr => ?_
  exact (pds_one (pds_ret (pd_lst (pda_cons pd_str (pda_cons pd_str (pda_cons pd_str (pda_cons pd_str (pda_cons pd_str pda_nil))))))))
theorem sc_some_text : FnScope N_some_text ["_law_feed"] (defScope s_some_text) := ⟨rfl, rfl, rfl, by decide +kernel, rfl, by decide +kernel, by decide +kernel⟩
theorem ok_some_text (T : Bl P K mg c_BadEntry c_BadKind c_BadLine c_BadName c_BadTree c_BuildError c_Clash c_Conflict c_Failed c_Gap c_Halted c_Mismatch c_NoPlace c_NoRow c_NoTarget c_NoVersion c_NotAsked c_NotCause c_NotFresh c_NotNeeded c_NotOpen c_NotPart c_NotSettled c_NotSource c_Rewritten c_Stuck c_Taken i_BadEntry i_BadKind i_BadLine i_BadName i_BadTree i_Clash i_Conflict i_Failed i_Gap i_Halted i_Mismatch i_NoPlace i_NoRow i_NoTarget i_NoVersion i_NotAsked i_NotCause i_NotFresh i_NotNeeded i_NotOpen i_NotPart i_NotSettled i_NotSource i_Rewritten i_Stuck i_Taken) {f_some_text : Addr} {fd_some_text : FuncData} (F_some_text : FunOn K mg "_law_some_text" s_some_text ["_law_feed"] f_some_text fd_some_text)
    {f_draw : Addr} {fd_draw : FuncData} (F_draw : FunOn K mg "_law_draw" s_draw ["_law_feed", "_law_many"] f_draw fd_draw) (G_draw : FnOk P w K mg base CX0 1 f_draw fd_draw ["_law_feed", "_law_many"] (lift (Bs.no P w K) sp_draw))
    {f_pick : Addr} {fd_pick : FuncData} (F_pick : FunOn K mg "_law_pick" s_pick ["_law_feed", "_law_items"] f_pick fd_pick) (G_pick : FnOk P w K mg base CX0 4 f_pick fd_pick ["_law_feed", "_law_items"] (lift (Bs.no P w K) sp_pick))
    {f_calls : Addr} {fd_calls : FuncData} (F_calls : FunOn K mg "_law_calls" s_calls [] f_calls fd_calls) (G_calls : FnOk P w K mg base CX0 1 f_calls fd_calls [] (lift (Bs.no P w K) sp_calls)) : FnOk P w K mg base CX0 7 f_some_text fd_some_text ["_law_feed"] (lift (Bs.no P w K) sp_some_text) := by
  refine fn_ok (t := t_some_text) (k := 6) F_some_text.F sc_some_text fun cdv A outer s H E hr => ?_
  exact (pds_cons (pds_set 1 sc_some_text.nd (pd_call G_draw (hr.mono (by decide)) (by rfl) F_draw.g F_draw.F.kp F_draw.b (pda_cons (pd_var 0) (pda_cons pd_int pda_nil))))
    (pds_cons (pds_if (pdt_eq hr (pd_var 1) pd_int) (pds_one (pds_ret (pd_call G_pick (hr.mono (by decide)) (by rfl) F_pick.g F_pick.F.kp F_pick.b (pda_cons (pd_var 0) (pda_cons (pd_call0 G_calls (hr.mono (by decide)) (by rfl) F_calls.g F_calls.F.kp F_calls.b) pda_nil))))) pds_nil)
    (pds_cons (pds_if (pdt_eq hr (pd_var 1) pd_int) (pds_cons (pds_set 2 sc_some_text.nd (pd_ix (pd_lst (pda_cons (pd_add pd_int (pd_call G_draw (hr.mono (by decide)) (by rfl) F_draw.g F_draw.F.kp F_draw.b (pda_cons (pd_var 0) (pda_cons pd_int pda_nil)))) (pda_cons pd_int pda_nil))) (pd_fdiv (pd_call G_draw (hr.mono (by decide)) (by rfl) F_draw.g F_draw.F.kp F_draw.b (pda_cons (pd_var 0) (pda_cons pd_int pda_nil))) pd_int)))
    (pds_one (pds_ret (pd_call G_pick (hr.mono (by decide)) (by rfl) F_pick.g F_pick.F.kp F_pick.b (pda_cons (pd_var 0) (pda_cons (pd_lst (pda_cons pd_str (pda_cons pd_str (pda_cons pd_str (pda_cons pd_str (pda_cons pd_str (pda_cons (pd_mul pd_str (pd_var 2)) (pda_cons pd_str (pda_cons pd_str (pda_cons pd_str (pda_cons pd_str pda_nil))))))))))) pda_nil)))))) pds_nil)
    (pds_one (pds_ret (pd_ix (pd_lst (pda_cons pd_str (pda_cons pd_str (pda_cons pd_str (pda_cons pd_str (pda_cons pd_str (pda_cons pd_str pda_nil))))))) (pd_var 1)))))))
theorem sc_any_value : FnScope N_any_value ["_law_feed"] (defScope s_any_value) := ⟨rfl, rfl, rfl, by decide +kernel, rfl, by decide +kernel, by decide +kernel⟩
theorem ok_any_value (T : Bl P K mg c_BadEntry c_BadKind c_BadLine c_BadName c_BadTree c_BuildError c_Clash c_Conflict c_Failed c_Gap c_Halted c_Mismatch c_NoPlace c_NoRow c_NoTarget c_NoVersion c_NotAsked c_NotCause c_NotFresh c_NotNeeded c_NotOpen c_NotPart c_NotSettled c_NotSource c_Rewritten c_Stuck c_Taken i_BadEntry i_BadKind i_BadLine i_BadName i_BadTree i_Clash i_Conflict i_Failed i_Gap i_Halted i_Mismatch i_NoPlace i_NoRow i_NoTarget i_NoVersion i_NotAsked i_NotCause i_NotFresh i_NotNeeded i_NotOpen i_NotPart i_NotSettled i_NotSource i_Rewritten i_Stuck i_Taken) {f_any_value : Addr} {fd_any_value : FuncData} (F_any_value : FunOn K mg "_law_any_value" s_any_value ["_law_feed"] f_any_value fd_any_value)
    {f_draw : Addr} {fd_draw : FuncData} (F_draw : FunOn K mg "_law_draw" s_draw ["_law_feed", "_law_many"] f_draw fd_draw) (G_draw : FnOk P w K mg base CX0 1 f_draw fd_draw ["_law_feed", "_law_many"] (lift (Bs.no P w K) sp_draw))
    {f_some_text : Addr} {fd_some_text : FuncData} (F_some_text : FunOn K mg "_law_some_text" s_some_text ["_law_feed"] f_some_text fd_some_text) (G_some_text : FnOk P w K mg base CX0 7 f_some_text fd_some_text ["_law_feed"] (lift (Bs.no P w K) sp_some_text)) : FnOk P w K mg base CX0 10 f_any_value fd_any_value ["_law_feed"] (lift (Bs.no P w K) sp_any_value) := by
  refine fn_ok (t := t_any_value) (k := 9) F_any_value.F sc_any_value fun cdv A outer s H E hr => ?_
  exact (pds_cons (pds_set 1 sc_any_value.nd (pd_call G_draw (hr.mono (by decide)) (by rfl) F_draw.g F_draw.F.kp F_draw.b (pda_cons (pd_var 0) (pda_cons pd_int pda_nil))))
    (pds_cons (pds_if (pdt_eq hr (pd_var 1) pd_int) (pds_one (pds_ret (pd_tup (pda_cons (pd_call G_some_text (hr.mono (by decide)) (by rfl) F_some_text.g F_some_text.F.kp F_some_text.b (pda_cons (pd_var 0) pda_nil)) (pda_cons (pd_tup (pda_cons (pd_call G_draw (hr.mono (by decide)) (by rfl) F_draw.g F_draw.F.kp F_draw.b (pda_cons (pd_var 0) (pda_cons pd_int pda_nil))) (pda_cons pd_non pda_nil))) pda_nil))))) pds_nil)
    (pds_one (pds_ret (pd_ix (pd_lst (pda_cons pd_non (pda_cons pd_bl (pda_cons (pd_sub pd_int (pd_call G_draw (hr.mono (by decide)) (by rfl) F_draw.g F_draw.F.kp F_draw.b (pda_cons (pd_var 0) (pda_cons pd_int pda_nil)))) (pda_cons (pd_pow pd_int pd_int) (pda_cons (pd_call G_some_text (hr.mono (by decide)) (by rfl) F_some_text.g F_some_text.F.kp F_some_text.b (pda_cons (pd_var 0) pda_nil)) (pda_cons (pd_tup pda_nil) pda_nil))))))) (pd_sub (pd_var 1) pd_int))))))
theorem sc_with_places : FnScope N_with_places ["_law_a"] (defScope s_with_places) := ⟨rfl, rfl, rfl, by decide +kernel, rfl, by decide +kernel, by decide +kernel⟩
theorem ok_with_places (T : Bl P K mg c_BadEntry c_BadKind c_BadLine c_BadName c_BadTree c_BuildError c_Clash c_Conflict c_Failed c_Gap c_Halted c_Mismatch c_NoPlace c_NoRow c_NoTarget c_NoVersion c_NotAsked c_NotCause c_NotFresh c_NotNeeded c_NotOpen c_NotPart c_NotSettled c_NotSource c_Rewritten c_Stuck c_Taken i_BadEntry i_BadKind i_BadLine i_BadName i_BadTree i_Clash i_Conflict i_Failed i_Gap i_Halted i_Mismatch i_NoPlace i_NoRow i_NoTarget i_NoVersion i_NotAsked i_NotCause i_NotFresh i_NotNeeded i_NotOpen i_NotPart i_NotSettled i_NotSource i_Rewritten i_Stuck i_Taken) {f_with_places : Addr} {fd_with_places : FuncData} (F_with_places : FunOn K mg "_law_with_places" s_with_places ["_law_a"] f_with_places fd_with_places) : FnOk P w K mg base CX0 4 f_with_places fd_with_places ["_law_a"] (lift (Bs.no P w K) sp_with_places) := by
  refine fn_ok (t := t_with_places) (k := 3) F_with_places.F sc_with_places fun cdv A outer s H E hr => ?_
  exact (pds_cons (pds_par3 1 2 3 rfl sc_with_places.nd (pda_cons (pd_exn T.x_Clash (hr.mono (by decide)) (by rfl) T.g_Clash T.n_Clash T.super' (pda_cons (pd_var 0) pda_nil)) (pda_cons (pd_exn T.x_Gap (hr.mono (by decide)) (by rfl) T.g_Gap T.n_Gap T.super' (pda_cons (pd_var 0) pda_nil)) (pda_cons (pd_exn T.x_Rewritten (hr.mono (by decide)) (by rfl) T.g_Rewritten T.n_Rewritten T.super' (pda_cons (pd_var 0) pda_nil)) pda_nil))))
    (pds_cons (pds_asg (pd_tup (pda_cons (pd_exn T.x_NoPlace (hr.mono (by decide)) (by rfl) T.g_NoPlace T.n_NoPlace T.super' (pda_cons (pd_var 0) pda_nil)) (pda_cons (pd_exn T.x_NotNeeded (hr.mono (by decide)) (by rfl) T.g_NotNeeded T.n_NotNeeded T.super' (pda_cons (pd_var 0) pda_nil)) (pda_cons (pd_exn T.x_NotPart (hr.mono (by decide)) (by rfl) T.g_NotPart T.n_NotPart T.super' (pda_cons (pd_var 0) pda_nil)) (pda_cons (pd_exn T.x_BadTree (hr.mono (by decide)) (by rfl) T.g_BadTree T.n_BadTree T.super' (pda_cons (pd_var 0) pda_nil)) pda_nil))))) (pdg_tup rfl (pdgs_cons (pdg_name 4 sc_with_places.nd) (pdgs_cons (pdg_name 5 sc_with_places.nd) (pdgs_cons (pdg_name 6 sc_with_places.nd) (pdgs_cons (pdg_name 7 sc_with_places.nd) pdgs_nil))))))
    (pds_cons (pds_par3 8 9 10 rfl sc_with_places.nd (pda_cons (pd_exn T.x_NotSettled (hr.mono (by decide)) (by rfl) T.g_NotSettled T.n_NotSettled T.super' (pda_cons (pd_var 0) pda_nil)) (pda_cons (pd_exn T.x_NotOpen (hr.mono (by decide)) (by rfl) T.g_NotOpen T.n_NotOpen T.super' (pda_cons (pd_var 0) pda_nil)) (pda_cons (pd_exn T.x_NotCause (hr.mono (by decide)) (by rfl) T.g_NotCause T.n_NotCause T.super' (pda_cons (pd_var 0) pda_nil)) pda_nil))))
    (pds_one (pds_ret (pd_lst (pda_cons (pd_tup (pda_cons (pd_var 1) (pda_cons (pd_xv (cs := ["Clash", "Gap", "Rewritten", "NoPlace", "NotNeeded", "NotPart"]) T.xf_spot (pd_var 1)) pda_nil))) (pda_cons (pd_tup (pda_cons (pd_var 2) (pda_cons (pd_xv (cs := ["Clash", "Gap", "Rewritten", "NoPlace", "NotNeeded", "NotPart"]) T.xf_spot (pd_var 2)) pda_nil))) (pda_cons (pd_tup (pda_cons (pd_var 3) (pda_cons (pd_xv (cs := ["Clash", "Gap", "Rewritten", "NoPlace", "NotNeeded", "NotPart"]) T.xf_spot (pd_var 3)) pda_nil))) (pda_cons (pd_tup (pda_cons (pd_var 4) (pda_cons (pd_xv (cs := ["Clash", "Gap", "Rewritten", "NoPlace", "NotNeeded", "NotPart"]) T.xf_spot (pd_var 4)) pda_nil))) (pda_cons (pd_tup (pda_cons (pd_var 5) (pda_cons (pd_xv (cs := ["Clash", "Gap", "Rewritten", "NoPlace", "NotNeeded", "NotPart"]) T.xf_spot (pd_var 5)) pda_nil))) (pda_cons (pd_tup (pda_cons (pd_var 6) (pda_cons (pd_xv (cs := ["Clash", "Gap", "Rewritten", "NoPlace", "NotNeeded", "NotPart"]) T.xf_spot (pd_var 6)) pda_nil))) (pda_cons (pd_tup (pda_cons (pd_var 7) (pda_cons (pd_xv (cs := ["BadTree", "Failed"]) T.xf_path (pd_var 7)) pda_nil))) (pda_cons (pd_tup (pda_cons (pd_var 8) (pda_cons (pd_xv (cs := ["NotSettled", "NotOpen", "NotAsked"]) T.xf_key (pd_var 8)) pda_nil))) (pda_cons (pd_tup (pda_cons (pd_var 9) (pda_cons (pd_xv (cs := ["NotSettled", "NotOpen", "NotAsked"]) T.xf_key (pd_var 9)) pda_nil))) (pda_cons (pd_tup (pda_cons (pd_var 10) (pda_cons (pd_xv (cs := ["NotCause"]) T.xf_cause (pd_var 10)) pda_nil))) pda_nil))))))))))))))))
theorem sc_with_others : FnScope N_with_others ["_law_a"] (defScope s_with_others) := ⟨rfl, rfl, rfl, by decide +kernel, rfl, by decide +kernel, by decide +kernel⟩
theorem ok_with_others (T : Bl P K mg c_BadEntry c_BadKind c_BadLine c_BadName c_BadTree c_BuildError c_Clash c_Conflict c_Failed c_Gap c_Halted c_Mismatch c_NoPlace c_NoRow c_NoTarget c_NoVersion c_NotAsked c_NotCause c_NotFresh c_NotNeeded c_NotOpen c_NotPart c_NotSettled c_NotSource c_Rewritten c_Stuck c_Taken i_BadEntry i_BadKind i_BadLine i_BadName i_BadTree i_Clash i_Conflict i_Failed i_Gap i_Halted i_Mismatch i_NoPlace i_NoRow i_NoTarget i_NoVersion i_NotAsked i_NotCause i_NotFresh i_NotNeeded i_NotOpen i_NotPart i_NotSettled i_NotSource i_Rewritten i_Stuck i_Taken) {f_with_others : Addr} {fd_with_others : FuncData} (F_with_others : FunOn K mg "_law_with_others" s_with_others ["_law_a"] f_with_others fd_with_others) : FnOk P w K mg base CX0 4 f_with_others fd_with_others ["_law_a"] (lift (Bs.no P w K) sp_with_others) := by
  refine fn_ok (t := t_with_others) (k := 3) F_with_others.F sc_with_others fun cdv A outer s H E hr => ?_
  exact (pds_cons (pds_asg (pd_tup (pda_cons (pd_exn T.x_NoTarget (hr.mono (by decide)) (by rfl) T.g_NoTarget T.n_NoTarget T.super' (pda_cons (pd_var 0) pda_nil)) (pda_cons (pd_exn T.x_NotSource (hr.mono (by decide)) (by rfl) T.g_NotSource T.n_NotSource T.super' (pda_cons (pd_var 0) pda_nil)) (pda_cons (pd_exn T.x_Mismatch (hr.mono (by decide)) (by rfl) T.g_Mismatch T.n_Mismatch T.super' (pda_cons (pd_var 0) pda_nil)) (pda_cons (pd_exn T.x_Taken (hr.mono (by decide)) (by rfl) T.g_Taken T.n_Taken T.super' (pda_cons (pd_var 0) pda_nil)) pda_nil))))) (pdg_tup rfl (pdgs_cons (pdg_name 1 sc_with_others.nd) (pdgs_cons (pdg_name 2 sc_with_others.nd) (pdgs_cons (pdg_name 3 sc_with_others.nd) (pdgs_cons (pdg_name 4 sc_with_others.nd) pdgs_nil))))))
    (pds_cons (pds_asg (pd_tup (pda_cons (pd_exn T.x_Stuck (hr.mono (by decide)) (by rfl) T.g_Stuck T.n_Stuck T.super' (pda_cons (pd_var 0) pda_nil)) (pda_cons (pd_exn T.x_BadLine (hr.mono (by decide)) (by rfl) T.g_BadLine T.n_BadLine T.super' (pda_cons (pd_var 0) pda_nil)) (pda_cons (pd_exn T.x_BadKind (hr.mono (by decide)) (by rfl) T.g_BadKind T.n_BadKind T.super' (pda_cons (pd_var 0) pda_nil)) (pda_cons (pd_exn T.x_NotFresh (hr.mono (by decide)) (by rfl) T.g_NotFresh T.n_NotFresh T.super' (pda_cons (pd_var 0) pda_nil)) pda_nil))))) (pdg_tup rfl (pdgs_cons (pdg_name 5 sc_with_others.nd) (pdgs_cons (pdg_name 6 sc_with_others.nd) (pdgs_cons (pdg_name 7 sc_with_others.nd) (pdgs_cons (pdg_name 8 sc_with_others.nd) pdgs_nil))))))
    (pds_cons (pds_par3 9 10 11 rfl sc_with_others.nd (pda_cons (pd_exn T.x_Conflict (hr.mono (by decide)) (by rfl) T.g_Conflict T.n_Conflict T.super' (pda_cons (pd_var 0) pda_nil)) (pda_cons (pd_exn T.x_Failed (hr.mono (by decide)) (by rfl) T.g_Failed T.n_Failed T.super' (pda_cons (pd_var 0) pda_nil)) (pda_cons (pd_exn T.x_BadEntry (hr.mono (by decide)) (by rfl) T.g_BadEntry T.n_BadEntry T.super' (pda_cons (pd_var 0) pda_nil)) pda_nil))))
    (pds_one (pds_ret (pd_lst (pda_cons (pd_tup (pda_cons (pd_var 1) (pda_cons (pd_xv (cs := ["NoTarget", "NotSource", "Mismatch", "Taken", "BadName"]) T.xf_name (pd_var 1)) pda_nil))) (pda_cons (pd_tup (pda_cons (pd_var 2) (pda_cons (pd_xv (cs := ["NoTarget", "NotSource", "Mismatch", "Taken", "BadName"]) T.xf_name (pd_var 2)) pda_nil))) (pda_cons (pd_tup (pda_cons (pd_var 3) (pda_cons (pd_xv (cs := ["NoTarget", "NotSource", "Mismatch", "Taken", "BadName"]) T.xf_name (pd_var 3)) pda_nil))) (pda_cons (pd_tup (pda_cons (pd_var 4) (pda_cons (pd_xv (cs := ["NoTarget", "NotSource", "Mismatch", "Taken", "BadName"]) T.xf_name (pd_var 4)) pda_nil))) (pda_cons (pd_tup (pda_cons (pd_var 5) (pda_cons (pd_xv (cs := ["Stuck"]) T.xf_ring (pd_var 5)) pda_nil))) (pda_cons (pd_tup (pda_cons (pd_var 6) (pda_cons (pd_xv (cs := ["BadLine", "BadKind", "BadName"]) T.xf_line (pd_var 6)) pda_nil))) (pda_cons (pd_tup (pda_cons (pd_var 7) (pda_cons (pd_xv (cs := ["BadLine", "BadKind", "BadName"]) T.xf_line (pd_var 7)) pda_nil))) (pda_cons (pd_tup (pda_cons (pd_var 8) (pda_cons (pd_xv (cs := ["NotFresh"]) T.xf_words (pd_var 8)) pda_nil))) (pda_cons (pd_tup (pda_cons (pd_var 9) (pda_cons (pd_xv (cs := ["Conflict"]) T.xf_conflicts (pd_var 9)) pda_nil))) (pda_cons (pd_tup (pda_cons (pd_var 10) (pda_cons (pd_xv (cs := ["BadTree", "Failed"]) T.xf_path (pd_var 10)) pda_nil))) (pda_cons (pd_tup (pda_cons (pd_var 11) (pda_cons (pd_xv (cs := ["BadEntry"]) T.xf_entry (pd_var 11)) pda_nil))) pda_nil)))))))))))))))))
theorem sc_same : FnScope N_same ["_law_found", "_law_due"] (defScope s_same) := ⟨rfl, rfl, rfl, by decide +kernel, rfl, by decide +kernel, by decide +kernel⟩
theorem ok_same (T : Bl P K mg c_BadEntry c_BadKind c_BadLine c_BadName c_BadTree c_BuildError c_Clash c_Conflict c_Failed c_Gap c_Halted c_Mismatch c_NoPlace c_NoRow c_NoTarget c_NoVersion c_NotAsked c_NotCause c_NotFresh c_NotNeeded c_NotOpen c_NotPart c_NotSettled c_NotSource c_Rewritten c_Stuck c_Taken i_BadEntry i_BadKind i_BadLine i_BadName i_BadTree i_Clash i_Conflict i_Failed i_Gap i_Halted i_Mismatch i_NoPlace i_NoRow i_NoTarget i_NoVersion i_NotAsked i_NotCause i_NotFresh i_NotNeeded i_NotOpen i_NotPart i_NotSettled i_NotSource i_Rewritten i_Stuck i_Taken) {f_same : Addr} {fd_same : FuncData} (F_same : FunOn K mg "_law_same" s_same ["_law_found", "_law_due"] f_same fd_same) : ∀ n : Nat, FnOk P w K mg base CX0 (0 + 1 + n) f_same fd_same ["_law_found", "_law_due"] (lift (Bs.no P w K) (sp_same n))
  | 0 => fn_no2 fun _ _ _ h => h.2
  | n + 1 => by
    have G_same := ok_same T F_same n
    refine fn_ok (t := t_same (n + 1)) (k := 0 + 1 + n) F_same.F sc_same fun cdv A outer s H E hr => ?_
    exact (pds_cons (pds_if (pdt_tru (pd_isi (by rfl) T.isinstance' (pda_cons (pd_var 1) (pda_cons (pd_tup (pda_cons (pd_ty (n := "list") (by rfl) T.list' (by decide +kernel)) (pda_cons (pd_ty (n := "tuple") (by rfl) T.tuple' (by decide +kernel)) pda_nil))) pda_nil)))) (pds_cons (pds_if (PDW.pt (pdw_or (pdt_ne hr (pd_isi (by rfl) T.isinstance' (pda_cons (pd_var 0) (pda_cons (pd_ty (n := "list") (by rfl) T.list' (by decide +kernel)) pda_nil))) (pd_isi (by rfl) T.isinstance' (pda_cons (pd_var 1) (pda_cons (pd_ty (n := "list") (by rfl) T.list' (by decide +kernel)) pda_nil)))) (pdw_or1 (pdt_not (pdt_tru (pd_isi (by rfl) T.isinstance' (pda_cons (pd_var 0) (pda_cons (pd_tup (pda_cons (pd_ty (n := "list") (by rfl) T.list' (by decide +kernel)) (pda_cons (pd_ty (n := "tuple") (by rfl) T.tuple' (by decide +kernel)) pda_nil))) pda_nil)))))))) (pds_one (pds_ret pd_bl)) pds_nil)
    (pds_one (pds_ret (pd_and (pd_eq hr (pd_len (by rfl) T.len' (pda_cons (pd_var 0) pda_nil)) (pd_len (by rfl) T.len' (pda_cons (pd_var 1) pda_nil))) (pd_one (pd_all rfl (by rfl) T.all' (pda_cons (pd_lc (own := [("_law_a", 2), ("_law_b", 3)]) rfl sc_same.nd (pdi_zip (by rfl) T.zip' (pda_cons (pd_var 0) (pda_cons (pd_var 1) pda_nil))) (blkOk_by (own := [("_law_a", 2), ("_law_b", 3)]) (N := N_same) (sc := defScope s_same) (by decide +kernel)) (fun _ _ _ _ _ => (pdc_tup rfl (pdcs_cons (pdc_name 2 sc_same.nd) (pdcs_cons (pdc_name 3 sc_same.nd) pdcs_nil)))) (fun _ _ _ _ _ => pdts_nil) (fun _ _ _ _ _ => (pd_call G_same hr (by rfl) F_same.g F_same.F.kp F_same.b (pda_cons (pd_var 2) (pda_cons (pd_var 3) pda_nil))))) pda_nil))))))) pds_nil)
    (pds_cons (pds_if (PDW.pt (pdw_or (pdt_ne hr (pd_isi (by rfl) T.isinstance' (pda_cons (pd_var 0) (pda_cons (pd_ty (n := "bool") (by rfl) T.bool' (by decide +kernel)) pda_nil))) (pd_isi (by rfl) T.isinstance' (pda_cons (pd_var 1) (pda_cons (pd_ty (n := "bool") (by rfl) T.bool' (by decide +kernel)) pda_nil)))) (pdw_or1 (pdt_ne hr (pd_isi (by rfl) T.isinstance' (pda_cons (pd_var 0) (pda_cons (pd_ty (n := "int") (by rfl) T.int' (by decide +kernel)) pda_nil))) (pd_isi (by rfl) T.isinstance' (pda_cons (pd_var 1) (pda_cons (pd_ty (n := "int") (by rfl) T.int' (by decide +kernel)) pda_nil))))))) (pds_one (pds_ret pd_bl)) pds_nil)
    (pds_one (pds_ret (pd_and (pd_eq hr (pd_isi (by rfl) T.isinstance' (pda_cons (pd_var 0) (pda_cons (pd_ty (n := "str") (by rfl) T.str' (by decide +kernel)) pda_nil))) (pd_isi (by rfl) T.isinstance' (pda_cons (pd_var 1) (pda_cons (pd_ty (n := "str") (by rfl) T.str' (by decide +kernel)) pda_nil)))) (pd_one (pd_eq hr (pd_var 0) (pd_var 1))))))))
theorem sc_names_of : FnScope N_names_of ["_law_e"] (defScope s_names_of) := ⟨rfl, rfl, rfl, by decide +kernel, rfl, by decide +kernel, by decide +kernel⟩
theorem ok_names_of (T : Bl P K mg c_BadEntry c_BadKind c_BadLine c_BadName c_BadTree c_BuildError c_Clash c_Conflict c_Failed c_Gap c_Halted c_Mismatch c_NoPlace c_NoRow c_NoTarget c_NoVersion c_NotAsked c_NotCause c_NotFresh c_NotNeeded c_NotOpen c_NotPart c_NotSettled c_NotSource c_Rewritten c_Stuck c_Taken i_BadEntry i_BadKind i_BadLine i_BadName i_BadTree i_Clash i_Conflict i_Failed i_Gap i_Halted i_Mismatch i_NoPlace i_NoRow i_NoTarget i_NoVersion i_NotAsked i_NotCause i_NotFresh i_NotNeeded i_NotOpen i_NotPart i_NotSettled i_NotSource i_Rewritten i_Stuck i_Taken) {f_names_of : Addr} {fd_names_of : FuncData} (F_names_of : FunOn K mg "_law_names_of" s_names_of ["_law_e"] f_names_of fd_names_of) : FnOk P w K mg base CX0 1 f_names_of fd_names_of ["_law_e"] (lift (Bs.no P w K) sp_names_of) := by
  refine fn_ok (t := t_names_of) (k := 0) F_names_of.F sc_names_of fun cdv A outer s H E hr => ?_
  exact (pds_cons (pds_set 1 sc_names_of.nd (pd_lst (pda_cons (pd_isV (by rfl) T.isinstance' (by rfl) T.g_Clash T.ki_Clash (pd_var 0)) (pda_cons (pd_isV (by rfl) T.isinstance' (by rfl) T.g_Gap T.ki_Gap (pd_var 0)) (pda_cons (pd_isV (by rfl) T.isinstance' (by rfl) T.g_Rewritten T.ki_Rewritten (pd_var 0)) (pda_cons (pd_isV (by rfl) T.isinstance' (by rfl) T.g_NoPlace T.ki_NoPlace (pd_var 0)) pda_nil))))))
    (pds_cons (pds_set 1 sc_names_of.nd (pd_add (pd_var 1) (pd_lst (pda_cons (pd_isV (by rfl) T.isinstance' (by rfl) T.g_NotNeeded T.ki_NotNeeded (pd_var 0)) (pda_cons (pd_isV (by rfl) T.isinstance' (by rfl) T.g_NotPart T.ki_NotPart (pd_var 0)) (pda_cons (pd_isV (by rfl) T.isinstance' (by rfl) T.g_BadTree T.ki_BadTree (pd_var 0)) pda_nil))))))
    (pds_cons (pds_set 1 sc_names_of.nd (pd_add (pd_var 1) (pd_lst (pda_cons (pd_isV (by rfl) T.isinstance' (by rfl) T.g_NotSettled T.ki_NotSettled (pd_var 0)) (pda_cons (pd_isV (by rfl) T.isinstance' (by rfl) T.g_NotOpen T.ki_NotOpen (pd_var 0)) (pda_cons (pd_isV (by rfl) T.isinstance' (by rfl) T.g_NotCause T.ki_NotCause (pd_var 0)) pda_nil))))))
    (pds_cons (pds_set 1 sc_names_of.nd (pd_add (pd_var 1) (pd_lst (pda_cons (pd_isV (by rfl) T.isinstance' (by rfl) T.g_NoTarget T.ki_NoTarget (pd_var 0)) (pda_cons (pd_isV (by rfl) T.isinstance' (by rfl) T.g_NotSource T.ki_NotSource (pd_var 0)) (pda_cons (pd_isV (by rfl) T.isinstance' (by rfl) T.g_Mismatch T.ki_Mismatch (pd_var 0)) (pda_cons (pd_isV (by rfl) T.isinstance' (by rfl) T.g_Taken T.ki_Taken (pd_var 0)) pda_nil)))))))
    (pds_cons (pds_set 1 sc_names_of.nd (pd_add (pd_var 1) (pd_lst (pda_cons (pd_isV (by rfl) T.isinstance' (by rfl) T.g_Stuck T.ki_Stuck (pd_var 0)) (pda_cons (pd_isV (by rfl) T.isinstance' (by rfl) T.g_BadLine T.ki_BadLine (pd_var 0)) (pda_cons (pd_isV (by rfl) T.isinstance' (by rfl) T.g_BadKind T.ki_BadKind (pd_var 0)) (pda_cons (pd_isV (by rfl) T.isinstance' (by rfl) T.g_NotFresh T.ki_NotFresh (pd_var 0)) pda_nil)))))))
    (pds_cons (pds_set 1 sc_names_of.nd (pd_add (pd_var 1) (pd_lst (pda_cons (pd_isV (by rfl) T.isinstance' (by rfl) T.g_Conflict T.ki_Conflict (pd_var 0)) (pda_cons (pd_isV (by rfl) T.isinstance' (by rfl) T.g_Failed T.ki_Failed (pd_var 0)) (pda_cons (pd_isV (by rfl) T.isinstance' (by rfl) T.g_BadEntry T.ki_BadEntry (pd_var 0)) pda_nil))))))
    (pds_cons (pds_set 1 sc_names_of.nd (pd_add (pd_var 1) (pd_lst (pda_cons (pd_isV (by rfl) T.isinstance' (by rfl) T.g_BadName T.ki_BadName (pd_var 0)) (pda_cons (pd_isV (by rfl) T.isinstance' (by rfl) T.g_Halted T.ki_Halted (pd_var 0)) (pda_cons (pd_isV (by rfl) T.isinstance' (by rfl) T.g_NoRow T.ki_NoRow (pd_var 0)) pda_nil))))))
    (pds_cons (pds_set 1 sc_names_of.nd (pd_add (pd_var 1) (pd_lst (pda_cons (pd_isV (by rfl) T.isinstance' (by rfl) T.g_NotAsked T.ki_NotAsked (pd_var 0)) (pda_cons (pd_isV (by rfl) T.isinstance' (by rfl) T.g_NoVersion T.ki_NoVersion (pd_var 0)) pda_nil)))))
    (pds_one (pds_ret (pd_lc (own := [("_law_k", 2)]) rfl sc_names_of.nd (pdi_rng1 (by rfl) T.range' (pda_cons (pd_len (by rfl) T.len' (pda_cons (pd_var 1) pda_nil)) pda_nil)) (blkOk_by (own := [("_law_k", 2)]) (N := N_names_of) (sc := defScope s_names_of) (by decide +kernel)) (fun _ _ _ _ _ => (pdc_name 2 sc_names_of.nd)) (fun _ _ _ _ _ => (pdts_one (pdt_tru (pd_ix (pd_var 1) (pd_var 2))))) (fun _ _ _ _ _ => (pd_var 2)))))))))))))
theorem sc_caught : FnScope N_caught ["_law_e"] (defScope s_caught) := ⟨rfl, rfl, rfl, by decide +kernel, rfl, by decide +kernel, by decide +kernel⟩
theorem ok_caught (T : Bl P K mg c_BadEntry c_BadKind c_BadLine c_BadName c_BadTree c_BuildError c_Clash c_Conflict c_Failed c_Gap c_Halted c_Mismatch c_NoPlace c_NoRow c_NoTarget c_NoVersion c_NotAsked c_NotCause c_NotFresh c_NotNeeded c_NotOpen c_NotPart c_NotSettled c_NotSource c_Rewritten c_Stuck c_Taken i_BadEntry i_BadKind i_BadLine i_BadName i_BadTree i_Clash i_Conflict i_Failed i_Gap i_Halted i_Mismatch i_NoPlace i_NoRow i_NoTarget i_NoVersion i_NotAsked i_NotCause i_NotFresh i_NotNeeded i_NotOpen i_NotPart i_NotSettled i_NotSource i_Rewritten i_Stuck i_Taken) {f_caught : Addr} {fd_caught : FuncData} (F_caught : FunOn K mg "_law_caught" s_caught ["_law_e"] f_caught fd_caught) : FnOk P w K mg base CX0 1 f_caught fd_caught ["_law_e"] (lift (Bs.no P w K) sp_caught) := by
  refine fn_ok (t := t_caught) (k := 0) F_caught.F sc_caught fun cdv A outer s H E hr => ?_
  exact (pds_one (pds_ret (pd_and (pd_isV (by rfl) T.isinstance' (by rfl) T.g_BuildError T.ki_BuildError (pd_var 0)) (pd_and (pd_isVB (by rfl) T.isinstance' (by rfl) T.ValueError' (by decide +kernel) T.kb_ValueError (pd_var 0)) (pd_one (pd_not (pd_isVB (by rfl) T.isinstance' (by rfl) T.LookupError' (by decide +kernel) T.kb_LookupError (pd_var 0))))))))
theorem sc_named_right : FnScope N_named_right ["_law_a", "_law_b"] (defScope s_named_right) := ⟨rfl, rfl, rfl, by decide +kernel, rfl, by decide +kernel, by decide +kernel⟩
theorem ok_named_right (T : Bl P K mg c_BadEntry c_BadKind c_BadLine c_BadName c_BadTree c_BuildError c_Clash c_Conflict c_Failed c_Gap c_Halted c_Mismatch c_NoPlace c_NoRow c_NoTarget c_NoVersion c_NotAsked c_NotCause c_NotFresh c_NotNeeded c_NotOpen c_NotPart c_NotSettled c_NotSource c_Rewritten c_Stuck c_Taken i_BadEntry i_BadKind i_BadLine i_BadName i_BadTree i_Clash i_Conflict i_Failed i_Gap i_Halted i_Mismatch i_NoPlace i_NoRow i_NoTarget i_NoVersion i_NotAsked i_NotCause i_NotFresh i_NotNeeded i_NotOpen i_NotPart i_NotSettled i_NotSource i_Rewritten i_Stuck i_Taken) {f_named_right : Addr} {fd_named_right : FuncData} (F_named_right : FunOn K mg "_law_named_right" s_named_right ["_law_a", "_law_b"] f_named_right fd_named_right)
    {f_same : Addr} {fd_same : FuncData} (F_same : FunOn K mg "_law_same" s_same ["_law_found", "_law_due"] f_same fd_same) (G_same : FnOk P w K mg base CX0 13 f_same fd_same ["_law_found", "_law_due"] (lift (Bs.no P w K) (sp_same 12))) : FnOk P w K mg base CX0 16 f_named_right fd_named_right ["_law_a", "_law_b"] (lift (Bs.no P w K) sp_named_right) := by
  refine fn_ok (t := t_named_right) (k := 15) F_named_right.F sc_named_right fun cdv A outer s H E hr => ?_
  exact (pds_cons (pds_par 2 3 rfl sc_named_right.nd (pda_cons (pd_exn2W T.xw2_BadName (hr.mono (by decide)) (by rfl) T.g_BadName T.n_BadName T.super' (pd_var 1) (pd_var 0)) (pda_cons (pd_lst (pda_cons (pd_exnW T.xw_Stuck (hr.mono (by decide)) (by rfl) T.g_Stuck T.n_Stuck T.super' (pd_var 0)) (pda_cons (pd_exnW T.xw_Conflict (hr.mono (by decide)) (by rfl) T.g_Conflict T.n_Conflict T.super' (pd_var 0)) (pda_cons (pd_exnW T.xw_Clash (hr.mono (by decide)) (by rfl) T.g_Clash T.n_Clash T.super' (pd_var 0)) (pda_cons (pd_exnW T.xw_BadTree (hr.mono (by decide)) (by rfl) T.g_BadTree T.n_BadTree T.super' (pd_var 0)) pda_nil))))) pda_nil)))
    (pds_cons (pds_set 4 sc_named_right.nd (pd_lst (pda_cons (pd_xv (cs := ["BadLine", "BadKind", "BadName"]) T.xf_line (pd_var 2)) (pda_cons (pd_xv (cs := ["NoTarget", "NotSource", "Mismatch", "Taken", "BadName"]) T.xf_name (pd_var 2)) (pda_cons (pd_xv (cs := ["Stuck"]) T.xf_ring (pd_ix (pd_var 3) pd_int)) (pda_cons (pd_xv (cs := ["Conflict"]) T.xf_conflicts (pd_ix (pd_var 3) pd_int)) (pda_cons (pd_xv (cs := ["Clash", "Gap", "Rewritten", "NoPlace", "NotNeeded", "NotPart"]) T.xf_spot (pd_ix (pd_var 3) pd_int)) (pda_cons (pd_xv (cs := ["BadTree", "Failed"]) T.xf_path (pd_ix (pd_var 3) pd_int)) pda_nil))))))))
    (pds_cons (pds_set 4 sc_named_right.nd (pd_add (pd_var 4) (pd_lst (pda_cons (pd_xv (cs := ["NotSettled", "NotOpen", "NotAsked"]) T.xf_key (pd_exnWK T.xw_NotAsked (hr.mono (by decide)) (by rfl) T.g_NotAsked T.n_NotAsked T.super' (pd_var 0))) (pda_cons (pd_xv (cs := ["NoVersion"]) T.xf_number (pd_exnWI T.xw_NoVersion (hr.mono (by decide)) (by rfl) T.g_NoVersion T.n_NoVersion T.super' (pd_var 0))) (pda_cons (pd_xv (cs := ["BadEntry"]) T.xf_entry (pd_exnW T.xw_BadEntry (hr.mono (by decide)) (by rfl) T.g_BadEntry T.n_BadEntry T.super' (pd_var 0))) (pda_cons (pd_xv (cs := ["BadLine", "BadKind", "BadName"]) T.xf_line (pd_exnW T.xw_BadLine (hr.mono (by decide)) (by rfl) T.g_BadLine T.n_BadLine T.super' (pd_var 0))) pda_nil)))))))
    (pds_one (pds_ret (pd_call G_same (hr.mono (by decide)) (by rfl) F_same.g F_same.F.kp F_same.b (pda_cons (pd_var 4) (pda_cons (pd_add (pd_lst (pda_cons (pd_var 0) (pda_cons (pd_var 1) pda_nil))) (pd_mul (pd_lst (pda_cons (pd_var 0) pda_nil)) pd_int)) pda_nil))))))))
theorem sc_raised : FnScope N_raised ["_law_form", "_law_a"] (defScope s_raised) := ⟨rfl, rfl, rfl, by decide +kernel, rfl, by decide +kernel, by decide +kernel⟩
theorem ok_raised (T : Bl P K mg c_BadEntry c_BadKind c_BadLine c_BadName c_BadTree c_BuildError c_Clash c_Conflict c_Failed c_Gap c_Halted c_Mismatch c_NoPlace c_NoRow c_NoTarget c_NoVersion c_NotAsked c_NotCause c_NotFresh c_NotNeeded c_NotOpen c_NotPart c_NotSettled c_NotSource c_Rewritten c_Stuck c_Taken i_BadEntry i_BadKind i_BadLine i_BadName i_BadTree i_Clash i_Conflict i_Failed i_Gap i_Halted i_Mismatch i_NoPlace i_NoRow i_NoTarget i_NoVersion i_NotAsked i_NotCause i_NotFresh i_NotNeeded i_NotOpen i_NotPart i_NotSettled i_NotSource i_Rewritten i_Stuck i_Taken) {f_raised : Addr} {fd_raised : FuncData} (F_raised : FunOn K mg "_law_raised" s_raised ["_law_form", "_law_a"] f_raised fd_raised) : FnOk P w K mg base CX0 4 f_raised fd_raised ["_law_form", "_law_a"] (lift (Bs.no P w K) sp_raised) := by
  refine fn_ok (t := t_raised) (k := 3) F_raised.F sc_raised fun cdv A outer s H E hr => ?_
  exact (pds_cons (pds_set 2 sc_raised.nd pd_str)
    (pds_cons (pds_tryM rfl rfl sc_raised.nd wsh_no (fun W1 Wx1 pn1 xe1 wh1 po1 => (pds_cons (pds_if (pdt_eq hr (pd_var 0) pd_int) (pds_one (pds_raise wh1 rfl T.x_Stuck (hr.mono (by decide)) (by rfl) T.g_Stuck T.n_Stuck T.super' (pda_cons (pd_var 1) pda_nil))) pds_nil)
    (pds_cons (pds_if (pdt_eq hr (pd_var 0) pd_int) (pds_one (pds_raiseK wh1 rfl T.x_NotAsked (hr.mono (by decide)) (by rfl) T.g_NotAsked T.n_NotAsked T.super' (pda_cons (pd_var 1) pda_nil))) pds_nil)
    (pds_one (pds_if (pdt_eq hr (pd_var 0) pd_int) (pds_one (pds_raise0 wh1 rfl T.x_Halted (hr.mono (by decide)) (by rfl) T.g_Halted T.n_Halted T.super')) pds_nil))))) (.named (i := 3) ⟨rfl, by decide, .inl T.g_Stuck⟩ rfl rfl T.ex_Stuck (fun a oe c C d fs pn hn hz hf => (pds_one (pds_set 2 sc_raised.nd (pd_tup (pda_cons pd_str (pda_cons (pd_exF (cs := ["Stuck"]) 3 hn hz hf T.xf_ring) pda_nil)))))) (.named (i := 3) ⟨rfl, by decide, .inl T.g_BuildError⟩ rfl rfl T.ex_BuildError (fun a oe c C d fs pn hn hz hf => (pds_one (pds_set 2 sc_raised.nd (pd_tup (pda_cons pd_str (pda_cons (pd_exI 3 hn hz hf (by rfl) T.isinstance' (by rfl) T.g_Halted T.ki_Halted) pda_nil)))))) (.plain ⟨rfl, by decide, .inr ⟨T.KeyError', by decide +kernel, by decide⟩⟩ T.exb_KeyError (fun a oe c C d fs pn hn hz hf => (pds_one (pds_set 2 sc_raised.nd (pd_tup (pda_cons pd_str pda_nil))))) .nil))))
    (pds_one (pds_ret (pd_var 2)))))
theorem sc_law : FnScope N_law ["_law_script"] (defScope s_law) := ⟨rfl, rfl, rfl, by decide +kernel, rfl, by decide +kernel, by decide +kernel⟩
theorem ok_law (T : Bl P K mg c_BadEntry c_BadKind c_BadLine c_BadName c_BadTree c_BuildError c_Clash c_Conflict c_Failed c_Gap c_Halted c_Mismatch c_NoPlace c_NoRow c_NoTarget c_NoVersion c_NotAsked c_NotCause c_NotFresh c_NotNeeded c_NotOpen c_NotPart c_NotSettled c_NotSource c_Rewritten c_Stuck c_Taken i_BadEntry i_BadKind i_BadLine i_BadName i_BadTree i_Clash i_Conflict i_Failed i_Gap i_Halted i_Mismatch i_NoPlace i_NoRow i_NoTarget i_NoVersion i_NotAsked i_NotCause i_NotFresh i_NotNeeded i_NotOpen i_NotPart i_NotSettled i_NotSource i_Rewritten i_Stuck i_Taken) {f_law : Addr} {fd_law : FuncData} (F_law : FunOn K mg "law" s_law ["_law_script"] f_law fd_law)
    {f_feed_of : Addr} {fd_feed_of : FuncData} (F_feed_of : FunOn K mg "_law_feed_of" s_feed_of ["_law_script", "_law_k"] f_feed_of fd_feed_of) (G_feed_of : FnOk P w K mg base CX0 1 f_feed_of fd_feed_of ["_law_script", "_law_k"] (lift (Bs.no P w K) sp_feed_of))
    {f_any_value : Addr} {fd_any_value : FuncData} (F_any_value : FunOn K mg "_law_any_value" s_any_value ["_law_feed"] f_any_value fd_any_value) (G_any_value : FnOk P w K mg base CX0 10 f_any_value fd_any_value ["_law_feed"] (lift (Bs.no P w K) sp_any_value))
    {f_with_places : Addr} {fd_with_places : FuncData} (F_with_places : FunOn K mg "_law_with_places" s_with_places ["_law_a"] f_with_places fd_with_places) (G_with_places : FnOk P w K mg base CX0 4 f_with_places fd_with_places ["_law_a"] (lift (Bs.no P w K) sp_with_places))
    {f_with_others : Addr} {fd_with_others : FuncData} (F_with_others : FunOn K mg "_law_with_others" s_with_others ["_law_a"] f_with_others fd_with_others) (G_with_others : FnOk P w K mg base CX0 4 f_with_others fd_with_others ["_law_a"] (lift (Bs.no P w K) sp_with_others))
    {f_same : Addr} {fd_same : FuncData} (F_same : FunOn K mg "_law_same" s_same ["_law_found", "_law_due"] f_same fd_same) (G_same : FnOk P w K mg base CX0 13 f_same fd_same ["_law_found", "_law_due"] (lift (Bs.no P w K) (sp_same 12)))
    {f_names_of : Addr} {fd_names_of : FuncData} (F_names_of : FunOn K mg "_law_names_of" s_names_of ["_law_e"] f_names_of fd_names_of) (G_names_of : FnOk P w K mg base CX0 1 f_names_of fd_names_of ["_law_e"] (lift (Bs.no P w K) sp_names_of))
    {f_caught : Addr} {fd_caught : FuncData} (F_caught : FunOn K mg "_law_caught" s_caught ["_law_e"] f_caught fd_caught) (G_caught : FnOk P w K mg base CX0 1 f_caught fd_caught ["_law_e"] (lift (Bs.no P w K) sp_caught))
    {f_named_right : Addr} {fd_named_right : FuncData} (F_named_right : FunOn K mg "_law_named_right" s_named_right ["_law_a", "_law_b"] f_named_right fd_named_right) (G_named_right : FnOk P w K mg base CX0 16 f_named_right fd_named_right ["_law_a", "_law_b"] (lift (Bs.no P w K) sp_named_right))
    {f_raised : Addr} {fd_raised : FuncData} (F_raised : FunOn K mg "_law_raised" s_raised ["_law_form", "_law_a"] f_raised fd_raised) (G_raised : FnOk P w K mg base CX0 4 f_raised fd_raised ["_law_form", "_law_a"] (lift (Bs.no P w K) sp_raised)) : FnOk P w K mg base CX0 19 f_law fd_law ["_law_script"] (lift (Bs.no P w K) sp_law) := by
  refine fn_ok (t := t_law) (k := 18) F_law.F sc_law fun cdv A outer s H E hr => ?_
  exact (pds_cons (pds_for PassesOwn.never rfl (pdi_rng1 (by rfl) T.range' (pda_cons (pd_max2 rfl (by rfl) T.max' (pda_cons pd_int (pda_cons (pd_min2 rfl (by rfl) T.min' (pda_cons pd_int (pda_cons (pd_len (by rfl) T.len' (pda_cons (pd_var 0) pda_nil)) pda_nil))) pda_nil))) pda_nil)) (pdg_name 1 sc_law.nd) (pds_cons (pds_set 2 sc_law.nd (pd_call G_feed_of (hr.mono (by decide)) (by rfl) F_feed_of.g F_feed_of.F.kp F_feed_of.b (pda_cons (pd_var 0) (pda_cons (pd_var 1) pda_nil))))
    (pds_cons (pds_asg (pd_tup (pda_cons (pd_call G_any_value (hr.mono (by decide)) (by rfl) F_any_value.g F_any_value.F.kp F_any_value.b (pda_cons (pd_var 2) pda_nil)) (pda_cons (pd_call G_any_value (hr.mono (by decide)) (by rfl) F_any_value.g F_any_value.F.kp F_any_value.b (pda_cons (pd_var 2) pda_nil)) pda_nil))) (pdg_tup rfl (pdgs_cons (pdg_name 3 sc_law.nd) (pdgs_cons (pdg_name 4 sc_law.nd) pdgs_nil))))
    (pds_cons (pds_set 5 sc_law.nd (pd_add (pd_call G_with_places (hr.mono (by decide)) (by rfl) F_with_places.g F_with_places.F.kp F_with_places.b (pda_cons (pd_var 3) pda_nil)) (pd_call G_with_others (hr.mono (by decide)) (by rfl) F_with_others.g F_with_others.F.kp F_with_others.b (pda_cons (pd_var 3) pda_nil))))
    (pds_cons (pds_for PassesOwn.never rfl (pdi_enum (by rfl) T.enumerate' (pda_cons (pd_var 5) pda_nil)) (pdg_tup rfl (pdgs_cons (pdg_name 6 sc_law.nd) (pdgs_cons (pdg_tup rfl (pdgs_cons (pdg_name 7 sc_law.nd) (pdgs_cons (pdg_name 8 sc_law.nd) pdgs_nil))) pdgs_nil))) (pds_one (pds_if (PDW.pt (pdw_or (pdt_not (pdt_tru (pd_call G_same (hr.mono (by decide)) (by rfl) F_same.g F_same.F.kp F_same.b (pda_cons (pd_var 8) (pda_cons (pd_var 3) pda_nil))))) (pdw_or (pdt_ne hr (pd_call G_names_of (hr.mono (by decide)) (by rfl) F_names_of.g F_names_of.F.kp F_names_of.b (pda_cons (pd_var 7) pda_nil)) (pd_lst (pda_cons (pd_var 6) pda_nil))) (pdw_or1 (pdt_not (pdt_tru (pd_call G_caught (hr.mono (by decide)) (by rfl) F_caught.g F_caught.F.kp F_caught.b (pda_cons (pd_var 7) pda_nil)))))))) (pds_one (pds_ret pd_bl)) pds_nil)))
    (pds_cons (pds_if (pdt_not (pdt_tru (pd_call G_named_right (hr.mono (by decide)) (by rfl) F_named_right.g F_named_right.F.kp F_named_right.b (pda_cons (pd_var 3) (pda_cons (pd_var 4) pda_nil))))) (pds_one (pds_ret pd_bl)) pds_nil)
    (pds_cons (pds_set 9 sc_law.nd (pd_exn2 T.x2_BadName (hr.mono (by decide)) (by rfl) T.g_BadName T.n_BadName T.super' (pda_cons (pd_var 3) (pda_cons (pd_var 4) pda_nil))))
    (pds_cons (pds_if (PDW.pt (pdw_or (pdt_not (pdt_tru (pd_call G_same (hr.mono (by decide)) (by rfl) F_same.g F_same.F.kp F_same.b (pda_cons (pd_lst (pda_cons (pd_xv (cs := ["BadLine", "BadKind", "BadName"]) T.xf_line (pd_var 9)) (pda_cons (pd_xv (cs := ["NoTarget", "NotSource", "Mismatch", "Taken", "BadName"]) T.xf_name (pd_var 9)) pda_nil))) (pda_cons (pd_lst (pda_cons (pd_var 3) (pda_cons (pd_var 4) pda_nil))) pda_nil))))) (pdw_or (pdt_ne hr (pd_call G_names_of (hr.mono (by decide)) (by rfl) F_names_of.g F_names_of.F.kp F_names_of.b (pda_cons (pd_var 9) pda_nil)) (pd_lst (pda_cons pd_int pda_nil))) (pdw_or1 (pdt_not (pdt_tru (pd_call G_caught (hr.mono (by decide)) (by rfl) F_caught.g F_caught.F.kp F_caught.b (pda_cons (pd_var 9) pda_nil)))))))) (pds_one (pds_ret pd_bl)) pds_nil)
    (pds_cons (pds_if (PDW.pt (pdw_or (pdt_not (pdt_tru (pd_call G_caught (hr.mono (by decide)) (by rfl) F_caught.g F_caught.F.kp F_caught.b (pda_cons (pd_exn0 T.x_Halted (hr.mono (by decide)) (by rfl) T.g_Halted T.n_Halted T.super') pda_nil)))) (pdw_or (pdt_not (pdt_tru (pd_call G_caught (hr.mono (by decide)) (by rfl) F_caught.g F_caught.F.kp F_caught.b (pda_cons (pd_exn0 T.x_NoRow (hr.mono (by decide)) (by rfl) T.g_NoRow T.n_NoRow T.super') pda_nil)))) (pdw_or1 (pdt_ne hr (pd_call G_names_of (hr.mono (by decide)) (by rfl) F_names_of.g F_names_of.F.kp F_names_of.b (pda_cons (pd_exn0 T.x_NoRow (hr.mono (by decide)) (by rfl) T.g_NoRow T.n_NoRow T.super') pda_nil)) (pd_lst (pda_cons pd_int pda_nil))))))) (pds_one (pds_ret pd_bl)) pds_nil)
    (pds_cons (pds_par 10 11 rfl sc_law.nd (pda_cons (pd_exnK T.x_NotAsked (hr.mono (by decide)) (by rfl) T.g_NotAsked T.n_NotAsked T.super' (pda_cons (pd_var 3) pda_nil)) (pda_cons (pd_exnI T.x_NoVersion (hr.mono (by decide)) (by rfl) T.g_NoVersion T.n_NoVersion T.super' (pda_cons (pd_var 4) pda_nil)) pda_nil)))
    (pds_cons (pds_if (PDW.pt (pdw_or (pdt_not (pdt_tru (pd_isVB (by rfl) T.isinstance' (by rfl) T.KeyError' (by decide +kernel) T.kb_KeyError (pd_var 10)))) (pdw_or (pdt_not (pdt_tru (pd_isVB (by rfl) T.isinstance' (by rfl) T.IndexError' (by decide +kernel) T.kb_IndexError (pd_var 11)))) (pdw_or1 (pdt_tru (pd_isV (by rfl) T.isinstance' (by rfl) T.g_BuildError T.ki_BuildError (pd_var 11))))))) (pds_one (pds_ret pd_bl)) pds_nil)
    (pds_cons (pds_if (PDW.pt (pdw_or (pdt_not (pdt_tru (pd_call G_same (hr.mono (by decide)) (by rfl) F_same.g F_same.F.kp F_same.b (pda_cons (pd_lst (pda_cons (pd_xv (cs := ["NotSettled", "NotOpen", "NotAsked"]) T.xf_key (pd_var 10)) (pda_cons (pd_xv (cs := ["NoVersion"]) T.xf_number (pd_var 11)) pda_nil))) (pda_cons (pd_lst (pda_cons (pd_var 3) (pda_cons (pd_var 4) pda_nil))) pda_nil))))) (pdw_or1 (pdt_tru (pd_isV (by rfl) T.isinstance' (by rfl) T.g_BuildError T.ki_BuildError (pd_var 10)))))) (pds_one (pds_ret pd_bl)) pds_nil)
    (pds_cons (pds_if (PDW.pt (pdw_or (pdt_ne hr (pd_call G_names_of (hr.mono (by decide)) (by rfl) F_names_of.g F_names_of.F.kp F_names_of.b (pda_cons (pd_var 10) pda_nil)) (pd_lst (pda_cons pd_int pda_nil))) (pdw_or (pdt_ne hr (pd_call G_names_of (hr.mono (by decide)) (by rfl) F_names_of.g F_names_of.F.kp F_names_of.b (pda_cons (pd_var 11) pda_nil)) (pd_lst (pda_cons pd_int pda_nil))) (pdw_or1 (pdt_ne hr (pd_call G_names_of (hr.mono (by decide)) (by rfl) F_names_of.g F_names_of.F.kp F_names_of.b (pda_cons (pd_exn0 T.x_Halted (hr.mono (by decide)) (by rfl) T.g_Halted T.n_Halted T.super') pda_nil)) (pd_lst (pda_cons pd_int pda_nil))))))) (pds_one (pds_ret pd_bl)) pds_nil)
    (pds_one (pds_if (pdt_ne hr (pd_lc (own := [("_law_form", 12)]) rfl sc_law.nd (pdi_rng1 (by rfl) T.range' (pda_cons pd_int pda_nil)) (blkOk_by (own := [("_law_form", 12)]) (N := N_law) (sc := defScope s_law) (by decide +kernel)) (fun _ _ _ _ _ => (pdc_name 12 sc_law.nd)) (fun _ _ _ _ _ => pdts_nil) (fun _ _ _ _ _ => (pd_call G_raised (hr.mono (by decide)) (by rfl) F_raised.g F_raised.F.kp F_raised.b (pda_cons (pd_var 12) (pda_cons (pd_var 3) pda_nil))))) (pd_lst (pda_cons (pd_tup (pda_cons pd_str (pda_cons (pd_var 3) pda_nil))) (pda_cons (pd_tup (pda_cons pd_str pda_nil)) (pda_cons (pd_tup (pda_cons pd_str (pda_cons pd_bl pda_nil))) (pda_cons pd_str pda_nil)))))) (pds_one (pds_ret pd_bl)) pds_nil)))))))))))))))
    (pds_one (pds_ret pd_bl)))
end
end K01

namespace K01
open PySem PySem.Spec PyProof.Rows L2 FD
theorem _root_.exm_typ {K : PySem.W.Frag} {cls : Value} {n : String} {b : Bool} (h1 : PySem.W.subIn K (.type n) (.type "BaseException") = some true) (h2 : PySem.W.kitMeta n = true) (h3 : PySem.W.subIn K cls (.type n) = some b) : PySem.W.exmOne K cls (.type n) = some b := by
  have e1 : (PySem.W.subIn K (.type n) (.type "BaseException") == some true) = true := by rw [h1] <;> rfl
  show (if (PySem.W.subIn K (.type n) (.type "BaseException") == some true) = true then (if PySem.W.kitMeta n = true then PySem.W.subIn K cls (.type n) else none) else none) = some b
  rw [if_pos e1, if_pos h2]
  exact h3
theorem all_mk {l : PySem.W.OpenLaw} {w : World} {K : PySem.W.Frag} {h : Heap} {mg : Str → Option Value} {fa : Addr} (X : K.In h) (G : h.Ns mainGlobals mg) (hfa : mg "law" = some (.ref fa))
    {c_BadEntry : Addr} (n_BadEntry : PySem.W.nsIn K mainGlobals "BadEntry" = some (some (.ref c_BadEntry)))
    {c_BadKind : Addr} (n_BadKind : PySem.W.nsIn K mainGlobals "BadKind" = some (some (.ref c_BadKind)))
    {c_BadLine : Addr} (n_BadLine : PySem.W.nsIn K mainGlobals "BadLine" = some (some (.ref c_BadLine)))
    {c_BadName : Addr} (n_BadName : PySem.W.nsIn K mainGlobals "BadName" = some (some (.ref c_BadName)))
    {c_BadTree : Addr} (n_BadTree : PySem.W.nsIn K mainGlobals "BadTree" = some (some (.ref c_BadTree)))
    {c_BuildError : Addr} (n_BuildError : PySem.W.nsIn K mainGlobals "BuildError" = some (some (.ref c_BuildError)))
    {c_Clash : Addr} (n_Clash : PySem.W.nsIn K mainGlobals "Clash" = some (some (.ref c_Clash)))
    {c_Conflict : Addr} (n_Conflict : PySem.W.nsIn K mainGlobals "Conflict" = some (some (.ref c_Conflict)))
    {c_Failed : Addr} (n_Failed : PySem.W.nsIn K mainGlobals "Failed" = some (some (.ref c_Failed)))
    {c_Gap : Addr} (n_Gap : PySem.W.nsIn K mainGlobals "Gap" = some (some (.ref c_Gap)))
    {c_Halted : Addr} (n_Halted : PySem.W.nsIn K mainGlobals "Halted" = some (some (.ref c_Halted)))
    {c_Mismatch : Addr} (n_Mismatch : PySem.W.nsIn K mainGlobals "Mismatch" = some (some (.ref c_Mismatch)))
    {c_NoPlace : Addr} (n_NoPlace : PySem.W.nsIn K mainGlobals "NoPlace" = some (some (.ref c_NoPlace)))
    {c_NoRow : Addr} (n_NoRow : PySem.W.nsIn K mainGlobals "NoRow" = some (some (.ref c_NoRow)))
    {c_NoTarget : Addr} (n_NoTarget : PySem.W.nsIn K mainGlobals "NoTarget" = some (some (.ref c_NoTarget)))
    {c_NoVersion : Addr} (n_NoVersion : PySem.W.nsIn K mainGlobals "NoVersion" = some (some (.ref c_NoVersion)))
    {c_NotAsked : Addr} (n_NotAsked : PySem.W.nsIn K mainGlobals "NotAsked" = some (some (.ref c_NotAsked)))
    {c_NotCause : Addr} (n_NotCause : PySem.W.nsIn K mainGlobals "NotCause" = some (some (.ref c_NotCause)))
    {c_NotFresh : Addr} (n_NotFresh : PySem.W.nsIn K mainGlobals "NotFresh" = some (some (.ref c_NotFresh)))
    {c_NotNeeded : Addr} (n_NotNeeded : PySem.W.nsIn K mainGlobals "NotNeeded" = some (some (.ref c_NotNeeded)))
    {c_NotOpen : Addr} (n_NotOpen : PySem.W.nsIn K mainGlobals "NotOpen" = some (some (.ref c_NotOpen)))
    {c_NotPart : Addr} (n_NotPart : PySem.W.nsIn K mainGlobals "NotPart" = some (some (.ref c_NotPart)))
    {c_NotSettled : Addr} (n_NotSettled : PySem.W.nsIn K mainGlobals "NotSettled" = some (some (.ref c_NotSettled)))
    {c_NotSource : Addr} (n_NotSource : PySem.W.nsIn K mainGlobals "NotSource" = some (some (.ref c_NotSource)))
    {c_Rewritten : Addr} (n_Rewritten : PySem.W.nsIn K mainGlobals "Rewritten" = some (some (.ref c_Rewritten)))
    {c_Stuck : Addr} (n_Stuck : PySem.W.nsIn K mainGlobals "Stuck" = some (some (.ref c_Stuck)))
    {c_Taken : Addr} (n_Taken : PySem.W.nsIn K mainGlobals "Taken" = some (some (.ref c_Taken)))
    {f0 : Addr} {od0 an0 : Option Addr} {sl0 : Array (Option Value)} {oc0 kV0 dc0 pm0 cd0 ct0 : Value} (a0 : PySem.W.nsIn K mainGlobals "_law_feed_of" = some (some (.ref f0))) (l0 : K.lookup f0 = some ⟨oc0, od0, .func (PySem.W.fnOf "_law_feed_of" "_law_feed_of" (defArgs s_feed_of) (defBody s_feed_of) (defScope s_feed_of) .none kV0 dc0 pm0 an0 cd0 ct0), sl0⟩) (c0 : PySem.W.codeIn K cd0 "_law_feed_of" = true) (k0 : PySem.W.keepIn K (.ref f0) = true)
    {f1 : Addr} {od1 an1 : Option Addr} {sl1 : Array (Option Value)} {oc1 kV1 dc1 pm1 cd1 ct1 : Value} (a1 : PySem.W.nsIn K mainGlobals "_law_draw" = some (some (.ref f1))) (l1 : K.lookup f1 = some ⟨oc1, od1, .func (PySem.W.fnOf "_law_draw" "_law_draw" (defArgs s_draw) (defBody s_draw) (defScope s_draw) .none kV1 dc1 pm1 an1 cd1 ct1), sl1⟩) (c1 : PySem.W.codeIn K cd1 "_law_draw" = true) (k1 : PySem.W.keepIn K (.ref f1) = true)
    {f2 : Addr} {od2 an2 : Option Addr} {sl2 : Array (Option Value)} {oc2 kV2 dc2 pm2 cd2 ct2 : Value} (a2 : PySem.W.nsIn K mainGlobals "_law_pick" = some (some (.ref f2))) (l2 : K.lookup f2 = some ⟨oc2, od2, .func (PySem.W.fnOf "_law_pick" "_law_pick" (defArgs s_pick) (defBody s_pick) (defScope s_pick) .none kV2 dc2 pm2 an2 cd2 ct2), sl2⟩) (c2 : PySem.W.codeIn K cd2 "_law_pick" = true) (k2 : PySem.W.keepIn K (.ref f2) = true)
    {f3 : Addr} {od3 an3 : Option Addr} {sl3 : Array (Option Value)} {oc3 kV3 dc3 pm3 cd3 ct3 : Value} (a3 : PySem.W.nsIn K mainGlobals "_law_calls" = some (some (.ref f3))) (l3 : K.lookup f3 = some ⟨oc3, od3, .func (PySem.W.fnOf "_law_calls" "_law_calls" (defArgs s_calls) (defBody s_calls) (defScope s_calls) .none kV3 dc3 pm3 an3 cd3 ct3), sl3⟩) (c3 : PySem.W.codeIn K cd3 "_law_calls" = true) (k3 : PySem.W.keepIn K (.ref f3) = true)
    {f4 : Addr} {od4 an4 : Option Addr} {sl4 : Array (Option Value)} {oc4 kV4 dc4 pm4 cd4 ct4 : Value} (a4 : PySem.W.nsIn K mainGlobals "_law_some_text" = some (some (.ref f4))) (l4 : K.lookup f4 = some ⟨oc4, od4, .func (PySem.W.fnOf "_law_some_text" "_law_some_text" (defArgs s_some_text) (defBody s_some_text) (defScope s_some_text) .none kV4 dc4 pm4 an4 cd4 ct4), sl4⟩) (c4 : PySem.W.codeIn K cd4 "_law_some_text" = true) (k4 : PySem.W.keepIn K (.ref f4) = true)
    {f5 : Addr} {od5 an5 : Option Addr} {sl5 : Array (Option Value)} {oc5 kV5 dc5 pm5 cd5 ct5 : Value} (a5 : PySem.W.nsIn K mainGlobals "_law_any_value" = some (some (.ref f5))) (l5 : K.lookup f5 = some ⟨oc5, od5, .func (PySem.W.fnOf "_law_any_value" "_law_any_value" (defArgs s_any_value) (defBody s_any_value) (defScope s_any_value) .none kV5 dc5 pm5 an5 cd5 ct5), sl5⟩) (c5 : PySem.W.codeIn K cd5 "_law_any_value" = true) (k5 : PySem.W.keepIn K (.ref f5) = true)
    {f6 : Addr} {od6 an6 : Option Addr} {sl6 : Array (Option Value)} {oc6 kV6 dc6 pm6 cd6 ct6 : Value} (a6 : PySem.W.nsIn K mainGlobals "_law_with_places" = some (some (.ref f6))) (l6 : K.lookup f6 = some ⟨oc6, od6, .func (PySem.W.fnOf "_law_with_places" "_law_with_places" (defArgs s_with_places) (defBody s_with_places) (defScope s_with_places) .none kV6 dc6 pm6 an6 cd6 ct6), sl6⟩) (c6 : PySem.W.codeIn K cd6 "_law_with_places" = true) (k6 : PySem.W.keepIn K (.ref f6) = true)
    {f7 : Addr} {od7 an7 : Option Addr} {sl7 : Array (Option Value)} {oc7 kV7 dc7 pm7 cd7 ct7 : Value} (a7 : PySem.W.nsIn K mainGlobals "_law_with_others" = some (some (.ref f7))) (l7 : K.lookup f7 = some ⟨oc7, od7, .func (PySem.W.fnOf "_law_with_others" "_law_with_others" (defArgs s_with_others) (defBody s_with_others) (defScope s_with_others) .none kV7 dc7 pm7 an7 cd7 ct7), sl7⟩) (c7 : PySem.W.codeIn K cd7 "_law_with_others" = true) (k7 : PySem.W.keepIn K (.ref f7) = true)
    {f8 : Addr} {od8 an8 : Option Addr} {sl8 : Array (Option Value)} {oc8 kV8 dc8 pm8 cd8 ct8 : Value} (a8 : PySem.W.nsIn K mainGlobals "_law_same" = some (some (.ref f8))) (l8 : K.lookup f8 = some ⟨oc8, od8, .func (PySem.W.fnOf "_law_same" "_law_same" (defArgs s_same) (defBody s_same) (defScope s_same) .none kV8 dc8 pm8 an8 cd8 ct8), sl8⟩) (c8 : PySem.W.codeIn K cd8 "_law_same" = true) (k8 : PySem.W.keepIn K (.ref f8) = true)
    {f9 : Addr} {od9 an9 : Option Addr} {sl9 : Array (Option Value)} {oc9 kV9 dc9 pm9 cd9 ct9 : Value} (a9 : PySem.W.nsIn K mainGlobals "_law_names_of" = some (some (.ref f9))) (l9 : K.lookup f9 = some ⟨oc9, od9, .func (PySem.W.fnOf "_law_names_of" "_law_names_of" (defArgs s_names_of) (defBody s_names_of) (defScope s_names_of) .none kV9 dc9 pm9 an9 cd9 ct9), sl9⟩) (c9 : PySem.W.codeIn K cd9 "_law_names_of" = true) (k9 : PySem.W.keepIn K (.ref f9) = true)
    {f10 : Addr} {od10 an10 : Option Addr} {sl10 : Array (Option Value)} {oc10 kV10 dc10 pm10 cd10 ct10 : Value} (a10 : PySem.W.nsIn K mainGlobals "_law_caught" = some (some (.ref f10))) (l10 : K.lookup f10 = some ⟨oc10, od10, .func (PySem.W.fnOf "_law_caught" "_law_caught" (defArgs s_caught) (defBody s_caught) (defScope s_caught) .none kV10 dc10 pm10 an10 cd10 ct10), sl10⟩) (c10 : PySem.W.codeIn K cd10 "_law_caught" = true) (k10 : PySem.W.keepIn K (.ref f10) = true)
    {f11 : Addr} {od11 an11 : Option Addr} {sl11 : Array (Option Value)} {oc11 kV11 dc11 pm11 cd11 ct11 : Value} (a11 : PySem.W.nsIn K mainGlobals "_law_named_right" = some (some (.ref f11))) (l11 : K.lookup f11 = some ⟨oc11, od11, .func (PySem.W.fnOf "_law_named_right" "_law_named_right" (defArgs s_named_right) (defBody s_named_right) (defScope s_named_right) .none kV11 dc11 pm11 an11 cd11 ct11), sl11⟩) (c11 : PySem.W.codeIn K cd11 "_law_named_right" = true) (k11 : PySem.W.keepIn K (.ref f11) = true)
    {f12 : Addr} {od12 an12 : Option Addr} {sl12 : Array (Option Value)} {oc12 kV12 dc12 pm12 cd12 ct12 : Value} (a12 : PySem.W.nsIn K mainGlobals "_law_raised" = some (some (.ref f12))) (l12 : K.lookup f12 = some ⟨oc12, od12, .func (PySem.W.fnOf "_law_raised" "_law_raised" (defArgs s_raised) (defBody s_raised) (defScope s_raised) .none kV12 dc12 pm12 an12 cd12 ct12), sl12⟩) (c12 : PySem.W.codeIn K cd12 "_law_raised" = true) (k12 : PySem.W.keepIn K (.ref f12) = true)
    {f13 : Addr} {od13 an13 : Option Addr} {sl13 : Array (Option Value)} {oc13 kV13 dc13 pm13 cd13 ct13 : Value} (a13 : PySem.W.nsIn K mainGlobals "law" = some (some (.ref f13))) (l13 : K.lookup f13 = some ⟨oc13, od13, .func (PySem.W.fnOf "law" "law" (defArgs s_law) (defBody s_law) (defScope s_law) .none kV13 dc13 pm13 an13 cd13 ct13), sl13⟩) (c13 : PySem.W.codeIn K cd13 "law" = true) (k13 : PySem.W.keepIn K (.ref f13) = true)
    (z0 : PySem.W.nsIn K mainGlobals "IndexError" = some none)
    (z1 : PySem.W.nsIn K mainGlobals "KeyError" = some none)
    (z2 : PySem.W.nsIn K mainGlobals "LookupError" = some none)
    (z3 : PySem.W.nsIn K mainGlobals "ValueError" = some none)
    (z4 : PySem.W.nsIn K mainGlobals "all" = some none)
    (z5 : PySem.W.nsIn K mainGlobals "bool" = some none)
    (z6 : PySem.W.nsIn K mainGlobals "enumerate" = some none)
    (z7 : PySem.W.nsIn K mainGlobals "int" = some none)
    (z8 : PySem.W.nsIn K mainGlobals "isinstance" = some none)
    (z9 : PySem.W.nsIn K mainGlobals "len" = some none)
    (z10 : PySem.W.nsIn K mainGlobals "list" = some none)
    (z11 : PySem.W.nsIn K mainGlobals "max" = some none)
    (z12 : PySem.W.nsIn K mainGlobals "min" = some none)
    (z13 : PySem.W.nsIn K mainGlobals "range" = some none)
    (z14 : PySem.W.nsIn K mainGlobals "str" = some none)
    (z15 : PySem.W.nsIn K mainGlobals "super" = some none)
    (z16 : PySem.W.nsIn K mainGlobals "tuple" = some none)
    (z17 : PySem.W.nsIn K mainGlobals "zip" = some none)
    {i_BadEntry : Addr} (x_BadEntry : XCls K l.prog c_BadEntry i_BadEntry "entry" "entry")
    {i_BadKind : Addr} (x_BadKind : XCls K l.prog c_BadKind i_BadKind "line" "line")
    {i_BadLine : Addr} (x_BadLine : XCls K l.prog c_BadLine i_BadLine "line" "line")
    {i_BadTree : Addr} (x_BadTree : XCls K l.prog c_BadTree i_BadTree "path" "path")
    {i_Clash : Addr} (x_Clash : XCls K l.prog c_Clash i_Clash "spot" "spot")
    {i_Conflict : Addr} (x_Conflict : XCls K l.prog c_Conflict i_Conflict "conflicts" "conflicts")
    {i_Failed : Addr} (x_Failed : XCls K l.prog c_Failed i_Failed "path" "path")
    {i_Gap : Addr} (x_Gap : XCls K l.prog c_Gap i_Gap "spot" "spot")
    {i_Mismatch : Addr} (x_Mismatch : XCls K l.prog c_Mismatch i_Mismatch "name" "name")
    {i_NoPlace : Addr} (x_NoPlace : XCls K l.prog c_NoPlace i_NoPlace "spot" "spot")
    {i_NoTarget : Addr} (x_NoTarget : XCls K l.prog c_NoTarget i_NoTarget "name" "name")
    {i_NoVersion : Addr} (x_NoVersion : XClsI K l.prog c_NoVersion i_NoVersion "number" "number")
    {i_NotAsked : Addr} (x_NotAsked : XClsK K l.prog c_NotAsked i_NotAsked "key" "key")
    {i_NotCause : Addr} (x_NotCause : XCls K l.prog c_NotCause i_NotCause "cause" "cause")
    {i_NotFresh : Addr} (x_NotFresh : XCls K l.prog c_NotFresh i_NotFresh "words" "words")
    {i_NotNeeded : Addr} (x_NotNeeded : XCls K l.prog c_NotNeeded i_NotNeeded "spot" "spot")
    {i_NotOpen : Addr} (x_NotOpen : XCls K l.prog c_NotOpen i_NotOpen "key" "key")
    {i_NotPart : Addr} (x_NotPart : XCls K l.prog c_NotPart i_NotPart "spot" "spot")
    {i_NotSettled : Addr} (x_NotSettled : XCls K l.prog c_NotSettled i_NotSettled "key" "key")
    {i_NotSource : Addr} (x_NotSource : XCls K l.prog c_NotSource i_NotSource "name" "name")
    {i_Rewritten : Addr} (x_Rewritten : XCls K l.prog c_Rewritten i_Rewritten "spot" "spot")
    {i_Stuck : Addr} (x_Stuck : XCls K l.prog c_Stuck i_Stuck "ring" "ring")
    {i_Taken : Addr} (x_Taken : XCls K l.prog c_Taken i_Taken "name" "name")
    {i_Halted : Addr} (x_Halted : XCls0 K l.prog c_Halted i_Halted)
    {i_NoRow : Addr} (x_NoRow : XCls0 K l.prog c_NoRow i_NoRow)
    (xw_BadEntry : XClsW K l.prog c_BadEntry i_BadEntry "entry" "entry")
    (xw_BadLine : XClsW K l.prog c_BadLine i_BadLine "line" "line")
    (xw_BadTree : XClsW K l.prog c_BadTree i_BadTree "path" "path")
    (xw_Clash : XClsW K l.prog c_Clash i_Clash "spot" "spot")
    (xw_Conflict : XClsW K l.prog c_Conflict i_Conflict "conflicts" "conflicts")
    (xw_NoVersion : XClsWI K l.prog c_NoVersion i_NoVersion "number" "number")
    (xw_NotAsked : XClsWK K l.prog c_NotAsked i_NotAsked "key" "key")
    (xw_Stuck : XClsW K l.prog c_Stuck i_Stuck "ring" "ring")
    {i_BadName : Addr} (x2_BadName : XCls2 K l.prog c_BadName i_BadName "line" "name" "line" "name")
    (xw2_BadName : XCls2W K l.prog c_BadName i_BadName "line" "name" "line" "name")
    (exb_KeyError : PySem.W.exmOne K (.ref c_BadEntry) (.type "KeyError") = some false ∧ PySem.W.exmOne K (.ref c_BadKind) (.type "KeyError") = some false ∧ PySem.W.exmOne K (.ref c_BadLine) (.type "KeyError") = some false ∧ PySem.W.exmOne K (.ref c_BadName) (.type "KeyError") = some false ∧ PySem.W.exmOne K (.ref c_BadTree) (.type "KeyError") = some false ∧ PySem.W.exmOne K (.ref c_Clash) (.type "KeyError") = some false ∧ PySem.W.exmOne K (.ref c_Conflict) (.type "KeyError") = some false ∧ PySem.W.exmOne K (.ref c_Failed) (.type "KeyError") = some false ∧ PySem.W.exmOne K (.ref c_Gap) (.type "KeyError") = some false ∧ PySem.W.exmOne K (.ref c_Halted) (.type "KeyError") = some false ∧ PySem.W.exmOne K (.ref c_Mismatch) (.type "KeyError") = some false ∧ PySem.W.exmOne K (.ref c_NoPlace) (.type "KeyError") = some false ∧ PySem.W.exmOne K (.ref c_NoRow) (.type "KeyError") = some false ∧ PySem.W.exmOne K (.ref c_NoTarget) (.type "KeyError") = some false ∧ PySem.W.exmOne K (.ref c_NoVersion) (.type "KeyError") = some false ∧ PySem.W.exmOne K (.ref c_NotAsked) (.type "KeyError") = some true ∧ PySem.W.exmOne K (.ref c_NotCause) (.type "KeyError") = some false ∧ PySem.W.exmOne K (.ref c_NotFresh) (.type "KeyError") = some false ∧ PySem.W.exmOne K (.ref c_NotNeeded) (.type "KeyError") = some false ∧ PySem.W.exmOne K (.ref c_NotOpen) (.type "KeyError") = some false ∧ PySem.W.exmOne K (.ref c_NotPart) (.type "KeyError") = some false ∧ PySem.W.exmOne K (.ref c_NotSettled) (.type "KeyError") = some false ∧ PySem.W.exmOne K (.ref c_NotSource) (.type "KeyError") = some false ∧ PySem.W.exmOne K (.ref c_Rewritten) (.type "KeyError") = some false ∧ PySem.W.exmOne K (.ref c_Stuck) (.type "KeyError") = some false ∧ PySem.W.exmOne K (.ref c_Taken) (.type "KeyError") = some false)
    (ec : ExcC K c_BadEntry ∧ ExcC K c_BadKind ∧ ExcC K c_BadLine ∧ ExcC K c_BadName ∧ ExcC K c_BadTree ∧ ExcC K c_Clash ∧ ExcC K c_Conflict ∧ ExcC K c_Failed ∧ ExcC K c_Gap ∧ ExcC K c_Halted ∧ ExcC K c_Mismatch ∧ ExcC K c_NoPlace ∧ ExcC K c_NoRow ∧ ExcC K c_NoTarget ∧ ExcC K c_NoVersion ∧ ExcC K c_NotAsked ∧ ExcC K c_NotCause ∧ ExcC K c_NotFresh ∧ ExcC K c_NotNeeded ∧ ExcC K c_NotOpen ∧ ExcC K c_NotPart ∧ ExcC K c_NotSettled ∧ ExcC K c_NotSource ∧ ExcC K c_Rewritten ∧ ExcC K c_Stuck ∧ ExcC K c_Taken)
    (kb_IndexError : PySem.W.kitOne K (.ref c_BadEntry) (.type "IndexError") = some false ∧ PySem.W.kitOne K (.ref c_BadKind) (.type "IndexError") = some false ∧ PySem.W.kitOne K (.ref c_BadLine) (.type "IndexError") = some false ∧ PySem.W.kitOne K (.ref c_BadName) (.type "IndexError") = some false ∧ PySem.W.kitOne K (.ref c_BadTree) (.type "IndexError") = some false ∧ PySem.W.kitOne K (.ref c_Clash) (.type "IndexError") = some false ∧ PySem.W.kitOne K (.ref c_Conflict) (.type "IndexError") = some false ∧ PySem.W.kitOne K (.ref c_Failed) (.type "IndexError") = some false ∧ PySem.W.kitOne K (.ref c_Gap) (.type "IndexError") = some false ∧ PySem.W.kitOne K (.ref c_Halted) (.type "IndexError") = some false ∧ PySem.W.kitOne K (.ref c_Mismatch) (.type "IndexError") = some false ∧ PySem.W.kitOne K (.ref c_NoPlace) (.type "IndexError") = some false ∧ PySem.W.kitOne K (.ref c_NoRow) (.type "IndexError") = some false ∧ PySem.W.kitOne K (.ref c_NoTarget) (.type "IndexError") = some false ∧ PySem.W.kitOne K (.ref c_NoVersion) (.type "IndexError") = some true ∧ PySem.W.kitOne K (.ref c_NotAsked) (.type "IndexError") = some false ∧ PySem.W.kitOne K (.ref c_NotCause) (.type "IndexError") = some false ∧ PySem.W.kitOne K (.ref c_NotFresh) (.type "IndexError") = some false ∧ PySem.W.kitOne K (.ref c_NotNeeded) (.type "IndexError") = some false ∧ PySem.W.kitOne K (.ref c_NotOpen) (.type "IndexError") = some false ∧ PySem.W.kitOne K (.ref c_NotPart) (.type "IndexError") = some false ∧ PySem.W.kitOne K (.ref c_NotSettled) (.type "IndexError") = some false ∧ PySem.W.kitOne K (.ref c_NotSource) (.type "IndexError") = some false ∧ PySem.W.kitOne K (.ref c_Rewritten) (.type "IndexError") = some false ∧ PySem.W.kitOne K (.ref c_Stuck) (.type "IndexError") = some false ∧ PySem.W.kitOne K (.ref c_Taken) (.type "IndexError") = some false)
    (kb_KeyError : PySem.W.kitOne K (.ref c_BadEntry) (.type "KeyError") = some false ∧ PySem.W.kitOne K (.ref c_BadKind) (.type "KeyError") = some false ∧ PySem.W.kitOne K (.ref c_BadLine) (.type "KeyError") = some false ∧ PySem.W.kitOne K (.ref c_BadName) (.type "KeyError") = some false ∧ PySem.W.kitOne K (.ref c_BadTree) (.type "KeyError") = some false ∧ PySem.W.kitOne K (.ref c_Clash) (.type "KeyError") = some false ∧ PySem.W.kitOne K (.ref c_Conflict) (.type "KeyError") = some false ∧ PySem.W.kitOne K (.ref c_Failed) (.type "KeyError") = some false ∧ PySem.W.kitOne K (.ref c_Gap) (.type "KeyError") = some false ∧ PySem.W.kitOne K (.ref c_Halted) (.type "KeyError") = some false ∧ PySem.W.kitOne K (.ref c_Mismatch) (.type "KeyError") = some false ∧ PySem.W.kitOne K (.ref c_NoPlace) (.type "KeyError") = some false ∧ PySem.W.kitOne K (.ref c_NoRow) (.type "KeyError") = some false ∧ PySem.W.kitOne K (.ref c_NoTarget) (.type "KeyError") = some false ∧ PySem.W.kitOne K (.ref c_NoVersion) (.type "KeyError") = some false ∧ PySem.W.kitOne K (.ref c_NotAsked) (.type "KeyError") = some true ∧ PySem.W.kitOne K (.ref c_NotCause) (.type "KeyError") = some false ∧ PySem.W.kitOne K (.ref c_NotFresh) (.type "KeyError") = some false ∧ PySem.W.kitOne K (.ref c_NotNeeded) (.type "KeyError") = some false ∧ PySem.W.kitOne K (.ref c_NotOpen) (.type "KeyError") = some false ∧ PySem.W.kitOne K (.ref c_NotPart) (.type "KeyError") = some false ∧ PySem.W.kitOne K (.ref c_NotSettled) (.type "KeyError") = some false ∧ PySem.W.kitOne K (.ref c_NotSource) (.type "KeyError") = some false ∧ PySem.W.kitOne K (.ref c_Rewritten) (.type "KeyError") = some false ∧ PySem.W.kitOne K (.ref c_Stuck) (.type "KeyError") = some false ∧ PySem.W.kitOne K (.ref c_Taken) (.type "KeyError") = some false)
    (kb_LookupError : PySem.W.kitOne K (.ref c_BadEntry) (.type "LookupError") = some false ∧ PySem.W.kitOne K (.ref c_BadKind) (.type "LookupError") = some false ∧ PySem.W.kitOne K (.ref c_BadLine) (.type "LookupError") = some false ∧ PySem.W.kitOne K (.ref c_BadName) (.type "LookupError") = some false ∧ PySem.W.kitOne K (.ref c_BadTree) (.type "LookupError") = some false ∧ PySem.W.kitOne K (.ref c_Clash) (.type "LookupError") = some false ∧ PySem.W.kitOne K (.ref c_Conflict) (.type "LookupError") = some false ∧ PySem.W.kitOne K (.ref c_Failed) (.type "LookupError") = some false ∧ PySem.W.kitOne K (.ref c_Gap) (.type "LookupError") = some false ∧ PySem.W.kitOne K (.ref c_Halted) (.type "LookupError") = some false ∧ PySem.W.kitOne K (.ref c_Mismatch) (.type "LookupError") = some false ∧ PySem.W.kitOne K (.ref c_NoPlace) (.type "LookupError") = some false ∧ PySem.W.kitOne K (.ref c_NoRow) (.type "LookupError") = some false ∧ PySem.W.kitOne K (.ref c_NoTarget) (.type "LookupError") = some false ∧ PySem.W.kitOne K (.ref c_NoVersion) (.type "LookupError") = some true ∧ PySem.W.kitOne K (.ref c_NotAsked) (.type "LookupError") = some true ∧ PySem.W.kitOne K (.ref c_NotCause) (.type "LookupError") = some false ∧ PySem.W.kitOne K (.ref c_NotFresh) (.type "LookupError") = some false ∧ PySem.W.kitOne K (.ref c_NotNeeded) (.type "LookupError") = some false ∧ PySem.W.kitOne K (.ref c_NotOpen) (.type "LookupError") = some false ∧ PySem.W.kitOne K (.ref c_NotPart) (.type "LookupError") = some false ∧ PySem.W.kitOne K (.ref c_NotSettled) (.type "LookupError") = some false ∧ PySem.W.kitOne K (.ref c_NotSource) (.type "LookupError") = some false ∧ PySem.W.kitOne K (.ref c_Rewritten) (.type "LookupError") = some false ∧ PySem.W.kitOne K (.ref c_Stuck) (.type "LookupError") = some false ∧ PySem.W.kitOne K (.ref c_Taken) (.type "LookupError") = some false)
    (kb_ValueError : PySem.W.kitOne K (.ref c_BadEntry) (.type "ValueError") = some true ∧ PySem.W.kitOne K (.ref c_BadKind) (.type "ValueError") = some true ∧ PySem.W.kitOne K (.ref c_BadLine) (.type "ValueError") = some true ∧ PySem.W.kitOne K (.ref c_BadName) (.type "ValueError") = some true ∧ PySem.W.kitOne K (.ref c_BadTree) (.type "ValueError") = some true ∧ PySem.W.kitOne K (.ref c_Clash) (.type "ValueError") = some true ∧ PySem.W.kitOne K (.ref c_Conflict) (.type "ValueError") = some true ∧ PySem.W.kitOne K (.ref c_Failed) (.type "ValueError") = some true ∧ PySem.W.kitOne K (.ref c_Gap) (.type "ValueError") = some true ∧ PySem.W.kitOne K (.ref c_Halted) (.type "ValueError") = some true ∧ PySem.W.kitOne K (.ref c_Mismatch) (.type "ValueError") = some true ∧ PySem.W.kitOne K (.ref c_NoPlace) (.type "ValueError") = some true ∧ PySem.W.kitOne K (.ref c_NoRow) (.type "ValueError") = some true ∧ PySem.W.kitOne K (.ref c_NoTarget) (.type "ValueError") = some true ∧ PySem.W.kitOne K (.ref c_NoVersion) (.type "ValueError") = some false ∧ PySem.W.kitOne K (.ref c_NotAsked) (.type "ValueError") = some false ∧ PySem.W.kitOne K (.ref c_NotCause) (.type "ValueError") = some true ∧ PySem.W.kitOne K (.ref c_NotFresh) (.type "ValueError") = some true ∧ PySem.W.kitOne K (.ref c_NotNeeded) (.type "ValueError") = some true ∧ PySem.W.kitOne K (.ref c_NotOpen) (.type "ValueError") = some true ∧ PySem.W.kitOne K (.ref c_NotPart) (.type "ValueError") = some true ∧ PySem.W.kitOne K (.ref c_NotSettled) (.type "ValueError") = some true ∧ PySem.W.kitOne K (.ref c_NotSource) (.type "ValueError") = some true ∧ PySem.W.kitOne K (.ref c_Rewritten) (.type "ValueError") = some true ∧ PySem.W.kitOne K (.ref c_Stuck) (.type "ValueError") = some true ∧ PySem.W.kitOne K (.ref c_Taken) (.type "ValueError") = some true)
    (ex_BuildError : PySem.W.exmOne K (.ref c_BadEntry) (.ref c_BuildError) = some true ∧ PySem.W.exmOne K (.ref c_BadKind) (.ref c_BuildError) = some true ∧ PySem.W.exmOne K (.ref c_BadLine) (.ref c_BuildError) = some true ∧ PySem.W.exmOne K (.ref c_BadName) (.ref c_BuildError) = some true ∧ PySem.W.exmOne K (.ref c_BadTree) (.ref c_BuildError) = some true ∧ PySem.W.exmOne K (.ref c_Clash) (.ref c_BuildError) = some true ∧ PySem.W.exmOne K (.ref c_Conflict) (.ref c_BuildError) = some true ∧ PySem.W.exmOne K (.ref c_Failed) (.ref c_BuildError) = some true ∧ PySem.W.exmOne K (.ref c_Gap) (.ref c_BuildError) = some true ∧ PySem.W.exmOne K (.ref c_Halted) (.ref c_BuildError) = some true ∧ PySem.W.exmOne K (.ref c_Mismatch) (.ref c_BuildError) = some true ∧ PySem.W.exmOne K (.ref c_NoPlace) (.ref c_BuildError) = some true ∧ PySem.W.exmOne K (.ref c_NoRow) (.ref c_BuildError) = some true ∧ PySem.W.exmOne K (.ref c_NoTarget) (.ref c_BuildError) = some true ∧ PySem.W.exmOne K (.ref c_NoVersion) (.ref c_BuildError) = some false ∧ PySem.W.exmOne K (.ref c_NotAsked) (.ref c_BuildError) = some false ∧ PySem.W.exmOne K (.ref c_NotCause) (.ref c_BuildError) = some true ∧ PySem.W.exmOne K (.ref c_NotFresh) (.ref c_BuildError) = some true ∧ PySem.W.exmOne K (.ref c_NotNeeded) (.ref c_BuildError) = some true ∧ PySem.W.exmOne K (.ref c_NotOpen) (.ref c_BuildError) = some true ∧ PySem.W.exmOne K (.ref c_NotPart) (.ref c_BuildError) = some true ∧ PySem.W.exmOne K (.ref c_NotSettled) (.ref c_BuildError) = some true ∧ PySem.W.exmOne K (.ref c_NotSource) (.ref c_BuildError) = some true ∧ PySem.W.exmOne K (.ref c_Rewritten) (.ref c_BuildError) = some true ∧ PySem.W.exmOne K (.ref c_Stuck) (.ref c_BuildError) = some true ∧ PySem.W.exmOne K (.ref c_Taken) (.ref c_BuildError) = some true)
    (ex_Stuck : PySem.W.exmOne K (.ref c_BadEntry) (.ref c_Stuck) = some false ∧ PySem.W.exmOne K (.ref c_BadKind) (.ref c_Stuck) = some false ∧ PySem.W.exmOne K (.ref c_BadLine) (.ref c_Stuck) = some false ∧ PySem.W.exmOne K (.ref c_BadName) (.ref c_Stuck) = some false ∧ PySem.W.exmOne K (.ref c_BadTree) (.ref c_Stuck) = some false ∧ PySem.W.exmOne K (.ref c_Clash) (.ref c_Stuck) = some false ∧ PySem.W.exmOne K (.ref c_Conflict) (.ref c_Stuck) = some false ∧ PySem.W.exmOne K (.ref c_Failed) (.ref c_Stuck) = some false ∧ PySem.W.exmOne K (.ref c_Gap) (.ref c_Stuck) = some false ∧ PySem.W.exmOne K (.ref c_Halted) (.ref c_Stuck) = some false ∧ PySem.W.exmOne K (.ref c_Mismatch) (.ref c_Stuck) = some false ∧ PySem.W.exmOne K (.ref c_NoPlace) (.ref c_Stuck) = some false ∧ PySem.W.exmOne K (.ref c_NoRow) (.ref c_Stuck) = some false ∧ PySem.W.exmOne K (.ref c_NoTarget) (.ref c_Stuck) = some false ∧ PySem.W.exmOne K (.ref c_NoVersion) (.ref c_Stuck) = some false ∧ PySem.W.exmOne K (.ref c_NotAsked) (.ref c_Stuck) = some false ∧ PySem.W.exmOne K (.ref c_NotCause) (.ref c_Stuck) = some false ∧ PySem.W.exmOne K (.ref c_NotFresh) (.ref c_Stuck) = some false ∧ PySem.W.exmOne K (.ref c_NotNeeded) (.ref c_Stuck) = some false ∧ PySem.W.exmOne K (.ref c_NotOpen) (.ref c_Stuck) = some false ∧ PySem.W.exmOne K (.ref c_NotPart) (.ref c_Stuck) = some false ∧ PySem.W.exmOne K (.ref c_NotSettled) (.ref c_Stuck) = some false ∧ PySem.W.exmOne K (.ref c_NotSource) (.ref c_Stuck) = some false ∧ PySem.W.exmOne K (.ref c_Rewritten) (.ref c_Stuck) = some false ∧ PySem.W.exmOne K (.ref c_Stuck) (.ref c_Stuck) = some true ∧ PySem.W.exmOne K (.ref c_Taken) (.ref c_Stuck) = some false)
    (ki_BadEntry : PySem.W.kitOne K (.ref c_BadEntry) (.ref c_BadEntry) = some true ∧ PySem.W.kitOne K (.ref c_BadKind) (.ref c_BadEntry) = some false ∧ PySem.W.kitOne K (.ref c_BadLine) (.ref c_BadEntry) = some false ∧ PySem.W.kitOne K (.ref c_BadName) (.ref c_BadEntry) = some false ∧ PySem.W.kitOne K (.ref c_BadTree) (.ref c_BadEntry) = some false ∧ PySem.W.kitOne K (.ref c_Clash) (.ref c_BadEntry) = some false ∧ PySem.W.kitOne K (.ref c_Conflict) (.ref c_BadEntry) = some false ∧ PySem.W.kitOne K (.ref c_Failed) (.ref c_BadEntry) = some false ∧ PySem.W.kitOne K (.ref c_Gap) (.ref c_BadEntry) = some false ∧ PySem.W.kitOne K (.ref c_Halted) (.ref c_BadEntry) = some false ∧ PySem.W.kitOne K (.ref c_Mismatch) (.ref c_BadEntry) = some false ∧ PySem.W.kitOne K (.ref c_NoPlace) (.ref c_BadEntry) = some false ∧ PySem.W.kitOne K (.ref c_NoRow) (.ref c_BadEntry) = some false ∧ PySem.W.kitOne K (.ref c_NoTarget) (.ref c_BadEntry) = some false ∧ PySem.W.kitOne K (.ref c_NoVersion) (.ref c_BadEntry) = some false ∧ PySem.W.kitOne K (.ref c_NotAsked) (.ref c_BadEntry) = some false ∧ PySem.W.kitOne K (.ref c_NotCause) (.ref c_BadEntry) = some false ∧ PySem.W.kitOne K (.ref c_NotFresh) (.ref c_BadEntry) = some false ∧ PySem.W.kitOne K (.ref c_NotNeeded) (.ref c_BadEntry) = some false ∧ PySem.W.kitOne K (.ref c_NotOpen) (.ref c_BadEntry) = some false ∧ PySem.W.kitOne K (.ref c_NotPart) (.ref c_BadEntry) = some false ∧ PySem.W.kitOne K (.ref c_NotSettled) (.ref c_BadEntry) = some false ∧ PySem.W.kitOne K (.ref c_NotSource) (.ref c_BadEntry) = some false ∧ PySem.W.kitOne K (.ref c_Rewritten) (.ref c_BadEntry) = some false ∧ PySem.W.kitOne K (.ref c_Stuck) (.ref c_BadEntry) = some false ∧ PySem.W.kitOne K (.ref c_Taken) (.ref c_BadEntry) = some false)
    (ki_BadKind : PySem.W.kitOne K (.ref c_BadEntry) (.ref c_BadKind) = some false ∧ PySem.W.kitOne K (.ref c_BadKind) (.ref c_BadKind) = some true ∧ PySem.W.kitOne K (.ref c_BadLine) (.ref c_BadKind) = some false ∧ PySem.W.kitOne K (.ref c_BadName) (.ref c_BadKind) = some false ∧ PySem.W.kitOne K (.ref c_BadTree) (.ref c_BadKind) = some false ∧ PySem.W.kitOne K (.ref c_Clash) (.ref c_BadKind) = some false ∧ PySem.W.kitOne K (.ref c_Conflict) (.ref c_BadKind) = some false ∧ PySem.W.kitOne K (.ref c_Failed) (.ref c_BadKind) = some false ∧ PySem.W.kitOne K (.ref c_Gap) (.ref c_BadKind) = some false ∧ PySem.W.kitOne K (.ref c_Halted) (.ref c_BadKind) = some false ∧ PySem.W.kitOne K (.ref c_Mismatch) (.ref c_BadKind) = some false ∧ PySem.W.kitOne K (.ref c_NoPlace) (.ref c_BadKind) = some false ∧ PySem.W.kitOne K (.ref c_NoRow) (.ref c_BadKind) = some false ∧ PySem.W.kitOne K (.ref c_NoTarget) (.ref c_BadKind) = some false ∧ PySem.W.kitOne K (.ref c_NoVersion) (.ref c_BadKind) = some false ∧ PySem.W.kitOne K (.ref c_NotAsked) (.ref c_BadKind) = some false ∧ PySem.W.kitOne K (.ref c_NotCause) (.ref c_BadKind) = some false ∧ PySem.W.kitOne K (.ref c_NotFresh) (.ref c_BadKind) = some false ∧ PySem.W.kitOne K (.ref c_NotNeeded) (.ref c_BadKind) = some false ∧ PySem.W.kitOne K (.ref c_NotOpen) (.ref c_BadKind) = some false ∧ PySem.W.kitOne K (.ref c_NotPart) (.ref c_BadKind) = some false ∧ PySem.W.kitOne K (.ref c_NotSettled) (.ref c_BadKind) = some false ∧ PySem.W.kitOne K (.ref c_NotSource) (.ref c_BadKind) = some false ∧ PySem.W.kitOne K (.ref c_Rewritten) (.ref c_BadKind) = some false ∧ PySem.W.kitOne K (.ref c_Stuck) (.ref c_BadKind) = some false ∧ PySem.W.kitOne K (.ref c_Taken) (.ref c_BadKind) = some false)
    (ki_BadLine : PySem.W.kitOne K (.ref c_BadEntry) (.ref c_BadLine) = some false ∧ PySem.W.kitOne K (.ref c_BadKind) (.ref c_BadLine) = some false ∧ PySem.W.kitOne K (.ref c_BadLine) (.ref c_BadLine) = some true ∧ PySem.W.kitOne K (.ref c_BadName) (.ref c_BadLine) = some false ∧ PySem.W.kitOne K (.ref c_BadTree) (.ref c_BadLine) = some false ∧ PySem.W.kitOne K (.ref c_Clash) (.ref c_BadLine) = some false ∧ PySem.W.kitOne K (.ref c_Conflict) (.ref c_BadLine) = some false ∧ PySem.W.kitOne K (.ref c_Failed) (.ref c_BadLine) = some false ∧ PySem.W.kitOne K (.ref c_Gap) (.ref c_BadLine) = some false ∧ PySem.W.kitOne K (.ref c_Halted) (.ref c_BadLine) = some false ∧ PySem.W.kitOne K (.ref c_Mismatch) (.ref c_BadLine) = some false ∧ PySem.W.kitOne K (.ref c_NoPlace) (.ref c_BadLine) = some false ∧ PySem.W.kitOne K (.ref c_NoRow) (.ref c_BadLine) = some false ∧ PySem.W.kitOne K (.ref c_NoTarget) (.ref c_BadLine) = some false ∧ PySem.W.kitOne K (.ref c_NoVersion) (.ref c_BadLine) = some false ∧ PySem.W.kitOne K (.ref c_NotAsked) (.ref c_BadLine) = some false ∧ PySem.W.kitOne K (.ref c_NotCause) (.ref c_BadLine) = some false ∧ PySem.W.kitOne K (.ref c_NotFresh) (.ref c_BadLine) = some false ∧ PySem.W.kitOne K (.ref c_NotNeeded) (.ref c_BadLine) = some false ∧ PySem.W.kitOne K (.ref c_NotOpen) (.ref c_BadLine) = some false ∧ PySem.W.kitOne K (.ref c_NotPart) (.ref c_BadLine) = some false ∧ PySem.W.kitOne K (.ref c_NotSettled) (.ref c_BadLine) = some false ∧ PySem.W.kitOne K (.ref c_NotSource) (.ref c_BadLine) = some false ∧ PySem.W.kitOne K (.ref c_Rewritten) (.ref c_BadLine) = some false ∧ PySem.W.kitOne K (.ref c_Stuck) (.ref c_BadLine) = some false ∧ PySem.W.kitOne K (.ref c_Taken) (.ref c_BadLine) = some false)
    (ki_BadName : PySem.W.kitOne K (.ref c_BadEntry) (.ref c_BadName) = some false ∧ PySem.W.kitOne K (.ref c_BadKind) (.ref c_BadName) = some false ∧ PySem.W.kitOne K (.ref c_BadLine) (.ref c_BadName) = some false ∧ PySem.W.kitOne K (.ref c_BadName) (.ref c_BadName) = some true ∧ PySem.W.kitOne K (.ref c_BadTree) (.ref c_BadName) = some false ∧ PySem.W.kitOne K (.ref c_Clash) (.ref c_BadName) = some false ∧ PySem.W.kitOne K (.ref c_Conflict) (.ref c_BadName) = some false ∧ PySem.W.kitOne K (.ref c_Failed) (.ref c_BadName) = some false ∧ PySem.W.kitOne K (.ref c_Gap) (.ref c_BadName) = some false ∧ PySem.W.kitOne K (.ref c_Halted) (.ref c_BadName) = some false ∧ PySem.W.kitOne K (.ref c_Mismatch) (.ref c_BadName) = some false ∧ PySem.W.kitOne K (.ref c_NoPlace) (.ref c_BadName) = some false ∧ PySem.W.kitOne K (.ref c_NoRow) (.ref c_BadName) = some false ∧ PySem.W.kitOne K (.ref c_NoTarget) (.ref c_BadName) = some false ∧ PySem.W.kitOne K (.ref c_NoVersion) (.ref c_BadName) = some false ∧ PySem.W.kitOne K (.ref c_NotAsked) (.ref c_BadName) = some false ∧ PySem.W.kitOne K (.ref c_NotCause) (.ref c_BadName) = some false ∧ PySem.W.kitOne K (.ref c_NotFresh) (.ref c_BadName) = some false ∧ PySem.W.kitOne K (.ref c_NotNeeded) (.ref c_BadName) = some false ∧ PySem.W.kitOne K (.ref c_NotOpen) (.ref c_BadName) = some false ∧ PySem.W.kitOne K (.ref c_NotPart) (.ref c_BadName) = some false ∧ PySem.W.kitOne K (.ref c_NotSettled) (.ref c_BadName) = some false ∧ PySem.W.kitOne K (.ref c_NotSource) (.ref c_BadName) = some false ∧ PySem.W.kitOne K (.ref c_Rewritten) (.ref c_BadName) = some false ∧ PySem.W.kitOne K (.ref c_Stuck) (.ref c_BadName) = some false ∧ PySem.W.kitOne K (.ref c_Taken) (.ref c_BadName) = some false)
    (ki_BadTree : PySem.W.kitOne K (.ref c_BadEntry) (.ref c_BadTree) = some false ∧ PySem.W.kitOne K (.ref c_BadKind) (.ref c_BadTree) = some false ∧ PySem.W.kitOne K (.ref c_BadLine) (.ref c_BadTree) = some false ∧ PySem.W.kitOne K (.ref c_BadName) (.ref c_BadTree) = some false ∧ PySem.W.kitOne K (.ref c_BadTree) (.ref c_BadTree) = some true ∧ PySem.W.kitOne K (.ref c_Clash) (.ref c_BadTree) = some false ∧ PySem.W.kitOne K (.ref c_Conflict) (.ref c_BadTree) = some false ∧ PySem.W.kitOne K (.ref c_Failed) (.ref c_BadTree) = some false ∧ PySem.W.kitOne K (.ref c_Gap) (.ref c_BadTree) = some false ∧ PySem.W.kitOne K (.ref c_Halted) (.ref c_BadTree) = some false ∧ PySem.W.kitOne K (.ref c_Mismatch) (.ref c_BadTree) = some false ∧ PySem.W.kitOne K (.ref c_NoPlace) (.ref c_BadTree) = some false ∧ PySem.W.kitOne K (.ref c_NoRow) (.ref c_BadTree) = some false ∧ PySem.W.kitOne K (.ref c_NoTarget) (.ref c_BadTree) = some false ∧ PySem.W.kitOne K (.ref c_NoVersion) (.ref c_BadTree) = some false ∧ PySem.W.kitOne K (.ref c_NotAsked) (.ref c_BadTree) = some false ∧ PySem.W.kitOne K (.ref c_NotCause) (.ref c_BadTree) = some false ∧ PySem.W.kitOne K (.ref c_NotFresh) (.ref c_BadTree) = some false ∧ PySem.W.kitOne K (.ref c_NotNeeded) (.ref c_BadTree) = some false ∧ PySem.W.kitOne K (.ref c_NotOpen) (.ref c_BadTree) = some false ∧ PySem.W.kitOne K (.ref c_NotPart) (.ref c_BadTree) = some false ∧ PySem.W.kitOne K (.ref c_NotSettled) (.ref c_BadTree) = some false ∧ PySem.W.kitOne K (.ref c_NotSource) (.ref c_BadTree) = some false ∧ PySem.W.kitOne K (.ref c_Rewritten) (.ref c_BadTree) = some false ∧ PySem.W.kitOne K (.ref c_Stuck) (.ref c_BadTree) = some false ∧ PySem.W.kitOne K (.ref c_Taken) (.ref c_BadTree) = some false)
    (ki_BuildError : PySem.W.kitOne K (.ref c_BadEntry) (.ref c_BuildError) = some true ∧ PySem.W.kitOne K (.ref c_BadKind) (.ref c_BuildError) = some true ∧ PySem.W.kitOne K (.ref c_BadLine) (.ref c_BuildError) = some true ∧ PySem.W.kitOne K (.ref c_BadName) (.ref c_BuildError) = some true ∧ PySem.W.kitOne K (.ref c_BadTree) (.ref c_BuildError) = some true ∧ PySem.W.kitOne K (.ref c_Clash) (.ref c_BuildError) = some true ∧ PySem.W.kitOne K (.ref c_Conflict) (.ref c_BuildError) = some true ∧ PySem.W.kitOne K (.ref c_Failed) (.ref c_BuildError) = some true ∧ PySem.W.kitOne K (.ref c_Gap) (.ref c_BuildError) = some true ∧ PySem.W.kitOne K (.ref c_Halted) (.ref c_BuildError) = some true ∧ PySem.W.kitOne K (.ref c_Mismatch) (.ref c_BuildError) = some true ∧ PySem.W.kitOne K (.ref c_NoPlace) (.ref c_BuildError) = some true ∧ PySem.W.kitOne K (.ref c_NoRow) (.ref c_BuildError) = some true ∧ PySem.W.kitOne K (.ref c_NoTarget) (.ref c_BuildError) = some true ∧ PySem.W.kitOne K (.ref c_NoVersion) (.ref c_BuildError) = some false ∧ PySem.W.kitOne K (.ref c_NotAsked) (.ref c_BuildError) = some false ∧ PySem.W.kitOne K (.ref c_NotCause) (.ref c_BuildError) = some true ∧ PySem.W.kitOne K (.ref c_NotFresh) (.ref c_BuildError) = some true ∧ PySem.W.kitOne K (.ref c_NotNeeded) (.ref c_BuildError) = some true ∧ PySem.W.kitOne K (.ref c_NotOpen) (.ref c_BuildError) = some true ∧ PySem.W.kitOne K (.ref c_NotPart) (.ref c_BuildError) = some true ∧ PySem.W.kitOne K (.ref c_NotSettled) (.ref c_BuildError) = some true ∧ PySem.W.kitOne K (.ref c_NotSource) (.ref c_BuildError) = some true ∧ PySem.W.kitOne K (.ref c_Rewritten) (.ref c_BuildError) = some true ∧ PySem.W.kitOne K (.ref c_Stuck) (.ref c_BuildError) = some true ∧ PySem.W.kitOne K (.ref c_Taken) (.ref c_BuildError) = some true)
    (ki_Clash : PySem.W.kitOne K (.ref c_BadEntry) (.ref c_Clash) = some false ∧ PySem.W.kitOne K (.ref c_BadKind) (.ref c_Clash) = some false ∧ PySem.W.kitOne K (.ref c_BadLine) (.ref c_Clash) = some false ∧ PySem.W.kitOne K (.ref c_BadName) (.ref c_Clash) = some false ∧ PySem.W.kitOne K (.ref c_BadTree) (.ref c_Clash) = some false ∧ PySem.W.kitOne K (.ref c_Clash) (.ref c_Clash) = some true ∧ PySem.W.kitOne K (.ref c_Conflict) (.ref c_Clash) = some false ∧ PySem.W.kitOne K (.ref c_Failed) (.ref c_Clash) = some false ∧ PySem.W.kitOne K (.ref c_Gap) (.ref c_Clash) = some false ∧ PySem.W.kitOne K (.ref c_Halted) (.ref c_Clash) = some false ∧ PySem.W.kitOne K (.ref c_Mismatch) (.ref c_Clash) = some false ∧ PySem.W.kitOne K (.ref c_NoPlace) (.ref c_Clash) = some false ∧ PySem.W.kitOne K (.ref c_NoRow) (.ref c_Clash) = some false ∧ PySem.W.kitOne K (.ref c_NoTarget) (.ref c_Clash) = some false ∧ PySem.W.kitOne K (.ref c_NoVersion) (.ref c_Clash) = some false ∧ PySem.W.kitOne K (.ref c_NotAsked) (.ref c_Clash) = some false ∧ PySem.W.kitOne K (.ref c_NotCause) (.ref c_Clash) = some false ∧ PySem.W.kitOne K (.ref c_NotFresh) (.ref c_Clash) = some false ∧ PySem.W.kitOne K (.ref c_NotNeeded) (.ref c_Clash) = some false ∧ PySem.W.kitOne K (.ref c_NotOpen) (.ref c_Clash) = some false ∧ PySem.W.kitOne K (.ref c_NotPart) (.ref c_Clash) = some false ∧ PySem.W.kitOne K (.ref c_NotSettled) (.ref c_Clash) = some false ∧ PySem.W.kitOne K (.ref c_NotSource) (.ref c_Clash) = some false ∧ PySem.W.kitOne K (.ref c_Rewritten) (.ref c_Clash) = some false ∧ PySem.W.kitOne K (.ref c_Stuck) (.ref c_Clash) = some false ∧ PySem.W.kitOne K (.ref c_Taken) (.ref c_Clash) = some false)
    (ki_Conflict : PySem.W.kitOne K (.ref c_BadEntry) (.ref c_Conflict) = some false ∧ PySem.W.kitOne K (.ref c_BadKind) (.ref c_Conflict) = some false ∧ PySem.W.kitOne K (.ref c_BadLine) (.ref c_Conflict) = some false ∧ PySem.W.kitOne K (.ref c_BadName) (.ref c_Conflict) = some false ∧ PySem.W.kitOne K (.ref c_BadTree) (.ref c_Conflict) = some false ∧ PySem.W.kitOne K (.ref c_Clash) (.ref c_Conflict) = some false ∧ PySem.W.kitOne K (.ref c_Conflict) (.ref c_Conflict) = some true ∧ PySem.W.kitOne K (.ref c_Failed) (.ref c_Conflict) = some false ∧ PySem.W.kitOne K (.ref c_Gap) (.ref c_Conflict) = some false ∧ PySem.W.kitOne K (.ref c_Halted) (.ref c_Conflict) = some false ∧ PySem.W.kitOne K (.ref c_Mismatch) (.ref c_Conflict) = some false ∧ PySem.W.kitOne K (.ref c_NoPlace) (.ref c_Conflict) = some false ∧ PySem.W.kitOne K (.ref c_NoRow) (.ref c_Conflict) = some false ∧ PySem.W.kitOne K (.ref c_NoTarget) (.ref c_Conflict) = some false ∧ PySem.W.kitOne K (.ref c_NoVersion) (.ref c_Conflict) = some false ∧ PySem.W.kitOne K (.ref c_NotAsked) (.ref c_Conflict) = some false ∧ PySem.W.kitOne K (.ref c_NotCause) (.ref c_Conflict) = some false ∧ PySem.W.kitOne K (.ref c_NotFresh) (.ref c_Conflict) = some false ∧ PySem.W.kitOne K (.ref c_NotNeeded) (.ref c_Conflict) = some false ∧ PySem.W.kitOne K (.ref c_NotOpen) (.ref c_Conflict) = some false ∧ PySem.W.kitOne K (.ref c_NotPart) (.ref c_Conflict) = some false ∧ PySem.W.kitOne K (.ref c_NotSettled) (.ref c_Conflict) = some false ∧ PySem.W.kitOne K (.ref c_NotSource) (.ref c_Conflict) = some false ∧ PySem.W.kitOne K (.ref c_Rewritten) (.ref c_Conflict) = some false ∧ PySem.W.kitOne K (.ref c_Stuck) (.ref c_Conflict) = some false ∧ PySem.W.kitOne K (.ref c_Taken) (.ref c_Conflict) = some false)
    (ki_Failed : PySem.W.kitOne K (.ref c_BadEntry) (.ref c_Failed) = some false ∧ PySem.W.kitOne K (.ref c_BadKind) (.ref c_Failed) = some false ∧ PySem.W.kitOne K (.ref c_BadLine) (.ref c_Failed) = some false ∧ PySem.W.kitOne K (.ref c_BadName) (.ref c_Failed) = some false ∧ PySem.W.kitOne K (.ref c_BadTree) (.ref c_Failed) = some false ∧ PySem.W.kitOne K (.ref c_Clash) (.ref c_Failed) = some false ∧ PySem.W.kitOne K (.ref c_Conflict) (.ref c_Failed) = some false ∧ PySem.W.kitOne K (.ref c_Failed) (.ref c_Failed) = some true ∧ PySem.W.kitOne K (.ref c_Gap) (.ref c_Failed) = some false ∧ PySem.W.kitOne K (.ref c_Halted) (.ref c_Failed) = some false ∧ PySem.W.kitOne K (.ref c_Mismatch) (.ref c_Failed) = some false ∧ PySem.W.kitOne K (.ref c_NoPlace) (.ref c_Failed) = some false ∧ PySem.W.kitOne K (.ref c_NoRow) (.ref c_Failed) = some false ∧ PySem.W.kitOne K (.ref c_NoTarget) (.ref c_Failed) = some false ∧ PySem.W.kitOne K (.ref c_NoVersion) (.ref c_Failed) = some false ∧ PySem.W.kitOne K (.ref c_NotAsked) (.ref c_Failed) = some false ∧ PySem.W.kitOne K (.ref c_NotCause) (.ref c_Failed) = some false ∧ PySem.W.kitOne K (.ref c_NotFresh) (.ref c_Failed) = some false ∧ PySem.W.kitOne K (.ref c_NotNeeded) (.ref c_Failed) = some false ∧ PySem.W.kitOne K (.ref c_NotOpen) (.ref c_Failed) = some false ∧ PySem.W.kitOne K (.ref c_NotPart) (.ref c_Failed) = some false ∧ PySem.W.kitOne K (.ref c_NotSettled) (.ref c_Failed) = some false ∧ PySem.W.kitOne K (.ref c_NotSource) (.ref c_Failed) = some false ∧ PySem.W.kitOne K (.ref c_Rewritten) (.ref c_Failed) = some false ∧ PySem.W.kitOne K (.ref c_Stuck) (.ref c_Failed) = some false ∧ PySem.W.kitOne K (.ref c_Taken) (.ref c_Failed) = some false)
    (ki_Gap : PySem.W.kitOne K (.ref c_BadEntry) (.ref c_Gap) = some false ∧ PySem.W.kitOne K (.ref c_BadKind) (.ref c_Gap) = some false ∧ PySem.W.kitOne K (.ref c_BadLine) (.ref c_Gap) = some false ∧ PySem.W.kitOne K (.ref c_BadName) (.ref c_Gap) = some false ∧ PySem.W.kitOne K (.ref c_BadTree) (.ref c_Gap) = some false ∧ PySem.W.kitOne K (.ref c_Clash) (.ref c_Gap) = some false ∧ PySem.W.kitOne K (.ref c_Conflict) (.ref c_Gap) = some false ∧ PySem.W.kitOne K (.ref c_Failed) (.ref c_Gap) = some false ∧ PySem.W.kitOne K (.ref c_Gap) (.ref c_Gap) = some true ∧ PySem.W.kitOne K (.ref c_Halted) (.ref c_Gap) = some false ∧ PySem.W.kitOne K (.ref c_Mismatch) (.ref c_Gap) = some false ∧ PySem.W.kitOne K (.ref c_NoPlace) (.ref c_Gap) = some false ∧ PySem.W.kitOne K (.ref c_NoRow) (.ref c_Gap) = some false ∧ PySem.W.kitOne K (.ref c_NoTarget) (.ref c_Gap) = some false ∧ PySem.W.kitOne K (.ref c_NoVersion) (.ref c_Gap) = some false ∧ PySem.W.kitOne K (.ref c_NotAsked) (.ref c_Gap) = some false ∧ PySem.W.kitOne K (.ref c_NotCause) (.ref c_Gap) = some false ∧ PySem.W.kitOne K (.ref c_NotFresh) (.ref c_Gap) = some false ∧ PySem.W.kitOne K (.ref c_NotNeeded) (.ref c_Gap) = some false ∧ PySem.W.kitOne K (.ref c_NotOpen) (.ref c_Gap) = some false ∧ PySem.W.kitOne K (.ref c_NotPart) (.ref c_Gap) = some false ∧ PySem.W.kitOne K (.ref c_NotSettled) (.ref c_Gap) = some false ∧ PySem.W.kitOne K (.ref c_NotSource) (.ref c_Gap) = some false ∧ PySem.W.kitOne K (.ref c_Rewritten) (.ref c_Gap) = some false ∧ PySem.W.kitOne K (.ref c_Stuck) (.ref c_Gap) = some false ∧ PySem.W.kitOne K (.ref c_Taken) (.ref c_Gap) = some false)
    (ki_Halted : PySem.W.kitOne K (.ref c_BadEntry) (.ref c_Halted) = some false ∧ PySem.W.kitOne K (.ref c_BadKind) (.ref c_Halted) = some false ∧ PySem.W.kitOne K (.ref c_BadLine) (.ref c_Halted) = some false ∧ PySem.W.kitOne K (.ref c_BadName) (.ref c_Halted) = some false ∧ PySem.W.kitOne K (.ref c_BadTree) (.ref c_Halted) = some false ∧ PySem.W.kitOne K (.ref c_Clash) (.ref c_Halted) = some false ∧ PySem.W.kitOne K (.ref c_Conflict) (.ref c_Halted) = some false ∧ PySem.W.kitOne K (.ref c_Failed) (.ref c_Halted) = some false ∧ PySem.W.kitOne K (.ref c_Gap) (.ref c_Halted) = some false ∧ PySem.W.kitOne K (.ref c_Halted) (.ref c_Halted) = some true ∧ PySem.W.kitOne K (.ref c_Mismatch) (.ref c_Halted) = some false ∧ PySem.W.kitOne K (.ref c_NoPlace) (.ref c_Halted) = some false ∧ PySem.W.kitOne K (.ref c_NoRow) (.ref c_Halted) = some false ∧ PySem.W.kitOne K (.ref c_NoTarget) (.ref c_Halted) = some false ∧ PySem.W.kitOne K (.ref c_NoVersion) (.ref c_Halted) = some false ∧ PySem.W.kitOne K (.ref c_NotAsked) (.ref c_Halted) = some false ∧ PySem.W.kitOne K (.ref c_NotCause) (.ref c_Halted) = some false ∧ PySem.W.kitOne K (.ref c_NotFresh) (.ref c_Halted) = some false ∧ PySem.W.kitOne K (.ref c_NotNeeded) (.ref c_Halted) = some false ∧ PySem.W.kitOne K (.ref c_NotOpen) (.ref c_Halted) = some false ∧ PySem.W.kitOne K (.ref c_NotPart) (.ref c_Halted) = some false ∧ PySem.W.kitOne K (.ref c_NotSettled) (.ref c_Halted) = some false ∧ PySem.W.kitOne K (.ref c_NotSource) (.ref c_Halted) = some false ∧ PySem.W.kitOne K (.ref c_Rewritten) (.ref c_Halted) = some false ∧ PySem.W.kitOne K (.ref c_Stuck) (.ref c_Halted) = some false ∧ PySem.W.kitOne K (.ref c_Taken) (.ref c_Halted) = some false)
    (ki_Mismatch : PySem.W.kitOne K (.ref c_BadEntry) (.ref c_Mismatch) = some false ∧ PySem.W.kitOne K (.ref c_BadKind) (.ref c_Mismatch) = some false ∧ PySem.W.kitOne K (.ref c_BadLine) (.ref c_Mismatch) = some false ∧ PySem.W.kitOne K (.ref c_BadName) (.ref c_Mismatch) = some false ∧ PySem.W.kitOne K (.ref c_BadTree) (.ref c_Mismatch) = some false ∧ PySem.W.kitOne K (.ref c_Clash) (.ref c_Mismatch) = some false ∧ PySem.W.kitOne K (.ref c_Conflict) (.ref c_Mismatch) = some false ∧ PySem.W.kitOne K (.ref c_Failed) (.ref c_Mismatch) = some false ∧ PySem.W.kitOne K (.ref c_Gap) (.ref c_Mismatch) = some false ∧ PySem.W.kitOne K (.ref c_Halted) (.ref c_Mismatch) = some false ∧ PySem.W.kitOne K (.ref c_Mismatch) (.ref c_Mismatch) = some true ∧ PySem.W.kitOne K (.ref c_NoPlace) (.ref c_Mismatch) = some false ∧ PySem.W.kitOne K (.ref c_NoRow) (.ref c_Mismatch) = some false ∧ PySem.W.kitOne K (.ref c_NoTarget) (.ref c_Mismatch) = some false ∧ PySem.W.kitOne K (.ref c_NoVersion) (.ref c_Mismatch) = some false ∧ PySem.W.kitOne K (.ref c_NotAsked) (.ref c_Mismatch) = some false ∧ PySem.W.kitOne K (.ref c_NotCause) (.ref c_Mismatch) = some false ∧ PySem.W.kitOne K (.ref c_NotFresh) (.ref c_Mismatch) = some false ∧ PySem.W.kitOne K (.ref c_NotNeeded) (.ref c_Mismatch) = some false ∧ PySem.W.kitOne K (.ref c_NotOpen) (.ref c_Mismatch) = some false ∧ PySem.W.kitOne K (.ref c_NotPart) (.ref c_Mismatch) = some false ∧ PySem.W.kitOne K (.ref c_NotSettled) (.ref c_Mismatch) = some false ∧ PySem.W.kitOne K (.ref c_NotSource) (.ref c_Mismatch) = some false ∧ PySem.W.kitOne K (.ref c_Rewritten) (.ref c_Mismatch) = some false ∧ PySem.W.kitOne K (.ref c_Stuck) (.ref c_Mismatch) = some false ∧ PySem.W.kitOne K (.ref c_Taken) (.ref c_Mismatch) = some false)
    (ki_NoPlace : PySem.W.kitOne K (.ref c_BadEntry) (.ref c_NoPlace) = some false ∧ PySem.W.kitOne K (.ref c_BadKind) (.ref c_NoPlace) = some false ∧ PySem.W.kitOne K (.ref c_BadLine) (.ref c_NoPlace) = some false ∧ PySem.W.kitOne K (.ref c_BadName) (.ref c_NoPlace) = some false ∧ PySem.W.kitOne K (.ref c_BadTree) (.ref c_NoPlace) = some false ∧ PySem.W.kitOne K (.ref c_Clash) (.ref c_NoPlace) = some false ∧ PySem.W.kitOne K (.ref c_Conflict) (.ref c_NoPlace) = some false ∧ PySem.W.kitOne K (.ref c_Failed) (.ref c_NoPlace) = some false ∧ PySem.W.kitOne K (.ref c_Gap) (.ref c_NoPlace) = some false ∧ PySem.W.kitOne K (.ref c_Halted) (.ref c_NoPlace) = some false ∧ PySem.W.kitOne K (.ref c_Mismatch) (.ref c_NoPlace) = some false ∧ PySem.W.kitOne K (.ref c_NoPlace) (.ref c_NoPlace) = some true ∧ PySem.W.kitOne K (.ref c_NoRow) (.ref c_NoPlace) = some false ∧ PySem.W.kitOne K (.ref c_NoTarget) (.ref c_NoPlace) = some false ∧ PySem.W.kitOne K (.ref c_NoVersion) (.ref c_NoPlace) = some false ∧ PySem.W.kitOne K (.ref c_NotAsked) (.ref c_NoPlace) = some false ∧ PySem.W.kitOne K (.ref c_NotCause) (.ref c_NoPlace) = some false ∧ PySem.W.kitOne K (.ref c_NotFresh) (.ref c_NoPlace) = some false ∧ PySem.W.kitOne K (.ref c_NotNeeded) (.ref c_NoPlace) = some false ∧ PySem.W.kitOne K (.ref c_NotOpen) (.ref c_NoPlace) = some false ∧ PySem.W.kitOne K (.ref c_NotPart) (.ref c_NoPlace) = some false ∧ PySem.W.kitOne K (.ref c_NotSettled) (.ref c_NoPlace) = some false ∧ PySem.W.kitOne K (.ref c_NotSource) (.ref c_NoPlace) = some false ∧ PySem.W.kitOne K (.ref c_Rewritten) (.ref c_NoPlace) = some false ∧ PySem.W.kitOne K (.ref c_Stuck) (.ref c_NoPlace) = some false ∧ PySem.W.kitOne K (.ref c_Taken) (.ref c_NoPlace) = some false)
    (ki_NoRow : PySem.W.kitOne K (.ref c_BadEntry) (.ref c_NoRow) = some false ∧ PySem.W.kitOne K (.ref c_BadKind) (.ref c_NoRow) = some false ∧ PySem.W.kitOne K (.ref c_BadLine) (.ref c_NoRow) = some false ∧ PySem.W.kitOne K (.ref c_BadName) (.ref c_NoRow) = some false ∧ PySem.W.kitOne K (.ref c_BadTree) (.ref c_NoRow) = some false ∧ PySem.W.kitOne K (.ref c_Clash) (.ref c_NoRow) = some false ∧ PySem.W.kitOne K (.ref c_Conflict) (.ref c_NoRow) = some false ∧ PySem.W.kitOne K (.ref c_Failed) (.ref c_NoRow) = some false ∧ PySem.W.kitOne K (.ref c_Gap) (.ref c_NoRow) = some false ∧ PySem.W.kitOne K (.ref c_Halted) (.ref c_NoRow) = some false ∧ PySem.W.kitOne K (.ref c_Mismatch) (.ref c_NoRow) = some false ∧ PySem.W.kitOne K (.ref c_NoPlace) (.ref c_NoRow) = some false ∧ PySem.W.kitOne K (.ref c_NoRow) (.ref c_NoRow) = some true ∧ PySem.W.kitOne K (.ref c_NoTarget) (.ref c_NoRow) = some false ∧ PySem.W.kitOne K (.ref c_NoVersion) (.ref c_NoRow) = some false ∧ PySem.W.kitOne K (.ref c_NotAsked) (.ref c_NoRow) = some false ∧ PySem.W.kitOne K (.ref c_NotCause) (.ref c_NoRow) = some false ∧ PySem.W.kitOne K (.ref c_NotFresh) (.ref c_NoRow) = some false ∧ PySem.W.kitOne K (.ref c_NotNeeded) (.ref c_NoRow) = some false ∧ PySem.W.kitOne K (.ref c_NotOpen) (.ref c_NoRow) = some false ∧ PySem.W.kitOne K (.ref c_NotPart) (.ref c_NoRow) = some false ∧ PySem.W.kitOne K (.ref c_NotSettled) (.ref c_NoRow) = some false ∧ PySem.W.kitOne K (.ref c_NotSource) (.ref c_NoRow) = some false ∧ PySem.W.kitOne K (.ref c_Rewritten) (.ref c_NoRow) = some false ∧ PySem.W.kitOne K (.ref c_Stuck) (.ref c_NoRow) = some false ∧ PySem.W.kitOne K (.ref c_Taken) (.ref c_NoRow) = some false)
    (ki_NoTarget : PySem.W.kitOne K (.ref c_BadEntry) (.ref c_NoTarget) = some false ∧ PySem.W.kitOne K (.ref c_BadKind) (.ref c_NoTarget) = some false ∧ PySem.W.kitOne K (.ref c_BadLine) (.ref c_NoTarget) = some false ∧ PySem.W.kitOne K (.ref c_BadName) (.ref c_NoTarget) = some false ∧ PySem.W.kitOne K (.ref c_BadTree) (.ref c_NoTarget) = some false ∧ PySem.W.kitOne K (.ref c_Clash) (.ref c_NoTarget) = some false ∧ PySem.W.kitOne K (.ref c_Conflict) (.ref c_NoTarget) = some false ∧ PySem.W.kitOne K (.ref c_Failed) (.ref c_NoTarget) = some false ∧ PySem.W.kitOne K (.ref c_Gap) (.ref c_NoTarget) = some false ∧ PySem.W.kitOne K (.ref c_Halted) (.ref c_NoTarget) = some false ∧ PySem.W.kitOne K (.ref c_Mismatch) (.ref c_NoTarget) = some false ∧ PySem.W.kitOne K (.ref c_NoPlace) (.ref c_NoTarget) = some false ∧ PySem.W.kitOne K (.ref c_NoRow) (.ref c_NoTarget) = some false ∧ PySem.W.kitOne K (.ref c_NoTarget) (.ref c_NoTarget) = some true ∧ PySem.W.kitOne K (.ref c_NoVersion) (.ref c_NoTarget) = some false ∧ PySem.W.kitOne K (.ref c_NotAsked) (.ref c_NoTarget) = some false ∧ PySem.W.kitOne K (.ref c_NotCause) (.ref c_NoTarget) = some false ∧ PySem.W.kitOne K (.ref c_NotFresh) (.ref c_NoTarget) = some false ∧ PySem.W.kitOne K (.ref c_NotNeeded) (.ref c_NoTarget) = some false ∧ PySem.W.kitOne K (.ref c_NotOpen) (.ref c_NoTarget) = some false ∧ PySem.W.kitOne K (.ref c_NotPart) (.ref c_NoTarget) = some false ∧ PySem.W.kitOne K (.ref c_NotSettled) (.ref c_NoTarget) = some false ∧ PySem.W.kitOne K (.ref c_NotSource) (.ref c_NoTarget) = some false ∧ PySem.W.kitOne K (.ref c_Rewritten) (.ref c_NoTarget) = some false ∧ PySem.W.kitOne K (.ref c_Stuck) (.ref c_NoTarget) = some false ∧ PySem.W.kitOne K (.ref c_Taken) (.ref c_NoTarget) = some false)
    (ki_NoVersion : PySem.W.kitOne K (.ref c_BadEntry) (.ref c_NoVersion) = some false ∧ PySem.W.kitOne K (.ref c_BadKind) (.ref c_NoVersion) = some false ∧ PySem.W.kitOne K (.ref c_BadLine) (.ref c_NoVersion) = some false ∧ PySem.W.kitOne K (.ref c_BadName) (.ref c_NoVersion) = some false ∧ PySem.W.kitOne K (.ref c_BadTree) (.ref c_NoVersion) = some false ∧ PySem.W.kitOne K (.ref c_Clash) (.ref c_NoVersion) = some false ∧ PySem.W.kitOne K (.ref c_Conflict) (.ref c_NoVersion) = some false ∧ PySem.W.kitOne K (.ref c_Failed) (.ref c_NoVersion) = some false ∧ PySem.W.kitOne K (.ref c_Gap) (.ref c_NoVersion) = some false ∧ PySem.W.kitOne K (.ref c_Halted) (.ref c_NoVersion) = some false ∧ PySem.W.kitOne K (.ref c_Mismatch) (.ref c_NoVersion) = some false ∧ PySem.W.kitOne K (.ref c_NoPlace) (.ref c_NoVersion) = some false ∧ PySem.W.kitOne K (.ref c_NoRow) (.ref c_NoVersion) = some false ∧ PySem.W.kitOne K (.ref c_NoTarget) (.ref c_NoVersion) = some false ∧ PySem.W.kitOne K (.ref c_NoVersion) (.ref c_NoVersion) = some true ∧ PySem.W.kitOne K (.ref c_NotAsked) (.ref c_NoVersion) = some false ∧ PySem.W.kitOne K (.ref c_NotCause) (.ref c_NoVersion) = some false ∧ PySem.W.kitOne K (.ref c_NotFresh) (.ref c_NoVersion) = some false ∧ PySem.W.kitOne K (.ref c_NotNeeded) (.ref c_NoVersion) = some false ∧ PySem.W.kitOne K (.ref c_NotOpen) (.ref c_NoVersion) = some false ∧ PySem.W.kitOne K (.ref c_NotPart) (.ref c_NoVersion) = some false ∧ PySem.W.kitOne K (.ref c_NotSettled) (.ref c_NoVersion) = some false ∧ PySem.W.kitOne K (.ref c_NotSource) (.ref c_NoVersion) = some false ∧ PySem.W.kitOne K (.ref c_Rewritten) (.ref c_NoVersion) = some false ∧ PySem.W.kitOne K (.ref c_Stuck) (.ref c_NoVersion) = some false ∧ PySem.W.kitOne K (.ref c_Taken) (.ref c_NoVersion) = some false)
    (ki_NotAsked : PySem.W.kitOne K (.ref c_BadEntry) (.ref c_NotAsked) = some false ∧ PySem.W.kitOne K (.ref c_BadKind) (.ref c_NotAsked) = some false ∧ PySem.W.kitOne K (.ref c_BadLine) (.ref c_NotAsked) = some false ∧ PySem.W.kitOne K (.ref c_BadName) (.ref c_NotAsked) = some false ∧ PySem.W.kitOne K (.ref c_BadTree) (.ref c_NotAsked) = some false ∧ PySem.W.kitOne K (.ref c_Clash) (.ref c_NotAsked) = some false ∧ PySem.W.kitOne K (.ref c_Conflict) (.ref c_NotAsked) = some false ∧ PySem.W.kitOne K (.ref c_Failed) (.ref c_NotAsked) = some false ∧ PySem.W.kitOne K (.ref c_Gap) (.ref c_NotAsked) = some false ∧ PySem.W.kitOne K (.ref c_Halted) (.ref c_NotAsked) = some false ∧ PySem.W.kitOne K (.ref c_Mismatch) (.ref c_NotAsked) = some false ∧ PySem.W.kitOne K (.ref c_NoPlace) (.ref c_NotAsked) = some false ∧ PySem.W.kitOne K (.ref c_NoRow) (.ref c_NotAsked) = some false ∧ PySem.W.kitOne K (.ref c_NoTarget) (.ref c_NotAsked) = some false ∧ PySem.W.kitOne K (.ref c_NoVersion) (.ref c_NotAsked) = some false ∧ PySem.W.kitOne K (.ref c_NotAsked) (.ref c_NotAsked) = some true ∧ PySem.W.kitOne K (.ref c_NotCause) (.ref c_NotAsked) = some false ∧ PySem.W.kitOne K (.ref c_NotFresh) (.ref c_NotAsked) = some false ∧ PySem.W.kitOne K (.ref c_NotNeeded) (.ref c_NotAsked) = some false ∧ PySem.W.kitOne K (.ref c_NotOpen) (.ref c_NotAsked) = some false ∧ PySem.W.kitOne K (.ref c_NotPart) (.ref c_NotAsked) = some false ∧ PySem.W.kitOne K (.ref c_NotSettled) (.ref c_NotAsked) = some false ∧ PySem.W.kitOne K (.ref c_NotSource) (.ref c_NotAsked) = some false ∧ PySem.W.kitOne K (.ref c_Rewritten) (.ref c_NotAsked) = some false ∧ PySem.W.kitOne K (.ref c_Stuck) (.ref c_NotAsked) = some false ∧ PySem.W.kitOne K (.ref c_Taken) (.ref c_NotAsked) = some false)
    (ki_NotCause : PySem.W.kitOne K (.ref c_BadEntry) (.ref c_NotCause) = some false ∧ PySem.W.kitOne K (.ref c_BadKind) (.ref c_NotCause) = some false ∧ PySem.W.kitOne K (.ref c_BadLine) (.ref c_NotCause) = some false ∧ PySem.W.kitOne K (.ref c_BadName) (.ref c_NotCause) = some false ∧ PySem.W.kitOne K (.ref c_BadTree) (.ref c_NotCause) = some false ∧ PySem.W.kitOne K (.ref c_Clash) (.ref c_NotCause) = some false ∧ PySem.W.kitOne K (.ref c_Conflict) (.ref c_NotCause) = some false ∧ PySem.W.kitOne K (.ref c_Failed) (.ref c_NotCause) = some false ∧ PySem.W.kitOne K (.ref c_Gap) (.ref c_NotCause) = some false ∧ PySem.W.kitOne K (.ref c_Halted) (.ref c_NotCause) = some false ∧ PySem.W.kitOne K (.ref c_Mismatch) (.ref c_NotCause) = some false ∧ PySem.W.kitOne K (.ref c_NoPlace) (.ref c_NotCause) = some false ∧ PySem.W.kitOne K (.ref c_NoRow) (.ref c_NotCause) = some false ∧ PySem.W.kitOne K (.ref c_NoTarget) (.ref c_NotCause) = some false ∧ PySem.W.kitOne K (.ref c_NoVersion) (.ref c_NotCause) = some false ∧ PySem.W.kitOne K (.ref c_NotAsked) (.ref c_NotCause) = some false ∧ PySem.W.kitOne K (.ref c_NotCause) (.ref c_NotCause) = some true ∧ PySem.W.kitOne K (.ref c_NotFresh) (.ref c_NotCause) = some false ∧ PySem.W.kitOne K (.ref c_NotNeeded) (.ref c_NotCause) = some false ∧ PySem.W.kitOne K (.ref c_NotOpen) (.ref c_NotCause) = some false ∧ PySem.W.kitOne K (.ref c_NotPart) (.ref c_NotCause) = some false ∧ PySem.W.kitOne K (.ref c_NotSettled) (.ref c_NotCause) = some false ∧ PySem.W.kitOne K (.ref c_NotSource) (.ref c_NotCause) = some false ∧ PySem.W.kitOne K (.ref c_Rewritten) (.ref c_NotCause) = some false ∧ PySem.W.kitOne K (.ref c_Stuck) (.ref c_NotCause) = some false ∧ PySem.W.kitOne K (.ref c_Taken) (.ref c_NotCause) = some false)
    (ki_NotFresh : PySem.W.kitOne K (.ref c_BadEntry) (.ref c_NotFresh) = some false ∧ PySem.W.kitOne K (.ref c_BadKind) (.ref c_NotFresh) = some false ∧ PySem.W.kitOne K (.ref c_BadLine) (.ref c_NotFresh) = some false ∧ PySem.W.kitOne K (.ref c_BadName) (.ref c_NotFresh) = some false ∧ PySem.W.kitOne K (.ref c_BadTree) (.ref c_NotFresh) = some false ∧ PySem.W.kitOne K (.ref c_Clash) (.ref c_NotFresh) = some false ∧ PySem.W.kitOne K (.ref c_Conflict) (.ref c_NotFresh) = some false ∧ PySem.W.kitOne K (.ref c_Failed) (.ref c_NotFresh) = some false ∧ PySem.W.kitOne K (.ref c_Gap) (.ref c_NotFresh) = some false ∧ PySem.W.kitOne K (.ref c_Halted) (.ref c_NotFresh) = some false ∧ PySem.W.kitOne K (.ref c_Mismatch) (.ref c_NotFresh) = some false ∧ PySem.W.kitOne K (.ref c_NoPlace) (.ref c_NotFresh) = some false ∧ PySem.W.kitOne K (.ref c_NoRow) (.ref c_NotFresh) = some false ∧ PySem.W.kitOne K (.ref c_NoTarget) (.ref c_NotFresh) = some false ∧ PySem.W.kitOne K (.ref c_NoVersion) (.ref c_NotFresh) = some false ∧ PySem.W.kitOne K (.ref c_NotAsked) (.ref c_NotFresh) = some false ∧ PySem.W.kitOne K (.ref c_NotCause) (.ref c_NotFresh) = some false ∧ PySem.W.kitOne K (.ref c_NotFresh) (.ref c_NotFresh) = some true ∧ PySem.W.kitOne K (.ref c_NotNeeded) (.ref c_NotFresh) = some false ∧ PySem.W.kitOne K (.ref c_NotOpen) (.ref c_NotFresh) = some false ∧ PySem.W.kitOne K (.ref c_NotPart) (.ref c_NotFresh) = some false ∧ PySem.W.kitOne K (.ref c_NotSettled) (.ref c_NotFresh) = some false ∧ PySem.W.kitOne K (.ref c_NotSource) (.ref c_NotFresh) = some false ∧ PySem.W.kitOne K (.ref c_Rewritten) (.ref c_NotFresh) = some false ∧ PySem.W.kitOne K (.ref c_Stuck) (.ref c_NotFresh) = some false ∧ PySem.W.kitOne K (.ref c_Taken) (.ref c_NotFresh) = some false)
    (ki_NotNeeded : PySem.W.kitOne K (.ref c_BadEntry) (.ref c_NotNeeded) = some false ∧ PySem.W.kitOne K (.ref c_BadKind) (.ref c_NotNeeded) = some false ∧ PySem.W.kitOne K (.ref c_BadLine) (.ref c_NotNeeded) = some false ∧ PySem.W.kitOne K (.ref c_BadName) (.ref c_NotNeeded) = some false ∧ PySem.W.kitOne K (.ref c_BadTree) (.ref c_NotNeeded) = some false ∧ PySem.W.kitOne K (.ref c_Clash) (.ref c_NotNeeded) = some false ∧ PySem.W.kitOne K (.ref c_Conflict) (.ref c_NotNeeded) = some false ∧ PySem.W.kitOne K (.ref c_Failed) (.ref c_NotNeeded) = some false ∧ PySem.W.kitOne K (.ref c_Gap) (.ref c_NotNeeded) = some false ∧ PySem.W.kitOne K (.ref c_Halted) (.ref c_NotNeeded) = some false ∧ PySem.W.kitOne K (.ref c_Mismatch) (.ref c_NotNeeded) = some false ∧ PySem.W.kitOne K (.ref c_NoPlace) (.ref c_NotNeeded) = some false ∧ PySem.W.kitOne K (.ref c_NoRow) (.ref c_NotNeeded) = some false ∧ PySem.W.kitOne K (.ref c_NoTarget) (.ref c_NotNeeded) = some false ∧ PySem.W.kitOne K (.ref c_NoVersion) (.ref c_NotNeeded) = some false ∧ PySem.W.kitOne K (.ref c_NotAsked) (.ref c_NotNeeded) = some false ∧ PySem.W.kitOne K (.ref c_NotCause) (.ref c_NotNeeded) = some false ∧ PySem.W.kitOne K (.ref c_NotFresh) (.ref c_NotNeeded) = some false ∧ PySem.W.kitOne K (.ref c_NotNeeded) (.ref c_NotNeeded) = some true ∧ PySem.W.kitOne K (.ref c_NotOpen) (.ref c_NotNeeded) = some false ∧ PySem.W.kitOne K (.ref c_NotPart) (.ref c_NotNeeded) = some false ∧ PySem.W.kitOne K (.ref c_NotSettled) (.ref c_NotNeeded) = some false ∧ PySem.W.kitOne K (.ref c_NotSource) (.ref c_NotNeeded) = some false ∧ PySem.W.kitOne K (.ref c_Rewritten) (.ref c_NotNeeded) = some false ∧ PySem.W.kitOne K (.ref c_Stuck) (.ref c_NotNeeded) = some false ∧ PySem.W.kitOne K (.ref c_Taken) (.ref c_NotNeeded) = some false)
    (ki_NotOpen : PySem.W.kitOne K (.ref c_BadEntry) (.ref c_NotOpen) = some false ∧ PySem.W.kitOne K (.ref c_BadKind) (.ref c_NotOpen) = some false ∧ PySem.W.kitOne K (.ref c_BadLine) (.ref c_NotOpen) = some false ∧ PySem.W.kitOne K (.ref c_BadName) (.ref c_NotOpen) = some false ∧ PySem.W.kitOne K (.ref c_BadTree) (.ref c_NotOpen) = some false ∧ PySem.W.kitOne K (.ref c_Clash) (.ref c_NotOpen) = some false ∧ PySem.W.kitOne K (.ref c_Conflict) (.ref c_NotOpen) = some false ∧ PySem.W.kitOne K (.ref c_Failed) (.ref c_NotOpen) = some false ∧ PySem.W.kitOne K (.ref c_Gap) (.ref c_NotOpen) = some false ∧ PySem.W.kitOne K (.ref c_Halted) (.ref c_NotOpen) = some false ∧ PySem.W.kitOne K (.ref c_Mismatch) (.ref c_NotOpen) = some false ∧ PySem.W.kitOne K (.ref c_NoPlace) (.ref c_NotOpen) = some false ∧ PySem.W.kitOne K (.ref c_NoRow) (.ref c_NotOpen) = some false ∧ PySem.W.kitOne K (.ref c_NoTarget) (.ref c_NotOpen) = some false ∧ PySem.W.kitOne K (.ref c_NoVersion) (.ref c_NotOpen) = some false ∧ PySem.W.kitOne K (.ref c_NotAsked) (.ref c_NotOpen) = some false ∧ PySem.W.kitOne K (.ref c_NotCause) (.ref c_NotOpen) = some false ∧ PySem.W.kitOne K (.ref c_NotFresh) (.ref c_NotOpen) = some false ∧ PySem.W.kitOne K (.ref c_NotNeeded) (.ref c_NotOpen) = some false ∧ PySem.W.kitOne K (.ref c_NotOpen) (.ref c_NotOpen) = some true ∧ PySem.W.kitOne K (.ref c_NotPart) (.ref c_NotOpen) = some false ∧ PySem.W.kitOne K (.ref c_NotSettled) (.ref c_NotOpen) = some false ∧ PySem.W.kitOne K (.ref c_NotSource) (.ref c_NotOpen) = some false ∧ PySem.W.kitOne K (.ref c_Rewritten) (.ref c_NotOpen) = some false ∧ PySem.W.kitOne K (.ref c_Stuck) (.ref c_NotOpen) = some false ∧ PySem.W.kitOne K (.ref c_Taken) (.ref c_NotOpen) = some false)
    (ki_NotPart : PySem.W.kitOne K (.ref c_BadEntry) (.ref c_NotPart) = some false ∧ PySem.W.kitOne K (.ref c_BadKind) (.ref c_NotPart) = some false ∧ PySem.W.kitOne K (.ref c_BadLine) (.ref c_NotPart) = some false ∧ PySem.W.kitOne K (.ref c_BadName) (.ref c_NotPart) = some false ∧ PySem.W.kitOne K (.ref c_BadTree) (.ref c_NotPart) = some false ∧ PySem.W.kitOne K (.ref c_Clash) (.ref c_NotPart) = some false ∧ PySem.W.kitOne K (.ref c_Conflict) (.ref c_NotPart) = some false ∧ PySem.W.kitOne K (.ref c_Failed) (.ref c_NotPart) = some false ∧ PySem.W.kitOne K (.ref c_Gap) (.ref c_NotPart) = some false ∧ PySem.W.kitOne K (.ref c_Halted) (.ref c_NotPart) = some false ∧ PySem.W.kitOne K (.ref c_Mismatch) (.ref c_NotPart) = some false ∧ PySem.W.kitOne K (.ref c_NoPlace) (.ref c_NotPart) = some false ∧ PySem.W.kitOne K (.ref c_NoRow) (.ref c_NotPart) = some false ∧ PySem.W.kitOne K (.ref c_NoTarget) (.ref c_NotPart) = some false ∧ PySem.W.kitOne K (.ref c_NoVersion) (.ref c_NotPart) = some false ∧ PySem.W.kitOne K (.ref c_NotAsked) (.ref c_NotPart) = some false ∧ PySem.W.kitOne K (.ref c_NotCause) (.ref c_NotPart) = some false ∧ PySem.W.kitOne K (.ref c_NotFresh) (.ref c_NotPart) = some false ∧ PySem.W.kitOne K (.ref c_NotNeeded) (.ref c_NotPart) = some false ∧ PySem.W.kitOne K (.ref c_NotOpen) (.ref c_NotPart) = some false ∧ PySem.W.kitOne K (.ref c_NotPart) (.ref c_NotPart) = some true ∧ PySem.W.kitOne K (.ref c_NotSettled) (.ref c_NotPart) = some false ∧ PySem.W.kitOne K (.ref c_NotSource) (.ref c_NotPart) = some false ∧ PySem.W.kitOne K (.ref c_Rewritten) (.ref c_NotPart) = some false ∧ PySem.W.kitOne K (.ref c_Stuck) (.ref c_NotPart) = some false ∧ PySem.W.kitOne K (.ref c_Taken) (.ref c_NotPart) = some false)
    (ki_NotSettled : PySem.W.kitOne K (.ref c_BadEntry) (.ref c_NotSettled) = some false ∧ PySem.W.kitOne K (.ref c_BadKind) (.ref c_NotSettled) = some false ∧ PySem.W.kitOne K (.ref c_BadLine) (.ref c_NotSettled) = some false ∧ PySem.W.kitOne K (.ref c_BadName) (.ref c_NotSettled) = some false ∧ PySem.W.kitOne K (.ref c_BadTree) (.ref c_NotSettled) = some false ∧ PySem.W.kitOne K (.ref c_Clash) (.ref c_NotSettled) = some false ∧ PySem.W.kitOne K (.ref c_Conflict) (.ref c_NotSettled) = some false ∧ PySem.W.kitOne K (.ref c_Failed) (.ref c_NotSettled) = some false ∧ PySem.W.kitOne K (.ref c_Gap) (.ref c_NotSettled) = some false ∧ PySem.W.kitOne K (.ref c_Halted) (.ref c_NotSettled) = some false ∧ PySem.W.kitOne K (.ref c_Mismatch) (.ref c_NotSettled) = some false ∧ PySem.W.kitOne K (.ref c_NoPlace) (.ref c_NotSettled) = some false ∧ PySem.W.kitOne K (.ref c_NoRow) (.ref c_NotSettled) = some false ∧ PySem.W.kitOne K (.ref c_NoTarget) (.ref c_NotSettled) = some false ∧ PySem.W.kitOne K (.ref c_NoVersion) (.ref c_NotSettled) = some false ∧ PySem.W.kitOne K (.ref c_NotAsked) (.ref c_NotSettled) = some false ∧ PySem.W.kitOne K (.ref c_NotCause) (.ref c_NotSettled) = some false ∧ PySem.W.kitOne K (.ref c_NotFresh) (.ref c_NotSettled) = some false ∧ PySem.W.kitOne K (.ref c_NotNeeded) (.ref c_NotSettled) = some false ∧ PySem.W.kitOne K (.ref c_NotOpen) (.ref c_NotSettled) = some false ∧ PySem.W.kitOne K (.ref c_NotPart) (.ref c_NotSettled) = some false ∧ PySem.W.kitOne K (.ref c_NotSettled) (.ref c_NotSettled) = some true ∧ PySem.W.kitOne K (.ref c_NotSource) (.ref c_NotSettled) = some false ∧ PySem.W.kitOne K (.ref c_Rewritten) (.ref c_NotSettled) = some false ∧ PySem.W.kitOne K (.ref c_Stuck) (.ref c_NotSettled) = some false ∧ PySem.W.kitOne K (.ref c_Taken) (.ref c_NotSettled) = some false)
    (ki_NotSource : PySem.W.kitOne K (.ref c_BadEntry) (.ref c_NotSource) = some false ∧ PySem.W.kitOne K (.ref c_BadKind) (.ref c_NotSource) = some false ∧ PySem.W.kitOne K (.ref c_BadLine) (.ref c_NotSource) = some false ∧ PySem.W.kitOne K (.ref c_BadName) (.ref c_NotSource) = some false ∧ PySem.W.kitOne K (.ref c_BadTree) (.ref c_NotSource) = some false ∧ PySem.W.kitOne K (.ref c_Clash) (.ref c_NotSource) = some false ∧ PySem.W.kitOne K (.ref c_Conflict) (.ref c_NotSource) = some false ∧ PySem.W.kitOne K (.ref c_Failed) (.ref c_NotSource) = some false ∧ PySem.W.kitOne K (.ref c_Gap) (.ref c_NotSource) = some false ∧ PySem.W.kitOne K (.ref c_Halted) (.ref c_NotSource) = some false ∧ PySem.W.kitOne K (.ref c_Mismatch) (.ref c_NotSource) = some false ∧ PySem.W.kitOne K (.ref c_NoPlace) (.ref c_NotSource) = some false ∧ PySem.W.kitOne K (.ref c_NoRow) (.ref c_NotSource) = some false ∧ PySem.W.kitOne K (.ref c_NoTarget) (.ref c_NotSource) = some false ∧ PySem.W.kitOne K (.ref c_NoVersion) (.ref c_NotSource) = some false ∧ PySem.W.kitOne K (.ref c_NotAsked) (.ref c_NotSource) = some false ∧ PySem.W.kitOne K (.ref c_NotCause) (.ref c_NotSource) = some false ∧ PySem.W.kitOne K (.ref c_NotFresh) (.ref c_NotSource) = some false ∧ PySem.W.kitOne K (.ref c_NotNeeded) (.ref c_NotSource) = some false ∧ PySem.W.kitOne K (.ref c_NotOpen) (.ref c_NotSource) = some false ∧ PySem.W.kitOne K (.ref c_NotPart) (.ref c_NotSource) = some false ∧ PySem.W.kitOne K (.ref c_NotSettled) (.ref c_NotSource) = some false ∧ PySem.W.kitOne K (.ref c_NotSource) (.ref c_NotSource) = some true ∧ PySem.W.kitOne K (.ref c_Rewritten) (.ref c_NotSource) = some false ∧ PySem.W.kitOne K (.ref c_Stuck) (.ref c_NotSource) = some false ∧ PySem.W.kitOne K (.ref c_Taken) (.ref c_NotSource) = some false)
    (ki_Rewritten : PySem.W.kitOne K (.ref c_BadEntry) (.ref c_Rewritten) = some false ∧ PySem.W.kitOne K (.ref c_BadKind) (.ref c_Rewritten) = some false ∧ PySem.W.kitOne K (.ref c_BadLine) (.ref c_Rewritten) = some false ∧ PySem.W.kitOne K (.ref c_BadName) (.ref c_Rewritten) = some false ∧ PySem.W.kitOne K (.ref c_BadTree) (.ref c_Rewritten) = some false ∧ PySem.W.kitOne K (.ref c_Clash) (.ref c_Rewritten) = some false ∧ PySem.W.kitOne K (.ref c_Conflict) (.ref c_Rewritten) = some false ∧ PySem.W.kitOne K (.ref c_Failed) (.ref c_Rewritten) = some false ∧ PySem.W.kitOne K (.ref c_Gap) (.ref c_Rewritten) = some false ∧ PySem.W.kitOne K (.ref c_Halted) (.ref c_Rewritten) = some false ∧ PySem.W.kitOne K (.ref c_Mismatch) (.ref c_Rewritten) = some false ∧ PySem.W.kitOne K (.ref c_NoPlace) (.ref c_Rewritten) = some false ∧ PySem.W.kitOne K (.ref c_NoRow) (.ref c_Rewritten) = some false ∧ PySem.W.kitOne K (.ref c_NoTarget) (.ref c_Rewritten) = some false ∧ PySem.W.kitOne K (.ref c_NoVersion) (.ref c_Rewritten) = some false ∧ PySem.W.kitOne K (.ref c_NotAsked) (.ref c_Rewritten) = some false ∧ PySem.W.kitOne K (.ref c_NotCause) (.ref c_Rewritten) = some false ∧ PySem.W.kitOne K (.ref c_NotFresh) (.ref c_Rewritten) = some false ∧ PySem.W.kitOne K (.ref c_NotNeeded) (.ref c_Rewritten) = some false ∧ PySem.W.kitOne K (.ref c_NotOpen) (.ref c_Rewritten) = some false ∧ PySem.W.kitOne K (.ref c_NotPart) (.ref c_Rewritten) = some false ∧ PySem.W.kitOne K (.ref c_NotSettled) (.ref c_Rewritten) = some false ∧ PySem.W.kitOne K (.ref c_NotSource) (.ref c_Rewritten) = some false ∧ PySem.W.kitOne K (.ref c_Rewritten) (.ref c_Rewritten) = some true ∧ PySem.W.kitOne K (.ref c_Stuck) (.ref c_Rewritten) = some false ∧ PySem.W.kitOne K (.ref c_Taken) (.ref c_Rewritten) = some false)
    (ki_Stuck : PySem.W.kitOne K (.ref c_BadEntry) (.ref c_Stuck) = some false ∧ PySem.W.kitOne K (.ref c_BadKind) (.ref c_Stuck) = some false ∧ PySem.W.kitOne K (.ref c_BadLine) (.ref c_Stuck) = some false ∧ PySem.W.kitOne K (.ref c_BadName) (.ref c_Stuck) = some false ∧ PySem.W.kitOne K (.ref c_BadTree) (.ref c_Stuck) = some false ∧ PySem.W.kitOne K (.ref c_Clash) (.ref c_Stuck) = some false ∧ PySem.W.kitOne K (.ref c_Conflict) (.ref c_Stuck) = some false ∧ PySem.W.kitOne K (.ref c_Failed) (.ref c_Stuck) = some false ∧ PySem.W.kitOne K (.ref c_Gap) (.ref c_Stuck) = some false ∧ PySem.W.kitOne K (.ref c_Halted) (.ref c_Stuck) = some false ∧ PySem.W.kitOne K (.ref c_Mismatch) (.ref c_Stuck) = some false ∧ PySem.W.kitOne K (.ref c_NoPlace) (.ref c_Stuck) = some false ∧ PySem.W.kitOne K (.ref c_NoRow) (.ref c_Stuck) = some false ∧ PySem.W.kitOne K (.ref c_NoTarget) (.ref c_Stuck) = some false ∧ PySem.W.kitOne K (.ref c_NoVersion) (.ref c_Stuck) = some false ∧ PySem.W.kitOne K (.ref c_NotAsked) (.ref c_Stuck) = some false ∧ PySem.W.kitOne K (.ref c_NotCause) (.ref c_Stuck) = some false ∧ PySem.W.kitOne K (.ref c_NotFresh) (.ref c_Stuck) = some false ∧ PySem.W.kitOne K (.ref c_NotNeeded) (.ref c_Stuck) = some false ∧ PySem.W.kitOne K (.ref c_NotOpen) (.ref c_Stuck) = some false ∧ PySem.W.kitOne K (.ref c_NotPart) (.ref c_Stuck) = some false ∧ PySem.W.kitOne K (.ref c_NotSettled) (.ref c_Stuck) = some false ∧ PySem.W.kitOne K (.ref c_NotSource) (.ref c_Stuck) = some false ∧ PySem.W.kitOne K (.ref c_Rewritten) (.ref c_Stuck) = some false ∧ PySem.W.kitOne K (.ref c_Stuck) (.ref c_Stuck) = some true ∧ PySem.W.kitOne K (.ref c_Taken) (.ref c_Stuck) = some false)
    (ki_Taken : PySem.W.kitOne K (.ref c_BadEntry) (.ref c_Taken) = some false ∧ PySem.W.kitOne K (.ref c_BadKind) (.ref c_Taken) = some false ∧ PySem.W.kitOne K (.ref c_BadLine) (.ref c_Taken) = some false ∧ PySem.W.kitOne K (.ref c_BadName) (.ref c_Taken) = some false ∧ PySem.W.kitOne K (.ref c_BadTree) (.ref c_Taken) = some false ∧ PySem.W.kitOne K (.ref c_Clash) (.ref c_Taken) = some false ∧ PySem.W.kitOne K (.ref c_Conflict) (.ref c_Taken) = some false ∧ PySem.W.kitOne K (.ref c_Failed) (.ref c_Taken) = some false ∧ PySem.W.kitOne K (.ref c_Gap) (.ref c_Taken) = some false ∧ PySem.W.kitOne K (.ref c_Halted) (.ref c_Taken) = some false ∧ PySem.W.kitOne K (.ref c_Mismatch) (.ref c_Taken) = some false ∧ PySem.W.kitOne K (.ref c_NoPlace) (.ref c_Taken) = some false ∧ PySem.W.kitOne K (.ref c_NoRow) (.ref c_Taken) = some false ∧ PySem.W.kitOne K (.ref c_NoTarget) (.ref c_Taken) = some false ∧ PySem.W.kitOne K (.ref c_NoVersion) (.ref c_Taken) = some false ∧ PySem.W.kitOne K (.ref c_NotAsked) (.ref c_Taken) = some false ∧ PySem.W.kitOne K (.ref c_NotCause) (.ref c_Taken) = some false ∧ PySem.W.kitOne K (.ref c_NotFresh) (.ref c_Taken) = some false ∧ PySem.W.kitOne K (.ref c_NotNeeded) (.ref c_Taken) = some false ∧ PySem.W.kitOne K (.ref c_NotOpen) (.ref c_Taken) = some false ∧ PySem.W.kitOne K (.ref c_NotPart) (.ref c_Taken) = some false ∧ PySem.W.kitOne K (.ref c_NotSettled) (.ref c_Taken) = some false ∧ PySem.W.kitOne K (.ref c_NotSource) (.ref c_Taken) = some false ∧ PySem.W.kitOne K (.ref c_Rewritten) (.ref c_Taken) = some false ∧ PySem.W.kitOne K (.ref c_Stuck) (.ref c_Taken) = some false ∧ PySem.W.kitOne K (.ref c_Taken) (.ref c_Taken) = some true)
    (xf_cause : XfC K c_NotCause) (xg_cause : PySem.W.findIn K (.ref c_NotCause) "cause" = some none)
    (xf_conflicts : XfC K c_Conflict) (xg_conflicts : PySem.W.findIn K (.ref c_Conflict) "conflicts" = some none)
    (xf_entry : XfC K c_BadEntry) (xg_entry : PySem.W.findIn K (.ref c_BadEntry) "entry" = some none)
    (xf_key : XfC K c_NotSettled ∧ XfC K c_NotOpen ∧ XfC K c_NotAsked) (xg_key : PySem.W.findIn K (.ref c_NotSettled) "key" = some none ∧ PySem.W.findIn K (.ref c_NotOpen) "key" = some none ∧ PySem.W.findIn K (.ref c_NotAsked) "key" = some none)
    (xf_line : XfC K c_BadLine ∧ XfC K c_BadKind ∧ XfC K c_BadName) (xg_line : PySem.W.findIn K (.ref c_BadLine) "line" = some none ∧ PySem.W.findIn K (.ref c_BadKind) "line" = some none ∧ PySem.W.findIn K (.ref c_BadName) "line" = some none)
    (xf_name : XfC K c_NoTarget ∧ XfC K c_NotSource ∧ XfC K c_Mismatch ∧ XfC K c_Taken ∧ XfC K c_BadName) (xg_name : PySem.W.findIn K (.ref c_NoTarget) "name" = some none ∧ PySem.W.findIn K (.ref c_NotSource) "name" = some none ∧ PySem.W.findIn K (.ref c_Mismatch) "name" = some none ∧ PySem.W.findIn K (.ref c_Taken) "name" = some none ∧ PySem.W.findIn K (.ref c_BadName) "name" = some none)
    (xf_number : XfC K c_NoVersion) (xg_number : PySem.W.findIn K (.ref c_NoVersion) "number" = some none)
    (xf_path : XfC K c_BadTree ∧ XfC K c_Failed) (xg_path : PySem.W.findIn K (.ref c_BadTree) "path" = some none ∧ PySem.W.findIn K (.ref c_Failed) "path" = some none)
    (xf_ring : XfC K c_Stuck) (xg_ring : PySem.W.findIn K (.ref c_Stuck) "ring" = some none)
    (xf_spot : XfC K c_Clash ∧ XfC K c_Gap ∧ XfC K c_Rewritten ∧ XfC K c_NoPlace ∧ XfC K c_NotNeeded ∧ XfC K c_NotPart) (xg_spot : PySem.W.findIn K (.ref c_Clash) "spot" = some none ∧ PySem.W.findIn K (.ref c_Gap) "spot" = some none ∧ PySem.W.findIn K (.ref c_Rewritten) "spot" = some none ∧ PySem.W.findIn K (.ref c_NoPlace) "spot" = some none ∧ PySem.W.findIn K (.ref c_NotNeeded) "spot" = some none ∧ PySem.W.findIn K (.ref c_NotPart) "spot" = some none)
    (xf_words : XfC K c_NotFresh) (xg_words : PySem.W.findIn K (.ref c_NotFresh) "words" = some none) :
    ∃ fd : FuncData, (∀ (s : Shared) (v : Value), BindsTo s fd ⟨[v], []⟩ [("_law_script", v)]) ∧ ∀ base : Heap, K.In base → base.Ns mainGlobals mg → FnOk l.prog w K mg base CX0 19 fa fd ["_law_script"] (lift (Bs.no l.prog w K) sp_law) := by
  have e := hfa.symm.trans (PySem.W.mg_of X G a13)
  cases e
  have T : Bl l.prog K mg c_BadEntry c_BadKind c_BadLine c_BadName c_BadTree c_BuildError c_Clash c_Conflict c_Failed c_Gap c_Halted c_Mismatch c_NoPlace c_NoRow c_NoTarget c_NoVersion c_NotAsked c_NotCause c_NotFresh c_NotNeeded c_NotOpen c_NotPart c_NotSettled c_NotSource c_Rewritten c_Stuck c_Taken i_BadEntry i_BadKind i_BadLine i_BadName i_BadTree i_Clash i_Conflict i_Failed i_Gap i_Halted i_Mismatch i_NoPlace i_NoRow i_NoTarget i_NoVersion i_NotAsked i_NotCause i_NotFresh i_NotNeeded i_NotOpen i_NotPart i_NotSettled i_NotSource i_Rewritten i_Stuck i_Taken := by
    refine ⟨PySem.W.mg_none_of X G z0,
    PySem.W.mg_none_of X G z1,
    PySem.W.mg_none_of X G z2,
    PySem.W.mg_none_of X G z3,
    PySem.W.mg_none_of X G z4,
    PySem.W.mg_none_of X G z5,
    PySem.W.mg_none_of X G z6,
    PySem.W.mg_none_of X G z7,
    PySem.W.mg_none_of X G z8,
    PySem.W.mg_none_of X G z9,
    PySem.W.mg_none_of X G z10,
    PySem.W.mg_none_of X G z11,
    PySem.W.mg_none_of X G z12,
    PySem.W.mg_none_of X G z13,
    PySem.W.mg_none_of X G z14,
    PySem.W.mg_none_of X G z15,
    PySem.W.mg_none_of X G z16,
    PySem.W.mg_none_of X G z17,
    PySem.W.mg_of X G n_BadEntry,
    n_BadEntry,
    PySem.W.mg_of X G n_BadKind,
    n_BadKind,
    PySem.W.mg_of X G n_BadLine,
    n_BadLine,
    PySem.W.mg_of X G n_BadName,
    n_BadName,
    PySem.W.mg_of X G n_BadTree,
    n_BadTree,
    PySem.W.mg_of X G n_BuildError,
    n_BuildError,
    PySem.W.mg_of X G n_Clash,
    n_Clash,
    PySem.W.mg_of X G n_Conflict,
    n_Conflict,
    PySem.W.mg_of X G n_Failed,
    n_Failed,
    PySem.W.mg_of X G n_Gap,
    n_Gap,
    PySem.W.mg_of X G n_Halted,
    n_Halted,
    PySem.W.mg_of X G n_Mismatch,
    n_Mismatch,
    PySem.W.mg_of X G n_NoPlace,
    n_NoPlace,
    PySem.W.mg_of X G n_NoRow,
    n_NoRow,
    PySem.W.mg_of X G n_NoTarget,
    n_NoTarget,
    PySem.W.mg_of X G n_NoVersion,
    n_NoVersion,
    PySem.W.mg_of X G n_NotAsked,
    n_NotAsked,
    PySem.W.mg_of X G n_NotCause,
    n_NotCause,
    PySem.W.mg_of X G n_NotFresh,
    n_NotFresh,
    PySem.W.mg_of X G n_NotNeeded,
    n_NotNeeded,
    PySem.W.mg_of X G n_NotOpen,
    n_NotOpen,
    PySem.W.mg_of X G n_NotPart,
    n_NotPart,
    PySem.W.mg_of X G n_NotSettled,
    n_NotSettled,
    PySem.W.mg_of X G n_NotSource,
    n_NotSource,
    PySem.W.mg_of X G n_Rewritten,
    n_Rewritten,
    PySem.W.mg_of X G n_Stuck,
    n_Stuck,
    PySem.W.mg_of X G n_Taken,
    n_Taken,
    x_BadEntry,
    x_BadKind,
    x_BadLine,
    x_BadTree,
    x_Clash,
    x_Conflict,
    x_Failed,
    x_Gap,
    x_Mismatch,
    x_NoPlace,
    x_NoTarget,
    x_NoVersion,
    x_NotAsked,
    x_NotCause,
    x_NotFresh,
    x_NotNeeded,
    x_NotOpen,
    x_NotPart,
    x_NotSettled,
    x_NotSource,
    x_Rewritten,
    x_Stuck,
    x_Taken,
    x_Halted,
    x_NoRow,
    xw_BadEntry,
    xw_BadLine,
    xw_BadTree,
    xw_Clash,
    xw_Conflict,
    xw_NoVersion,
    xw_NotAsked,
    xw_Stuck,
    x2_BadName,
    xw2_BadName,
    by
      obtain ⟨exb_KeyError_BadEntry, exb_KeyError_BadKind, exb_KeyError_BadLine, exb_KeyError_BadName, exb_KeyError_BadTree, exb_KeyError_Clash, exb_KeyError_Conflict, exb_KeyError_Failed, exb_KeyError_Gap, exb_KeyError_Halted, exb_KeyError_Mismatch, exb_KeyError_NoPlace, exb_KeyError_NoRow, exb_KeyError_NoTarget, exb_KeyError_NoVersion, exb_KeyError_NotAsked, exb_KeyError_NotCause, exb_KeyError_NotFresh, exb_KeyError_NotNeeded, exb_KeyError_NotOpen, exb_KeyError_NotPart, exb_KeyError_NotSettled, exb_KeyError_NotSource, exb_KeyError_Rewritten, exb_KeyError_Stuck, exb_KeyError_Taken⟩ := exb_KeyError; 
      exact tab_one (P := fun c b => ∀ C, ClsAt K c C → PySem.W.exmOne K (.ref C) (.type "KeyError") = some b) (fun p hp => by
      simp only [List.mem_cons, List.not_mem_nil, or_false] at hp
      rcases hp with rfl | rfl | rfl | rfl | rfl | rfl | rfl | rfl | rfl | rfl | rfl | rfl | rfl | rfl | rfl | rfl | rfl | rfl | rfl | rfl | rfl | rfl | rfl | rfl | rfl | rfl
      · exact fun C hC => by rw [← cls_eq n_BadEntry hC]; exact exb_KeyError_BadEntry
      · exact fun C hC => by rw [← cls_eq n_BadKind hC]; exact exb_KeyError_BadKind
      · exact fun C hC => by rw [← cls_eq n_BadLine hC]; exact exb_KeyError_BadLine
      · exact fun C hC => by rw [← cls_eq n_BadName hC]; exact exb_KeyError_BadName
      · exact fun C hC => by rw [← cls_eq n_BadTree hC]; exact exb_KeyError_BadTree
      · exact fun C hC => by rw [← cls_eq n_Clash hC]; exact exb_KeyError_Clash
      · exact fun C hC => by rw [← cls_eq n_Conflict hC]; exact exb_KeyError_Conflict
      · exact fun C hC => by rw [← cls_eq n_Failed hC]; exact exb_KeyError_Failed
      · exact fun C hC => by rw [← cls_eq n_Gap hC]; exact exb_KeyError_Gap
      · exact fun C hC => by rw [← cls_eq n_Halted hC]; exact exb_KeyError_Halted
      · exact fun C hC => by rw [← cls_eq n_Mismatch hC]; exact exb_KeyError_Mismatch
      · exact fun C hC => by rw [← cls_eq n_NoPlace hC]; exact exb_KeyError_NoPlace
      · exact fun C hC => by rw [← cls_eq n_NoRow hC]; exact exb_KeyError_NoRow
      · exact fun C hC => by rw [← cls_eq n_NoTarget hC]; exact exb_KeyError_NoTarget
      · exact fun C hC => by rw [← cls_eq n_NoVersion hC]; exact exb_KeyError_NoVersion
      · exact fun C hC => by rw [← cls_eq n_NotAsked hC]; exact exb_KeyError_NotAsked
      · exact fun C hC => by rw [← cls_eq n_NotCause hC]; exact exb_KeyError_NotCause
      · exact fun C hC => by rw [← cls_eq n_NotFresh hC]; exact exb_KeyError_NotFresh
      · exact fun C hC => by rw [← cls_eq n_NotNeeded hC]; exact exb_KeyError_NotNeeded
      · exact fun C hC => by rw [← cls_eq n_NotOpen hC]; exact exb_KeyError_NotOpen
      · exact fun C hC => by rw [← cls_eq n_NotPart hC]; exact exb_KeyError_NotPart
      · exact fun C hC => by rw [← cls_eq n_NotSettled hC]; exact exb_KeyError_NotSettled
      · exact fun C hC => by rw [← cls_eq n_NotSource hC]; exact exb_KeyError_NotSource
      · exact fun C hC => by rw [← cls_eq n_Rewritten hC]; exact exb_KeyError_Rewritten
      · exact fun C hC => by rw [← cls_eq n_Stuck hC]; exact exb_KeyError_Stuck
      · exact fun C hC => by rw [← cls_eq n_Taken hC]; exact exb_KeyError_Taken),
    by
      obtain ⟨ec_BadEntry, ec_BadKind, ec_BadLine, ec_BadName, ec_BadTree, ec_Clash, ec_Conflict, ec_Failed, ec_Gap, ec_Halted, ec_Mismatch, ec_NoPlace, ec_NoRow, ec_NoTarget, ec_NoVersion, ec_NotAsked, ec_NotCause, ec_NotFresh, ec_NotNeeded, ec_NotOpen, ec_NotPart, ec_NotSettled, ec_NotSource, ec_Rewritten, ec_Stuck, ec_Taken⟩ := ec; obtain ⟨kb_IndexError_BadEntry, kb_IndexError_BadKind, kb_IndexError_BadLine, kb_IndexError_BadName, kb_IndexError_BadTree, kb_IndexError_Clash, kb_IndexError_Conflict, kb_IndexError_Failed, kb_IndexError_Gap, kb_IndexError_Halted, kb_IndexError_Mismatch, kb_IndexError_NoPlace, kb_IndexError_NoRow, kb_IndexError_NoTarget, kb_IndexError_NoVersion, kb_IndexError_NotAsked, kb_IndexError_NotCause, kb_IndexError_NotFresh, kb_IndexError_NotNeeded, kb_IndexError_NotOpen, kb_IndexError_NotPart, kb_IndexError_NotSettled, kb_IndexError_NotSource, kb_IndexError_Rewritten, kb_IndexError_Stuck, kb_IndexError_Taken⟩ := kb_IndexError; 
      exact tab_one (P := fun c b => ∀ C, ClsAt K c C → ExcC K C ∧ PySem.W.kitOne K (.ref C) (.type "IndexError") = some b) (fun p hp => by
      simp only [List.mem_cons, List.not_mem_nil, or_false] at hp
      rcases hp with rfl | rfl | rfl | rfl | rfl | rfl | rfl | rfl | rfl | rfl | rfl | rfl | rfl | rfl | rfl | rfl | rfl | rfl | rfl | rfl | rfl | rfl | rfl | rfl | rfl | rfl
      · exact fun C hC => by rw [← cls_eq n_BadEntry hC]; exact ⟨ec_BadEntry, kb_IndexError_BadEntry⟩
      · exact fun C hC => by rw [← cls_eq n_BadKind hC]; exact ⟨ec_BadKind, kb_IndexError_BadKind⟩
      · exact fun C hC => by rw [← cls_eq n_BadLine hC]; exact ⟨ec_BadLine, kb_IndexError_BadLine⟩
      · exact fun C hC => by rw [← cls_eq n_BadName hC]; exact ⟨ec_BadName, kb_IndexError_BadName⟩
      · exact fun C hC => by rw [← cls_eq n_BadTree hC]; exact ⟨ec_BadTree, kb_IndexError_BadTree⟩
      · exact fun C hC => by rw [← cls_eq n_Clash hC]; exact ⟨ec_Clash, kb_IndexError_Clash⟩
      · exact fun C hC => by rw [← cls_eq n_Conflict hC]; exact ⟨ec_Conflict, kb_IndexError_Conflict⟩
      · exact fun C hC => by rw [← cls_eq n_Failed hC]; exact ⟨ec_Failed, kb_IndexError_Failed⟩
      · exact fun C hC => by rw [← cls_eq n_Gap hC]; exact ⟨ec_Gap, kb_IndexError_Gap⟩
      · exact fun C hC => by rw [← cls_eq n_Halted hC]; exact ⟨ec_Halted, kb_IndexError_Halted⟩
      · exact fun C hC => by rw [← cls_eq n_Mismatch hC]; exact ⟨ec_Mismatch, kb_IndexError_Mismatch⟩
      · exact fun C hC => by rw [← cls_eq n_NoPlace hC]; exact ⟨ec_NoPlace, kb_IndexError_NoPlace⟩
      · exact fun C hC => by rw [← cls_eq n_NoRow hC]; exact ⟨ec_NoRow, kb_IndexError_NoRow⟩
      · exact fun C hC => by rw [← cls_eq n_NoTarget hC]; exact ⟨ec_NoTarget, kb_IndexError_NoTarget⟩
      · exact fun C hC => by rw [← cls_eq n_NoVersion hC]; exact ⟨ec_NoVersion, kb_IndexError_NoVersion⟩
      · exact fun C hC => by rw [← cls_eq n_NotAsked hC]; exact ⟨ec_NotAsked, kb_IndexError_NotAsked⟩
      · exact fun C hC => by rw [← cls_eq n_NotCause hC]; exact ⟨ec_NotCause, kb_IndexError_NotCause⟩
      · exact fun C hC => by rw [← cls_eq n_NotFresh hC]; exact ⟨ec_NotFresh, kb_IndexError_NotFresh⟩
      · exact fun C hC => by rw [← cls_eq n_NotNeeded hC]; exact ⟨ec_NotNeeded, kb_IndexError_NotNeeded⟩
      · exact fun C hC => by rw [← cls_eq n_NotOpen hC]; exact ⟨ec_NotOpen, kb_IndexError_NotOpen⟩
      · exact fun C hC => by rw [← cls_eq n_NotPart hC]; exact ⟨ec_NotPart, kb_IndexError_NotPart⟩
      · exact fun C hC => by rw [← cls_eq n_NotSettled hC]; exact ⟨ec_NotSettled, kb_IndexError_NotSettled⟩
      · exact fun C hC => by rw [← cls_eq n_NotSource hC]; exact ⟨ec_NotSource, kb_IndexError_NotSource⟩
      · exact fun C hC => by rw [← cls_eq n_Rewritten hC]; exact ⟨ec_Rewritten, kb_IndexError_Rewritten⟩
      · exact fun C hC => by rw [← cls_eq n_Stuck hC]; exact ⟨ec_Stuck, kb_IndexError_Stuck⟩
      · exact fun C hC => by rw [← cls_eq n_Taken hC]; exact ⟨ec_Taken, kb_IndexError_Taken⟩),
    by
      obtain ⟨ec_BadEntry, ec_BadKind, ec_BadLine, ec_BadName, ec_BadTree, ec_Clash, ec_Conflict, ec_Failed, ec_Gap, ec_Halted, ec_Mismatch, ec_NoPlace, ec_NoRow, ec_NoTarget, ec_NoVersion, ec_NotAsked, ec_NotCause, ec_NotFresh, ec_NotNeeded, ec_NotOpen, ec_NotPart, ec_NotSettled, ec_NotSource, ec_Rewritten, ec_Stuck, ec_Taken⟩ := ec; obtain ⟨kb_KeyError_BadEntry, kb_KeyError_BadKind, kb_KeyError_BadLine, kb_KeyError_BadName, kb_KeyError_BadTree, kb_KeyError_Clash, kb_KeyError_Conflict, kb_KeyError_Failed, kb_KeyError_Gap, kb_KeyError_Halted, kb_KeyError_Mismatch, kb_KeyError_NoPlace, kb_KeyError_NoRow, kb_KeyError_NoTarget, kb_KeyError_NoVersion, kb_KeyError_NotAsked, kb_KeyError_NotCause, kb_KeyError_NotFresh, kb_KeyError_NotNeeded, kb_KeyError_NotOpen, kb_KeyError_NotPart, kb_KeyError_NotSettled, kb_KeyError_NotSource, kb_KeyError_Rewritten, kb_KeyError_Stuck, kb_KeyError_Taken⟩ := kb_KeyError; 
      exact tab_one (P := fun c b => ∀ C, ClsAt K c C → ExcC K C ∧ PySem.W.kitOne K (.ref C) (.type "KeyError") = some b) (fun p hp => by
      simp only [List.mem_cons, List.not_mem_nil, or_false] at hp
      rcases hp with rfl | rfl | rfl | rfl | rfl | rfl | rfl | rfl | rfl | rfl | rfl | rfl | rfl | rfl | rfl | rfl | rfl | rfl | rfl | rfl | rfl | rfl | rfl | rfl | rfl | rfl
      · exact fun C hC => by rw [← cls_eq n_BadEntry hC]; exact ⟨ec_BadEntry, kb_KeyError_BadEntry⟩
      · exact fun C hC => by rw [← cls_eq n_BadKind hC]; exact ⟨ec_BadKind, kb_KeyError_BadKind⟩
      · exact fun C hC => by rw [← cls_eq n_BadLine hC]; exact ⟨ec_BadLine, kb_KeyError_BadLine⟩
      · exact fun C hC => by rw [← cls_eq n_BadName hC]; exact ⟨ec_BadName, kb_KeyError_BadName⟩
      · exact fun C hC => by rw [← cls_eq n_BadTree hC]; exact ⟨ec_BadTree, kb_KeyError_BadTree⟩
      · exact fun C hC => by rw [← cls_eq n_Clash hC]; exact ⟨ec_Clash, kb_KeyError_Clash⟩
      · exact fun C hC => by rw [← cls_eq n_Conflict hC]; exact ⟨ec_Conflict, kb_KeyError_Conflict⟩
      · exact fun C hC => by rw [← cls_eq n_Failed hC]; exact ⟨ec_Failed, kb_KeyError_Failed⟩
      · exact fun C hC => by rw [← cls_eq n_Gap hC]; exact ⟨ec_Gap, kb_KeyError_Gap⟩
      · exact fun C hC => by rw [← cls_eq n_Halted hC]; exact ⟨ec_Halted, kb_KeyError_Halted⟩
      · exact fun C hC => by rw [← cls_eq n_Mismatch hC]; exact ⟨ec_Mismatch, kb_KeyError_Mismatch⟩
      · exact fun C hC => by rw [← cls_eq n_NoPlace hC]; exact ⟨ec_NoPlace, kb_KeyError_NoPlace⟩
      · exact fun C hC => by rw [← cls_eq n_NoRow hC]; exact ⟨ec_NoRow, kb_KeyError_NoRow⟩
      · exact fun C hC => by rw [← cls_eq n_NoTarget hC]; exact ⟨ec_NoTarget, kb_KeyError_NoTarget⟩
      · exact fun C hC => by rw [← cls_eq n_NoVersion hC]; exact ⟨ec_NoVersion, kb_KeyError_NoVersion⟩
      · exact fun C hC => by rw [← cls_eq n_NotAsked hC]; exact ⟨ec_NotAsked, kb_KeyError_NotAsked⟩
      · exact fun C hC => by rw [← cls_eq n_NotCause hC]; exact ⟨ec_NotCause, kb_KeyError_NotCause⟩
      · exact fun C hC => by rw [← cls_eq n_NotFresh hC]; exact ⟨ec_NotFresh, kb_KeyError_NotFresh⟩
      · exact fun C hC => by rw [← cls_eq n_NotNeeded hC]; exact ⟨ec_NotNeeded, kb_KeyError_NotNeeded⟩
      · exact fun C hC => by rw [← cls_eq n_NotOpen hC]; exact ⟨ec_NotOpen, kb_KeyError_NotOpen⟩
      · exact fun C hC => by rw [← cls_eq n_NotPart hC]; exact ⟨ec_NotPart, kb_KeyError_NotPart⟩
      · exact fun C hC => by rw [← cls_eq n_NotSettled hC]; exact ⟨ec_NotSettled, kb_KeyError_NotSettled⟩
      · exact fun C hC => by rw [← cls_eq n_NotSource hC]; exact ⟨ec_NotSource, kb_KeyError_NotSource⟩
      · exact fun C hC => by rw [← cls_eq n_Rewritten hC]; exact ⟨ec_Rewritten, kb_KeyError_Rewritten⟩
      · exact fun C hC => by rw [← cls_eq n_Stuck hC]; exact ⟨ec_Stuck, kb_KeyError_Stuck⟩
      · exact fun C hC => by rw [← cls_eq n_Taken hC]; exact ⟨ec_Taken, kb_KeyError_Taken⟩),
    by
      obtain ⟨ec_BadEntry, ec_BadKind, ec_BadLine, ec_BadName, ec_BadTree, ec_Clash, ec_Conflict, ec_Failed, ec_Gap, ec_Halted, ec_Mismatch, ec_NoPlace, ec_NoRow, ec_NoTarget, ec_NoVersion, ec_NotAsked, ec_NotCause, ec_NotFresh, ec_NotNeeded, ec_NotOpen, ec_NotPart, ec_NotSettled, ec_NotSource, ec_Rewritten, ec_Stuck, ec_Taken⟩ := ec; obtain ⟨kb_LookupError_BadEntry, kb_LookupError_BadKind, kb_LookupError_BadLine, kb_LookupError_BadName, kb_LookupError_BadTree, kb_LookupError_Clash, kb_LookupError_Conflict, kb_LookupError_Failed, kb_LookupError_Gap, kb_LookupError_Halted, kb_LookupError_Mismatch, kb_LookupError_NoPlace, kb_LookupError_NoRow, kb_LookupError_NoTarget, kb_LookupError_NoVersion, kb_LookupError_NotAsked, kb_LookupError_NotCause, kb_LookupError_NotFresh, kb_LookupError_NotNeeded, kb_LookupError_NotOpen, kb_LookupError_NotPart, kb_LookupError_NotSettled, kb_LookupError_NotSource, kb_LookupError_Rewritten, kb_LookupError_Stuck, kb_LookupError_Taken⟩ := kb_LookupError; 
      exact tab_one (P := fun c b => ∀ C, ClsAt K c C → ExcC K C ∧ PySem.W.kitOne K (.ref C) (.type "LookupError") = some b) (fun p hp => by
      simp only [List.mem_cons, List.not_mem_nil, or_false] at hp
      rcases hp with rfl | rfl | rfl | rfl | rfl | rfl | rfl | rfl | rfl | rfl | rfl | rfl | rfl | rfl | rfl | rfl | rfl | rfl | rfl | rfl | rfl | rfl | rfl | rfl | rfl | rfl
      · exact fun C hC => by rw [← cls_eq n_BadEntry hC]; exact ⟨ec_BadEntry, kb_LookupError_BadEntry⟩
      · exact fun C hC => by rw [← cls_eq n_BadKind hC]; exact ⟨ec_BadKind, kb_LookupError_BadKind⟩
      · exact fun C hC => by rw [← cls_eq n_BadLine hC]; exact ⟨ec_BadLine, kb_LookupError_BadLine⟩
      · exact fun C hC => by rw [← cls_eq n_BadName hC]; exact ⟨ec_BadName, kb_LookupError_BadName⟩
      · exact fun C hC => by rw [← cls_eq n_BadTree hC]; exact ⟨ec_BadTree, kb_LookupError_BadTree⟩
      · exact fun C hC => by rw [← cls_eq n_Clash hC]; exact ⟨ec_Clash, kb_LookupError_Clash⟩
      · exact fun C hC => by rw [← cls_eq n_Conflict hC]; exact ⟨ec_Conflict, kb_LookupError_Conflict⟩
      · exact fun C hC => by rw [← cls_eq n_Failed hC]; exact ⟨ec_Failed, kb_LookupError_Failed⟩
      · exact fun C hC => by rw [← cls_eq n_Gap hC]; exact ⟨ec_Gap, kb_LookupError_Gap⟩
      · exact fun C hC => by rw [← cls_eq n_Halted hC]; exact ⟨ec_Halted, kb_LookupError_Halted⟩
      · exact fun C hC => by rw [← cls_eq n_Mismatch hC]; exact ⟨ec_Mismatch, kb_LookupError_Mismatch⟩
      · exact fun C hC => by rw [← cls_eq n_NoPlace hC]; exact ⟨ec_NoPlace, kb_LookupError_NoPlace⟩
      · exact fun C hC => by rw [← cls_eq n_NoRow hC]; exact ⟨ec_NoRow, kb_LookupError_NoRow⟩
      · exact fun C hC => by rw [← cls_eq n_NoTarget hC]; exact ⟨ec_NoTarget, kb_LookupError_NoTarget⟩
      · exact fun C hC => by rw [← cls_eq n_NoVersion hC]; exact ⟨ec_NoVersion, kb_LookupError_NoVersion⟩
      · exact fun C hC => by rw [← cls_eq n_NotAsked hC]; exact ⟨ec_NotAsked, kb_LookupError_NotAsked⟩
      · exact fun C hC => by rw [← cls_eq n_NotCause hC]; exact ⟨ec_NotCause, kb_LookupError_NotCause⟩
      · exact fun C hC => by rw [← cls_eq n_NotFresh hC]; exact ⟨ec_NotFresh, kb_LookupError_NotFresh⟩
      · exact fun C hC => by rw [← cls_eq n_NotNeeded hC]; exact ⟨ec_NotNeeded, kb_LookupError_NotNeeded⟩
      · exact fun C hC => by rw [← cls_eq n_NotOpen hC]; exact ⟨ec_NotOpen, kb_LookupError_NotOpen⟩
      · exact fun C hC => by rw [← cls_eq n_NotPart hC]; exact ⟨ec_NotPart, kb_LookupError_NotPart⟩
      · exact fun C hC => by rw [← cls_eq n_NotSettled hC]; exact ⟨ec_NotSettled, kb_LookupError_NotSettled⟩
      · exact fun C hC => by rw [← cls_eq n_NotSource hC]; exact ⟨ec_NotSource, kb_LookupError_NotSource⟩
      · exact fun C hC => by rw [← cls_eq n_Rewritten hC]; exact ⟨ec_Rewritten, kb_LookupError_Rewritten⟩
      · exact fun C hC => by rw [← cls_eq n_Stuck hC]; exact ⟨ec_Stuck, kb_LookupError_Stuck⟩
      · exact fun C hC => by rw [← cls_eq n_Taken hC]; exact ⟨ec_Taken, kb_LookupError_Taken⟩),
    by
      obtain ⟨ec_BadEntry, ec_BadKind, ec_BadLine, ec_BadName, ec_BadTree, ec_Clash, ec_Conflict, ec_Failed, ec_Gap, ec_Halted, ec_Mismatch, ec_NoPlace, ec_NoRow, ec_NoTarget, ec_NoVersion, ec_NotAsked, ec_NotCause, ec_NotFresh, ec_NotNeeded, ec_NotOpen, ec_NotPart, ec_NotSettled, ec_NotSource, ec_Rewritten, ec_Stuck, ec_Taken⟩ := ec; obtain ⟨kb_ValueError_BadEntry, kb_ValueError_BadKind, kb_ValueError_BadLine, kb_ValueError_BadName, kb_ValueError_BadTree, kb_ValueError_Clash, kb_ValueError_Conflict, kb_ValueError_Failed, kb_ValueError_Gap, kb_ValueError_Halted, kb_ValueError_Mismatch, kb_ValueError_NoPlace, kb_ValueError_NoRow, kb_ValueError_NoTarget, kb_ValueError_NoVersion, kb_ValueError_NotAsked, kb_ValueError_NotCause, kb_ValueError_NotFresh, kb_ValueError_NotNeeded, kb_ValueError_NotOpen, kb_ValueError_NotPart, kb_ValueError_NotSettled, kb_ValueError_NotSource, kb_ValueError_Rewritten, kb_ValueError_Stuck, kb_ValueError_Taken⟩ := kb_ValueError; 
      exact tab_one (P := fun c b => ∀ C, ClsAt K c C → ExcC K C ∧ PySem.W.kitOne K (.ref C) (.type "ValueError") = some b) (fun p hp => by
      simp only [List.mem_cons, List.not_mem_nil, or_false] at hp
      rcases hp with rfl | rfl | rfl | rfl | rfl | rfl | rfl | rfl | rfl | rfl | rfl | rfl | rfl | rfl | rfl | rfl | rfl | rfl | rfl | rfl | rfl | rfl | rfl | rfl | rfl | rfl
      · exact fun C hC => by rw [← cls_eq n_BadEntry hC]; exact ⟨ec_BadEntry, kb_ValueError_BadEntry⟩
      · exact fun C hC => by rw [← cls_eq n_BadKind hC]; exact ⟨ec_BadKind, kb_ValueError_BadKind⟩
      · exact fun C hC => by rw [← cls_eq n_BadLine hC]; exact ⟨ec_BadLine, kb_ValueError_BadLine⟩
      · exact fun C hC => by rw [← cls_eq n_BadName hC]; exact ⟨ec_BadName, kb_ValueError_BadName⟩
      · exact fun C hC => by rw [← cls_eq n_BadTree hC]; exact ⟨ec_BadTree, kb_ValueError_BadTree⟩
      · exact fun C hC => by rw [← cls_eq n_Clash hC]; exact ⟨ec_Clash, kb_ValueError_Clash⟩
      · exact fun C hC => by rw [← cls_eq n_Conflict hC]; exact ⟨ec_Conflict, kb_ValueError_Conflict⟩
      · exact fun C hC => by rw [← cls_eq n_Failed hC]; exact ⟨ec_Failed, kb_ValueError_Failed⟩
      · exact fun C hC => by rw [← cls_eq n_Gap hC]; exact ⟨ec_Gap, kb_ValueError_Gap⟩
      · exact fun C hC => by rw [← cls_eq n_Halted hC]; exact ⟨ec_Halted, kb_ValueError_Halted⟩
      · exact fun C hC => by rw [← cls_eq n_Mismatch hC]; exact ⟨ec_Mismatch, kb_ValueError_Mismatch⟩
      · exact fun C hC => by rw [← cls_eq n_NoPlace hC]; exact ⟨ec_NoPlace, kb_ValueError_NoPlace⟩
      · exact fun C hC => by rw [← cls_eq n_NoRow hC]; exact ⟨ec_NoRow, kb_ValueError_NoRow⟩
      · exact fun C hC => by rw [← cls_eq n_NoTarget hC]; exact ⟨ec_NoTarget, kb_ValueError_NoTarget⟩
      · exact fun C hC => by rw [← cls_eq n_NoVersion hC]; exact ⟨ec_NoVersion, kb_ValueError_NoVersion⟩
      · exact fun C hC => by rw [← cls_eq n_NotAsked hC]; exact ⟨ec_NotAsked, kb_ValueError_NotAsked⟩
      · exact fun C hC => by rw [← cls_eq n_NotCause hC]; exact ⟨ec_NotCause, kb_ValueError_NotCause⟩
      · exact fun C hC => by rw [← cls_eq n_NotFresh hC]; exact ⟨ec_NotFresh, kb_ValueError_NotFresh⟩
      · exact fun C hC => by rw [← cls_eq n_NotNeeded hC]; exact ⟨ec_NotNeeded, kb_ValueError_NotNeeded⟩
      · exact fun C hC => by rw [← cls_eq n_NotOpen hC]; exact ⟨ec_NotOpen, kb_ValueError_NotOpen⟩
      · exact fun C hC => by rw [← cls_eq n_NotPart hC]; exact ⟨ec_NotPart, kb_ValueError_NotPart⟩
      · exact fun C hC => by rw [← cls_eq n_NotSettled hC]; exact ⟨ec_NotSettled, kb_ValueError_NotSettled⟩
      · exact fun C hC => by rw [← cls_eq n_NotSource hC]; exact ⟨ec_NotSource, kb_ValueError_NotSource⟩
      · exact fun C hC => by rw [← cls_eq n_Rewritten hC]; exact ⟨ec_Rewritten, kb_ValueError_Rewritten⟩
      · exact fun C hC => by rw [← cls_eq n_Stuck hC]; exact ⟨ec_Stuck, kb_ValueError_Stuck⟩
      · exact fun C hC => by rw [← cls_eq n_Taken hC]; exact ⟨ec_Taken, kb_ValueError_Taken⟩),
    by
      obtain ⟨ex_BuildError_BadEntry, ex_BuildError_BadKind, ex_BuildError_BadLine, ex_BuildError_BadName, ex_BuildError_BadTree, ex_BuildError_Clash, ex_BuildError_Conflict, ex_BuildError_Failed, ex_BuildError_Gap, ex_BuildError_Halted, ex_BuildError_Mismatch, ex_BuildError_NoPlace, ex_BuildError_NoRow, ex_BuildError_NoTarget, ex_BuildError_NoVersion, ex_BuildError_NotAsked, ex_BuildError_NotCause, ex_BuildError_NotFresh, ex_BuildError_NotNeeded, ex_BuildError_NotOpen, ex_BuildError_NotPart, ex_BuildError_NotSettled, ex_BuildError_NotSource, ex_BuildError_Rewritten, ex_BuildError_Stuck, ex_BuildError_Taken⟩ := ex_BuildError; 
      exact tab_one (P := fun c b => ∀ C, ClsAt K c C → PySem.W.exmOne K (.ref C) (.ref c_BuildError) = some b) (fun p hp => by
      simp only [List.mem_cons, List.not_mem_nil, or_false] at hp
      rcases hp with rfl | rfl | rfl | rfl | rfl | rfl | rfl | rfl | rfl | rfl | rfl | rfl | rfl | rfl | rfl | rfl | rfl | rfl | rfl | rfl | rfl | rfl | rfl | rfl | rfl | rfl
      · exact fun C hC => by rw [← cls_eq n_BadEntry hC]; exact ex_BuildError_BadEntry
      · exact fun C hC => by rw [← cls_eq n_BadKind hC]; exact ex_BuildError_BadKind
      · exact fun C hC => by rw [← cls_eq n_BadLine hC]; exact ex_BuildError_BadLine
      · exact fun C hC => by rw [← cls_eq n_BadName hC]; exact ex_BuildError_BadName
      · exact fun C hC => by rw [← cls_eq n_BadTree hC]; exact ex_BuildError_BadTree
      · exact fun C hC => by rw [← cls_eq n_Clash hC]; exact ex_BuildError_Clash
      · exact fun C hC => by rw [← cls_eq n_Conflict hC]; exact ex_BuildError_Conflict
      · exact fun C hC => by rw [← cls_eq n_Failed hC]; exact ex_BuildError_Failed
      · exact fun C hC => by rw [← cls_eq n_Gap hC]; exact ex_BuildError_Gap
      · exact fun C hC => by rw [← cls_eq n_Halted hC]; exact ex_BuildError_Halted
      · exact fun C hC => by rw [← cls_eq n_Mismatch hC]; exact ex_BuildError_Mismatch
      · exact fun C hC => by rw [← cls_eq n_NoPlace hC]; exact ex_BuildError_NoPlace
      · exact fun C hC => by rw [← cls_eq n_NoRow hC]; exact ex_BuildError_NoRow
      · exact fun C hC => by rw [← cls_eq n_NoTarget hC]; exact ex_BuildError_NoTarget
      · exact fun C hC => by rw [← cls_eq n_NoVersion hC]; exact ex_BuildError_NoVersion
      · exact fun C hC => by rw [← cls_eq n_NotAsked hC]; exact ex_BuildError_NotAsked
      · exact fun C hC => by rw [← cls_eq n_NotCause hC]; exact ex_BuildError_NotCause
      · exact fun C hC => by rw [← cls_eq n_NotFresh hC]; exact ex_BuildError_NotFresh
      · exact fun C hC => by rw [← cls_eq n_NotNeeded hC]; exact ex_BuildError_NotNeeded
      · exact fun C hC => by rw [← cls_eq n_NotOpen hC]; exact ex_BuildError_NotOpen
      · exact fun C hC => by rw [← cls_eq n_NotPart hC]; exact ex_BuildError_NotPart
      · exact fun C hC => by rw [← cls_eq n_NotSettled hC]; exact ex_BuildError_NotSettled
      · exact fun C hC => by rw [← cls_eq n_NotSource hC]; exact ex_BuildError_NotSource
      · exact fun C hC => by rw [← cls_eq n_Rewritten hC]; exact ex_BuildError_Rewritten
      · exact fun C hC => by rw [← cls_eq n_Stuck hC]; exact ex_BuildError_Stuck
      · exact fun C hC => by rw [← cls_eq n_Taken hC]; exact ex_BuildError_Taken),
    by
      obtain ⟨ex_Stuck_BadEntry, ex_Stuck_BadKind, ex_Stuck_BadLine, ex_Stuck_BadName, ex_Stuck_BadTree, ex_Stuck_Clash, ex_Stuck_Conflict, ex_Stuck_Failed, ex_Stuck_Gap, ex_Stuck_Halted, ex_Stuck_Mismatch, ex_Stuck_NoPlace, ex_Stuck_NoRow, ex_Stuck_NoTarget, ex_Stuck_NoVersion, ex_Stuck_NotAsked, ex_Stuck_NotCause, ex_Stuck_NotFresh, ex_Stuck_NotNeeded, ex_Stuck_NotOpen, ex_Stuck_NotPart, ex_Stuck_NotSettled, ex_Stuck_NotSource, ex_Stuck_Rewritten, ex_Stuck_Stuck, ex_Stuck_Taken⟩ := ex_Stuck; 
      exact tab_one (P := fun c b => ∀ C, ClsAt K c C → PySem.W.exmOne K (.ref C) (.ref c_Stuck) = some b) (fun p hp => by
      simp only [List.mem_cons, List.not_mem_nil, or_false] at hp
      rcases hp with rfl | rfl | rfl | rfl | rfl | rfl | rfl | rfl | rfl | rfl | rfl | rfl | rfl | rfl | rfl | rfl | rfl | rfl | rfl | rfl | rfl | rfl | rfl | rfl | rfl | rfl
      · exact fun C hC => by rw [← cls_eq n_BadEntry hC]; exact ex_Stuck_BadEntry
      · exact fun C hC => by rw [← cls_eq n_BadKind hC]; exact ex_Stuck_BadKind
      · exact fun C hC => by rw [← cls_eq n_BadLine hC]; exact ex_Stuck_BadLine
      · exact fun C hC => by rw [← cls_eq n_BadName hC]; exact ex_Stuck_BadName
      · exact fun C hC => by rw [← cls_eq n_BadTree hC]; exact ex_Stuck_BadTree
      · exact fun C hC => by rw [← cls_eq n_Clash hC]; exact ex_Stuck_Clash
      · exact fun C hC => by rw [← cls_eq n_Conflict hC]; exact ex_Stuck_Conflict
      · exact fun C hC => by rw [← cls_eq n_Failed hC]; exact ex_Stuck_Failed
      · exact fun C hC => by rw [← cls_eq n_Gap hC]; exact ex_Stuck_Gap
      · exact fun C hC => by rw [← cls_eq n_Halted hC]; exact ex_Stuck_Halted
      · exact fun C hC => by rw [← cls_eq n_Mismatch hC]; exact ex_Stuck_Mismatch
      · exact fun C hC => by rw [← cls_eq n_NoPlace hC]; exact ex_Stuck_NoPlace
      · exact fun C hC => by rw [← cls_eq n_NoRow hC]; exact ex_Stuck_NoRow
      · exact fun C hC => by rw [← cls_eq n_NoTarget hC]; exact ex_Stuck_NoTarget
      · exact fun C hC => by rw [← cls_eq n_NoVersion hC]; exact ex_Stuck_NoVersion
      · exact fun C hC => by rw [← cls_eq n_NotAsked hC]; exact ex_Stuck_NotAsked
      · exact fun C hC => by rw [← cls_eq n_NotCause hC]; exact ex_Stuck_NotCause
      · exact fun C hC => by rw [← cls_eq n_NotFresh hC]; exact ex_Stuck_NotFresh
      · exact fun C hC => by rw [← cls_eq n_NotNeeded hC]; exact ex_Stuck_NotNeeded
      · exact fun C hC => by rw [← cls_eq n_NotOpen hC]; exact ex_Stuck_NotOpen
      · exact fun C hC => by rw [← cls_eq n_NotPart hC]; exact ex_Stuck_NotPart
      · exact fun C hC => by rw [← cls_eq n_NotSettled hC]; exact ex_Stuck_NotSettled
      · exact fun C hC => by rw [← cls_eq n_NotSource hC]; exact ex_Stuck_NotSource
      · exact fun C hC => by rw [← cls_eq n_Rewritten hC]; exact ex_Stuck_Rewritten
      · exact fun C hC => by rw [← cls_eq n_Stuck hC]; exact ex_Stuck_Stuck
      · exact fun C hC => by rw [← cls_eq n_Taken hC]; exact ex_Stuck_Taken),
    by
      obtain ⟨ec_BadEntry, ec_BadKind, ec_BadLine, ec_BadName, ec_BadTree, ec_Clash, ec_Conflict, ec_Failed, ec_Gap, ec_Halted, ec_Mismatch, ec_NoPlace, ec_NoRow, ec_NoTarget, ec_NoVersion, ec_NotAsked, ec_NotCause, ec_NotFresh, ec_NotNeeded, ec_NotOpen, ec_NotPart, ec_NotSettled, ec_NotSource, ec_Rewritten, ec_Stuck, ec_Taken⟩ := ec; obtain ⟨ki_BadEntry_BadEntry, ki_BadEntry_BadKind, ki_BadEntry_BadLine, ki_BadEntry_BadName, ki_BadEntry_BadTree, ki_BadEntry_Clash, ki_BadEntry_Conflict, ki_BadEntry_Failed, ki_BadEntry_Gap, ki_BadEntry_Halted, ki_BadEntry_Mismatch, ki_BadEntry_NoPlace, ki_BadEntry_NoRow, ki_BadEntry_NoTarget, ki_BadEntry_NoVersion, ki_BadEntry_NotAsked, ki_BadEntry_NotCause, ki_BadEntry_NotFresh, ki_BadEntry_NotNeeded, ki_BadEntry_NotOpen, ki_BadEntry_NotPart, ki_BadEntry_NotSettled, ki_BadEntry_NotSource, ki_BadEntry_Rewritten, ki_BadEntry_Stuck, ki_BadEntry_Taken⟩ := ki_BadEntry; 
      exact tab_one (P := fun c b => ∀ C, ClsAt K c C → ExcC K C ∧ PySem.W.kitOne K (.ref C) (.ref c_BadEntry) = some b) (fun p hp => by
      simp only [List.mem_cons, List.not_mem_nil, or_false] at hp
      rcases hp with rfl | rfl | rfl | rfl | rfl | rfl | rfl | rfl | rfl | rfl | rfl | rfl | rfl | rfl | rfl | rfl | rfl | rfl | rfl | rfl | rfl | rfl | rfl | rfl | rfl | rfl
      · exact fun C hC => by rw [← cls_eq n_BadEntry hC]; exact ⟨ec_BadEntry, ki_BadEntry_BadEntry⟩
      · exact fun C hC => by rw [← cls_eq n_BadKind hC]; exact ⟨ec_BadKind, ki_BadEntry_BadKind⟩
      · exact fun C hC => by rw [← cls_eq n_BadLine hC]; exact ⟨ec_BadLine, ki_BadEntry_BadLine⟩
      · exact fun C hC => by rw [← cls_eq n_BadName hC]; exact ⟨ec_BadName, ki_BadEntry_BadName⟩
      · exact fun C hC => by rw [← cls_eq n_BadTree hC]; exact ⟨ec_BadTree, ki_BadEntry_BadTree⟩
      · exact fun C hC => by rw [← cls_eq n_Clash hC]; exact ⟨ec_Clash, ki_BadEntry_Clash⟩
      · exact fun C hC => by rw [← cls_eq n_Conflict hC]; exact ⟨ec_Conflict, ki_BadEntry_Conflict⟩
      · exact fun C hC => by rw [← cls_eq n_Failed hC]; exact ⟨ec_Failed, ki_BadEntry_Failed⟩
      · exact fun C hC => by rw [← cls_eq n_Gap hC]; exact ⟨ec_Gap, ki_BadEntry_Gap⟩
      · exact fun C hC => by rw [← cls_eq n_Halted hC]; exact ⟨ec_Halted, ki_BadEntry_Halted⟩
      · exact fun C hC => by rw [← cls_eq n_Mismatch hC]; exact ⟨ec_Mismatch, ki_BadEntry_Mismatch⟩
      · exact fun C hC => by rw [← cls_eq n_NoPlace hC]; exact ⟨ec_NoPlace, ki_BadEntry_NoPlace⟩
      · exact fun C hC => by rw [← cls_eq n_NoRow hC]; exact ⟨ec_NoRow, ki_BadEntry_NoRow⟩
      · exact fun C hC => by rw [← cls_eq n_NoTarget hC]; exact ⟨ec_NoTarget, ki_BadEntry_NoTarget⟩
      · exact fun C hC => by rw [← cls_eq n_NoVersion hC]; exact ⟨ec_NoVersion, ki_BadEntry_NoVersion⟩
      · exact fun C hC => by rw [← cls_eq n_NotAsked hC]; exact ⟨ec_NotAsked, ki_BadEntry_NotAsked⟩
      · exact fun C hC => by rw [← cls_eq n_NotCause hC]; exact ⟨ec_NotCause, ki_BadEntry_NotCause⟩
      · exact fun C hC => by rw [← cls_eq n_NotFresh hC]; exact ⟨ec_NotFresh, ki_BadEntry_NotFresh⟩
      · exact fun C hC => by rw [← cls_eq n_NotNeeded hC]; exact ⟨ec_NotNeeded, ki_BadEntry_NotNeeded⟩
      · exact fun C hC => by rw [← cls_eq n_NotOpen hC]; exact ⟨ec_NotOpen, ki_BadEntry_NotOpen⟩
      · exact fun C hC => by rw [← cls_eq n_NotPart hC]; exact ⟨ec_NotPart, ki_BadEntry_NotPart⟩
      · exact fun C hC => by rw [← cls_eq n_NotSettled hC]; exact ⟨ec_NotSettled, ki_BadEntry_NotSettled⟩
      · exact fun C hC => by rw [← cls_eq n_NotSource hC]; exact ⟨ec_NotSource, ki_BadEntry_NotSource⟩
      · exact fun C hC => by rw [← cls_eq n_Rewritten hC]; exact ⟨ec_Rewritten, ki_BadEntry_Rewritten⟩
      · exact fun C hC => by rw [← cls_eq n_Stuck hC]; exact ⟨ec_Stuck, ki_BadEntry_Stuck⟩
      · exact fun C hC => by rw [← cls_eq n_Taken hC]; exact ⟨ec_Taken, ki_BadEntry_Taken⟩),
    by
      obtain ⟨ec_BadEntry, ec_BadKind, ec_BadLine, ec_BadName, ec_BadTree, ec_Clash, ec_Conflict, ec_Failed, ec_Gap, ec_Halted, ec_Mismatch, ec_NoPlace, ec_NoRow, ec_NoTarget, ec_NoVersion, ec_NotAsked, ec_NotCause, ec_NotFresh, ec_NotNeeded, ec_NotOpen, ec_NotPart, ec_NotSettled, ec_NotSource, ec_Rewritten, ec_Stuck, ec_Taken⟩ := ec; obtain ⟨ki_BadKind_BadEntry, ki_BadKind_BadKind, ki_BadKind_BadLine, ki_BadKind_BadName, ki_BadKind_BadTree, ki_BadKind_Clash, ki_BadKind_Conflict, ki_BadKind_Failed, ki_BadKind_Gap, ki_BadKind_Halted, ki_BadKind_Mismatch, ki_BadKind_NoPlace, ki_BadKind_NoRow, ki_BadKind_NoTarget, ki_BadKind_NoVersion, ki_BadKind_NotAsked, ki_BadKind_NotCause, ki_BadKind_NotFresh, ki_BadKind_NotNeeded, ki_BadKind_NotOpen, ki_BadKind_NotPart, ki_BadKind_NotSettled, ki_BadKind_NotSource, ki_BadKind_Rewritten, ki_BadKind_Stuck, ki_BadKind_Taken⟩ := ki_BadKind; 
      exact tab_one (P := fun c b => ∀ C, ClsAt K c C → ExcC K C ∧ PySem.W.kitOne K (.ref C) (.ref c_BadKind) = some b) (fun p hp => by
      simp only [List.mem_cons, List.not_mem_nil, or_false] at hp
      rcases hp with rfl | rfl | rfl | rfl | rfl | rfl | rfl | rfl | rfl | rfl | rfl | rfl | rfl | rfl | rfl | rfl | rfl | rfl | rfl | rfl | rfl | rfl | rfl | rfl | rfl | rfl
      · exact fun C hC => by rw [← cls_eq n_BadEntry hC]; exact ⟨ec_BadEntry, ki_BadKind_BadEntry⟩
      · exact fun C hC => by rw [← cls_eq n_BadKind hC]; exact ⟨ec_BadKind, ki_BadKind_BadKind⟩
      · exact fun C hC => by rw [← cls_eq n_BadLine hC]; exact ⟨ec_BadLine, ki_BadKind_BadLine⟩
      · exact fun C hC => by rw [← cls_eq n_BadName hC]; exact ⟨ec_BadName, ki_BadKind_BadName⟩
      · exact fun C hC => by rw [← cls_eq n_BadTree hC]; exact ⟨ec_BadTree, ki_BadKind_BadTree⟩
      · exact fun C hC => by rw [← cls_eq n_Clash hC]; exact ⟨ec_Clash, ki_BadKind_Clash⟩
      · exact fun C hC => by rw [← cls_eq n_Conflict hC]; exact ⟨ec_Conflict, ki_BadKind_Conflict⟩
      · exact fun C hC => by rw [← cls_eq n_Failed hC]; exact ⟨ec_Failed, ki_BadKind_Failed⟩
      · exact fun C hC => by rw [← cls_eq n_Gap hC]; exact ⟨ec_Gap, ki_BadKind_Gap⟩
      · exact fun C hC => by rw [← cls_eq n_Halted hC]; exact ⟨ec_Halted, ki_BadKind_Halted⟩
      · exact fun C hC => by rw [← cls_eq n_Mismatch hC]; exact ⟨ec_Mismatch, ki_BadKind_Mismatch⟩
      · exact fun C hC => by rw [← cls_eq n_NoPlace hC]; exact ⟨ec_NoPlace, ki_BadKind_NoPlace⟩
      · exact fun C hC => by rw [← cls_eq n_NoRow hC]; exact ⟨ec_NoRow, ki_BadKind_NoRow⟩
      · exact fun C hC => by rw [← cls_eq n_NoTarget hC]; exact ⟨ec_NoTarget, ki_BadKind_NoTarget⟩
      · exact fun C hC => by rw [← cls_eq n_NoVersion hC]; exact ⟨ec_NoVersion, ki_BadKind_NoVersion⟩
      · exact fun C hC => by rw [← cls_eq n_NotAsked hC]; exact ⟨ec_NotAsked, ki_BadKind_NotAsked⟩
      · exact fun C hC => by rw [← cls_eq n_NotCause hC]; exact ⟨ec_NotCause, ki_BadKind_NotCause⟩
      · exact fun C hC => by rw [← cls_eq n_NotFresh hC]; exact ⟨ec_NotFresh, ki_BadKind_NotFresh⟩
      · exact fun C hC => by rw [← cls_eq n_NotNeeded hC]; exact ⟨ec_NotNeeded, ki_BadKind_NotNeeded⟩
      · exact fun C hC => by rw [← cls_eq n_NotOpen hC]; exact ⟨ec_NotOpen, ki_BadKind_NotOpen⟩
      · exact fun C hC => by rw [← cls_eq n_NotPart hC]; exact ⟨ec_NotPart, ki_BadKind_NotPart⟩
      · exact fun C hC => by rw [← cls_eq n_NotSettled hC]; exact ⟨ec_NotSettled, ki_BadKind_NotSettled⟩
      · exact fun C hC => by rw [← cls_eq n_NotSource hC]; exact ⟨ec_NotSource, ki_BadKind_NotSource⟩
      · exact fun C hC => by rw [← cls_eq n_Rewritten hC]; exact ⟨ec_Rewritten, ki_BadKind_Rewritten⟩
      · exact fun C hC => by rw [← cls_eq n_Stuck hC]; exact ⟨ec_Stuck, ki_BadKind_Stuck⟩
      · exact fun C hC => by rw [← cls_eq n_Taken hC]; exact ⟨ec_Taken, ki_BadKind_Taken⟩),
    by
      obtain ⟨ec_BadEntry, ec_BadKind, ec_BadLine, ec_BadName, ec_BadTree, ec_Clash, ec_Conflict, ec_Failed, ec_Gap, ec_Halted, ec_Mismatch, ec_NoPlace, ec_NoRow, ec_NoTarget, ec_NoVersion, ec_NotAsked, ec_NotCause, ec_NotFresh, ec_NotNeeded, ec_NotOpen, ec_NotPart, ec_NotSettled, ec_NotSource, ec_Rewritten, ec_Stuck, ec_Taken⟩ := ec; obtain ⟨ki_BadLine_BadEntry, ki_BadLine_BadKind, ki_BadLine_BadLine, ki_BadLine_BadName, ki_BadLine_BadTree, ki_BadLine_Clash, ki_BadLine_Conflict, ki_BadLine_Failed, ki_BadLine_Gap, ki_BadLine_Halted, ki_BadLine_Mismatch, ki_BadLine_NoPlace, ki_BadLine_NoRow, ki_BadLine_NoTarget, ki_BadLine_NoVersion, ki_BadLine_NotAsked, ki_BadLine_NotCause, ki_BadLine_NotFresh, ki_BadLine_NotNeeded, ki_BadLine_NotOpen, ki_BadLine_NotPart, ki_BadLine_NotSettled, ki_BadLine_NotSource, ki_BadLine_Rewritten, ki_BadLine_Stuck, ki_BadLine_Taken⟩ := ki_BadLine; 
      exact tab_one (P := fun c b => ∀ C, ClsAt K c C → ExcC K C ∧ PySem.W.kitOne K (.ref C) (.ref c_BadLine) = some b) (fun p hp => by
      simp only [List.mem_cons, List.not_mem_nil, or_false] at hp
      rcases hp with rfl | rfl | rfl | rfl | rfl | rfl | rfl | rfl | rfl | rfl | rfl | rfl | rfl | rfl | rfl | rfl | rfl | rfl | rfl | rfl | rfl | rfl | rfl | rfl | rfl | rfl
      · exact fun C hC => by rw [← cls_eq n_BadEntry hC]; exact ⟨ec_BadEntry, ki_BadLine_BadEntry⟩
      · exact fun C hC => by rw [← cls_eq n_BadKind hC]; exact ⟨ec_BadKind, ki_BadLine_BadKind⟩
      · exact fun C hC => by rw [← cls_eq n_BadLine hC]; exact ⟨ec_BadLine, ki_BadLine_BadLine⟩
      · exact fun C hC => by rw [← cls_eq n_BadName hC]; exact ⟨ec_BadName, ki_BadLine_BadName⟩
      · exact fun C hC => by rw [← cls_eq n_BadTree hC]; exact ⟨ec_BadTree, ki_BadLine_BadTree⟩
      · exact fun C hC => by rw [← cls_eq n_Clash hC]; exact ⟨ec_Clash, ki_BadLine_Clash⟩
      · exact fun C hC => by rw [← cls_eq n_Conflict hC]; exact ⟨ec_Conflict, ki_BadLine_Conflict⟩
      · exact fun C hC => by rw [← cls_eq n_Failed hC]; exact ⟨ec_Failed, ki_BadLine_Failed⟩
      · exact fun C hC => by rw [← cls_eq n_Gap hC]; exact ⟨ec_Gap, ki_BadLine_Gap⟩
      · exact fun C hC => by rw [← cls_eq n_Halted hC]; exact ⟨ec_Halted, ki_BadLine_Halted⟩
      · exact fun C hC => by rw [← cls_eq n_Mismatch hC]; exact ⟨ec_Mismatch, ki_BadLine_Mismatch⟩
      · exact fun C hC => by rw [← cls_eq n_NoPlace hC]; exact ⟨ec_NoPlace, ki_BadLine_NoPlace⟩
      · exact fun C hC => by rw [← cls_eq n_NoRow hC]; exact ⟨ec_NoRow, ki_BadLine_NoRow⟩
      · exact fun C hC => by rw [← cls_eq n_NoTarget hC]; exact ⟨ec_NoTarget, ki_BadLine_NoTarget⟩
      · exact fun C hC => by rw [← cls_eq n_NoVersion hC]; exact ⟨ec_NoVersion, ki_BadLine_NoVersion⟩
      · exact fun C hC => by rw [← cls_eq n_NotAsked hC]; exact ⟨ec_NotAsked, ki_BadLine_NotAsked⟩
      · exact fun C hC => by rw [← cls_eq n_NotCause hC]; exact ⟨ec_NotCause, ki_BadLine_NotCause⟩
      · exact fun C hC => by rw [← cls_eq n_NotFresh hC]; exact ⟨ec_NotFresh, ki_BadLine_NotFresh⟩
      · exact fun C hC => by rw [← cls_eq n_NotNeeded hC]; exact ⟨ec_NotNeeded, ki_BadLine_NotNeeded⟩
      · exact fun C hC => by rw [← cls_eq n_NotOpen hC]; exact ⟨ec_NotOpen, ki_BadLine_NotOpen⟩
      · exact fun C hC => by rw [← cls_eq n_NotPart hC]; exact ⟨ec_NotPart, ki_BadLine_NotPart⟩
      · exact fun C hC => by rw [← cls_eq n_NotSettled hC]; exact ⟨ec_NotSettled, ki_BadLine_NotSettled⟩
      · exact fun C hC => by rw [← cls_eq n_NotSource hC]; exact ⟨ec_NotSource, ki_BadLine_NotSource⟩
      · exact fun C hC => by rw [← cls_eq n_Rewritten hC]; exact ⟨ec_Rewritten, ki_BadLine_Rewritten⟩
      · exact fun C hC => by rw [← cls_eq n_Stuck hC]; exact ⟨ec_Stuck, ki_BadLine_Stuck⟩
      · exact fun C hC => by rw [← cls_eq n_Taken hC]; exact ⟨ec_Taken, ki_BadLine_Taken⟩),
    by
      obtain ⟨ec_BadEntry, ec_BadKind, ec_BadLine, ec_BadName, ec_BadTree, ec_Clash, ec_Conflict, ec_Failed, ec_Gap, ec_Halted, ec_Mismatch, ec_NoPlace, ec_NoRow, ec_NoTarget, ec_NoVersion, ec_NotAsked, ec_NotCause, ec_NotFresh, ec_NotNeeded, ec_NotOpen, ec_NotPart, ec_NotSettled, ec_NotSource, ec_Rewritten, ec_Stuck, ec_Taken⟩ := ec; obtain ⟨ki_BadName_BadEntry, ki_BadName_BadKind, ki_BadName_BadLine, ki_BadName_BadName, ki_BadName_BadTree, ki_BadName_Clash, ki_BadName_Conflict, ki_BadName_Failed, ki_BadName_Gap, ki_BadName_Halted, ki_BadName_Mismatch, ki_BadName_NoPlace, ki_BadName_NoRow, ki_BadName_NoTarget, ki_BadName_NoVersion, ki_BadName_NotAsked, ki_BadName_NotCause, ki_BadName_NotFresh, ki_BadName_NotNeeded, ki_BadName_NotOpen, ki_BadName_NotPart, ki_BadName_NotSettled, ki_BadName_NotSource, ki_BadName_Rewritten, ki_BadName_Stuck, ki_BadName_Taken⟩ := ki_BadName; 
      exact tab_one (P := fun c b => ∀ C, ClsAt K c C → ExcC K C ∧ PySem.W.kitOne K (.ref C) (.ref c_BadName) = some b) (fun p hp => by
      simp only [List.mem_cons, List.not_mem_nil, or_false] at hp
      rcases hp with rfl | rfl | rfl | rfl | rfl | rfl | rfl | rfl | rfl | rfl | rfl | rfl | rfl | rfl | rfl | rfl | rfl | rfl | rfl | rfl | rfl | rfl | rfl | rfl | rfl | rfl
      · exact fun C hC => by rw [← cls_eq n_BadEntry hC]; exact ⟨ec_BadEntry, ki_BadName_BadEntry⟩
      · exact fun C hC => by rw [← cls_eq n_BadKind hC]; exact ⟨ec_BadKind, ki_BadName_BadKind⟩
      · exact fun C hC => by rw [← cls_eq n_BadLine hC]; exact ⟨ec_BadLine, ki_BadName_BadLine⟩
      · exact fun C hC => by rw [← cls_eq n_BadName hC]; exact ⟨ec_BadName, ki_BadName_BadName⟩
      · exact fun C hC => by rw [← cls_eq n_BadTree hC]; exact ⟨ec_BadTree, ki_BadName_BadTree⟩
      · exact fun C hC => by rw [← cls_eq n_Clash hC]; exact ⟨ec_Clash, ki_BadName_Clash⟩
      · exact fun C hC => by rw [← cls_eq n_Conflict hC]; exact ⟨ec_Conflict, ki_BadName_Conflict⟩
      · exact fun C hC => by rw [← cls_eq n_Failed hC]; exact ⟨ec_Failed, ki_BadName_Failed⟩
      · exact fun C hC => by rw [← cls_eq n_Gap hC]; exact ⟨ec_Gap, ki_BadName_Gap⟩
      · exact fun C hC => by rw [← cls_eq n_Halted hC]; exact ⟨ec_Halted, ki_BadName_Halted⟩
      · exact fun C hC => by rw [← cls_eq n_Mismatch hC]; exact ⟨ec_Mismatch, ki_BadName_Mismatch⟩
      · exact fun C hC => by rw [← cls_eq n_NoPlace hC]; exact ⟨ec_NoPlace, ki_BadName_NoPlace⟩
      · exact fun C hC => by rw [← cls_eq n_NoRow hC]; exact ⟨ec_NoRow, ki_BadName_NoRow⟩
      · exact fun C hC => by rw [← cls_eq n_NoTarget hC]; exact ⟨ec_NoTarget, ki_BadName_NoTarget⟩
      · exact fun C hC => by rw [← cls_eq n_NoVersion hC]; exact ⟨ec_NoVersion, ki_BadName_NoVersion⟩
      · exact fun C hC => by rw [← cls_eq n_NotAsked hC]; exact ⟨ec_NotAsked, ki_BadName_NotAsked⟩
      · exact fun C hC => by rw [← cls_eq n_NotCause hC]; exact ⟨ec_NotCause, ki_BadName_NotCause⟩
      · exact fun C hC => by rw [← cls_eq n_NotFresh hC]; exact ⟨ec_NotFresh, ki_BadName_NotFresh⟩
      · exact fun C hC => by rw [← cls_eq n_NotNeeded hC]; exact ⟨ec_NotNeeded, ki_BadName_NotNeeded⟩
      · exact fun C hC => by rw [← cls_eq n_NotOpen hC]; exact ⟨ec_NotOpen, ki_BadName_NotOpen⟩
      · exact fun C hC => by rw [← cls_eq n_NotPart hC]; exact ⟨ec_NotPart, ki_BadName_NotPart⟩
      · exact fun C hC => by rw [← cls_eq n_NotSettled hC]; exact ⟨ec_NotSettled, ki_BadName_NotSettled⟩
      · exact fun C hC => by rw [← cls_eq n_NotSource hC]; exact ⟨ec_NotSource, ki_BadName_NotSource⟩
      · exact fun C hC => by rw [← cls_eq n_Rewritten hC]; exact ⟨ec_Rewritten, ki_BadName_Rewritten⟩
      · exact fun C hC => by rw [← cls_eq n_Stuck hC]; exact ⟨ec_Stuck, ki_BadName_Stuck⟩
      · exact fun C hC => by rw [← cls_eq n_Taken hC]; exact ⟨ec_Taken, ki_BadName_Taken⟩),
    by
      obtain ⟨ec_BadEntry, ec_BadKind, ec_BadLine, ec_BadName, ec_BadTree, ec_Clash, ec_Conflict, ec_Failed, ec_Gap, ec_Halted, ec_Mismatch, ec_NoPlace, ec_NoRow, ec_NoTarget, ec_NoVersion, ec_NotAsked, ec_NotCause, ec_NotFresh, ec_NotNeeded, ec_NotOpen, ec_NotPart, ec_NotSettled, ec_NotSource, ec_Rewritten, ec_Stuck, ec_Taken⟩ := ec; obtain ⟨ki_BadTree_BadEntry, ki_BadTree_BadKind, ki_BadTree_BadLine, ki_BadTree_BadName, ki_BadTree_BadTree, ki_BadTree_Clash, ki_BadTree_Conflict, ki_BadTree_Failed, ki_BadTree_Gap, ki_BadTree_Halted, ki_BadTree_Mismatch, ki_BadTree_NoPlace, ki_BadTree_NoRow, ki_BadTree_NoTarget, ki_BadTree_NoVersion, ki_BadTree_NotAsked, ki_BadTree_NotCause, ki_BadTree_NotFresh, ki_BadTree_NotNeeded, ki_BadTree_NotOpen, ki_BadTree_NotPart, ki_BadTree_NotSettled, ki_BadTree_NotSource, ki_BadTree_Rewritten, ki_BadTree_Stuck, ki_BadTree_Taken⟩ := ki_BadTree; 
      exact tab_one (P := fun c b => ∀ C, ClsAt K c C → ExcC K C ∧ PySem.W.kitOne K (.ref C) (.ref c_BadTree) = some b) (fun p hp => by
      simp only [List.mem_cons, List.not_mem_nil, or_false] at hp
      rcases hp with rfl | rfl | rfl | rfl | rfl | rfl | rfl | rfl | rfl | rfl | rfl | rfl | rfl | rfl | rfl | rfl | rfl | rfl | rfl | rfl | rfl | rfl | rfl | rfl | rfl | rfl
      · exact fun C hC => by rw [← cls_eq n_BadEntry hC]; exact ⟨ec_BadEntry, ki_BadTree_BadEntry⟩
      · exact fun C hC => by rw [← cls_eq n_BadKind hC]; exact ⟨ec_BadKind, ki_BadTree_BadKind⟩
      · exact fun C hC => by rw [← cls_eq n_BadLine hC]; exact ⟨ec_BadLine, ki_BadTree_BadLine⟩
      · exact fun C hC => by rw [← cls_eq n_BadName hC]; exact ⟨ec_BadName, ki_BadTree_BadName⟩
      · exact fun C hC => by rw [← cls_eq n_BadTree hC]; exact ⟨ec_BadTree, ki_BadTree_BadTree⟩
      · exact fun C hC => by rw [← cls_eq n_Clash hC]; exact ⟨ec_Clash, ki_BadTree_Clash⟩
      · exact fun C hC => by rw [← cls_eq n_Conflict hC]; exact ⟨ec_Conflict, ki_BadTree_Conflict⟩
      · exact fun C hC => by rw [← cls_eq n_Failed hC]; exact ⟨ec_Failed, ki_BadTree_Failed⟩
      · exact fun C hC => by rw [← cls_eq n_Gap hC]; exact ⟨ec_Gap, ki_BadTree_Gap⟩
      · exact fun C hC => by rw [← cls_eq n_Halted hC]; exact ⟨ec_Halted, ki_BadTree_Halted⟩
      · exact fun C hC => by rw [← cls_eq n_Mismatch hC]; exact ⟨ec_Mismatch, ki_BadTree_Mismatch⟩
      · exact fun C hC => by rw [← cls_eq n_NoPlace hC]; exact ⟨ec_NoPlace, ki_BadTree_NoPlace⟩
      · exact fun C hC => by rw [← cls_eq n_NoRow hC]; exact ⟨ec_NoRow, ki_BadTree_NoRow⟩
      · exact fun C hC => by rw [← cls_eq n_NoTarget hC]; exact ⟨ec_NoTarget, ki_BadTree_NoTarget⟩
      · exact fun C hC => by rw [← cls_eq n_NoVersion hC]; exact ⟨ec_NoVersion, ki_BadTree_NoVersion⟩
      · exact fun C hC => by rw [← cls_eq n_NotAsked hC]; exact ⟨ec_NotAsked, ki_BadTree_NotAsked⟩
      · exact fun C hC => by rw [← cls_eq n_NotCause hC]; exact ⟨ec_NotCause, ki_BadTree_NotCause⟩
      · exact fun C hC => by rw [← cls_eq n_NotFresh hC]; exact ⟨ec_NotFresh, ki_BadTree_NotFresh⟩
      · exact fun C hC => by rw [← cls_eq n_NotNeeded hC]; exact ⟨ec_NotNeeded, ki_BadTree_NotNeeded⟩
      · exact fun C hC => by rw [← cls_eq n_NotOpen hC]; exact ⟨ec_NotOpen, ki_BadTree_NotOpen⟩
      · exact fun C hC => by rw [← cls_eq n_NotPart hC]; exact ⟨ec_NotPart, ki_BadTree_NotPart⟩
      · exact fun C hC => by rw [← cls_eq n_NotSettled hC]; exact ⟨ec_NotSettled, ki_BadTree_NotSettled⟩
      · exact fun C hC => by rw [← cls_eq n_NotSource hC]; exact ⟨ec_NotSource, ki_BadTree_NotSource⟩
      · exact fun C hC => by rw [← cls_eq n_Rewritten hC]; exact ⟨ec_Rewritten, ki_BadTree_Rewritten⟩
      · exact fun C hC => by rw [← cls_eq n_Stuck hC]; exact ⟨ec_Stuck, ki_BadTree_Stuck⟩
      · exact fun C hC => by rw [← cls_eq n_Taken hC]; exact ⟨ec_Taken, ki_BadTree_Taken⟩),
    by
      obtain ⟨ec_BadEntry, ec_BadKind, ec_BadLine, ec_BadName, ec_BadTree, ec_Clash, ec_Conflict, ec_Failed, ec_Gap, ec_Halted, ec_Mismatch, ec_NoPlace, ec_NoRow, ec_NoTarget, ec_NoVersion, ec_NotAsked, ec_NotCause, ec_NotFresh, ec_NotNeeded, ec_NotOpen, ec_NotPart, ec_NotSettled, ec_NotSource, ec_Rewritten, ec_Stuck, ec_Taken⟩ := ec; obtain ⟨ki_BuildError_BadEntry, ki_BuildError_BadKind, ki_BuildError_BadLine, ki_BuildError_BadName, ki_BuildError_BadTree, ki_BuildError_Clash, ki_BuildError_Conflict, ki_BuildError_Failed, ki_BuildError_Gap, ki_BuildError_Halted, ki_BuildError_Mismatch, ki_BuildError_NoPlace, ki_BuildError_NoRow, ki_BuildError_NoTarget, ki_BuildError_NoVersion, ki_BuildError_NotAsked, ki_BuildError_NotCause, ki_BuildError_NotFresh, ki_BuildError_NotNeeded, ki_BuildError_NotOpen, ki_BuildError_NotPart, ki_BuildError_NotSettled, ki_BuildError_NotSource, ki_BuildError_Rewritten, ki_BuildError_Stuck, ki_BuildError_Taken⟩ := ki_BuildError; 
      exact tab_one (P := fun c b => ∀ C, ClsAt K c C → ExcC K C ∧ PySem.W.kitOne K (.ref C) (.ref c_BuildError) = some b) (fun p hp => by
      simp only [List.mem_cons, List.not_mem_nil, or_false] at hp
      rcases hp with rfl | rfl | rfl | rfl | rfl | rfl | rfl | rfl | rfl | rfl | rfl | rfl | rfl | rfl | rfl | rfl | rfl | rfl | rfl | rfl | rfl | rfl | rfl | rfl | rfl | rfl
      · exact fun C hC => by rw [← cls_eq n_BadEntry hC]; exact ⟨ec_BadEntry, ki_BuildError_BadEntry⟩
      · exact fun C hC => by rw [← cls_eq n_BadKind hC]; exact ⟨ec_BadKind, ki_BuildError_BadKind⟩
      · exact fun C hC => by rw [← cls_eq n_BadLine hC]; exact ⟨ec_BadLine, ki_BuildError_BadLine⟩
      · exact fun C hC => by rw [← cls_eq n_BadName hC]; exact ⟨ec_BadName, ki_BuildError_BadName⟩
      · exact fun C hC => by rw [← cls_eq n_BadTree hC]; exact ⟨ec_BadTree, ki_BuildError_BadTree⟩
      · exact fun C hC => by rw [← cls_eq n_Clash hC]; exact ⟨ec_Clash, ki_BuildError_Clash⟩
      · exact fun C hC => by rw [← cls_eq n_Conflict hC]; exact ⟨ec_Conflict, ki_BuildError_Conflict⟩
      · exact fun C hC => by rw [← cls_eq n_Failed hC]; exact ⟨ec_Failed, ki_BuildError_Failed⟩
      · exact fun C hC => by rw [← cls_eq n_Gap hC]; exact ⟨ec_Gap, ki_BuildError_Gap⟩
      · exact fun C hC => by rw [← cls_eq n_Halted hC]; exact ⟨ec_Halted, ki_BuildError_Halted⟩
      · exact fun C hC => by rw [← cls_eq n_Mismatch hC]; exact ⟨ec_Mismatch, ki_BuildError_Mismatch⟩
      · exact fun C hC => by rw [← cls_eq n_NoPlace hC]; exact ⟨ec_NoPlace, ki_BuildError_NoPlace⟩
      · exact fun C hC => by rw [← cls_eq n_NoRow hC]; exact ⟨ec_NoRow, ki_BuildError_NoRow⟩
      · exact fun C hC => by rw [← cls_eq n_NoTarget hC]; exact ⟨ec_NoTarget, ki_BuildError_NoTarget⟩
      · exact fun C hC => by rw [← cls_eq n_NoVersion hC]; exact ⟨ec_NoVersion, ki_BuildError_NoVersion⟩
      · exact fun C hC => by rw [← cls_eq n_NotAsked hC]; exact ⟨ec_NotAsked, ki_BuildError_NotAsked⟩
      · exact fun C hC => by rw [← cls_eq n_NotCause hC]; exact ⟨ec_NotCause, ki_BuildError_NotCause⟩
      · exact fun C hC => by rw [← cls_eq n_NotFresh hC]; exact ⟨ec_NotFresh, ki_BuildError_NotFresh⟩
      · exact fun C hC => by rw [← cls_eq n_NotNeeded hC]; exact ⟨ec_NotNeeded, ki_BuildError_NotNeeded⟩
      · exact fun C hC => by rw [← cls_eq n_NotOpen hC]; exact ⟨ec_NotOpen, ki_BuildError_NotOpen⟩
      · exact fun C hC => by rw [← cls_eq n_NotPart hC]; exact ⟨ec_NotPart, ki_BuildError_NotPart⟩
      · exact fun C hC => by rw [← cls_eq n_NotSettled hC]; exact ⟨ec_NotSettled, ki_BuildError_NotSettled⟩
      · exact fun C hC => by rw [← cls_eq n_NotSource hC]; exact ⟨ec_NotSource, ki_BuildError_NotSource⟩
      · exact fun C hC => by rw [← cls_eq n_Rewritten hC]; exact ⟨ec_Rewritten, ki_BuildError_Rewritten⟩
      · exact fun C hC => by rw [← cls_eq n_Stuck hC]; exact ⟨ec_Stuck, ki_BuildError_Stuck⟩
      · exact fun C hC => by rw [← cls_eq n_Taken hC]; exact ⟨ec_Taken, ki_BuildError_Taken⟩),
    by
      obtain ⟨ec_BadEntry, ec_BadKind, ec_BadLine, ec_BadName, ec_BadTree, ec_Clash, ec_Conflict, ec_Failed, ec_Gap, ec_Halted, ec_Mismatch, ec_NoPlace, ec_NoRow, ec_NoTarget, ec_NoVersion, ec_NotAsked, ec_NotCause, ec_NotFresh, ec_NotNeeded, ec_NotOpen, ec_NotPart, ec_NotSettled, ec_NotSource, ec_Rewritten, ec_Stuck, ec_Taken⟩ := ec; obtain ⟨ki_Clash_BadEntry, ki_Clash_BadKind, ki_Clash_BadLine, ki_Clash_BadName, ki_Clash_BadTree, ki_Clash_Clash, ki_Clash_Conflict, ki_Clash_Failed, ki_Clash_Gap, ki_Clash_Halted, ki_Clash_Mismatch, ki_Clash_NoPlace, ki_Clash_NoRow, ki_Clash_NoTarget, ki_Clash_NoVersion, ki_Clash_NotAsked, ki_Clash_NotCause, ki_Clash_NotFresh, ki_Clash_NotNeeded, ki_Clash_NotOpen, ki_Clash_NotPart, ki_Clash_NotSettled, ki_Clash_NotSource, ki_Clash_Rewritten, ki_Clash_Stuck, ki_Clash_Taken⟩ := ki_Clash; 
      exact tab_one (P := fun c b => ∀ C, ClsAt K c C → ExcC K C ∧ PySem.W.kitOne K (.ref C) (.ref c_Clash) = some b) (fun p hp => by
      simp only [List.mem_cons, List.not_mem_nil, or_false] at hp
      rcases hp with rfl | rfl | rfl | rfl | rfl | rfl | rfl | rfl | rfl | rfl | rfl | rfl | rfl | rfl | rfl | rfl | rfl | rfl | rfl | rfl | rfl | rfl | rfl | rfl | rfl | rfl
      · exact fun C hC => by rw [← cls_eq n_BadEntry hC]; exact ⟨ec_BadEntry, ki_Clash_BadEntry⟩
      · exact fun C hC => by rw [← cls_eq n_BadKind hC]; exact ⟨ec_BadKind, ki_Clash_BadKind⟩
      · exact fun C hC => by rw [← cls_eq n_BadLine hC]; exact ⟨ec_BadLine, ki_Clash_BadLine⟩
      · exact fun C hC => by rw [← cls_eq n_BadName hC]; exact ⟨ec_BadName, ki_Clash_BadName⟩
      · exact fun C hC => by rw [← cls_eq n_BadTree hC]; exact ⟨ec_BadTree, ki_Clash_BadTree⟩
      · exact fun C hC => by rw [← cls_eq n_Clash hC]; exact ⟨ec_Clash, ki_Clash_Clash⟩
      · exact fun C hC => by rw [← cls_eq n_Conflict hC]; exact ⟨ec_Conflict, ki_Clash_Conflict⟩
      · exact fun C hC => by rw [← cls_eq n_Failed hC]; exact ⟨ec_Failed, ki_Clash_Failed⟩
      · exact fun C hC => by rw [← cls_eq n_Gap hC]; exact ⟨ec_Gap, ki_Clash_Gap⟩
      · exact fun C hC => by rw [← cls_eq n_Halted hC]; exact ⟨ec_Halted, ki_Clash_Halted⟩
      · exact fun C hC => by rw [← cls_eq n_Mismatch hC]; exact ⟨ec_Mismatch, ki_Clash_Mismatch⟩
      · exact fun C hC => by rw [← cls_eq n_NoPlace hC]; exact ⟨ec_NoPlace, ki_Clash_NoPlace⟩
      · exact fun C hC => by rw [← cls_eq n_NoRow hC]; exact ⟨ec_NoRow, ki_Clash_NoRow⟩
      · exact fun C hC => by rw [← cls_eq n_NoTarget hC]; exact ⟨ec_NoTarget, ki_Clash_NoTarget⟩
      · exact fun C hC => by rw [← cls_eq n_NoVersion hC]; exact ⟨ec_NoVersion, ki_Clash_NoVersion⟩
      · exact fun C hC => by rw [← cls_eq n_NotAsked hC]; exact ⟨ec_NotAsked, ki_Clash_NotAsked⟩
      · exact fun C hC => by rw [← cls_eq n_NotCause hC]; exact ⟨ec_NotCause, ki_Clash_NotCause⟩
      · exact fun C hC => by rw [← cls_eq n_NotFresh hC]; exact ⟨ec_NotFresh, ki_Clash_NotFresh⟩
      · exact fun C hC => by rw [← cls_eq n_NotNeeded hC]; exact ⟨ec_NotNeeded, ki_Clash_NotNeeded⟩
      · exact fun C hC => by rw [← cls_eq n_NotOpen hC]; exact ⟨ec_NotOpen, ki_Clash_NotOpen⟩
      · exact fun C hC => by rw [← cls_eq n_NotPart hC]; exact ⟨ec_NotPart, ki_Clash_NotPart⟩
      · exact fun C hC => by rw [← cls_eq n_NotSettled hC]; exact ⟨ec_NotSettled, ki_Clash_NotSettled⟩
      · exact fun C hC => by rw [← cls_eq n_NotSource hC]; exact ⟨ec_NotSource, ki_Clash_NotSource⟩
      · exact fun C hC => by rw [← cls_eq n_Rewritten hC]; exact ⟨ec_Rewritten, ki_Clash_Rewritten⟩
      · exact fun C hC => by rw [← cls_eq n_Stuck hC]; exact ⟨ec_Stuck, ki_Clash_Stuck⟩
      · exact fun C hC => by rw [← cls_eq n_Taken hC]; exact ⟨ec_Taken, ki_Clash_Taken⟩),
    by
      obtain ⟨ec_BadEntry, ec_BadKind, ec_BadLine, ec_BadName, ec_BadTree, ec_Clash, ec_Conflict, ec_Failed, ec_Gap, ec_Halted, ec_Mismatch, ec_NoPlace, ec_NoRow, ec_NoTarget, ec_NoVersion, ec_NotAsked, ec_NotCause, ec_NotFresh, ec_NotNeeded, ec_NotOpen, ec_NotPart, ec_NotSettled, ec_NotSource, ec_Rewritten, ec_Stuck, ec_Taken⟩ := ec; obtain ⟨ki_Conflict_BadEntry, ki_Conflict_BadKind, ki_Conflict_BadLine, ki_Conflict_BadName, ki_Conflict_BadTree, ki_Conflict_Clash, ki_Conflict_Conflict, ki_Conflict_Failed, ki_Conflict_Gap, ki_Conflict_Halted, ki_Conflict_Mismatch, ki_Conflict_NoPlace, ki_Conflict_NoRow, ki_Conflict_NoTarget, ki_Conflict_NoVersion, ki_Conflict_NotAsked, ki_Conflict_NotCause, ki_Conflict_NotFresh, ki_Conflict_NotNeeded, ki_Conflict_NotOpen, ki_Conflict_NotPart, ki_Conflict_NotSettled, ki_Conflict_NotSource, ki_Conflict_Rewritten, ki_Conflict_Stuck, ki_Conflict_Taken⟩ := ki_Conflict; 
      exact tab_one (P := fun c b => ∀ C, ClsAt K c C → ExcC K C ∧ PySem.W.kitOne K (.ref C) (.ref c_Conflict) = some b) (fun p hp => by
      simp only [List.mem_cons, List.not_mem_nil, or_false] at hp
      rcases hp with rfl | rfl | rfl | rfl | rfl | rfl | rfl | rfl | rfl | rfl | rfl | rfl | rfl | rfl | rfl | rfl | rfl | rfl | rfl | rfl | rfl | rfl | rfl | rfl | rfl | rfl
      · exact fun C hC => by rw [← cls_eq n_BadEntry hC]; exact ⟨ec_BadEntry, ki_Conflict_BadEntry⟩
      · exact fun C hC => by rw [← cls_eq n_BadKind hC]; exact ⟨ec_BadKind, ki_Conflict_BadKind⟩
      · exact fun C hC => by rw [← cls_eq n_BadLine hC]; exact ⟨ec_BadLine, ki_Conflict_BadLine⟩
      · exact fun C hC => by rw [← cls_eq n_BadName hC]; exact ⟨ec_BadName, ki_Conflict_BadName⟩
      · exact fun C hC => by rw [← cls_eq n_BadTree hC]; exact ⟨ec_BadTree, ki_Conflict_BadTree⟩
      · exact fun C hC => by rw [← cls_eq n_Clash hC]; exact ⟨ec_Clash, ki_Conflict_Clash⟩
      · exact fun C hC => by rw [← cls_eq n_Conflict hC]; exact ⟨ec_Conflict, ki_Conflict_Conflict⟩
      · exact fun C hC => by rw [← cls_eq n_Failed hC]; exact ⟨ec_Failed, ki_Conflict_Failed⟩
      · exact fun C hC => by rw [← cls_eq n_Gap hC]; exact ⟨ec_Gap, ki_Conflict_Gap⟩
      · exact fun C hC => by rw [← cls_eq n_Halted hC]; exact ⟨ec_Halted, ki_Conflict_Halted⟩
      · exact fun C hC => by rw [← cls_eq n_Mismatch hC]; exact ⟨ec_Mismatch, ki_Conflict_Mismatch⟩
      · exact fun C hC => by rw [← cls_eq n_NoPlace hC]; exact ⟨ec_NoPlace, ki_Conflict_NoPlace⟩
      · exact fun C hC => by rw [← cls_eq n_NoRow hC]; exact ⟨ec_NoRow, ki_Conflict_NoRow⟩
      · exact fun C hC => by rw [← cls_eq n_NoTarget hC]; exact ⟨ec_NoTarget, ki_Conflict_NoTarget⟩
      · exact fun C hC => by rw [← cls_eq n_NoVersion hC]; exact ⟨ec_NoVersion, ki_Conflict_NoVersion⟩
      · exact fun C hC => by rw [← cls_eq n_NotAsked hC]; exact ⟨ec_NotAsked, ki_Conflict_NotAsked⟩
      · exact fun C hC => by rw [← cls_eq n_NotCause hC]; exact ⟨ec_NotCause, ki_Conflict_NotCause⟩
      · exact fun C hC => by rw [← cls_eq n_NotFresh hC]; exact ⟨ec_NotFresh, ki_Conflict_NotFresh⟩
      · exact fun C hC => by rw [← cls_eq n_NotNeeded hC]; exact ⟨ec_NotNeeded, ki_Conflict_NotNeeded⟩
      · exact fun C hC => by rw [← cls_eq n_NotOpen hC]; exact ⟨ec_NotOpen, ki_Conflict_NotOpen⟩
      · exact fun C hC => by rw [← cls_eq n_NotPart hC]; exact ⟨ec_NotPart, ki_Conflict_NotPart⟩
      · exact fun C hC => by rw [← cls_eq n_NotSettled hC]; exact ⟨ec_NotSettled, ki_Conflict_NotSettled⟩
      · exact fun C hC => by rw [← cls_eq n_NotSource hC]; exact ⟨ec_NotSource, ki_Conflict_NotSource⟩
      · exact fun C hC => by rw [← cls_eq n_Rewritten hC]; exact ⟨ec_Rewritten, ki_Conflict_Rewritten⟩
      · exact fun C hC => by rw [← cls_eq n_Stuck hC]; exact ⟨ec_Stuck, ki_Conflict_Stuck⟩
      · exact fun C hC => by rw [← cls_eq n_Taken hC]; exact ⟨ec_Taken, ki_Conflict_Taken⟩),
    by
      obtain ⟨ec_BadEntry, ec_BadKind, ec_BadLine, ec_BadName, ec_BadTree, ec_Clash, ec_Conflict, ec_Failed, ec_Gap, ec_Halted, ec_Mismatch, ec_NoPlace, ec_NoRow, ec_NoTarget, ec_NoVersion, ec_NotAsked, ec_NotCause, ec_NotFresh, ec_NotNeeded, ec_NotOpen, ec_NotPart, ec_NotSettled, ec_NotSource, ec_Rewritten, ec_Stuck, ec_Taken⟩ := ec; obtain ⟨ki_Failed_BadEntry, ki_Failed_BadKind, ki_Failed_BadLine, ki_Failed_BadName, ki_Failed_BadTree, ki_Failed_Clash, ki_Failed_Conflict, ki_Failed_Failed, ki_Failed_Gap, ki_Failed_Halted, ki_Failed_Mismatch, ki_Failed_NoPlace, ki_Failed_NoRow, ki_Failed_NoTarget, ki_Failed_NoVersion, ki_Failed_NotAsked, ki_Failed_NotCause, ki_Failed_NotFresh, ki_Failed_NotNeeded, ki_Failed_NotOpen, ki_Failed_NotPart, ki_Failed_NotSettled, ki_Failed_NotSource, ki_Failed_Rewritten, ki_Failed_Stuck, ki_Failed_Taken⟩ := ki_Failed; 
      exact tab_one (P := fun c b => ∀ C, ClsAt K c C → ExcC K C ∧ PySem.W.kitOne K (.ref C) (.ref c_Failed) = some b) (fun p hp => by
      simp only [List.mem_cons, List.not_mem_nil, or_false] at hp
      rcases hp with rfl | rfl | rfl | rfl | rfl | rfl | rfl | rfl | rfl | rfl | rfl | rfl | rfl | rfl | rfl | rfl | rfl | rfl | rfl | rfl | rfl | rfl | rfl | rfl | rfl | rfl
      · exact fun C hC => by rw [← cls_eq n_BadEntry hC]; exact ⟨ec_BadEntry, ki_Failed_BadEntry⟩
      · exact fun C hC => by rw [← cls_eq n_BadKind hC]; exact ⟨ec_BadKind, ki_Failed_BadKind⟩
      · exact fun C hC => by rw [← cls_eq n_BadLine hC]; exact ⟨ec_BadLine, ki_Failed_BadLine⟩
      · exact fun C hC => by rw [← cls_eq n_BadName hC]; exact ⟨ec_BadName, ki_Failed_BadName⟩
      · exact fun C hC => by rw [← cls_eq n_BadTree hC]; exact ⟨ec_BadTree, ki_Failed_BadTree⟩
      · exact fun C hC => by rw [← cls_eq n_Clash hC]; exact ⟨ec_Clash, ki_Failed_Clash⟩
      · exact fun C hC => by rw [← cls_eq n_Conflict hC]; exact ⟨ec_Conflict, ki_Failed_Conflict⟩
      · exact fun C hC => by rw [← cls_eq n_Failed hC]; exact ⟨ec_Failed, ki_Failed_Failed⟩
      · exact fun C hC => by rw [← cls_eq n_Gap hC]; exact ⟨ec_Gap, ki_Failed_Gap⟩
      · exact fun C hC => by rw [← cls_eq n_Halted hC]; exact ⟨ec_Halted, ki_Failed_Halted⟩
      · exact fun C hC => by rw [← cls_eq n_Mismatch hC]; exact ⟨ec_Mismatch, ki_Failed_Mismatch⟩
      · exact fun C hC => by rw [← cls_eq n_NoPlace hC]; exact ⟨ec_NoPlace, ki_Failed_NoPlace⟩
      · exact fun C hC => by rw [← cls_eq n_NoRow hC]; exact ⟨ec_NoRow, ki_Failed_NoRow⟩
      · exact fun C hC => by rw [← cls_eq n_NoTarget hC]; exact ⟨ec_NoTarget, ki_Failed_NoTarget⟩
      · exact fun C hC => by rw [← cls_eq n_NoVersion hC]; exact ⟨ec_NoVersion, ki_Failed_NoVersion⟩
      · exact fun C hC => by rw [← cls_eq n_NotAsked hC]; exact ⟨ec_NotAsked, ki_Failed_NotAsked⟩
      · exact fun C hC => by rw [← cls_eq n_NotCause hC]; exact ⟨ec_NotCause, ki_Failed_NotCause⟩
      · exact fun C hC => by rw [← cls_eq n_NotFresh hC]; exact ⟨ec_NotFresh, ki_Failed_NotFresh⟩
      · exact fun C hC => by rw [← cls_eq n_NotNeeded hC]; exact ⟨ec_NotNeeded, ki_Failed_NotNeeded⟩
      · exact fun C hC => by rw [← cls_eq n_NotOpen hC]; exact ⟨ec_NotOpen, ki_Failed_NotOpen⟩
      · exact fun C hC => by rw [← cls_eq n_NotPart hC]; exact ⟨ec_NotPart, ki_Failed_NotPart⟩
      · exact fun C hC => by rw [← cls_eq n_NotSettled hC]; exact ⟨ec_NotSettled, ki_Failed_NotSettled⟩
      · exact fun C hC => by rw [← cls_eq n_NotSource hC]; exact ⟨ec_NotSource, ki_Failed_NotSource⟩
      · exact fun C hC => by rw [← cls_eq n_Rewritten hC]; exact ⟨ec_Rewritten, ki_Failed_Rewritten⟩
      · exact fun C hC => by rw [← cls_eq n_Stuck hC]; exact ⟨ec_Stuck, ki_Failed_Stuck⟩
      · exact fun C hC => by rw [← cls_eq n_Taken hC]; exact ⟨ec_Taken, ki_Failed_Taken⟩),
    by
      obtain ⟨ec_BadEntry, ec_BadKind, ec_BadLine, ec_BadName, ec_BadTree, ec_Clash, ec_Conflict, ec_Failed, ec_Gap, ec_Halted, ec_Mismatch, ec_NoPlace, ec_NoRow, ec_NoTarget, ec_NoVersion, ec_NotAsked, ec_NotCause, ec_NotFresh, ec_NotNeeded, ec_NotOpen, ec_NotPart, ec_NotSettled, ec_NotSource, ec_Rewritten, ec_Stuck, ec_Taken⟩ := ec; obtain ⟨ki_Gap_BadEntry, ki_Gap_BadKind, ki_Gap_BadLine, ki_Gap_BadName, ki_Gap_BadTree, ki_Gap_Clash, ki_Gap_Conflict, ki_Gap_Failed, ki_Gap_Gap, ki_Gap_Halted, ki_Gap_Mismatch, ki_Gap_NoPlace, ki_Gap_NoRow, ki_Gap_NoTarget, ki_Gap_NoVersion, ki_Gap_NotAsked, ki_Gap_NotCause, ki_Gap_NotFresh, ki_Gap_NotNeeded, ki_Gap_NotOpen, ki_Gap_NotPart, ki_Gap_NotSettled, ki_Gap_NotSource, ki_Gap_Rewritten, ki_Gap_Stuck, ki_Gap_Taken⟩ := ki_Gap; 
      exact tab_one (P := fun c b => ∀ C, ClsAt K c C → ExcC K C ∧ PySem.W.kitOne K (.ref C) (.ref c_Gap) = some b) (fun p hp => by
      simp only [List.mem_cons, List.not_mem_nil, or_false] at hp
      rcases hp with rfl | rfl | rfl | rfl | rfl | rfl | rfl | rfl | rfl | rfl | rfl | rfl | rfl | rfl | rfl | rfl | rfl | rfl | rfl | rfl | rfl | rfl | rfl | rfl | rfl | rfl
      · exact fun C hC => by rw [← cls_eq n_BadEntry hC]; exact ⟨ec_BadEntry, ki_Gap_BadEntry⟩
      · exact fun C hC => by rw [← cls_eq n_BadKind hC]; exact ⟨ec_BadKind, ki_Gap_BadKind⟩
      · exact fun C hC => by rw [← cls_eq n_BadLine hC]; exact ⟨ec_BadLine, ki_Gap_BadLine⟩
      · exact fun C hC => by rw [← cls_eq n_BadName hC]; exact ⟨ec_BadName, ki_Gap_BadName⟩
      · exact fun C hC => by rw [← cls_eq n_BadTree hC]; exact ⟨ec_BadTree, ki_Gap_BadTree⟩
      · exact fun C hC => by rw [← cls_eq n_Clash hC]; exact ⟨ec_Clash, ki_Gap_Clash⟩
      · exact fun C hC => by rw [← cls_eq n_Conflict hC]; exact ⟨ec_Conflict, ki_Gap_Conflict⟩
      · exact fun C hC => by rw [← cls_eq n_Failed hC]; exact ⟨ec_Failed, ki_Gap_Failed⟩
      · exact fun C hC => by rw [← cls_eq n_Gap hC]; exact ⟨ec_Gap, ki_Gap_Gap⟩
      · exact fun C hC => by rw [← cls_eq n_Halted hC]; exact ⟨ec_Halted, ki_Gap_Halted⟩
      · exact fun C hC => by rw [← cls_eq n_Mismatch hC]; exact ⟨ec_Mismatch, ki_Gap_Mismatch⟩
      · exact fun C hC => by rw [← cls_eq n_NoPlace hC]; exact ⟨ec_NoPlace, ki_Gap_NoPlace⟩
      · exact fun C hC => by rw [← cls_eq n_NoRow hC]; exact ⟨ec_NoRow, ki_Gap_NoRow⟩
      · exact fun C hC => by rw [← cls_eq n_NoTarget hC]; exact ⟨ec_NoTarget, ki_Gap_NoTarget⟩
      · exact fun C hC => by rw [← cls_eq n_NoVersion hC]; exact ⟨ec_NoVersion, ki_Gap_NoVersion⟩
      · exact fun C hC => by rw [← cls_eq n_NotAsked hC]; exact ⟨ec_NotAsked, ki_Gap_NotAsked⟩
      · exact fun C hC => by rw [← cls_eq n_NotCause hC]; exact ⟨ec_NotCause, ki_Gap_NotCause⟩
      · exact fun C hC => by rw [← cls_eq n_NotFresh hC]; exact ⟨ec_NotFresh, ki_Gap_NotFresh⟩
      · exact fun C hC => by rw [← cls_eq n_NotNeeded hC]; exact ⟨ec_NotNeeded, ki_Gap_NotNeeded⟩
      · exact fun C hC => by rw [← cls_eq n_NotOpen hC]; exact ⟨ec_NotOpen, ki_Gap_NotOpen⟩
      · exact fun C hC => by rw [← cls_eq n_NotPart hC]; exact ⟨ec_NotPart, ki_Gap_NotPart⟩
      · exact fun C hC => by rw [← cls_eq n_NotSettled hC]; exact ⟨ec_NotSettled, ki_Gap_NotSettled⟩
      · exact fun C hC => by rw [← cls_eq n_NotSource hC]; exact ⟨ec_NotSource, ki_Gap_NotSource⟩
      · exact fun C hC => by rw [← cls_eq n_Rewritten hC]; exact ⟨ec_Rewritten, ki_Gap_Rewritten⟩
      · exact fun C hC => by rw [← cls_eq n_Stuck hC]; exact ⟨ec_Stuck, ki_Gap_Stuck⟩
      · exact fun C hC => by rw [← cls_eq n_Taken hC]; exact ⟨ec_Taken, ki_Gap_Taken⟩),
    by
      obtain ⟨ec_BadEntry, ec_BadKind, ec_BadLine, ec_BadName, ec_BadTree, ec_Clash, ec_Conflict, ec_Failed, ec_Gap, ec_Halted, ec_Mismatch, ec_NoPlace, ec_NoRow, ec_NoTarget, ec_NoVersion, ec_NotAsked, ec_NotCause, ec_NotFresh, ec_NotNeeded, ec_NotOpen, ec_NotPart, ec_NotSettled, ec_NotSource, ec_Rewritten, ec_Stuck, ec_Taken⟩ := ec; obtain ⟨ki_Halted_BadEntry, ki_Halted_BadKind, ki_Halted_BadLine, ki_Halted_BadName, ki_Halted_BadTree, ki_Halted_Clash, ki_Halted_Conflict, ki_Halted_Failed, ki_Halted_Gap, ki_Halted_Halted, ki_Halted_Mismatch, ki_Halted_NoPlace, ki_Halted_NoRow, ki_Halted_NoTarget, ki_Halted_NoVersion, ki_Halted_NotAsked, ki_Halted_NotCause, ki_Halted_NotFresh, ki_Halted_NotNeeded, ki_Halted_NotOpen, ki_Halted_NotPart, ki_Halted_NotSettled, ki_Halted_NotSource, ki_Halted_Rewritten, ki_Halted_Stuck, ki_Halted_Taken⟩ := ki_Halted; 
      exact tab_one (P := fun c b => ∀ C, ClsAt K c C → ExcC K C ∧ PySem.W.kitOne K (.ref C) (.ref c_Halted) = some b) (fun p hp => by
      simp only [List.mem_cons, List.not_mem_nil, or_false] at hp
      rcases hp with rfl | rfl | rfl | rfl | rfl | rfl | rfl | rfl | rfl | rfl | rfl | rfl | rfl | rfl | rfl | rfl | rfl | rfl | rfl | rfl | rfl | rfl | rfl | rfl | rfl | rfl
      · exact fun C hC => by rw [← cls_eq n_BadEntry hC]; exact ⟨ec_BadEntry, ki_Halted_BadEntry⟩
      · exact fun C hC => by rw [← cls_eq n_BadKind hC]; exact ⟨ec_BadKind, ki_Halted_BadKind⟩
      · exact fun C hC => by rw [← cls_eq n_BadLine hC]; exact ⟨ec_BadLine, ki_Halted_BadLine⟩
      · exact fun C hC => by rw [← cls_eq n_BadName hC]; exact ⟨ec_BadName, ki_Halted_BadName⟩
      · exact fun C hC => by rw [← cls_eq n_BadTree hC]; exact ⟨ec_BadTree, ki_Halted_BadTree⟩
      · exact fun C hC => by rw [← cls_eq n_Clash hC]; exact ⟨ec_Clash, ki_Halted_Clash⟩
      · exact fun C hC => by rw [← cls_eq n_Conflict hC]; exact ⟨ec_Conflict, ki_Halted_Conflict⟩
      · exact fun C hC => by rw [← cls_eq n_Failed hC]; exact ⟨ec_Failed, ki_Halted_Failed⟩
      · exact fun C hC => by rw [← cls_eq n_Gap hC]; exact ⟨ec_Gap, ki_Halted_Gap⟩
      · exact fun C hC => by rw [← cls_eq n_Halted hC]; exact ⟨ec_Halted, ki_Halted_Halted⟩
      · exact fun C hC => by rw [← cls_eq n_Mismatch hC]; exact ⟨ec_Mismatch, ki_Halted_Mismatch⟩
      · exact fun C hC => by rw [← cls_eq n_NoPlace hC]; exact ⟨ec_NoPlace, ki_Halted_NoPlace⟩
      · exact fun C hC => by rw [← cls_eq n_NoRow hC]; exact ⟨ec_NoRow, ki_Halted_NoRow⟩
      · exact fun C hC => by rw [← cls_eq n_NoTarget hC]; exact ⟨ec_NoTarget, ki_Halted_NoTarget⟩
      · exact fun C hC => by rw [← cls_eq n_NoVersion hC]; exact ⟨ec_NoVersion, ki_Halted_NoVersion⟩
      · exact fun C hC => by rw [← cls_eq n_NotAsked hC]; exact ⟨ec_NotAsked, ki_Halted_NotAsked⟩
      · exact fun C hC => by rw [← cls_eq n_NotCause hC]; exact ⟨ec_NotCause, ki_Halted_NotCause⟩
      · exact fun C hC => by rw [← cls_eq n_NotFresh hC]; exact ⟨ec_NotFresh, ki_Halted_NotFresh⟩
      · exact fun C hC => by rw [← cls_eq n_NotNeeded hC]; exact ⟨ec_NotNeeded, ki_Halted_NotNeeded⟩
      · exact fun C hC => by rw [← cls_eq n_NotOpen hC]; exact ⟨ec_NotOpen, ki_Halted_NotOpen⟩
      · exact fun C hC => by rw [← cls_eq n_NotPart hC]; exact ⟨ec_NotPart, ki_Halted_NotPart⟩
      · exact fun C hC => by rw [← cls_eq n_NotSettled hC]; exact ⟨ec_NotSettled, ki_Halted_NotSettled⟩
      · exact fun C hC => by rw [← cls_eq n_NotSource hC]; exact ⟨ec_NotSource, ki_Halted_NotSource⟩
      · exact fun C hC => by rw [← cls_eq n_Rewritten hC]; exact ⟨ec_Rewritten, ki_Halted_Rewritten⟩
      · exact fun C hC => by rw [← cls_eq n_Stuck hC]; exact ⟨ec_Stuck, ki_Halted_Stuck⟩
      · exact fun C hC => by rw [← cls_eq n_Taken hC]; exact ⟨ec_Taken, ki_Halted_Taken⟩),
    by
      obtain ⟨ec_BadEntry, ec_BadKind, ec_BadLine, ec_BadName, ec_BadTree, ec_Clash, ec_Conflict, ec_Failed, ec_Gap, ec_Halted, ec_Mismatch, ec_NoPlace, ec_NoRow, ec_NoTarget, ec_NoVersion, ec_NotAsked, ec_NotCause, ec_NotFresh, ec_NotNeeded, ec_NotOpen, ec_NotPart, ec_NotSettled, ec_NotSource, ec_Rewritten, ec_Stuck, ec_Taken⟩ := ec; obtain ⟨ki_Mismatch_BadEntry, ki_Mismatch_BadKind, ki_Mismatch_BadLine, ki_Mismatch_BadName, ki_Mismatch_BadTree, ki_Mismatch_Clash, ki_Mismatch_Conflict, ki_Mismatch_Failed, ki_Mismatch_Gap, ki_Mismatch_Halted, ki_Mismatch_Mismatch, ki_Mismatch_NoPlace, ki_Mismatch_NoRow, ki_Mismatch_NoTarget, ki_Mismatch_NoVersion, ki_Mismatch_NotAsked, ki_Mismatch_NotCause, ki_Mismatch_NotFresh, ki_Mismatch_NotNeeded, ki_Mismatch_NotOpen, ki_Mismatch_NotPart, ki_Mismatch_NotSettled, ki_Mismatch_NotSource, ki_Mismatch_Rewritten, ki_Mismatch_Stuck, ki_Mismatch_Taken⟩ := ki_Mismatch; 
      exact tab_one (P := fun c b => ∀ C, ClsAt K c C → ExcC K C ∧ PySem.W.kitOne K (.ref C) (.ref c_Mismatch) = some b) (fun p hp => by
      simp only [List.mem_cons, List.not_mem_nil, or_false] at hp
      rcases hp with rfl | rfl | rfl | rfl | rfl | rfl | rfl | rfl | rfl | rfl | rfl | rfl | rfl | rfl | rfl | rfl | rfl | rfl | rfl | rfl | rfl | rfl | rfl | rfl | rfl | rfl
      · exact fun C hC => by rw [← cls_eq n_BadEntry hC]; exact ⟨ec_BadEntry, ki_Mismatch_BadEntry⟩
      · exact fun C hC => by rw [← cls_eq n_BadKind hC]; exact ⟨ec_BadKind, ki_Mismatch_BadKind⟩
      · exact fun C hC => by rw [← cls_eq n_BadLine hC]; exact ⟨ec_BadLine, ki_Mismatch_BadLine⟩
      · exact fun C hC => by rw [← cls_eq n_BadName hC]; exact ⟨ec_BadName, ki_Mismatch_BadName⟩
      · exact fun C hC => by rw [← cls_eq n_BadTree hC]; exact ⟨ec_BadTree, ki_Mismatch_BadTree⟩
      · exact fun C hC => by rw [← cls_eq n_Clash hC]; exact ⟨ec_Clash, ki_Mismatch_Clash⟩
      · exact fun C hC => by rw [← cls_eq n_Conflict hC]; exact ⟨ec_Conflict, ki_Mismatch_Conflict⟩
      · exact fun C hC => by rw [← cls_eq n_Failed hC]; exact ⟨ec_Failed, ki_Mismatch_Failed⟩
      · exact fun C hC => by rw [← cls_eq n_Gap hC]; exact ⟨ec_Gap, ki_Mismatch_Gap⟩
      · exact fun C hC => by rw [← cls_eq n_Halted hC]; exact ⟨ec_Halted, ki_Mismatch_Halted⟩
      · exact fun C hC => by rw [← cls_eq n_Mismatch hC]; exact ⟨ec_Mismatch, ki_Mismatch_Mismatch⟩
      · exact fun C hC => by rw [← cls_eq n_NoPlace hC]; exact ⟨ec_NoPlace, ki_Mismatch_NoPlace⟩
      · exact fun C hC => by rw [← cls_eq n_NoRow hC]; exact ⟨ec_NoRow, ki_Mismatch_NoRow⟩
      · exact fun C hC => by rw [← cls_eq n_NoTarget hC]; exact ⟨ec_NoTarget, ki_Mismatch_NoTarget⟩
      · exact fun C hC => by rw [← cls_eq n_NoVersion hC]; exact ⟨ec_NoVersion, ki_Mismatch_NoVersion⟩
      · exact fun C hC => by rw [← cls_eq n_NotAsked hC]; exact ⟨ec_NotAsked, ki_Mismatch_NotAsked⟩
      · exact fun C hC => by rw [← cls_eq n_NotCause hC]; exact ⟨ec_NotCause, ki_Mismatch_NotCause⟩
      · exact fun C hC => by rw [← cls_eq n_NotFresh hC]; exact ⟨ec_NotFresh, ki_Mismatch_NotFresh⟩
      · exact fun C hC => by rw [← cls_eq n_NotNeeded hC]; exact ⟨ec_NotNeeded, ki_Mismatch_NotNeeded⟩
      · exact fun C hC => by rw [← cls_eq n_NotOpen hC]; exact ⟨ec_NotOpen, ki_Mismatch_NotOpen⟩
      · exact fun C hC => by rw [← cls_eq n_NotPart hC]; exact ⟨ec_NotPart, ki_Mismatch_NotPart⟩
      · exact fun C hC => by rw [← cls_eq n_NotSettled hC]; exact ⟨ec_NotSettled, ki_Mismatch_NotSettled⟩
      · exact fun C hC => by rw [← cls_eq n_NotSource hC]; exact ⟨ec_NotSource, ki_Mismatch_NotSource⟩
      · exact fun C hC => by rw [← cls_eq n_Rewritten hC]; exact ⟨ec_Rewritten, ki_Mismatch_Rewritten⟩
      · exact fun C hC => by rw [← cls_eq n_Stuck hC]; exact ⟨ec_Stuck, ki_Mismatch_Stuck⟩
      · exact fun C hC => by rw [← cls_eq n_Taken hC]; exact ⟨ec_Taken, ki_Mismatch_Taken⟩),
    by
      obtain ⟨ec_BadEntry, ec_BadKind, ec_BadLine, ec_BadName, ec_BadTree, ec_Clash, ec_Conflict, ec_Failed, ec_Gap, ec_Halted, ec_Mismatch, ec_NoPlace, ec_NoRow, ec_NoTarget, ec_NoVersion, ec_NotAsked, ec_NotCause, ec_NotFresh, ec_NotNeeded, ec_NotOpen, ec_NotPart, ec_NotSettled, ec_NotSource, ec_Rewritten, ec_Stuck, ec_Taken⟩ := ec; obtain ⟨ki_NoPlace_BadEntry, ki_NoPlace_BadKind, ki_NoPlace_BadLine, ki_NoPlace_BadName, ki_NoPlace_BadTree, ki_NoPlace_Clash, ki_NoPlace_Conflict, ki_NoPlace_Failed, ki_NoPlace_Gap, ki_NoPlace_Halted, ki_NoPlace_Mismatch, ki_NoPlace_NoPlace, ki_NoPlace_NoRow, ki_NoPlace_NoTarget, ki_NoPlace_NoVersion, ki_NoPlace_NotAsked, ki_NoPlace_NotCause, ki_NoPlace_NotFresh, ki_NoPlace_NotNeeded, ki_NoPlace_NotOpen, ki_NoPlace_NotPart, ki_NoPlace_NotSettled, ki_NoPlace_NotSource, ki_NoPlace_Rewritten, ki_NoPlace_Stuck, ki_NoPlace_Taken⟩ := ki_NoPlace; 
      exact tab_one (P := fun c b => ∀ C, ClsAt K c C → ExcC K C ∧ PySem.W.kitOne K (.ref C) (.ref c_NoPlace) = some b) (fun p hp => by
      simp only [List.mem_cons, List.not_mem_nil, or_false] at hp
      rcases hp with rfl | rfl | rfl | rfl | rfl | rfl | rfl | rfl | rfl | rfl | rfl | rfl | rfl | rfl | rfl | rfl | rfl | rfl | rfl | rfl | rfl | rfl | rfl | rfl | rfl | rfl
      · exact fun C hC => by rw [← cls_eq n_BadEntry hC]; exact ⟨ec_BadEntry, ki_NoPlace_BadEntry⟩
      · exact fun C hC => by rw [← cls_eq n_BadKind hC]; exact ⟨ec_BadKind, ki_NoPlace_BadKind⟩
      · exact fun C hC => by rw [← cls_eq n_BadLine hC]; exact ⟨ec_BadLine, ki_NoPlace_BadLine⟩
      · exact fun C hC => by rw [← cls_eq n_BadName hC]; exact ⟨ec_BadName, ki_NoPlace_BadName⟩
      · exact fun C hC => by rw [← cls_eq n_BadTree hC]; exact ⟨ec_BadTree, ki_NoPlace_BadTree⟩
      · exact fun C hC => by rw [← cls_eq n_Clash hC]; exact ⟨ec_Clash, ki_NoPlace_Clash⟩
      · exact fun C hC => by rw [← cls_eq n_Conflict hC]; exact ⟨ec_Conflict, ki_NoPlace_Conflict⟩
      · exact fun C hC => by rw [← cls_eq n_Failed hC]; exact ⟨ec_Failed, ki_NoPlace_Failed⟩
      · exact fun C hC => by rw [← cls_eq n_Gap hC]; exact ⟨ec_Gap, ki_NoPlace_Gap⟩
      · exact fun C hC => by rw [← cls_eq n_Halted hC]; exact ⟨ec_Halted, ki_NoPlace_Halted⟩
      · exact fun C hC => by rw [← cls_eq n_Mismatch hC]; exact ⟨ec_Mismatch, ki_NoPlace_Mismatch⟩
      · exact fun C hC => by rw [← cls_eq n_NoPlace hC]; exact ⟨ec_NoPlace, ki_NoPlace_NoPlace⟩
      · exact fun C hC => by rw [← cls_eq n_NoRow hC]; exact ⟨ec_NoRow, ki_NoPlace_NoRow⟩
      · exact fun C hC => by rw [← cls_eq n_NoTarget hC]; exact ⟨ec_NoTarget, ki_NoPlace_NoTarget⟩
      · exact fun C hC => by rw [← cls_eq n_NoVersion hC]; exact ⟨ec_NoVersion, ki_NoPlace_NoVersion⟩
      · exact fun C hC => by rw [← cls_eq n_NotAsked hC]; exact ⟨ec_NotAsked, ki_NoPlace_NotAsked⟩
      · exact fun C hC => by rw [← cls_eq n_NotCause hC]; exact ⟨ec_NotCause, ki_NoPlace_NotCause⟩
      · exact fun C hC => by rw [← cls_eq n_NotFresh hC]; exact ⟨ec_NotFresh, ki_NoPlace_NotFresh⟩
      · exact fun C hC => by rw [← cls_eq n_NotNeeded hC]; exact ⟨ec_NotNeeded, ki_NoPlace_NotNeeded⟩
      · exact fun C hC => by rw [← cls_eq n_NotOpen hC]; exact ⟨ec_NotOpen, ki_NoPlace_NotOpen⟩
      · exact fun C hC => by rw [← cls_eq n_NotPart hC]; exact ⟨ec_NotPart, ki_NoPlace_NotPart⟩
      · exact fun C hC => by rw [← cls_eq n_NotSettled hC]; exact ⟨ec_NotSettled, ki_NoPlace_NotSettled⟩
      · exact fun C hC => by rw [← cls_eq n_NotSource hC]; exact ⟨ec_NotSource, ki_NoPlace_NotSource⟩
      · exact fun C hC => by rw [← cls_eq n_Rewritten hC]; exact ⟨ec_Rewritten, ki_NoPlace_Rewritten⟩
      · exact fun C hC => by rw [← cls_eq n_Stuck hC]; exact ⟨ec_Stuck, ki_NoPlace_Stuck⟩
      · exact fun C hC => by rw [← cls_eq n_Taken hC]; exact ⟨ec_Taken, ki_NoPlace_Taken⟩),
    by
      obtain ⟨ec_BadEntry, ec_BadKind, ec_BadLine, ec_BadName, ec_BadTree, ec_Clash, ec_Conflict, ec_Failed, ec_Gap, ec_Halted, ec_Mismatch, ec_NoPlace, ec_NoRow, ec_NoTarget, ec_NoVersion, ec_NotAsked, ec_NotCause, ec_NotFresh, ec_NotNeeded, ec_NotOpen, ec_NotPart, ec_NotSettled, ec_NotSource, ec_Rewritten, ec_Stuck, ec_Taken⟩ := ec; obtain ⟨ki_NoRow_BadEntry, ki_NoRow_BadKind, ki_NoRow_BadLine, ki_NoRow_BadName, ki_NoRow_BadTree, ki_NoRow_Clash, ki_NoRow_Conflict, ki_NoRow_Failed, ki_NoRow_Gap, ki_NoRow_Halted, ki_NoRow_Mismatch, ki_NoRow_NoPlace, ki_NoRow_NoRow, ki_NoRow_NoTarget, ki_NoRow_NoVersion, ki_NoRow_NotAsked, ki_NoRow_NotCause, ki_NoRow_NotFresh, ki_NoRow_NotNeeded, ki_NoRow_NotOpen, ki_NoRow_NotPart, ki_NoRow_NotSettled, ki_NoRow_NotSource, ki_NoRow_Rewritten, ki_NoRow_Stuck, ki_NoRow_Taken⟩ := ki_NoRow; 
      exact tab_one (P := fun c b => ∀ C, ClsAt K c C → ExcC K C ∧ PySem.W.kitOne K (.ref C) (.ref c_NoRow) = some b) (fun p hp => by
      simp only [List.mem_cons, List.not_mem_nil, or_false] at hp
      rcases hp with rfl | rfl | rfl | rfl | rfl | rfl | rfl | rfl | rfl | rfl | rfl | rfl | rfl | rfl | rfl | rfl | rfl | rfl | rfl | rfl | rfl | rfl | rfl | rfl | rfl | rfl
      · exact fun C hC => by rw [← cls_eq n_BadEntry hC]; exact ⟨ec_BadEntry, ki_NoRow_BadEntry⟩
      · exact fun C hC => by rw [← cls_eq n_BadKind hC]; exact ⟨ec_BadKind, ki_NoRow_BadKind⟩
      · exact fun C hC => by rw [← cls_eq n_BadLine hC]; exact ⟨ec_BadLine, ki_NoRow_BadLine⟩
      · exact fun C hC => by rw [← cls_eq n_BadName hC]; exact ⟨ec_BadName, ki_NoRow_BadName⟩
      · exact fun C hC => by rw [← cls_eq n_BadTree hC]; exact ⟨ec_BadTree, ki_NoRow_BadTree⟩
      · exact fun C hC => by rw [← cls_eq n_Clash hC]; exact ⟨ec_Clash, ki_NoRow_Clash⟩
      · exact fun C hC => by rw [← cls_eq n_Conflict hC]; exact ⟨ec_Conflict, ki_NoRow_Conflict⟩
      · exact fun C hC => by rw [← cls_eq n_Failed hC]; exact ⟨ec_Failed, ki_NoRow_Failed⟩
      · exact fun C hC => by rw [← cls_eq n_Gap hC]; exact ⟨ec_Gap, ki_NoRow_Gap⟩
      · exact fun C hC => by rw [← cls_eq n_Halted hC]; exact ⟨ec_Halted, ki_NoRow_Halted⟩
      · exact fun C hC => by rw [← cls_eq n_Mismatch hC]; exact ⟨ec_Mismatch, ki_NoRow_Mismatch⟩
      · exact fun C hC => by rw [← cls_eq n_NoPlace hC]; exact ⟨ec_NoPlace, ki_NoRow_NoPlace⟩
      · exact fun C hC => by rw [← cls_eq n_NoRow hC]; exact ⟨ec_NoRow, ki_NoRow_NoRow⟩
      · exact fun C hC => by rw [← cls_eq n_NoTarget hC]; exact ⟨ec_NoTarget, ki_NoRow_NoTarget⟩
      · exact fun C hC => by rw [← cls_eq n_NoVersion hC]; exact ⟨ec_NoVersion, ki_NoRow_NoVersion⟩
      · exact fun C hC => by rw [← cls_eq n_NotAsked hC]; exact ⟨ec_NotAsked, ki_NoRow_NotAsked⟩
      · exact fun C hC => by rw [← cls_eq n_NotCause hC]; exact ⟨ec_NotCause, ki_NoRow_NotCause⟩
      · exact fun C hC => by rw [← cls_eq n_NotFresh hC]; exact ⟨ec_NotFresh, ki_NoRow_NotFresh⟩
      · exact fun C hC => by rw [← cls_eq n_NotNeeded hC]; exact ⟨ec_NotNeeded, ki_NoRow_NotNeeded⟩
      · exact fun C hC => by rw [← cls_eq n_NotOpen hC]; exact ⟨ec_NotOpen, ki_NoRow_NotOpen⟩
      · exact fun C hC => by rw [← cls_eq n_NotPart hC]; exact ⟨ec_NotPart, ki_NoRow_NotPart⟩
      · exact fun C hC => by rw [← cls_eq n_NotSettled hC]; exact ⟨ec_NotSettled, ki_NoRow_NotSettled⟩
      · exact fun C hC => by rw [← cls_eq n_NotSource hC]; exact ⟨ec_NotSource, ki_NoRow_NotSource⟩
      · exact fun C hC => by rw [← cls_eq n_Rewritten hC]; exact ⟨ec_Rewritten, ki_NoRow_Rewritten⟩
      · exact fun C hC => by rw [← cls_eq n_Stuck hC]; exact ⟨ec_Stuck, ki_NoRow_Stuck⟩
      · exact fun C hC => by rw [← cls_eq n_Taken hC]; exact ⟨ec_Taken, ki_NoRow_Taken⟩),
    by
      obtain ⟨ec_BadEntry, ec_BadKind, ec_BadLine, ec_BadName, ec_BadTree, ec_Clash, ec_Conflict, ec_Failed, ec_Gap, ec_Halted, ec_Mismatch, ec_NoPlace, ec_NoRow, ec_NoTarget, ec_NoVersion, ec_NotAsked, ec_NotCause, ec_NotFresh, ec_NotNeeded, ec_NotOpen, ec_NotPart, ec_NotSettled, ec_NotSource, ec_Rewritten, ec_Stuck, ec_Taken⟩ := ec; obtain ⟨ki_NoTarget_BadEntry, ki_NoTarget_BadKind, ki_NoTarget_BadLine, ki_NoTarget_BadName, ki_NoTarget_BadTree, ki_NoTarget_Clash, ki_NoTarget_Conflict, ki_NoTarget_Failed, ki_NoTarget_Gap, ki_NoTarget_Halted, ki_NoTarget_Mismatch, ki_NoTarget_NoPlace, ki_NoTarget_NoRow, ki_NoTarget_NoTarget, ki_NoTarget_NoVersion, ki_NoTarget_NotAsked, ki_NoTarget_NotCause, ki_NoTarget_NotFresh, ki_NoTarget_NotNeeded, ki_NoTarget_NotOpen, ki_NoTarget_NotPart, ki_NoTarget_NotSettled, ki_NoTarget_NotSource, ki_NoTarget_Rewritten, ki_NoTarget_Stuck, ki_NoTarget_Taken⟩ := ki_NoTarget; 
      exact tab_one (P := fun c b => ∀ C, ClsAt K c C → ExcC K C ∧ PySem.W.kitOne K (.ref C) (.ref c_NoTarget) = some b) (fun p hp => by
      simp only [List.mem_cons, List.not_mem_nil, or_false] at hp
      rcases hp with rfl | rfl | rfl | rfl | rfl | rfl | rfl | rfl | rfl | rfl | rfl | rfl | rfl | rfl | rfl | rfl | rfl | rfl | rfl | rfl | rfl | rfl | rfl | rfl | rfl | rfl
      · exact fun C hC => by rw [← cls_eq n_BadEntry hC]; exact ⟨ec_BadEntry, ki_NoTarget_BadEntry⟩
      · exact fun C hC => by rw [← cls_eq n_BadKind hC]; exact ⟨ec_BadKind, ki_NoTarget_BadKind⟩
      · exact fun C hC => by rw [← cls_eq n_BadLine hC]; exact ⟨ec_BadLine, ki_NoTarget_BadLine⟩
      · exact fun C hC => by rw [← cls_eq n_BadName hC]; exact ⟨ec_BadName, ki_NoTarget_BadName⟩
      · exact fun C hC => by rw [← cls_eq n_BadTree hC]; exact ⟨ec_BadTree, ki_NoTarget_BadTree⟩
      · exact fun C hC => by rw [← cls_eq n_Clash hC]; exact ⟨ec_Clash, ki_NoTarget_Clash⟩
      · exact fun C hC => by rw [← cls_eq n_Conflict hC]; exact ⟨ec_Conflict, ki_NoTarget_Conflict⟩
      · exact fun C hC => by rw [← cls_eq n_Failed hC]; exact ⟨ec_Failed, ki_NoTarget_Failed⟩
      · exact fun C hC => by rw [← cls_eq n_Gap hC]; exact ⟨ec_Gap, ki_NoTarget_Gap⟩
      · exact fun C hC => by rw [← cls_eq n_Halted hC]; exact ⟨ec_Halted, ki_NoTarget_Halted⟩
      · exact fun C hC => by rw [← cls_eq n_Mismatch hC]; exact ⟨ec_Mismatch, ki_NoTarget_Mismatch⟩
      · exact fun C hC => by rw [← cls_eq n_NoPlace hC]; exact ⟨ec_NoPlace, ki_NoTarget_NoPlace⟩
      · exact fun C hC => by rw [← cls_eq n_NoRow hC]; exact ⟨ec_NoRow, ki_NoTarget_NoRow⟩
      · exact fun C hC => by rw [← cls_eq n_NoTarget hC]; exact ⟨ec_NoTarget, ki_NoTarget_NoTarget⟩
      · exact fun C hC => by rw [← cls_eq n_NoVersion hC]; exact ⟨ec_NoVersion, ki_NoTarget_NoVersion⟩
      · exact fun C hC => by rw [← cls_eq n_NotAsked hC]; exact ⟨ec_NotAsked, ki_NoTarget_NotAsked⟩
      · exact fun C hC => by rw [← cls_eq n_NotCause hC]; exact ⟨ec_NotCause, ki_NoTarget_NotCause⟩
      · exact fun C hC => by rw [← cls_eq n_NotFresh hC]; exact ⟨ec_NotFresh, ki_NoTarget_NotFresh⟩
      · exact fun C hC => by rw [← cls_eq n_NotNeeded hC]; exact ⟨ec_NotNeeded, ki_NoTarget_NotNeeded⟩
      · exact fun C hC => by rw [← cls_eq n_NotOpen hC]; exact ⟨ec_NotOpen, ki_NoTarget_NotOpen⟩
      · exact fun C hC => by rw [← cls_eq n_NotPart hC]; exact ⟨ec_NotPart, ki_NoTarget_NotPart⟩
      · exact fun C hC => by rw [← cls_eq n_NotSettled hC]; exact ⟨ec_NotSettled, ki_NoTarget_NotSettled⟩
      · exact fun C hC => by rw [← cls_eq n_NotSource hC]; exact ⟨ec_NotSource, ki_NoTarget_NotSource⟩
      · exact fun C hC => by rw [← cls_eq n_Rewritten hC]; exact ⟨ec_Rewritten, ki_NoTarget_Rewritten⟩
      · exact fun C hC => by rw [← cls_eq n_Stuck hC]; exact ⟨ec_Stuck, ki_NoTarget_Stuck⟩
      · exact fun C hC => by rw [← cls_eq n_Taken hC]; exact ⟨ec_Taken, ki_NoTarget_Taken⟩),
    by
      obtain ⟨ec_BadEntry, ec_BadKind, ec_BadLine, ec_BadName, ec_BadTree, ec_Clash, ec_Conflict, ec_Failed, ec_Gap, ec_Halted, ec_Mismatch, ec_NoPlace, ec_NoRow, ec_NoTarget, ec_NoVersion, ec_NotAsked, ec_NotCause, ec_NotFresh, ec_NotNeeded, ec_NotOpen, ec_NotPart, ec_NotSettled, ec_NotSource, ec_Rewritten, ec_Stuck, ec_Taken⟩ := ec; obtain ⟨ki_NoVersion_BadEntry, ki_NoVersion_BadKind, ki_NoVersion_BadLine, ki_NoVersion_BadName, ki_NoVersion_BadTree, ki_NoVersion_Clash, ki_NoVersion_Conflict, ki_NoVersion_Failed, ki_NoVersion_Gap, ki_NoVersion_Halted, ki_NoVersion_Mismatch, ki_NoVersion_NoPlace, ki_NoVersion_NoRow, ki_NoVersion_NoTarget, ki_NoVersion_NoVersion, ki_NoVersion_NotAsked, ki_NoVersion_NotCause, ki_NoVersion_NotFresh, ki_NoVersion_NotNeeded, ki_NoVersion_NotOpen, ki_NoVersion_NotPart, ki_NoVersion_NotSettled, ki_NoVersion_NotSource, ki_NoVersion_Rewritten, ki_NoVersion_Stuck, ki_NoVersion_Taken⟩ := ki_NoVersion; 
      exact tab_one (P := fun c b => ∀ C, ClsAt K c C → ExcC K C ∧ PySem.W.kitOne K (.ref C) (.ref c_NoVersion) = some b) (fun p hp => by
      simp only [List.mem_cons, List.not_mem_nil, or_false] at hp
      rcases hp with rfl | rfl | rfl | rfl | rfl | rfl | rfl | rfl | rfl | rfl | rfl | rfl | rfl | rfl | rfl | rfl | rfl | rfl | rfl | rfl | rfl | rfl | rfl | rfl | rfl | rfl
      · exact fun C hC => by rw [← cls_eq n_BadEntry hC]; exact ⟨ec_BadEntry, ki_NoVersion_BadEntry⟩
      · exact fun C hC => by rw [← cls_eq n_BadKind hC]; exact ⟨ec_BadKind, ki_NoVersion_BadKind⟩
      · exact fun C hC => by rw [← cls_eq n_BadLine hC]; exact ⟨ec_BadLine, ki_NoVersion_BadLine⟩
      · exact fun C hC => by rw [← cls_eq n_BadName hC]; exact ⟨ec_BadName, ki_NoVersion_BadName⟩
      · exact fun C hC => by rw [← cls_eq n_BadTree hC]; exact ⟨ec_BadTree, ki_NoVersion_BadTree⟩
      · exact fun C hC => by rw [← cls_eq n_Clash hC]; exact ⟨ec_Clash, ki_NoVersion_Clash⟩
      · exact fun C hC => by rw [← cls_eq n_Conflict hC]; exact ⟨ec_Conflict, ki_NoVersion_Conflict⟩
      · exact fun C hC => by rw [← cls_eq n_Failed hC]; exact ⟨ec_Failed, ki_NoVersion_Failed⟩
      · exact fun C hC => by rw [← cls_eq n_Gap hC]; exact ⟨ec_Gap, ki_NoVersion_Gap⟩
      · exact fun C hC => by rw [← cls_eq n_Halted hC]; exact ⟨ec_Halted, ki_NoVersion_Halted⟩
      · exact fun C hC => by rw [← cls_eq n_Mismatch hC]; exact ⟨ec_Mismatch, ki_NoVersion_Mismatch⟩
      · exact fun C hC => by rw [← cls_eq n_NoPlace hC]; exact ⟨ec_NoPlace, ki_NoVersion_NoPlace⟩
      · exact fun C hC => by rw [← cls_eq n_NoRow hC]; exact ⟨ec_NoRow, ki_NoVersion_NoRow⟩
      · exact fun C hC => by rw [← cls_eq n_NoTarget hC]; exact ⟨ec_NoTarget, ki_NoVersion_NoTarget⟩
      · exact fun C hC => by rw [← cls_eq n_NoVersion hC]; exact ⟨ec_NoVersion, ki_NoVersion_NoVersion⟩
      · exact fun C hC => by rw [← cls_eq n_NotAsked hC]; exact ⟨ec_NotAsked, ki_NoVersion_NotAsked⟩
      · exact fun C hC => by rw [← cls_eq n_NotCause hC]; exact ⟨ec_NotCause, ki_NoVersion_NotCause⟩
      · exact fun C hC => by rw [← cls_eq n_NotFresh hC]; exact ⟨ec_NotFresh, ki_NoVersion_NotFresh⟩
      · exact fun C hC => by rw [← cls_eq n_NotNeeded hC]; exact ⟨ec_NotNeeded, ki_NoVersion_NotNeeded⟩
      · exact fun C hC => by rw [← cls_eq n_NotOpen hC]; exact ⟨ec_NotOpen, ki_NoVersion_NotOpen⟩
      · exact fun C hC => by rw [← cls_eq n_NotPart hC]; exact ⟨ec_NotPart, ki_NoVersion_NotPart⟩
      · exact fun C hC => by rw [← cls_eq n_NotSettled hC]; exact ⟨ec_NotSettled, ki_NoVersion_NotSettled⟩
      · exact fun C hC => by rw [← cls_eq n_NotSource hC]; exact ⟨ec_NotSource, ki_NoVersion_NotSource⟩
      · exact fun C hC => by rw [← cls_eq n_Rewritten hC]; exact ⟨ec_Rewritten, ki_NoVersion_Rewritten⟩
      · exact fun C hC => by rw [← cls_eq n_Stuck hC]; exact ⟨ec_Stuck, ki_NoVersion_Stuck⟩
      · exact fun C hC => by rw [← cls_eq n_Taken hC]; exact ⟨ec_Taken, ki_NoVersion_Taken⟩),
    by
      obtain ⟨ec_BadEntry, ec_BadKind, ec_BadLine, ec_BadName, ec_BadTree, ec_Clash, ec_Conflict, ec_Failed, ec_Gap, ec_Halted, ec_Mismatch, ec_NoPlace, ec_NoRow, ec_NoTarget, ec_NoVersion, ec_NotAsked, ec_NotCause, ec_NotFresh, ec_NotNeeded, ec_NotOpen, ec_NotPart, ec_NotSettled, ec_NotSource, ec_Rewritten, ec_Stuck, ec_Taken⟩ := ec; obtain ⟨ki_NotAsked_BadEntry, ki_NotAsked_BadKind, ki_NotAsked_BadLine, ki_NotAsked_BadName, ki_NotAsked_BadTree, ki_NotAsked_Clash, ki_NotAsked_Conflict, ki_NotAsked_Failed, ki_NotAsked_Gap, ki_NotAsked_Halted, ki_NotAsked_Mismatch, ki_NotAsked_NoPlace, ki_NotAsked_NoRow, ki_NotAsked_NoTarget, ki_NotAsked_NoVersion, ki_NotAsked_NotAsked, ki_NotAsked_NotCause, ki_NotAsked_NotFresh, ki_NotAsked_NotNeeded, ki_NotAsked_NotOpen, ki_NotAsked_NotPart, ki_NotAsked_NotSettled, ki_NotAsked_NotSource, ki_NotAsked_Rewritten, ki_NotAsked_Stuck, ki_NotAsked_Taken⟩ := ki_NotAsked; 
      exact tab_one (P := fun c b => ∀ C, ClsAt K c C → ExcC K C ∧ PySem.W.kitOne K (.ref C) (.ref c_NotAsked) = some b) (fun p hp => by
      simp only [List.mem_cons, List.not_mem_nil, or_false] at hp
      rcases hp with rfl | rfl | rfl | rfl | rfl | rfl | rfl | rfl | rfl | rfl | rfl | rfl | rfl | rfl | rfl | rfl | rfl | rfl | rfl | rfl | rfl | rfl | rfl | rfl | rfl | rfl
      · exact fun C hC => by rw [← cls_eq n_BadEntry hC]; exact ⟨ec_BadEntry, ki_NotAsked_BadEntry⟩
      · exact fun C hC => by rw [← cls_eq n_BadKind hC]; exact ⟨ec_BadKind, ki_NotAsked_BadKind⟩
      · exact fun C hC => by rw [← cls_eq n_BadLine hC]; exact ⟨ec_BadLine, ki_NotAsked_BadLine⟩
      · exact fun C hC => by rw [← cls_eq n_BadName hC]; exact ⟨ec_BadName, ki_NotAsked_BadName⟩
      · exact fun C hC => by rw [← cls_eq n_BadTree hC]; exact ⟨ec_BadTree, ki_NotAsked_BadTree⟩
      · exact fun C hC => by rw [← cls_eq n_Clash hC]; exact ⟨ec_Clash, ki_NotAsked_Clash⟩
      · exact fun C hC => by rw [← cls_eq n_Conflict hC]; exact ⟨ec_Conflict, ki_NotAsked_Conflict⟩
      · exact fun C hC => by rw [← cls_eq n_Failed hC]; exact ⟨ec_Failed, ki_NotAsked_Failed⟩
      · exact fun C hC => by rw [← cls_eq n_Gap hC]; exact ⟨ec_Gap, ki_NotAsked_Gap⟩
      · exact fun C hC => by rw [← cls_eq n_Halted hC]; exact ⟨ec_Halted, ki_NotAsked_Halted⟩
      · exact fun C hC => by rw [← cls_eq n_Mismatch hC]; exact ⟨ec_Mismatch, ki_NotAsked_Mismatch⟩
      · exact fun C hC => by rw [← cls_eq n_NoPlace hC]; exact ⟨ec_NoPlace, ki_NotAsked_NoPlace⟩
      · exact fun C hC => by rw [← cls_eq n_NoRow hC]; exact ⟨ec_NoRow, ki_NotAsked_NoRow⟩
      · exact fun C hC => by rw [← cls_eq n_NoTarget hC]; exact ⟨ec_NoTarget, ki_NotAsked_NoTarget⟩
      · exact fun C hC => by rw [← cls_eq n_NoVersion hC]; exact ⟨ec_NoVersion, ki_NotAsked_NoVersion⟩
      · exact fun C hC => by rw [← cls_eq n_NotAsked hC]; exact ⟨ec_NotAsked, ki_NotAsked_NotAsked⟩
      · exact fun C hC => by rw [← cls_eq n_NotCause hC]; exact ⟨ec_NotCause, ki_NotAsked_NotCause⟩
      · exact fun C hC => by rw [← cls_eq n_NotFresh hC]; exact ⟨ec_NotFresh, ki_NotAsked_NotFresh⟩
      · exact fun C hC => by rw [← cls_eq n_NotNeeded hC]; exact ⟨ec_NotNeeded, ki_NotAsked_NotNeeded⟩
      · exact fun C hC => by rw [← cls_eq n_NotOpen hC]; exact ⟨ec_NotOpen, ki_NotAsked_NotOpen⟩
      · exact fun C hC => by rw [← cls_eq n_NotPart hC]; exact ⟨ec_NotPart, ki_NotAsked_NotPart⟩
      · exact fun C hC => by rw [← cls_eq n_NotSettled hC]; exact ⟨ec_NotSettled, ki_NotAsked_NotSettled⟩
      · exact fun C hC => by rw [← cls_eq n_NotSource hC]; exact ⟨ec_NotSource, ki_NotAsked_NotSource⟩
      · exact fun C hC => by rw [← cls_eq n_Rewritten hC]; exact ⟨ec_Rewritten, ki_NotAsked_Rewritten⟩
      · exact fun C hC => by rw [← cls_eq n_Stuck hC]; exact ⟨ec_Stuck, ki_NotAsked_Stuck⟩
      · exact fun C hC => by rw [← cls_eq n_Taken hC]; exact ⟨ec_Taken, ki_NotAsked_Taken⟩),
    by
      obtain ⟨ec_BadEntry, ec_BadKind, ec_BadLine, ec_BadName, ec_BadTree, ec_Clash, ec_Conflict, ec_Failed, ec_Gap, ec_Halted, ec_Mismatch, ec_NoPlace, ec_NoRow, ec_NoTarget, ec_NoVersion, ec_NotAsked, ec_NotCause, ec_NotFresh, ec_NotNeeded, ec_NotOpen, ec_NotPart, ec_NotSettled, ec_NotSource, ec_Rewritten, ec_Stuck, ec_Taken⟩ := ec; obtain ⟨ki_NotCause_BadEntry, ki_NotCause_BadKind, ki_NotCause_BadLine, ki_NotCause_BadName, ki_NotCause_BadTree, ki_NotCause_Clash, ki_NotCause_Conflict, ki_NotCause_Failed, ki_NotCause_Gap, ki_NotCause_Halted, ki_NotCause_Mismatch, ki_NotCause_NoPlace, ki_NotCause_NoRow, ki_NotCause_NoTarget, ki_NotCause_NoVersion, ki_NotCause_NotAsked, ki_NotCause_NotCause, ki_NotCause_NotFresh, ki_NotCause_NotNeeded, ki_NotCause_NotOpen, ki_NotCause_NotPart, ki_NotCause_NotSettled, ki_NotCause_NotSource, ki_NotCause_Rewritten, ki_NotCause_Stuck, ki_NotCause_Taken⟩ := ki_NotCause; 
      exact tab_one (P := fun c b => ∀ C, ClsAt K c C → ExcC K C ∧ PySem.W.kitOne K (.ref C) (.ref c_NotCause) = some b) (fun p hp => by
      simp only [List.mem_cons, List.not_mem_nil, or_false] at hp
      rcases hp with rfl | rfl | rfl | rfl | rfl | rfl | rfl | rfl | rfl | rfl | rfl | rfl | rfl | rfl | rfl | rfl | rfl | rfl | rfl | rfl | rfl | rfl | rfl | rfl | rfl | rfl
      · exact fun C hC => by rw [← cls_eq n_BadEntry hC]; exact ⟨ec_BadEntry, ki_NotCause_BadEntry⟩
      · exact fun C hC => by rw [← cls_eq n_BadKind hC]; exact ⟨ec_BadKind, ki_NotCause_BadKind⟩
      · exact fun C hC => by rw [← cls_eq n_BadLine hC]; exact ⟨ec_BadLine, ki_NotCause_BadLine⟩
      · exact fun C hC => by rw [← cls_eq n_BadName hC]; exact ⟨ec_BadName, ki_NotCause_BadName⟩
      · exact fun C hC => by rw [← cls_eq n_BadTree hC]; exact ⟨ec_BadTree, ki_NotCause_BadTree⟩
      · exact fun C hC => by rw [← cls_eq n_Clash hC]; exact ⟨ec_Clash, ki_NotCause_Clash⟩
      · exact fun C hC => by rw [← cls_eq n_Conflict hC]; exact ⟨ec_Conflict, ki_NotCause_Conflict⟩
      · exact fun C hC => by rw [← cls_eq n_Failed hC]; exact ⟨ec_Failed, ki_NotCause_Failed⟩
      · exact fun C hC => by rw [← cls_eq n_Gap hC]; exact ⟨ec_Gap, ki_NotCause_Gap⟩
      · exact fun C hC => by rw [← cls_eq n_Halted hC]; exact ⟨ec_Halted, ki_NotCause_Halted⟩
      · exact fun C hC => by rw [← cls_eq n_Mismatch hC]; exact ⟨ec_Mismatch, ki_NotCause_Mismatch⟩
      · exact fun C hC => by rw [← cls_eq n_NoPlace hC]; exact ⟨ec_NoPlace, ki_NotCause_NoPlace⟩
      · exact fun C hC => by rw [← cls_eq n_NoRow hC]; exact ⟨ec_NoRow, ki_NotCause_NoRow⟩
      · exact fun C hC => by rw [← cls_eq n_NoTarget hC]; exact ⟨ec_NoTarget, ki_NotCause_NoTarget⟩
      · exact fun C hC => by rw [← cls_eq n_NoVersion hC]; exact ⟨ec_NoVersion, ki_NotCause_NoVersion⟩
      · exact fun C hC => by rw [← cls_eq n_NotAsked hC]; exact ⟨ec_NotAsked, ki_NotCause_NotAsked⟩
      · exact fun C hC => by rw [← cls_eq n_NotCause hC]; exact ⟨ec_NotCause, ki_NotCause_NotCause⟩
      · exact fun C hC => by rw [← cls_eq n_NotFresh hC]; exact ⟨ec_NotFresh, ki_NotCause_NotFresh⟩
      · exact fun C hC => by rw [← cls_eq n_NotNeeded hC]; exact ⟨ec_NotNeeded, ki_NotCause_NotNeeded⟩
      · exact fun C hC => by rw [← cls_eq n_NotOpen hC]; exact ⟨ec_NotOpen, ki_NotCause_NotOpen⟩
      · exact fun C hC => by rw [← cls_eq n_NotPart hC]; exact ⟨ec_NotPart, ki_NotCause_NotPart⟩
      · exact fun C hC => by rw [← cls_eq n_NotSettled hC]; exact ⟨ec_NotSettled, ki_NotCause_NotSettled⟩
      · exact fun C hC => by rw [← cls_eq n_NotSource hC]; exact ⟨ec_NotSource, ki_NotCause_NotSource⟩
      · exact fun C hC => by rw [← cls_eq n_Rewritten hC]; exact ⟨ec_Rewritten, ki_NotCause_Rewritten⟩
      · exact fun C hC => by rw [← cls_eq n_Stuck hC]; exact ⟨ec_Stuck, ki_NotCause_Stuck⟩
      · exact fun C hC => by rw [← cls_eq n_Taken hC]; exact ⟨ec_Taken, ki_NotCause_Taken⟩),
    by
      obtain ⟨ec_BadEntry, ec_BadKind, ec_BadLine, ec_BadName, ec_BadTree, ec_Clash, ec_Conflict, ec_Failed, ec_Gap, ec_Halted, ec_Mismatch, ec_NoPlace, ec_NoRow, ec_NoTarget, ec_NoVersion, ec_NotAsked, ec_NotCause, ec_NotFresh, ec_NotNeeded, ec_NotOpen, ec_NotPart, ec_NotSettled, ec_NotSource, ec_Rewritten, ec_Stuck, ec_Taken⟩ := ec; obtain ⟨ki_NotFresh_BadEntry, ki_NotFresh_BadKind, ki_NotFresh_BadLine, ki_NotFresh_BadName, ki_NotFresh_BadTree, ki_NotFresh_Clash, ki_NotFresh_Conflict, ki_NotFresh_Failed, ki_NotFresh_Gap, ki_NotFresh_Halted, ki_NotFresh_Mismatch, ki_NotFresh_NoPlace, ki_NotFresh_NoRow, ki_NotFresh_NoTarget, ki_NotFresh_NoVersion, ki_NotFresh_NotAsked, ki_NotFresh_NotCause, ki_NotFresh_NotFresh, ki_NotFresh_NotNeeded, ki_NotFresh_NotOpen, ki_NotFresh_NotPart, ki_NotFresh_NotSettled, ki_NotFresh_NotSource, ki_NotFresh_Rewritten, ki_NotFresh_Stuck, ki_NotFresh_Taken⟩ := ki_NotFresh; 
      exact tab_one (P := fun c b => ∀ C, ClsAt K c C → ExcC K C ∧ PySem.W.kitOne K (.ref C) (.ref c_NotFresh) = some b) (fun p hp => by
      simp only [List.mem_cons, List.not_mem_nil, or_false] at hp
      rcases hp with rfl | rfl | rfl | rfl | rfl | rfl | rfl | rfl | rfl | rfl | rfl | rfl | rfl | rfl | rfl | rfl | rfl | rfl | rfl | rfl | rfl | rfl | rfl | rfl | rfl | rfl
      · exact fun C hC => by rw [← cls_eq n_BadEntry hC]; exact ⟨ec_BadEntry, ki_NotFresh_BadEntry⟩
      · exact fun C hC => by rw [← cls_eq n_BadKind hC]; exact ⟨ec_BadKind, ki_NotFresh_BadKind⟩
      · exact fun C hC => by rw [← cls_eq n_BadLine hC]; exact ⟨ec_BadLine, ki_NotFresh_BadLine⟩
      · exact fun C hC => by rw [← cls_eq n_BadName hC]; exact ⟨ec_BadName, ki_NotFresh_BadName⟩
      · exact fun C hC => by rw [← cls_eq n_BadTree hC]; exact ⟨ec_BadTree, ki_NotFresh_BadTree⟩
      · exact fun C hC => by rw [← cls_eq n_Clash hC]; exact ⟨ec_Clash, ki_NotFresh_Clash⟩
      · exact fun C hC => by rw [← cls_eq n_Conflict hC]; exact ⟨ec_Conflict, ki_NotFresh_Conflict⟩
      · exact fun C hC => by rw [← cls_eq n_Failed hC]; exact ⟨ec_Failed, ki_NotFresh_Failed⟩
      · exact fun C hC => by rw [← cls_eq n_Gap hC]; exact ⟨ec_Gap, ki_NotFresh_Gap⟩
      · exact fun C hC => by rw [← cls_eq n_Halted hC]; exact ⟨ec_Halted, ki_NotFresh_Halted⟩
      · exact fun C hC => by rw [← cls_eq n_Mismatch hC]; exact ⟨ec_Mismatch, ki_NotFresh_Mismatch⟩
      · exact fun C hC => by rw [← cls_eq n_NoPlace hC]; exact ⟨ec_NoPlace, ki_NotFresh_NoPlace⟩
      · exact fun C hC => by rw [← cls_eq n_NoRow hC]; exact ⟨ec_NoRow, ki_NotFresh_NoRow⟩
      · exact fun C hC => by rw [← cls_eq n_NoTarget hC]; exact ⟨ec_NoTarget, ki_NotFresh_NoTarget⟩
      · exact fun C hC => by rw [← cls_eq n_NoVersion hC]; exact ⟨ec_NoVersion, ki_NotFresh_NoVersion⟩
      · exact fun C hC => by rw [← cls_eq n_NotAsked hC]; exact ⟨ec_NotAsked, ki_NotFresh_NotAsked⟩
      · exact fun C hC => by rw [← cls_eq n_NotCause hC]; exact ⟨ec_NotCause, ki_NotFresh_NotCause⟩
      · exact fun C hC => by rw [← cls_eq n_NotFresh hC]; exact ⟨ec_NotFresh, ki_NotFresh_NotFresh⟩
      · exact fun C hC => by rw [← cls_eq n_NotNeeded hC]; exact ⟨ec_NotNeeded, ki_NotFresh_NotNeeded⟩
      · exact fun C hC => by rw [← cls_eq n_NotOpen hC]; exact ⟨ec_NotOpen, ki_NotFresh_NotOpen⟩
      · exact fun C hC => by rw [← cls_eq n_NotPart hC]; exact ⟨ec_NotPart, ki_NotFresh_NotPart⟩
      · exact fun C hC => by rw [← cls_eq n_NotSettled hC]; exact ⟨ec_NotSettled, ki_NotFresh_NotSettled⟩
      · exact fun C hC => by rw [← cls_eq n_NotSource hC]; exact ⟨ec_NotSource, ki_NotFresh_NotSource⟩
      · exact fun C hC => by rw [← cls_eq n_Rewritten hC]; exact ⟨ec_Rewritten, ki_NotFresh_Rewritten⟩
      · exact fun C hC => by rw [← cls_eq n_Stuck hC]; exact ⟨ec_Stuck, ki_NotFresh_Stuck⟩
      · exact fun C hC => by rw [← cls_eq n_Taken hC]; exact ⟨ec_Taken, ki_NotFresh_Taken⟩),
    by
      obtain ⟨ec_BadEntry, ec_BadKind, ec_BadLine, ec_BadName, ec_BadTree, ec_Clash, ec_Conflict, ec_Failed, ec_Gap, ec_Halted, ec_Mismatch, ec_NoPlace, ec_NoRow, ec_NoTarget, ec_NoVersion, ec_NotAsked, ec_NotCause, ec_NotFresh, ec_NotNeeded, ec_NotOpen, ec_NotPart, ec_NotSettled, ec_NotSource, ec_Rewritten, ec_Stuck, ec_Taken⟩ := ec; obtain ⟨ki_NotNeeded_BadEntry, ki_NotNeeded_BadKind, ki_NotNeeded_BadLine, ki_NotNeeded_BadName, ki_NotNeeded_BadTree, ki_NotNeeded_Clash, ki_NotNeeded_Conflict, ki_NotNeeded_Failed, ki_NotNeeded_Gap, ki_NotNeeded_Halted, ki_NotNeeded_Mismatch, ki_NotNeeded_NoPlace, ki_NotNeeded_NoRow, ki_NotNeeded_NoTarget, ki_NotNeeded_NoVersion, ki_NotNeeded_NotAsked, ki_NotNeeded_NotCause, ki_NotNeeded_NotFresh, ki_NotNeeded_NotNeeded, ki_NotNeeded_NotOpen, ki_NotNeeded_NotPart, ki_NotNeeded_NotSettled, ki_NotNeeded_NotSource, ki_NotNeeded_Rewritten, ki_NotNeeded_Stuck, ki_NotNeeded_Taken⟩ := ki_NotNeeded; 
      exact tab_one (P := fun c b => ∀ C, ClsAt K c C → ExcC K C ∧ PySem.W.kitOne K (.ref C) (.ref c_NotNeeded) = some b) (fun p hp => by
      simp only [List.mem_cons, List.not_mem_nil, or_false] at hp
      rcases hp with rfl | rfl | rfl | rfl | rfl | rfl | rfl | rfl | rfl | rfl | rfl | rfl | rfl | rfl | rfl | rfl | rfl | rfl | rfl | rfl | rfl | rfl | rfl | rfl | rfl | rfl
      · exact fun C hC => by rw [← cls_eq n_BadEntry hC]; exact ⟨ec_BadEntry, ki_NotNeeded_BadEntry⟩
      · exact fun C hC => by rw [← cls_eq n_BadKind hC]; exact ⟨ec_BadKind, ki_NotNeeded_BadKind⟩
      · exact fun C hC => by rw [← cls_eq n_BadLine hC]; exact ⟨ec_BadLine, ki_NotNeeded_BadLine⟩
      · exact fun C hC => by rw [← cls_eq n_BadName hC]; exact ⟨ec_BadName, ki_NotNeeded_BadName⟩
      · exact fun C hC => by rw [← cls_eq n_BadTree hC]; exact ⟨ec_BadTree, ki_NotNeeded_BadTree⟩
      · exact fun C hC => by rw [← cls_eq n_Clash hC]; exact ⟨ec_Clash, ki_NotNeeded_Clash⟩
      · exact fun C hC => by rw [← cls_eq n_Conflict hC]; exact ⟨ec_Conflict, ki_NotNeeded_Conflict⟩
      · exact fun C hC => by rw [← cls_eq n_Failed hC]; exact ⟨ec_Failed, ki_NotNeeded_Failed⟩
      · exact fun C hC => by rw [← cls_eq n_Gap hC]; exact ⟨ec_Gap, ki_NotNeeded_Gap⟩
      · exact fun C hC => by rw [← cls_eq n_Halted hC]; exact ⟨ec_Halted, ki_NotNeeded_Halted⟩
      · exact fun C hC => by rw [← cls_eq n_Mismatch hC]; exact ⟨ec_Mismatch, ki_NotNeeded_Mismatch⟩
      · exact fun C hC => by rw [← cls_eq n_NoPlace hC]; exact ⟨ec_NoPlace, ki_NotNeeded_NoPlace⟩
      · exact fun C hC => by rw [← cls_eq n_NoRow hC]; exact ⟨ec_NoRow, ki_NotNeeded_NoRow⟩
      · exact fun C hC => by rw [← cls_eq n_NoTarget hC]; exact ⟨ec_NoTarget, ki_NotNeeded_NoTarget⟩
      · exact fun C hC => by rw [← cls_eq n_NoVersion hC]; exact ⟨ec_NoVersion, ki_NotNeeded_NoVersion⟩
      · exact fun C hC => by rw [← cls_eq n_NotAsked hC]; exact ⟨ec_NotAsked, ki_NotNeeded_NotAsked⟩
      · exact fun C hC => by rw [← cls_eq n_NotCause hC]; exact ⟨ec_NotCause, ki_NotNeeded_NotCause⟩
      · exact fun C hC => by rw [← cls_eq n_NotFresh hC]; exact ⟨ec_NotFresh, ki_NotNeeded_NotFresh⟩
      · exact fun C hC => by rw [← cls_eq n_NotNeeded hC]; exact ⟨ec_NotNeeded, ki_NotNeeded_NotNeeded⟩
      · exact fun C hC => by rw [← cls_eq n_NotOpen hC]; exact ⟨ec_NotOpen, ki_NotNeeded_NotOpen⟩
      · exact fun C hC => by rw [← cls_eq n_NotPart hC]; exact ⟨ec_NotPart, ki_NotNeeded_NotPart⟩
      · exact fun C hC => by rw [← cls_eq n_NotSettled hC]; exact ⟨ec_NotSettled, ki_NotNeeded_NotSettled⟩
      · exact fun C hC => by rw [← cls_eq n_NotSource hC]; exact ⟨ec_NotSource, ki_NotNeeded_NotSource⟩
      · exact fun C hC => by rw [← cls_eq n_Rewritten hC]; exact ⟨ec_Rewritten, ki_NotNeeded_Rewritten⟩
      · exact fun C hC => by rw [← cls_eq n_Stuck hC]; exact ⟨ec_Stuck, ki_NotNeeded_Stuck⟩
      · exact fun C hC => by rw [← cls_eq n_Taken hC]; exact ⟨ec_Taken, ki_NotNeeded_Taken⟩),
    by
      obtain ⟨ec_BadEntry, ec_BadKind, ec_BadLine, ec_BadName, ec_BadTree, ec_Clash, ec_Conflict, ec_Failed, ec_Gap, ec_Halted, ec_Mismatch, ec_NoPlace, ec_NoRow, ec_NoTarget, ec_NoVersion, ec_NotAsked, ec_NotCause, ec_NotFresh, ec_NotNeeded, ec_NotOpen, ec_NotPart, ec_NotSettled, ec_NotSource, ec_Rewritten, ec_Stuck, ec_Taken⟩ := ec; obtain ⟨ki_NotOpen_BadEntry, ki_NotOpen_BadKind, ki_NotOpen_BadLine, ki_NotOpen_BadName, ki_NotOpen_BadTree, ki_NotOpen_Clash, ki_NotOpen_Conflict, ki_NotOpen_Failed, ki_NotOpen_Gap, ki_NotOpen_Halted, ki_NotOpen_Mismatch, ki_NotOpen_NoPlace, ki_NotOpen_NoRow, ki_NotOpen_NoTarget, ki_NotOpen_NoVersion, ki_NotOpen_NotAsked, ki_NotOpen_NotCause, ki_NotOpen_NotFresh, ki_NotOpen_NotNeeded, ki_NotOpen_NotOpen, ki_NotOpen_NotPart, ki_NotOpen_NotSettled, ki_NotOpen_NotSource, ki_NotOpen_Rewritten, ki_NotOpen_Stuck, ki_NotOpen_Taken⟩ := ki_NotOpen; 
      exact tab_one (P := fun c b => ∀ C, ClsAt K c C → ExcC K C ∧ PySem.W.kitOne K (.ref C) (.ref c_NotOpen) = some b) (fun p hp => by
      simp only [List.mem_cons, List.not_mem_nil, or_false] at hp
      rcases hp with rfl | rfl | rfl | rfl | rfl | rfl | rfl | rfl | rfl | rfl | rfl | rfl | rfl | rfl | rfl | rfl | rfl | rfl | rfl | rfl | rfl | rfl | rfl | rfl | rfl | rfl
      · exact fun C hC => by rw [← cls_eq n_BadEntry hC]; exact ⟨ec_BadEntry, ki_NotOpen_BadEntry⟩
      · exact fun C hC => by rw [← cls_eq n_BadKind hC]; exact ⟨ec_BadKind, ki_NotOpen_BadKind⟩
      · exact fun C hC => by rw [← cls_eq n_BadLine hC]; exact ⟨ec_BadLine, ki_NotOpen_BadLine⟩
      · exact fun C hC => by rw [← cls_eq n_BadName hC]; exact ⟨ec_BadName, ki_NotOpen_BadName⟩
      · exact fun C hC => by rw [← cls_eq n_BadTree hC]; exact ⟨ec_BadTree, ki_NotOpen_BadTree⟩
      · exact fun C hC => by rw [← cls_eq n_Clash hC]; exact ⟨ec_Clash, ki_NotOpen_Clash⟩
      · exact fun C hC => by rw [← cls_eq n_Conflict hC]; exact ⟨ec_Conflict, ki_NotOpen_Conflict⟩
      · exact fun C hC => by rw [← cls_eq n_Failed hC]; exact ⟨ec_Failed, ki_NotOpen_Failed⟩
      · exact fun C hC => by rw [← cls_eq n_Gap hC]; exact ⟨ec_Gap, ki_NotOpen_Gap⟩
      · exact fun C hC => by rw [← cls_eq n_Halted hC]; exact ⟨ec_Halted, ki_NotOpen_Halted⟩
      · exact fun C hC => by rw [← cls_eq n_Mismatch hC]; exact ⟨ec_Mismatch, ki_NotOpen_Mismatch⟩
      · exact fun C hC => by rw [← cls_eq n_NoPlace hC]; exact ⟨ec_NoPlace, ki_NotOpen_NoPlace⟩
      · exact fun C hC => by rw [← cls_eq n_NoRow hC]; exact ⟨ec_NoRow, ki_NotOpen_NoRow⟩
      · exact fun C hC => by rw [← cls_eq n_NoTarget hC]; exact ⟨ec_NoTarget, ki_NotOpen_NoTarget⟩
      · exact fun C hC => by rw [← cls_eq n_NoVersion hC]; exact ⟨ec_NoVersion, ki_NotOpen_NoVersion⟩
      · exact fun C hC => by rw [← cls_eq n_NotAsked hC]; exact ⟨ec_NotAsked, ki_NotOpen_NotAsked⟩
      · exact fun C hC => by rw [← cls_eq n_NotCause hC]; exact ⟨ec_NotCause, ki_NotOpen_NotCause⟩
      · exact fun C hC => by rw [← cls_eq n_NotFresh hC]; exact ⟨ec_NotFresh, ki_NotOpen_NotFresh⟩
      · exact fun C hC => by rw [← cls_eq n_NotNeeded hC]; exact ⟨ec_NotNeeded, ki_NotOpen_NotNeeded⟩
      · exact fun C hC => by rw [← cls_eq n_NotOpen hC]; exact ⟨ec_NotOpen, ki_NotOpen_NotOpen⟩
      · exact fun C hC => by rw [← cls_eq n_NotPart hC]; exact ⟨ec_NotPart, ki_NotOpen_NotPart⟩
      · exact fun C hC => by rw [← cls_eq n_NotSettled hC]; exact ⟨ec_NotSettled, ki_NotOpen_NotSettled⟩
      · exact fun C hC => by rw [← cls_eq n_NotSource hC]; exact ⟨ec_NotSource, ki_NotOpen_NotSource⟩
      · exact fun C hC => by rw [← cls_eq n_Rewritten hC]; exact ⟨ec_Rewritten, ki_NotOpen_Rewritten⟩
      · exact fun C hC => by rw [← cls_eq n_Stuck hC]; exact ⟨ec_Stuck, ki_NotOpen_Stuck⟩
      · exact fun C hC => by rw [← cls_eq n_Taken hC]; exact ⟨ec_Taken, ki_NotOpen_Taken⟩),
    by
      obtain ⟨ec_BadEntry, ec_BadKind, ec_BadLine, ec_BadName, ec_BadTree, ec_Clash, ec_Conflict, ec_Failed, ec_Gap, ec_Halted, ec_Mismatch, ec_NoPlace, ec_NoRow, ec_NoTarget, ec_NoVersion, ec_NotAsked, ec_NotCause, ec_NotFresh, ec_NotNeeded, ec_NotOpen, ec_NotPart, ec_NotSettled, ec_NotSource, ec_Rewritten, ec_Stuck, ec_Taken⟩ := ec; obtain ⟨ki_NotPart_BadEntry, ki_NotPart_BadKind, ki_NotPart_BadLine, ki_NotPart_BadName, ki_NotPart_BadTree, ki_NotPart_Clash, ki_NotPart_Conflict, ki_NotPart_Failed, ki_NotPart_Gap, ki_NotPart_Halted, ki_NotPart_Mismatch, ki_NotPart_NoPlace, ki_NotPart_NoRow, ki_NotPart_NoTarget, ki_NotPart_NoVersion, ki_NotPart_NotAsked, ki_NotPart_NotCause, ki_NotPart_NotFresh, ki_NotPart_NotNeeded, ki_NotPart_NotOpen, ki_NotPart_NotPart, ki_NotPart_NotSettled, ki_NotPart_NotSource, ki_NotPart_Rewritten, ki_NotPart_Stuck, ki_NotPart_Taken⟩ := ki_NotPart; 
      exact tab_one (P := fun c b => ∀ C, ClsAt K c C → ExcC K C ∧ PySem.W.kitOne K (.ref C) (.ref c_NotPart) = some b) (fun p hp => by
      simp only [List.mem_cons, List.not_mem_nil, or_false] at hp
      rcases hp with rfl | rfl | rfl | rfl | rfl | rfl | rfl | rfl | rfl | rfl | rfl | rfl | rfl | rfl | rfl | rfl | rfl | rfl | rfl | rfl | rfl | rfl | rfl | rfl | rfl | rfl
      · exact fun C hC => by rw [← cls_eq n_BadEntry hC]; exact ⟨ec_BadEntry, ki_NotPart_BadEntry⟩
      · exact fun C hC => by rw [← cls_eq n_BadKind hC]; exact ⟨ec_BadKind, ki_NotPart_BadKind⟩
      · exact fun C hC => by rw [← cls_eq n_BadLine hC]; exact ⟨ec_BadLine, ki_NotPart_BadLine⟩
      · exact fun C hC => by rw [← cls_eq n_BadName hC]; exact ⟨ec_BadName, ki_NotPart_BadName⟩
      · exact fun C hC => by rw [← cls_eq n_BadTree hC]; exact ⟨ec_BadTree, ki_NotPart_BadTree⟩
      · exact fun C hC => by rw [← cls_eq n_Clash hC]; exact ⟨ec_Clash, ki_NotPart_Clash⟩
      · exact fun C hC => by rw [← cls_eq n_Conflict hC]; exact ⟨ec_Conflict, ki_NotPart_Conflict⟩
      · exact fun C hC => by rw [← cls_eq n_Failed hC]; exact ⟨ec_Failed, ki_NotPart_Failed⟩
      · exact fun C hC => by rw [← cls_eq n_Gap hC]; exact ⟨ec_Gap, ki_NotPart_Gap⟩
      · exact fun C hC => by rw [← cls_eq n_Halted hC]; exact ⟨ec_Halted, ki_NotPart_Halted⟩
      · exact fun C hC => by rw [← cls_eq n_Mismatch hC]; exact ⟨ec_Mismatch, ki_NotPart_Mismatch⟩
      · exact fun C hC => by rw [← cls_eq n_NoPlace hC]; exact ⟨ec_NoPlace, ki_NotPart_NoPlace⟩
      · exact fun C hC => by rw [← cls_eq n_NoRow hC]; exact ⟨ec_NoRow, ki_NotPart_NoRow⟩
      · exact fun C hC => by rw [← cls_eq n_NoTarget hC]; exact ⟨ec_NoTarget, ki_NotPart_NoTarget⟩
      · exact fun C hC => by rw [← cls_eq n_NoVersion hC]; exact ⟨ec_NoVersion, ki_NotPart_NoVersion⟩
      · exact fun C hC => by rw [← cls_eq n_NotAsked hC]; exact ⟨ec_NotAsked, ki_NotPart_NotAsked⟩
      · exact fun C hC => by rw [← cls_eq n_NotCause hC]; exact ⟨ec_NotCause, ki_NotPart_NotCause⟩
      · exact fun C hC => by rw [← cls_eq n_NotFresh hC]; exact ⟨ec_NotFresh, ki_NotPart_NotFresh⟩
      · exact fun C hC => by rw [← cls_eq n_NotNeeded hC]; exact ⟨ec_NotNeeded, ki_NotPart_NotNeeded⟩
      · exact fun C hC => by rw [← cls_eq n_NotOpen hC]; exact ⟨ec_NotOpen, ki_NotPart_NotOpen⟩
      · exact fun C hC => by rw [← cls_eq n_NotPart hC]; exact ⟨ec_NotPart, ki_NotPart_NotPart⟩
      · exact fun C hC => by rw [← cls_eq n_NotSettled hC]; exact ⟨ec_NotSettled, ki_NotPart_NotSettled⟩
      · exact fun C hC => by rw [← cls_eq n_NotSource hC]; exact ⟨ec_NotSource, ki_NotPart_NotSource⟩
      · exact fun C hC => by rw [← cls_eq n_Rewritten hC]; exact ⟨ec_Rewritten, ki_NotPart_Rewritten⟩
      · exact fun C hC => by rw [← cls_eq n_Stuck hC]; exact ⟨ec_Stuck, ki_NotPart_Stuck⟩
      · exact fun C hC => by rw [← cls_eq n_Taken hC]; exact ⟨ec_Taken, ki_NotPart_Taken⟩),
    by
      obtain ⟨ec_BadEntry, ec_BadKind, ec_BadLine, ec_BadName, ec_BadTree, ec_Clash, ec_Conflict, ec_Failed, ec_Gap, ec_Halted, ec_Mismatch, ec_NoPlace, ec_NoRow, ec_NoTarget, ec_NoVersion, ec_NotAsked, ec_NotCause, ec_NotFresh, ec_NotNeeded, ec_NotOpen, ec_NotPart, ec_NotSettled, ec_NotSource, ec_Rewritten, ec_Stuck, ec_Taken⟩ := ec; obtain ⟨ki_NotSettled_BadEntry, ki_NotSettled_BadKind, ki_NotSettled_BadLine, ki_NotSettled_BadName, ki_NotSettled_BadTree, ki_NotSettled_Clash, ki_NotSettled_Conflict, ki_NotSettled_Failed, ki_NotSettled_Gap, ki_NotSettled_Halted, ki_NotSettled_Mismatch, ki_NotSettled_NoPlace, ki_NotSettled_NoRow, ki_NotSettled_NoTarget, ki_NotSettled_NoVersion, ki_NotSettled_NotAsked, ki_NotSettled_NotCause, ki_NotSettled_NotFresh, ki_NotSettled_NotNeeded, ki_NotSettled_NotOpen, ki_NotSettled_NotPart, ki_NotSettled_NotSettled, ki_NotSettled_NotSource, ki_NotSettled_Rewritten, ki_NotSettled_Stuck, ki_NotSettled_Taken⟩ := ki_NotSettled; 
      exact tab_one (P := fun c b => ∀ C, ClsAt K c C → ExcC K C ∧ PySem.W.kitOne K (.ref C) (.ref c_NotSettled) = some b) (fun p hp => by
      simp only [List.mem_cons, List.not_mem_nil, or_false] at hp
      rcases hp with rfl | rfl | rfl | rfl | rfl | rfl | rfl | rfl | rfl | rfl | rfl | rfl | rfl | rfl | rfl | rfl | rfl | rfl | rfl | rfl | rfl | rfl | rfl | rfl | rfl | rfl
      · exact fun C hC => by rw [← cls_eq n_BadEntry hC]; exact ⟨ec_BadEntry, ki_NotSettled_BadEntry⟩
      · exact fun C hC => by rw [← cls_eq n_BadKind hC]; exact ⟨ec_BadKind, ki_NotSettled_BadKind⟩
      · exact fun C hC => by rw [← cls_eq n_BadLine hC]; exact ⟨ec_BadLine, ki_NotSettled_BadLine⟩
      · exact fun C hC => by rw [← cls_eq n_BadName hC]; exact ⟨ec_BadName, ki_NotSettled_BadName⟩
      · exact fun C hC => by rw [← cls_eq n_BadTree hC]; exact ⟨ec_BadTree, ki_NotSettled_BadTree⟩
      · exact fun C hC => by rw [← cls_eq n_Clash hC]; exact ⟨ec_Clash, ki_NotSettled_Clash⟩
      · exact fun C hC => by rw [← cls_eq n_Conflict hC]; exact ⟨ec_Conflict, ki_NotSettled_Conflict⟩
      · exact fun C hC => by rw [← cls_eq n_Failed hC]; exact ⟨ec_Failed, ki_NotSettled_Failed⟩
      · exact fun C hC => by rw [← cls_eq n_Gap hC]; exact ⟨ec_Gap, ki_NotSettled_Gap⟩
      · exact fun C hC => by rw [← cls_eq n_Halted hC]; exact ⟨ec_Halted, ki_NotSettled_Halted⟩
      · exact fun C hC => by rw [← cls_eq n_Mismatch hC]; exact ⟨ec_Mismatch, ki_NotSettled_Mismatch⟩
      · exact fun C hC => by rw [← cls_eq n_NoPlace hC]; exact ⟨ec_NoPlace, ki_NotSettled_NoPlace⟩
      · exact fun C hC => by rw [← cls_eq n_NoRow hC]; exact ⟨ec_NoRow, ki_NotSettled_NoRow⟩
      · exact fun C hC => by rw [← cls_eq n_NoTarget hC]; exact ⟨ec_NoTarget, ki_NotSettled_NoTarget⟩
      · exact fun C hC => by rw [← cls_eq n_NoVersion hC]; exact ⟨ec_NoVersion, ki_NotSettled_NoVersion⟩
      · exact fun C hC => by rw [← cls_eq n_NotAsked hC]; exact ⟨ec_NotAsked, ki_NotSettled_NotAsked⟩
      · exact fun C hC => by rw [← cls_eq n_NotCause hC]; exact ⟨ec_NotCause, ki_NotSettled_NotCause⟩
      · exact fun C hC => by rw [← cls_eq n_NotFresh hC]; exact ⟨ec_NotFresh, ki_NotSettled_NotFresh⟩
      · exact fun C hC => by rw [← cls_eq n_NotNeeded hC]; exact ⟨ec_NotNeeded, ki_NotSettled_NotNeeded⟩
      · exact fun C hC => by rw [← cls_eq n_NotOpen hC]; exact ⟨ec_NotOpen, ki_NotSettled_NotOpen⟩
      · exact fun C hC => by rw [← cls_eq n_NotPart hC]; exact ⟨ec_NotPart, ki_NotSettled_NotPart⟩
      · exact fun C hC => by rw [← cls_eq n_NotSettled hC]; exact ⟨ec_NotSettled, ki_NotSettled_NotSettled⟩
      · exact fun C hC => by rw [← cls_eq n_NotSource hC]; exact ⟨ec_NotSource, ki_NotSettled_NotSource⟩
      · exact fun C hC => by rw [← cls_eq n_Rewritten hC]; exact ⟨ec_Rewritten, ki_NotSettled_Rewritten⟩
      · exact fun C hC => by rw [← cls_eq n_Stuck hC]; exact ⟨ec_Stuck, ki_NotSettled_Stuck⟩
      · exact fun C hC => by rw [← cls_eq n_Taken hC]; exact ⟨ec_Taken, ki_NotSettled_Taken⟩),
    by
      obtain ⟨ec_BadEntry, ec_BadKind, ec_BadLine, ec_BadName, ec_BadTree, ec_Clash, ec_Conflict, ec_Failed, ec_Gap, ec_Halted, ec_Mismatch, ec_NoPlace, ec_NoRow, ec_NoTarget, ec_NoVersion, ec_NotAsked, ec_NotCause, ec_NotFresh, ec_NotNeeded, ec_NotOpen, ec_NotPart, ec_NotSettled, ec_NotSource, ec_Rewritten, ec_Stuck, ec_Taken⟩ := ec; obtain ⟨ki_NotSource_BadEntry, ki_NotSource_BadKind, ki_NotSource_BadLine, ki_NotSource_BadName, ki_NotSource_BadTree, ki_NotSource_Clash, ki_NotSource_Conflict, ki_NotSource_Failed, ki_NotSource_Gap, ki_NotSource_Halted, ki_NotSource_Mismatch, ki_NotSource_NoPlace, ki_NotSource_NoRow, ki_NotSource_NoTarget, ki_NotSource_NoVersion, ki_NotSource_NotAsked, ki_NotSource_NotCause, ki_NotSource_NotFresh, ki_NotSource_NotNeeded, ki_NotSource_NotOpen, ki_NotSource_NotPart, ki_NotSource_NotSettled, ki_NotSource_NotSource, ki_NotSource_Rewritten, ki_NotSource_Stuck, ki_NotSource_Taken⟩ := ki_NotSource; 
      exact tab_one (P := fun c b => ∀ C, ClsAt K c C → ExcC K C ∧ PySem.W.kitOne K (.ref C) (.ref c_NotSource) = some b) (fun p hp => by
      simp only [List.mem_cons, List.not_mem_nil, or_false] at hp
      rcases hp with rfl | rfl | rfl | rfl | rfl | rfl | rfl | rfl | rfl | rfl | rfl | rfl | rfl | rfl | rfl | rfl | rfl | rfl | rfl | rfl | rfl | rfl | rfl | rfl | rfl | rfl
      · exact fun C hC => by rw [← cls_eq n_BadEntry hC]; exact ⟨ec_BadEntry, ki_NotSource_BadEntry⟩
      · exact fun C hC => by rw [← cls_eq n_BadKind hC]; exact ⟨ec_BadKind, ki_NotSource_BadKind⟩
      · exact fun C hC => by rw [← cls_eq n_BadLine hC]; exact ⟨ec_BadLine, ki_NotSource_BadLine⟩
      · exact fun C hC => by rw [← cls_eq n_BadName hC]; exact ⟨ec_BadName, ki_NotSource_BadName⟩
      · exact fun C hC => by rw [← cls_eq n_BadTree hC]; exact ⟨ec_BadTree, ki_NotSource_BadTree⟩
      · exact fun C hC => by rw [← cls_eq n_Clash hC]; exact ⟨ec_Clash, ki_NotSource_Clash⟩
      · exact fun C hC => by rw [← cls_eq n_Conflict hC]; exact ⟨ec_Conflict, ki_NotSource_Conflict⟩
      · exact fun C hC => by rw [← cls_eq n_Failed hC]; exact ⟨ec_Failed, ki_NotSource_Failed⟩
      · exact fun C hC => by rw [← cls_eq n_Gap hC]; exact ⟨ec_Gap, ki_NotSource_Gap⟩
      · exact fun C hC => by rw [← cls_eq n_Halted hC]; exact ⟨ec_Halted, ki_NotSource_Halted⟩
      · exact fun C hC => by rw [← cls_eq n_Mismatch hC]; exact ⟨ec_Mismatch, ki_NotSource_Mismatch⟩
      · exact fun C hC => by rw [← cls_eq n_NoPlace hC]; exact ⟨ec_NoPlace, ki_NotSource_NoPlace⟩
      · exact fun C hC => by rw [← cls_eq n_NoRow hC]; exact ⟨ec_NoRow, ki_NotSource_NoRow⟩
      · exact fun C hC => by rw [← cls_eq n_NoTarget hC]; exact ⟨ec_NoTarget, ki_NotSource_NoTarget⟩
      · exact fun C hC => by rw [← cls_eq n_NoVersion hC]; exact ⟨ec_NoVersion, ki_NotSource_NoVersion⟩
      · exact fun C hC => by rw [← cls_eq n_NotAsked hC]; exact ⟨ec_NotAsked, ki_NotSource_NotAsked⟩
      · exact fun C hC => by rw [← cls_eq n_NotCause hC]; exact ⟨ec_NotCause, ki_NotSource_NotCause⟩
      · exact fun C hC => by rw [← cls_eq n_NotFresh hC]; exact ⟨ec_NotFresh, ki_NotSource_NotFresh⟩
      · exact fun C hC => by rw [← cls_eq n_NotNeeded hC]; exact ⟨ec_NotNeeded, ki_NotSource_NotNeeded⟩
      · exact fun C hC => by rw [← cls_eq n_NotOpen hC]; exact ⟨ec_NotOpen, ki_NotSource_NotOpen⟩
      · exact fun C hC => by rw [← cls_eq n_NotPart hC]; exact ⟨ec_NotPart, ki_NotSource_NotPart⟩
      · exact fun C hC => by rw [← cls_eq n_NotSettled hC]; exact ⟨ec_NotSettled, ki_NotSource_NotSettled⟩
      · exact fun C hC => by rw [← cls_eq n_NotSource hC]; exact ⟨ec_NotSource, ki_NotSource_NotSource⟩
      · exact fun C hC => by rw [← cls_eq n_Rewritten hC]; exact ⟨ec_Rewritten, ki_NotSource_Rewritten⟩
      · exact fun C hC => by rw [← cls_eq n_Stuck hC]; exact ⟨ec_Stuck, ki_NotSource_Stuck⟩
      · exact fun C hC => by rw [← cls_eq n_Taken hC]; exact ⟨ec_Taken, ki_NotSource_Taken⟩),
    by
      obtain ⟨ec_BadEntry, ec_BadKind, ec_BadLine, ec_BadName, ec_BadTree, ec_Clash, ec_Conflict, ec_Failed, ec_Gap, ec_Halted, ec_Mismatch, ec_NoPlace, ec_NoRow, ec_NoTarget, ec_NoVersion, ec_NotAsked, ec_NotCause, ec_NotFresh, ec_NotNeeded, ec_NotOpen, ec_NotPart, ec_NotSettled, ec_NotSource, ec_Rewritten, ec_Stuck, ec_Taken⟩ := ec; obtain ⟨ki_Rewritten_BadEntry, ki_Rewritten_BadKind, ki_Rewritten_BadLine, ki_Rewritten_BadName, ki_Rewritten_BadTree, ki_Rewritten_Clash, ki_Rewritten_Conflict, ki_Rewritten_Failed, ki_Rewritten_Gap, ki_Rewritten_Halted, ki_Rewritten_Mismatch, ki_Rewritten_NoPlace, ki_Rewritten_NoRow, ki_Rewritten_NoTarget, ki_Rewritten_NoVersion, ki_Rewritten_NotAsked, ki_Rewritten_NotCause, ki_Rewritten_NotFresh, ki_Rewritten_NotNeeded, ki_Rewritten_NotOpen, ki_Rewritten_NotPart, ki_Rewritten_NotSettled, ki_Rewritten_NotSource, ki_Rewritten_Rewritten, ki_Rewritten_Stuck, ki_Rewritten_Taken⟩ := ki_Rewritten; 
      exact tab_one (P := fun c b => ∀ C, ClsAt K c C → ExcC K C ∧ PySem.W.kitOne K (.ref C) (.ref c_Rewritten) = some b) (fun p hp => by
      simp only [List.mem_cons, List.not_mem_nil, or_false] at hp
      rcases hp with rfl | rfl | rfl | rfl | rfl | rfl | rfl | rfl | rfl | rfl | rfl | rfl | rfl | rfl | rfl | rfl | rfl | rfl | rfl | rfl | rfl | rfl | rfl | rfl | rfl | rfl
      · exact fun C hC => by rw [← cls_eq n_BadEntry hC]; exact ⟨ec_BadEntry, ki_Rewritten_BadEntry⟩
      · exact fun C hC => by rw [← cls_eq n_BadKind hC]; exact ⟨ec_BadKind, ki_Rewritten_BadKind⟩
      · exact fun C hC => by rw [← cls_eq n_BadLine hC]; exact ⟨ec_BadLine, ki_Rewritten_BadLine⟩
      · exact fun C hC => by rw [← cls_eq n_BadName hC]; exact ⟨ec_BadName, ki_Rewritten_BadName⟩
      · exact fun C hC => by rw [← cls_eq n_BadTree hC]; exact ⟨ec_BadTree, ki_Rewritten_BadTree⟩
      · exact fun C hC => by rw [← cls_eq n_Clash hC]; exact ⟨ec_Clash, ki_Rewritten_Clash⟩
      · exact fun C hC => by rw [← cls_eq n_Conflict hC]; exact ⟨ec_Conflict, ki_Rewritten_Conflict⟩
      · exact fun C hC => by rw [← cls_eq n_Failed hC]; exact ⟨ec_Failed, ki_Rewritten_Failed⟩
      · exact fun C hC => by rw [← cls_eq n_Gap hC]; exact ⟨ec_Gap, ki_Rewritten_Gap⟩
      · exact fun C hC => by rw [← cls_eq n_Halted hC]; exact ⟨ec_Halted, ki_Rewritten_Halted⟩
      · exact fun C hC => by rw [← cls_eq n_Mismatch hC]; exact ⟨ec_Mismatch, ki_Rewritten_Mismatch⟩
      · exact fun C hC => by rw [← cls_eq n_NoPlace hC]; exact ⟨ec_NoPlace, ki_Rewritten_NoPlace⟩
      · exact fun C hC => by rw [← cls_eq n_NoRow hC]; exact ⟨ec_NoRow, ki_Rewritten_NoRow⟩
      · exact fun C hC => by rw [← cls_eq n_NoTarget hC]; exact ⟨ec_NoTarget, ki_Rewritten_NoTarget⟩
      · exact fun C hC => by rw [← cls_eq n_NoVersion hC]; exact ⟨ec_NoVersion, ki_Rewritten_NoVersion⟩
      · exact fun C hC => by rw [← cls_eq n_NotAsked hC]; exact ⟨ec_NotAsked, ki_Rewritten_NotAsked⟩
      · exact fun C hC => by rw [← cls_eq n_NotCause hC]; exact ⟨ec_NotCause, ki_Rewritten_NotCause⟩
      · exact fun C hC => by rw [← cls_eq n_NotFresh hC]; exact ⟨ec_NotFresh, ki_Rewritten_NotFresh⟩
      · exact fun C hC => by rw [← cls_eq n_NotNeeded hC]; exact ⟨ec_NotNeeded, ki_Rewritten_NotNeeded⟩
      · exact fun C hC => by rw [← cls_eq n_NotOpen hC]; exact ⟨ec_NotOpen, ki_Rewritten_NotOpen⟩
      · exact fun C hC => by rw [← cls_eq n_NotPart hC]; exact ⟨ec_NotPart, ki_Rewritten_NotPart⟩
      · exact fun C hC => by rw [← cls_eq n_NotSettled hC]; exact ⟨ec_NotSettled, ki_Rewritten_NotSettled⟩
      · exact fun C hC => by rw [← cls_eq n_NotSource hC]; exact ⟨ec_NotSource, ki_Rewritten_NotSource⟩
      · exact fun C hC => by rw [← cls_eq n_Rewritten hC]; exact ⟨ec_Rewritten, ki_Rewritten_Rewritten⟩
      · exact fun C hC => by rw [← cls_eq n_Stuck hC]; exact ⟨ec_Stuck, ki_Rewritten_Stuck⟩
      · exact fun C hC => by rw [← cls_eq n_Taken hC]; exact ⟨ec_Taken, ki_Rewritten_Taken⟩),
    by
      obtain ⟨ec_BadEntry, ec_BadKind, ec_BadLine, ec_BadName, ec_BadTree, ec_Clash, ec_Conflict, ec_Failed, ec_Gap, ec_Halted, ec_Mismatch, ec_NoPlace, ec_NoRow, ec_NoTarget, ec_NoVersion, ec_NotAsked, ec_NotCause, ec_NotFresh, ec_NotNeeded, ec_NotOpen, ec_NotPart, ec_NotSettled, ec_NotSource, ec_Rewritten, ec_Stuck, ec_Taken⟩ := ec; obtain ⟨ki_Stuck_BadEntry, ki_Stuck_BadKind, ki_Stuck_BadLine, ki_Stuck_BadName, ki_Stuck_BadTree, ki_Stuck_Clash, ki_Stuck_Conflict, ki_Stuck_Failed, ki_Stuck_Gap, ki_Stuck_Halted, ki_Stuck_Mismatch, ki_Stuck_NoPlace, ki_Stuck_NoRow, ki_Stuck_NoTarget, ki_Stuck_NoVersion, ki_Stuck_NotAsked, ki_Stuck_NotCause, ki_Stuck_NotFresh, ki_Stuck_NotNeeded, ki_Stuck_NotOpen, ki_Stuck_NotPart, ki_Stuck_NotSettled, ki_Stuck_NotSource, ki_Stuck_Rewritten, ki_Stuck_Stuck, ki_Stuck_Taken⟩ := ki_Stuck; 
      exact tab_one (P := fun c b => ∀ C, ClsAt K c C → ExcC K C ∧ PySem.W.kitOne K (.ref C) (.ref c_Stuck) = some b) (fun p hp => by
      simp only [List.mem_cons, List.not_mem_nil, or_false] at hp
      rcases hp with rfl | rfl | rfl | rfl | rfl | rfl | rfl | rfl | rfl | rfl | rfl | rfl | rfl | rfl | rfl | rfl | rfl | rfl | rfl | rfl | rfl | rfl | rfl | rfl | rfl | rfl
      · exact fun C hC => by rw [← cls_eq n_BadEntry hC]; exact ⟨ec_BadEntry, ki_Stuck_BadEntry⟩
      · exact fun C hC => by rw [← cls_eq n_BadKind hC]; exact ⟨ec_BadKind, ki_Stuck_BadKind⟩
      · exact fun C hC => by rw [← cls_eq n_BadLine hC]; exact ⟨ec_BadLine, ki_Stuck_BadLine⟩
      · exact fun C hC => by rw [← cls_eq n_BadName hC]; exact ⟨ec_BadName, ki_Stuck_BadName⟩
      · exact fun C hC => by rw [← cls_eq n_BadTree hC]; exact ⟨ec_BadTree, ki_Stuck_BadTree⟩
      · exact fun C hC => by rw [← cls_eq n_Clash hC]; exact ⟨ec_Clash, ki_Stuck_Clash⟩
      · exact fun C hC => by rw [← cls_eq n_Conflict hC]; exact ⟨ec_Conflict, ki_Stuck_Conflict⟩
      · exact fun C hC => by rw [← cls_eq n_Failed hC]; exact ⟨ec_Failed, ki_Stuck_Failed⟩
      · exact fun C hC => by rw [← cls_eq n_Gap hC]; exact ⟨ec_Gap, ki_Stuck_Gap⟩
      · exact fun C hC => by rw [← cls_eq n_Halted hC]; exact ⟨ec_Halted, ki_Stuck_Halted⟩
      · exact fun C hC => by rw [← cls_eq n_Mismatch hC]; exact ⟨ec_Mismatch, ki_Stuck_Mismatch⟩
      · exact fun C hC => by rw [← cls_eq n_NoPlace hC]; exact ⟨ec_NoPlace, ki_Stuck_NoPlace⟩
      · exact fun C hC => by rw [← cls_eq n_NoRow hC]; exact ⟨ec_NoRow, ki_Stuck_NoRow⟩
      · exact fun C hC => by rw [← cls_eq n_NoTarget hC]; exact ⟨ec_NoTarget, ki_Stuck_NoTarget⟩
      · exact fun C hC => by rw [← cls_eq n_NoVersion hC]; exact ⟨ec_NoVersion, ki_Stuck_NoVersion⟩
      · exact fun C hC => by rw [← cls_eq n_NotAsked hC]; exact ⟨ec_NotAsked, ki_Stuck_NotAsked⟩
      · exact fun C hC => by rw [← cls_eq n_NotCause hC]; exact ⟨ec_NotCause, ki_Stuck_NotCause⟩
      · exact fun C hC => by rw [← cls_eq n_NotFresh hC]; exact ⟨ec_NotFresh, ki_Stuck_NotFresh⟩
      · exact fun C hC => by rw [← cls_eq n_NotNeeded hC]; exact ⟨ec_NotNeeded, ki_Stuck_NotNeeded⟩
      · exact fun C hC => by rw [← cls_eq n_NotOpen hC]; exact ⟨ec_NotOpen, ki_Stuck_NotOpen⟩
      · exact fun C hC => by rw [← cls_eq n_NotPart hC]; exact ⟨ec_NotPart, ki_Stuck_NotPart⟩
      · exact fun C hC => by rw [← cls_eq n_NotSettled hC]; exact ⟨ec_NotSettled, ki_Stuck_NotSettled⟩
      · exact fun C hC => by rw [← cls_eq n_NotSource hC]; exact ⟨ec_NotSource, ki_Stuck_NotSource⟩
      · exact fun C hC => by rw [← cls_eq n_Rewritten hC]; exact ⟨ec_Rewritten, ki_Stuck_Rewritten⟩
      · exact fun C hC => by rw [← cls_eq n_Stuck hC]; exact ⟨ec_Stuck, ki_Stuck_Stuck⟩
      · exact fun C hC => by rw [← cls_eq n_Taken hC]; exact ⟨ec_Taken, ki_Stuck_Taken⟩),
    by
      obtain ⟨ec_BadEntry, ec_BadKind, ec_BadLine, ec_BadName, ec_BadTree, ec_Clash, ec_Conflict, ec_Failed, ec_Gap, ec_Halted, ec_Mismatch, ec_NoPlace, ec_NoRow, ec_NoTarget, ec_NoVersion, ec_NotAsked, ec_NotCause, ec_NotFresh, ec_NotNeeded, ec_NotOpen, ec_NotPart, ec_NotSettled, ec_NotSource, ec_Rewritten, ec_Stuck, ec_Taken⟩ := ec; obtain ⟨ki_Taken_BadEntry, ki_Taken_BadKind, ki_Taken_BadLine, ki_Taken_BadName, ki_Taken_BadTree, ki_Taken_Clash, ki_Taken_Conflict, ki_Taken_Failed, ki_Taken_Gap, ki_Taken_Halted, ki_Taken_Mismatch, ki_Taken_NoPlace, ki_Taken_NoRow, ki_Taken_NoTarget, ki_Taken_NoVersion, ki_Taken_NotAsked, ki_Taken_NotCause, ki_Taken_NotFresh, ki_Taken_NotNeeded, ki_Taken_NotOpen, ki_Taken_NotPart, ki_Taken_NotSettled, ki_Taken_NotSource, ki_Taken_Rewritten, ki_Taken_Stuck, ki_Taken_Taken⟩ := ki_Taken; 
      exact tab_one (P := fun c b => ∀ C, ClsAt K c C → ExcC K C ∧ PySem.W.kitOne K (.ref C) (.ref c_Taken) = some b) (fun p hp => by
      simp only [List.mem_cons, List.not_mem_nil, or_false] at hp
      rcases hp with rfl | rfl | rfl | rfl | rfl | rfl | rfl | rfl | rfl | rfl | rfl | rfl | rfl | rfl | rfl | rfl | rfl | rfl | rfl | rfl | rfl | rfl | rfl | rfl | rfl | rfl
      · exact fun C hC => by rw [← cls_eq n_BadEntry hC]; exact ⟨ec_BadEntry, ki_Taken_BadEntry⟩
      · exact fun C hC => by rw [← cls_eq n_BadKind hC]; exact ⟨ec_BadKind, ki_Taken_BadKind⟩
      · exact fun C hC => by rw [← cls_eq n_BadLine hC]; exact ⟨ec_BadLine, ki_Taken_BadLine⟩
      · exact fun C hC => by rw [← cls_eq n_BadName hC]; exact ⟨ec_BadName, ki_Taken_BadName⟩
      · exact fun C hC => by rw [← cls_eq n_BadTree hC]; exact ⟨ec_BadTree, ki_Taken_BadTree⟩
      · exact fun C hC => by rw [← cls_eq n_Clash hC]; exact ⟨ec_Clash, ki_Taken_Clash⟩
      · exact fun C hC => by rw [← cls_eq n_Conflict hC]; exact ⟨ec_Conflict, ki_Taken_Conflict⟩
      · exact fun C hC => by rw [← cls_eq n_Failed hC]; exact ⟨ec_Failed, ki_Taken_Failed⟩
      · exact fun C hC => by rw [← cls_eq n_Gap hC]; exact ⟨ec_Gap, ki_Taken_Gap⟩
      · exact fun C hC => by rw [← cls_eq n_Halted hC]; exact ⟨ec_Halted, ki_Taken_Halted⟩
      · exact fun C hC => by rw [← cls_eq n_Mismatch hC]; exact ⟨ec_Mismatch, ki_Taken_Mismatch⟩
      · exact fun C hC => by rw [← cls_eq n_NoPlace hC]; exact ⟨ec_NoPlace, ki_Taken_NoPlace⟩
      · exact fun C hC => by rw [← cls_eq n_NoRow hC]; exact ⟨ec_NoRow, ki_Taken_NoRow⟩
      · exact fun C hC => by rw [← cls_eq n_NoTarget hC]; exact ⟨ec_NoTarget, ki_Taken_NoTarget⟩
      · exact fun C hC => by rw [← cls_eq n_NoVersion hC]; exact ⟨ec_NoVersion, ki_Taken_NoVersion⟩
      · exact fun C hC => by rw [← cls_eq n_NotAsked hC]; exact ⟨ec_NotAsked, ki_Taken_NotAsked⟩
      · exact fun C hC => by rw [← cls_eq n_NotCause hC]; exact ⟨ec_NotCause, ki_Taken_NotCause⟩
      · exact fun C hC => by rw [← cls_eq n_NotFresh hC]; exact ⟨ec_NotFresh, ki_Taken_NotFresh⟩
      · exact fun C hC => by rw [← cls_eq n_NotNeeded hC]; exact ⟨ec_NotNeeded, ki_Taken_NotNeeded⟩
      · exact fun C hC => by rw [← cls_eq n_NotOpen hC]; exact ⟨ec_NotOpen, ki_Taken_NotOpen⟩
      · exact fun C hC => by rw [← cls_eq n_NotPart hC]; exact ⟨ec_NotPart, ki_Taken_NotPart⟩
      · exact fun C hC => by rw [← cls_eq n_NotSettled hC]; exact ⟨ec_NotSettled, ki_Taken_NotSettled⟩
      · exact fun C hC => by rw [← cls_eq n_NotSource hC]; exact ⟨ec_NotSource, ki_Taken_NotSource⟩
      · exact fun C hC => by rw [← cls_eq n_Rewritten hC]; exact ⟨ec_Rewritten, ki_Taken_Rewritten⟩
      · exact fun C hC => by rw [← cls_eq n_Stuck hC]; exact ⟨ec_Stuck, ki_Taken_Stuck⟩
      · exact fun C hC => by rw [← cls_eq n_Taken hC]; exact ⟨ec_Taken, ki_Taken_Taken⟩),
    (fun c hc C hC => by
      have xf_cause_NotCause := xf_cause; have xg_cause_NotCause := xg_cause; 
      simp only [List.mem_cons, List.not_mem_nil, or_false] at hc
      rcases hc with rfl
      · rw [← cls_eq n_NotCause hC]; exact ⟨xf_cause_NotCause, xg_cause_NotCause⟩),
    (fun c hc C hC => by
      have xf_conflicts_Conflict := xf_conflicts; have xg_conflicts_Conflict := xg_conflicts; 
      simp only [List.mem_cons, List.not_mem_nil, or_false] at hc
      rcases hc with rfl
      · rw [← cls_eq n_Conflict hC]; exact ⟨xf_conflicts_Conflict, xg_conflicts_Conflict⟩),
    (fun c hc C hC => by
      have xf_entry_BadEntry := xf_entry; have xg_entry_BadEntry := xg_entry; 
      simp only [List.mem_cons, List.not_mem_nil, or_false] at hc
      rcases hc with rfl
      · rw [← cls_eq n_BadEntry hC]; exact ⟨xf_entry_BadEntry, xg_entry_BadEntry⟩),
    (fun c hc C hC => by
      obtain ⟨xf_key_NotSettled, xf_key_NotOpen, xf_key_NotAsked⟩ := xf_key; obtain ⟨xg_key_NotSettled, xg_key_NotOpen, xg_key_NotAsked⟩ := xg_key; 
      simp only [List.mem_cons, List.not_mem_nil, or_false] at hc
      rcases hc with rfl | rfl | rfl
      · rw [← cls_eq n_NotSettled hC]; exact ⟨xf_key_NotSettled, xg_key_NotSettled⟩
      · rw [← cls_eq n_NotOpen hC]; exact ⟨xf_key_NotOpen, xg_key_NotOpen⟩
      · rw [← cls_eq n_NotAsked hC]; exact ⟨xf_key_NotAsked, xg_key_NotAsked⟩),
    (fun c hc C hC => by
      obtain ⟨xf_line_BadLine, xf_line_BadKind, xf_line_BadName⟩ := xf_line; obtain ⟨xg_line_BadLine, xg_line_BadKind, xg_line_BadName⟩ := xg_line; 
      simp only [List.mem_cons, List.not_mem_nil, or_false] at hc
      rcases hc with rfl | rfl | rfl
      · rw [← cls_eq n_BadLine hC]; exact ⟨xf_line_BadLine, xg_line_BadLine⟩
      · rw [← cls_eq n_BadKind hC]; exact ⟨xf_line_BadKind, xg_line_BadKind⟩
      · rw [← cls_eq n_BadName hC]; exact ⟨xf_line_BadName, xg_line_BadName⟩),
    (fun c hc C hC => by
      obtain ⟨xf_name_NoTarget, xf_name_NotSource, xf_name_Mismatch, xf_name_Taken, xf_name_BadName⟩ := xf_name; obtain ⟨xg_name_NoTarget, xg_name_NotSource, xg_name_Mismatch, xg_name_Taken, xg_name_BadName⟩ := xg_name; 
      simp only [List.mem_cons, List.not_mem_nil, or_false] at hc
      rcases hc with rfl | rfl | rfl | rfl | rfl
      · rw [← cls_eq n_NoTarget hC]; exact ⟨xf_name_NoTarget, xg_name_NoTarget⟩
      · rw [← cls_eq n_NotSource hC]; exact ⟨xf_name_NotSource, xg_name_NotSource⟩
      · rw [← cls_eq n_Mismatch hC]; exact ⟨xf_name_Mismatch, xg_name_Mismatch⟩
      · rw [← cls_eq n_Taken hC]; exact ⟨xf_name_Taken, xg_name_Taken⟩
      · rw [← cls_eq n_BadName hC]; exact ⟨xf_name_BadName, xg_name_BadName⟩),
    (fun c hc C hC => by
      have xf_number_NoVersion := xf_number; have xg_number_NoVersion := xg_number; 
      simp only [List.mem_cons, List.not_mem_nil, or_false] at hc
      rcases hc with rfl
      · rw [← cls_eq n_NoVersion hC]; exact ⟨xf_number_NoVersion, xg_number_NoVersion⟩),
    (fun c hc C hC => by
      obtain ⟨xf_path_BadTree, xf_path_Failed⟩ := xf_path; obtain ⟨xg_path_BadTree, xg_path_Failed⟩ := xg_path; 
      simp only [List.mem_cons, List.not_mem_nil, or_false] at hc
      rcases hc with rfl | rfl
      · rw [← cls_eq n_BadTree hC]; exact ⟨xf_path_BadTree, xg_path_BadTree⟩
      · rw [← cls_eq n_Failed hC]; exact ⟨xf_path_Failed, xg_path_Failed⟩),
    (fun c hc C hC => by
      have xf_ring_Stuck := xf_ring; have xg_ring_Stuck := xg_ring; 
      simp only [List.mem_cons, List.not_mem_nil, or_false] at hc
      rcases hc with rfl
      · rw [← cls_eq n_Stuck hC]; exact ⟨xf_ring_Stuck, xg_ring_Stuck⟩),
    (fun c hc C hC => by
      obtain ⟨xf_spot_Clash, xf_spot_Gap, xf_spot_Rewritten, xf_spot_NoPlace, xf_spot_NotNeeded, xf_spot_NotPart⟩ := xf_spot; obtain ⟨xg_spot_Clash, xg_spot_Gap, xg_spot_Rewritten, xg_spot_NoPlace, xg_spot_NotNeeded, xg_spot_NotPart⟩ := xg_spot; 
      simp only [List.mem_cons, List.not_mem_nil, or_false] at hc
      rcases hc with rfl | rfl | rfl | rfl | rfl | rfl
      · rw [← cls_eq n_Clash hC]; exact ⟨xf_spot_Clash, xg_spot_Clash⟩
      · rw [← cls_eq n_Gap hC]; exact ⟨xf_spot_Gap, xg_spot_Gap⟩
      · rw [← cls_eq n_Rewritten hC]; exact ⟨xf_spot_Rewritten, xg_spot_Rewritten⟩
      · rw [← cls_eq n_NoPlace hC]; exact ⟨xf_spot_NoPlace, xg_spot_NoPlace⟩
      · rw [← cls_eq n_NotNeeded hC]; exact ⟨xf_spot_NotNeeded, xg_spot_NotNeeded⟩
      · rw [← cls_eq n_NotPart hC]; exact ⟨xf_spot_NotPart, xg_spot_NotPart⟩),
    (fun c hc C hC => by
      have xf_words_NotFresh := xf_words; have xg_words_NotFresh := xg_words; 
      simp only [List.mem_cons, List.not_mem_nil, or_false] at hc
      rcases hc with rfl
      · rw [← cls_eq n_NotFresh hC]; exact ⟨xf_words_NotFresh, xg_words_NotFresh⟩)⟩
  have E0 := fun_mk (st := s_feed_of) l0 c0 k0
  have F_feed_of : FunOn K mg "_law_feed_of" s_feed_of ["_law_script", "_law_k"] f0 _ := ⟨E0, PySem.W.mg_of X G a0, E0.binds (ps := ["_law_script", "_law_k"]) fun _ _ _ _ _ _ us hl => match us, hl with | [_, _], _ => rfl⟩
  have E1 := fun_mk (st := s_draw) l1 c1 k1
  have F_draw : FunOn K mg "_law_draw" s_draw ["_law_feed", "_law_many"] f1 _ := ⟨E1, PySem.W.mg_of X G a1, E1.binds (ps := ["_law_feed", "_law_many"]) fun _ _ _ _ _ _ us hl => match us, hl with | [_, _], _ => rfl⟩
  have E2 := fun_mk (st := s_pick) l2 c2 k2
  have F_pick : FunOn K mg "_law_pick" s_pick ["_law_feed", "_law_items"] f2 _ := ⟨E2, PySem.W.mg_of X G a2, E2.binds (ps := ["_law_feed", "_law_items"]) fun _ _ _ _ _ _ us hl => match us, hl with | [_, _], _ => rfl⟩
  have E3 := fun_mk (st := s_calls) l3 c3 k3
  have F_calls : FunOn K mg "_law_calls" s_calls [] f3 _ := ⟨E3, PySem.W.mg_of X G a3, E3.binds (ps := []) fun _ _ _ _ _ _ us hl => match us, hl with | [], _ => rfl⟩
  have E4 := fun_mk (st := s_some_text) l4 c4 k4
  have F_some_text : FunOn K mg "_law_some_text" s_some_text ["_law_feed"] f4 _ := ⟨E4, PySem.W.mg_of X G a4, E4.binds (ps := ["_law_feed"]) fun _ _ _ _ _ _ us hl => match us, hl with | [_], _ => rfl⟩
  have E5 := fun_mk (st := s_any_value) l5 c5 k5
  have F_any_value : FunOn K mg "_law_any_value" s_any_value ["_law_feed"] f5 _ := ⟨E5, PySem.W.mg_of X G a5, E5.binds (ps := ["_law_feed"]) fun _ _ _ _ _ _ us hl => match us, hl with | [_], _ => rfl⟩
  have E6 := fun_mk (st := s_with_places) l6 c6 k6
  have F_with_places : FunOn K mg "_law_with_places" s_with_places ["_law_a"] f6 _ := ⟨E6, PySem.W.mg_of X G a6, E6.binds (ps := ["_law_a"]) fun _ _ _ _ _ _ us hl => match us, hl with | [_], _ => rfl⟩
  have E7 := fun_mk (st := s_with_others) l7 c7 k7
  have F_with_others : FunOn K mg "_law_with_others" s_with_others ["_law_a"] f7 _ := ⟨E7, PySem.W.mg_of X G a7, E7.binds (ps := ["_law_a"]) fun _ _ _ _ _ _ us hl => match us, hl with | [_], _ => rfl⟩
  have E8 := fun_mk (st := s_same) l8 c8 k8
  have F_same : FunOn K mg "_law_same" s_same ["_law_found", "_law_due"] f8 _ := ⟨E8, PySem.W.mg_of X G a8, E8.binds (ps := ["_law_found", "_law_due"]) fun _ _ _ _ _ _ us hl => match us, hl with | [_, _], _ => rfl⟩
  have E9 := fun_mk (st := s_names_of) l9 c9 k9
  have F_names_of : FunOn K mg "_law_names_of" s_names_of ["_law_e"] f9 _ := ⟨E9, PySem.W.mg_of X G a9, E9.binds (ps := ["_law_e"]) fun _ _ _ _ _ _ us hl => match us, hl with | [_], _ => rfl⟩
  have E10 := fun_mk (st := s_caught) l10 c10 k10
  have F_caught : FunOn K mg "_law_caught" s_caught ["_law_e"] f10 _ := ⟨E10, PySem.W.mg_of X G a10, E10.binds (ps := ["_law_e"]) fun _ _ _ _ _ _ us hl => match us, hl with | [_], _ => rfl⟩
  have E11 := fun_mk (st := s_named_right) l11 c11 k11
  have F_named_right : FunOn K mg "_law_named_right" s_named_right ["_law_a", "_law_b"] f11 _ := ⟨E11, PySem.W.mg_of X G a11, E11.binds (ps := ["_law_a", "_law_b"]) fun _ _ _ _ _ _ us hl => match us, hl with | [_, _], _ => rfl⟩
  have E12 := fun_mk (st := s_raised) l12 c12 k12
  have F_raised : FunOn K mg "_law_raised" s_raised ["_law_form", "_law_a"] f12 _ := ⟨E12, PySem.W.mg_of X G a12, E12.binds (ps := ["_law_form", "_law_a"]) fun _ _ _ _ _ _ us hl => match us, hl with | [_, _], _ => rfl⟩
  have E13 := fun_mk (st := s_law) l13 c13 k13
  have F_law : FunOn K mg "law" s_law ["_law_script"] fa _ := ⟨E13, PySem.W.mg_of X G a13, E13.binds (ps := ["_law_script"]) fun _ _ _ _ _ _ us hl => match us, hl with | [_], _ => rfl⟩
  refine ⟨PySem.W.fnOf "law" "law" (defArgs s_law) (defBody s_law) (defScope s_law) .none kV13 dc13 pm13 an13 cd13 ct13, fun s v => .of_eq rfl, fun base _ _ => ?_⟩
  have G_feed_of := ok_feed_of (P := l.prog) (w := w) (base := base) T F_feed_of
  have G_draw := ok_draw (P := l.prog) (w := w) (base := base) T F_draw
  have G_pick := ok_pick (P := l.prog) (w := w) (base := base) T F_pick F_draw G_draw
  have G_calls := ok_calls (P := l.prog) (w := w) (base := base) T F_calls
  have G_some_text := ok_some_text (P := l.prog) (w := w) (base := base) T F_some_text F_draw G_draw F_pick G_pick F_calls G_calls
  have G_any_value := ok_any_value (P := l.prog) (w := w) (base := base) T F_any_value F_draw G_draw F_some_text G_some_text
  have G_with_places := ok_with_places (P := l.prog) (w := w) (base := base) T F_with_places
  have G_with_others := ok_with_others (P := l.prog) (w := w) (base := base) T F_with_others
  have G_same := ok_same (P := l.prog) (w := w) (base := base) T F_same 12
  have G_names_of := ok_names_of (P := l.prog) (w := w) (base := base) T F_names_of
  have G_caught := ok_caught (P := l.prog) (w := w) (base := base) T F_caught
  have G_named_right := ok_named_right (P := l.prog) (w := w) (base := base) T F_named_right F_same G_same
  have G_raised := ok_raised (P := l.prog) (w := w) (base := base) T F_raised
  exact ok_law (P := l.prog) (w := w) (base := base) T F_law F_feed_of G_feed_of F_any_value G_any_value F_with_places G_with_places F_with_others G_with_others F_same G_same F_names_of G_names_of F_caught G_caught F_named_right G_named_right F_raised G_raised
theorem law_in {P : Program} {w : World} {K : PySem.W.Frag} {H : Hp} {a : Addr} {ns : List Int} {E : XK} (o : Only H) (hS : SqL K H a (ns.map V.int)) : lift (Bs.no P w K) sp_law [.ref a] H (fun v _ => v = .bl true) E := by
  have hF : FzL K H a (ns.map V.int) := by
    rcases hS with (h | ⟨ob, h⟩) | h
    · rcases o a with q | ⟨ob, xs, q⟩
      · rw [q] at h; cases h
      · rw [q] at h; cases h
    · exact .inl ⟨ob, h⟩
    · exact .inr h
  refine ⟨[.fl (ns.map D.int)], fun _ => none, fun d _ => d = .bl true, RpL.cons (rp_fl.mpr ⟨a, _, rfl, hF, RpL.ints.mpr rfl⟩) RpL.nil, ⟨fun _ _ h => (nomatch h), True.intro⟩, law_spec fun _ => rfl, ?_⟩
  intro d v G' H' r _ _ e
  subst e
  exact rp_bl.mp r
theorem walk {l : PySem.W.OpenLaw} {q : Program} {loose : List Str} {XP : (Str → Option Value) → Heap → Prop} {YP : World → Heap → Prop} {d : DefRec} {K : Params → PySem.W.Frag} (hn : l.most = some 63) (hdf : d.params.defaults = [])
    (hY : ∀ (w : World) (h : Heap), YP w h → (K w.params).In h)
    (F : ∀ (w : World) (mg : Str → Option Value) (fa : Addr) (h : Heap), (K w.params).In h → h.Ns mainGlobals mg → mg d.name = some (.ref fa) →
      ∃ fd : FuncData, (∀ (s : Shared) (u : Value), BindsTo s fd ⟨[u], []⟩ [("_law_script", u)]) ∧ ∀ base : Heap, (K w.params).In base → base.Ns mainGlobals mg → FnOk l.prog w (K w.params) mg base CX0 19 fa fd ["_law_script"] (lift (Bs.no l.prog w (K w.params)) sp_law)) :
    PySem.W.WalkO q loose XP YP l.row.toRowW d [] (fun f vs => PySem.call f vs) :=
  L2.walk_of (n := 63) (k := 19) (x := "_law_script") (CX := fun _ => CX0) (sp := fun w => lift (Bs.no l.prog w (K w.params)) sp_law) hn (by decide) hdf ⟨rfl, by decide, by decide⟩ hY F (fun w H a ns _ o hS => law_in o hS) fun _ _ _ _ _ z => z
end K01
open PySem PySem.W PyProof.Rows
set_option maxRecDepth 100000 in
set_option maxHeartbeats 0 in
theorem PySem.Challenge.cw_farenough_k01_errors_and_their_values_holds : PySem.Challenge.rw_farenough_k01_errors_and_their_values.Holds := by
  w_on; o_law; k_headL; (case hw => w_witness2)
  k_fill
  refine K01.walk (l := PySem.Challenge.rw_farenough_k01_errors_and_their_values) rfl rfl (fun w h Y => PySem.W.kIn_of Y) ?F
  case F => as_aux_lemma =>
    intro w mg fa h KX G hmg
    refine' K01.all_mk KX G hmg ?n_BadEntry ?n_BadKind ?n_BadLine ?n_BadName ?n_BadTree ?n_BuildError ?n_Clash ?n_Conflict ?n_Failed ?n_Gap ?n_Halted ?n_Mismatch ?n_NoPlace ?n_NoRow ?n_NoTarget ?n_NoVersion ?n_NotAsked ?n_NotCause ?n_NotFresh ?n_NotNeeded ?n_NotOpen ?n_NotPart ?n_NotSettled ?n_NotSource ?n_Rewritten ?n_Stuck ?n_Taken ?a0 ?l0 ?c0 ?k0 ?a1 ?l1 ?c1 ?k1 ?a2 ?l2 ?c2 ?k2 ?a3 ?l3 ?c3 ?k3 ?a4 ?l4 ?c4 ?k4 ?a5 ?l5 ?c5 ?k5 ?a6 ?l6 ?c6 ?k6 ?a7 ?l7 ?c7 ?k7 ?a8 ?l8 ?c8 ?k8 ?a9 ?l9 ?c9 ?k9 ?a10 ?l10 ?c10 ?k10 ?a11 ?l11 ?c11 ?k11 ?a12 ?l12 ?c12 ?k12 ?a13 ?l13 ?c13 ?k13 ?z0 ?z1 ?z2 ?z3 ?z4 ?z5 ?z6 ?z7 ?z8 ?z9 ?z10 ?z11 ?z12 ?z13 ?z14 ?z15 ?z16 ?z17 ?x_BadEntry ?x_BadKind ?x_BadLine ?x_BadTree ?x_Clash ?x_Conflict ?x_Failed ?x_Gap ?x_Mismatch ?x_NoPlace ?x_NoTarget ?x_NoVersion ?x_NotAsked ?x_NotCause ?x_NotFresh ?x_NotNeeded ?x_NotOpen ?x_NotPart ?x_NotSettled ?x_NotSource ?x_Rewritten ?x_Stuck ?x_Taken ?x_Halted ?x_NoRow ?xw_BadEntry ?xw_BadLine ?xw_BadTree ?xw_Clash ?xw_Conflict ?xw_NoVersion ?xw_NotAsked ?xw_Stuck ?x2_BadName ?xw2_BadName ?exb_KeyError ?ec ?kb_IndexError ?kb_KeyError ?kb_LookupError ?kb_ValueError ?ex_BuildError ?ex_Stuck ?ki_BadEntry ?ki_BadKind ?ki_BadLine ?ki_BadName ?ki_BadTree ?ki_BuildError ?ki_Clash ?ki_Conflict ?ki_Failed ?ki_Gap ?ki_Halted ?ki_Mismatch ?ki_NoPlace ?ki_NoRow ?ki_NoTarget ?ki_NoVersion ?ki_NotAsked ?ki_NotCause ?ki_NotFresh ?ki_NotNeeded ?ki_NotOpen ?ki_NotPart ?ki_NotSettled ?ki_NotSource ?ki_Rewritten ?ki_Stuck ?ki_Taken ?xf_cause ?xg_cause ?xf_conflicts ?xg_conflicts ?xf_entry ?xg_entry ?xf_key ?xg_key ?xf_line ?xg_line ?xf_name ?xg_name ?xf_number ?xg_number ?xf_path ?xg_path ?xf_ring ?xg_ring ?xf_spot ?xg_spot ?xf_words ?xg_words
    (case n_BadEntry => k_is)
    (case n_BadKind => k_is)
    (case n_BadLine => k_is)
    (case n_BadName => k_is)
    (case n_BadTree => k_is)
    (case n_BuildError => k_is)
    (case n_Clash => k_is)
    (case n_Conflict => k_is)
    (case n_Failed => k_is)
    (case n_Gap => k_is)
    (case n_Halted => k_is)
    (case n_Mismatch => k_is)
    (case n_NoPlace => k_is)
    (case n_NoRow => k_is)
    (case n_NoTarget => k_is)
    (case n_NoVersion => k_is)
    (case n_NotAsked => k_is)
    (case n_NotCause => k_is)
    (case n_NotFresh => k_is)
    (case n_NotNeeded => k_is)
    (case n_NotOpen => k_is)
    (case n_NotPart => k_is)
    (case n_NotSettled => k_is)
    (case n_NotSource => k_is)
    (case n_Rewritten => k_is)
    (case n_Stuck => k_is)
    (case n_Taken => k_is)
    (case a0 => k_is)
    (case l0 => k_is)
    (case c0 => k_is)
    (case k0 => k_is)
    (case a1 => k_is)
    (case l1 => k_is)
    (case c1 => k_is)
    (case k1 => k_is)
    (case a2 => k_is)
    (case l2 => k_is)
    (case c2 => k_is)
    (case k2 => k_is)
    (case a3 => k_is)
    (case l3 => k_is)
    (case c3 => k_is)
    (case k3 => k_is)
    (case a4 => k_is)
    (case l4 => k_is)
    (case c4 => k_is)
    (case k4 => k_is)
    (case a5 => k_is)
    (case l5 => k_is)
    (case c5 => k_is)
    (case k5 => k_is)
    (case a6 => k_is)
    (case l6 => k_is)
    (case c6 => k_is)
    (case k6 => k_is)
    (case a7 => k_is)
    (case l7 => k_is)
    (case c7 => k_is)
    (case k7 => k_is)
    (case a8 => k_is)
    (case l8 => k_is)
    (case c8 => k_is)
    (case k8 => k_is)
    (case a9 => k_is)
    (case l9 => k_is)
    (case c9 => k_is)
    (case k9 => k_is)
    (case a10 => k_is)
    (case l10 => k_is)
    (case c10 => k_is)
    (case k10 => k_is)
    (case a11 => k_is)
    (case l11 => k_is)
    (case c11 => k_is)
    (case k11 => k_is)
    (case a12 => k_is)
    (case l12 => k_is)
    (case c12 => k_is)
    (case k12 => k_is)
    (case a13 => k_is)
    (case l13 => k_is)
    (case c13 => k_is)
    (case k13 => k_is)
    (case z0 => k_is)
    (case z1 => k_is)
    (case z2 => k_is)
    (case z3 => k_is)
    (case z4 => k_is)
    (case z5 => k_is)
    (case z6 => k_is)
    (case z7 => k_is)
    (case z8 => k_is)
    (case z9 => k_is)
    (case z10 => k_is)
    (case z11 => k_is)
    (case z12 => k_is)
    (case z13 => k_is)
    (case z14 => k_is)
    (case z15 => k_is)
    (case z16 => k_is)
    (case z17 => k_is)
    (case x_BadEntry => (refine' FD.xcls_mk ?e1XBadEntry ?e2XBadEntry ?e3XBadEntry ?e4XBadEntry ?e5XBadEntry ?e6XBadEntry ?e7XBadEntry ?e8XBadEntry ?e9XBadEntry ?d1XBadEntry ?d2XBadEntry ?d3XBadEntry ?d4XBadEntry ?d5XBadEntry ?d6XBadEntry ?d7XBadEntry ?d8XBadEntry ?d9XBadEntry ?b1XBadEntry ?b2XBadEntry ?b3XBadEntry ?b4XBadEntry ?b5XBadEntry ?b6XBadEntry ?b7XBadEntry ?b8XBadEntry ?b9XBadEntry ?h1XBadEntry ?h2XBadEntry; (case e1XBadEntry => k_is); (case e2XBadEntry => k_is); (case e3XBadEntry => k_is); (case e4XBadEntry => rfl); (case e5XBadEntry => rfl); (case e6XBadEntry => rfl); (case e7XBadEntry => exact fun _ _ => rfl); (case e8XBadEntry => exact ⟨rfl, rfl, rfl, rfl, rfl, by decide +kernel, rfl, rfl⟩); (case e9XBadEntry => exact fun _ => ⟨rfl, rfl, rfl, _, rfl⟩); (case d1XBadEntry => k_is); (case d2XBadEntry => rfl); (case d3XBadEntry => first | rfl | decide +kernel); (case d4XBadEntry => k_is); (case d5XBadEntry => first | rfl | decide +kernel); (case d6XBadEntry => exact ⟨by decide +kernel, by decide +kernel⟩); (case d7XBadEntry => k_is); (case d8XBadEntry => rfl); (case d9XBadEntry => first | rfl | decide +kernel); (case b1XBadEntry => k_is); (case b2XBadEntry => k_is); (case b3XBadEntry => ks_is); (case b4XBadEntry => k_is); (case b5XBadEntry => kx_is); (case b6XBadEntry => k_is); (case b7XBadEntry => k_is); (case b8XBadEntry => k_is); (case b9XBadEntry => k_is); (case h1XBadEntry => k_is); (case h2XBadEntry => k_is)))
    (case x_BadKind => (refine' FD.xcls_mk ?e1XBadKind ?e2XBadKind ?e3XBadKind ?e4XBadKind ?e5XBadKind ?e6XBadKind ?e7XBadKind ?e8XBadKind ?e9XBadKind ?d1XBadKind ?d2XBadKind ?d3XBadKind ?d4XBadKind ?d5XBadKind ?d6XBadKind ?d7XBadKind ?d8XBadKind ?d9XBadKind ?b1XBadKind ?b2XBadKind ?b3XBadKind ?b4XBadKind ?b5XBadKind ?b6XBadKind ?b7XBadKind ?b8XBadKind ?b9XBadKind ?h1XBadKind ?h2XBadKind; (case e1XBadKind => k_is); (case e2XBadKind => k_is); (case e3XBadKind => k_is); (case e4XBadKind => rfl); (case e5XBadKind => rfl); (case e6XBadKind => rfl); (case e7XBadKind => exact fun _ _ => rfl); (case e8XBadKind => exact ⟨rfl, rfl, rfl, rfl, rfl, by decide +kernel, rfl, rfl⟩); (case e9XBadKind => exact fun _ => ⟨rfl, rfl, rfl, _, rfl⟩); (case d1XBadKind => k_is); (case d2XBadKind => rfl); (case d3XBadKind => first | rfl | decide +kernel); (case d4XBadKind => k_is); (case d5XBadKind => first | rfl | decide +kernel); (case d6XBadKind => exact ⟨by decide +kernel, by decide +kernel⟩); (case d7XBadKind => k_is); (case d8XBadKind => rfl); (case d9XBadKind => first | rfl | decide +kernel); (case b1XBadKind => k_is); (case b2XBadKind => k_is); (case b3XBadKind => ks_is); (case b4XBadKind => k_is); (case b5XBadKind => kx_is); (case b6XBadKind => k_is); (case b7XBadKind => k_is); (case b8XBadKind => k_is); (case b9XBadKind => k_is); (case h1XBadKind => k_is); (case h2XBadKind => k_is)))
    (case x_BadLine => (refine' FD.xcls_mk ?e1XBadLine ?e2XBadLine ?e3XBadLine ?e4XBadLine ?e5XBadLine ?e6XBadLine ?e7XBadLine ?e8XBadLine ?e9XBadLine ?d1XBadLine ?d2XBadLine ?d3XBadLine ?d4XBadLine ?d5XBadLine ?d6XBadLine ?d7XBadLine ?d8XBadLine ?d9XBadLine ?b1XBadLine ?b2XBadLine ?b3XBadLine ?b4XBadLine ?b5XBadLine ?b6XBadLine ?b7XBadLine ?b8XBadLine ?b9XBadLine ?h1XBadLine ?h2XBadLine; (case e1XBadLine => k_is); (case e2XBadLine => k_is); (case e3XBadLine => k_is); (case e4XBadLine => rfl); (case e5XBadLine => rfl); (case e6XBadLine => rfl); (case e7XBadLine => exact fun _ _ => rfl); (case e8XBadLine => exact ⟨rfl, rfl, rfl, rfl, rfl, by decide +kernel, rfl, rfl⟩); (case e9XBadLine => exact fun _ => ⟨rfl, rfl, rfl, _, rfl⟩); (case d1XBadLine => k_is); (case d2XBadLine => rfl); (case d3XBadLine => first | rfl | decide +kernel); (case d4XBadLine => k_is); (case d5XBadLine => first | rfl | decide +kernel); (case d6XBadLine => exact ⟨by decide +kernel, by decide +kernel⟩); (case d7XBadLine => k_is); (case d8XBadLine => rfl); (case d9XBadLine => first | rfl | decide +kernel); (case b1XBadLine => k_is); (case b2XBadLine => k_is); (case b3XBadLine => ks_is); (case b4XBadLine => k_is); (case b5XBadLine => kx_is); (case b6XBadLine => k_is); (case b7XBadLine => k_is); (case b8XBadLine => k_is); (case b9XBadLine => k_is); (case h1XBadLine => k_is); (case h2XBadLine => k_is)))
    (case x_BadTree => (refine' FD.xcls_mk ?e1XBadTree ?e2XBadTree ?e3XBadTree ?e4XBadTree ?e5XBadTree ?e6XBadTree ?e7XBadTree ?e8XBadTree ?e9XBadTree ?d1XBadTree ?d2XBadTree ?d3XBadTree ?d4XBadTree ?d5XBadTree ?d6XBadTree ?d7XBadTree ?d8XBadTree ?d9XBadTree ?b1XBadTree ?b2XBadTree ?b3XBadTree ?b4XBadTree ?b5XBadTree ?b6XBadTree ?b7XBadTree ?b8XBadTree ?b9XBadTree ?h1XBadTree ?h2XBadTree; (case e1XBadTree => k_is); (case e2XBadTree => k_is); (case e3XBadTree => k_is); (case e4XBadTree => rfl); (case e5XBadTree => rfl); (case e6XBadTree => rfl); (case e7XBadTree => exact fun _ _ => rfl); (case e8XBadTree => exact ⟨rfl, rfl, rfl, rfl, rfl, by decide +kernel, rfl, rfl⟩); (case e9XBadTree => exact fun _ => ⟨rfl, rfl, rfl, _, rfl⟩); (case d1XBadTree => k_is); (case d2XBadTree => rfl); (case d3XBadTree => first | rfl | decide +kernel); (case d4XBadTree => k_is); (case d5XBadTree => first | rfl | decide +kernel); (case d6XBadTree => exact ⟨by decide +kernel, by decide +kernel⟩); (case d7XBadTree => k_is); (case d8XBadTree => rfl); (case d9XBadTree => first | rfl | decide +kernel); (case b1XBadTree => k_is); (case b2XBadTree => k_is); (case b3XBadTree => ks_is); (case b4XBadTree => k_is); (case b5XBadTree => kx_is); (case b6XBadTree => k_is); (case b7XBadTree => k_is); (case b8XBadTree => k_is); (case b9XBadTree => k_is); (case h1XBadTree => k_is); (case h2XBadTree => k_is)))
    (case x_Clash => (refine' FD.xcls_mk ?e1XClash ?e2XClash ?e3XClash ?e4XClash ?e5XClash ?e6XClash ?e7XClash ?e8XClash ?e9XClash ?d1XClash ?d2XClash ?d3XClash ?d4XClash ?d5XClash ?d6XClash ?d7XClash ?d8XClash ?d9XClash ?b1XClash ?b2XClash ?b3XClash ?b4XClash ?b5XClash ?b6XClash ?b7XClash ?b8XClash ?b9XClash ?h1XClash ?h2XClash; (case e1XClash => k_is); (case e2XClash => k_is); (case e3XClash => k_is); (case e4XClash => rfl); (case e5XClash => rfl); (case e6XClash => rfl); (case e7XClash => exact fun _ _ => rfl); (case e8XClash => exact ⟨rfl, rfl, rfl, rfl, rfl, by decide +kernel, rfl, rfl⟩); (case e9XClash => exact fun _ => ⟨rfl, rfl, rfl, _, rfl⟩); (case d1XClash => k_is); (case d2XClash => rfl); (case d3XClash => first | rfl | decide +kernel); (case d4XClash => k_is); (case d5XClash => first | rfl | decide +kernel); (case d6XClash => exact ⟨by decide +kernel, by decide +kernel⟩); (case d7XClash => k_is); (case d8XClash => rfl); (case d9XClash => first | rfl | decide +kernel); (case b1XClash => k_is); (case b2XClash => k_is); (case b3XClash => ks_is); (case b4XClash => k_is); (case b5XClash => kx_is); (case b6XClash => k_is); (case b7XClash => k_is); (case b8XClash => k_is); (case b9XClash => k_is); (case h1XClash => k_is); (case h2XClash => k_is)))
    (case x_Conflict => (refine' FD.xcls_mk ?e1XConflict ?e2XConflict ?e3XConflict ?e4XConflict ?e5XConflict ?e6XConflict ?e7XConflict ?e8XConflict ?e9XConflict ?d1XConflict ?d2XConflict ?d3XConflict ?d4XConflict ?d5XConflict ?d6XConflict ?d7XConflict ?d8XConflict ?d9XConflict ?b1XConflict ?b2XConflict ?b3XConflict ?b4XConflict ?b5XConflict ?b6XConflict ?b7XConflict ?b8XConflict ?b9XConflict ?h1XConflict ?h2XConflict; (case e1XConflict => k_is); (case e2XConflict => k_is); (case e3XConflict => k_is); (case e4XConflict => rfl); (case e5XConflict => rfl); (case e6XConflict => rfl); (case e7XConflict => exact fun _ _ => rfl); (case e8XConflict => exact ⟨rfl, rfl, rfl, rfl, rfl, by decide +kernel, rfl, rfl⟩); (case e9XConflict => exact fun _ => ⟨rfl, rfl, rfl, _, rfl⟩); (case d1XConflict => k_is); (case d2XConflict => rfl); (case d3XConflict => first | rfl | decide +kernel); (case d4XConflict => k_is); (case d5XConflict => first | rfl | decide +kernel); (case d6XConflict => exact ⟨by decide +kernel, by decide +kernel⟩); (case d7XConflict => k_is); (case d8XConflict => rfl); (case d9XConflict => first | rfl | decide +kernel); (case b1XConflict => k_is); (case b2XConflict => k_is); (case b3XConflict => ks_is); (case b4XConflict => k_is); (case b5XConflict => kx_is); (case b6XConflict => k_is); (case b7XConflict => k_is); (case b8XConflict => k_is); (case b9XConflict => k_is); (case h1XConflict => k_is); (case h2XConflict => k_is)))
    (case x_Failed => (refine' FD.xcls_mk ?e1XFailed ?e2XFailed ?e3XFailed ?e4XFailed ?e5XFailed ?e6XFailed ?e7XFailed ?e8XFailed ?e9XFailed ?d1XFailed ?d2XFailed ?d3XFailed ?d4XFailed ?d5XFailed ?d6XFailed ?d7XFailed ?d8XFailed ?d9XFailed ?b1XFailed ?b2XFailed ?b3XFailed ?b4XFailed ?b5XFailed ?b6XFailed ?b7XFailed ?b8XFailed ?b9XFailed ?h1XFailed ?h2XFailed; (case e1XFailed => k_is); (case e2XFailed => k_is); (case e3XFailed => k_is); (case e4XFailed => rfl); (case e5XFailed => rfl); (case e6XFailed => rfl); (case e7XFailed => exact fun _ _ => rfl); (case e8XFailed => exact ⟨rfl, rfl, rfl, rfl, rfl, by decide +kernel, rfl, rfl⟩); (case e9XFailed => exact fun _ => ⟨rfl, rfl, rfl, _, rfl⟩); (case d1XFailed => k_is); (case d2XFailed => rfl); (case d3XFailed => first | rfl | decide +kernel); (case d4XFailed => k_is); (case d5XFailed => first | rfl | decide +kernel); (case d6XFailed => exact ⟨by decide +kernel, by decide +kernel⟩); (case d7XFailed => k_is); (case d8XFailed => rfl); (case d9XFailed => first | rfl | decide +kernel); (case b1XFailed => k_is); (case b2XFailed => k_is); (case b3XFailed => ks_is); (case b4XFailed => k_is); (case b5XFailed => kx_is); (case b6XFailed => k_is); (case b7XFailed => k_is); (case b8XFailed => k_is); (case b9XFailed => k_is); (case h1XFailed => k_is); (case h2XFailed => k_is)))
    (case x_Gap => (refine' FD.xcls_mk ?e1XGap ?e2XGap ?e3XGap ?e4XGap ?e5XGap ?e6XGap ?e7XGap ?e8XGap ?e9XGap ?d1XGap ?d2XGap ?d3XGap ?d4XGap ?d5XGap ?d6XGap ?d7XGap ?d8XGap ?d9XGap ?b1XGap ?b2XGap ?b3XGap ?b4XGap ?b5XGap ?b6XGap ?b7XGap ?b8XGap ?b9XGap ?h1XGap ?h2XGap; (case e1XGap => k_is); (case e2XGap => k_is); (case e3XGap => k_is); (case e4XGap => rfl); (case e5XGap => rfl); (case e6XGap => rfl); (case e7XGap => exact fun _ _ => rfl); (case e8XGap => exact ⟨rfl, rfl, rfl, rfl, rfl, by decide +kernel, rfl, rfl⟩); (case e9XGap => exact fun _ => ⟨rfl, rfl, rfl, _, rfl⟩); (case d1XGap => k_is); (case d2XGap => rfl); (case d3XGap => first | rfl | decide +kernel); (case d4XGap => k_is); (case d5XGap => first | rfl | decide +kernel); (case d6XGap => exact ⟨by decide +kernel, by decide +kernel⟩); (case d7XGap => k_is); (case d8XGap => rfl); (case d9XGap => first | rfl | decide +kernel); (case b1XGap => k_is); (case b2XGap => k_is); (case b3XGap => ks_is); (case b4XGap => k_is); (case b5XGap => kx_is); (case b6XGap => k_is); (case b7XGap => k_is); (case b8XGap => k_is); (case b9XGap => k_is); (case h1XGap => k_is); (case h2XGap => k_is)))
    (case x_Mismatch => (refine' FD.xcls_mk ?e1XMismatch ?e2XMismatch ?e3XMismatch ?e4XMismatch ?e5XMismatch ?e6XMismatch ?e7XMismatch ?e8XMismatch ?e9XMismatch ?d1XMismatch ?d2XMismatch ?d3XMismatch ?d4XMismatch ?d5XMismatch ?d6XMismatch ?d7XMismatch ?d8XMismatch ?d9XMismatch ?b1XMismatch ?b2XMismatch ?b3XMismatch ?b4XMismatch ?b5XMismatch ?b6XMismatch ?b7XMismatch ?b8XMismatch ?b9XMismatch ?h1XMismatch ?h2XMismatch; (case e1XMismatch => k_is); (case e2XMismatch => k_is); (case e3XMismatch => k_is); (case e4XMismatch => rfl); (case e5XMismatch => rfl); (case e6XMismatch => rfl); (case e7XMismatch => exact fun _ _ => rfl); (case e8XMismatch => exact ⟨rfl, rfl, rfl, rfl, rfl, by decide +kernel, rfl, rfl⟩); (case e9XMismatch => exact fun _ => ⟨rfl, rfl, rfl, _, rfl⟩); (case d1XMismatch => k_is); (case d2XMismatch => rfl); (case d3XMismatch => first | rfl | decide +kernel); (case d4XMismatch => k_is); (case d5XMismatch => first | rfl | decide +kernel); (case d6XMismatch => exact ⟨by decide +kernel, by decide +kernel⟩); (case d7XMismatch => k_is); (case d8XMismatch => rfl); (case d9XMismatch => first | rfl | decide +kernel); (case b1XMismatch => k_is); (case b2XMismatch => k_is); (case b3XMismatch => ks_is); (case b4XMismatch => k_is); (case b5XMismatch => kx_is); (case b6XMismatch => k_is); (case b7XMismatch => k_is); (case b8XMismatch => k_is); (case b9XMismatch => k_is); (case h1XMismatch => k_is); (case h2XMismatch => k_is)))
    (case x_NoPlace => (refine' FD.xcls_mk ?e1XNoPlace ?e2XNoPlace ?e3XNoPlace ?e4XNoPlace ?e5XNoPlace ?e6XNoPlace ?e7XNoPlace ?e8XNoPlace ?e9XNoPlace ?d1XNoPlace ?d2XNoPlace ?d3XNoPlace ?d4XNoPlace ?d5XNoPlace ?d6XNoPlace ?d7XNoPlace ?d8XNoPlace ?d9XNoPlace ?b1XNoPlace ?b2XNoPlace ?b3XNoPlace ?b4XNoPlace ?b5XNoPlace ?b6XNoPlace ?b7XNoPlace ?b8XNoPlace ?b9XNoPlace ?h1XNoPlace ?h2XNoPlace; (case e1XNoPlace => k_is); (case e2XNoPlace => k_is); (case e3XNoPlace => k_is); (case e4XNoPlace => rfl); (case e5XNoPlace => rfl); (case e6XNoPlace => rfl); (case e7XNoPlace => exact fun _ _ => rfl); (case e8XNoPlace => exact ⟨rfl, rfl, rfl, rfl, rfl, by decide +kernel, rfl, rfl⟩); (case e9XNoPlace => exact fun _ => ⟨rfl, rfl, rfl, _, rfl⟩); (case d1XNoPlace => k_is); (case d2XNoPlace => rfl); (case d3XNoPlace => first | rfl | decide +kernel); (case d4XNoPlace => k_is); (case d5XNoPlace => first | rfl | decide +kernel); (case d6XNoPlace => exact ⟨by decide +kernel, by decide +kernel⟩); (case d7XNoPlace => k_is); (case d8XNoPlace => rfl); (case d9XNoPlace => first | rfl | decide +kernel); (case b1XNoPlace => k_is); (case b2XNoPlace => k_is); (case b3XNoPlace => ks_is); (case b4XNoPlace => k_is); (case b5XNoPlace => kx_is); (case b6XNoPlace => k_is); (case b7XNoPlace => k_is); (case b8XNoPlace => k_is); (case b9XNoPlace => k_is); (case h1XNoPlace => k_is); (case h2XNoPlace => k_is)))
    (case x_NoTarget => (refine' FD.xcls_mk ?e1XNoTarget ?e2XNoTarget ?e3XNoTarget ?e4XNoTarget ?e5XNoTarget ?e6XNoTarget ?e7XNoTarget ?e8XNoTarget ?e9XNoTarget ?d1XNoTarget ?d2XNoTarget ?d3XNoTarget ?d4XNoTarget ?d5XNoTarget ?d6XNoTarget ?d7XNoTarget ?d8XNoTarget ?d9XNoTarget ?b1XNoTarget ?b2XNoTarget ?b3XNoTarget ?b4XNoTarget ?b5XNoTarget ?b6XNoTarget ?b7XNoTarget ?b8XNoTarget ?b9XNoTarget ?h1XNoTarget ?h2XNoTarget; (case e1XNoTarget => k_is); (case e2XNoTarget => k_is); (case e3XNoTarget => k_is); (case e4XNoTarget => rfl); (case e5XNoTarget => rfl); (case e6XNoTarget => rfl); (case e7XNoTarget => exact fun _ _ => rfl); (case e8XNoTarget => exact ⟨rfl, rfl, rfl, rfl, rfl, by decide +kernel, rfl, rfl⟩); (case e9XNoTarget => exact fun _ => ⟨rfl, rfl, rfl, _, rfl⟩); (case d1XNoTarget => k_is); (case d2XNoTarget => rfl); (case d3XNoTarget => first | rfl | decide +kernel); (case d4XNoTarget => k_is); (case d5XNoTarget => first | rfl | decide +kernel); (case d6XNoTarget => exact ⟨by decide +kernel, by decide +kernel⟩); (case d7XNoTarget => k_is); (case d8XNoTarget => rfl); (case d9XNoTarget => first | rfl | decide +kernel); (case b1XNoTarget => k_is); (case b2XNoTarget => k_is); (case b3XNoTarget => ks_is); (case b4XNoTarget => k_is); (case b5XNoTarget => kx_is); (case b6XNoTarget => k_is); (case b7XNoTarget => k_is); (case b8XNoTarget => k_is); (case b9XNoTarget => k_is); (case h1XNoTarget => k_is); (case h2XNoTarget => k_is)))
    (case x_NoVersion => (refine' FD.xcls_mkI ?e1XNoVersion ?e2XNoVersion ?e3XNoVersion ?e4XNoVersion ?e5XNoVersion ?e6XNoVersion ?e7XNoVersion ?e8XNoVersion ?e9XNoVersion ?d1XNoVersion ?d2XNoVersion ?d3XNoVersion ?d4XNoVersion ?d5XNoVersion ?d6XNoVersion ?d7XNoVersion ?d8XNoVersion ?d9XNoVersion ?b1XNoVersion ?b2XNoVersion ?b3XNoVersion ?b4XNoVersion ?b5XNoVersion ?b6XNoVersion ?b7XNoVersion ?b8XNoVersion ?b9XNoVersion ?h1XNoVersion ?h2XNoVersion; (case e1XNoVersion => k_is); (case e2XNoVersion => k_is); (case e3XNoVersion => k_is); (case e4XNoVersion => rfl); (case e5XNoVersion => rfl); (case e6XNoVersion => rfl); (case e7XNoVersion => exact fun _ _ => rfl); (case e8XNoVersion => exact ⟨rfl, rfl, rfl, rfl, rfl, by decide +kernel, rfl, rfl⟩); (case e9XNoVersion => exact fun _ => ⟨rfl, rfl, rfl, _, rfl⟩); (case d1XNoVersion => k_is); (case d2XNoVersion => rfl); (case d3XNoVersion => first | rfl | decide +kernel); (case d4XNoVersion => k_is); (case d5XNoVersion => first | rfl | decide +kernel); (case d6XNoVersion => exact ⟨by decide +kernel, by decide +kernel⟩); (case d7XNoVersion => k_is); (case d8XNoVersion => rfl); (case d9XNoVersion => first | rfl | decide +kernel); (case b1XNoVersion => k_is); (case b2XNoVersion => k_is); (case b3XNoVersion => ks_is); (case b4XNoVersion => k_is); (case b5XNoVersion => kx_is); (case b6XNoVersion => k_is); (case b7XNoVersion => k_is); (case b8XNoVersion => k_is); (case b9XNoVersion => k_is); (case h1XNoVersion => k_is); (case h2XNoVersion => k_is)))
    (case x_NotAsked => (refine' FD.xcls_mkK ?e1XNotAsked ?e2XNotAsked ?e3XNotAsked ?e4XNotAsked ?e5XNotAsked ?e6XNotAsked ?e7XNotAsked ?e8XNotAsked ?e9XNotAsked ?d1XNotAsked ?d2XNotAsked ?d3XNotAsked ?d4XNotAsked ?d5XNotAsked ?d6XNotAsked ?d7XNotAsked ?d8XNotAsked ?d9XNotAsked ?b1XNotAsked ?b2XNotAsked ?b3XNotAsked ?b4XNotAsked ?b5XNotAsked ?b6XNotAsked ?b7XNotAsked ?b8XNotAsked ?b9XNotAsked ?h1XNotAsked ?h2XNotAsked; (case e1XNotAsked => k_is); (case e2XNotAsked => k_is); (case e3XNotAsked => k_is); (case e4XNotAsked => rfl); (case e5XNotAsked => rfl); (case e6XNotAsked => rfl); (case e7XNotAsked => exact fun _ _ => rfl); (case e8XNotAsked => exact ⟨rfl, rfl, rfl, rfl, rfl, by decide +kernel, rfl, rfl⟩); (case e9XNotAsked => exact fun _ => ⟨rfl, rfl, rfl, _, rfl⟩); (case d1XNotAsked => k_is); (case d2XNotAsked => rfl); (case d3XNotAsked => first | rfl | decide +kernel); (case d4XNotAsked => k_is); (case d5XNotAsked => first | rfl | decide +kernel); (case d6XNotAsked => exact ⟨by decide +kernel, by decide +kernel⟩); (case d7XNotAsked => k_is); (case d8XNotAsked => rfl); (case d9XNotAsked => first | rfl | decide +kernel); (case b1XNotAsked => k_is); (case b2XNotAsked => k_is); (case b3XNotAsked => ks_is); (case b4XNotAsked => k_is); (case b5XNotAsked => kx_is); (case b6XNotAsked => k_is); (case b7XNotAsked => k_is); (case b8XNotAsked => k_is); (case b9XNotAsked => k_is); (case h1XNotAsked => k_is); (case h2XNotAsked => k_is)))
    (case x_NotCause => (refine' FD.xcls_mk ?e1XNotCause ?e2XNotCause ?e3XNotCause ?e4XNotCause ?e5XNotCause ?e6XNotCause ?e7XNotCause ?e8XNotCause ?e9XNotCause ?d1XNotCause ?d2XNotCause ?d3XNotCause ?d4XNotCause ?d5XNotCause ?d6XNotCause ?d7XNotCause ?d8XNotCause ?d9XNotCause ?b1XNotCause ?b2XNotCause ?b3XNotCause ?b4XNotCause ?b5XNotCause ?b6XNotCause ?b7XNotCause ?b8XNotCause ?b9XNotCause ?h1XNotCause ?h2XNotCause; (case e1XNotCause => k_is); (case e2XNotCause => k_is); (case e3XNotCause => k_is); (case e4XNotCause => rfl); (case e5XNotCause => rfl); (case e6XNotCause => rfl); (case e7XNotCause => exact fun _ _ => rfl); (case e8XNotCause => exact ⟨rfl, rfl, rfl, rfl, rfl, by decide +kernel, rfl, rfl⟩); (case e9XNotCause => exact fun _ => ⟨rfl, rfl, rfl, _, rfl⟩); (case d1XNotCause => k_is); (case d2XNotCause => rfl); (case d3XNotCause => first | rfl | decide +kernel); (case d4XNotCause => k_is); (case d5XNotCause => first | rfl | decide +kernel); (case d6XNotCause => exact ⟨by decide +kernel, by decide +kernel⟩); (case d7XNotCause => k_is); (case d8XNotCause => rfl); (case d9XNotCause => first | rfl | decide +kernel); (case b1XNotCause => k_is); (case b2XNotCause => k_is); (case b3XNotCause => ks_is); (case b4XNotCause => k_is); (case b5XNotCause => kx_is); (case b6XNotCause => k_is); (case b7XNotCause => k_is); (case b8XNotCause => k_is); (case b9XNotCause => k_is); (case h1XNotCause => k_is); (case h2XNotCause => k_is)))
    (case x_NotFresh => (refine' FD.xcls_mk ?e1XNotFresh ?e2XNotFresh ?e3XNotFresh ?e4XNotFresh ?e5XNotFresh ?e6XNotFresh ?e7XNotFresh ?e8XNotFresh ?e9XNotFresh ?d1XNotFresh ?d2XNotFresh ?d3XNotFresh ?d4XNotFresh ?d5XNotFresh ?d6XNotFresh ?d7XNotFresh ?d8XNotFresh ?d9XNotFresh ?b1XNotFresh ?b2XNotFresh ?b3XNotFresh ?b4XNotFresh ?b5XNotFresh ?b6XNotFresh ?b7XNotFresh ?b8XNotFresh ?b9XNotFresh ?h1XNotFresh ?h2XNotFresh; (case e1XNotFresh => k_is); (case e2XNotFresh => k_is); (case e3XNotFresh => k_is); (case e4XNotFresh => rfl); (case e5XNotFresh => rfl); (case e6XNotFresh => rfl); (case e7XNotFresh => exact fun _ _ => rfl); (case e8XNotFresh => exact ⟨rfl, rfl, rfl, rfl, rfl, by decide +kernel, rfl, rfl⟩); (case e9XNotFresh => exact fun _ => ⟨rfl, rfl, rfl, _, rfl⟩); (case d1XNotFresh => k_is); (case d2XNotFresh => rfl); (case d3XNotFresh => first | rfl | decide +kernel); (case d4XNotFresh => k_is); (case d5XNotFresh => first | rfl | decide +kernel); (case d6XNotFresh => exact ⟨by decide +kernel, by decide +kernel⟩); (case d7XNotFresh => k_is); (case d8XNotFresh => rfl); (case d9XNotFresh => first | rfl | decide +kernel); (case b1XNotFresh => k_is); (case b2XNotFresh => k_is); (case b3XNotFresh => ks_is); (case b4XNotFresh => k_is); (case b5XNotFresh => kx_is); (case b6XNotFresh => k_is); (case b7XNotFresh => k_is); (case b8XNotFresh => k_is); (case b9XNotFresh => k_is); (case h1XNotFresh => k_is); (case h2XNotFresh => k_is)))
    (case x_NotNeeded => (refine' FD.xcls_mk ?e1XNotNeeded ?e2XNotNeeded ?e3XNotNeeded ?e4XNotNeeded ?e5XNotNeeded ?e6XNotNeeded ?e7XNotNeeded ?e8XNotNeeded ?e9XNotNeeded ?d1XNotNeeded ?d2XNotNeeded ?d3XNotNeeded ?d4XNotNeeded ?d5XNotNeeded ?d6XNotNeeded ?d7XNotNeeded ?d8XNotNeeded ?d9XNotNeeded ?b1XNotNeeded ?b2XNotNeeded ?b3XNotNeeded ?b4XNotNeeded ?b5XNotNeeded ?b6XNotNeeded ?b7XNotNeeded ?b8XNotNeeded ?b9XNotNeeded ?h1XNotNeeded ?h2XNotNeeded; (case e1XNotNeeded => k_is); (case e2XNotNeeded => k_is); (case e3XNotNeeded => k_is); (case e4XNotNeeded => rfl); (case e5XNotNeeded => rfl); (case e6XNotNeeded => rfl); (case e7XNotNeeded => exact fun _ _ => rfl); (case e8XNotNeeded => exact ⟨rfl, rfl, rfl, rfl, rfl, by decide +kernel, rfl, rfl⟩); (case e9XNotNeeded => exact fun _ => ⟨rfl, rfl, rfl, _, rfl⟩); (case d1XNotNeeded => k_is); (case d2XNotNeeded => rfl); (case d3XNotNeeded => first | rfl | decide +kernel); (case d4XNotNeeded => k_is); (case d5XNotNeeded => first | rfl | decide +kernel); (case d6XNotNeeded => exact ⟨by decide +kernel, by decide +kernel⟩); (case d7XNotNeeded => k_is); (case d8XNotNeeded => rfl); (case d9XNotNeeded => first | rfl | decide +kernel); (case b1XNotNeeded => k_is); (case b2XNotNeeded => k_is); (case b3XNotNeeded => ks_is); (case b4XNotNeeded => k_is); (case b5XNotNeeded => kx_is); (case b6XNotNeeded => k_is); (case b7XNotNeeded => k_is); (case b8XNotNeeded => k_is); (case b9XNotNeeded => k_is); (case h1XNotNeeded => k_is); (case h2XNotNeeded => k_is)))
    (case x_NotOpen => (refine' FD.xcls_mk ?e1XNotOpen ?e2XNotOpen ?e3XNotOpen ?e4XNotOpen ?e5XNotOpen ?e6XNotOpen ?e7XNotOpen ?e8XNotOpen ?e9XNotOpen ?d1XNotOpen ?d2XNotOpen ?d3XNotOpen ?d4XNotOpen ?d5XNotOpen ?d6XNotOpen ?d7XNotOpen ?d8XNotOpen ?d9XNotOpen ?b1XNotOpen ?b2XNotOpen ?b3XNotOpen ?b4XNotOpen ?b5XNotOpen ?b6XNotOpen ?b7XNotOpen ?b8XNotOpen ?b9XNotOpen ?h1XNotOpen ?h2XNotOpen; (case e1XNotOpen => k_is); (case e2XNotOpen => k_is); (case e3XNotOpen => k_is); (case e4XNotOpen => rfl); (case e5XNotOpen => rfl); (case e6XNotOpen => rfl); (case e7XNotOpen => exact fun _ _ => rfl); (case e8XNotOpen => exact ⟨rfl, rfl, rfl, rfl, rfl, by decide +kernel, rfl, rfl⟩); (case e9XNotOpen => exact fun _ => ⟨rfl, rfl, rfl, _, rfl⟩); (case d1XNotOpen => k_is); (case d2XNotOpen => rfl); (case d3XNotOpen => first | rfl | decide +kernel); (case d4XNotOpen => k_is); (case d5XNotOpen => first | rfl | decide +kernel); (case d6XNotOpen => exact ⟨by decide +kernel, by decide +kernel⟩); (case d7XNotOpen => k_is); (case d8XNotOpen => rfl); (case d9XNotOpen => first | rfl | decide +kernel); (case b1XNotOpen => k_is); (case b2XNotOpen => k_is); (case b3XNotOpen => ks_is); (case b4XNotOpen => k_is); (case b5XNotOpen => kx_is); (case b6XNotOpen => k_is); (case b7XNotOpen => k_is); (case b8XNotOpen => k_is); (case b9XNotOpen => k_is); (case h1XNotOpen => k_is); (case h2XNotOpen => k_is)))
    (case x_NotPart => (refine' FD.xcls_mk ?e1XNotPart ?e2XNotPart ?e3XNotPart ?e4XNotPart ?e5XNotPart ?e6XNotPart ?e7XNotPart ?e8XNotPart ?e9XNotPart ?d1XNotPart ?d2XNotPart ?d3XNotPart ?d4XNotPart ?d5XNotPart ?d6XNotPart ?d7XNotPart ?d8XNotPart ?d9XNotPart ?b1XNotPart ?b2XNotPart ?b3XNotPart ?b4XNotPart ?b5XNotPart ?b6XNotPart ?b7XNotPart ?b8XNotPart ?b9XNotPart ?h1XNotPart ?h2XNotPart; (case e1XNotPart => k_is); (case e2XNotPart => k_is); (case e3XNotPart => k_is); (case e4XNotPart => rfl); (case e5XNotPart => rfl); (case e6XNotPart => rfl); (case e7XNotPart => exact fun _ _ => rfl); (case e8XNotPart => exact ⟨rfl, rfl, rfl, rfl, rfl, by decide +kernel, rfl, rfl⟩); (case e9XNotPart => exact fun _ => ⟨rfl, rfl, rfl, _, rfl⟩); (case d1XNotPart => k_is); (case d2XNotPart => rfl); (case d3XNotPart => first | rfl | decide +kernel); (case d4XNotPart => k_is); (case d5XNotPart => first | rfl | decide +kernel); (case d6XNotPart => exact ⟨by decide +kernel, by decide +kernel⟩); (case d7XNotPart => k_is); (case d8XNotPart => rfl); (case d9XNotPart => first | rfl | decide +kernel); (case b1XNotPart => k_is); (case b2XNotPart => k_is); (case b3XNotPart => ks_is); (case b4XNotPart => k_is); (case b5XNotPart => kx_is); (case b6XNotPart => k_is); (case b7XNotPart => k_is); (case b8XNotPart => k_is); (case b9XNotPart => k_is); (case h1XNotPart => k_is); (case h2XNotPart => k_is)))
    (case x_NotSettled => (refine' FD.xcls_mk ?e1XNotSettled ?e2XNotSettled ?e3XNotSettled ?e4XNotSettled ?e5XNotSettled ?e6XNotSettled ?e7XNotSettled ?e8XNotSettled ?e9XNotSettled ?d1XNotSettled ?d2XNotSettled ?d3XNotSettled ?d4XNotSettled ?d5XNotSettled ?d6XNotSettled ?d7XNotSettled ?d8XNotSettled ?d9XNotSettled ?b1XNotSettled ?b2XNotSettled ?b3XNotSettled ?b4XNotSettled ?b5XNotSettled ?b6XNotSettled ?b7XNotSettled ?b8XNotSettled ?b9XNotSettled ?h1XNotSettled ?h2XNotSettled; (case e1XNotSettled => k_is); (case e2XNotSettled => k_is); (case e3XNotSettled => k_is); (case e4XNotSettled => rfl); (case e5XNotSettled => rfl); (case e6XNotSettled => rfl); (case e7XNotSettled => exact fun _ _ => rfl); (case e8XNotSettled => exact ⟨rfl, rfl, rfl, rfl, rfl, by decide +kernel, rfl, rfl⟩); (case e9XNotSettled => exact fun _ => ⟨rfl, rfl, rfl, _, rfl⟩); (case d1XNotSettled => k_is); (case d2XNotSettled => rfl); (case d3XNotSettled => first | rfl | decide +kernel); (case d4XNotSettled => k_is); (case d5XNotSettled => first | rfl | decide +kernel); (case d6XNotSettled => exact ⟨by decide +kernel, by decide +kernel⟩); (case d7XNotSettled => k_is); (case d8XNotSettled => rfl); (case d9XNotSettled => first | rfl | decide +kernel); (case b1XNotSettled => k_is); (case b2XNotSettled => k_is); (case b3XNotSettled => ks_is); (case b4XNotSettled => k_is); (case b5XNotSettled => kx_is); (case b6XNotSettled => k_is); (case b7XNotSettled => k_is); (case b8XNotSettled => k_is); (case b9XNotSettled => k_is); (case h1XNotSettled => k_is); (case h2XNotSettled => k_is)))
    (case x_NotSource => (refine' FD.xcls_mk ?e1XNotSource ?e2XNotSource ?e3XNotSource ?e4XNotSource ?e5XNotSource ?e6XNotSource ?e7XNotSource ?e8XNotSource ?e9XNotSource ?d1XNotSource ?d2XNotSource ?d3XNotSource ?d4XNotSource ?d5XNotSource ?d6XNotSource ?d7XNotSource ?d8XNotSource ?d9XNotSource ?b1XNotSource ?b2XNotSource ?b3XNotSource ?b4XNotSource ?b5XNotSource ?b6XNotSource ?b7XNotSource ?b8XNotSource ?b9XNotSource ?h1XNotSource ?h2XNotSource; (case e1XNotSource => k_is); (case e2XNotSource => k_is); (case e3XNotSource => k_is); (case e4XNotSource => rfl); (case e5XNotSource => rfl); (case e6XNotSource => rfl); (case e7XNotSource => exact fun _ _ => rfl); (case e8XNotSource => exact ⟨rfl, rfl, rfl, rfl, rfl, by decide +kernel, rfl, rfl⟩); (case e9XNotSource => exact fun _ => ⟨rfl, rfl, rfl, _, rfl⟩); (case d1XNotSource => k_is); (case d2XNotSource => rfl); (case d3XNotSource => first | rfl | decide +kernel); (case d4XNotSource => k_is); (case d5XNotSource => first | rfl | decide +kernel); (case d6XNotSource => exact ⟨by decide +kernel, by decide +kernel⟩); (case d7XNotSource => k_is); (case d8XNotSource => rfl); (case d9XNotSource => first | rfl | decide +kernel); (case b1XNotSource => k_is); (case b2XNotSource => k_is); (case b3XNotSource => ks_is); (case b4XNotSource => k_is); (case b5XNotSource => kx_is); (case b6XNotSource => k_is); (case b7XNotSource => k_is); (case b8XNotSource => k_is); (case b9XNotSource => k_is); (case h1XNotSource => k_is); (case h2XNotSource => k_is)))
    (case x_Rewritten => (refine' FD.xcls_mk ?e1XRewritten ?e2XRewritten ?e3XRewritten ?e4XRewritten ?e5XRewritten ?e6XRewritten ?e7XRewritten ?e8XRewritten ?e9XRewritten ?d1XRewritten ?d2XRewritten ?d3XRewritten ?d4XRewritten ?d5XRewritten ?d6XRewritten ?d7XRewritten ?d8XRewritten ?d9XRewritten ?b1XRewritten ?b2XRewritten ?b3XRewritten ?b4XRewritten ?b5XRewritten ?b6XRewritten ?b7XRewritten ?b8XRewritten ?b9XRewritten ?h1XRewritten ?h2XRewritten; (case e1XRewritten => k_is); (case e2XRewritten => k_is); (case e3XRewritten => k_is); (case e4XRewritten => rfl); (case e5XRewritten => rfl); (case e6XRewritten => rfl); (case e7XRewritten => exact fun _ _ => rfl); (case e8XRewritten => exact ⟨rfl, rfl, rfl, rfl, rfl, by decide +kernel, rfl, rfl⟩); (case e9XRewritten => exact fun _ => ⟨rfl, rfl, rfl, _, rfl⟩); (case d1XRewritten => k_is); (case d2XRewritten => rfl); (case d3XRewritten => first | rfl | decide +kernel); (case d4XRewritten => k_is); (case d5XRewritten => first | rfl | decide +kernel); (case d6XRewritten => exact ⟨by decide +kernel, by decide +kernel⟩); (case d7XRewritten => k_is); (case d8XRewritten => rfl); (case d9XRewritten => first | rfl | decide +kernel); (case b1XRewritten => k_is); (case b2XRewritten => k_is); (case b3XRewritten => ks_is); (case b4XRewritten => k_is); (case b5XRewritten => kx_is); (case b6XRewritten => k_is); (case b7XRewritten => k_is); (case b8XRewritten => k_is); (case b9XRewritten => k_is); (case h1XRewritten => k_is); (case h2XRewritten => k_is)))
    (case x_Stuck => (refine' FD.xcls_mk ?e1XStuck ?e2XStuck ?e3XStuck ?e4XStuck ?e5XStuck ?e6XStuck ?e7XStuck ?e8XStuck ?e9XStuck ?d1XStuck ?d2XStuck ?d3XStuck ?d4XStuck ?d5XStuck ?d6XStuck ?d7XStuck ?d8XStuck ?d9XStuck ?b1XStuck ?b2XStuck ?b3XStuck ?b4XStuck ?b5XStuck ?b6XStuck ?b7XStuck ?b8XStuck ?b9XStuck ?h1XStuck ?h2XStuck; (case e1XStuck => k_is); (case e2XStuck => k_is); (case e3XStuck => k_is); (case e4XStuck => rfl); (case e5XStuck => rfl); (case e6XStuck => rfl); (case e7XStuck => exact fun _ _ => rfl); (case e8XStuck => exact ⟨rfl, rfl, rfl, rfl, rfl, by decide +kernel, rfl, rfl⟩); (case e9XStuck => exact fun _ => ⟨rfl, rfl, rfl, _, rfl⟩); (case d1XStuck => k_is); (case d2XStuck => rfl); (case d3XStuck => first | rfl | decide +kernel); (case d4XStuck => k_is); (case d5XStuck => first | rfl | decide +kernel); (case d6XStuck => exact ⟨by decide +kernel, by decide +kernel⟩); (case d7XStuck => k_is); (case d8XStuck => rfl); (case d9XStuck => first | rfl | decide +kernel); (case b1XStuck => k_is); (case b2XStuck => k_is); (case b3XStuck => ks_is); (case b4XStuck => k_is); (case b5XStuck => kx_is); (case b6XStuck => k_is); (case b7XStuck => k_is); (case b8XStuck => k_is); (case b9XStuck => k_is); (case h1XStuck => k_is); (case h2XStuck => k_is)))
    (case x_Taken => (refine' FD.xcls_mk ?e1XTaken ?e2XTaken ?e3XTaken ?e4XTaken ?e5XTaken ?e6XTaken ?e7XTaken ?e8XTaken ?e9XTaken ?d1XTaken ?d2XTaken ?d3XTaken ?d4XTaken ?d5XTaken ?d6XTaken ?d7XTaken ?d8XTaken ?d9XTaken ?b1XTaken ?b2XTaken ?b3XTaken ?b4XTaken ?b5XTaken ?b6XTaken ?b7XTaken ?b8XTaken ?b9XTaken ?h1XTaken ?h2XTaken; (case e1XTaken => k_is); (case e2XTaken => k_is); (case e3XTaken => k_is); (case e4XTaken => rfl); (case e5XTaken => rfl); (case e6XTaken => rfl); (case e7XTaken => exact fun _ _ => rfl); (case e8XTaken => exact ⟨rfl, rfl, rfl, rfl, rfl, by decide +kernel, rfl, rfl⟩); (case e9XTaken => exact fun _ => ⟨rfl, rfl, rfl, _, rfl⟩); (case d1XTaken => k_is); (case d2XTaken => rfl); (case d3XTaken => first | rfl | decide +kernel); (case d4XTaken => k_is); (case d5XTaken => first | rfl | decide +kernel); (case d6XTaken => exact ⟨by decide +kernel, by decide +kernel⟩); (case d7XTaken => k_is); (case d8XTaken => rfl); (case d9XTaken => first | rfl | decide +kernel); (case b1XTaken => k_is); (case b2XTaken => k_is); (case b3XTaken => ks_is); (case b4XTaken => k_is); (case b5XTaken => kx_is); (case b6XTaken => k_is); (case b7XTaken => k_is); (case b8XTaken => k_is); (case b9XTaken => k_is); (case h1XTaken => k_is); (case h2XTaken => k_is)))
    (case x_Halted => (refine' FD.xcls0_mk ?e1XHalted ?e2XHalted ?e3XHalted ?e4XHalted ?e5XHalted ?e6XHalted ?e7XHalted ?e8XHalted ?e9XHalted ?d1XHalted ?d2XHalted ?d3XHalted ?d4XHalted ?d5XHalted ?d7XHalted ?b1XHalted ?b2XHalted ?b3XHalted ?b4XHalted ?b5XHalted ?b8XHalted ?b9XHalted ?h1XHalted ?h2XHalted; (case e1XHalted => k_is); (case e2XHalted => k_is); (case e3XHalted => k_is); (case e4XHalted => rfl); (case e5XHalted => rfl); (case e6XHalted => rfl); (case e7XHalted => exact fun _ => rfl); (case e8XHalted => exact ⟨rfl, rfl, rfl, rfl, by decide +kernel, rfl, rfl⟩); (case e9XHalted => exact fun _ => ⟨rfl, rfl, _, rfl⟩); (case d1XHalted => k_is); (case d2XHalted => rfl); (case d3XHalted => first | rfl | decide +kernel); (case d4XHalted => k_is); (case d5XHalted => first | rfl | decide +kernel); (case d7XHalted => k_is); (case b1XHalted => k_is); (case b2XHalted => k_is); (case b3XHalted => ks_is); (case b4XHalted => k_is); (case b5XHalted => kx_is); (case b8XHalted => k_is); (case b9XHalted => k_is); (case h1XHalted => k_is); (case h2XHalted => k_is)))
    (case x_NoRow => (refine' FD.xcls0_mk ?e1XNoRow ?e2XNoRow ?e3XNoRow ?e4XNoRow ?e5XNoRow ?e6XNoRow ?e7XNoRow ?e8XNoRow ?e9XNoRow ?d1XNoRow ?d2XNoRow ?d3XNoRow ?d4XNoRow ?d5XNoRow ?d7XNoRow ?b1XNoRow ?b2XNoRow ?b3XNoRow ?b4XNoRow ?b5XNoRow ?b8XNoRow ?b9XNoRow ?h1XNoRow ?h2XNoRow; (case e1XNoRow => k_is); (case e2XNoRow => k_is); (case e3XNoRow => k_is); (case e4XNoRow => rfl); (case e5XNoRow => rfl); (case e6XNoRow => rfl); (case e7XNoRow => exact fun _ => rfl); (case e8XNoRow => exact ⟨rfl, rfl, rfl, rfl, by decide +kernel, rfl, rfl⟩); (case e9XNoRow => exact fun _ => ⟨rfl, rfl, _, rfl⟩); (case d1XNoRow => k_is); (case d2XNoRow => rfl); (case d3XNoRow => first | rfl | decide +kernel); (case d4XNoRow => k_is); (case d5XNoRow => first | rfl | decide +kernel); (case d7XNoRow => k_is); (case b1XNoRow => k_is); (case b2XNoRow => k_is); (case b3XNoRow => ks_is); (case b4XNoRow => k_is); (case b5XNoRow => kx_is); (case b8XNoRow => k_is); (case b9XNoRow => k_is); (case h1XNoRow => k_is); (case h2XNoRow => k_is)))
    (case xw_BadEntry => (refine' FD.xcls_mkW ?e1XBadEntryW ?e2XBadEntryW ?e3XBadEntryW ?e4XBadEntryW ?e5XBadEntryW ?e6XBadEntryW ?e7XBadEntryW ?e8XBadEntryW ?e9XBadEntryW ?d1XBadEntryW ?d2XBadEntryW ?d3XBadEntryW ?d4XBadEntryW ?d5XBadEntryW ?d6XBadEntryW ?d7XBadEntryW ?d8XBadEntryW ?d9XBadEntryW ?b1XBadEntryW ?b2XBadEntryW ?b3XBadEntryW ?b4XBadEntryW ?b5XBadEntryW ?b6XBadEntryW ?b7XBadEntryW ?b8XBadEntryW ?b9XBadEntryW ?h1XBadEntryW ?h2XBadEntryW; (case e1XBadEntryW => k_is); (case e2XBadEntryW => k_is); (case e3XBadEntryW => k_is); (case e4XBadEntryW => rfl); (case e5XBadEntryW => rfl); (case e6XBadEntryW => rfl); (case e7XBadEntryW => exact fun _ _ => rfl); (case e8XBadEntryW => exact ⟨rfl, rfl, rfl, rfl, rfl, by decide +kernel, rfl, rfl⟩); (case e9XBadEntryW => exact fun _ => ⟨rfl, rfl, rfl, _, rfl⟩); (case d1XBadEntryW => k_is); (case d2XBadEntryW => rfl); (case d3XBadEntryW => first | rfl | decide +kernel); (case d4XBadEntryW => k_is); (case d5XBadEntryW => first | rfl | decide +kernel); (case d6XBadEntryW => exact ⟨by decide +kernel, by decide +kernel⟩); (case d7XBadEntryW => k_is); (case d8XBadEntryW => rfl); (case d9XBadEntryW => first | rfl | decide +kernel); (case b1XBadEntryW => k_is); (case b2XBadEntryW => k_is); (case b3XBadEntryW => ks_is); (case b4XBadEntryW => k_is); (case b5XBadEntryW => kx_is); (case b6XBadEntryW => k_is); (case b7XBadEntryW => k_is); (case b8XBadEntryW => k_is); (case b9XBadEntryW => k_is); (case h1XBadEntryW => k_is); (case h2XBadEntryW => k_is)))
    (case xw_BadLine => (refine' FD.xcls_mkW ?e1XBadLineW ?e2XBadLineW ?e3XBadLineW ?e4XBadLineW ?e5XBadLineW ?e6XBadLineW ?e7XBadLineW ?e8XBadLineW ?e9XBadLineW ?d1XBadLineW ?d2XBadLineW ?d3XBadLineW ?d4XBadLineW ?d5XBadLineW ?d6XBadLineW ?d7XBadLineW ?d8XBadLineW ?d9XBadLineW ?b1XBadLineW ?b2XBadLineW ?b3XBadLineW ?b4XBadLineW ?b5XBadLineW ?b6XBadLineW ?b7XBadLineW ?b8XBadLineW ?b9XBadLineW ?h1XBadLineW ?h2XBadLineW; (case e1XBadLineW => k_is); (case e2XBadLineW => k_is); (case e3XBadLineW => k_is); (case e4XBadLineW => rfl); (case e5XBadLineW => rfl); (case e6XBadLineW => rfl); (case e7XBadLineW => exact fun _ _ => rfl); (case e8XBadLineW => exact ⟨rfl, rfl, rfl, rfl, rfl, by decide +kernel, rfl, rfl⟩); (case e9XBadLineW => exact fun _ => ⟨rfl, rfl, rfl, _, rfl⟩); (case d1XBadLineW => k_is); (case d2XBadLineW => rfl); (case d3XBadLineW => first | rfl | decide +kernel); (case d4XBadLineW => k_is); (case d5XBadLineW => first | rfl | decide +kernel); (case d6XBadLineW => exact ⟨by decide +kernel, by decide +kernel⟩); (case d7XBadLineW => k_is); (case d8XBadLineW => rfl); (case d9XBadLineW => first | rfl | decide +kernel); (case b1XBadLineW => k_is); (case b2XBadLineW => k_is); (case b3XBadLineW => ks_is); (case b4XBadLineW => k_is); (case b5XBadLineW => kx_is); (case b6XBadLineW => k_is); (case b7XBadLineW => k_is); (case b8XBadLineW => k_is); (case b9XBadLineW => k_is); (case h1XBadLineW => k_is); (case h2XBadLineW => k_is)))
    (case xw_BadTree => (refine' FD.xcls_mkW ?e1XBadTreeW ?e2XBadTreeW ?e3XBadTreeW ?e4XBadTreeW ?e5XBadTreeW ?e6XBadTreeW ?e7XBadTreeW ?e8XBadTreeW ?e9XBadTreeW ?d1XBadTreeW ?d2XBadTreeW ?d3XBadTreeW ?d4XBadTreeW ?d5XBadTreeW ?d6XBadTreeW ?d7XBadTreeW ?d8XBadTreeW ?d9XBadTreeW ?b1XBadTreeW ?b2XBadTreeW ?b3XBadTreeW ?b4XBadTreeW ?b5XBadTreeW ?b6XBadTreeW ?b7XBadTreeW ?b8XBadTreeW ?b9XBadTreeW ?h1XBadTreeW ?h2XBadTreeW; (case e1XBadTreeW => k_is); (case e2XBadTreeW => k_is); (case e3XBadTreeW => k_is); (case e4XBadTreeW => rfl); (case e5XBadTreeW => rfl); (case e6XBadTreeW => rfl); (case e7XBadTreeW => exact fun _ _ => rfl); (case e8XBadTreeW => exact ⟨rfl, rfl, rfl, rfl, rfl, by decide +kernel, rfl, rfl⟩); (case e9XBadTreeW => exact fun _ => ⟨rfl, rfl, rfl, _, rfl⟩); (case d1XBadTreeW => k_is); (case d2XBadTreeW => rfl); (case d3XBadTreeW => first | rfl | decide +kernel); (case d4XBadTreeW => k_is); (case d5XBadTreeW => first | rfl | decide +kernel); (case d6XBadTreeW => exact ⟨by decide +kernel, by decide +kernel⟩); (case d7XBadTreeW => k_is); (case d8XBadTreeW => rfl); (case d9XBadTreeW => first | rfl | decide +kernel); (case b1XBadTreeW => k_is); (case b2XBadTreeW => k_is); (case b3XBadTreeW => ks_is); (case b4XBadTreeW => k_is); (case b5XBadTreeW => kx_is); (case b6XBadTreeW => k_is); (case b7XBadTreeW => k_is); (case b8XBadTreeW => k_is); (case b9XBadTreeW => k_is); (case h1XBadTreeW => k_is); (case h2XBadTreeW => k_is)))
    (case xw_Clash => (refine' FD.xcls_mkW ?e1XClashW ?e2XClashW ?e3XClashW ?e4XClashW ?e5XClashW ?e6XClashW ?e7XClashW ?e8XClashW ?e9XClashW ?d1XClashW ?d2XClashW ?d3XClashW ?d4XClashW ?d5XClashW ?d6XClashW ?d7XClashW ?d8XClashW ?d9XClashW ?b1XClashW ?b2XClashW ?b3XClashW ?b4XClashW ?b5XClashW ?b6XClashW ?b7XClashW ?b8XClashW ?b9XClashW ?h1XClashW ?h2XClashW; (case e1XClashW => k_is); (case e2XClashW => k_is); (case e3XClashW => k_is); (case e4XClashW => rfl); (case e5XClashW => rfl); (case e6XClashW => rfl); (case e7XClashW => exact fun _ _ => rfl); (case e8XClashW => exact ⟨rfl, rfl, rfl, rfl, rfl, by decide +kernel, rfl, rfl⟩); (case e9XClashW => exact fun _ => ⟨rfl, rfl, rfl, _, rfl⟩); (case d1XClashW => k_is); (case d2XClashW => rfl); (case d3XClashW => first | rfl | decide +kernel); (case d4XClashW => k_is); (case d5XClashW => first | rfl | decide +kernel); (case d6XClashW => exact ⟨by decide +kernel, by decide +kernel⟩); (case d7XClashW => k_is); (case d8XClashW => rfl); (case d9XClashW => first | rfl | decide +kernel); (case b1XClashW => k_is); (case b2XClashW => k_is); (case b3XClashW => ks_is); (case b4XClashW => k_is); (case b5XClashW => kx_is); (case b6XClashW => k_is); (case b7XClashW => k_is); (case b8XClashW => k_is); (case b9XClashW => k_is); (case h1XClashW => k_is); (case h2XClashW => k_is)))
    (case xw_Conflict => (refine' FD.xcls_mkW ?e1XConflictW ?e2XConflictW ?e3XConflictW ?e4XConflictW ?e5XConflictW ?e6XConflictW ?e7XConflictW ?e8XConflictW ?e9XConflictW ?d1XConflictW ?d2XConflictW ?d3XConflictW ?d4XConflictW ?d5XConflictW ?d6XConflictW ?d7XConflictW ?d8XConflictW ?d9XConflictW ?b1XConflictW ?b2XConflictW ?b3XConflictW ?b4XConflictW ?b5XConflictW ?b6XConflictW ?b7XConflictW ?b8XConflictW ?b9XConflictW ?h1XConflictW ?h2XConflictW; (case e1XConflictW => k_is); (case e2XConflictW => k_is); (case e3XConflictW => k_is); (case e4XConflictW => rfl); (case e5XConflictW => rfl); (case e6XConflictW => rfl); (case e7XConflictW => exact fun _ _ => rfl); (case e8XConflictW => exact ⟨rfl, rfl, rfl, rfl, rfl, by decide +kernel, rfl, rfl⟩); (case e9XConflictW => exact fun _ => ⟨rfl, rfl, rfl, _, rfl⟩); (case d1XConflictW => k_is); (case d2XConflictW => rfl); (case d3XConflictW => first | rfl | decide +kernel); (case d4XConflictW => k_is); (case d5XConflictW => first | rfl | decide +kernel); (case d6XConflictW => exact ⟨by decide +kernel, by decide +kernel⟩); (case d7XConflictW => k_is); (case d8XConflictW => rfl); (case d9XConflictW => first | rfl | decide +kernel); (case b1XConflictW => k_is); (case b2XConflictW => k_is); (case b3XConflictW => ks_is); (case b4XConflictW => k_is); (case b5XConflictW => kx_is); (case b6XConflictW => k_is); (case b7XConflictW => k_is); (case b8XConflictW => k_is); (case b9XConflictW => k_is); (case h1XConflictW => k_is); (case h2XConflictW => k_is)))
    (case xw_NoVersion => (refine' FD.xcls_mkWI ?e1XNoVersionW ?e2XNoVersionW ?e3XNoVersionW ?e4XNoVersionW ?e5XNoVersionW ?e6XNoVersionW ?e7XNoVersionW ?e8XNoVersionW ?e9XNoVersionW ?d1XNoVersionW ?d2XNoVersionW ?d3XNoVersionW ?d4XNoVersionW ?d5XNoVersionW ?d6XNoVersionW ?d7XNoVersionW ?d8XNoVersionW ?d9XNoVersionW ?b1XNoVersionW ?b2XNoVersionW ?b3XNoVersionW ?b4XNoVersionW ?b5XNoVersionW ?b6XNoVersionW ?b7XNoVersionW ?b8XNoVersionW ?b9XNoVersionW ?h1XNoVersionW ?h2XNoVersionW; (case e1XNoVersionW => k_is); (case e2XNoVersionW => k_is); (case e3XNoVersionW => k_is); (case e4XNoVersionW => rfl); (case e5XNoVersionW => rfl); (case e6XNoVersionW => rfl); (case e7XNoVersionW => exact fun _ _ => rfl); (case e8XNoVersionW => exact ⟨rfl, rfl, rfl, rfl, rfl, by decide +kernel, rfl, rfl⟩); (case e9XNoVersionW => exact fun _ => ⟨rfl, rfl, rfl, _, rfl⟩); (case d1XNoVersionW => k_is); (case d2XNoVersionW => rfl); (case d3XNoVersionW => first | rfl | decide +kernel); (case d4XNoVersionW => k_is); (case d5XNoVersionW => first | rfl | decide +kernel); (case d6XNoVersionW => exact ⟨by decide +kernel, by decide +kernel⟩); (case d7XNoVersionW => k_is); (case d8XNoVersionW => rfl); (case d9XNoVersionW => first | rfl | decide +kernel); (case b1XNoVersionW => k_is); (case b2XNoVersionW => k_is); (case b3XNoVersionW => ks_is); (case b4XNoVersionW => k_is); (case b5XNoVersionW => kx_is); (case b6XNoVersionW => k_is); (case b7XNoVersionW => k_is); (case b8XNoVersionW => k_is); (case b9XNoVersionW => k_is); (case h1XNoVersionW => k_is); (case h2XNoVersionW => k_is)))
    (case xw_NotAsked => (refine' FD.xcls_mkWK ?e1XNotAskedW ?e2XNotAskedW ?e3XNotAskedW ?e4XNotAskedW ?e5XNotAskedW ?e6XNotAskedW ?e7XNotAskedW ?e8XNotAskedW ?e9XNotAskedW ?d1XNotAskedW ?d2XNotAskedW ?d3XNotAskedW ?d4XNotAskedW ?d5XNotAskedW ?d6XNotAskedW ?d7XNotAskedW ?d8XNotAskedW ?d9XNotAskedW ?b1XNotAskedW ?b2XNotAskedW ?b3XNotAskedW ?b4XNotAskedW ?b5XNotAskedW ?b6XNotAskedW ?b7XNotAskedW ?b8XNotAskedW ?b9XNotAskedW ?h1XNotAskedW ?h2XNotAskedW; (case e1XNotAskedW => k_is); (case e2XNotAskedW => k_is); (case e3XNotAskedW => k_is); (case e4XNotAskedW => rfl); (case e5XNotAskedW => rfl); (case e6XNotAskedW => rfl); (case e7XNotAskedW => exact fun _ _ => rfl); (case e8XNotAskedW => exact ⟨rfl, rfl, rfl, rfl, rfl, by decide +kernel, rfl, rfl⟩); (case e9XNotAskedW => exact fun _ => ⟨rfl, rfl, rfl, _, rfl⟩); (case d1XNotAskedW => k_is); (case d2XNotAskedW => rfl); (case d3XNotAskedW => first | rfl | decide +kernel); (case d4XNotAskedW => k_is); (case d5XNotAskedW => first | rfl | decide +kernel); (case d6XNotAskedW => exact ⟨by decide +kernel, by decide +kernel⟩); (case d7XNotAskedW => k_is); (case d8XNotAskedW => rfl); (case d9XNotAskedW => first | rfl | decide +kernel); (case b1XNotAskedW => k_is); (case b2XNotAskedW => k_is); (case b3XNotAskedW => ks_is); (case b4XNotAskedW => k_is); (case b5XNotAskedW => kx_is); (case b6XNotAskedW => k_is); (case b7XNotAskedW => k_is); (case b8XNotAskedW => k_is); (case b9XNotAskedW => k_is); (case h1XNotAskedW => k_is); (case h2XNotAskedW => k_is)))
    (case xw_Stuck => (refine' FD.xcls_mkW ?e1XStuckW ?e2XStuckW ?e3XStuckW ?e4XStuckW ?e5XStuckW ?e6XStuckW ?e7XStuckW ?e8XStuckW ?e9XStuckW ?d1XStuckW ?d2XStuckW ?d3XStuckW ?d4XStuckW ?d5XStuckW ?d6XStuckW ?d7XStuckW ?d8XStuckW ?d9XStuckW ?b1XStuckW ?b2XStuckW ?b3XStuckW ?b4XStuckW ?b5XStuckW ?b6XStuckW ?b7XStuckW ?b8XStuckW ?b9XStuckW ?h1XStuckW ?h2XStuckW; (case e1XStuckW => k_is); (case e2XStuckW => k_is); (case e3XStuckW => k_is); (case e4XStuckW => rfl); (case e5XStuckW => rfl); (case e6XStuckW => rfl); (case e7XStuckW => exact fun _ _ => rfl); (case e8XStuckW => exact ⟨rfl, rfl, rfl, rfl, rfl, by decide +kernel, rfl, rfl⟩); (case e9XStuckW => exact fun _ => ⟨rfl, rfl, rfl, _, rfl⟩); (case d1XStuckW => k_is); (case d2XStuckW => rfl); (case d3XStuckW => first | rfl | decide +kernel); (case d4XStuckW => k_is); (case d5XStuckW => first | rfl | decide +kernel); (case d6XStuckW => exact ⟨by decide +kernel, by decide +kernel⟩); (case d7XStuckW => k_is); (case d8XStuckW => rfl); (case d9XStuckW => first | rfl | decide +kernel); (case b1XStuckW => k_is); (case b2XStuckW => k_is); (case b3XStuckW => ks_is); (case b4XStuckW => k_is); (case b5XStuckW => kx_is); (case b6XStuckW => k_is); (case b7XStuckW => k_is); (case b8XStuckW => k_is); (case b9XStuckW => k_is); (case h1XStuckW => k_is); (case h2XStuckW => k_is)))
    (case x2_BadName => (refine' FD.xcls2_mk ?e1XBadName ?e2XBadName ?e3XBadName ?e4XBadName ?e5XBadName ?e6XBadName ?e7XBadName ?e8XBadName ?e9XBadName ?d1XBadName ?d2XBadName ?d3XBadName ?d4XBadName ?d5XBadName ?d6XBadName ?d7XBadName ?d8XBadName ?d9XBadName ?b1XBadName ?b2XBadName ?b3XBadName ?b4XBadName ?b5XBadName ?b6XBadName ?b7XBadName ?b8XBadName ?b9XBadName ?b10XBadName ?h1XBadName ?h2XBadName; (case e1XBadName => k_is); (case e2XBadName => k_is); (case e3XBadName => k_is); (case e4XBadName => rfl); (case e5XBadName => rfl); (case e6XBadName => rfl); (case e7XBadName => exact fun _ _ _ => rfl); (case e8XBadName => exact ⟨rfl, rfl, rfl, rfl, rfl, rfl, by decide +kernel, rfl, rfl⟩); (case e9XBadName => exact fun _ => ⟨rfl, rfl, rfl, rfl, _, rfl⟩); (case d1XBadName => k_is); (case d2XBadName => rfl); (case d3XBadName => first | rfl | decide +kernel); (case d4XBadName => k_is); (case d5XBadName => first | rfl | decide +kernel); (case d6XBadName => exact ⟨by decide +kernel, by decide +kernel, by decide +kernel, by decide +kernel, by decide +kernel⟩); (case d7XBadName => k_is); (case d8XBadName => rfl); (case d9XBadName => first | rfl | decide +kernel); (case b1XBadName => k_is); (case b2XBadName => k_is); (case b3XBadName => ks_is); (case b4XBadName => k_is); (case b5XBadName => kx_is); (case b6XBadName => k_is); (case b7XBadName => k_is); (case b8XBadName => k_is); (case b9XBadName => k_is); (case h1XBadName => k_is); (case b10XBadName => k_is); (case h2XBadName => k_is)))
    (case xw2_BadName => (refine' FD.xcls2_mkW ?e1XBadNameW ?e2XBadNameW ?e3XBadNameW ?e4XBadNameW ?e5XBadNameW ?e6XBadNameW ?e7XBadNameW ?e8XBadNameW ?e9XBadNameW ?d1XBadNameW ?d2XBadNameW ?d3XBadNameW ?d4XBadNameW ?d5XBadNameW ?d6XBadNameW ?d7XBadNameW ?d8XBadNameW ?d9XBadNameW ?b1XBadNameW ?b2XBadNameW ?b3XBadNameW ?b4XBadNameW ?b5XBadNameW ?b6XBadNameW ?b7XBadNameW ?b8XBadNameW ?b9XBadNameW ?b10XBadNameW ?h1XBadNameW ?h2XBadNameW ?h3XBadNameW; (case e1XBadNameW => k_is); (case e2XBadNameW => k_is); (case e3XBadNameW => k_is); (case e4XBadNameW => rfl); (case e5XBadNameW => rfl); (case e6XBadNameW => rfl); (case e7XBadNameW => exact fun _ _ _ => rfl); (case e8XBadNameW => exact ⟨rfl, rfl, rfl, rfl, rfl, rfl, by decide +kernel, rfl, rfl⟩); (case e9XBadNameW => exact fun _ => ⟨rfl, rfl, rfl, rfl, _, rfl⟩); (case d1XBadNameW => k_is); (case d2XBadNameW => rfl); (case d3XBadNameW => first | rfl | decide +kernel); (case d4XBadNameW => k_is); (case d5XBadNameW => first | rfl | decide +kernel); (case d6XBadNameW => exact ⟨by decide +kernel, by decide +kernel, by decide +kernel, by decide +kernel, by decide +kernel⟩); (case d7XBadNameW => k_is); (case d8XBadNameW => rfl); (case d9XBadNameW => first | rfl | decide +kernel); (case b1XBadNameW => k_is); (case b2XBadNameW => k_is); (case b3XBadNameW => ks_is); (case b4XBadNameW => k_is); (case b5XBadNameW => kx_is); (case b6XBadNameW => k_is); (case b7XBadNameW => k_is); (case b8XBadNameW => k_is); (case b9XBadNameW => k_is); (case h1XBadNameW => k_is); (case b10XBadNameW => k_is); (case h2XBadNameW => k_is); (case h3XBadNameW => decide +kernel)))
    (case exb_KeyError => (refine ⟨?_, ?_, ?_, ?_, ?_, ?_, ?_, ?_, ?_, ?_, ?_, ?_, ?_, ?_, ?_, ?_, ?_, ?_, ?_, ?_, ?_, ?_, ?_, ?_, ?_, ?_⟩ <;> (as_aux_lemma => (refine exm_typ ?_ ?_ ?_ <;> first | k_is | rfl | decide +kernel))))
    (case ec => (refine ⟨?_, ?_, ?_, ?_, ?_, ?_, ?_, ?_, ?_, ?_, ?_, ?_, ?_, ?_, ?_, ?_, ?_, ?_, ?_, ?_, ?_, ?_, ?_, ?_, ?_, ?_⟩ <;> (as_aux_lemma => (refine ⟨?_, ?_, ?_, ?_, ?_, ?_, ?_, ?_⟩ <;> k_is))))
    (case kb_IndexError => (refine ⟨?_, ?_, ?_, ?_, ?_, ?_, ?_, ?_, ?_, ?_, ?_, ?_, ?_, ?_, ?_, ?_, ?_, ?_, ?_, ?_, ?_, ?_, ?_, ?_, ?_, ?_⟩ <;> (as_aux_lemma => first | kit_is | k_is)))
    (case kb_KeyError => (refine ⟨?_, ?_, ?_, ?_, ?_, ?_, ?_, ?_, ?_, ?_, ?_, ?_, ?_, ?_, ?_, ?_, ?_, ?_, ?_, ?_, ?_, ?_, ?_, ?_, ?_, ?_⟩ <;> (as_aux_lemma => first | kit_is | k_is)))
    (case kb_LookupError => (refine ⟨?_, ?_, ?_, ?_, ?_, ?_, ?_, ?_, ?_, ?_, ?_, ?_, ?_, ?_, ?_, ?_, ?_, ?_, ?_, ?_, ?_, ?_, ?_, ?_, ?_, ?_⟩ <;> (as_aux_lemma => first | kit_is | k_is)))
    (case kb_ValueError => (refine ⟨?_, ?_, ?_, ?_, ?_, ?_, ?_, ?_, ?_, ?_, ?_, ?_, ?_, ?_, ?_, ?_, ?_, ?_, ?_, ?_, ?_, ?_, ?_, ?_, ?_, ?_⟩ <;> (as_aux_lemma => first | kit_is | k_is)))
    (case ex_BuildError => (refine ⟨?_, ?_, ?_, ?_, ?_, ?_, ?_, ?_, ?_, ?_, ?_, ?_, ?_, ?_, ?_, ?_, ?_, ?_, ?_, ?_, ?_, ?_, ?_, ?_, ?_, ?_⟩ <;> (as_aux_lemma => (refine PySem.W.exm_ref ?_ ?_ ?_ ?_ <;> k_is))))
    (case ex_Stuck => (refine ⟨?_, ?_, ?_, ?_, ?_, ?_, ?_, ?_, ?_, ?_, ?_, ?_, ?_, ?_, ?_, ?_, ?_, ?_, ?_, ?_, ?_, ?_, ?_, ?_, ?_, ?_⟩ <;> (as_aux_lemma => (refine PySem.W.exm_ref ?_ ?_ ?_ ?_ <;> k_is))))
    (case ki_BadEntry => (refine ⟨?_, ?_, ?_, ?_, ?_, ?_, ?_, ?_, ?_, ?_, ?_, ?_, ?_, ?_, ?_, ?_, ?_, ?_, ?_, ?_, ?_, ?_, ?_, ?_, ?_, ?_⟩ <;> (as_aux_lemma => first | kit_is | k_is)))
    (case ki_BadKind => (refine ⟨?_, ?_, ?_, ?_, ?_, ?_, ?_, ?_, ?_, ?_, ?_, ?_, ?_, ?_, ?_, ?_, ?_, ?_, ?_, ?_, ?_, ?_, ?_, ?_, ?_, ?_⟩ <;> (as_aux_lemma => first | kit_is | k_is)))
    (case ki_BadLine => (refine ⟨?_, ?_, ?_, ?_, ?_, ?_, ?_, ?_, ?_, ?_, ?_, ?_, ?_, ?_, ?_, ?_, ?_, ?_, ?_, ?_, ?_, ?_, ?_, ?_, ?_, ?_⟩ <;> (as_aux_lemma => first | kit_is | k_is)))
    (case ki_BadName => (refine ⟨?_, ?_, ?_, ?_, ?_, ?_, ?_, ?_, ?_, ?_, ?_, ?_, ?_, ?_, ?_, ?_, ?_, ?_, ?_, ?_, ?_, ?_, ?_, ?_, ?_, ?_⟩ <;> (as_aux_lemma => first | kit_is | k_is)))
    (case ki_BadTree => (refine ⟨?_, ?_, ?_, ?_, ?_, ?_, ?_, ?_, ?_, ?_, ?_, ?_, ?_, ?_, ?_, ?_, ?_, ?_, ?_, ?_, ?_, ?_, ?_, ?_, ?_, ?_⟩ <;> (as_aux_lemma => first | kit_is | k_is)))
    (case ki_BuildError => (refine ⟨?_, ?_, ?_, ?_, ?_, ?_, ?_, ?_, ?_, ?_, ?_, ?_, ?_, ?_, ?_, ?_, ?_, ?_, ?_, ?_, ?_, ?_, ?_, ?_, ?_, ?_⟩ <;> (as_aux_lemma => first | kit_is | k_is)))
    (case ki_Clash => (refine ⟨?_, ?_, ?_, ?_, ?_, ?_, ?_, ?_, ?_, ?_, ?_, ?_, ?_, ?_, ?_, ?_, ?_, ?_, ?_, ?_, ?_, ?_, ?_, ?_, ?_, ?_⟩ <;> (as_aux_lemma => first | kit_is | k_is)))
    (case ki_Conflict => (refine ⟨?_, ?_, ?_, ?_, ?_, ?_, ?_, ?_, ?_, ?_, ?_, ?_, ?_, ?_, ?_, ?_, ?_, ?_, ?_, ?_, ?_, ?_, ?_, ?_, ?_, ?_⟩ <;> (as_aux_lemma => first | kit_is | k_is)))
    (case ki_Failed => (refine ⟨?_, ?_, ?_, ?_, ?_, ?_, ?_, ?_, ?_, ?_, ?_, ?_, ?_, ?_, ?_, ?_, ?_, ?_, ?_, ?_, ?_, ?_, ?_, ?_, ?_, ?_⟩ <;> (as_aux_lemma => first | kit_is | k_is)))
    (case ki_Gap => (refine ⟨?_, ?_, ?_, ?_, ?_, ?_, ?_, ?_, ?_, ?_, ?_, ?_, ?_, ?_, ?_, ?_, ?_, ?_, ?_, ?_, ?_, ?_, ?_, ?_, ?_, ?_⟩ <;> (as_aux_lemma => first | kit_is | k_is)))
    (case ki_Halted => (refine ⟨?_, ?_, ?_, ?_, ?_, ?_, ?_, ?_, ?_, ?_, ?_, ?_, ?_, ?_, ?_, ?_, ?_, ?_, ?_, ?_, ?_, ?_, ?_, ?_, ?_, ?_⟩ <;> (as_aux_lemma => first | kit_is | k_is)))
    (case ki_Mismatch => (refine ⟨?_, ?_, ?_, ?_, ?_, ?_, ?_, ?_, ?_, ?_, ?_, ?_, ?_, ?_, ?_, ?_, ?_, ?_, ?_, ?_, ?_, ?_, ?_, ?_, ?_, ?_⟩ <;> (as_aux_lemma => first | kit_is | k_is)))
    (case ki_NoPlace => (refine ⟨?_, ?_, ?_, ?_, ?_, ?_, ?_, ?_, ?_, ?_, ?_, ?_, ?_, ?_, ?_, ?_, ?_, ?_, ?_, ?_, ?_, ?_, ?_, ?_, ?_, ?_⟩ <;> (as_aux_lemma => first | kit_is | k_is)))
    (case ki_NoRow => (refine ⟨?_, ?_, ?_, ?_, ?_, ?_, ?_, ?_, ?_, ?_, ?_, ?_, ?_, ?_, ?_, ?_, ?_, ?_, ?_, ?_, ?_, ?_, ?_, ?_, ?_, ?_⟩ <;> (as_aux_lemma => first | kit_is | k_is)))
    (case ki_NoTarget => (refine ⟨?_, ?_, ?_, ?_, ?_, ?_, ?_, ?_, ?_, ?_, ?_, ?_, ?_, ?_, ?_, ?_, ?_, ?_, ?_, ?_, ?_, ?_, ?_, ?_, ?_, ?_⟩ <;> (as_aux_lemma => first | kit_is | k_is)))
    (case ki_NoVersion => (refine ⟨?_, ?_, ?_, ?_, ?_, ?_, ?_, ?_, ?_, ?_, ?_, ?_, ?_, ?_, ?_, ?_, ?_, ?_, ?_, ?_, ?_, ?_, ?_, ?_, ?_, ?_⟩ <;> (as_aux_lemma => first | kit_is | k_is)))
    (case ki_NotAsked => (refine ⟨?_, ?_, ?_, ?_, ?_, ?_, ?_, ?_, ?_, ?_, ?_, ?_, ?_, ?_, ?_, ?_, ?_, ?_, ?_, ?_, ?_, ?_, ?_, ?_, ?_, ?_⟩ <;> (as_aux_lemma => first | kit_is | k_is)))
    (case ki_NotCause => (refine ⟨?_, ?_, ?_, ?_, ?_, ?_, ?_, ?_, ?_, ?_, ?_, ?_, ?_, ?_, ?_, ?_, ?_, ?_, ?_, ?_, ?_, ?_, ?_, ?_, ?_, ?_⟩ <;> (as_aux_lemma => first | kit_is | k_is)))
    (case ki_NotFresh => (refine ⟨?_, ?_, ?_, ?_, ?_, ?_, ?_, ?_, ?_, ?_, ?_, ?_, ?_, ?_, ?_, ?_, ?_, ?_, ?_, ?_, ?_, ?_, ?_, ?_, ?_, ?_⟩ <;> (as_aux_lemma => first | kit_is | k_is)))
    (case ki_NotNeeded => (refine ⟨?_, ?_, ?_, ?_, ?_, ?_, ?_, ?_, ?_, ?_, ?_, ?_, ?_, ?_, ?_, ?_, ?_, ?_, ?_, ?_, ?_, ?_, ?_, ?_, ?_, ?_⟩ <;> (as_aux_lemma => first | kit_is | k_is)))
    (case ki_NotOpen => (refine ⟨?_, ?_, ?_, ?_, ?_, ?_, ?_, ?_, ?_, ?_, ?_, ?_, ?_, ?_, ?_, ?_, ?_, ?_, ?_, ?_, ?_, ?_, ?_, ?_, ?_, ?_⟩ <;> (as_aux_lemma => first | kit_is | k_is)))
    (case ki_NotPart => (refine ⟨?_, ?_, ?_, ?_, ?_, ?_, ?_, ?_, ?_, ?_, ?_, ?_, ?_, ?_, ?_, ?_, ?_, ?_, ?_, ?_, ?_, ?_, ?_, ?_, ?_, ?_⟩ <;> (as_aux_lemma => first | kit_is | k_is)))
    (case ki_NotSettled => (refine ⟨?_, ?_, ?_, ?_, ?_, ?_, ?_, ?_, ?_, ?_, ?_, ?_, ?_, ?_, ?_, ?_, ?_, ?_, ?_, ?_, ?_, ?_, ?_, ?_, ?_, ?_⟩ <;> (as_aux_lemma => first | kit_is | k_is)))
    (case ki_NotSource => (refine ⟨?_, ?_, ?_, ?_, ?_, ?_, ?_, ?_, ?_, ?_, ?_, ?_, ?_, ?_, ?_, ?_, ?_, ?_, ?_, ?_, ?_, ?_, ?_, ?_, ?_, ?_⟩ <;> (as_aux_lemma => first | kit_is | k_is)))
    (case ki_Rewritten => (refine ⟨?_, ?_, ?_, ?_, ?_, ?_, ?_, ?_, ?_, ?_, ?_, ?_, ?_, ?_, ?_, ?_, ?_, ?_, ?_, ?_, ?_, ?_, ?_, ?_, ?_, ?_⟩ <;> (as_aux_lemma => first | kit_is | k_is)))
    (case ki_Stuck => (refine ⟨?_, ?_, ?_, ?_, ?_, ?_, ?_, ?_, ?_, ?_, ?_, ?_, ?_, ?_, ?_, ?_, ?_, ?_, ?_, ?_, ?_, ?_, ?_, ?_, ?_, ?_⟩ <;> (as_aux_lemma => first | kit_is | k_is)))
    (case ki_Taken => (refine ⟨?_, ?_, ?_, ?_, ?_, ?_, ?_, ?_, ?_, ?_, ?_, ?_, ?_, ?_, ?_, ?_, ?_, ?_, ?_, ?_, ?_, ?_, ?_, ?_, ?_, ?_⟩ <;> (as_aux_lemma => first | kit_is | k_is)))
    (case xf_cause => (as_aux_lemma => (refine ⟨?_, ?_, ?_, ?_⟩ <;> k_is)))
    (case xg_cause => (as_aux_lemma => k_is))
    (case xf_conflicts => (as_aux_lemma => (refine ⟨?_, ?_, ?_, ?_⟩ <;> k_is)))
    (case xg_conflicts => (as_aux_lemma => k_is))
    (case xf_entry => (as_aux_lemma => (refine ⟨?_, ?_, ?_, ?_⟩ <;> k_is)))
    (case xg_entry => (as_aux_lemma => k_is))
    (case xf_key => (refine ⟨?_, ?_, ?_⟩ <;> (as_aux_lemma => (refine ⟨?_, ?_, ?_, ?_⟩ <;> k_is))))
    (case xg_key => (refine ⟨?_, ?_, ?_⟩ <;> (as_aux_lemma => k_is)))
    (case xf_line => (refine ⟨?_, ?_, ?_⟩ <;> (as_aux_lemma => (refine ⟨?_, ?_, ?_, ?_⟩ <;> k_is))))
    (case xg_line => (refine ⟨?_, ?_, ?_⟩ <;> (as_aux_lemma => k_is)))
    (case xf_name => (refine ⟨?_, ?_, ?_, ?_, ?_⟩ <;> (as_aux_lemma => (refine ⟨?_, ?_, ?_, ?_⟩ <;> k_is))))
    (case xg_name => (refine ⟨?_, ?_, ?_, ?_, ?_⟩ <;> (as_aux_lemma => k_is)))
    (case xf_number => (as_aux_lemma => (refine ⟨?_, ?_, ?_, ?_⟩ <;> k_is)))
    (case xg_number => (as_aux_lemma => k_is))
    (case xf_path => (refine ⟨?_, ?_⟩ <;> (as_aux_lemma => (refine ⟨?_, ?_, ?_, ?_⟩ <;> k_is))))
    (case xg_path => (refine ⟨?_, ?_⟩ <;> (as_aux_lemma => k_is)))
    (case xf_ring => (as_aux_lemma => (refine ⟨?_, ?_, ?_, ?_⟩ <;> k_is)))
    (case xg_ring => (as_aux_lemma => k_is))
    (case xf_spot => (refine ⟨?_, ?_, ?_, ?_, ?_, ?_⟩ <;> (as_aux_lemma => (refine ⟨?_, ?_, ?_, ?_⟩ <;> k_is))))
    (case xg_spot => (refine ⟨?_, ?_, ?_, ?_, ?_, ?_⟩ <;> (as_aux_lemma => k_is)))
    (case xf_words => (as_aux_lemma => (refine ⟨?_, ?_, ?_, ?_⟩ <;> k_is)))
    (case xg_words => (as_aux_lemma => k_is))

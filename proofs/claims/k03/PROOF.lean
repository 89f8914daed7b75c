import PyProof.Rows.All
import Wide.All
import OpenK.AllK
import Wide.FinOn
import HandS.ForMost
import HandS.Flow
import HandS.IsInst
import HandS.TupAny
import HandS.Zip
import KE.KDictKeyed
import HandS.DictComp
import HandS.SortKw
import KE.SortKeyHeap
import PySem.Challenge.RW_farenough_k03_places_after_and_in_order
set_option Elab.async false
set_option linter.all false
set_option maxRecDepth 100000
set_option maxHeartbeats 4000000
/-! FD1: the data level. D: values with tuples inline; DG: the store of what may change; readings over them; the link to the readings of the layer HandS. -/
namespace FD
open PySem L2
/-- a value of the data level: tuples inline, fl: a list that nobody changes, ref: an object of the store -/
inductive D where
  | non | bl (b : Bool) | int (i : Int) | str (x : Str) | tup (ds : List D) | fl (ds : List D) | ref (a : Addr) | ty (n : String)
/-- a list that stands still: locked, or of the written part -/
def FzL (K : PySem.W.Frag) (H : Hp) (a : Addr) (xs : List V) : Prop :=
  (∃ o, H a = some (.frz o (.lst xs))) ∨
    ∃ (o : Obj) (its : Array Value) (n : Nat), K.lookup a = some o ∧ o.cls = .type "list" ∧ o.dict = none ∧ o.data = .seq its n ∧ its.size ≤ sizeLine ∧ Vals xs its.toList
theorem FzL.sq {K : PySem.W.Frag} {H : Hp} {a : Addr} {xs : List V} (h : FzL K H a xs) : SqL K H a xs := by
  rcases h with ⟨o, h⟩ | h
  · exact .inl (.inr ⟨o, h⟩)
  · exact .inr h
mutual
def Rp (K : PySem.W.Frag) (H : Hp) : D → V → Prop
  | .non, v => v = .non
  | .bl b, v => v = .bl b
  | .int i, v => v = .int i
  | .str x, v => v = .str x
  | .tup ds, v => ∃ a xs, v = .ref a ∧ SqT K H a xs ∧ RpL K H ds xs
  | .fl ds, v => ∃ a xs, v = .ref a ∧ FzL K H a xs ∧ RpL K H ds xs
  | .ref a, v => v = .ref a
  | .ty n, v => v = .ty n
def RpL (K : PySem.W.Frag) (H : Hp) : List D → List V → Prop
  | [], xs => xs = []
  | d :: ds, xs => ∃ y ys, xs = y :: ys ∧ Rp K H d y ∧ RpL K H ds ys
end
/-- what never changes is kept -/
structure Kp (K : PySem.W.Frag) (H H' : Hp) : Prop where
  t : ∀ a xs, SqT K H a xs → SqT K H' a xs
  l : ∀ a xs, FzL K H a xs → FzL K H' a xs
theorem Kp.refl {K : PySem.W.Frag} {H : Hp} : Kp K H H := ⟨fun _ _ h => h, fun _ _ h => h⟩
theorem Kp.trans {K : PySem.W.Frag} {H H1 H2 : Hp} (a : Kp K H H1) (b : Kp K H1 H2) : Kp K H H2 := ⟨fun x xs h => b.t x xs (a.t x xs h), fun x xs h => b.l x xs (a.l x xs h)⟩
mutual
theorem Rp.mono {K : PySem.W.Frag} {H H' : Hp} (k : Kp K H H') : ∀ {d : D} {v : V}, Rp K H d v → Rp K H' d v
  | .non, _, h => h
  | .bl _, _, h => h
  | .int _, _, h => h
  | .str _, _, h => h
  | .tup ds, _, h => by
    rw [Rp] at h ⊢
    obtain ⟨a, xs, e, q, r⟩ := h
    exact ⟨a, xs, e, k.t a xs q, RpL.mono k r⟩
  | .fl ds, _, h => by
    rw [Rp] at h ⊢
    obtain ⟨a, xs, e, q, r⟩ := h
    exact ⟨a, xs, e, k.l a xs q, RpL.mono k r⟩
  | .ref _, _, h => h
  | .ty _, _, h => h
theorem RpL.mono {K : PySem.W.Frag} {H H' : Hp} (k : Kp K H H') : ∀ {ds : List D} {xs : List V}, RpL K H ds xs → RpL K H' ds xs
  | [], _, h => h
  | d :: ds, _, h => by
    rw [RpL] at h ⊢
    obtain ⟨y, ys, e, r, q⟩ := h
    exact ⟨y, ys, e, Rp.mono k r, RpL.mono k q⟩
end
section
variable {K : PySem.W.Frag} {H : Hp}
theorem rp_non {v : V} : Rp K H .non v ↔ v = .non := by rw [Rp]
theorem rp_bl {b : Bool} {v : V} : Rp K H (.bl b) v ↔ v = .bl b := by rw [Rp]
theorem rp_int {i : Int} {v : V} : Rp K H (.int i) v ↔ v = .int i := by rw [Rp]
theorem rp_str {x : Str} {v : V} : Rp K H (.str x) v ↔ v = .str x := by rw [Rp]
theorem rp_tup {ds : List D} {v : V} : Rp K H (.tup ds) v ↔ ∃ a xs, v = .ref a ∧ SqT K H a xs ∧ RpL K H ds xs := by rw [Rp]
theorem rp_fl {ds : List D} {v : V} : Rp K H (.fl ds) v ↔ ∃ a xs, v = .ref a ∧ FzL K H a xs ∧ RpL K H ds xs := by rw [Rp]
theorem rp_ref {a : Addr} {v : V} : Rp K H (.ref a) v ↔ v = .ref a := by rw [Rp]
theorem rp_ty {n : String} {v : V} : Rp K H (.ty n) v ↔ v = .ty n := by rw [Rp]
theorem rpl_nil {xs : List V} : RpL K H [] xs ↔ xs = [] := by rw [RpL]
theorem rpl_cons {d : D} {ds : List D} {xs : List V} : RpL K H (d :: ds) xs ↔ ∃ y ys, xs = y :: ys ∧ Rp K H d y ∧ RpL K H ds ys := by rw [RpL]
theorem RpL.cons {d : D} {ds : List D} {y : V} {ys : List V} (h : Rp K H d y) (t : RpL K H ds ys) : RpL K H (d :: ds) (y :: ys) := rpl_cons.mpr ⟨y, ys, rfl, h, t⟩
theorem RpL.nil : RpL K H [] [] := rpl_nil.mpr rfl
theorem RpL.length : ∀ {ds : List D} {xs : List V}, RpL K H ds xs → ds.length = xs.length
  | [], _, h => by rw [rpl_nil.mp h]; rfl
  | d :: ds, _, h => by
    obtain ⟨y, ys, rfl, _, t⟩ := rpl_cons.mp h
    rw [List.length_cons, List.length_cons, RpL.length t]
theorem RpL.get : ∀ {ds : List D} {xs : List V} {i : Nat} {d : D}, RpL K H ds xs → ds[i]? = some d → ∃ v, xs[i]? = some v ∧ Rp K H d v
  | [], _, _, _, _, e => by simp at e
  | d :: ds, _, 0, e', h, e => by
    obtain ⟨y, ys, rfl, r, t⟩ := rpl_cons.mp h
    have q : d = e' := Option.some.inj e
    subst q
    exact ⟨y, rfl, r⟩
  | d :: ds, _, i + 1, e', h, e => by
    obtain ⟨y, ys, rfl, r, t⟩ := rpl_cons.mp h
    exact RpL.get (i := i) t e
theorem RpL.getV : ∀ {ds : List D} {xs : List V} {i : Nat} {v : V}, RpL K H ds xs → xs[i]? = some v → ∃ d, ds[i]? = some d ∧ Rp K H d v
  | [], _, _, _, h, e => by rw [rpl_nil.mp h] at e; simp at e
  | d :: ds, _, 0, e', h, e => by
    obtain ⟨y, ys, rfl, r, t⟩ := rpl_cons.mp h
    have q : y = e' := Option.some.inj e
    subst q
    exact ⟨d, rfl, r⟩
  | d :: ds, _, i + 1, e', h, e => by
    obtain ⟨y, ys, rfl, r, t⟩ := rpl_cons.mp h
    exact RpL.getV (i := i) t e
theorem RpL.append : ∀ {ds es : List D} {xs ys : List V}, RpL K H ds xs → RpL K H es ys → RpL K H (ds ++ es) (xs ++ ys)
  | [], _, _, _, h, q => by rw [rpl_nil.mp h]; exact q
  | d :: ds, _, _, _, h, q => by
    obtain ⟨y, ys, rfl, r, t⟩ := rpl_cons.mp h
    exact RpL.cons r (RpL.append t q)
theorem RpL.take : ∀ {ds : List D} {xs : List V} (n : Nat), RpL K H ds xs → RpL K H (ds.take n) (xs.take n)
  | _, _, 0, _ => RpL.nil
  | [], _, n + 1, h => by rw [rpl_nil.mp h]; exact RpL.nil
  | d :: ds, _, n + 1, h => by
    obtain ⟨y, ys, rfl, r, t⟩ := rpl_cons.mp h
    exact RpL.cons r (RpL.take n t)
theorem RpL.drop : ∀ {ds : List D} {xs : List V} (n : Nat), RpL K H ds xs → RpL K H (ds.drop n) (xs.drop n)
  | _, _, 0, h => h
  | [], _, n + 1, h => by rw [rpl_nil.mp h]; exact RpL.nil
  | d :: ds, _, n + 1, h => by
    obtain ⟨y, ys, rfl, r, t⟩ := rpl_cons.mp h
    exact RpL.drop n t
theorem RpL.set : ∀ {ds : List D} {xs : List V} {d : D} {v : V} (n : Nat), RpL K H ds xs → Rp K H d v → RpL K H (ds.set n d) (xs.set n v)
  | [], _, _, _, n, h, _ => by rw [rpl_nil.mp h]; exact RpL.nil
  | d :: ds, _, e, v, 0, h, q => by
    obtain ⟨y, ys, rfl, r, t⟩ := rpl_cons.mp h
    exact RpL.cons q t
  | d :: ds, _, e, v, n + 1, h, q => by
    obtain ⟨y, ys, rfl, r, t⟩ := rpl_cons.mp h
    exact RpL.cons r (RpL.set n t q)
theorem RpL.erase : ∀ {ds : List D} {xs : List V} (n : Nat), RpL K H ds xs → RpL K H (ds.eraseIdx n) (xs.eraseIdx n)
  | [], _, n, h => by rw [rpl_nil.mp h]; exact RpL.nil
  | d :: ds, _, 0, h => by
    obtain ⟨y, ys, rfl, r, t⟩ := rpl_cons.mp h
    exact t
  | d :: ds, _, n + 1, h => by
    obtain ⟨y, ys, rfl, r, t⟩ := rpl_cons.mp h
    exact RpL.cons r (RpL.erase n t)
theorem RpL.rep {ds : List D} {xs : List V} (h : RpL K H ds xs) : ∀ k : Nat, RpL K H (List.replicate k ds).flatten (List.replicate k xs).flatten
  | 0 => RpL.nil
  | k + 1 => by
    rw [List.replicate_succ, List.replicate_succ, List.flatten_cons, List.flatten_cons]
    exact RpL.append h (RpL.rep h k)
theorem RpL.snoc {ds : List D} {xs : List V} {d : D} {v : V} (h : RpL K H ds xs) (q : Rp K H d v) : RpL K H (ds ++ [d]) (xs ++ [v]) := RpL.append h (RpL.cons q RpL.nil)
theorem RpL.one {d : D} {xs : List V} (h : RpL K H [d] xs) : ∃ v, xs = [v] ∧ Rp K H d v := by
  obtain ⟨y, ys, rfl, r, t⟩ := rpl_cons.mp h
  exact ⟨y, by rw [rpl_nil.mp t], r⟩
theorem RpL.two {d e : D} {xs : List V} (h : RpL K H [d, e] xs) : ∃ v u, xs = [v, u] ∧ Rp K H d v ∧ Rp K H e u := by
  obtain ⟨y, ys, rfl, r, t⟩ := rpl_cons.mp h
  obtain ⟨u, rfl, q⟩ := RpL.one t
  exact ⟨y, u, rfl, r, q⟩
theorem RpL.ints : ∀ {ns : List Int} {xs : List V}, RpL K H (ns.map D.int) xs ↔ xs = ns.map V.int
  | [], xs => rpl_nil
  | n :: ns, xs => by
    rw [List.map_cons, List.map_cons, rpl_cons]
    constructor
    · rintro ⟨y, ys, rfl, r, t⟩
      rw [rp_int.mp r, RpL.ints.mp t]
    · rintro rfl
      exact ⟨_, _, rfl, rp_int.mpr rfl, RpL.ints.mpr rfl⟩
end
/-- where a program runs: the text, the world, the written part -/
structure Bs where
  P : Program
  w : World
  K : PySem.W.Frag
abbrev bs (X : Cx) : Bs := ⟨X.prog, X.w, X.K⟩
/-- what may change -/
inductive DO where
  | lst (ds : List D)
  | dic (kvs : List (D × D))
  | set (ds : List D)
  | ins (C : Addr) (fs : List (Str × D))
abbrev DG := Addr → Option DO
def DG.upd (G : DG) (a : Addr) (o : DO) : DG := fun b => if b = a then some o else G b
theorem gupd_same {G : DG} {a : Addr} {o : DO} : G.upd a o a = some o := by unfold DG.upd; rw [if_pos rfl]
theorem gupd_ne {G : DG} {a b : Addr} {o : DO} (h : b ≠ a) : G.upd a o b = G b := by unfold DG.upd; rw [if_neg h]
theorem gupd_upd {G : DG} {a : Addr} {o u : DO} : (G.upd a o).upd a u = G.upd a u := by
  funext b; unfold DG.upd; split <;> rfl

/-! ### the store is held -/
mutual
def nkey : D → Option NestedKey
  | .non => some .none
  | .bl b => some (.num (if b = true then 1 else 0))
  | .int i => some (.num i)
  | .str x => some (.text x)
  | .tup ds => (nkeys ds).map .tup
  | _ => none
def nkeys : List D → Option (List NestedKey)
  | [] => some []
  | d :: ds => match nkey d, nkeys ds with
    | some k, some ks => some (k :: ks)
    | _, _ => none
end
def keyV : D → Option Key
  | .int i => some (.inl i)
  | .str x => some (.inr x)
  | _ => none
/-- a dict whose keys are nested tuples, by its entries -/
def RawD (B : Bs) (a : Addr) (xs : List (NestedKey × Addr × Value)) (h : Heap) : Prop :=
  ∃ o es ep, h.get? a = some o ∧ o.ExactDict ∧ o.data = .dict es ep ∧ es.toList = xs.map (entryOfKey (nestedKind B.P B.w))
def OkDk (B : Bs) (H : Hp) (a : Addr) (kvs : List (D × D)) : Prop :=
  ∃ ks : List (Key × V), H a = some (.dK ks) ∧ Paired (fun (p : D × D) (q : Key × V) => keyV p.1 = some q.1 ∧ Rp B.K H p.2 q.2) kvs ks
def OkDn (B : Bs) (H : Hp) (a : Addr) (kvs : List (D × D)) : Prop :=
  ∃ xs : List (NestedKey × Addr × Value), H a = some (.ext (RawD B a xs)) ∧ (a == sysModules) = false ∧ kvs.length ≤ sizeLine ∧ (xs.map (·.1)).Nodup ∧
    Paired (fun (p : D × D) (q : NestedKey × Addr × Value) => nkey p.1 = some q.1 ∧ q.1.depth ≤ 8 ∧ (∃ ds, p.1 = .tup ds) ∧ Rp B.K H p.1 (.ref q.2.1) ∧ ∃ v, RelV v q.2.2 ∧ Rp B.K H p.2 v) kvs xs
def OkO (B : Bs) (H : Hp) (a : Addr) : DO → Prop
  | .lst ds => ∃ xs, H a = some (.lst xs) ∧ RpL B.K H ds xs
  | .dic kvs => OkDk B H a kvs ∨ OkDn B H a kvs
  | .set _ => False
  | .ins C fs => ∃ dx gs, H a = some (.ins C dx gs) ∧ Paired (fun (p : Str × D) (q : Str × V) => p.1 = q.1 ∧ Rp B.K H p.2 q.2) fs gs
def Wld (B : Bs) (G : DG) (H : Hp) : Prop := ∀ a o, G a = some o → OkO B H a o
/-- what H has and G has not stays as it is -/
def Fm (G : DG) (H : Hp) (G' : DG) (H' : Hp) : Prop := ∀ a o, H a = some o → G a = none → H' a = some o ∧ G' a = none
theorem Fm.refl {G : DG} {H : Hp} : Fm G H G H := fun _ _ h n => ⟨h, n⟩
theorem Fm.trans {G G1 G2 : DG} {H H1 H2 : Hp} (a : Fm G H G1 H1) (b : Fm G1 H1 G2 H2) : Fm G H G2 H2 := fun x o h n => by
  obtain ⟨h1, n1⟩ := a x o h n
  exact b x o h1 n1
theorem OkO.live {B : Bs} {H : Hp} {a : Addr} {o : DO} (h : OkO B H a o) : ∃ u, H a = some u ∧ (∀ xs, u ≠ .tup xs) ∧ (∀ ob w, u ≠ .frz ob w) := by
  cases o with
  | lst ds => obtain ⟨xs, e, _⟩ := h; exact ⟨_, e, fun _ z => (nomatch z), fun _ _ z => (nomatch z)⟩
  | dic kvs =>
    rcases h with ⟨ks, e, _⟩ | ⟨xs, e, _⟩
    · exact ⟨_, e, fun _ z => (nomatch z), fun _ _ z => (nomatch z)⟩
    · exact ⟨_, e, fun _ z => (nomatch z), fun _ _ z => (nomatch z)⟩
  | set ds => exact h.elim
  | ins C fs => obtain ⟨dx, gs, e, _⟩ := h; exact ⟨_, e, fun _ z => (nomatch z), fun _ _ z => (nomatch z)⟩
theorem Wld.none {B : Bs} {G : DG} {H : Hp} (w : Wld B G H) {p : Addr} (h : H p = none) : G p = none := by
  cases e : G p with
  | none => rfl
  | some o =>
    obtain ⟨u, q, _⟩ := (w p o e).live
    rw [q] at h; cases h
/-- frames keep what never changes -/
theorem Fm.kp {B : Bs} {G G' : DG} {H H' : Hp} (w : Wld B G H) (f : Fm G H G' H') : Kp B.K H H' := by
  refine ⟨fun a xs h => ?_, fun a xs h => ?_⟩
  · rcases h with (h | ⟨o, h⟩) | h
    · refine .inl (.inl (f a _ h ?_).1)
      cases e : G a with
      | none => rfl
      | some o =>
        obtain ⟨u, q, n, _⟩ := (w a o e).live
        rw [h] at q; cases q
        exact (n _ rfl).elim
    · refine .inl (.inr ⟨o, (f a _ h ?_).1⟩)
      cases e : G a with
      | none => rfl
      | some o =>
        obtain ⟨u, q, _, n⟩ := (w a o e).live
        rw [h] at q; cases q
        exact (n _ _ rfl).elim
    · exact .inr h
  · rcases h with ⟨o, h⟩ | h
    · refine .inl ⟨o, (f a _ h ?_).1⟩
      cases e : G a with
      | none => rfl
      | some o =>
        obtain ⟨u, q, _, n⟩ := (w a o e).live
        rw [h] at q; cases q
        exact (n _ _ rfl).elim
    · exact .inr h
theorem paired_mono {α β : Type} {R S : α → β → Prop} (h : ∀ a b, R a b → S a b) : ∀ {l : List α} {m : List β}, Paired R l m → Paired S l m
  | _, _, .nil => .nil
  | _, _, .cons r t => .cons (h _ _ r) (paired_mono h t)
theorem OkO.mono {B : Bs} {H H' : Hp} {a : Addr} {o : DO} (h : OkO B H a o) (k : Kp B.K H H') (e : ∀ u, H a = some u → H' a = some u) : OkO B H' a o := by
  cases o with
  | lst ds => obtain ⟨xs, q, r⟩ := h; exact ⟨xs, e _ q, r.mono k⟩
  | dic kvs =>
    rcases h with ⟨ks, q, r⟩ | ⟨xs, q, n, z, nd, r⟩
    · exact .inl ⟨ks, e _ q, paired_mono (fun p q h => ⟨h.1, h.2.mono k⟩) r⟩
    · exact .inr ⟨xs, e _ q, n, z, nd, paired_mono (fun p q h => ⟨h.1, h.2.1, h.2.2.1, h.2.2.2.1.mono k, h.2.2.2.2.elim fun v hv => ⟨v, hv.1, hv.2.mono k⟩⟩) r⟩
  | set ds => exact h
  | ins C fs => obtain ⟨dx, gs, q, r⟩ := h; exact ⟨dx, gs, e _ q, paired_mono (fun p q h => ⟨h.1, h.2.mono k⟩) r⟩
section
variable {B : Bs} {G : DG} {H : Hp} {p : Addr} {o : HO} {d : DO}
theorem kp_new (h : H p = none) : Kp B.K H (L2.upd H p o) := by
  refine ⟨fun a xs q => ?_, fun a xs q => ?_⟩
  · rcases q with (q | ⟨ob, q⟩) | q
    · exact .inl (.inl (by rw [upd_ne (ne_of_none q h)]; exact q))
    · exact .inl (.inr ⟨ob, by rw [upd_ne (ne_of_none q h)]; exact q⟩)
    · exact .inr q
  · rcases q with ⟨ob, q⟩ | q
    · exact .inl ⟨ob, by rw [upd_ne (ne_of_none q h)]; exact q⟩
    · exact .inr q
/-- a thing that the store does not tell (a tuple) is laid -/
theorem wld_hid (w : Wld B G H) (h : H p = none) : Wld B G (L2.upd H p o) := fun a u e => by
  obtain ⟨x, q, _⟩ := (w a u e).live
  exact (w a u e).mono (kp_new h) fun y z => by rw [upd_ne (ne_of_none z h)]; exact z
theorem fm_hid (h : H p = none) : Fm G H G (L2.upd H p o) := fun a u e n => ⟨by rw [upd_ne (ne_of_none e h)]; exact e, n⟩
/-- a new object of the store -/
theorem wld_new (w : Wld B G H) (h : H p = none) (ok : OkO B (L2.upd H p o) p d) : Wld B (G.upd p d) (L2.upd H p o) := fun a u e => by
  by_cases ha : a = p
  · subst ha
    rw [gupd_same] at e; cases e
    exact ok
  · rw [gupd_ne ha] at e
    exact wld_hid w h a u e
theorem fm_new (h : H p = none) : Fm G H (G.upd p d) (L2.upd H p o) := fun a u e n => by
  have ne := ne_of_none e h
  rw [upd_ne ne, gupd_ne ne]
  exact ⟨e, n⟩
/-- an object of the store is changed -/
theorem kp_set (w : Wld B G H) {d0 : DO} (e : G p = some d0) : Kp B.K H (L2.upd H p o) := by
  obtain ⟨u, q, n1, n2⟩ := (w p d0 e).live
  refine ⟨fun a xs z => ?_, fun a xs z => ?_⟩
  · rcases z with (z | ⟨ob, z⟩) | z
    · exact .inl (.inl (by rw [upd_ne (ne_of z q (n1 _).symm)]; exact z))
    · exact .inl (.inr ⟨ob, by rw [upd_ne (ne_of z q (n2 _ _).symm)]; exact z⟩)
    · exact .inr z
  · rcases z with ⟨ob, z⟩ | z
    · exact .inl ⟨ob, by rw [upd_ne (ne_of z q (n2 _ _).symm)]; exact z⟩
    · exact .inr z
theorem wld_set (w : Wld B G H) {d0 : DO} (e : G p = some d0) (ok : OkO B (L2.upd H p o) p d) : Wld B (G.upd p d) (L2.upd H p o) := fun a u q => by
  by_cases ha : a = p
  · subst ha
    rw [gupd_same] at q; cases q
    exact ok
  · rw [gupd_ne ha] at q
    exact (w a u q).mono (kp_set w e) fun y z => by rw [upd_ne ha]; exact z
theorem fm_set (w : Wld B G H) {d0 : DO} (e : G p = some d0) : Fm G H (G.upd p d) (L2.upd H p o) := fun a u q n => by
  have ne : a ≠ p := fun z => by subst z; rw [e] at n; cases n
  rw [upd_ne ne, gupd_ne ne]
  exact ⟨q, n⟩
end

/-! ### slots -/
abbrev DSt := List (Option D)
def RpO (K : PySem.W.Frag) (H : Hp) : Option D → Option V → Prop
  | none, _ => True
  | some d, some v => Rp K H d v
  | some _, none => False
abbrev RpS (K : PySem.W.Frag) (H : Hp) (ρ : DSt) (σ : St) : Prop := Paired (RpO K H) ρ σ
theorem RpO.mono {K : PySem.W.Frag} {H H' : Hp} (k : Kp K H H') : ∀ {d : Option D} {v : Option V}, RpO K H d v → RpO K H' d v
  | none, _, _ => True.intro
  | some _, some _, h => Rp.mono k h
  | some _, none, h => h.elim
theorem RpS.mono {K : PySem.W.Frag} {H H' : Hp} (k : Kp K H H') {ρ : DSt} {σ : St} (h : RpS K H ρ σ) : RpS K H' ρ σ := paired_mono (fun _ _ q => RpO.mono k q) h
theorem RpS.get {K : PySem.W.Frag} {H : Hp} : ∀ {ρ : DSt} {σ : St} {i : Nat} {d : D}, RpS K H ρ σ → ρ[i]? = some (some d) → ∃ v, σ[i]? = some (some v) ∧ Rp K H d v
  | _, _, _, _, .nil, e => by simp at e
  | _, _, 0, d, .cons (a := x) (b := y) r t, e => by
    have q : x = some d := Option.some.inj e
    subst q
    cases y with
    | none => exact r.elim
    | some v => exact ⟨v, rfl, r⟩
  | _, _, i + 1, d, .cons r t, e => RpS.get (i := i) t e
theorem RpS.set {K : PySem.W.Frag} {H : Hp} {d : Option D} {v : Option V} (q : RpO K H d v) : ∀ {ρ : DSt} {σ : St} (i : Nat), RpS K H ρ σ → RpS K H (ρ.set i d) (σ.set i v)
  | _, _, _, .nil => .nil
  | _, _, 0, .cons r t => .cons q t
  | _, _, i + 1, .cons r t => .cons r (RpS.set q i t)
def wipeD (ρ : DSt) : List Nat → DSt
  | [] => ρ
  | v :: vs => (wipeD ρ vs).set v none
theorem RpS.wipe {K : PySem.W.Frag} {H : Hp} {ρ : DSt} {σ : St} (h : RpS K H ρ σ) : ∀ vs : List Nat, RpS K H (wipeD ρ vs) (L2.wipe σ vs)
  | [] => h
  | v :: vs => RpS.set (d := none) (v := none) True.intro v (RpS.wipe h vs)
def startD (N : List Str) (ds : List D) : DSt := ds.map some ++ List.replicate (N.length - ds.length) none
theorem RpS.start {K : PySem.W.Frag} {H : Hp} : ∀ {n : Nat} {ds : List D} {vs : List V}, RpL K H ds vs → RpS K H (ds.map some ++ List.replicate n none) (vs.map some ++ List.replicate n none)
  | n, [], vs, h => by
    rw [rpl_nil.mp h]
    show RpS K H (List.replicate n none) (List.replicate n none)
    induction n with
    | zero => exact .nil
    | succ n ih => exact .cons True.intro ih
  | n, d :: ds, vs, h => by
    obtain ⟨y, ys, rfl, r, t⟩ := rpl_cons.mp h
    exact .cons r (RpS.start t)
end FD

/-! FD2: readings over the data level, their judgements, the rules of expressions, statements, loops, comprehensions, calls. -/
namespace FD
open PySem L2
abbrev DK := D → DG → Prop
abbrev DE := DSt → DG → DK → Prop
abbrev DT := DSt → DG → (Bool → DG → Prop) → Prop
abbrev DA := DSt → DG → (List D → DG → Prop) → Prop
structure DEnds where
  nx : DSt → DG → Prop
  rt : DK
  bk : DSt → DG → Prop := fun _ _ => False
  ct : DSt → DG → Prop := fun _ _ => False
abbrev DS := DEnds → DSt → DG → Prop
/-- from what is wanted at the data level to what is wanted at the layer below -/
def Kt (B : Bs) (G : DG) (H : Hp) (Q : DK) (R : VK) : Prop := ∀ d v G' H', Rp B.K H' d v → Wld B G' H' → Fm G H G' H' → Q d G' → R v H'
def KtT (B : Bs) (G : DG) (H : Hp) (Q : Bool → DG → Prop) (R : Bool → Hp → Prop) : Prop := ∀ b G' H', Wld B G' H' → Fm G H G' H' → Q b G' → R b H'
def KtA (B : Bs) (G : DG) (H : Hp) (Q : List D → DG → Prop) (R : List V → Hp → Prop) : Prop := ∀ ds vs G' H', RpL B.K H' ds vs → Wld B G' H' → Fm G H G' H' → Q ds G' → R vs H'
def KtS (B : Bs) (G : DG) (H : Hp) (Q : DSt → DG → Prop) (R : St → Hp → Prop) : Prop := ∀ ρ σ G' H', RpS B.K H' ρ σ → Wld B G' H' → Fm G H G' H' → Q ρ G' → R σ H'
section
variable {B : Bs} {G G1 : DG} {H H1 : Hp}
theorem Kt.aft {Q : DK} {R : VK} (k : Kt B G H Q R) (f : Fm G H G1 H1) : Kt B G1 H1 Q R := fun d v G' H' r w f' q => k d v G' H' r w (f.trans f') q
theorem KtT.aft {Q : Bool → DG → Prop} {R : Bool → Hp → Prop} (k : KtT B G H Q R) (f : Fm G H G1 H1) : KtT B G1 H1 Q R := fun b G' H' w f' q => k b G' H' w (f.trans f') q
theorem KtA.aft {Q : List D → DG → Prop} {R : List V → Hp → Prop} (k : KtA B G H Q R) (f : Fm G H G1 H1) : KtA B G1 H1 Q R := fun d v G' H' r w f' q => k d v G' H' r w (f.trans f') q
theorem KtS.aft {Q : DSt → DG → Prop} {R : St → Hp → Prop} (k : KtS B G H Q R) (f : Fm G H G1 H1) : KtS B G1 H1 Q R := fun d v G' H' r w f' q => k d v G' H' r w (f.trans f') q
end
structure KtE (B : Bs) (G : DG) (H : Hp) (E : DEnds) (F : Ends) : Prop where
  nx : KtS B G H E.nx F.nx
  rt : Kt B G H E.rt F.rt
  bk : KtS B G H E.bk F.bk
  ct : KtS B G H E.ct F.ct
theorem KtE.aft {B : Bs} {G G1 : DG} {H H1 : Hp} {E : DEnds} {F : Ends} (k : KtE B G H E F) (f : Fm G H G1 H1) : KtE B G1 H1 E F := ⟨k.nx.aft f, k.rt.aft f, k.bk.aft f, k.ct.aft f⟩
def LkE (B : Bs) (te : TE) (t : DE) : Prop := ∀ ρ σ G H Q R, RpS B.K H ρ σ → Wld B G H → t ρ G Q → Kt B G H Q R → te σ H R
def LkT (B : Bs) (te : TT) (t : DT) : Prop := ∀ ρ σ G H Q R, RpS B.K H ρ σ → Wld B G H → t ρ G Q → KtT B G H Q R → te σ H R
def LkA (B : Bs) (te : TA) (t : DA) : Prop := ∀ ρ σ G H Q R, RpS B.K H ρ σ → Wld B G H → t ρ G Q → KtA B G H Q R → te σ H R
def LkS (B : Bs) (te : TS) (t : DS) : Prop := ∀ ρ σ G H E F, RpS B.K H ρ σ → Wld B G H → t E ρ G → KtE B G H E F → te F σ H
structure PD (X : Cx) (e : Expr) (t : DE) : Prop where
  ex : ∃ te, PE X e te ∧ LkE (bs X) te t
structure PDT (X : Cx) (e : Expr) (t : DT) : Prop where
  ex : ∃ te, PT X e te ∧ LkT (bs X) te t
structure PDW (X : Cx) (e : Expr) (t : DT) : Prop where
  ex : ∃ te, PW X e te ∧ LkT (bs X) te t
structure PDA (X : Cx) (es : List Expr) (t : DA) : Prop where
  ex : ∃ te, PA X es te ∧ LkA (bs X) te t
structure PDS (X : Cx) (st : Stmt) (t : DS) : Prop where
  ex : ∃ te, PS X st te ∧ LkS (bs X) te t
structure PDSs (X : Cx) (st : List Stmt) (t : DS) : Prop where
  ex : ∃ te, PSs X st te ∧ LkS (bs X) te t
/-! ### names and constants -/
def dVar (i : Nat) : DE := fun ρ G Q => match ρ[i]? with
  | some (some d) => Q d G
  | _ => False
def dC (d : D) : DE := fun _ G Q => Q d G
section
variable {X : Cx} {pos : Pos}
theorem pd_var (i : Nat) {x : Str} (hN : X.N[i]? = some x := by rfl) (hv : Vis X.env.scope x := by first | exact Or.inl rfl | exact Or.inr (Or.inl rfl) | exact Or.inr (Or.inr rfl)) (hd : (x == ("__debug__" : Str)) = false := by decide)
    (hcd : (x == ("__classdict__" : Str)) = false := by decide) : PD X (.Name x pos) (dVar i) := ⟨tVar i, pe_var hN hv hd hcd, fun ρ σ G H Q R s w h k => by
  unfold dVar at h
  split at h
  · rename_i d e
    obtain ⟨v, e1, r⟩ := s.get e
    exact ⟨v, e1, k d v G H r w Fm.refl h⟩
  · exact h.elim⟩
theorem pd_c {e : Expr} {v : V} {d : D} (h : PE X e (tC v)) (r : ∀ K H, Rp K H d v) : PD X e (dC d) := ⟨_, h, fun ρ σ G H Q R s w h k => k d v G H (r _ _) w Fm.refl h⟩
theorem pd_int {i : Int} {j} : PD X (.Constant (.int i) j pos) (dC (.int i)) := pd_c pe_int fun _ _ => rp_int.mpr rfl
theorem pd_bl {b : Bool} {j} : PD X (.Constant (.bool b) j pos) (dC (.bl b)) := pd_c pe_bl fun _ _ => rp_bl.mpr rfl
theorem pd_non {j} : PD X (.Constant .none j pos) (dC .non) := pd_c pe_non fun _ _ => rp_non.mpr rfl
theorem pd_str {x : Str} {j} : PD X (.Constant (.str x) j pos) (dC (.str x)) := pd_c pe_str fun _ _ => rp_str.mpr rfl
/-- a module's constant -/
theorem pd_gstr {x : Str} {y : Str} {u : Value} (hg : Gl X x) (hm : X.mg x = some u) (r : RelV (.str y) u) (hd : (x == ("__debug__" : Str)) = false := by decide) : PD X (.Name x pos) (dC (.str y)) := pd_c (pe_glob hg hm r hd) fun _ _ => rp_str.mpr rfl
theorem pd_gint {x : Str} {y : Int} {u : Value} (hg : Gl X x) (hm : X.mg x = some u) (r : RelV (.int y) u) (hd : (x == ("__debug__" : Str)) = false := by decide) : PD X (.Name x pos) (dC (.int y)) := pd_c (pe_glob hg hm r hd) fun _ _ => rp_int.mpr rfl
theorem pd_gref {x : Str} {a : Addr} (hg : Gl X x) (hm : X.mg x = some (.ref a)) (hd : (x == ("__debug__" : Str)) = false := by decide) : PD X (.Name x pos) (dC (.ref a)) := pd_c (v := .ref a) (pe_glob hg hm rfl hd) fun _ _ => rp_ref.mpr rfl
theorem pd_ty {x : Str} {n : String} (hg : Gl X x) (hm : X.mg x = none) (hv : bootBuiltins x = some (.type n)) (hn : x ≠ "__name__" := by decide) (hd : (x == ("__debug__" : Str)) = false := by decide) : PD X (.Name x pos) (dC (.ty n)) :=
  pd_c (pe_bltn (v := .ty n) hg hm hv rfl hn hd) fun _ _ => rp_ty.mpr rfl
end
/-! ### arguments, displays -/
def dNil : DA := fun _ G Q => Q [] G
def dCons (t : DE) (r : DA) : DA := fun ρ G Q => t ρ G fun x G1 => r ρ G1 fun xs G2 => Q (x :: xs) G2
def dTup (t : DA) : DE := fun ρ G Q => t ρ G fun xs G1 => xs.length ≤ sizeLine ∧ Q (.tup xs) G1
def dLst (t : DA) : DE := fun ρ G Q => t ρ G fun xs G1 => xs.length ≤ sizeLine ∧ ∀ p, G1 p = none → Q (.ref p) (G1.upd p (.lst xs))
section
variable {X : Cx} {pos : Pos} {e : Expr} {es : List Expr} {t : DE} {r : DA}
theorem pda_nil : PDA X [] dNil := ⟨tNil, pa_nil, fun ρ σ G H Q R s w h k => k [] [] G H RpL.nil w Fm.refl h⟩
theorem pda_cons (h1 : PD X e t) (h2 : PDA X es r) (hs : starEach (e :: es) X.env = (false, eval e X.env) :: starEach es X.env := by rfl) : PDA X (e :: es) (dCons t r) := by
  obtain ⟨te, p1, l1⟩ := h1
  obtain ⟨ta, p2, l2⟩ := h2
  refine ⟨tCons te ta, pa_cons p1 p2 hs, fun ρ σ G H Q R s w h k => ?_⟩
  refine l1 ρ σ G H _ _ s w h fun x v G1 H1 r1 w1 f1 q1 => ?_
  refine l2 ρ σ G1 H1 _ _ (s.mono (f1.kp w)) w1 q1 fun xs vs G2 H2 r2 w2 f2 q2 => ?_
  exact k _ _ G2 H2 (RpL.cons (r1.mono (f2.kp w1)) r2) w2 (f1.trans f2) q2
theorem pd_tup {k1} (h : PDA X es r) : PD X (.Tuple es k1 pos) (dTup r) := by
  obtain ⟨ta, p, l⟩ := h
  refine ⟨tTup ta, pe_tup p, fun ρ σ G H Q R s w h k => ?_⟩
  refine l ρ σ G H _ _ s w h fun xs vs G1 H1 r1 w1 f1 q1 => ⟨by rw [← r1.length]; exact q1.1, fun a ha => ?_⟩
  exact k _ _ G1 _ (rp_tup.mpr ⟨a, vs, rfl, SqT.of upd_same, r1.mono (kp_new (B := bs X) ha)⟩) (wld_hid w1 ha) (f1.trans (fm_hid ha)) q1.2
theorem pd_lst (h : PDA X es r) : PD X (.List es pos) (dLst r) := by
  obtain ⟨ta, p, l⟩ := h
  refine ⟨tLst ta, pe_lst p, fun ρ σ G H Q R s w h k => ?_⟩
  refine l ρ σ G H _ _ s w h fun xs vs G1 H1 r1 w1 f1 q1 => ⟨by rw [← r1.length]; exact q1.1, fun a ha => ?_⟩
  refine k _ _ _ _ (rp_ref.mpr rfl) (wld_new (d := .lst xs) w1 ha ⟨vs, upd_same, r1.mono (kp_new (B := bs X) ha)⟩) (f1.trans (fm_new ha)) (q1.2 a (w1.none ha))
end
/-! ### operators -/
abbrev R2D := D → D → DG → DK → Prop
def LkR (B : Bs) (r : R2) (rd : R2D) : Prop := ∀ x y v u G H Q R, Rp B.K H x v → Rp B.K H y u → Wld B G H → rd x y G Q → Kt B G H Q R → r v u H R
def dOp (rd : R2D) (ta tb : DE) : DE := fun ρ G Q => ta ρ G fun x G1 => tb ρ G1 fun y G2 => rd x y G2 Q
theorem lk_op {B : Bs} {r : R2} {rd : R2D} {ta tb : TE} {da db : DE} (hl : LkR B r rd) (ha : LkE B ta da) (hb : LkE B tb db) : LkE B (tOp r ta tb) (dOp rd da db) := fun ρ σ G H Q R s w h k => by
  refine ha ρ σ G H _ _ s w h fun x v G1 H1 r1 w1 f1 q1 => ?_
  refine hb ρ σ G1 H1 _ _ (s.mono (f1.kp w)) w1 q1 fun y u G2 H2 r2 w2 f2 q2 => ?_
  exact hl x y v u G2 H2 Q R (r1.mono (f2.kp w1)) r2 w2 q2 (k.aft (f1.trans f2))
section
variable {X : Cx} {pos : Pos} {a b c : Expr} {da db dc : DE} {r r' : R2} {rd rd' : R2D}
theorem pd_op {op : Operator} (ho : OpR X (binaryOp op) r) (hl : LkR (bs X) r rd) (ha : PD X a da) (hb : PD X b db) : PD X (.BinOp a op b pos) (dOp rd da db) := by
  obtain ⟨ta, pa, la⟩ := ha
  obtain ⟨tb, pb, lb⟩ := hb
  exact ⟨tOp r ta tb, pe_op ho pa pb, lk_op hl la lb⟩
theorem pd_cmp {op : CmpOp} (ho : OpR X (compareOp op) r) (hl : LkR (bs X) r rd) (ha : PD X a da) (hb : PD X b db) (hm : behindInMarks op b = false) : PD X (.Compare a [op] [b] pos) (dOp rd da db) := by
  obtain ⟨ta, pa, la⟩ := ha
  obtain ⟨tb, pb, lb⟩ := hb
  exact ⟨tOp r ta tb, pe_cmpR ho pa pb hm, lk_op hl la lb⟩
/-- a value that is a truth value -/
def dBool (t : DE) : DT := fun ρ G Q => t ρ G fun x G1 => match x with
  | .bl b => Q b G1
  | _ => False
theorem lk_test {B : Bs} {t : TE} {d : DE} (h : LkE B t d) : LkT B (tTest t) (dBool d) := fun ρ σ G H Q R s w q k => by
  refine h ρ σ G H _ _ s w q fun x v G1 H1 r1 w1 f1 q1 => ?_
  cases x with
  | bl b => exact ⟨b, rp_bl.mp r1, k b G1 H1 w1 f1 q1⟩
  | _ => exact q1.elim
theorem pdt_cmp {op : CmpOp} (ho : OpR X (compareOp op) r) (hl : LkR (bs X) r rd) (ha : PD X a da) (hb : PD X b db) (hm : behindInMarks op b = false) : PDT X (.Compare a [op] [b] pos) (dBool (dOp rd da db)) := by
  obtain ⟨ta, pa, la⟩ := ha
  obtain ⟨tb, pb, lb⟩ := hb
  exact ⟨tTest (tOp r ta tb), pt_cmpR ho pa pb hm, lk_test (lk_op hl la lb)⟩
def dChain (rd rd' : R2D) (ta tb tc : DE) : DE := fun ρ G Q => ta ρ G fun x G1 => tb ρ G1 fun y G2 => rd x y G2 fun z G3 => match z with
  | .bl k => if k = true then tc ρ G3 fun u G4 => rd' y u G4 Q else Q (.bl false) G3
  | _ => False
theorem lk_chain {B : Bs} {ta tb tc : TE} (hl : LkR B r rd) (hl' : LkR B r' rd') (ha : LkE B ta da) (hb : LkE B tb db) (hc : LkE B tc dc) : LkE B (tChain r r' ta tb tc) (dChain rd rd' da db dc) := fun ρ σ G H Q R s w h k => by
  refine ha ρ σ G H _ _ s w h fun x v G1 H1 r1 w1 f1 q1 => ?_
  refine hb ρ σ G1 H1 _ _ (s.mono (f1.kp w)) w1 q1 fun y u G2 H2 r2 w2 f2 q2 => ?_
  refine hl x y v u G2 H2 _ _ (r1.mono (f2.kp w1)) r2 w2 q2 fun z vz G3 H3 r3 w3 f3 q3 => ?_
  cases z with
  | bl b =>
    refine ⟨b, rp_bl.mp r3, ?_⟩
    cases b with
    | false => exact k _ _ G3 H3 (rp_bl.mpr rfl) w3 ((f1.trans f2).trans f3) q3
    | true =>
      refine hc ρ σ G3 H3 _ _ (s.mono (((f1.trans f2).trans f3).kp w)) w3 q3 fun z' vz' G4 H4 r4 w4 f4 q4 => ?_
      exact hl' y z' u vz' G4 H4 Q R (r2.mono ((f3.trans f4).kp w2)) r4 w4 q4 (k.aft (((f1.trans f2).trans f3).trans f4))
  | _ => exact q3.elim
theorem pd_chain {op op' : CmpOp} (ho : OpR X (compareOp op) r) (ho' : OpR X (compareOp op') r') (hl : LkR (bs X) r rd) (hl' : LkR (bs X) r' rd') (ha : PD X a da) (hb : PD X b db) (hc : PD X c dc)
    (hm : lastMarks [op, op'] [b, c] = false := by with_unfolding_all rfl) : PD X (.Compare a [op, op'] [b, c] pos) (dChain rd rd' da db dc) := by
  obtain ⟨ta, pa, la⟩ := ha
  obtain ⟨tb, pb, lb⟩ := hb
  obtain ⟨tc, pc, lc⟩ := hc
  exact ⟨_, pe_chain ho ho' pa pb pc hm, lk_chain hl hl' la lb lc⟩
theorem pdt_chain {op op' : CmpOp} (ho : OpR X (compareOp op) r) (ho' : OpR X (compareOp op') r') (hl : LkR (bs X) r rd) (hl' : LkR (bs X) r' rd') (ha : PD X a da) (hb : PD X b db) (hc : PD X c dc)
    (hm : lastMarks [op, op'] [b, c] = false := by with_unfolding_all rfl) : PDT X (.Compare a [op, op'] [b, c] pos) (dBool (dChain rd rd' da db dc)) := by
  obtain ⟨ta, pa, la⟩ := ha
  obtain ⟨tb, pb, lb⟩ := hb
  obtain ⟨tc, pc, lc⟩ := hc
  exact ⟨_, pt_chain ho ho' pa pb pc hm, lk_test (lk_chain hl hl' la lb lc)⟩
end
/-! ### truth; and, or, not, if-else -/
def trD (x : D) (G : DG) (Q : Bool → DG → Prop) : Prop := match x with
  | .non => Q false G
  | .bl b => Q b G
  | .int i => Q (i != 0) G
  | .str y => y.length ≤ sizeLine ∧ Q ((y.length : Int) != 0) G
  | .tup ds => Q (!ds.isEmpty) G
  | .fl ds => Q (!ds.isEmpty) G
  | .ref a => ∃ ds, G a = some (.lst ds) ∧ Q (!ds.isEmpty) G
  | .ty _ => False
theorem RpL.isEmpty {K : PySem.W.Frag} {H : Hp} {ds : List D} {xs : List V} (h : RpL K H ds xs) : (!ds.isEmpty) = !xs.isEmpty := by
  cases ds with
  | nil => rw [rpl_nil.mp h]; rfl
  | cons d ds => obtain ⟨y, ys, rfl, _⟩ := rpl_cons.mp h; rfl
theorem tr_lk {B : Bs} {x : D} {v : V} {G : DG} {H : Hp} {Q : Bool → DG → Prop} (r : Rp B.K H x v) (w : Wld B G H) (h : trD x G Q) : ∃ k, TruV B.K v H k ∧ Q k G := by
  cases x with
  | non => rw [rp_non.mp r]; exact ⟨false, rfl, h⟩
  | bl b => rw [rp_bl.mp r]; exact ⟨b, rfl, h⟩
  | int i => rw [rp_int.mp r]; exact ⟨_, rfl, h⟩
  | str y => rw [rp_str.mp r]; exact ⟨_, ⟨h.1, rfl⟩, h.2⟩
  | tup ds =>
    obtain ⟨a, xs, rfl, q, rl⟩ := rp_tup.mp r
    exact ⟨_, .inr (.inl ⟨xs, q, rl.isEmpty⟩), h⟩
  | fl ds =>
    obtain ⟨a, xs, rfl, q, rl⟩ := rp_fl.mp r
    exact ⟨_, .inl ⟨xs, q.sq, rl.isEmpty⟩, h⟩
  | ref a =>
    obtain ⟨ds, e, q⟩ := h
    rw [rp_ref.mp r]
    obtain ⟨xs, e2, rl⟩ := w a _ e
    exact ⟨_, .inl ⟨xs, SqL.of e2, rl.isEmpty⟩, q⟩
  | ty n => exact h.elim
def dTru (t : DE) : DT := fun ρ G Q => t ρ G fun x G1 => trD x G1 Q
def dAndT (t u : DT) : DT := fun ρ G Q => t ρ G fun c G1 => if c = true then u ρ G1 Q else Q false G1
def dOrT (t u : DT) : DT := fun ρ G Q => t ρ G fun c G1 => if c = true then Q true G1 else u ρ G1 Q
def dNotT (t : DT) : DT := fun ρ G Q => t ρ G fun c G1 => Q (!c) G1
def dAnd (ta tb : DE) : DE := fun ρ G Q => ta ρ G fun x G1 => trD x G1 fun k G2 => if k = true then tb ρ G2 Q else Q x G2
def dOr (ta tb : DE) : DE := fun ρ G Q => ta ρ G fun x G1 => trD x G1 fun k G2 => if k = true then Q x G2 else tb ρ G2 Q
def dNot (ta : DE) : DE := fun ρ G Q => ta ρ G fun x G1 => trD x G1 fun k G2 => Q (.bl (!k)) G2
def dIf (t : DT) (ta tb : DE) : DE := fun ρ G Q => t ρ G fun c G1 => if c = true then ta ρ G1 Q else tb ρ G1 Q
theorem trD_G {x : D} {G : DG} {Q : Bool → DG → Prop} (h : trD x G Q) : ∃ k, Q k G ∧ ∀ Q', Q' k G → trD x G Q' := by
  cases x with
  | non => exact ⟨_, h, fun _ q => q⟩
  | bl b => exact ⟨_, h, fun _ q => q⟩
  | int i => exact ⟨_, h, fun _ q => q⟩
  | str y => exact ⟨_, h.2, fun _ q => ⟨h.1, q⟩⟩
  | tup ds => exact ⟨_, h, fun _ q => q⟩
  | fl ds => exact ⟨_, h, fun _ q => q⟩
  | ref a => obtain ⟨ds, e, q⟩ := h; exact ⟨_, q, fun _ q => ⟨ds, e, q⟩⟩
  | ty n => exact h.elim
section
variable {X : Cx} {pos : Pos} {a b c e : Expr} {rest : List Expr} {da db : DE} {ta tb : DT}
theorem pdt_tru (h : PD X a da) (he : ∀ whole, isTrue a X.env whole = (do let v ← whole; standAt a.pos; holding [v] (truthy v)) := by intro _; rfl) : PDT X a (dTru da) := by
  obtain ⟨te, p, l⟩ := h
  refine ⟨_, pt_truth p he, fun ρ σ G H Q R s w q k => ?_⟩
  refine l ρ σ G H _ _ s w q fun x v G1 H1 r1 w1 f1 q1 => ?_
  obtain ⟨c, t, qq⟩ := tr_lk r1 w1 q1
  exact ⟨c, t, k c G1 H1 w1 f1 qq⟩
theorem PDW.pt (h : PDW X e ta) : PDT X e ta := let ⟨te, p, l⟩ := h.ex; ⟨te, p.pt, l⟩
theorem pdw_and1 (h : PDT X a ta) : PDW X (.BoolOp .And [a] pos) ta := let ⟨te, p, l⟩ := h.ex; ⟨te, pw_and1 p, l⟩
theorem pdw_or1 (h : PDT X a ta) : PDW X (.BoolOp .Or [a] pos) ta := let ⟨te, p, l⟩ := h.ex; ⟨te, pw_or1 p, l⟩
theorem pdw_and (h : PDT X a ta) (h2 : PDW X (.BoolOp .And (b :: rest) pos) tb) : PDW X (.BoolOp .And (a :: b :: rest) pos) (dAndT ta tb) := by
  obtain ⟨te, p, l⟩ := h
  obtain ⟨te2, p2, l2⟩ := h2
  refine ⟨_, pw_and p p2, fun ρ σ G H Q R s w q k => ?_⟩
  refine l ρ σ G H _ _ s w q fun c G1 H1 w1 f1 q1 => ?_
  cases c with
  | true => exact l2 ρ σ G1 H1 Q R (s.mono (f1.kp w)) w1 q1 (k.aft f1)
  | false => exact k false G1 H1 w1 f1 q1
theorem pdw_or (h : PDT X a ta) (h2 : PDW X (.BoolOp .Or (b :: rest) pos) tb) : PDW X (.BoolOp .Or (a :: b :: rest) pos) (dOrT ta tb) := by
  obtain ⟨te, p, l⟩ := h
  obtain ⟨te2, p2, l2⟩ := h2
  refine ⟨_, pw_or p p2, fun ρ σ G H Q R s w q k => ?_⟩
  refine l ρ σ G H _ _ s w q fun c G1 H1 w1 f1 q1 => ?_
  cases c with
  | true => exact k true G1 H1 w1 f1 q1
  | false => exact l2 ρ σ G1 H1 Q R (s.mono (f1.kp w)) w1 q1 (k.aft f1)
theorem pdt_not (h : PDT X a ta) : PDT X (.UnaryOp .Not a pos) (dNotT ta) := by
  obtain ⟨te, p, l⟩ := h
  refine ⟨_, pt_not p, fun ρ σ G H Q R s w q k => ?_⟩
  exact l ρ σ G H _ _ s w q fun c G1 H1 w1 f1 q1 => k (!c) G1 H1 w1 f1 q1
theorem pd_one {op} (h : PD X a da) : PD X (.BoolOp op [a] pos) da := let ⟨te, p, l⟩ := h.ex; ⟨te, pe_one p, l⟩
theorem pd_and (h : PD X a da) (h2 : PD X (.BoolOp .And (b :: rest) pos) db) : PD X (.BoolOp .And (a :: b :: rest) pos) (dAnd da db) := by
  obtain ⟨te, p, l⟩ := h
  obtain ⟨te2, p2, l2⟩ := h2
  refine ⟨_, pe_andT p p2, fun ρ σ G H Q R s w q k => ?_⟩
  refine l ρ σ G H _ _ s w q fun x v G1 H1 r1 w1 f1 q1 => ?_
  obtain ⟨c, t, qq⟩ := tr_lk r1 w1 q1
  refine ⟨c, t, ?_⟩
  cases c with
  | true => exact l2 ρ σ G1 H1 Q R (s.mono (f1.kp w)) w1 qq (k.aft f1)
  | false => exact k x v G1 H1 r1 w1 f1 qq
theorem pd_or (h : PD X a da) (h2 : PD X (.BoolOp .Or (b :: rest) pos) db) : PD X (.BoolOp .Or (a :: b :: rest) pos) (dOr da db) := by
  obtain ⟨te, p, l⟩ := h
  obtain ⟨te2, p2, l2⟩ := h2
  refine ⟨_, pe_orT p p2, fun ρ σ G H Q R s w q k => ?_⟩
  refine l ρ σ G H _ _ s w q fun x v G1 H1 r1 w1 f1 q1 => ?_
  obtain ⟨c, t, qq⟩ := tr_lk r1 w1 q1
  refine ⟨c, t, ?_⟩
  cases c with
  | true => exact k x v G1 H1 r1 w1 f1 qq
  | false => exact l2 ρ σ G1 H1 Q R (s.mono (f1.kp w)) w1 qq (k.aft f1)
theorem pd_not (h : PD X a da) : PD X (.UnaryOp .Not a pos) (dNot da) := by
  obtain ⟨te, p, l⟩ := h
  refine ⟨_, pe_notT p, fun ρ σ G H Q R s w q k => ?_⟩
  refine l ρ σ G H _ _ s w q fun x v G1 H1 r1 w1 f1 q1 => ?_
  obtain ⟨c, t, qq⟩ := tr_lk r1 w1 q1
  exact ⟨c, t, k _ _ G1 H1 (rp_bl.mpr rfl) w1 f1 qq⟩
theorem pd_if (h : PDT X c ta) (h1 : PD X a da) (h2 : PD X b db) : PD X (.IfExp c a b pos) (dIf ta da db) := by
  obtain ⟨te, p, l⟩ := h
  obtain ⟨te1, p1, l1⟩ := h1
  obtain ⟨te2, p2, l2⟩ := h2
  refine ⟨_, pe_ifExp p p1 p2, fun ρ σ G H Q R s w q k => ?_⟩
  refine l ρ σ G H _ _ s w q fun c G1 H1 w1 f1 q1 => ?_
  cases c with
  | true => exact l1 ρ σ G1 H1 Q R (s.mono (f1.kp w)) w1 q1 (k.aft f1)
  | false => exact l2 ρ σ G1 H1 Q R (s.mono (f1.kp w)) w1 q1 (k.aft f1)
end
/-! ### statements -/
def dNext : DS := fun E ρ G => E.nx ρ G
def dSeq (t u : DS) : DS := fun E ρ G => t { E with nx := u E } ρ G
def dBrk : DS := fun E ρ G => E.bk ρ G
def dCnt : DS := fun E ρ G => E.ct ρ G
def dDrop (t : DE) : DS := fun E ρ G => t ρ G fun _ G1 => E.nx ρ G1
def dRet (t : DE) : DS := fun E ρ G => t ρ G E.rt
def dRetN : DS := fun E _ G => E.rt .non G
def dIfS (c : DT) (t u : DS) : DS := fun E ρ G => c ρ G fun b G1 => if b = true then t E ρ G1 else u E ρ G1
abbrev DGt := D → DSt → DG → (DSt → DG → Prop) → Prop
def LkG (B : Bs) (g : TG) (dg : DGt) : Prop := ∀ d v ρ σ G H Q R, Rp B.K H d v → RpS B.K H ρ σ → Wld B G H → dg d ρ G Q → KtS B G H Q R → g v σ H R
structure PDG (X : Cx) (tg : Expr) (t : DGt) : Prop where
  ex : ∃ g, PG X tg g ∧ LkG (bs X) g t
abbrev DGts := List D → DSt → DG → (DSt → DG → Prop) → Prop
structure PDGs (X : Cx) (ts : List Expr) (t : DGts) : Prop where
  ex : ∃ g : TGs, PGs X ts g ∧ ∀ ds vs ρ σ G H Q R, RpL X.K H ds vs → RpS X.K H ρ σ → Wld (bs X) G H → t ds ρ G Q → KtS (bs X) G H Q R → g vs σ H R
def gnD (i : Nat) : DGt := fun d ρ G Q => Q (ρ.set i (some d)) G
def gtNil : DGts := fun ds ρ G Q => match ds with
  | [] => Q ρ G
  | _ => False
def gtCons (t : DGt) (u : DGts) : DGts := fun ds ρ G Q => match ds with
  | d :: r => t d ρ G fun ρ' G' => u r ρ' G' Q
  | [] => False
def gtD (n : Nat) (u : DGts) : DGt := fun d ρ G Q => match d with
  | .tup ds => ds.length = n ∧ u ds ρ G Q
  | _ => False
def dAsg (t : DE) (g : DGt) : DS := fun E ρ G => t ρ G fun x G1 => g x ρ G1 E.nx
def dPar (i j : Nat) (ta : DA) : DS := fun E ρ G => ta ρ G fun ds G1 => match ds with
  | [x, y] => E.nx ((ρ.set i (some x)).set j (some y)) G1
  | _ => False
section
variable {X : Cx} {pos : Pos} {st : Stmt} {sts a b : List Stmt} {e c : Expr} {t u : DS} {te : DE} {tc : DT} {g : DGt} {gs : DGts}
theorem pds_nil : PDSs X [] dNext := ⟨tNext, pss_nil, fun ρ σ G H E F s w h k => k.nx ρ σ G H s w Fm.refl h⟩
theorem pds_cons (h1 : PDS X st t) (h2 : PDSs X sts u) : PDSs X (st :: sts) (dSeq t u) := by
  obtain ⟨te, p, l⟩ := h1
  obtain ⟨te2, p2, l2⟩ := h2
  refine ⟨_, pss_cons p p2, fun ρ σ G H E F s w h k => ?_⟩
  exact l ρ σ G H _ _ s w h ⟨fun ρ' σ' G' H' s' w' f' q => l2 ρ' σ' G' H' E F s' w' q (k.aft f'), k.rt, k.bk, k.ct⟩
theorem pds_one (h1 : PDS X st t) : PDSs X [st] t := let ⟨te, p, l⟩ := h1.ex; ⟨te, pss_one p, l⟩
theorem pds_brk : PDS X (.Break pos) dBrk := ⟨tBreak, ps_break, fun ρ σ G H E F s w h k => k.bk ρ σ G H s w Fm.refl h⟩
theorem pds_cnt : PDS X (.Continue pos) dCnt := ⟨tCont, ps_continue, fun ρ σ G H E F s w h k => k.ct ρ σ G H s w Fm.refl h⟩
theorem pds_pass : PDS X (.Pass pos) dNext := ⟨tNext, ps_pass, fun ρ σ G H E F s w h k => k.nx ρ σ G H s w Fm.refl h⟩
theorem pds_expr (h : PD X e te) (hs : swapsWith e none pos.line X.env = pure false := by rfl) : PDS X (.Expr e pos) (dDrop te) := by
  obtain ⟨x, p, l⟩ := h
  refine ⟨_, ps_expr p hs, fun ρ σ G H E F s w h k => ?_⟩
  exact l ρ σ G H _ _ s w h fun d v G1 H1 r1 w1 f1 q1 => k.nx ρ σ G1 H1 (s.mono (f1.kp w)) w1 f1 q1
theorem pds_ret (h : PD X e te) : PDS X (.Return (some e) pos) (dRet te) := by
  obtain ⟨x, p, l⟩ := h
  exact ⟨_, ps_ret p, fun ρ σ G H E F s w h k => l ρ σ G H _ _ s w h k.rt⟩
theorem pds_retN : PDS X (.Return none pos) dRetN := ⟨_, ps_retN, fun ρ σ G H E F s w h k => k.rt _ _ G H (rp_non.mpr rfl) w Fm.refl h⟩
theorem pds_if (h : PDT X c tc) (h1 : PDSs X a t) (h2 : PDSs X b u) : PDS X (.If c a b pos) (dIfS tc t u) := by
  obtain ⟨x, p, l⟩ := h
  obtain ⟨x1, p1, l1⟩ := h1
  obtain ⟨x2, p2, l2⟩ := h2
  refine ⟨_, ps_if p p1 p2, fun ρ σ G H E F s w h k => ?_⟩
  refine l ρ σ G H _ _ s w h fun c G1 H1 w1 f1 q1 => ?_
  cases c with
  | true => exact l1 ρ σ G1 H1 E F (s.mono (f1.kp w)) w1 q1 (k.aft f1)
  | false => exact l2 ρ σ G1 H1 E F (s.mono (f1.kp w)) w1 q1 (k.aft f1)
theorem lk_name {B : Bs} (i : Nat) : LkG B (gName i) (gnD i) := fun d v ρ σ G H Q R r s w h k => k _ _ G H (s.set (d := some d) (v := some v) r i) w Fm.refl h
theorem pdg_name (i : Nat) {x : Str} (hN : X.N.Nodup) (hi : X.N[i]? = some x := by rfl) (hx : Loc X.env.scope x := by first | exact Or.inl rfl | exact Or.inr rfl) (hf : X.fn x = true ∨ X.env.scope.names.lookup x = some .local := by first | exact .inl rfl | exact .inr rfl | assumption) : PDG X (.Name x pos) (gnD i) :=
  ⟨gName i, pg_name hN hi hx hf, lk_name i⟩
theorem pdgs_nil : PDGs X [] gtNil := ⟨gNil, pgs_nil, fun ds vs ρ σ G H Q R r s w h k => by
  cases ds with
  | nil => exact ⟨rpl_nil.mp r, k ρ σ G H s w Fm.refl h⟩
  | cons d ds => exact h.elim⟩
theorem pdgs_cons {es : List Expr} (h1 : PDG X e g) (h2 : PDGs X es gs) (he : (assignEach (e :: es) X.env).map (·.2) = assign e X.env :: (assignEach es X.env).map (·.2) := by rfl) : PDGs X (e :: es) (gtCons g gs) := by
  obtain ⟨x, p, l⟩ := h1
  obtain ⟨x2, p2, l2⟩ := h2
  refine ⟨_, pgs_cons p p2 he, fun ds vs ρ σ G H Q R r s w h k => ?_⟩
  cases ds with
  | nil => exact h.elim
  | cons d ds =>
    obtain ⟨y, ys, rfl, r1, r2⟩ := rpl_cons.mp r
    refine ⟨y, ys, rfl, l d y ρ σ G H _ _ r1 s w h fun ρ' σ' G' H' s' w' f' q => ?_⟩
    exact l2 ds ys ρ' σ' G' H' Q R (r2.mono (f'.kp w)) s' w' q (k.aft f')
theorem pdg_tup {es : List Expr} {k1 : Nat} {n : Nat} (hc : X.calm = true) (h : PDGs X es gs) (hn : (assignEach es X.env).length = n := by rfl) (hst : (assignEach es X.env).findIdx? (·.1) = none := by rfl) : PDG X (.Tuple es k1 pos) (gtD n gs) := by
  obtain ⟨x, p, l⟩ := h
  refine ⟨_, pg_tup (n := n) hc p hn hst, fun d v ρ σ G H Q R r s w h k => ?_⟩
  cases d with
  | tup ds =>
    obtain ⟨a, xs, rfl, q, rl⟩ := rp_tup.mp r
    exact ⟨a, xs, rfl, q, by rw [← rl.length]; exact h.1, l ds xs ρ σ G H Q R rl s w h.2 k⟩
  | _ => exact h.elim
theorem pds_set (i : Nat) {x : Str} {pos' : Pos} (hN : X.N.Nodup) (h : PD X e te) (hi : X.N[i]? = some x := by rfl) (hx : Loc X.env.scope x := by first | exact Or.inl rfl | exact Or.inr rfl) (hs : swapsWith e (some (.Name x pos')) pos.line X.env = pure false := by rfl)
    (hf : X.fn x = true ∨ X.env.scope.names.lookup x = some .local := by first | exact .inl rfl | exact .inr rfl | assumption) : PDS X (.Assign [.Name x pos'] e pos) (dAsg te (gnD i)) := by
  obtain ⟨y, p, l⟩ := h
  refine ⟨_, ps_set hN hi hx p hs hf, fun ρ σ G H E F s w h k => ?_⟩
  exact l ρ σ G H _ _ s w h fun d v G1 H1 r1 w1 f1 q1 => k.nx _ _ G1 H1 ((s.mono (f1.kp w)).set (d := some d) (v := some v) r1 i) w1 f1 q1
theorem pds_asg {tg : Expr} (h : PD X e te) (hg : PDG X tg g) (hs : swapsWithSole [tg] e pos.line X.env = pure false := by rfl) (hw : swappedStores [tg] e X.env = pure none := by rfl)
    (h1 : (assignEach [tg] X.env).map (·.2) = [assign tg X.env] := by rfl) : PDS X (.Assign [tg] e pos) (dAsg te g) := by
  obtain ⟨y, p, l⟩ := h
  obtain ⟨y2, p2, l2⟩ := hg
  refine ⟨_, ps_asg p p2 hs hw h1, fun ρ σ G H E F s w h k => ?_⟩
  refine l ρ σ G H _ _ s w h fun d v G1 H1 r1 w1 f1 q1 => ?_
  exact l2 d v ρ σ G1 H1 _ _ r1 (s.mono (f1.kp w)) w1 q1 (k.nx.aft f1)
theorem pds_par (i j : Nat) {x y : Str} {e1 e2 : Expr} {ta : DA} {px py pt : Pos} {kt k2 pt2} (hc : X.calm = true) (hN : X.N.Nodup) (h : PDA X [e1, e2] ta) (hi : X.N[i]? = some x := by rfl) (hj : X.N[j]? = some y := by rfl) (hij : i ≠ j := by decide)
    (hx : X.env.scope.names.lookup x = some .local := by rfl) (hy : X.env.scope.names.lookup y = some .local := by rfl)
    (hw : swappedStores [.Tuple [.Name x px, .Name y py] kt pt] (.Tuple [e1, e2] k2 pt2) X.env = pure (some [x, y]) := by rfl)
    (hs : swapsWithSole [.Tuple [.Name x px, .Name y py] kt pt] (.Tuple [e1, e2] k2 pt2) pos.line X.env = pure false := by rfl) :
    PDS X (.Assign [.Tuple [.Name x px, .Name y py] kt pt] (.Tuple [e1, e2] k2 pt2) pos) (dPar i j ta) := by
  obtain ⟨z, p, l⟩ := h
  refine ⟨_, ps_par hc hN hi hj hij hx hy p hw hs, fun ρ σ G H E F s w h k => ?_⟩
  refine l ρ σ G H _ _ s w h fun ds vs G1 H1 r1 w1 f1 q1 => ?_
  match ds, q1 with
  | [x, y], q1 =>
    obtain ⟨v, u, rfl, rx, ry⟩ := r1.two
    exact ⟨v, u, rfl, k.nx _ _ G1 H1 (((s.mono (f1.kp w)).set (d := some x) (v := some v) rx i).set (d := some y) (v := some u) ry j) w1 f1 q1⟩
end
/-! ### while -/
def whileGo (c : DT) (b : DS) (E : DEnds) : Nat → DSt → DG → Prop
  | 0, _, _ => False
  | n + 1, ρ, G => c ρ G fun k G1 => if k = true then b { E with nx := whileGo c b E n, ct := whileGo c b E n, bk := E.nx } ρ G1 else E.nx ρ G1
def dWhile (c : DT) (b : DS) : DS := fun E ρ G => ∃ n, whileGo c b E n ρ G
theorem pds_while {X : Cx} {pos : Pos} {c : Expr} {body : List Stmt} {tc : DT} {tb : DS} (hp : PassesOwn (model X.prog X.w) X.A X.env X.xe) (hc : PDT X c tc) (hb : PDSs X body tb) : PDS X (.While c body [] pos) (dWhile tc tb) := by
  obtain ⟨x, p, l⟩ := hc
  obtain ⟨x2, p2, l2⟩ := hb
  refine ⟨_, ps_while hp p p2, fun ρ σ G H E F s w h k => ?_⟩
  obtain ⟨n, h⟩ := h
  refine ⟨fun m σ' H' => ∃ ρ' G', RpS X.K H' ρ' σ' ∧ Wld (bs X) G' H' ∧ Fm G H G' H' ∧ whileGo tc tb E m ρ' G', ⟨n, ρ, G, s, w, Fm.refl, h⟩, ?_⟩
  rintro m σ' H' ⟨ρ', G', s', w', f', q⟩
  cases m with
  | zero => exact q.elim
  | succ m =>
    refine l ρ' σ' G' H' _ _ s' w' q fun c G1 H1 w1 f1 q1 => ?_
    cases c with
    | false => exact k.nx ρ' σ' G1 H1 (s'.mono (f1.kp w')) w1 (f'.trans f1) q1
    | true =>
      refine ⟨fun σ2 H2 => ∃ ρ2 G2, RpS X.K H2 ρ2 σ2 ∧ Wld (bs X) G2 H2 ∧ Fm G H G2 H2 ∧ whileGo tc tb E m ρ2 G2, fun σ2 H2 q2 => ⟨m, Nat.lt_succ_self m, q2⟩, ?_⟩
      have nx : KtS (bs X) G1 H1 (whileGo tc tb E m) fun σ2 H2 => ∃ ρ2 G2, RpS X.K H2 ρ2 σ2 ∧ Wld (bs X) G2 H2 ∧ Fm G H G2 H2 ∧ whileGo tc tb E m ρ2 G2 := fun ρ2 σ2 G2 H2 s2 w2 f2 q2 => ⟨ρ2, G2, s2, w2, (f'.trans f1).trans f2, q2⟩
      have k2 := k.aft (f'.trans f1)
      exact l2 ρ' σ' G1 H1 _ _ (s'.mono (f1.kp w')) w1 q1 ⟨nx, k2.rt, k2.nx, nx⟩
end FD

/-! FD3: what is walked; for; list comprehensions. -/
namespace FD
open PySem L2
/-- what a loop walks: the items, and what must stay while it is walked -/
structure DIt where
  items : List D
  chk : DG → Prop
abbrev DI := DSt → DG → (DIt → DG → Prop) → Prop
def ItOk (B : Bs) (H0 : Hp) (J : It) (it : DIt) : Prop := ∀ i G H, Wld B G H → Kp B.K H0 H → it.chk G →
  (∀ d, it.items[i]? = some d → J.go i H ∧ ∀ x H', J.yld i H x H' → Wld B G H' ∧ Fm G H G H' ∧ Rp B.K H' d x) ∧ (i = it.items.length → J.stop i H)
def LkI (B : Bs) (wi : TI) (di : DI) : Prop := ∀ ρ σ G H Q R, RpS B.K H ρ σ → Wld B G H → di ρ G Q → (∀ it J G' H', Wld B G' H' → Fm G H G' H' → ItOk B H' J it → Q it G' → R J H') → wi σ H R
structure PDI (X : Cx) (tg iter : Expr) (t : DI) : Prop where
  ex : ∃ wi, PI X tg iter wi ∧ LkI (bs X) wi t
def iAny (K : PySem.W.Frag) (tl : TE) : TI := fun σ H R => tl σ H fun x H1 => (∃ a, x = .ref a ∧ (∃ xs, SqL K H1 a xs) ∧ R (Itl K a) H1) ∨ (∃ a, x = .ref a ∧ (∃ xs, SqT K H1 a xs) ∧ R (Itt K a) H1) ∨ (∃ z, x = .str z ∧ R (Its z) H1)
theorem pi_any {X : Cx} {tg l : Expr} {tl : TE} (hl : PE X l tl) : PI X tg l (iAny X.K tl) := by
  refine ⟨fun pins s σ H R I h => ?_⟩
  refine thn (hl.run pins s σ H _ I h) fun v s1 ⟨x, H1, I1, r1, q1⟩ => ?_
  rcases q1 with ⟨a, e, ⟨xs, hq⟩, q⟩ | ⟨a, e, ⟨xs, hq⟩, q⟩ | ⟨z, e, q⟩
  · subst e
    cases r1
    obtain ⟨its, rv, p, hz⟩ := I1.list hq
    refine wpAny_pyIter_list p.isList ?_
    refine ⟨s1.heap.objs.size, [s1.heap.objs.size], _, _, H1, rfl, I1.kept (t' := s1.toks) fun b o e => Heap.get?_push_of_some _ e, turn_list a _, ⟨_, Heap.get?_push_size _ rfl, rfl, rfl⟩, fun b hb => ?_, q⟩
    have e : b = s1.heap.objs.size := by simpa using hb
    subst e
    exact I1.fpOk (Nat.le_refl _) (I1.hok.fresh (Nat.le_refl _))
  · subst e
    cases r1
    obtain ⟨its, rv, p, hz⟩ := I1.tuple hq
    refine wpAny_pyIter_tuple (show s1.heap.IsTuple a its.toArray from p) ?_
    refine ⟨s1.heap.objs.size, [s1.heap.objs.size], _, _, H1, rfl, I1.kept (t' := s1.toks) fun b o e => Heap.get?_push_of_some _ e, turn_tuple a _, ⟨_, Heap.get?_push_size _ rfl, rfl, rfl⟩, fun b hb => ?_, q⟩
    have e : b = s1.heap.objs.size := by simpa using hb
    subst e
    exact I1.fpOk (Nat.le_refl _) (I1.hok.fresh (Nat.le_refl _))
  · subst e
    obtain ⟨t, rfl⟩ := r1
    cases ha : z.cps.all (· < 128)
    · exact wpAny_pyIter_wide ha (pi_one (tk := s1.toks) I1 _ (turn_str _ z t "str_iterator" (.inr rfl)) ⟨_, Heap.get?_push_size _ rfl, rfl, rfl⟩ q)
    · exact wpAny_pyIter_ascii ha (pi_one (tk := s1.toks) I1 _ (turn_str _ z t "str_ascii_iterator" (.inl rfl)) ⟨_, Heap.get?_push_size _ rfl, rfl, rfl⟩ q)
/-- the signs of a text, each a text -/
def signs (z : Str) : List D := z.cps.toList.map fun c => .str ⟨#[c]⟩
def diVal (x : D) (G : DG) (Q : DIt → DG → Prop) : Prop := match x with
  | .tup ds => Q ⟨ds, fun _ => True⟩ G
  | .fl ds => Q ⟨ds, fun _ => True⟩ G
  | .str z => Q ⟨signs z, fun _ => True⟩ G
  | .ref a => ∃ ds, G a = some (.lst ds) ∧ Q ⟨ds, fun G' => G' a = some (.lst ds)⟩ G
  | _ => False
def diAny (t : DE) : DI := fun ρ G Q => t ρ G fun x G1 => diVal x G1 Q
theorem ok_tup {B : Bs} {H0 : Hp} {a : Addr} {xs : List V} {ds : List D} (q : SqT B.K H0 a xs) (r : RpL B.K H0 ds xs) : ItOk B H0 (Itt B.K a) ⟨ds, fun _ => True⟩ := fun i G H w k _ => by
  refine ⟨fun d hd => ?_, fun hi => ⟨xs, k.t a xs q, by rw [hi, r.length]; exact Nat.le_refl _⟩⟩
  obtain ⟨v, hv, rv⟩ := (r.mono k).get hd
  refine ⟨⟨xs, v, k.t a xs q, hv⟩, fun x H' y => ?_⟩
  obtain ⟨rfl, y⟩ := y
  have e : x = v := Option.some.inj ((y xs (k.t a xs q)).symm.trans hv)
  subst e
  exact ⟨w, Fm.refl, rv⟩
theorem ok_fl {B : Bs} {H0 : Hp} {a : Addr} {xs : List V} {ds : List D} (q : FzL B.K H0 a xs) (r : RpL B.K H0 ds xs) : ItOk B H0 (Itl B.K a) ⟨ds, fun _ => True⟩ := fun i G H w k _ => by
  refine ⟨fun d hd => ?_, fun hi => ⟨xs, (k.l a xs q).sq, by rw [hi, r.length]; exact Nat.le_refl _⟩⟩
  obtain ⟨v, hv, rv⟩ := (r.mono k).get hd
  refine ⟨⟨xs, v, (k.l a xs q).sq, hv⟩, fun x H' y => ?_⟩
  obtain ⟨rfl, y⟩ := y
  have e : x = v := Option.some.inj ((y xs (k.l a xs q).sq).symm.trans hv)
  subst e
  exact ⟨w, Fm.refl, rv⟩
theorem ok_lst {B : Bs} {H0 : Hp} {a : Addr} {ds : List D} : ItOk B H0 (Itl B.K a) ⟨ds, fun G' => G' a = some (.lst ds)⟩ := fun i G H w k c => by
  obtain ⟨xs, e, r⟩ := w a _ c
  refine ⟨fun d hd => ?_, fun hi => ⟨xs, SqL.of e, by rw [hi, r.length]; exact Nat.le_refl _⟩⟩
  obtain ⟨v, hv, rv⟩ := r.get hd
  refine ⟨⟨xs, v, SqL.of e, hv⟩, fun x H' y => ?_⟩
  obtain ⟨rfl, y⟩ := y
  have e2 : x = v := Option.some.inj ((y xs (SqL.of e)).symm.trans hv)
  subst e2
  exact ⟨w, Fm.refl, rv⟩
theorem signs_get {z : Str} {i : Nat} {d : D} (h : (signs z)[i]? = some d) : ∃ c, z.cps[i]? = some c ∧ d = .str ⟨#[c]⟩ := by
  unfold signs at h
  rw [List.getElem?_map] at h
  cases e : z.cps.toList[i]? with
  | none => rw [e] at h; cases h
  | some c =>
    rw [e] at h
    refine ⟨c, ?_, (Option.some.inj h).symm⟩
    rw [← Array.getElem?_toList]
    exact e
theorem signs_len (z : Str) : (signs z).length = z.cps.size := by unfold signs; rw [List.length_map, Array.length_toList]
theorem ok_str {B : Bs} {H0 : Hp} {z : Str} : ItOk B H0 (Its z) ⟨signs z, fun _ => True⟩ := fun i G H w k _ => by
  refine ⟨fun d hd => ?_, fun hi => ?_⟩
  · obtain ⟨c, hc, rfl⟩ := signs_get hd
    refine ⟨?_, fun x H' y => ?_⟩
    · show i < z.cps.size
      exact (Array.getElem?_eq_some_iff.mp hc).1
    · obtain ⟨rfl, c', hc', rfl⟩ := y
      rw [hc] at hc'
      cases hc'
      exact ⟨w, Fm.refl, rp_str.mpr rfl⟩
  · show z.cps.size ≤ i
    rw [hi]
    exact Nat.le_of_eq (signs_len z).symm
section
variable {X : Cx} {tg iter : Expr} {t : DE} {ta : DA}
theorem pdi_any (h : PD X iter t) : PDI X tg iter (diAny t) := by
  obtain ⟨te, p, l⟩ := h
  refine ⟨_, pi_any p, fun ρ σ G H Q R s w q k => ?_⟩
  refine l ρ σ G H _ _ s w q fun x v G1 H1 r1 w1 f1 q1 => ?_
  cases x with
  | tup ds =>
    obtain ⟨a, xs, rfl, hq, rl⟩ := rp_tup.mp r1
    exact .inr (.inl ⟨a, rfl, ⟨xs, hq⟩, k _ _ G1 H1 w1 f1 (ok_tup hq rl) q1⟩)
  | fl ds =>
    obtain ⟨a, xs, rfl, hq, rl⟩ := rp_fl.mp r1
    exact .inl ⟨a, rfl, ⟨xs, hq.sq⟩, k _ _ G1 H1 w1 f1 (ok_fl hq rl) q1⟩
  | str z =>
    rw [rp_str.mp r1]
    exact .inr (.inr ⟨z, rfl, k _ _ G1 H1 w1 f1 ok_str q1⟩)
  | ref a =>
    obtain ⟨ds, e, q1⟩ := q1
    rw [rp_ref.mp r1]
    obtain ⟨xs, e2, rl⟩ := w1 a _ e
    exact .inl ⟨a, rfl, ⟨xs, SqL.of e2⟩, k _ _ G1 H1 w1 f1 ok_lst q1⟩
  | _ => exact q1.elim
def rngD (lo : Int) (n : Nat) : List D := (List.range n).map fun (i : Nat) => .int (lo + (i : Int))
def diRng1 (ta : DA) : DI := fun ρ G Q => ta ρ G fun ds G1 => match ds with
  | [.int j] => (-(2 ^ 62) ≤ j ∧ j < 2 ^ 62) ∧ Q ⟨rngD 0 j.toNat, fun _ => True⟩ G1
  | _ => False
def diRng2 (ta : DA) : DI := fun ρ G Q => ta ρ G fun ds G1 => match ds with
  | [.int i, .int j] => (-(2 ^ 62) ≤ i ∧ i < 2 ^ 62 ∧ -(2 ^ 62) ≤ j ∧ j < 2 ^ 62) ∧ Q ⟨rngD i (j - i).toNat, fun _ => True⟩ G1
  | _ => False
theorem rng_get {lo : Int} {n i : Nat} {d : D} (h : (rngD lo n)[i]? = some d) : i < n ∧ d = .int (lo + (i : Int)) := by
  unfold rngD at h
  rw [List.getElem?_map] at h
  by_cases hi : i < n
  · rw [List.getElem?_range hi] at h
    exact ⟨hi, (Option.some.inj h).symm⟩
  · rw [List.getElem?_eq_none (by rw [List.length_range]; omega)] at h
    cases h
theorem rng_len (lo : Int) (n : Nat) : (rngD lo n).length = n := by unfold rngD; rw [List.length_map, List.length_range]
theorem ok_rng {B : Bs} {H0 : Hp} {lo : Int} {n : Nat} : ItOk B H0 (Itr lo n) ⟨rngD lo n, fun _ => True⟩ := fun i G H w k _ => by
  refine ⟨fun d hd => ?_, fun hi => ?_⟩
  · obtain ⟨h1, rfl⟩ := rng_get hd
    refine ⟨h1, fun x H' y => ?_⟩
    obtain ⟨rfl, rfl⟩ := y
    exact ⟨w, Fm.refl, rp_int.mpr rfl⟩
  · show n ≤ i
    rw [hi]
    exact Nat.le_of_eq (rng_len lo n).symm
theorem pdi_rng1 {a : Expr} {p pos : Pos} (hg : Gl X "range") (hm : X.mg "range" = none) (ha : PDA X [a] ta) (hs : starEach [a] X.env = [(false, eval a X.env)] := by rfl) : PDI X tg (.Call (.Name "range" p) [a] [] pos) (diRng1 ta) := by
  obtain ⟨te, pp, l⟩ := ha
  refine ⟨_, pi_range1 hg hm pp hs, fun ρ σ G H Q R s w q k => ?_⟩
  refine l ρ σ G H _ _ s w q fun ds vs G1 H1 r1 w1 f1 q1 => ?_
  match ds, q1 with
  | [.int j], q1 =>
    obtain ⟨v, rfl, rv⟩ := r1.one
    rw [rp_int.mp rv]
    exact ⟨j, rfl, q1.1.1, q1.1.2, k _ _ G1 H1 w1 f1 ok_rng q1.2⟩
theorem pdi_rng2 {a b : Expr} {p pos : Pos} (hg : Gl X "range") (hm : X.mg "range" = none) (ha : PDA X [a, b] ta) (hs : starEach [a, b] X.env = [(false, eval a X.env), (false, eval b X.env)] := by rfl) (hs2 : starEach [b] X.env = [(false, eval b X.env)] := by rfl) : PDI X tg (.Call (.Name "range" p) [a, b] [] pos) (diRng2 ta) := by
  obtain ⟨te, pp, l⟩ := ha
  refine ⟨_, pi_range2 hg hm pp hs hs2, fun ρ σ G H Q R s w q k => ?_⟩
  refine l ρ σ G H _ _ s w q fun ds vs G1 H1 r1 w1 f1 q1 => ?_
  match ds, q1 with
  | [.int i, .int j], q1 =>
    obtain ⟨v, u, rfl, rv, ru⟩ := r1.two
    rw [rp_int.mp rv, rp_int.mp ru]
    exact ⟨i, j, rfl, q1.1, k _ _ G1 H1 w1 f1 ok_rng q1.2⟩
/-- zip of two lists, or of two tuples -/
def zipD (xs ys : List D) : List D := (xs.zip ys).map fun p => .tup [p.1, p.2]
def diZip (ta : DA) : DI := fun ρ G Q => ta ρ G fun ds G1 => match ds with
  | [.tup xs, .tup ys] => Q ⟨zipD xs ys, fun _ => True⟩ G1
  | [.ref a, .ref b] => ∃ xs ys, G1 a = some (.lst xs) ∧ G1 b = some (.lst ys) ∧ Q ⟨zipD xs ys, fun G' => G' a = some (.lst xs) ∧ G' b = some (.lst ys)⟩ G1
  | _ => False
theorem zip_get {xs ys : List D} {i : Nat} {d : D} (h : (zipD xs ys)[i]? = some d) : ∃ x y, xs[i]? = some x ∧ ys[i]? = some y ∧ d = .tup [x, y] := by
  unfold zipD at h
  rw [List.getElem?_map] at h
  cases e : (xs.zip ys)[i]? with
  | none => rw [e] at h; cases h
  | some p =>
    rw [e] at h
    rw [List.getElem?_zip_eq_some] at e
    exact ⟨p.1, p.2, e.1, e.2, (Option.some.inj h).symm⟩
theorem zip_len (xs ys : List D) : (zipD xs ys).length = min xs.length ys.length := by unfold zipD; rw [List.length_map, List.length_zip]
theorem ok_zipL {B : Bs} {H0 : Hp} {a b : Addr} {xs ys : List D} : ItOk B H0 (Itz B.K a b) ⟨zipD xs ys, fun G' => G' a = some (.lst xs) ∧ G' b = some (.lst ys)⟩ := fun i G H w k c => by
  obtain ⟨vs, e1, r1⟩ := w a _ c.1
  obtain ⟨us, e2, r2⟩ := w b _ c.2
  refine ⟨fun d hd => ?_, fun hi => ⟨vs, us, SqL.of e1, SqL.of e2, ?_⟩⟩
  · obtain ⟨x, y, hx, hy, rfl⟩ := zip_get hd
    obtain ⟨v, hv, rv⟩ := r1.get hx
    obtain ⟨u, hu, ru⟩ := r2.get hy
    refine ⟨⟨vs, us, v, u, SqL.of e1, SqL.of e2, hv, hu⟩, fun z H' q => ?_⟩
    obtain ⟨T, x', y', rfl, hT, rfl, q1, q2⟩ := q
    have ex : x' = v := Option.some.inj ((q1 vs (SqL.of e1)).symm.trans hv)
    have ey : y' = u := Option.some.inj ((q2 us (SqL.of e2)).symm.trans hu)
    subst ex ey
    have kn : Kp B.K H (L2.upd H T (.tup [x', y'])) := kp_new hT
    exact ⟨wld_hid w hT, fm_hid hT, rp_tup.mpr ⟨T, _, rfl, SqT.of upd_same, RpL.cons (rv.mono kn) (RpL.cons (ru.mono kn) RpL.nil)⟩⟩
  · rw [zip_len] at hi
    have h1 := r1.length
    have h2 := r2.length
    omega
theorem ok_zipT {B : Bs} {H0 : Hp} {a b : Addr} {xs ys : List D} {vs us : List V} (e1 : SqT B.K H0 a vs) (e2 : SqT B.K H0 b us) (r1 : RpL B.K H0 xs vs) (r2 : RpL B.K H0 ys us) : ItOk B H0 (RZ.ItzT B.K a b) ⟨zipD xs ys, fun _ => True⟩ := fun i G H w k c => by
  have e1 := k.t _ _ e1
  have e2 := k.t _ _ e2
  have r1 := r1.mono k
  have r2 := r2.mono k
  refine ⟨fun d hd => ?_, fun hi => ⟨vs, us, e1, e2, ?_⟩⟩
  · obtain ⟨x, y, hx, hy, rfl⟩ := zip_get hd
    obtain ⟨v, hv, rv⟩ := r1.get hx
    obtain ⟨u, hu, ru⟩ := r2.get hy
    refine ⟨⟨vs, us, v, u, e1, e2, hv, hu⟩, fun z H' q => ?_⟩
    obtain ⟨T, x', y', rfl, hT, rfl, q1, q2⟩ := q
    have ex : x' = v := Option.some.inj ((q1 vs e1).symm.trans hv)
    have ey : y' = u := Option.some.inj ((q2 us e2).symm.trans hu)
    subst ex ey
    have kn : Kp B.K H (L2.upd H T (.tup [x', y'])) := kp_new hT
    exact ⟨wld_hid w hT, fm_hid hT, rp_tup.mpr ⟨T, _, rfl, SqT.of upd_same, RpL.cons (rv.mono kn) (RpL.cons (ru.mono kn) RpL.nil)⟩⟩
  · rw [zip_len] at hi
    have h1 := r1.length
    have h2 := r2.length
    omega
theorem pdi_zip {e e2 : Expr} {p pos tpos : Pos} {elts : List Expr} {kk : Nat} (hg : Gl X "zip") (hm : X.mg "zip" = none) (ha : PDA X [e, e2] ta)
    (hs : starEach [e, e2] X.env = (false, eval e X.env) :: starEach [e2] X.env := by rfl) (hpl : (backTo pos (starEach [e2] X.env)).any (·.1) = false := by rfl) : PDI X (.Tuple elts kk tpos) (.Call (.Name "zip" p) [e, e2] [] pos) (diZip ta) := by
  obtain ⟨te, pp, l⟩ := ha
  refine ⟨_, RZ.pi_zipA hg hm pp hs hpl, fun ρ σ G H Q R s w q k => ?_⟩
  refine l ρ σ G H _ _ s w q fun ds vs G1 H1 r1 w1 f1 q1 => ?_
  match ds, q1 with
  | [.tup xs, .tup ys], q1 =>
    obtain ⟨v, u, rfl, rv, ru⟩ := r1.two
    obtain ⟨a, vs, rfl, ha, rl⟩ := rp_tup.mp rv
    obtain ⟨b, us, rfl, hb, rl2⟩ := rp_tup.mp ru
    exact ⟨a, b, vs, us, rfl, .inr ⟨ha, hb, k _ _ G1 H1 w1 f1 (ok_zipT ha hb rl rl2) q1⟩⟩
  | [.ref a, .ref b], q1 =>
    obtain ⟨v, u, rfl, rv, ru⟩ := r1.two
    obtain ⟨xs, ys, ea, eb, q1⟩ := q1
    rw [rp_ref.mp rv, rp_ref.mp ru]
    obtain ⟨vs, e1, rl⟩ := w1 a _ ea
    obtain ⟨us, e2, rl2⟩ := w1 b _ eb
    exact ⟨a, b, vs, us, rfl, .inl ⟨SqL.of e1, SqL.of e2, k _ _ G1 H1 w1 f1 ok_zipL q1⟩⟩
/-- enumerate of a list -/
def enumD (n : Nat) : List D → List D
  | [] => []
  | d :: ds => .tup [.int (n : Int), d] :: enumD (n + 1) ds
def diEnum (ta : DA) : DI := fun ρ G Q => ta ρ G fun ds G1 => match ds with
  | [.ref a] => ∃ xs, G1 a = some (.lst xs) ∧ Q ⟨enumD 0 xs, fun G' => G' a = some (.lst xs)⟩ G1
  | _ => False
theorem enum_get : ∀ {xs : List D} {n i : Nat} {d : D}, (enumD n xs)[i]? = some d → ∃ x, xs[i]? = some x ∧ d = .tup [.int ((n + i : Nat) : Int), x]
  | [], _, _, _, h => by simp [enumD] at h
  | x :: xs, n, 0, d, h => ⟨x, rfl, (Option.some.inj h).symm⟩
  | x :: xs, n, i + 1, d, h => by
    obtain ⟨y, h1, h2⟩ := enum_get (n := n + 1) (i := i) h
    refine ⟨y, h1, ?_⟩
    rw [h2, show n + 1 + i = n + (i + 1) by omega]
theorem enum_len : ∀ (xs : List D) (n : Nat), (enumD n xs).length = xs.length
  | [], _ => rfl
  | x :: xs, n => by show (enumD (n + 1) xs).length + 1 = xs.length + 1; rw [enum_len xs]
theorem ok_enum {B : Bs} {H0 : Hp} {a : Addr} {xs : List D} : ItOk B H0 (Ite B.K a) ⟨enumD 0 xs, fun G' => G' a = some (.lst xs)⟩ := fun i G H w k c => by
  obtain ⟨vs, e1, r1⟩ := w a _ c
  refine ⟨fun d hd => ?_, fun hi => ⟨vs, SqL.of e1, ?_⟩⟩
  · obtain ⟨x, hx, rfl⟩ := enum_get hd
    obtain ⟨v, hv, rv⟩ := r1.get hx
    refine ⟨⟨vs, v, SqL.of e1, hv⟩, fun z H' q => ?_⟩
    obtain ⟨T, x', rfl, hT, rfl, q1⟩ := q
    have ex : x' = v := Option.some.inj ((q1 vs (SqL.of e1)).symm.trans hv)
    subst ex
    have kn : Kp B.K H (L2.upd H T (.tup [.int (i : Nat), x'])) := kp_new hT
    refine ⟨wld_hid w hT, fm_hid hT, rp_tup.mpr ⟨T, _, rfl, SqT.of upd_same, RpL.cons (rp_int.mpr ?_) (RpL.cons (rv.mono kn) RpL.nil)⟩⟩
    rw [Nat.zero_add]
  · have h1 := r1.length
    have h2 := enum_len xs 0
    have hi : i = (enumD 0 xs).length := hi
    omega
theorem pdi_enum {e : Expr} {p pos tpos : Pos} {elts : List Expr} {kk : Nat} (hg : Gl X "enumerate") (hm : X.mg "enumerate" = none) (ha : PDA X [e] ta) (hs : starEach [e] X.env = [(false, eval e X.env)] := by rfl) : PDI X (.Tuple elts kk tpos) (.Call (.Name "enumerate" p) [e] [] pos) (diEnum ta) := by
  obtain ⟨te, pp, l⟩ := ha
  refine ⟨_, pi_enum hg hm pp hs, fun ρ σ G H Q R s w q k => ?_⟩
  refine l ρ σ G H _ _ s w q fun ds vs G1 H1 r1 w1 f1 q1 => ?_
  match ds, q1 with
  | [.ref a], q1 =>
    obtain ⟨v, rfl, rv⟩ := r1.one
    obtain ⟨xs, ea, q1⟩ := q1
    rw [rp_ref.mp rv]
    obtain ⟨vs, e1, rl⟩ := w1 a _ ea
    exact ⟨a, vs, rfl, SqL.of e1, k _ _ G1 H1 w1 f1 ok_enum q1⟩
end
/-! ### for -/
def forGo (chk : DG → Prop) (g : DGt) (b : DS) (E : DEnds) : List D → DSt → DG → Prop
  | [], ρ, G => chk G ∧ E.nx ρ G
  | d :: ds, ρ, G => chk G ∧ g d ρ G fun ρ' G' => b { E with nx := forGo chk g b E ds, ct := forGo chk g b E ds, bk := E.nx } ρ' G'
def dFor (di : DI) (g : DGt) (b : DS) : DS := fun E ρ G => di ρ G fun it G1 => forGo it.chk g b E it.items ρ G1
theorem drop_get {α : Type} {l : List α} {i : Nat} {x : α} {r : List α} (h : l.drop i = x :: r) : l[i]? = some x ∧ l.drop (i + 1) = r := by
  have e : (l.drop i)[0]? = some x := by rw [h]; rfl
  rw [List.getElem?_drop, Nat.add_zero] at e
  refine ⟨e, ?_⟩
  rw [← List.drop_drop, h]
  rfl
theorem drop_nil {α : Type} {l : List α} {i : Nat} (h : l.drop i = []) (hi : i ≤ l.length) : i = l.length := by
  have e := congrArg List.length h
  rw [List.length_drop] at e
  have e2 : l.length - i = 0 := e
  omega
theorem pds_for {X : Cx} {pos : Pos} {tg iter : Expr} {body : List Stmt} {di : DI} {g : DGt} {b : DS} (hp : PassesOwn (model X.prog X.w) X.A X.env X.xe) (hc : X.calm = true) (hi : PDI X tg iter di) (hg : PDG X tg g) (hb : PDSs X body b)
    (hs : ∀ x, foldedSetIterable iter X.env x = pure x := by intro _; rfl) : PDS X (.For tg iter body [] pos) (dFor di g b) := by
  obtain ⟨wi, pi, li⟩ := hi
  obtain ⟨gg, pg, lg⟩ := hg
  obtain ⟨tb, pb, lb⟩ := hb
  refine ⟨_, ps_for hp hc pi pg pb hs, fun ρ σ G H E F s w h k => ?_⟩
  refine li ρ σ G H _ _ s w h fun it J G1 H1 w1 f1 ok q1 => ?_
  have kp1 := f1.kp w
  refine ⟨fun i m σ' H' => ∃ ρ' G', m = it.items.length - i ∧ i ≤ it.items.length ∧ RpS X.K H' ρ' σ' ∧ Wld (bs X) G' H' ∧ Fm G1 H1 G' H' ∧ forGo it.chk g b E (it.items.drop i) ρ' G', ⟨_, ρ, G1, rfl, Nat.zero_le _, s.mono kp1, w1, Fm.refl, q1⟩, ?_⟩
  rintro i m σ' H' ⟨ρ', G', rfl, hi, s', w', f', q⟩
  have k' := k.aft (f1.trans f')
  cases e : it.items.drop i with
  | nil =>
    rw [e] at q
    obtain ⟨c, q⟩ := q
    exact .inl ⟨(ok i G' H' w' (f'.kp w1) c).2 (drop_nil e hi), k'.nx ρ' σ' G' H' s' w' Fm.refl q⟩
  | cons d ds =>
    rw [e] at q
    obtain ⟨c, q⟩ := q
    obtain ⟨e1, e2⟩ := drop_get e
    obtain ⟨go, yl⟩ := (ok i G' H' w' (f'.kp w1) c).1 d e1
    have hlt : i < it.items.length := (List.getElem?_eq_some_iff.mp e1).1
    refine .inr ⟨go, fun σ2 H2 => ∃ ρ2 G2, RpS X.K H2 ρ2 σ2 ∧ Wld (bs X) G2 H2 ∧ Fm G1 H1 G2 H2 ∧ forGo it.chk g b E ds ρ2 G2, fun σ2 H2 q2 => ?_, fun x H2 hy => ?_⟩
    · obtain ⟨ρ2, G2, s2, w2, f2, q2⟩ := q2
      exact ⟨it.items.length - (i + 1), by omega, ρ2, G2, rfl, hlt, s2, w2, f2, by rw [e2]; exact q2⟩
    · obtain ⟨w2, f2, r2⟩ := yl x H2 hy
      refine lg d x ρ' σ' G' H2 _ _ r2 (s'.mono (f2.kp w')) w2 q fun ρ3 σ3 G3 H3 s3 w3 f3 q3 => ?_
      have nx : KtS (bs X) G3 H3 (forGo it.chk g b E ds) fun σ2 H2 => ∃ ρ2 G2, RpS X.K H2 ρ2 σ2 ∧ Wld (bs X) G2 H2 ∧ Fm G1 H1 G2 H2 ∧ forGo it.chk g b E ds ρ2 G2 := fun ρ4 σ4 G4 H4 s4 w4 f4 q4 => ⟨ρ4, G4, s4, w4, f'.trans (f2.trans (f3.trans f4)), q4⟩
      have k3 := k'.aft (f2.trans f3)
      exact lb ρ3 σ3 G3 H3 _ _ s3 w3 q3 ⟨nx, k3.rt, k3.nx, nx⟩
/-! ### list comprehensions -/
structure PDTs (X : Cx) (ifs : List Expr) (t : DT) : Prop where
  ex : ∃ te, PTs X ifs te ∧ LkT (bs X) te t
def dYes : DT := fun _ G Q => Q true G
theorem pdts_nil {X : Cx} : PDTs X [] dYes := ⟨tYes, pts_nil, fun ρ σ G H Q R s w h k => k true G H w Fm.refl h⟩
theorem pdts_one {X : Cx} {c : Expr} {t : DT} (h : PDT X c t) : PDTs X [c] t := let ⟨te, p, l⟩ := h.ex; ⟨te, pts_one p, l⟩
/-- a target of a comprehension: it stores only the comprehension's own names -/
def LkC (B : Bs) (vs : List Nat) (g : TG) (dg : DGt) : Prop := ∀ d v ρ σ G H Q R, Rp B.K H d v → RpS B.K H ρ σ → Wld B G H → dg d ρ G Q → (∀ ρ' σ' G' H', L2.wipe σ' vs = L2.wipe σ vs → RpS B.K H' ρ' σ' → Wld B G' H' → Fm G H G' H' → Q ρ' G' → R σ' H') → g v σ H R
theorem wipe_set {σ : St} {i : Nat} {x : Option V} : ∀ {vs : List Nat}, i ∈ vs → L2.wipe (σ.set i x) vs = L2.wipe σ vs
  | v :: vs, h => by
    show (L2.wipe (σ.set i x) vs).set v none = (L2.wipe σ vs).set v none
    by_cases hv : i ∈ vs
    · rw [wipe_set hv]
    · have e : i = v := by
        rcases List.mem_cons.mp h with e | e
        · exact e
        · exact absurd e hv
      subst e
      refine List.ext_getElem? fun j => ?_
      by_cases hj : i = j
      · subst hj
        by_cases hl : i < σ.length
        · rw [List.getElem?_set_self (by rw [L2.wipe_length, List.length_set]; exact hl), List.getElem?_set_self (by rw [L2.wipe_length]; exact hl)]
        · rw [List.getElem?_eq_none (by rw [List.length_set, L2.wipe_length, List.length_set]; omega), List.getElem?_eq_none (by rw [List.length_set, L2.wipe_length]; omega)]
      · rw [List.getElem?_set_ne hj, List.getElem?_set_ne hj]
        by_cases hw : j ∈ vs
        · have q : ∀ (τ : St) (us : List Nat), j ∈ us → (L2.wipe τ us)[j]? = if j < τ.length then some none else none := fun τ us => by
            induction us with
            | nil => intro h; cases h
            | cons u us ih =>
              intro h
              show ((L2.wipe τ us).set u none)[j]? = _
              by_cases huj : u = j
              · subst huj
                by_cases hl : u < τ.length
                · rw [List.getElem?_set_self (by rw [L2.wipe_length]; exact hl), if_pos hl]
                · rw [List.getElem?_eq_none (by rw [List.length_set, L2.wipe_length]; omega), if_neg hl]
              · rw [List.getElem?_set_ne huj]
                rcases List.mem_cons.mp h with e | e
                · exact absurd e.symm huj
                · exact ih e
          rw [q _ _ hw, q _ _ hw, List.length_set]
        · rw [L2.wipe_out hw, L2.wipe_out hw, List.getElem?_set_ne hj]
theorem lkc_name {B : Bs} {vs : List Nat} {i : Nat} (h : i ∈ vs) : LkC B vs (gName i) (gnD i) := fun d v ρ σ G H Q R r s w q k => k _ _ G H (wipe_set h) (s.set (d := some d) (v := some v) r i) w Fm.refl q
structure PDC (X : Cx) (vs : List Nat) (tg : Expr) (t : DGt) : Prop where
  ex : ∃ g, PG X tg g ∧ LkC (bs X) vs g t
structure PDCs (X : Cx) (vs : List Nat) (ts : List Expr) (t : DGts) : Prop where
  ex : ∃ g : TGs, PGs X ts g ∧ ∀ ds us ρ σ G H Q R, RpL X.K H ds us → RpS X.K H ρ σ → Wld (bs X) G H → t ds ρ G Q → (∀ ρ' σ' G' H', L2.wipe σ' vs = L2.wipe σ vs → RpS X.K H' ρ' σ' → Wld (bs X) G' H' → Fm G H G' H' → Q ρ' G' → R σ' H') → g us σ H R
section
variable {X : Cx} {pos : Pos} {vs : List Nat} {e : Expr} {es : List Expr} {g : DGt} {gs : DGts}
theorem pdc_name (i : Nat) {x : Str} (hN : X.N.Nodup) (hm : i ∈ vs := by decide) (hi : X.N[i]? = some x := by rfl) (hx : Loc X.env.scope x := by first | exact Or.inl rfl | exact Or.inr rfl) (hf : X.fn x = true ∨ X.env.scope.names.lookup x = some .local := by first | exact .inl rfl | exact .inr rfl | assumption) : PDC X vs (.Name x pos) (gnD i) :=
  ⟨gName i, pg_name hN hi hx hf, lkc_name hm⟩
theorem pdcs_nil : PDCs X vs [] gtNil := ⟨gNil, pgs_nil, fun ds us ρ σ G H Q R r s w h k => by
  cases ds with
  | nil => exact ⟨rpl_nil.mp r, k ρ σ G H rfl s w Fm.refl h⟩
  | cons d ds => exact h.elim⟩
theorem pdcs_cons (h1 : PDC X vs e g) (h2 : PDCs X vs es gs) (he : (assignEach (e :: es) X.env).map (·.2) = assign e X.env :: (assignEach es X.env).map (·.2) := by rfl) : PDCs X vs (e :: es) (gtCons g gs) := by
  obtain ⟨x, p, l⟩ := h1
  obtain ⟨x2, p2, l2⟩ := h2
  refine ⟨_, pgs_cons p p2 he, fun ds us ρ σ G H Q R r s w h k => ?_⟩
  cases ds with
  | nil => exact h.elim
  | cons d ds =>
    obtain ⟨y, ys, rfl, r1, r2⟩ := rpl_cons.mp r
    refine ⟨y, ys, rfl, l d y ρ σ G H _ _ r1 s w h fun ρ' σ' G' H' e' s' w' f' q => ?_⟩
    exact l2 ds ys ρ' σ' G' H' Q R (r2.mono (f'.kp w)) s' w' q fun ρ2 σ2 G2 H2 e2 s2 w2 f2 q2 => k ρ2 σ2 G2 H2 (e2.trans e') s2 w2 (f'.trans f2) q2
theorem pdc_tup {k1 : Nat} {n : Nat} (hc : X.calm = true) (h : PDCs X vs es gs) (hn : (assignEach es X.env).length = n := by rfl) (hst : (assignEach es X.env).findIdx? (·.1) = none := by rfl) : PDC X vs (.Tuple es k1 pos) (gtD n gs) := by
  obtain ⟨x, p, l⟩ := h
  refine ⟨_, pg_tup (n := n) hc p hn hst, fun d v ρ σ G H Q R r s w h k => ?_⟩
  cases d with
  | tup ds =>
    obtain ⟨a, xs, rfl, q, rl⟩ := rp_tup.mp r
    exact ⟨a, xs, rfl, q, by rw [← rl.length]; exact h.1, l ds xs ρ σ G H Q R rl s w h.2 k⟩
  | _ => exact h.elim
end
def lcGo (chk : DG → Prop) (g : DGt) (tt : DT) (te : DE) (ρ : DSt) (fin : List D → DG → Prop) : List D → List D → DG → Prop
  | [], acc, G => chk G ∧ fin acc G
  | d :: ds, acc, G => chk G ∧ g d ρ G fun ρ2 G2 => tt ρ2 G2 fun b G3 => if b = true then te ρ2 G3 fun y G4 => acc.length < sizeLine ∧ lcGo chk g tt te ρ fin ds (acc ++ [y]) G4 else lcGo chk g tt te ρ fin ds acc G3
def dLc (di : DI) (g : DGt) (tt : DT) (te : DE) (vs : List Nat) : DE := fun ρ G Q => di ρ G fun it G1 => lcGo it.chk g tt te (wipeD ρ vs) (fun acc G' => ∀ p, G' p = none → Q (.ref p) (G'.upd p (.lst acc))) it.items [] G1
theorem wipe_wipe (σ : St) (vs : List Nat) : L2.wipe (L2.wipe σ vs) vs = L2.wipe σ vs := by
  have q : ∀ us : List Nat, (∀ u ∈ us, u ∈ vs) → L2.wipe (L2.wipe σ us) vs = L2.wipe σ vs := fun us => by
    induction us with
    | nil => intro _; rfl
    | cons u us ih =>
      intro h
      show L2.wipe ((L2.wipe σ us).set u none) vs = _
      rw [wipe_set (h u List.mem_cons_self)]
      exact ih fun x hx => h x (List.mem_cons_of_mem _ hx)
  exact q vs fun _ h => h
theorem lk_lc {B : Bs} {wi : TI} {di : DI} {g : TG} {dg : DGt} {tt : TT} {dt : DT} {te : TE} {de : DE} {vs : List Nat} (hi : LkI B wi di) (hg : LkC B vs g dg) (ht : LkT B tt dt) (he : LkE B te de) : LkE B (tLc wi g tt te vs) (dLc di dg dt de vs) := fun ρ σ G H Q R s w h k => by
  refine hi ρ σ G H _ _ s w h fun it J G1 H1 w1 f1 ok q1 => fun Dl hD => ?_
  have kp1 := f1.kp w
  have s1 := (s.mono kp1).wipe vs
  have hG1 : G1 Dl = none := w1.none hD
  refine ⟨fun i m H' => ∃ acc xs G', m = it.items.length - i ∧ i ≤ it.items.length ∧ H' Dl = some (.lst xs) ∧ RpL B.K H' acc xs ∧ G' Dl = none ∧ Wld B G' H' ∧ Fm G1 H1 G' H' ∧ lcGo it.chk dg dt de (wipeD ρ vs) (fun acc G' => ∀ p, G' p = none → Q (.ref p) (G'.upd p (.lst acc))) (it.items.drop i) acc G',
    ⟨_, [], [], G1, rfl, Nat.zero_le _, upd_same, RpL.nil, hG1, wld_hid w1 hD, fm_hid hD, q1⟩, ?_⟩
  rintro i m H' ⟨acc, xs, G', rfl, hi, hx, rx, hn, w', f', q⟩
  have kp' : Kp B.K H1 H' := f'.kp w1
  cases e : it.items.drop i with
  | nil =>
    rw [e] at q
    obtain ⟨c, q⟩ := q
    refine .inl ⟨(ok i G' H' w' kp' c).2 (drop_nil e hi), ?_⟩
    refine k _ _ (G'.upd Dl (.lst acc)) H' (rp_ref.mpr rfl) (fun a o ha => ?_) (f1.trans fun a o ha na => ?_) (q Dl hn)
    · by_cases hd : a = Dl
      · subst hd
        rw [gupd_same] at ha; cases ha
        exact ⟨xs, hx, rx⟩
      · rw [gupd_ne hd] at ha
        exact w' a o ha
    · have hd := ne_of_none ha hD
      rw [gupd_ne hd]
      exact f' a o ha na
  | cons d ds =>
    rw [e] at q
    obtain ⟨c, q⟩ := q
    obtain ⟨e1, e2⟩ := drop_get e
    obtain ⟨go, yl⟩ := (ok i G' H' w' kp' c).1 d e1
    have hlt : i < it.items.length := (List.getElem?_eq_some_iff.mp e1).1
    refine .inr ⟨go, fun H2 => ∃ acc xs G2, H2 Dl = some (.lst xs) ∧ RpL B.K H2 acc xs ∧ G2 Dl = none ∧ Wld B G2 H2 ∧ Fm G1 H1 G2 H2 ∧ lcGo it.chk dg dt de (wipeD ρ vs) (fun acc G' => ∀ p, G' p = none → Q (.ref p) (G'.upd p (.lst acc))) ds acc G2, fun H2 q2 => ?_, fun x H2 hy => ?_⟩
    · obtain ⟨acc2, xs2, G2, a1, a2, a3, a4, a5, a6⟩ := q2
      exact ⟨it.items.length - (i + 1), by omega, acc2, xs2, G2, rfl, hlt, a1, a2, a3, a4, a5, by rw [e2]; exact a6⟩
    · obtain ⟨w2, f2, r2⟩ := yl x H2 hy
      have kp2 : Kp B.K H1 H2 := kp'.trans (f2.kp w')
      refine hg d x (wipeD ρ vs) (L2.wipe σ vs) G' H2 _ _ r2 (s1.mono kp2) w2 q fun ρ3 σ3 G3 H3 e3 s3 w3 f3 q3 => ⟨e3.trans (wipe_wipe σ vs), ?_⟩
      refine ht ρ3 σ3 G3 H3 _ _ s3 w3 q3 fun b G4 H4 w4 f4 q4 => ?_
      have f04 : Fm G' H' G4 H4 := f2.trans (f3.trans f4)
      cases b with
      | false =>
        obtain ⟨hx4, hn4⟩ := f04 Dl _ hx hn
        exact ⟨acc, xs, G4, hx4, rx.mono (f04.kp w'), hn4, w4, f'.trans f04, q4⟩
      | true =>
        refine he ρ3 σ3 G4 H4 _ _ (s3.mono (f4.kp w3)) w4 q4 fun y v G5 H5 r5 w5 f5 q5 => ?_
        have f05 : Fm G' H' G5 H5 := f04.trans f5
        obtain ⟨hx5, hn5⟩ := f05 Dl _ hx hn
        have kpn : Kp B.K H5 (L2.upd H5 Dl (.lst (xs ++ [v]))) := by
          refine ⟨fun a ys z => ?_, fun a ys z => ?_⟩
          · rcases z with (z | ⟨ob, z⟩) | z
            · exact .inl (.inl (by rw [upd_ne (ne_of z hx5 (by intro z; cases z))]; exact z))
            · exact .inl (.inr ⟨ob, by rw [upd_ne (ne_of z hx5 (by intro z; cases z))]; exact z⟩)
            · exact .inr z
          · rcases z with ⟨ob, z⟩ | z
            · exact .inl ⟨ob, by rw [upd_ne (ne_of z hx5 (by intro z; cases z))]; exact z⟩
            · exact .inr z
        refine ⟨xs, hx5, by rw [← rx.length]; exact q5.1, acc ++ [y], xs ++ [v], G5, upd_same, (RpL.snoc (rx.mono (f05.kp w')) r5).mono kpn, hn5, fun a o ha => ?_, fun a o ha na => ?_, q5.2⟩
        · have hd : a ≠ Dl := fun z => by rw [z, hn5] at ha; cases ha
          exact (w5 a o ha).mono kpn fun u z => by rw [upd_ne hd]; exact z
        · have hd := ne_of_none ha hD
          rw [upd_ne hd]
          exact (f'.trans f05) a o ha na
/-! the canonical readings below -/
def lowE (B : Bs) (t : DE) : TE := fun σ H R => ∃ ρ G Q, RpS B.K H ρ σ ∧ Wld B G H ∧ t ρ G Q ∧ Kt B G H Q R
def lowT (B : Bs) (t : DT) : TT := fun σ H R => ∃ ρ G Q, RpS B.K H ρ σ ∧ Wld B G H ∧ t ρ G Q ∧ KtT B G H Q R
def lowC (B : Bs) (vs : List Nat) (t : DGt) : TG := fun v σ H R => ∃ d ρ G Q, Rp B.K H d v ∧ RpS B.K H ρ σ ∧ Wld B G H ∧ t d ρ G Q ∧ (∀ ρ' σ' G' H', L2.wipe σ' vs = L2.wipe σ vs → RpS B.K H' ρ' σ' → Wld B G' H' → Fm G H G' H' → Q ρ' G' → R σ' H')
theorem lowE_lk {B : Bs} {t : DE} : LkE B (lowE B t) t := fun ρ σ G H Q R s w h k => ⟨ρ, G, Q, s, w, h, k⟩
theorem lowT_lk {B : Bs} {t : DT} : LkT B (lowT B t) t := fun ρ σ G H Q R s w h k => ⟨ρ, G, Q, s, w, h, k⟩
theorem lowC_lk {B : Bs} {vs : List Nat} {t : DGt} : LkC B vs (lowC B vs t) t := fun d v ρ σ G H Q R r s w h k => ⟨d, ρ, G, Q, r, s, w, h, k⟩
theorem PD.low {X : Cx} {e : Expr} {t : DE} (h : PD X e t) : PE X e (lowE (bs X) t) := by
  obtain ⟨te, p, l⟩ := h
  exact ⟨fun pins s σ H Q I ⟨ρ, G, Q', a, b, c, d⟩ => p.run pins s σ H Q I (l ρ σ G H Q' Q a b c d)⟩
theorem PDTs.low {X : Cx} {e : List Expr} {t : DT} (h : PDTs X e t) : PTs X e (lowT (bs X) t) := by
  obtain ⟨te, p, l⟩ := h
  exact ⟨fun pins s σ H Q I ⟨ρ, G, Q', a, b, c, d⟩ => p.run pins s σ H Q I (l ρ σ G H Q' Q a b c d)⟩
theorem PDC.low {X : Cx} {vs : List Nat} {e : Expr} {t : DGt} (h : PDC X vs e t) : PG X e (lowC (bs X) vs t) := by
  obtain ⟨te, p, l⟩ := h
  exact ⟨fun pins s σ H v u Q I r ⟨d', ρ, G, Q', r', a, b, c, d⟩ => p.run pins s σ H v u Q I r (l d' v ρ σ G H Q' Q r' a b c d)⟩
section
variable {X : Cx} {elt tg iter : Expr} {ifs : List Expr} {scope : Scope} {own : List (Str × Nat)} {pos : Pos} {di : DI} {g : DGt} {tt : DT} {te : DE}
theorem pd_lc (hc : X.calm = true) (hN : X.N.Nodup) (hi : PDI X tg iter di) (ok : BlkOk X.N X.env.scope scope own)
    (hg : ∀ (s : Shared) (H : Hp) (C : Addr) (cl : List (Str × Addr)) (fp : List Addr), PDC (X.blk s H scope (compEnvC scope cl C X.env) fp) (own.map (·.2)) tg g)
    (ht : ∀ (s : Shared) (H : Hp) (C : Addr) (cl : List (Str × Addr)) (fp : List Addr), PDTs (X.blk s H scope (compEnvC scope cl C X.env) fp) ifs tt)
    (he : ∀ (s : Shared) (H : Hp) (C : Addr) (cl : List (Str × Addr)) (fp : List Addr), PD (X.blk s H scope (compEnvC scope cl C X.env) fp) elt te)
    (hs : ∀ x, foldedSetIterable iter X.env x = pure x := by intro _; rfl) :
    PD X (.ListComp elt [⟨tg, iter, ifs, 0⟩] scope pos) (dLc di g tt te (own.map (·.2))) := by
  obtain ⟨wi, pi, li⟩ := hi
  exact ⟨_, pe_lc (g := lowC (bs X) (own.map (·.2)) g) (tt := lowT (bs X) tt) (te := lowE (bs X) te) hc hN pi ok (fun s H C cl fp => (hg s H C cl fp).low) (fun s H C cl fp => (ht s H C cl fp).low) (fun s H C cl fp => (he s H C cl fp).low) hs, lk_lc li lowC_lk lowT_lk lowE_lk⟩
/-- name = [..] on one line, the name a local -/
theorem pds_setLc (i : Nat) {y : Str} {py spos : Pos} (hc : X.calm = true) (hN : X.N.Nodup) (hsw : swapsWith (.ListComp elt [⟨tg, iter, ifs, 0⟩] scope pos) (some (.Name y py)) spos.line X.env = pure true) (hi : PDI X tg iter di) (ok : BlkOk X.N X.env.scope scope own)
    (hg : ∀ (s : Shared) (H : Hp) (C : Addr) (cl : List (Str × Addr)) (fp : List Addr), PDC (X.blk s H scope (compEnvC scope cl C X.env) fp) (own.map (·.2)) tg g)
    (ht : ∀ (s : Shared) (H : Hp) (C : Addr) (cl : List (Str × Addr)) (fp : List Addr), PDTs (X.blk s H scope (compEnvC scope cl C X.env) fp) ifs tt)
    (he : ∀ (s : Shared) (H : Hp) (C : Addr) (cl : List (Str × Addr)) (fp : List Addr), PD (X.blk s H scope (compEnvC scope cl C X.env) fp) elt te)
    (hy : X.N[i]? = some y := by rfl) (hyl : X.env.scope.names.lookup y = some .local := by rfl) (hs : ∀ x, foldedSetIterable iter X.env x = pure x := by intro _; rfl) :
    PDS X (.Assign [.Name y py] (.ListComp elt [⟨tg, iter, ifs, 0⟩] scope pos) spos) (dAsg (dLc di g tt te (own.map (·.2))) (gnD i)) := by
  obtain ⟨wi, pi, li⟩ := hi
  refine ⟨_, ps_setLc (i := i) (g := lowC (bs X) (own.map (·.2)) g) (tt := lowT (bs X) tt) (te := lowE (bs X) te) hc hN hy hyl hsw pi ok (fun s H C cl fp => (hg s H C cl fp).low) (fun s H C cl fp => (ht s H C cl fp).low) (fun s H C cl fp => (he s H C cl fp).low) hs, fun ρ σ G H E F s w h k => ?_⟩
  have h : dLc di g tt te (own.map (·.2)) ρ G (fun x G1 => gnD i x ρ G1 E.nx) := h
  exact lk_lc (vs := own.map fun (p : Str × Nat) => p.2) (g := lowC (bs X) (own.map fun (p : Str × Nat) => p.2) g) (tt := lowT (bs X) tt) (te := lowE (bs X) te) li lowC_lk lowT_lk lowE_lk ρ σ G H _ _ s w h fun d v G1 H1 r1 w1 f1 q1 => k.nx _ _ G1 H1 ((s.mono (f1.kp w)).set (d := some d) (v := some v) r1 i) w1 f1 q1
end
end FD

/-! FD4: operators, comparisons, subscripts, slices, built-ins, methods of lists, calls of defs. -/
namespace FD
open PySem L2
/-! ### arithmetic, + -/
def addD : R2D := fun x y G Q => match x, y with
  | .int i, .int j => Q (.int (i + j)) G
  | .str s, .str t => s.length + t.length ≤ sizeLine ∧ Q (.str (s ++ t)) G
  | .tup xs, .tup ys => xs.length + ys.length ≤ sizeLine ∧ Q (.tup (xs ++ ys)) G
  | .ref a, .ref b => ∃ xs ys, G a = some (.lst xs) ∧ G b = some (.lst ys) ∧ xs.length + ys.length ≤ sizeLine ∧ ∀ p, G p = none → Q (.ref p) (G.upd p (.lst (xs ++ ys)))
  | _, _ => False
def rAddA (K : PySem.W.Frag) : R2 := fun x y H Q => (rI0 fun i j => .int (i + j)) x y H Q ∨ (∃ i j, x = .str i ∧ y = .str j ∧ i.length + j.length ≤ sizeLine ∧ Q (.str (i ++ j)) H) ∨ rCatA K x y H Q ∨ rCat x y H Q
theorem op_addA {X : Cx} : OpR X (binaryOp .Add) (rAddA X.K) := op_add.or (op_add_str.or (op_catA.or op_cat))
theorem rp_new_tup {B : Bs} {H : Hp} {p : Addr} {ds : List D} {xs : List V} (h : H p = none) (r : RpL B.K H ds xs) : Rp B.K (L2.upd H p (.tup xs)) (.tup ds) (.ref p) := rp_tup.mpr ⟨p, xs, rfl, SqT.of upd_same, r.mono (kp_new h)⟩
theorem lk_add {B : Bs} : LkR B (rAddA B.K) addD := fun x y v u G H Q R rx ry w h k => by
  cases x <;> cases y <;> try exact h.elim
  · rename_i i j
    rw [rp_int.mp rx, rp_int.mp ry]
    exact .inl ⟨i, j, rfl, rfl, k _ _ G H (rp_int.mpr rfl) w Fm.refl h⟩
  · rename_i i j
    rw [rp_str.mp rx, rp_str.mp ry]
    exact .inr (.inl ⟨i, j, rfl, rfl, h.1, k _ _ G H (rp_str.mpr rfl) w Fm.refl h.2⟩)
  · rename_i xs ys
    obtain ⟨a, vs, rfl, ha, ra⟩ := rp_tup.mp rx
    obtain ⟨b, us, rfl, hb, rb⟩ := rp_tup.mp ry
    refine .inr (.inr (.inl ⟨a, b, vs, us, rfl, rfl, ha, hb, by rw [← ra.length, ← rb.length]; exact h.1, fun e => ?_, fun _ e => ?_, fun _ _ p hp => ?_⟩))
    · subst e
      have e2 : xs = [] := List.length_eq_zero_iff.mp (ra.length)
      subst e2
      exact k _ _ G H ry w Fm.refl h.2
    · subst e
      have e2 : ys = [] := List.length_eq_zero_iff.mp (rb.length)
      subst e2
      refine k _ _ G H rx w Fm.refl ?_
      have h2 := h.2
      rw [List.append_nil] at h2
      exact h2
    · exact k _ _ G _ (rp_new_tup hp (ra.append rb)) (wld_hid w hp) (fm_hid hp) h.2
  · rename_i a b
    obtain ⟨xs, ys, ea, eb, hz, q⟩ := h
    rw [rp_ref.mp rx, rp_ref.mp ry]
    obtain ⟨vs, e1, r1⟩ := w a _ ea
    obtain ⟨us, e2, r2⟩ := w b _ eb
    refine .inr (.inr (.inr ⟨a, b, vs, us, rfl, rfl, e1, e2, by rw [← r1.length, ← r2.length]; exact hz, fun p hp => ?_⟩))
    exact k _ _ _ _ (rp_ref.mpr rfl) (wld_new (d := .lst (xs ++ ys)) w hp ⟨_, upd_same, (r1.append r2).mono (kp_new hp)⟩) (fm_new hp) (q p (w.none hp))
def intD (C : Int → Int → Prop) (f : Int → Int → Int) : R2D := fun x y G Q => match x, y with
  | .int i, .int j => C i j ∧ Q (.int (f i j)) G
  | _, _ => False
theorem lk_int {B : Bs} {C : Int → Int → Prop} {f : Int → Int → Int} : LkR B (rI C fun i j => .int (f i j)) (intD C f) := fun x y v u G H Q R rx ry w h k => by
  cases x <;> cases y <;> try exact h.elim
  rename_i i j
  rw [rp_int.mp rx, rp_int.mp ry]
  exact ⟨i, j, rfl, rfl, h.1, k _ _ G H (rp_int.mpr rfl) w Fm.refl h.2⟩
def int0D (f : Int → Int → Int) : R2D := fun x y G Q => match x, y with
  | .int i, .int j => Q (.int (f i j)) G
  | _, _ => False
theorem lk_int0 {B : Bs} {f : Int → Int → Int} : LkR B (rI0 fun i j => .int (f i j)) (int0D f) := fun x y v u G H Q R rx ry w h k => by
  cases x <;> cases y <;> try exact h.elim
  rename_i i j
  rw [rp_int.mp rx, rp_int.mp ry]
  exact ⟨i, j, rfl, rfl, k _ _ G H (rp_int.mpr rfl) w Fm.refl h⟩
abbrev subD : R2D := int0D fun i j => i - j
abbrev modD : R2D := intD (fun _ j => 0 < j) fun i j => i % j
abbrev fdivD : R2D := intD CDiv fun i j => i / j
abbrev powD : R2D := intD CPow fun i j => i ^ j.toNat
/-! ### times -/
def mulD : R2D := fun x y G Q => match x, y with
  | .int i, .int j => CMul i j ∧ Q (.int (i * j)) G
  | .str s, .int n => MulOk s n ∧ Q (.str (Txt.mul s n)) G
  | .ref a, .int n => ∃ xs, G a = some (.lst xs) ∧ (-(2 ^ 63) ≤ n ∧ n < 2 ^ 63 ∧ xs.length * n.toNat ≤ sizeLine) ∧ ∀ p, G p = none → Q (.ref p) (G.upd p (.lst (List.replicate n.toNat xs).flatten))
  | _, _ => False
theorem op_mul_str {X : Cx} : OpR X (binaryOp .Mult) (fun x y H Q => ∃ s n, x = .str s ∧ y = .int n ∧ MulOk s n ∧ Q (.str (Txt.mul s n)) H) := by
  intro pins s σ H x y v u Q I rx ry h
  obtain ⟨z, n, rfl, rfl, ok, q⟩ := h
  obtain ⟨t, rfl⟩ := rx
  obtain ⟨t', rfl⟩ := ry
  exact SB.mul ok fun t' k => ⟨.str _, H, I.tok _, ⟨_, rfl⟩, q⟩
def rMulA : R2 := fun x y H Q => (rI CMul fun i j => .int (i * j)) x y H Q ∨ (∃ s n, x = .str s ∧ y = .int n ∧ MulOk s n ∧ Q (.str (Txt.mul s n)) H) ∨ rRep x y H Q
theorem op_mulA {X : Cx} : OpR X (binaryOp .Mult) rMulA := op_mul.or (op_mul_str.or op_rep)
theorem lk_mul {B : Bs} : LkR B rMulA mulD := fun x y v u G H Q R rx ry w h k => by
  cases x <;> cases y <;> try exact h.elim
  · rename_i i j
    rw [rp_int.mp rx, rp_int.mp ry]
    exact .inl ⟨i, j, rfl, rfl, h.1, k _ _ G H (rp_int.mpr rfl) w Fm.refl h.2⟩
  · rename_i s n
    rw [rp_str.mp rx, rp_int.mp ry]
    exact .inr (.inl ⟨s, n, rfl, rfl, h.1, k _ _ G H (rp_str.mpr rfl) w Fm.refl h.2⟩)
  · rename_i a n
    obtain ⟨xs, ea, hz, q⟩ := h
    rw [rp_ref.mp rx, rp_int.mp ry]
    obtain ⟨vs, e1, r1⟩ := w a _ ea
    refine .inr (.inr ⟨a, n, vs, rfl, rfl, e1, hz.1, hz.2.1, by rw [← r1.length]; exact hz.2.2, fun p hp => ?_⟩)
    exact k _ _ _ _ (rp_ref.mpr rfl) (wld_new (d := .lst (List.replicate n.toNat xs).flatten) w hp ⟨_, upd_same, (r1.rep n.toNat).mono (kp_new hp)⟩) (fm_new hp) (q p (w.none hp))
/-! ### order -/
def ordD (f : Int → Int → Bool) (g : List Nat → List Nat → Bool) : R2D := fun x y G Q => match x, y with
  | .int i, .int j => Q (.bl (f i j)) G
  | .str s, .str t => Q (.bl (g s.cps.toList t.cps.toList)) G
  | _, _ => False
def rOrd (f : Int → Int → Bool) (g : List Nat → List Nat → Bool) : R2 := fun x y H Q => (rI0 fun i j => .bl (f i j)) x y H Q ∨ (∃ i j, x = .str i ∧ y = .str j ∧ Q (.bl (g i.cps.toList j.cps.toList)) H)
theorem lk_ord {B : Bs} {f : Int → Int → Bool} {g : List Nat → List Nat → Bool} : LkR B (rOrd f g) (ordD f g) := fun x y v u G H Q R rx ry w h k => by
  cases x <;> cases y <;> try exact h.elim
  · rename_i i j
    rw [rp_int.mp rx, rp_int.mp ry]
    exact .inl ⟨i, j, rfl, rfl, k _ _ G H (rp_bl.mpr rfl) w Fm.refl h⟩
  · rename_i i j
    rw [rp_str.mp rx, rp_str.mp ry]
    exact .inr ⟨i, j, rfl, rfl, k _ _ G H (rp_bl.mpr rfl) w Fm.refl h⟩
abbrev ltD : R2D := ordD (fun i j => decide (i < j)) fun a b => decide (a < b)
abbrev leD : R2D := ordD (fun i j => decide (i ≤ j)) fun a b => !decide (b < a)
abbrev gtD' : R2D := ordD (fun i j => decide (j < i)) fun a b => decide (b < a)
abbrev geD : R2D := ordD (fun i j => decide (j ≤ i)) fun a b => !decide (a < b)
theorem op_ltA {X : Cx} : OpR X (compareOp .Lt) (rOrd (fun i j => decide (i < j)) fun a b => decide (a < b)) := op_lt.or op_lt_str
theorem op_leA {X : Cx} : OpR X (compareOp .LtE) (rOrd (fun i j => decide (i ≤ j)) fun a b => !decide (b < a)) := op_le.or op_le_str
theorem op_gtA {X : Cx} : OpR X (compareOp .Gt) (rOrd (fun i j => decide (j < i)) fun a b => decide (b < a)) := op_gt.or op_gt_str
theorem op_geA {X : Cx} : OpR X (compareOp .GtE) (rOrd (fun i j => decide (j ≤ i)) fun a b => !decide (a < b)) := op_ge.or op_ge_str
/-! ### ==, is None -/
mutual
inductive Py (G : DG) : D → PyData → Prop
  | non : Py G .non .none
  | bl (b : Bool) : Py G (.bl b) (.bool b)
  | int (i : Int) : Py G (.int i) (.int i)
  | str (x : Str) : Py G (.str x) (.str x)
  | tup {ds : List D} {ps : List PyData} : PyA G ds ps → Py G (.tup ds) (.tuple ps)
  | fl {ds : List D} {ps : List PyData} : PyA G ds ps → Py G (.fl ds) (.list ps)
  | lst {a : Addr} {ds : List D} {ps : List PyData} : G a = some (.lst ds) → PyA G ds ps → Py G (.ref a) (.list ps)
inductive PyA (G : DG) : List D → List PyData → Prop
  | nil : PyA G [] []
  | cons {d : D} {ds : List D} {p : PyData} {ps : List PyData} : Py G d p → PyA G ds ps → PyA G (d :: ds) (p :: ps)
end
mutual
theorem py_dp {B : Bs} {G : DG} {H : Hp} (w : Wld B G H) : ∀ {d : D} {p : PyData} {v : V}, Py G d p → Rp B.K H d v → Dp B.K H v p
  | _, _, _, .non, r => by rw [rp_non.mp r]; exact .non
  | _, _, _, .bl b, r => by rw [rp_bl.mp r]; exact .bl b
  | _, _, _, .int i, r => by rw [rp_int.mp r]; exact .int i
  | _, _, _, .str x, r => by rw [rp_str.mp r]; exact .str x
  | _, _, _, .tup h, r => by
    obtain ⟨a, xs, rfl, q, rl⟩ := rp_tup.mp r
    exact .tup q (py_dpA w h rl)
  | _, _, _, .fl h, r => by
    obtain ⟨a, xs, rfl, q, rl⟩ := rp_fl.mp r
    exact .lst q.sq (py_dpA w h rl)
  | _, _, _, .lst e h, r => by
    rw [rp_ref.mp r]
    obtain ⟨xs, e2, rl⟩ := w _ _ e
    exact .lst (SqL.of e2) (py_dpA w h rl)
theorem py_dpA {B : Bs} {G : DG} {H : Hp} (w : Wld B G H) : ∀ {ds : List D} {ps : List PyData} {vs : List V}, PyA G ds ps → RpL B.K H ds vs → DpAll B.K H vs ps
  | _, _, _, .nil, r => by rw [rpl_nil.mp r]; exact .nil
  | _, _, _, .cons h t, r => by
    obtain ⟨y, ys, rfl, r1, r2⟩ := rpl_cons.mp r
    exact .cons (py_dp w h r1) (py_dpA w t r2)
end
def eqD (neg : Bool) : R2D := fun x y G Q => ∃ p q, Py G x p ∧ Py G y q ∧ SeqAt.shaped p = true ∧ SeqAt.shaped q = true ∧ Q (.bl (if neg then !PyData.eqv p q else PyData.eqv p q)) G
theorem lk_eq {B : Bs} : LkR B (rEqD B.K) (eqD false) := fun x y v u G H Q R rx ry w h k => by
  obtain ⟨p, q, h1, h2, s1, s2, z⟩ := h
  exact ⟨p, q, py_dp w h1 rx, py_dp w h2 ry, s1, s2, k _ _ G H (rp_bl.mpr rfl) w Fm.refl z⟩
theorem lk_ne {B : Bs} : LkR B (rNeD B.K) (eqD true) := fun x y v u G H Q R rx ry w h k => by
  obtain ⟨p, q, h1, h2, s1, s2, z⟩ := h
  exact ⟨p, q, py_dp w h1 rx, py_dp w h2 ry, s1, s2, k _ _ G H (rp_bl.mpr rfl) w Fm.refl z⟩
def isNon : D → Bool
  | .non => true
  | _ => false
def isD (neg : Bool) : R2D := fun x y G Q => match y with
  | .non => Q (.bl (if neg then !isNon x else isNon x)) G
  | _ => False
theorem isNon_rp {K : PySem.W.Frag} {H : Hp} {x : D} {v : V} (r : Rp K H x v) : decide (v = .non) = isNon x := by
  cases x with
  | non => rw [rp_non.mp r]; rfl
  | bl b => rw [rp_bl.mp r]; rfl
  | int b => rw [rp_int.mp r]; rfl
  | str b => rw [rp_str.mp r]; rfl
  | tup ds => obtain ⟨a, xs, rfl, _⟩ := rp_tup.mp r; rfl
  | fl ds => obtain ⟨a, xs, rfl, _⟩ := rp_fl.mp r; rfl
  | ref b => rw [rp_ref.mp r]; rfl
  | ty b => rw [rp_ty.mp r]; rfl
theorem lk_is {B : Bs} : LkR B (fun x y H Q => y = .non ∧ Q (.bl (decide (x = .non))) H) (isD false) := fun x y v u G H Q R rx ry w h k => by
  cases y <;> try exact h.elim
  exact ⟨rp_non.mp ry, k _ _ G H (rp_bl.mpr (by rw [isNon_rp rx]; rfl)) w Fm.refl h⟩
theorem lk_isnot {B : Bs} : LkR B (fun x y H Q => y = .non ∧ Q (.bl (!decide (x = .non))) H) (isD true) := fun x y v u G H Q R rx ry w h k => by
  cases y <;> try exact h.elim
  exact ⟨rp_non.mp ry, k _ _ G H (rp_bl.mpr (by rw [isNon_rp rx]; rfl)) w Fm.refl h⟩
/-! ### subscripts, slices -/
def atQ (ds : List D) (i : Int) (G : DG) (Q : DK) : Prop := match atI ds i with
  | some d => Q d G
  | none => False
def ixD : R2D := fun x y G Q => match x, y with
  | .tup ds, .int i => atQ ds i G Q
  | .fl ds, .int i => atQ ds i G Q
  | .ref a, .int i => ∃ ds, G a = some (.lst ds) ∧ atQ ds i G Q
  | .str s, .int i => s.length ≤ sizeLine ∧ ∃ c, atI s.cps.toList i = some c ∧ Q (.str ⟨#[c]⟩) G
  | _, _ => False
theorem atI_rp {K : PySem.W.Frag} {H : Hp} {ds : List D} {xs : List V} {i : Int} {d : D} (r : RpL K H ds xs) (h : atI ds i = some d) : ∃ v, atI xs i = some v ∧ Rp K H d v := by
  unfold atI at h ⊢
  rw [r.length] at h
  cases e : ixN xs.length i with
  | none => rw [e] at h; cases h
  | some j =>
    rw [e] at h
    exact r.get h
theorem lk_ix {B : Bs} : LkR B (rIx B.K) ixD := fun x y v u G H Q R rx ry w h k => by
  cases x <;> cases y <;> try exact h.elim
  · rename_i s i
    rw [rp_str.mp rx, rp_int.mp ry]
    obtain ⟨hz, c, e, q⟩ := h
    exact .inr (.inr ⟨s, i, c, rfl, rfl, hz, e, k _ _ G H (rp_str.mpr rfl) w Fm.refl q⟩)
  · rename_i ds i
    obtain ⟨a, vs, rfl, ha, ra⟩ := rp_tup.mp rx
    rw [rp_int.mp ry]
    have h : atQ ds i G Q := h
    unfold atQ at h
    split at h
    · rename_i d e
      obtain ⟨z, ez, rz⟩ := atI_rp ra e
      exact .inr (.inl ⟨a, vs, i, z, rfl, rfl, ha, ez, k _ _ G H rz w Fm.refl h⟩)
    · exact h.elim
  · rename_i ds i
    obtain ⟨a, vs, rfl, ha, ra⟩ := rp_fl.mp rx
    rw [rp_int.mp ry]
    have h : atQ ds i G Q := h
    unfold atQ at h
    split at h
    · rename_i d e
      obtain ⟨z, ez, rz⟩ := atI_rp ra e
      exact .inl ⟨a, vs, i, z, rfl, rfl, ha.sq, ez, k _ _ G H rz w Fm.refl h⟩
    · exact h.elim
  · rename_i a i
    obtain ⟨ds, e, h⟩ := h
    rw [rp_ref.mp rx, rp_int.mp ry]
    obtain ⟨vs, e2, ra⟩ := w a _ e
    unfold atQ at h
    split at h
    · rename_i d e
      obtain ⟨z, ez, rz⟩ := atI_rp ra e
      exact .inl ⟨a, vs, i, z, rfl, rfl, SqL.of e2, ez, k _ _ G H rz w Fm.refl h⟩
    · exact h.elim
def cutD {α : Type} (xs : List α) (lo hi : Option Int) : List α := (xs.drop (HT.sIx xs.length 0 lo)).take (HT.sIx xs.length xs.length hi - HT.sIx xs.length 0 lo)
theorem RpL.cut {K : PySem.W.Frag} {H : Hp} {ds : List D} {xs : List V} (r : RpL K H ds xs) (lo hi : Option Int) : RpL K H (cutD ds lo hi) (cutV xs lo hi) := by
  unfold cutD cutV
  rw [r.length]
  exact (r.drop _).take _
def slD (x : D) (lo hi : Option Int) (G : DG) (Q : DK) : Prop := match x with
  | .tup ds => Q (.tup (cutD ds lo hi)) G
  | .ref a => ∃ ds, G a = some (.lst ds) ∧ ∀ p, G p = none → Q (.ref p) (G.upd p (.lst (cutD ds lo hi)))
  | .str s => s.length ≤ sizeLine ∧ Q (.str (cutS s lo hi)) G
  | _ => False
abbrev DOp := DSt → DG → (Option Int → DG → Prop) → Prop
def dNoPart : DOp := fun _ G Q => Q none G
def dPart (t : DE) : DOp := fun ρ G Q => t ρ G fun x G1 => match x with
  | .int i => Q (some i) G1
  | _ => False
structure PDO (X : Cx) (e : Option Expr) (t : DOp) : Prop where
  ex : ∃ te, PO X e te ∧ ∀ ρ σ G H Q R, RpS X.K H ρ σ → Wld (bs X) G H → t ρ G Q → (∀ o G' H', Wld (bs X) G' H' → Fm G H G' H' → Q o G' → R o H') → te σ H R
section
variable {X : Cx} {pos p2 : Pos} {e : Expr} {te : DE}
theorem pdo_none : PDO X none dNoPart := ⟨tNoPart, po_none, fun ρ σ G H Q R s w h k => k none G H w Fm.refl h⟩
theorem pdo_some (h : PD X e te) : PDO X (some e) (dPart te) := by
  obtain ⟨t, p, l⟩ := h
  refine ⟨_, po_some p, fun ρ σ G H Q R s w h k => ?_⟩
  refine l ρ σ G H _ _ s w h fun x v G1 H1 r1 w1 f1 q1 => ?_
  cases x <;> try exact q1.elim
  rename_i i
  exact ⟨i, rp_int.mp r1, k _ G1 H1 w1 f1 q1⟩
def dSl (t : DE) (lo hi : DOp) : DE := fun ρ G Q => t ρ G fun x G1 => lo ρ G1 fun l G2 => hi ρ G2 fun u G3 => slD x l u G3 Q
def rSlAll (K : PySem.W.Frag) : V → Option Int → Option Int → Hp → VK → Prop := fun x lo hi H Q => rSlA K x lo hi H Q ∨ rSlL K x lo hi H Q ∨ (∃ z, x = .str z ∧ z.length ≤ sizeLine ∧ Q (.str (cutS z lo hi)) H)
end
theorem cut_whole {α : Type} (xs : List α) {lo hi : Option Int} (h : HT.sIx xs.length 0 lo = 0 ∧ HT.sIx xs.length xs.length hi = xs.length) : cutD xs lo hi = xs := by
  unfold cutD
  rw [h.1, h.2, List.drop_zero, Nat.sub_zero, List.take_length]
/-! ### built-in functions -/
abbrev RCD := List D → DG → DK → Prop
def LkCl (B : Bs) (r : List V → Hp → VK → Prop) (rd : RCD) : Prop := ∀ ds vs G H Q R, RpL B.K H ds vs → Wld B G H → rd ds G Q → Kt B G H Q R → r vs H R
def dCB (rd : RCD) (t : DA) : DE := fun ρ G Q => t ρ G fun ds G1 => rd ds G1 Q
section
variable {X : Cx} {pos p : Pos} {x : Str} {e : Expr} {es : List Expr} {t : DA} {id T : String} {r : List V → Hp → VK → Prop} {rd : RCD}
theorem lk_cb {B : Bs} {ta : TA} (hl : LkCl B r rd) (h : LkA B ta t) : LkE B (tCB r ta) (dCB rd t) := fun ρ σ G H Q R s w q k => h ρ σ G H _ _ s w q fun ds vs G1 H1 r1 w1 f1 q1 => hl ds vs G1 H1 Q R r1 w1 q1 (k.aft f1)
theorem pd_callB (hc : CallR X (.builtin id) r) (hl : LkCl (bs X) r rd) (hg : Gl X x) (hm : X.mg x = none) (hv : bootBuiltins x = some (.builtin id)) (ha : PDA X (e :: es) t) (hn : x ≠ "__name__" := by decide) (hdb : (x == ("__debug__" : Str)) = false := by decide)
    (he : starEach (e :: es) X.env = (false, eval e X.env) :: starEach es X.env := by rfl) (hpl : (backTo pos (starEach es X.env)).any (·.1) = false := by rfl) : PD X (.Call (.Name x p) (e :: es) [] pos) (dCB rd t) := by
  obtain ⟨ta, pa, la⟩ := ha
  exact ⟨_, pe_callB hc hg hm hv pa hn hdb he hpl, lk_cb hl la⟩
theorem pd_callTy (hc : CallR X (.type T) r) (hl : LkCl (bs X) r rd) (hg : Gl X x) (hm : X.mg x = none) (hv : bootBuiltins x = some (.type T)) (ha : PDA X (e :: es) t) (hn : x ≠ "__name__" := by decide) (hdb : (x == ("__debug__" : Str)) = false := by decide)
    (he : starEach (e :: es) X.env = (false, eval e X.env) :: starEach es X.env := by rfl) (hpl : (backTo pos (starEach es X.env)).any (·.1) = false := by rfl) : PD X (.Call (.Name x p) (e :: es) [] pos) (dCB rd t) := by
  obtain ⟨ta, pa, la⟩ := ha
  exact ⟨_, pe_callTy hc hg hm hv pa hn hdb he hpl, lk_cb hl la⟩
end
def lenD : RCD := fun ds G Q => match ds with
  | [.str s] => s.length ≤ sizeLine ∧ Q (.int s.length) G
  | [.tup xs] => Q (.int xs.length) G
  | [.fl xs] => Q (.int xs.length) G
  | [.ref a] => ∃ xs, G a = some (.lst xs) ∧ Q (.int xs.length) G
  | _ => False
theorem lk_len {B : Bs} : LkCl B (fun xs H Q => ∃ x n, xs = [x] ∧ LenV B.K x H n ∧ Q (.int n) H) lenD := fun ds vs G H Q R r w h k => by
  match ds, h with
  | [.str s], h =>
    obtain ⟨v, rfl, rv⟩ := r.one
    rw [rp_str.mp rv]
    exact ⟨_, s.length, rfl, ⟨h.1, rfl⟩, k _ _ G H (rp_int.mpr rfl) w Fm.refl h.2⟩
  | [.tup xs], h =>
    obtain ⟨v, rfl, rv⟩ := r.one
    obtain ⟨a, vs, rfl, ha, ra⟩ := rp_tup.mp rv
    exact ⟨_, xs.length, rfl, .inr ⟨vs, ha, ra.length⟩, k _ _ G H (rp_int.mpr rfl) w Fm.refl h⟩
  | [.fl xs], h =>
    obtain ⟨v, rfl, rv⟩ := r.one
    obtain ⟨a, vs, rfl, ha, ra⟩ := rp_fl.mp rv
    exact ⟨_, xs.length, rfl, .inl ⟨vs, ha.sq, ra.length⟩, k _ _ G H (rp_int.mpr rfl) w Fm.refl h⟩
  | [.ref a], h =>
    obtain ⟨v, rfl, rv⟩ := r.one
    obtain ⟨xs, e, h⟩ := h
    rw [rp_ref.mp rv]
    obtain ⟨vs, e2, ra⟩ := w a _ e
    exact ⟨_, xs.length, rfl, .inl ⟨vs, SqL.of e2, ra.length⟩, k _ _ G H (rp_int.mpr rfl) w Fm.refl h⟩
def max2D : RCD := fun ds G Q => match ds with
  | [.int i, .int j] => Q (.int (if j > i then j else i)) G
  | _ => False
def min2D : RCD := fun ds G Q => match ds with
  | [.int i, .int j] => Q (.int (if j < i then j else i)) G
  | _ => False
theorem lk_max2 {B : Bs} : LkCl B (fun xs H Q => ∃ i j, xs = [.int i, .int j] ∧ Q (.int (if j > i then j else i)) H) max2D := fun ds vs G H Q R r w h k => by
  match ds, h with
  | [.int i, .int j], h =>
    obtain ⟨v, u, rfl, rv, ru⟩ := r.two
    rw [rp_int.mp rv, rp_int.mp ru]
    exact ⟨i, j, rfl, k _ _ G H (rp_int.mpr rfl) w Fm.refl h⟩
theorem lk_min2 {B : Bs} : LkCl B (fun xs H Q => ∃ i j, xs = [.int i, .int j] ∧ Q (.int (if j < i then j else i)) H) min2D := fun ds vs G H Q R r w h k => by
  match ds, h with
  | [.int i, .int j], h =>
    obtain ⟨v, u, rfl, rv, ru⟩ := r.two
    rw [rp_int.mp rv, rp_int.mp ru]
    exact ⟨i, j, rfl, k _ _ G H (rp_int.mpr rfl) w Fm.refl h⟩
/-- all([..]) of truth values -/
def allD : RCD := fun ds G Q => match ds with
  | [.ref a] => ∃ bs : List Bool, G a = some (.lst (bs.map D.bl)) ∧ Q (.bl (bs.all id)) G
  | _ => False
theorem RpL.bls {K : PySem.W.Frag} {H : Hp} : ∀ {bs : List Bool} {xs : List V}, RpL K H (bs.map D.bl) xs → xs = bs.map V.bl
  | [], xs, h => rpl_nil.mp h
  | b :: bs, xs, h => by
    obtain ⟨y, ys, rfl, r, t⟩ := rpl_cons.mp h
    rw [rp_bl.mp r, RpL.bls t]
    rfl
theorem lk_all {B : Bs} : LkCl B (rAll B.K) allD := fun ds vs G H Q R r w h k => by
  match ds, h with
  | [.ref a], h =>
    obtain ⟨v, rfl, rv⟩ := r.one
    obtain ⟨bs, e, h⟩ := h
    rw [rp_ref.mp rv]
    obtain ⟨vs, e2, ra⟩ := w a _ e
    rw [ra.bls] at e2
    exact ⟨a, bs, rfl, SqL.of e2, k _ _ G H (rp_bl.mpr rfl) w Fm.refl h⟩
def tupleD : RCD := fun ds G Q => match ds with
  | [.tup xs] => Q (.tup xs) G
  | [.ref a] => ∃ xs, G a = some (.lst xs) ∧ Q (.tup xs) G
  | [.fl xs] => Q (.tup xs) G
  | _ => False
theorem lk_tuple {B : Bs} : LkCl B (fun xs H Q => ∃ p ys, xs = [.ref p] ∧ ((SqL B.K H p ys ∧ ∀ l, H l = none → Q (.ref l) (L2.upd H l (.tup ys))) ∨ (SqT B.K H p ys ∧ Q (.ref p) H))) tupleD := fun ds vs G H Q R r w h k => by
  match ds, h with
  | [.tup xs], h =>
    obtain ⟨v, rfl, rv⟩ := r.one
    obtain ⟨a, vs, rfl, ha, ra⟩ := rp_tup.mp rv
    exact ⟨a, vs, rfl, .inr ⟨ha, k _ _ G H rv w Fm.refl h⟩⟩
  | [.fl xs], h =>
    obtain ⟨v, rfl, rv⟩ := r.one
    obtain ⟨a, vs, rfl, ha, ra⟩ := rp_fl.mp rv
    exact ⟨a, vs, rfl, .inl ⟨ha.sq, fun l hl => k _ _ G _ (rp_new_tup hl ra) (wld_hid w hl) (fm_hid hl) h⟩⟩
  | [.ref a], h =>
    obtain ⟨v, rfl, rv⟩ := r.one
    obtain ⟨xs, e, h⟩ := h
    rw [rp_ref.mp rv]
    obtain ⟨vs, e2, ra⟩ := w a _ e
    exact ⟨a, vs, rfl, .inl ⟨SqL.of e2, fun l hl => k _ _ G _ (rp_new_tup hl ra) (wld_hid w hl) (fm_hid hl) h⟩⟩
def listD : RCD := fun ds G Q => match ds with
  | [.tup xs] => ∀ p, G p = none → Q (.ref p) (G.upd p (.lst xs))
  | [.fl xs] => ∀ p, G p = none → Q (.ref p) (G.upd p (.lst xs))
  | [.ref a] => ∃ xs, G a = some (.lst xs) ∧ ∀ p, G p = none → Q (.ref p) (G.upd p (.lst xs))
  | _ => False
theorem lk_list {B : Bs} : LkCl B (fun xs H Q => ∃ p ys, xs = [.ref p] ∧ (SqL B.K H p ys ∨ SqT B.K H p ys) ∧ ∀ l, H l = none → Q (.ref l) (L2.upd H l (.lst ys))) listD := fun ds vs G H Q R r w h k => by
  have fin : ∀ (xs : List D) (vs : List V) (l : Addr), RpL B.K H xs vs → H l = none → (∀ p, G p = none → Q (.ref p) (G.upd p (.lst xs))) → R (.ref l) (L2.upd H l (.lst vs)) := fun xs vs l ra hl q =>
    k _ _ _ _ (rp_ref.mpr rfl) (wld_new (d := .lst xs) w hl ⟨_, upd_same, ra.mono (kp_new hl)⟩) (fm_new hl) (q l (w.none hl))
  match ds, h with
  | [.tup xs], h =>
    obtain ⟨v, rfl, rv⟩ := r.one
    obtain ⟨a, vs, rfl, ha, ra⟩ := rp_tup.mp rv
    exact ⟨a, vs, rfl, .inr ha, fun l hl => fin xs vs l ra hl h⟩
  | [.fl xs], h =>
    obtain ⟨v, rfl, rv⟩ := r.one
    obtain ⟨a, vs, rfl, ha, ra⟩ := rp_fl.mp rv
    exact ⟨a, vs, rfl, .inl ha.sq, fun l hl => fin xs vs l ra hl h⟩
  | [.ref a], h =>
    obtain ⟨v, rfl, rv⟩ := r.one
    obtain ⟨xs, e, h⟩ := h
    rw [rp_ref.mp rv]
    obtain ⟨vs, e2, ra⟩ := w a _ e
    exact ⟨a, vs, rfl, .inl (SqL.of e2), fun l hl => fin xs vs l ra hl h⟩
/-! ### isinstance of built-in classes -/
inductive Ty where
  | none | bool | int | str | tuple | list | dict
  deriving DecidableEq
def Ty.name : Ty → String
  | .none => "NoneType" | .bool => "bool" | .int => "int" | .str => "str" | .tuple => "tuple" | .list => "list" | .dict => "dict"
def Ty.isa : Ty → Ty → Bool
  | .bool, .int => true
  | a, b => decide (a = b)
def Ty.of (n : String) : Option Ty := if n = "bool" then some .bool else if n = "int" then some .int else if n = "str" then some .str else if n = "tuple" then some .tuple else if n = "list" then some .list else if n = "dict" then some .dict else Option.none
theorem kit_isa (a b : Ty) (h : b ≠ .none) : kitB a.name b.name = some (Ty.isa a b) := by
  cases b with
  | none => exact absurd rfl h
  | _ => cases a <;> decide +kernel
theorem Ty.of_name {n : String} {t : Ty} (h : Ty.of n = some t) : n = t.name ∧ t ≠ .none := by
  unfold Ty.of at h
  repeat (first | (split at h; · (cases h; rename_i e; exact ⟨e, by decide⟩)) | cases h)
def tyD (G : DG) : D → Option Ty
  | .non => some .none
  | .bl _ => some .bool
  | .int _ => some .int
  | .str _ => some .str
  | .tup _ => some .tuple
  | .fl _ => some .list
  | .ref a => match G a with
    | some (.lst _) => some .list
    | _ => Option.none
  | .ty _ => Option.none
theorem ty_rp {B : Bs} {G : DG} {H : Hp} {x : D} {v : V} {t : Ty} (w : Wld B G H) (r : Rp B.K H x v) (h : tyD G x = some t) : TyX B.K H v (.type t.name) := by
  cases x with
  | non => cases h; rw [rp_non.mp r]; exact .base .non
  | bl b => cases h; rw [rp_bl.mp r]; exact .base (.bl b)
  | int b => cases h; rw [rp_int.mp r]; exact .base (.int b)
  | str b => cases h; rw [rp_str.mp r]; exact .base (.str b)
  | tup ds =>
    cases h
    obtain ⟨a, xs, rfl, q, _⟩ := rp_tup.mp r
    rcases q with (q | ⟨o, q⟩) | ⟨o, its, n, q1, q2, _⟩
    · exact .base (.tup q)
    · exact .fTuple q
    · exact .kTuple q1 q2
  | fl ds =>
    cases h
    obtain ⟨a, xs, rfl, q, _⟩ := rp_fl.mp r
    rcases q with ⟨o, q⟩ | ⟨o, its, n, q1, q2, _⟩
    · exact .base (.frz q)
    · exact .kList q1 q2
  | ref a =>
    rw [rp_ref.mp r]
    have h : (match G a with | some (.lst _) => some Ty.list | _ => Option.none) = some t := h
    split at h
    · rename_i ds e
      cases h
      obtain ⟨xs, e2, _⟩ := w a _ e
      exact .base (.lst e2)
    · cases h
  | ty n => cases h
def isi1 (G : DG) (x c : D) : Option Bool := match tyD G x, c with
  | some a, .ty n => (Ty.of n).map (Ty.isa a)
  | _, _ => Option.none
def isiAny (G : DG) (x : D) : List D → Option Bool
  | [] => some false
  | c :: cs => match isi1 G x c with
    | some true => some true
    | some false => isiAny G x cs
    | Option.none => Option.none
def rIsiS (K : PySem.W.Frag) : List V → Hp → VK → Prop := fun xs H Q => ∃ (x : V) (tp : Addr) (cs : List V) (t : Value) (us : List Value) (b : Bool), xs = [x, .ref tp] ∧ SqT K H tp cs ∧ Paired ClsV cs us ∧ TyX K H x t ∧ PySem.W.kitAny K t us = some b ∧ Q (.bl b) H
theorem call_isiS {X : Cx} : CallR X (.builtin "isinstance") (rIsiS X.K) := by
  intro pins s σ H xs us Q I r h
  obtain ⟨x, tp, cs, t, ws, b, rfl, hT, k, ty, e, q⟩ := h
  obtain ⟨u1, u2, rfl, r1, r2⟩ := vals2 r
  cases (show u2 = Value.ref tp from r2)
  obtain ⟨P, Z, p, hx⟩ := kit_of I r1 ty
  obtain ⟨its, rv, ⟨o, h1, h2, n, h3⟩, _⟩ := I.tuple hT
  have e3 := ClsV.all k rv
  subst e3
  obtain ⟨oc, od, dt, sl⟩ := o
  simp only at h2 h3
  subst h2 h3
  exact PySem.W.kia_tup Z I.kIn p h1 e hx fun tk => ⟨.bl b, H, I.tok tk, rfl, q⟩
def rIsiA (K : PySem.W.Frag) : List V → Hp → VK → Prop := fun xs H Q => rIsi K xs H Q ∨ rIsiS K xs H Q
theorem call_isiA {X : Cx} : CallR X (.builtin "isinstance") (rIsiA X.K) := call_isi.or call_isiS
theorem isi1_some {G : DG} {x c : D} {b : Bool} (h : isi1 G x c = some b) : ∃ t u n, tyD G x = some t ∧ c = .ty n ∧ Ty.of n = some u ∧ b = Ty.isa t u := by
  unfold isi1 at h
  split at h
  · rename_i t n e
    cases e2 : Ty.of n with
    | none => rw [e2] at h; cases h
    | some u => rw [e2] at h; exact ⟨t, u, n, e, rfl, e2, (Option.some.inj h).symm⟩
  · cases h
theorem isi1_kit {K : PySem.W.Frag} {G : DG} {x c : D} {b : Bool} {t : Ty} (ht : tyD G x = some t) (h : isi1 G x c = some b) : ∃ n, c = .ty n ∧ PySem.W.kitOne K (.type t.name) (.type n) = some b := by
  obtain ⟨t', u, n, e1, rfl, e2, rfl⟩ := isi1_some h
  rw [ht] at e1; cases e1
  obtain ⟨rfl, hn⟩ := Ty.of_name e2
  exact ⟨_, rfl, kit_ty (kit_isa t u hn)⟩
theorem isiAny_kit {K : PySem.W.Frag} {H : Hp} {G : DG} {x : D} {t : Ty} (ht : tyD G x = some t) : ∀ {cs : List D} {vs : List V} {b : Bool}, (∀ c ∈ cs, ∃ n, c = .ty n) → RpL K H cs vs → isiAny G x cs = some b → ∃ us, Paired ClsV vs us ∧ PySem.W.kitAny K (.type t.name) us = some b
  | [], vs, b, _, r, h => by
    rw [rpl_nil.mp r]
    cases h
    exact ⟨[], .nil, kitAny_nil⟩
  | c :: cs, vs, b, hc, r, h => by
    obtain ⟨y, ys, rfl, r1, r2⟩ := rpl_cons.mp r
    have h : (match isi1 G x c with | some true => some true | some false => isiAny G x cs | Option.none => Option.none) = some b := h
    obtain ⟨n, rfl⟩ := hc c List.mem_cons_self
    rw [rp_ty.mp r1]
    have tys : ∀ (cs : List D) (ys : List V), (∀ c ∈ cs, ∃ n, c = .ty n) → RpL K H cs ys → ∃ us, Paired ClsV ys us := fun cs => by
      induction cs with
      | nil => intro ys _ r; rw [rpl_nil.mp r]; exact ⟨[], .nil⟩
      | cons c cs ih =>
        intro ys hc r
        obtain ⟨z, zs, rfl, q1, q2⟩ := rpl_cons.mp r
        obtain ⟨m, rfl⟩ := hc c List.mem_cons_self
        obtain ⟨us, hu⟩ := ih zs (fun d hd => hc d (List.mem_cons_of_mem _ hd)) q2
        rw [rp_ty.mp q1]
        exact ⟨_, .cons (.ty m) hu⟩
    cases e : isi1 G x (.ty n) with
    | none => rw [e] at h; cases h
    | some b1 =>
      rw [e] at h
      obtain ⟨m, em, kk⟩ := isi1_kit (K := K) ht e
      cases em
      cases b1 with
      | true =>
        cases h
        obtain ⟨us, hu⟩ := tys cs ys (fun d hd => hc d (List.mem_cons_of_mem _ hd)) r2
        exact ⟨_, .cons (.ty n) hu, kitAny_cons kk (fun z => nomatch z) fun _ => rfl⟩
      | false =>
        obtain ⟨us, hu, ka⟩ := isiAny_kit ht (fun d hd => hc d (List.mem_cons_of_mem _ hd)) r2 h
        exact ⟨_, .cons (.ty n) hu, kitAny_cons kk (fun _ => ka) fun z => nomatch z⟩

theorem isi1_ty {G : DG} {x c : D} {b : Bool} (h : isi1 G x c = some b) : ∃ n, c = .ty n := by
  obtain ⟨_, _, n, _, e, _⟩ := isi1_some h
  exact ⟨n, e⟩
/-- a tuple of built-in classes alone -/
def allTy : List D → Bool
  | [] => true
  | .ty _ :: cs => allTy cs
  | _ :: _ => false
theorem allTy_mem : ∀ {cs : List D}, allTy cs = true → ∀ c ∈ cs, ∃ n, c = .ty n
  | .ty n :: cs, h, c, hc => by
    rcases List.mem_cons.mp hc with rfl | hc
    · exact ⟨n, rfl⟩
    · exact allTy_mem (cs := cs) h c hc
def isiD : RCD := fun ds G Q => match ds with
  | [x, .tup cs] => (allTy cs = true ∧ cs ≠ []) ∧ match isiAny G x cs with
    | some b => Q (.bl b) G
    | Option.none => False
  | [x, .ty n] => match isi1 G x (.ty n) with
    | some b => Q (.bl b) G
    | Option.none => False
  | _ => False
theorem tyAny {G : DG} {x : D} : ∀ {cs : List D} {b : Bool}, isiAny G x cs = some b → cs ≠ [] → ∃ t, tyD G x = some t
  | c :: cs, b, h, _ => by
    have h : (match isi1 G x c with | some true => some true | some false => isiAny G x cs | Option.none => Option.none) = some b := h
    cases e : isi1 G x c with
    | none => rw [e] at h; cases h
    | some b1 =>
      obtain ⟨t, _, _, e1, _⟩ := isi1_some e
      exact ⟨t, e1⟩
  | [], _, _, h => absurd rfl h
theorem lk_isi {B : Bs} : LkCl B (rIsiA B.K) isiD := fun ds vs G H Q R r w h k => by
  match ds, h with
  | [x, .ty n], h =>
    obtain ⟨v, u, rfl, rv, ru⟩ := r.two
    rw [rp_ty.mp ru]
    have h : (match isi1 G x (.ty n) with | some b => Q (.bl b) G | Option.none => False) := h
    split at h
    · rename_i b e
      obtain ⟨t, u', n', e1, e2, e3, rfl⟩ := isi1_some e
      cases e2
      obtain ⟨m, em, kk⟩ := isi1_kit (K := B.K) e1 e
      cases em
      exact .inl ⟨v, .ty n, .type t.name, .type n, _, rfl, .ty n, ty_rp w rv e1, kk, k _ _ G H (rp_bl.mpr rfl) w Fm.refl h⟩
    · exact h.elim
  | [x, .tup cs], h =>
    obtain ⟨v, u, rfl, rv, ru⟩ := r.two
    obtain ⟨a, xs, rfl, ha, ra⟩ := rp_tup.mp ru
    obtain ⟨hc, h⟩ := h
    split at h
    · rename_i b e
      obtain ⟨t, et⟩ := tyAny e hc.2
      obtain ⟨us, hu, ka⟩ := isiAny_kit (K := B.K) (H := H) et (allTy_mem hc.1) ra e
      exact .inr ⟨v, a, xs, .type t.name, us, b, rfl, ha, hu, ty_rp w rv et, ka, k _ _ G H (rp_bl.mpr rfl) w Fm.refl h⟩
    · exact h.elim
end FD

/-! FD5: the rules by construct (one for each form of syntax), methods of lists, stores, calls of defs. -/
namespace FD
open PySem PySem.Spec PyProof.Rows L2
section
variable {X : Cx} {pos p p2 apos cpos : Pos} {a b e o : Expr} {es : List Expr} {da db te : DE} {t : DA} {k : Nat}
/-! ### operators -/
theorem pd_add (ha : PD X a da) (hb : PD X b db) : PD X (.BinOp a .Add b pos) (dOp addD da db) := pd_op op_addA lk_add ha hb
theorem pd_sub (ha : PD X a da) (hb : PD X b db) : PD X (.BinOp a .Sub b pos) (dOp subD da db) := pd_op op_sub lk_int0 ha hb
theorem pd_mul (ha : PD X a da) (hb : PD X b db) : PD X (.BinOp a .Mult b pos) (dOp mulD da db) := pd_op op_mulA lk_mul ha hb
theorem pd_mod (ha : PD X a da) (hb : PD X b db) : PD X (.BinOp a .Mod b pos) (dOp modD da db) := pd_op op_mod lk_int ha hb
theorem pd_fdiv (ha : PD X a da) (hb : PD X b db) : PD X (.BinOp a .FloorDiv b pos) (dOp fdivD da db) := pd_op op_fdiv lk_int ha hb
theorem pd_pow (ha : PD X a da) (hb : PD X b db) : PD X (.BinOp a .Pow b pos) (dOp powD da db) := pd_op op_pow lk_int ha hb
theorem pd_lt (ha : PD X a da) (hb : PD X b db) : PD X (.Compare a [.Lt] [b] pos) (dOp ltD da db) := pd_cmp op_ltA lk_ord ha hb (nomark _)
theorem pd_le (ha : PD X a da) (hb : PD X b db) : PD X (.Compare a [.LtE] [b] pos) (dOp leD da db) := pd_cmp op_leA lk_ord ha hb (nomark _)
theorem pd_gt (ha : PD X a da) (hb : PD X b db) : PD X (.Compare a [.Gt] [b] pos) (dOp gtD' da db) := pd_cmp op_gtA lk_ord ha hb (nomark _)
theorem pd_ge (ha : PD X a da) (hb : PD X b db) : PD X (.Compare a [.GtE] [b] pos) (dOp geD da db) := pd_cmp op_geA lk_ord ha hb (nomark _)
theorem pdt_lt (ha : PD X a da) (hb : PD X b db) : PDT X (.Compare a [.Lt] [b] pos) (dBool (dOp ltD da db)) := pdt_cmp op_ltA lk_ord ha hb (nomark _)
theorem pdt_le (ha : PD X a da) (hb : PD X b db) : PDT X (.Compare a [.LtE] [b] pos) (dBool (dOp leD da db)) := pdt_cmp op_leA lk_ord ha hb (nomark _)
theorem pdt_gt (ha : PD X a da) (hb : PD X b db) : PDT X (.Compare a [.Gt] [b] pos) (dBool (dOp gtD' da db)) := pdt_cmp op_gtA lk_ord ha hb (nomark _)
theorem pdt_ge (ha : PD X a da) (hb : PD X b db) : PDT X (.Compare a [.GtE] [b] pos) (dBool (dOp geD da db)) := pdt_cmp op_geA lk_ord ha hb (nomark _)
theorem pd_eq (hr : Room k X.A) (ha : PD X a da) (hb : PD X b db) : PD X (.Compare a [.Eq] [b] pos) (dOp (eqD false) da db) := pd_cmp (op_eqD hr.units) lk_eq ha hb (nomark _)
theorem pd_ne (hr : Room k X.A) (ha : PD X a da) (hb : PD X b db) : PD X (.Compare a [.NotEq] [b] pos) (dOp (eqD true) da db) := pd_cmp (op_neD hr.units) lk_ne ha hb (nomark _)
theorem pdt_eq (hr : Room k X.A) (ha : PD X a da) (hb : PD X b db) : PDT X (.Compare a [.Eq] [b] pos) (dBool (dOp (eqD false) da db)) := pdt_cmp (op_eqD hr.units) lk_eq ha hb (nomark _)
theorem pdt_ne (hr : Room k X.A) (ha : PD X a da) (hb : PD X b db) : PDT X (.Compare a [.NotEq] [b] pos) (dBool (dOp (eqD true) da db)) := pdt_cmp (op_neD hr.units) lk_ne ha hb (nomark _)
theorem pd_is (ha : PD X a da) (hb : PD X b db) : PD X (.Compare a [.Is] [b] pos) (dOp (isD false) da db) := pd_cmp op_isN lk_is ha hb (nomark _)
theorem pd_isnot (ha : PD X a da) (hb : PD X b db) : PD X (.Compare a [.IsNot] [b] pos) (dOp (isD true) da db) := pd_cmp op_notN lk_isnot ha hb (nomark _)
theorem pdt_is (ha : PD X a da) (hb : PD X b db) : PDT X (.Compare a [.Is] [b] pos) (dBool (dOp (isD false) da db)) := pdt_cmp op_isN lk_is ha hb (nomark _)
theorem pdt_isnot (ha : PD X a da) (hb : PD X b db) : PDT X (.Compare a [.IsNot] [b] pos) (dBool (dOp (isD true) da db)) := pdt_cmp op_notN lk_isnot ha hb (nomark _)
theorem pd_ix (ha : PD X a da) (hb : PD X b db) (hs : PlainIx b := by intro _ _; rfl) : PD X (.Subscript a b pos) (dOp ixD da db) := by
  obtain ⟨ta, pa, la⟩ := ha
  obtain ⟨tb, pb, lb⟩ := hb
  exact ⟨_, pe_ix ix_seq pa pb hs, lk_op lk_ix la lb⟩
theorem sl_all : SlR X (rSlAll X.K) := sl_tupA.or (sl_list.or sl_str)
theorem pd_slice {lo hi : Option Expr} {dl dh : DOp} (h : PD X e te) (hl : PDO X lo dl) (hh : PDO X hi dh) : PD X (.Subscript e (.Slice lo hi none p2) pos) (dSl te dl dh) := by
  obtain ⟨t0, p0, l0⟩ := h
  obtain ⟨t1, p1, l1⟩ := hl
  obtain ⟨t2, p2, l2⟩ := hh
  refine ⟨_, pe_slice sl_all p0 p1 p2, fun ρ σ G H Q R s w h k => ?_⟩
  refine l0 ρ σ G H _ _ s w h fun x v G1 H1 r1 w1 f1 q1 => ?_
  refine l1 ρ σ G1 H1 _ _ (s.mono (f1.kp w)) w1 q1 fun lo G2 H2 w2 f2 q2 => ?_
  refine l2 ρ σ G2 H2 _ _ (s.mono ((f1.trans f2).kp w)) w2 q2 fun hi G3 H3 w3 f3 q3 => ?_
  have r3 := r1.mono ((f2.trans f3).kp w1)
  have k3 := k.aft ((f1.trans f2).trans f3)
  cases x <;> try exact q3.elim
  · rename_i z
    rw [rp_str.mp r3]
    exact .inr (.inr ⟨z, rfl, q3.1, k3 _ _ G3 H3 (rp_str.mpr rfl) w3 Fm.refl q3.2⟩)
  · rename_i ds
    obtain ⟨a, vs, rfl, ha, ra⟩ := rp_tup.mp r3
    refine .inl ⟨a, vs, rfl, ha, fun hw => ?_, fun _ p hp => ?_⟩
    · refine k3 _ _ G3 H3 r3 w3 Fm.refl ?_
      rw [← ra.length] at hw
      have q3 : Q (.tup (cutD ds lo hi)) G3 := q3
      rw [cut_whole ds hw] at q3
      exact q3
    · exact k3 _ _ G3 _ (rp_new_tup hp (ra.cut lo hi)) (wld_hid w3 hp) (fm_hid hp) q3
  · rename_i a
    obtain ⟨ds, e, q3⟩ := q3
    rw [rp_ref.mp r3]
    obtain ⟨vs, e2, ra⟩ := w3 a _ e
    refine .inr (.inl ⟨a, vs, rfl, SqL.of e2, fun p hp => ?_⟩)
    exact k3 _ _ _ _ (rp_ref.mpr rfl) (wld_new (d := .lst (cutD ds lo hi)) w3 hp ⟨_, upd_same, (ra.cut lo hi).mono (kp_new hp)⟩) (fm_new hp) (q3 p (w3.none hp))
/-! ### built-ins -/
theorem pd_len (hg : Gl X "len") (hm : X.mg "len" = none) (ha : PDA X (e :: es) t) (he : starEach (e :: es) X.env = (false, eval e X.env) :: starEach es X.env := by rfl) (hpl : (backTo pos (starEach es X.env)).any (·.1) = false := by rfl) :
    PD X (.Call (.Name "len" p) (e :: es) [] pos) (dCB lenD t) := pd_callB call_len lk_len hg hm PySem.boot_len ha (by decide) (by decide) he hpl
theorem pd_isi (hg : Gl X "isinstance") (hm : X.mg "isinstance" = none) (ha : PDA X (e :: es) t) (he : starEach (e :: es) X.env = (false, eval e X.env) :: starEach es X.env := by rfl) (hpl : (backTo pos (starEach es X.env)).any (·.1) = false := by rfl) :
    PD X (.Call (.Name "isinstance" p) (e :: es) [] pos) (dCB isiD t) := pd_callB call_isiA lk_isi hg hm (by decide +kernel) ha (by decide) (by decide) he hpl
theorem pd_all (hc : X.calm = true) (hg : Gl X "all") (hm : X.mg "all" = none) (ha : PDA X (e :: es) t) (he : starEach (e :: es) X.env = (false, eval e X.env) :: starEach es X.env := by rfl) (hpl : (backTo pos (starEach es X.env)).any (·.1) = false := by rfl) :
    PD X (.Call (.Name "all" p) (e :: es) [] pos) (dCB allD t) := pd_callB (cr_all hc) lk_all hg hm (by decide +kernel) ha (by decide) (by decide) he hpl
theorem pd_max2 (hc : X.calm = true) (hg : Gl X "max") (hm : X.mg "max" = none) (ha : PDA X (e :: es) t) (he : starEach (e :: es) X.env = (false, eval e X.env) :: starEach es X.env := by rfl) (hpl : (backTo pos (starEach es X.env)).any (·.1) = false := by rfl) :
    PD X (.Call (.Name "max" p) (e :: es) [] pos) (dCB max2D t) := pd_callB (call_max2 hc) lk_max2 hg hm (by decide +kernel) ha (by decide) (by decide) he hpl
theorem pd_min2 (hc : X.calm = true) (hg : Gl X "min") (hm : X.mg "min" = none) (ha : PDA X (e :: es) t) (he : starEach (e :: es) X.env = (false, eval e X.env) :: starEach es X.env := by rfl) (hpl : (backTo pos (starEach es X.env)).any (·.1) = false := by rfl) :
    PD X (.Call (.Name "min" p) (e :: es) [] pos) (dCB min2D t) := pd_callB (call_min2 hc) lk_min2 hg hm (by decide +kernel) ha (by decide) (by decide) he hpl
theorem pd_tuple (hg : Gl X "tuple") (hm : X.mg "tuple" = none) (ha : PDA X (e :: es) t) (he : starEach (e :: es) X.env = (false, eval e X.env) :: starEach es X.env := by rfl) (hpl : (backTo pos (starEach es X.env)).any (·.1) = false := by rfl) :
    PD X (.Call (.Name "tuple" p) (e :: es) [] pos) (dCB tupleD t) := pd_callTy call_tuple_of lk_tuple hg hm (by decide +kernel) ha (by decide) (by decide) he hpl
theorem pd_list (hg : Gl X "list") (hm : X.mg "list" = none) (ha : PDA X (e :: es) t) (he : starEach (e :: es) X.env = (false, eval e X.env) :: starEach es X.env := by rfl) (hpl : (backTo pos (starEach es X.env)).any (·.1) = false := by rfl) :
    PD X (.Call (.Name "list" p) (e :: es) [] pos) (dCB listD t) := pd_callTy call_list_of lk_list hg hm (by decide +kernel) ha (by decide) (by decide) he hpl
/-! ### methods of lists -/
def isLst (x : D) (G : DG) : Prop := match x with
  | .ref a => ∃ ds, G a = some (.lst ds)
  | _ => False
abbrev RMD := D → List D → DG → DK → Prop
def LkM (B : Bs) (r : V → List V → Hp → VK → Prop) (rd : RMD) : Prop := ∀ x ds v vs G H Q R, Rp B.K H x v → RpL B.K H ds vs → Wld B G H → rd x ds G Q → Kt B G H Q R → r v vs H R
def dML (rd : RMD) (to : DE) (t : DA) : DE := fun ρ G Q => to ρ G fun x G1 => isLst x G1 ∧ t ρ G1 fun ds G2 => rd x ds G2 Q
theorem isLst_ty {B : Bs} {G : DG} {H : Hp} {x : D} {v : V} (w : Wld B G H) (r : Rp B.K H x v) (h : isLst x G) : tyV B.K "list" v H := by
  cases x <;> try exact h.elim
  rename_i a
  obtain ⟨ds, e⟩ := h
  rw [rp_ref.mp r]
  obtain ⟨xs, e2, _⟩ := w a _ e
  exact .inl ⟨rfl, xs, SqL.of e2⟩
theorem pd_ml {name : Str} {id : String} {r : V → List V → Hp → VK → Prop} {rd : RMD} (slot : Slot "list" name id) (hty : typeOf (.builtin id) = pure (.type "method_descriptor")) (hm : MtR X id r) (hl : LkM (bs X) r rd) (ho : PD X o te) (ha : PDA X (e :: es) t)
    (hbase : attributeBase o name X.env (eval o X.env) = eval o X.env := by rfl)
    (hfew : ((backTo cpos (starEach (e :: es) X.env)).all (fun x => !x.1) && (backToKw cpos (keywordEach [] X.env)).all (fun x => x.1.isSome)
      && decide ((e :: es).length + ([] : List Keyword).length + (if ([] : List Keyword).isEmpty then 0 else 1) < 30)) = true := by rfl)
    (hline : (apos.endLine == cpos.line) = true := by rfl) (hs : starEach (e :: es) X.env = (false, eval e X.env) :: starEach es X.env := by rfl) (hplain : (backTo cpos (starEach es X.env)).any (·.1) = false := by rfl) :
    PD X (.Call (.Attribute o name apos) (e :: es) [] cpos) (dML rd te t) := by
  obtain ⟨t0, p0, l0⟩ := ho
  obtain ⟨ta, pa, la⟩ := ha
  refine ⟨_, pe_bm PySem.F.plainAttrs_list slot hty hm p0 pa hbase hfew hline hs hplain, fun ρ σ G H Q R s w h k => ?_⟩
  refine l0 ρ σ G H _ _ s w h fun x v G1 H1 r1 w1 f1 q1 => ⟨isLst_ty w1 r1 q1.1, ?_⟩
  refine la ρ σ G1 H1 _ _ (s.mono (f1.kp w)) w1 q1.2 fun ds vs G2 H2 r2 w2 f2 q2 => ?_
  exact hl x ds v vs G2 H2 Q R (r1.mono (f2.kp w1)) r2 w2 q2 (k.aft (f1.trans f2))
def appendD : RMD := fun x ds G Q => match x, ds with
  | .ref l, [y] => ∃ xs, G l = some (.lst xs) ∧ xs.length < sizeLine ∧ Q .non (G.upd l (.lst (xs ++ [y])))
  | _, _ => False
theorem lk_append {B : Bs} : LkM B rAppend appendD := fun x ds v vs G H Q R rx rd w h k => by
  match x, ds, h with
  | .ref l, [y], h =>
    obtain ⟨xs, e, hz, q⟩ := h
    rw [rp_ref.mp rx]
    obtain ⟨u, rfl, ru⟩ := rd.one
    obtain ⟨us, e2, ra⟩ := w l _ e
    exact ⟨l, us, u, rfl, rfl, e2, by rw [← ra.length]; exact hz, k _ _ _ _ (rp_non.mpr rfl) (wld_set (d := .lst (xs ++ [y])) w e ⟨_, upd_same, (RpL.snoc ra ru).mono (kp_set w e)⟩) (fm_set w e) q⟩
def popAtD : RMD := fun x ds G Q => match x, ds with
  | .ref l, [.int i] => ∃ xs j y, G l = some (.lst xs) ∧ (-(2 ^ 63) ≤ i ∧ i < 2 ^ 63) ∧ seqIndex? i xs.length = some j ∧ xs[j]? = some y ∧ Q y (G.upd l (.lst (xs.eraseIdx j)))
  | _, _ => False
theorem lk_popAt {B : Bs} : LkM B rPopAt popAtD := fun x ds v vs G H Q R rx rd w h k => by
  match x, ds, h with
  | .ref l, [.int i], h =>
    obtain ⟨xs, j, y, e, hz, hj, hy, q⟩ := h
    rw [rp_ref.mp rx]
    obtain ⟨u, rfl, ru⟩ := rd.one
    rw [rp_int.mp ru]
    obtain ⟨us, e2, ra⟩ := w l _ e
    obtain ⟨z, hz2, rz⟩ := ra.get hy
    exact ⟨l, us, i, j, z, rfl, rfl, e2, hz.1, hz.2, by rw [← ra.length]; exact hj, hz2, k _ _ _ _ (rz.mono (kp_set w e)) (wld_set (d := .lst (xs.eraseIdx j)) w e ⟨_, upd_same, (ra.erase j).mono (kp_set w e)⟩) (fm_set w e) q⟩
theorem pd_append (ho : PD X o te) (ha : PDA X (e :: es) t)
    (hbase : attributeBase o "append" X.env (eval o X.env) = eval o X.env := by rfl)
    (hfew : ((backTo cpos (starEach (e :: es) X.env)).all (fun x => !x.1) && (backToKw cpos (keywordEach [] X.env)).all (fun x => x.1.isSome)
      && decide ((e :: es).length + ([] : List Keyword).length + (if ([] : List Keyword).isEmpty then 0 else 1) < 30)) = true := by rfl)
    (hline : (apos.endLine == cpos.line) = true := by rfl) (hs : starEach (e :: es) X.env = (false, eval e X.env) :: starEach es X.env := by rfl) (hplain : (backTo cpos (starEach es X.env)).any (·.1) = false := by rfl) :
    PD X (.Call (.Attribute o "append" apos) (e :: es) [] cpos) (dML appendD te t) := pd_ml PySem.F.slot_list_append PySem.F.type_list_append mt_append lk_append ho ha hbase hfew hline hs hplain
theorem pd_popAt (ho : PD X o te) (ha : PDA X (e :: es) t)
    (hbase : attributeBase o "pop" X.env (eval o X.env) = eval o X.env := by rfl)
    (hfew : ((backTo cpos (starEach (e :: es) X.env)).all (fun x => !x.1) && (backToKw cpos (keywordEach [] X.env)).all (fun x => x.1.isSome)
      && decide ((e :: es).length + ([] : List Keyword).length + (if ([] : List Keyword).isEmpty then 0 else 1) < 30)) = true := by rfl)
    (hline : (apos.endLine == cpos.line) = true := by rfl) (hs : starEach (e :: es) X.env = (false, eval e X.env) :: starEach es X.env := by rfl) (hplain : (backTo cpos (starEach es X.env)).any (·.1) = false := by rfl) :
    PD X (.Call (.Attribute o "pop" apos) (e :: es) [] cpos) (dML popAtD te t) := pd_ml PySem.F.slot_list_pop PySem.F.type_list_pop mt_popAt lk_popAt ho ha hbase hfew hline hs hplain
/-! ### stores to a place of a list -/
abbrev RSD := D → D → D → DG → (DG → Prop) → Prop
def LkSt (B : Bs) (r : TSet) (rd : RSD) : Prop := ∀ o i x vo vi vx G H Q R, Rp B.K H o vo → Rp B.K H i vi → Rp B.K H x vx → Wld B G H → rd o i x G Q → (∀ G' H', Wld B G' H' → Fm G H G' H' → Q G' → R H') → r vo vi vx H R
def gsD (to ti : DE) (rd : RSD) : DGt := fun x ρ G Q => to ρ G fun o G1 => ti ρ G1 fun i G2 => rd o i x G2 fun G3 => Q ρ G3
def setLD : RSD := fun o i x G Q => match o, i with
  | .ref l, .int n => ∃ xs j, G l = some (.lst xs) ∧ ixN xs.length n = some j ∧ Q (G.upd l (.lst (xs.set j x)))
  | _, _ => False
theorem lk_setL {B : Bs} : LkSt B rSetL setLD := fun o i x vo vi vx G H Q R ro ri rx w h k => by
  match o, i, h with
  | .ref l, .int n, h =>
    obtain ⟨xs, j, e, hj, q⟩ := h
    rw [rp_ref.mp ro, rp_int.mp ri]
    obtain ⟨us, e2, ra⟩ := w l _ e
    exact ⟨l, us, n, j, rfl, rfl, e2, by rw [← ra.length]; exact hj, k _ _ (wld_set (d := .lst (xs.set j x)) w e ⟨_, upd_same, (ra.set j rx).mono (kp_set w e)⟩) (fm_set w e) q⟩
theorem pdg_sub {i : Expr} {ti : DE} {r : TSet} {rd : RSD} (ho : PD X o te) (hi : PD X i ti) (hs : PSet X r) (hl : LkSt (bs X) r rd)
    (ha : ∀ v, assign (.Subscript o i pos) X.env v = (do
      let ov ← holding [v] (eval o X.env)
      let iv ← holding [v, ov] (eval i X.env)
      standAt pos
      holding [v, ov, iv] (setItem ov iv v)
      release [v, ov, iv] []) := by intro _; rfl) : PDG X (.Subscript o i pos) (gsD te ti rd) := by
  obtain ⟨t0, p0, l0⟩ := ho
  obtain ⟨t1, p1, l1⟩ := hi
  refine ⟨_, pg_sub p0 p1 hs ha, fun d v ρ σ G H Q R r s w h k => ?_⟩
  refine l0 ρ σ G H _ _ s w h fun x vx G1 H1 r1 w1 f1 q1 => ?_
  refine l1 ρ σ G1 H1 _ _ (s.mono (f1.kp w)) w1 q1 fun y vy G2 H2 r2 w2 f2 q2 => ?_
  have f02 := f1.trans f2
  refine hl x y d vx vy v G2 H2 _ _ (r1.mono (f2.kp w1)) r2 (r.mono (f02.kp w)) w2 q2 fun G3 H3 w3 f3 q3 => ?_
  exact k ρ σ G3 H3 (s.mono ((f02.trans f3).kp w)) w3 (f02.trans f3) q3
theorem pdg_subL {i : Expr} {ti : DE} (ho : PD X o te) (hi : PD X i ti)
    (ha : ∀ v, assign (.Subscript o i pos) X.env v = (do
      let ov ← holding [v] (eval o X.env)
      let iv ← holding [v, ov] (eval i X.env)
      standAt pos
      holding [v, ov, iv] (setItem ov iv v)
      release [v, ov, iv] []) := by intro _; rfl) : PDG X (.Subscript o i pos) (gsD te ti setLD) := pdg_sub ho hi set_list lk_setL ha
end
/-! ### defs -/
abbrev DSp := List D → DG → DK → Prop
def lift (B : Bs) (dsp : DSp) : Sp := fun vs H Q _ => ∃ ds G Qd, RpL B.K H ds vs ∧ Wld B G H ∧ dsp ds G Qd ∧ Kt B G H Qd Q
def dCall (dsp : DSp) (t : DA) : DE := fun ρ G Q => t ρ G fun ds G1 => dsp ds G1 Q
/-- the promise of a def (n parameters) is its reading -/
def self (N : List Str) (n : Nat) (t : DS) : DSp := fun ds G Q => ds.length = n ∧ t { nx := fun _ G' => Q .non G', rt := Q } (startD N ds) G
section
variable {X : Cx} {k : Nat} {f : Addr} {fd : FuncData} {ps : List Str} {x : Str} {p pos : Pos} {e : Expr} {es : List Expr} {t : DA} {dsp : DSp}
theorem lk_call {B : Bs} {ta : TA} (la : LkA B ta t) : LkE B (tCall (lift B dsp) [] E0 ta) (dCall dsp t) := fun ρ σ G H Q R s w h k => by
  refine la ρ σ G H _ _ s w h fun ds vs G1 H1 r1 w1 f1 q1 => ?_
  show lift B dsp (vs ++ []) H1 R E0
  rw [List.append_nil]
  exact ⟨ds, G1, Q, r1, w1, q1, k.aft f1⟩
theorem pd_call (F : FnOk X.prog X.w X.K X.mg X.base CX0 k f fd ps (lift (bs X) dsp)) (hr : Room k X.A) (hg : Gl X x) (hm : X.mg x = some (.ref f)) (hk : PySem.W.keepIn X.K (.ref f) = true) (hb : Binds X.K fd ps [])
    (ha : PDA X (e :: es) t) (hdb : (x == ("__debug__" : Str)) = false := by decide) (he : starEach (e :: es) X.env = (false, eval e X.env) :: starEach es X.env := by rfl) (hpl : (backTo pos (starEach es X.env)).any (·.1) = false := by rfl) :
    PD X (.Call (.Name x p) (e :: es) [] pos) (dCall dsp t) := by
  obtain ⟨ta, pa, la⟩ := ha
  exact ⟨_, pe_call F hr hg hm hk hb .nil pass0 pa hdb he hpl, lk_call la⟩
theorem pd_call0 (F : FnOk X.prog X.w X.K X.mg X.base CX0 k f fd ps (lift (bs X) dsp)) (hr : Room k X.A) (hg : Gl X x) (hm : X.mg x = some (.ref f)) (hk : PySem.W.keepIn X.K (.ref f) = true) (hb : Binds X.K fd ps [])
    (hdb : (x == ("__debug__" : Str)) = false := by decide) : PD X (.Call (.Name x p) [] [] pos) (dCall dsp dNil) :=
  ⟨_, pe_call0 F hr hg hm hk hb .nil pass0 hdb, lk_call fun ρ σ G H Q R s w h k => k [] [] G H RpL.nil w Fm.refl h⟩
end
/-- a def of the text keeps its reading as its promise -/
theorem fn_ok {P : Program} {w : World} {K : PySem.W.Frag} {mg : Str → Option Value} {base : Heap} {x qual : Str} {st : Stmt} {f : Addr} {fd : FuncData} {N ps : List Str} {k : Nat} {t : DS} (F : Fun K x qual st f fd) (S : FnScope N ps (defScope st))
    (hb : ∀ (cdv : Value) (A : Around) (outer : List Env) (s : Shared) (H : Hp) (E : XK), Room k (A.deeper (envOfC qual (defScope st) s.heap.objs.size f cdv)) → PDSs (cxOf CX0 P w K mg base N qual (defScope st) f cdv A outer s H E).nox (defBody st) t) :
    FnOk P w K mg base CX0 (k + 1) f fd ps (lift ⟨P, w, K⟩ (self N ps.length t)) := by
  refine F.ok S (fun vs H Q E h => ?_) (fun cdv A outer s H vs Q E hr h => ?_)
  · obtain ⟨ds, G, Qd, r, _, h, _⟩ := h
    rw [← r.length]
    exact h.1
  · obtain ⟨ds, G, Qd, r, wl, h, kt⟩ := h
    obtain ⟨tb, pb, lb⟩ := hb cdv A outer s H E hr
    refine ⟨tb, pb, ?_⟩
    have sl : RpS K H (startD N ds) (L2.start N vs) := by
      unfold startD L2.start
      rw [r.length]
      exact RpS.start r
    exact lb _ _ G H _ _ sl wl h.2 ⟨fun ρ σ G' H' s' w' f' q => kt _ _ G' H' (rp_non.mpr rfl) w' f' q, kt, fun ρ σ G' H' s' w' f' q => q.elim, fun ρ σ G' H' s' w' f' q => q.elim⟩
/-- nothing is promised -/
theorem fn_no {P : Program} {w : World} {K : PySem.W.Frag} {mg : Str → Option Value} {base : Heap} {k : Nat} {f : Addr} {fd : FuncData} {ps : List Str} {B : Bs} : FnOk P w K mg base CX0 k f fd ps (lift B fun _ _ _ => False) :=
  ⟨fun vs H Q E h => by obtain ⟨_, _, _, _, _, h, _⟩ := h; exact h.elim, fun A outer s H args us vs Q E _ _ _ _ h => by obtain ⟨_, _, _, _, _, h, _⟩ := h; exact h.elim⟩
end FD

/-! FD6: dicts whose keys are tuples, nested: {}, d[k] = v, d[k], list(d), k in d; dict comprehensions. -/
namespace FD
open PySem PySem.Spec PyProof.Rows L2
/-! ### keys -/
section
variable {X : Cx} {pins : List (Addr × Obj)} {σ : L2.St} {H : Hp} {s : Shared}
mutual
theorem nk_is (I : Inv X pins σ H s) : ∀ (d : D) (v : V) (u : Value) (k : NestedKey), nkey d = some k → Rp X.K H d v → RelV v u → NestedIs s.heap k u
  | .non, v, u, k, e, r, q => by
    rw [rp_non.mp r] at q
    cases (show u = Value.none from q)
    rw [nkey] at e
    cases e
    exact .none
  | .bl b, v, u, k, e, r, q => by
    rw [rp_bl.mp r] at q
    cases (show u = Value.bool b from q)
    rw [nkey] at e
    cases e
    exact .bool rfl
  | .int i, v, u, k, e, r, q => by
    rw [rp_int.mp r] at q
    obtain ⟨t, rfl⟩ := (show ∃ t, u = Value.int i t from q)
    rw [nkey] at e
    cases e
    exact .int i t
  | .str x, v, u, k, e, r, q => by
    rw [rp_str.mp r] at q
    obtain ⟨t, rfl⟩ := (show ∃ t, u = Value.str x t from q)
    rw [nkey] at e
    cases e
    exact .text x t
  | .tup ds, v, u, k, e, r, q => by
    obtain ⟨a, xs, rfl, ha, ra⟩ := rp_tup.mp r
    cases (show u = Value.ref a from q)
    obtain ⟨its, rv, ⟨o, h1, h2, n, h3⟩, _⟩ := I.tuple ha
    rw [nkey] at e
    cases ek : nkeys ds with
    | none => rw [ek] at e; cases e
    | some ks =>
      rw [ek] at e
      cases e
      exact .tup h1 h2 h3 (nks_are I ds xs its ks ek ra rv)
  | .fl ds, _, _, _, e, _, _ => by rw [nkey] at e; all_goals first | cases e | (intros; nofun)
  | .ref a, _, _, _, e, _, _ => by rw [nkey] at e; all_goals first | cases e | (intros; nofun)
  | .ty a, _, _, _, e, _, _ => by rw [nkey] at e; all_goals first | cases e | (intros; nofun)
theorem nks_are (I : Inv X pins σ H s) : ∀ (ds : List D) (vs : List V) (us : List Value) (ks : List NestedKey), nkeys ds = some ks → RpL X.K H ds vs → Vals vs us → NestedAll s.heap ks us
  | [], vs, us, ks, e, r, q => by
    rw [rpl_nil.mp r] at q
    cases q
    rw [nkeys] at e
    cases e
    exact .nil
  | d :: ds, vs, us, ks, e, r, q => by
    obtain ⟨y, ys, rfl, r1, r2⟩ := rpl_cons.mp r
    cases q with
    | cons q1 q2 =>
      rw [nkeys] at e
      cases e1 : nkey d with
      | none => rw [e1] at e; cases e
      | some k1 =>
        cases e2 : nkeys ds with
        | none => rw [e1, e2] at e; cases e
        | some k2 =>
          rw [e1, e2] at e
          cases e
          exact .cons (nk_is I d _ _ k1 e1 r1 q1) (nks_are I ds _ _ k2 e2 r2 q2)
end
end
def keq (a b : D) : Bool := decide (nkey a = nkey b)
def dget (kvs : List (D × D)) (k : D) : Option D := (kvs.find? fun p => keq p.1 k).map (·.2)
def dput (kvs : List (D × D)) (k v : D) : List (D × D) := if (dget kvs k).isSome then kvs.map fun p => if keq p.1 k = true then (p.1, v) else p else kvs ++ [(k, v)]
def isTup : D → Bool
  | .tup _ => true
  | _ => false
def tupKeys (kvs : List (D × D)) : Bool := kvs.all fun p => isTup p.1
/-- a key that may stand in such a dict -/
def okKey (k : D) : Bool := isTup k && match nkey k with
  | some n => decide (n.depth ≤ 8)
  | none => false
abbrev NRel (K : PySem.W.Frag) (H : Hp) (p : D × D) (q : NestedKey × Addr × Value) : Prop := nkey p.1 = some q.1 ∧ q.1.depth ≤ 8 ∧ (∃ ds, p.1 = .tup ds) ∧ Rp K H p.1 (.ref q.2.1) ∧ ∃ v, RelV v q.2.2 ∧ Rp K H p.2 v
section
variable {K : PySem.W.Frag} {H : Hp}
theorem nr_get : ∀ {kvs : List (D × D)} {xs : List (NestedKey × Addr × Value)} {k : D} {n : NestedKey}, nkey k = some n → Paired (NRel K H) kvs xs →
    (dget kvs k = none ∧ atKey xs n = none) ∨ ∃ d p v, dget kvs k = some d ∧ atKey xs n = some p ∧ RelV v p.2 ∧ Rp K H d v
  | _, _, k, n, e, .nil => .inl ⟨rfl, rfl⟩
  | _, _, k, n, e, .cons (a := x) (b := y) (l₁ := l) (l₂ := m) r t => by
    by_cases h : y.1 = n
    · have hk : keq x.1 k = true := by
        unfold keq
        rw [r.1, e, h]
        exact decide_eq_true rfl
      refine .inr ?_
      obtain ⟨v, rv, rp⟩ := r.2.2.2.2
      refine ⟨x.2, y.2, v, ?_, ?_, rv, rp⟩
      · unfold dget
        rw [List.find?_cons_of_pos (p := fun p : D × D => keq p.1 k) hk]
        rfl
      · unfold atKey
        rw [List.find?_cons_of_pos (p := fun z : NestedKey × Addr × Value => decide (z.1 = n)) (decide_eq_true h)]
        rfl
    · have hk : ¬ keq x.1 k = true := by
        unfold keq
        rw [r.1, e]
        intro z
        exact h (Option.some.inj (of_decide_eq_true z))
      have e1 : dget (x :: l) k = dget l k := by
        unfold dget
        rw [List.find?_cons_of_neg (p := fun p : D × D => keq p.1 k) hk]
      have e2 : atKey (y :: m) n = atKey m n := by
        unfold atKey
        rw [List.find?_cons_of_neg (p := fun z : NestedKey × Addr × Value => decide (z.1 = n)) (by intro z; exact h (of_decide_eq_true z))]
      rw [e1, e2]
      exact nr_get e t
theorem nr_map {k v : D} {n : NestedKey} {u : Value} {vv : V} (e : nkey k = some n) (rv : RelV vv u) (rp : Rp K H v vv) : ∀ {kvs : List (D × D)} {xs : List (NestedKey × Addr × Value)}, Paired (NRel K H) kvs xs →
    Paired (NRel K H) (kvs.map fun p => if keq p.1 k = true then (p.1, v) else p) (xs.map (putAt n u))
  | _, _, .nil => .nil
  | _, _, .cons (a := x) (b := y) r t => by
    refine .cons ?_ (nr_map e rv rp t)
    unfold putAt
    by_cases h : y.1 = n
    · have hk : keq x.1 k = true := by
        unfold keq
        rw [r.1, e, h]
        exact decide_eq_true rfl
      dsimp only
      rw [if_pos hk, if_pos h]
      exact ⟨r.1, r.2.1, r.2.2.1, r.2.2.2.1, vv, rv, rp⟩
    · have hk : ¬ keq x.1 k = true := by
        unfold keq
        rw [r.1, e]
        intro z
        exact h (Option.some.inj (of_decide_eq_true z))
      dsimp only
      rw [if_neg hk, if_neg h]
      exact r
theorem nr_app {x : D × D} {y : NestedKey × Addr × Value} (r : NRel K H x y) : ∀ {kvs : List (D × D)} {xs : List (NestedKey × Addr × Value)}, Paired (NRel K H) kvs xs → Paired (NRel K H) (kvs ++ [x]) (xs ++ [y])
  | _, _, .nil => .cons r .nil
  | _, _, .cons q t => .cons q (nr_app r t)
theorem nr_put {k v : D} {n : NestedKey} {b : Addr} {u : Value} {vv : V} {ds : List D} (e : nkey k = some n) (hd : n.depth ≤ 8) (ek : k = .tup ds) (rk : Rp K H k (.ref b)) (rv : RelV vv u) (rp : Rp K H v vv) {kvs : List (D × D)} {xs : List (NestedKey × Addr × Value)} (h : Paired (NRel K H) kvs xs) :
    Paired (NRel K H) (dput kvs k v) (storedH xs n b u) := by
  unfold dput storedH
  rcases nr_get e h with ⟨h1, h2⟩ | ⟨d, p, w, h1, h2, _⟩
  · rw [h1, h2]
    exact nr_app (x := (k, v)) (y := (n, b, u)) ⟨e, hd, ⟨ds, ek⟩, rk, vv, rv, rp⟩ h
  · rw [h1, h2]
    exact nr_map e rv rp h
theorem nr_mem {x : NestedKey × Addr × Value} : ∀ {kvs : List (D × D)} {xs : List (NestedKey × Addr × Value)}, Paired (NRel K H) kvs xs → x ∈ xs → ∃ p, NRel K H p x
  | _, _, .nil, h => by cases h
  | _, _, .cons r t, h => by
    rcases List.mem_cons.mp h with rfl | h
    · exact ⟨_, r⟩
    · exact nr_mem t h
theorem nr_mono {H' : Hp} (k : Kp K H H') {kvs : List (D × D)} {xs : List (NestedKey × Addr × Value)} (h : Paired (NRel K H) kvs xs) : Paired (NRel K H') kvs xs :=
  paired_mono (fun p q h => ⟨h.1, h.2.1, h.2.2.1, h.2.2.2.1.mono k, h.2.2.2.2.elim fun v hv => ⟨v, hv.1, hv.2.mono k⟩⟩) h
end
theorem dput_len (kvs : List (D × D)) (k v : D) : (dput kvs k v).length ≤ kvs.length + 1 := by
  unfold dput
  split
  · rw [List.length_map]; omega
  · rw [List.length_append]; exact Nat.le_refl _
section
variable {X : Cx} {pins : List (Addr × Obj)} {σ : L2.St} {H : Hp} {s : Shared} {G : DG} {a : Addr} {kvs : List (D × D)}
/-- what stands in the heap for a dict of the store -/
theorem dn_of (I : Inv X pins σ H s) (w : Wld (bs X) G H) (e : G a = some (.dic kvs)) (ht : tupKeys kvs = true) :
    ∃ xs, s.heap.DictOfH (nestedKind X.prog X.w) a xs ∧ Paired (NRel X.K H) kvs xs ∧ (a == sysModules) = false ∧ Mut (H a) ∧ kvs.length ≤ sizeLine := by
  rcases w a _ e with ⟨ks, h1, h2⟩ | ⟨xs, h1, h2, h3, h4, h5⟩
  · cases h2 with
    | nil =>
      obtain ⟨_, hd, vs, rel, o, es, ep, q1, q2, q3, _, q4, _⟩ := dk_of I.hok h1
      cases rel
      have q5 : es.toList = [] := by
        generalize es.toList = l at q4
        cases q4
        rfl
      exact ⟨[], ⟨o, es, ep, q1, q2, q3, q5, fun _ hx => (nomatch hx), List.nodup_nil⟩, .nil, hd, by rw [h1]; exact True.intro, Nat.zero_le _⟩
    | cons r t =>
      rename_i x y l m
      have hx : isTup x.1 = true := (List.all_eq_true.mp ht) x List.mem_cons_self
      have q := r.1
      cases hx1 : x.1 with
      | tup ds => rw [hx1] at q; cases q
      | _ => rw [hx1] at hx; cases hx
  · obtain ⟨⟨o, es, ep, q1, q2, q3, q4⟩, _, _⟩ := (show ObjOk X.prog X.w H s.heap a (.ext (RawD (bs X) a xs)) from I.hok a _ h1)
    refine ⟨xs, ⟨o, es, ep, q1, q2, q3, q4, fun x hx => ?_, h4⟩, h5, h2, by rw [h1]; exact True.intro, h3⟩
    obtain ⟨p, r⟩ := nr_mem h5 hx
    exact ⟨nk_is I p.1 (.ref x.2.1) (.ref x.2.1) x.1 r.1 r.2.2.2.1 rfl, r.2.1⟩
theorem raw_new {B : Bs} {h' : Heap} {xs : List (NestedKey × Addr × Value)} {H' : Hp} (m : h'.DictOfH (nestedKind B.P B.w) a xs) : ObjOk B.P B.w H' h' a (.ext (RawD B a xs)) := by
  obtain ⟨o, es, ep, q1, q2, q3, q4, q5, q6⟩ := m
  refine ⟨⟨o, es, ep, q1, q2, q3, q4⟩, ⟨o, q1⟩, fun h1 h2 z k => ?_⟩
  obtain ⟨o', es', ep', z1, z2, z3, z4⟩ := z
  exact ⟨o', es', ep', k _ z1, z2, z3, z4⟩
/-- d[k] = v, or {.. k: v ..}: the store behind it -/
theorem dn_put {h' : Heap} {t' : Nat} {xs : List (NestedKey × Addr × Value)} {k v : D} {n : NestedKey} {b : Addr} {u : Value} {vv : V} (I : Inv X pins σ H s) (w : Wld (bs X) G H) (e : G a = some (.dic kvs)) (hp : Paired (NRel X.K H) kvs xs) (hs : (a == sysModules) = false) (mu : Mut (H a)) (hz : kvs.length < sizeLine)
    (ek : nkey k = some n) (hd : n.depth ≤ 8) (hk : isTup k = true) (rk : Rp X.K H k (.ref b)) (rv : RelV vv u) (rp : Rp X.K H v vv) (m : h'.DictOfH (nestedKind X.prog X.w) a (storedH xs n b u)) (sb : Heap.SameBut a s.heap h') :
    ∃ H', Inv X pins σ H' { s with heap := h', toks := t' } ∧ Wld (bs X) (G.upd a (.dic (dput kvs k v))) H' ∧ Fm G H (G.upd a (.dic (dput kvs k v))) H' := by
  refine ⟨L2.upd H a (.ext (RawD (bs X) a (storedH xs n b u))), d_write I mu sb (let ⟨q, _, _, hq, _⟩ := m; ⟨q, hq⟩) (raw_new (B := bs X) m), ?_, fm_set w e⟩
  refine wld_set (d := .dic (dput kvs k v)) w e (.inr ⟨storedH xs n b u, upd_same, hs, ?_, ?_, ?_⟩)
  · have := dput_len kvs k v
    omega
  · obtain ⟨_, _, _, _, _, _, _, _, q⟩ := m
    exact q
  · cases k with
    | tup ds => exact nr_mono (kp_set w e) (nr_put ek hd rfl rk rv rp hp)
    | _ => cases hk
end
theorem okKey_of {k : D} (h : okKey k = true) : isTup k = true ∧ ∃ n, nkey k = some n ∧ n.depth ≤ 8 := by
  unfold okKey at h
  rw [Bool.and_eq_true] at h
  refine ⟨h.1, ?_⟩
  have h2 := h.2
  cases e : nkey k with
  | none => rw [e] at h2; cases h2
  | some n => rw [e] at h2; exact ⟨n, rfl, of_decide_eq_true h2⟩
theorem tup_ref {K : PySem.W.Frag} {H : Hp} {k : D} {v : V} (h : isTup k = true) (r : Rp K H k v) : ∃ b, v = .ref b := by
  cases k with
  | tup ds => obtain ⟨a, _, e, _⟩ := rp_tup.mp r; exact ⟨a, e⟩
  | _ => cases h
/-! ### {}, d[k] = v -/
def dDict0 : DE := fun _ G Q => ∀ p, G p = none → Q (.ref p) (G.upd p (.dic []))
theorem pd_dict0 {X : Cx} {pos : Pos} : PD X (.Dict [] [] pos) dDict0 := ⟨_, pe_dnewK, fun ρ σ G H Q R s w h k p hp =>
  k _ _ _ _ (rp_ref.mpr rfl) (wld_new (d := .dic []) w hp (.inl ⟨[], upd_same, .nil⟩)) (fm_new hp) (h p (w.none hp))⟩
def setDD : RSD := fun o k v G Q => match o with
  | .ref a => ∃ kvs, G a = some (.dic kvs) ∧ tupKeys kvs = true ∧ okKey k = true ∧ kvs.length < sizeLine ∧ Q (G.upd a (.dic (dput kvs k v)))
  | _ => False
def lowSt (B : Bs) (rd : RSD) : TSet := fun o i v H R => ∃ d k x G Q, Rp B.K H d o ∧ Rp B.K H k i ∧ Rp B.K H x v ∧ Wld B G H ∧ rd d k x G Q ∧ ∀ G' H', Wld B G' H' → Fm G H G' H' → Q G' → R H'
theorem lowSt_lk {B : Bs} {rd : RSD} : LkSt B (lowSt B rd) rd := fun o i x vo vi vx G H Q R r1 r2 r3 w h k => ⟨o, i, x, G, Q, r1, r2, r3, w, h, k⟩
theorem room8 {k : Nat} {A : Around} (hr : Room k A) : A.in1.units + 8 < cLine := by
  have h := hr.units
  show A.units + 1 + 8 < cLine
  omega
theorem room8' {k : Nat} {A : Around} (hr : Room k A) : A.units + 8 < cLine := by
  have h := hr.units
  omega
theorem set_dic {X : Cx} {k : Nat} (hr : Room k X.A) : PSet X (lowSt (bs X) setDD) := by
  intro pins s σ H o i v ov iv u Q I ro ri rv h
  obtain ⟨d, k, x, G, Q', r1, r2, r3, w, h, kk⟩ := h
  cases d with
  | ref a =>
    obtain ⟨kvs, e, ht, hk, hz, q⟩ := h
    obtain ⟨hk1, n, en, hd⟩ := okKey_of hk
    rw [rp_ref.mp r1] at ro
    cases (show ov = Value.ref a from ro)
    obtain ⟨b, rfl⟩ := tup_ref hk1 r2
    cases (show iv = Value.ref b from ri)
    obtain ⟨xs, m, hp, hs, mu, hl⟩ := dn_of I w e ht
    have hxl : xs.length = kvs.length := (Paired.length hp).symm
    refine wpAny_setItem_heap (hsz := by omega) (room8 hr) (show (nestedKind X.prog X.w).is s.heap n b from ⟨nk_is I k _ _ n en r2 rfl, hd⟩) m fun h' m' sb => ?_
    obtain ⟨H', I', w', f'⟩ := dn_put (t' := s.toks + (nestedKind X.prog X.w).draws n) I w e hp hs mu hz en hd hk1 r2 rv r3 m' sb
    exact ⟨H', I', kk _ H' w' f' q⟩
  | _ => exact h.elim
theorem pdg_subD {X : Cx} {k : Nat} {pos : Pos} {o i : Expr} {te ti : DE} (hr : Room k X.A) (ho : PD X o te) (hi : PD X i ti)
    (ha : ∀ v, assign (.Subscript o i pos) X.env v = (do
      let ov ← holding [v] (eval o X.env)
      let iv ← holding [v, ov] (eval i X.env)
      standAt pos
      holding [v, ov, iv] (setItem ov iv v)
      release [v, ov, iv] []) := by intro _; rfl) : PDG X (.Subscript o i pos) (gsD te ti setDD) := pdg_sub ho hi (set_dic hr) lowSt_lk ha
/-! ### d[k] -/
def getDD : R2D := fun o k G Q => match o with
  | .ref a => ∃ kvs v, G a = some (.dic kvs) ∧ tupKeys kvs = true ∧ okKey k = true ∧ dget kvs k = some v ∧ Q v G
  | _ => False
def lowR (B : Bs) (rd : R2D) : R2 := fun x y H R => ∃ d e G Q, Rp B.K H d x ∧ Rp B.K H e y ∧ Wld B G H ∧ rd d e G Q ∧ Kt B G H Q R
theorem lowR_lk {B : Bs} {rd : R2D} : LkR B (lowR B rd) rd := fun x y v u G H Q R r1 r2 w h k => ⟨x, y, G, Q, r1, r2, w, h, k⟩
theorem sub_dict {X : Cx} {k : Nat} {o i : Expr} {pos : Pos} {td ty : TE} (hr : Room k X.A) (ho : PE X o td) (hi : PE X i ty) (hs : NoSl i) : PE X (.Subscript o i pos) (tOp (lowR (bs X) getDD) td ty) := by
  refine ⟨fun pins s σ H Q I h => ?_⟩
  refine subD_of PySem.F.slot_dict_getitem.lookup hs (thn (ho.run pins s σ H _ I h) fun u s1 ⟨x, H1, I1, rx, q1⟩ => thn (hi.run pins s1 σ H1 _ I1 q1) fun iv s2 ⟨y, H2, I2, ry, d, e, G, Q', r1, r2, w, h, kk⟩ => ?_)
  cases d with
  | ref a =>
    obtain ⟨kvs, v, eg, ht, hk, hv, q⟩ := h
    obtain ⟨hk1, n, en, hd⟩ := okKey_of hk
    rw [rp_ref.mp r1] at rx
    cases (show u = Value.ref a from rx)
    obtain ⟨b, rfl⟩ := tup_ref hk1 r2
    cases (show iv = Value.ref b from ry)
    obtain ⟨xs, m, hp, hs, mu, hl⟩ := dn_of I2 w eg ht
    rcases nr_get en hp with ⟨h1, h2⟩ | ⟨d', p, vv, h1, h2, rv, rp⟩
    · rw [hv] at h1; cases h1
    · rw [hv] at h1
      cases h1
      exact ⟨m.typeIs, wpAny_getItem_heap (room8 hr) (show (nestedKind X.prog X.w).is s2.heap n b from ⟨nk_is I2 e _ _ n en r2 rfl, hd⟩) m h2 ⟨vv, H2, I2.tok _, rv, kk _ _ G H2 rp w Fm.refl q⟩⟩
  | _ => exact h.elim
theorem pd_getD {X : Cx} {k : Nat} {o i : Expr} {pos : Pos} {td ty : DE} (hr : Room k X.A) (ho : PD X o td) (hi : PD X i ty) (hs : NoSl i := by intro _ _; rfl) : PD X (.Subscript o i pos) (dOp getDD td ty) := by
  obtain ⟨t0, p0, l0⟩ := ho
  obtain ⟨t1, p1, l1⟩ := hi
  exact ⟨_, sub_dict hr p0 p1 hs, lk_op lowR_lk l0 l1⟩
/-! ### list(d) -/
def listDD : RCD := fun ds G Q => match ds with
  | [.ref a] => (∃ xs, G a = some (.lst xs) ∧ ∀ p, G p = none → Q (.ref p) (G.upd p (.lst xs))) ∨ (∃ kvs, G a = some (.dic kvs) ∧ tupKeys kvs = true ∧ ∀ p, G p = none → Q (.ref p) (G.upd p (.lst (kvs.map (·.1)))))
  | ds => listD ds G Q
def lowCl (B : Bs) (rd : RCD) : List V → Hp → VK → Prop := fun vs H R => ∃ ds G Q, RpL B.K H ds vs ∧ Wld B G H ∧ rd ds G Q ∧ Kt B G H Q R
theorem lowCl_lk {B : Bs} {rd : RCD} : LkCl B (lowCl B rd) rd := fun ds vs G H Q R r w h k => ⟨ds, G, Q, r, w, h, k⟩
theorem nr_keys {K : PySem.W.Frag} {H : Hp} : ∀ {kvs : List (D × D)} {xs : List (NestedKey × Addr × Value)}, Paired (NRel K H) kvs xs → RpL K H (kvs.map (·.1)) (xs.map fun x => V.ref x.2.1)
  | _, _, .nil => RpL.nil
  | _, _, .cons r t => RpL.cons r.2.2.2.1 (nr_keys t)
theorem vals_at : ∀ {xs : List V} {us : List Value}, xs.length = us.length → (∀ (i : Nat) v, xs[i]? = some v → ∃ u, us[i]? = some u ∧ RelV v u) → Vals xs us
  | [], [], _, _ => .nil
  | x :: xs, u :: us, hl, h => by
    refine .cons ?_ (vals_at (Nat.succ.inj hl) fun i v hi => h (i + 1) v hi)
    obtain ⟨u', e, r⟩ := h 0 x rfl
    have e : u = u' := Option.some.inj e
    rw [e]
    exact r
theorem call_listDD {X : Cx} (hc : X.calm = true) : CallR X (.type "list") (lowCl (bs X) listDD) := by
  intro pins s σ H xs us Q I r h
  obtain ⟨ds, G, Q', rl, w, h, kk⟩ := h
  have old : ∀ ds, RpL X.K H ds xs → listD ds G Q' → wpAny (model X.prog X.w) X.A (call (.type "list") us) (EP X pins σ Q) X.xe s := fun ds rl h =>
    call_list_of pins s σ H xs us Q I r (lk_list (B := bs X) ds xs G H Q' Q rl w h kk)
  match ds, h with
  | [.ref a], h =>
    rcases h with h | ⟨kvs, e, ht, q⟩
    · exact old [.ref a] rl h
    · obtain ⟨v, rfl, rv⟩ := rl.one
      rw [rp_ref.mp rv] at r
      obtain ⟨u, rfl, ru⟩ := vals1 r
      cases (show u = Value.ref a from ru)
      obtain ⟨ys, m, hp, hs, mu, hl⟩ := dn_of I w e ht
      have hxl : ys.length = kvs.length := (Paired.length hp).symm
      obtain ⟨es, ep, raw, hsz, he⟩ := m.raw
      refine PySem.W.kdl_call (KdlSrc.rawDict hs) (I.ok.hd hc) raw (by omega) fun h' tk acc c hkeep hnew hits => ?_
      have hvals : Vals (ys.map fun x => V.ref x.2.1) acc.toList := by
        have el : acc.toList.length = acc.size := by simp
        refine vals_at (by rw [List.length_map, el, hits.1, hsz]) fun i v hi => ?_
        rw [List.getElem?_map] at hi
        cases ey : ys[i]? with
        | none => rw [ey] at hi; cases hi
        | some y =>
          rw [ey] at hi
          cases hi
          have hlt : i < ys.length := (List.getElem?_eq_some_iff.mp ey).1
          have hlt2 : i < acc.size := by rw [hits.1, hsz]; exact hlt
          refine ⟨acc[i], by rw [Array.getElem?_toList, Array.getElem?_eq_getElem hlt2], ?_⟩
          obtain ⟨hi2, ev⟩ := hits.2 i acc[i] (Array.getElem?_eq_getElem hlt2)
          obtain ⟨y', hy', k1, _⟩ := he i hi2
          rw [ey] at hy'
          cases hy'
          rw [ev, k1]
          rfl
      have hpn : H s.heap.objs.size = none := I.hok.fresh (Nat.le_refl _)
      have nr := nr_keys hp
      refine ⟨.ref s.heap.objs.size, L2.upd H s.heap.objs.size (.lst (ys.map fun x => V.ref x.2.1)), I.laid (t' := tk) hkeep (Nat.le_refl _) ⟨by rw [List.length_map]; omega, acc.toList, c, hvals, by rw [Array.toArray_toList]; exact hnew⟩, rfl, ?_⟩
      exact kk _ _ _ _ (rp_ref.mpr rfl) (wld_new (d := .lst (kvs.map (·.1))) w hpn ⟨_, upd_same, nr.mono (kp_new (B := bs X) hpn)⟩) (fm_new hpn) (q _ (w.none hpn))
  | [], h => exact old [] rl h
  | [.non], h => exact old _ rl h
  | [.bl _], h => exact old _ rl h
  | [.int _], h => exact old _ rl h
  | [.str _], h => exact old _ rl h
  | [.tup _], h => exact old _ rl h
  | [.fl _], h => exact old _ rl h
  | [.ty _], h => exact old _ rl h
  | x :: y :: t, h => cases x <;> exact old _ rl h
end FD

/-! FD7: dict comprehensions whose keys are tuples. -/
namespace FD
open PySem PySem.Spec PyProof.Rows L2
/-- a store into the dict at a, which nobody else sees yet -/
def rDs (B : Bs) (a : Addr) (y z : V) (H : Hp) (Q : Hp → Prop) : Prop := ∃ k v kvs, Rp B.K H k y ∧ Rp B.K H v z ∧ OkO B H a (.dic kvs) ∧ (tupKeys kvs = true ∧ okKey k = true ∧ kvs.length < sizeLine) ∧
  ∀ H', OkO B H' a (.dic (dput kvs k v)) → (∀ b, b ≠ a → H' b = H b) → Q H'
theorem ds_run {X : Cx} {pins : List (Addr × Obj)} {σ : L2.St} {H : Hp} {s : Shared} {E : Value → Shared → Prop} {a : Addr} {y z : V} {u r : Value} {n : Nat} {Q : Hp → Prop} {P : Unit → Shared → Prop} (hr : Room n X.A) (I : Inv X pins σ H s) (ry : RelV y u) (rz : RelV z r)
    (h : rDs (bs X) a y z H Q) (fin : ∀ s' H', Inv X pins σ H' s' → Q H' → P () s') : wpAny (model X.prog X.w) X.A (dictSet a u r) P E s := by
  obtain ⟨k, v, kvs, r1, r2, ok, ⟨ht, hk, hz⟩, q⟩ := h
  obtain ⟨hk1, n, en, hd⟩ := okKey_of hk
  obtain ⟨b, rfl⟩ := tup_ref hk1 r1
  cases (show u = Value.ref b from ry)
  have w : Wld (bs X) (fun c => if c = a then some (.dic kvs) else none) H := fun c o e => by
    have e : (if c = a then some (DO.dic kvs) else none) = some o := e
    by_cases hc : c = a
    · subst hc
      rw [if_pos rfl] at e
      cases e
      exact ok
    · rw [if_neg hc] at e
      cases e
  have e : (fun c => if c = a then some (DO.dic kvs) else none) a = some (.dic kvs) := if_pos rfl
  obtain ⟨xs, m, hp, hs, mu, hl⟩ := dn_of I w e ht
  have hxl : xs.length = kvs.length := (Paired.length hp).symm
  refine wpAny_dictSet_heap (hsz := by omega) (room8' hr) (show (nestedKind X.prog X.w).is s.heap n b from ⟨nk_is I k _ _ n en r1 rfl, hd⟩) m fun h' m' sb => ?_
  refine fin _ _ (d_write (t' := s.toks + (nestedKind X.prog X.w).draws n) (ob := .ext (RawD (bs X) a (storedH xs n b r))) I mu sb (let ⟨q, _, _, hq, _⟩ := m'; ⟨q, hq⟩) (raw_new (B := bs X) m')) (q _ ?_ fun c hc => upd_ne hc)
  have w2 := wld_set (o := .ext (RawD (bs X) a (storedH xs n b r))) (d := .dic (dput kvs k v)) w e (.inr ⟨storedH xs n b r, upd_same, hs, by have := dput_len kvs k v; omega, (let ⟨_, _, _, _, _, _, _, _, q⟩ := m'; q), by
    cases k with
    | tup ds => exact nr_mono (kp_set w e) (nr_put en hd rfl r1 rz r2 hp)
    | _ => cases hk1⟩)
  exact w2 a _ gupd_same
section
variable {X : Cx}
/-- {k: v for target in iter if ..} -/
def tDn (B : Bs) (wi : TI) (g : TG) (tt : TT) (tk tv : TE) (vs : List Nat) : TE := fun σ H Q => wi σ H fun J H1 => ∀ a, H1 a = none → ∃ W : Nat → Nat → Hp → Prop, (∃ m, W 0 m (L2.upd H1 a (.dK []))) ∧ ∀ i m H, W i m H →
  (J.stop i H ∧ Q (.ref a) H) ∨ (J.go i H ∧ ∃ Nx : Hp → Prop, (∀ H', Nx H' → ∃ m', m' < m ∧ W (i + 1) m' H') ∧ ∀ x H', J.yld i H x H' → g x (wipe σ vs) H' fun σ2 H2 => wipe σ2 vs = wipe σ vs ∧ tt σ2 H2 fun b H3 =>
    if b = true then tk σ2 H3 fun y H4 => tv σ2 H4 fun z H5 => rDs B a y z H5 Nx else Nx H3)
theorem pe_dn {n : Nat} {kx vx tg iter : Expr} {ifs : List Expr} {scope : Scope} {own : List (Str × Nat)} {pos : Pos} {wi : TI} {g : TG} {tt : TT} {tk tv : TE} (hr : Room n X.A) (hc : X.calm = true) (hN : X.N.Nodup) (hi : PI X tg iter wi) (ok : BlkOk X.N X.env.scope scope own)
    (hg : ∀ (s : Shared) (H : Hp) (C : Addr) (cl : List (Str × Addr)) (fp : List Addr), PG (X.blk s H scope (compEnvC scope cl C X.env) fp) tg g)
    (ht : ∀ (s : Shared) (H : Hp) (C : Addr) (cl : List (Str × Addr)) (fp : List Addr), PTs (X.blk s H scope (compEnvC scope cl C X.env) fp) ifs tt)
    (hk : ∀ (s : Shared) (H : Hp) (C : Addr) (cl : List (Str × Addr)) (fp : List Addr), PE (X.blk s H scope (compEnvC scope cl C X.env) fp) kx tk)
    (he : ∀ (s : Shared) (H : Hp) (C : Addr) (cl : List (Str × Addr)) (fp : List Addr), PE (X.blk s H scope (compEnvC scope cl C X.env) fp) vx tv) (hs : ∀ x, foldedSetIterable iter X.env x = pure x := by intro _; rfl) :
    PE X (.DictComp kx vx [⟨tg, iter, ifs, 0⟩] scope pos) (tDn (bs X) wi g tt tk tv (own.map (·.2))) := by
  refine ⟨fun pins s σ H Q I h => ?_⟩
  rw [arm_eval_DictComp]
  have hfree : ∀ y ∈ scope.names, y.2 = .free → ∃ c, X.env.cells.lookup y.1 = some c := fun y hy e => (ok.free y hy e).elim (fun k => I.ok.has _ (.inl k)) fun k => I.ok.has _ (.inr k)
  refine wpAny_comprehension_free (use := none) rfl hs (closure_ok hfree) ok.kind (fun y hy e => by rw [ok.uniq y hy, e]) (thn (hi.run pins s σ H _ I h) fun xv s1 hx => thn hx fun itv s2 h2 => ?_)
  obtain ⟨it, fp, tn, J, H2, e, I2, T, st2, f2, q⟩ := h2
  subst e
  refine wpAny_newObj_type (newEnv_comp ?_)
  generalize hD : s2.heap.objs.size = a
  have hDn : H2 a = none := I2.hok.fresh (Nat.le_of_eq hD)
  obtain ⟨W, ⟨m0, w0⟩, turn⟩ := q a hDn
  generalize hs3 : ({ s2 with heap := s2.heap.push { cls := .type "dict", data := .dict #[] } } : Shared) = s3
  have I3 : Inv X pins σ (L2.upd H2 a (.dK [])) s3 := by
    rw [← hs3, ← hD]
    exact I2.laid (t' := s2.toks) (fun b o e => Heap.get?_push_of_some _ e) (Nat.le_refl _) (dk_empty s2.heap I2.big)
  have h3 : s3.heap = s2.heap.push { cls := .type "dict", data := .dict #[] } := by rw [← hs3]
  have f3 : ∀ b ∈ fp, FpOk X pins (L2.upd H2 a (.dK [])) b ∧ b < s3.heap.objs.size := fun b hb => by
    obtain ⟨o, e, _⟩ := T.obj _ _ st2 b hb
    have hlt : b < s2.heap.objs.size := Heap.lt_size e
    refine ⟨⟨?_, (f2 b hb).2⟩, by rw [h3, Heap.size_push]; exact Nat.lt_succ_of_lt hlt⟩
    rw [upd_ne (by rw [← hD]; exact Nat.ne_of_lt hlt)]
    exact (f2 b hb).1
  have st3 : tn 0 s3.heap := T.keep _ _ _ st2 fun b _ o e => by rw [h3]; exact Heap.get?_push_of_some _ e
  have I4 := block_start I3 ok hN f3
  generalize hcl : cellsFrom (s3.heap.objs.size + 1) scope.names (cloFrom X.env.cells scope.names []) = cl at I4
  have pg := hg s3 (L2.upd H2 a (.dK [])) s3.heap.objs.size cl fp
  have pt := ht s3 (L2.upd H2 a (.dK [])) s3.heap.objs.size cl fp
  have pk := hk s3 (L2.upd H2 a (.dK [])) s3.heap.objs.size cl fp
  have pe := he s3 (L2.upd H2 a (.dK [])) s3.heap.objs.size cl fp
  have nfp : ∀ b ∈ fp, (L2.upd H2 a (.dK [])) b = none := fun b hb => (f3 b hb).1.1
  show codeAny _ _ (.compStart (.DictComp kx vx [⟨tg, iter, ifs, 0⟩] scope pos) 0 (.ref it) (.ref a) (compEnvC scope cl s3.heap.objs.size X.env)) (compPost (model X.prog X.w) X.A X.xe none (EP X pins σ Q) (.ref a) s3.heap.objs.size) { s3 with heap := pushCells (s3.heap.push { cls := .type "dict", data := .dict #[] }) scope.names }
  generalize hce : compEnvC scope cl s3.heap.objs.size X.env = ce at I4 pg pt pk pe ⊢
  have cL : ce.locals = s3.heap.objs.size := by subst hce; rfl
  generalize hH3 : L2.upd H2 a (.dK []) = H3 at I3 I4 pg pt pk pe w0 nfp f3
  generalize hs4 : ({ s3 with heap := pushCells (s3.heap.push { cls := .type "dict", data := .dict #[] }) scope.names } : Shared) = s4 at I4 ⊢
  have st4 : tn 0 s4.heap := T.keep _ _ _ st3 fun b _ o e => by rw [← hs4]; exact pushCells_keeps _ _ _ _ (Heap.get?_push_of_some _ e)
  have stat : ∀ {σ' : L2.St} {H' : Hp} {s' : Shared}, Inv (X.blk s3 H3 scope ce fp) [] σ' H' s' → (∀ b ∈ fp, H' b = none) → ∀ b ∈ fp, FpOk (X.blk s3 H3 scope ce fp) [] H' b := fun {σ' H' s'} I' hn b hb =>
    ⟨hn b hb, (I'.ok.exf b hb).1, I'.ok.exfs b hb, .inl hb, fun x c e => (I'.ok.exf b hb).2 x c e, fun p hp => absurd (show p ∈ ([] : List (Addr × Obj)) ++ [] from hp) (by simp)⟩
  have loop : codeAny (model X.prog X.w) X.A (.compLoop (.DictComp kx vx [⟨tg, iter, ifs, 0⟩] scope pos) 0 (.ref it) (.ref a) ce) (compPost (model X.prog X.w) X.A X.xe none (EP X pins σ Q) (.ref a) s3.heap.objs.size) s4 := by
    refine compLoop_anyD (fun n s' => ∃ i H', Inv (X.blk s3 H3 scope ce fp) [] (wipe σ (own.map (·.2))) H' s' ∧ tn i s'.heap ∧ (∀ b ∈ fp, H' b = none) ∧ W i n H') ?_ m0 ⟨0, H3, I4, st4, nfp, w0⟩
    rintro n s5 ⟨i, H5, I5, st5, n5, w5⟩
    rcases turn i n H5 w5 with ⟨stop, qq⟩ | ⟨go, Nx, hNx, step⟩
    · refine thnF (T.done (X.blk s3 H3 scope ce fp) rfl rfl rfl hc i [] s5 _ H5 (fun _ _ => False) I5 (stat I5 n5) st5 stop) fun r s6 ⟨hr, I6⟩ => ?_
      subst hr
      have I7 : Inv X pins σ H5 s6 := I3.call' (ch := fp) I6.os I6.base I6.hok I6.bare fun b hb => ⟨(f3 b hb).1.2.2.2.1, (f3 b hb).1.2.1, (f3 b hb).1.2.2.2.2.1, (f3 b hb).1.2.2.2.2.2⟩
      have nC : H5 s3.heap.objs.size = none := by
        have z : H5 ce.locals = none := I6.free
        rw [cL] at z
        exact z
      obtain ⟨m, hn, _⟩ := I6.loc
      have hn : s6.heap.Ns ce.locals m := hn
      rw [cL] at hn
      obtain ⟨g0, g1, g2, g3, g4, g5⟩ := I3.fpOk (Nat.le_refl _) nC
      exact ⟨m, hn, fun h'' sb => ⟨.ref a, H5, I7.turned (t' := s6.toks) (fun b o hb e => (sb.2 b hb).trans e) g0 g1 g3 g4 g5, rfl, qq⟩⟩
    · refine thnF (T.item (X.blk s3 H3 scope ce fp) rfl rfl rfl hc i [] s5 _ H5 (fun _ _ => False) I5 (stat I5 n5) st5 go) fun r s6 ⟨u, hr, h6⟩ => ?_
      subst hr
      refine thnF h6 fun _ s7 ⟨x, H7, I7, r7, y7, st7, n7⟩ => ?_
      have I7' := I7.pinned (stat I7 n7) (T.obj _ _ st7)
      refine thnF (pg.run _ s7 _ H7 x u _ I7' r7 (step x H7 y7)) fun _ s8 ⟨σ8, H8, I8, hw8, q8⟩ => ?_
      refine thnF (pt.run _ s8 σ8 H8 _ I8 q8) fun b s9 ⟨H9, I9, q9⟩ => ?_
      have fin : ∀ {s' : Shared} {H' : Hp}, Inv (X.blk s3 H3 scope ce fp) ([] ++ pinsAt fp s7.heap) σ8 H' s' → Nx H' → ∃ m, m < n ∧ ∃ i H', Inv (X.blk s3 H3 scope ce fp) [] (wipe σ (own.map (·.2))) H' s' ∧ tn i s'.heap ∧ (∀ b ∈ fp, H' b = none) ∧ W i m H' := fun {s' H'} I' nx => by
        obtain ⟨m', hm, w'⟩ := hNx H' nx
        have pin' : ∀ b ∈ fp, ∀ o, s7.heap.get? b = some o → s'.heap.get? b = some o ∧ H' b = none := fun b hb o e =>
          let z := I'.pin (b, o) (List.mem_append_right _ (List.mem_append_right _ (mem_pinsAt hb e)))
          ⟨z.1, z.2.1⟩
        have hl : (wipe σ (own.map (·.2))).length = σ8.length := by rw [← hw8, wipe_length]
        refine ⟨m', hm, i + 1, H', (I'.unpinned (pins := [])).weak hl (fun j v e => ?_), T.keep _ _ _ st7 fun b hb o e => (pin' b hb o e).1, fun b hb => ?_, w'⟩
        · rw [← hw8] at e
          exact (wipe_some e).1
        · obtain ⟨o, e, _⟩ := T.obj _ _ st7 b hb
          exact (pin' b hb o e).2
      cases b with
      | false =>
        simp only [Bool.false_eq_true, if_false] at q9 ⊢
        exact fin I9 q9
      | true =>
        simp only [if_true] at q9 ⊢
        refine thnF (pk.run _ s9 σ8 H9 _ I9 q9) fun z s10 ⟨yk, H10, I10, r10, q10⟩ => ?_
        refine thnF (pe.run _ s10 σ8 H10 _ I10 q10) fun z2 s11 ⟨yv, H11, I11, r11, q11⟩ => ?_
        exact ds_run (X := X.blk s3 H3 scope ce fp) hr I11 r10 r11 q11 fun s12 H12 I12 nx => fin I12 nx
  exact codeAny_compStart_dict loop (T.self X.A 0 _ _ _ st4 loop)
end
/-! ### the reading -/
def dcGo (chk : DG → Prop) (g : DGt) (tt : DT) (tk tv : DE) (ρ : DSt) (fin : List (D × D) → DG → Prop) : List D → List (D × D) → DG → Prop
  | [], kvs, G => chk G ∧ fin kvs G
  | d :: ds, kvs, G => chk G ∧ g d ρ G fun ρ2 G2 => tt ρ2 G2 fun b G3 => if b = true then tk ρ2 G3 fun k G4 => tv ρ2 G4 fun v G5 => (tupKeys kvs = true ∧ okKey k = true ∧ kvs.length < sizeLine) ∧ dcGo chk g tt tk tv ρ fin ds (dput kvs k v) G5 else dcGo chk g tt tk tv ρ fin ds kvs G3
def dDn (di : DI) (g : DGt) (tt : DT) (tk tv : DE) (vs : List Nat) : DE := fun ρ G Q => di ρ G fun it G1 => dcGo it.chk g tt tk tv (wipeD ρ vs) (fun kvs G' => ∀ p, G' p = none → Q (.ref p) (G'.upd p (.dic kvs))) it.items [] G1
theorem lk_dn {B : Bs} {wi : TI} {di : DI} {g : TG} {dg : DGt} {tt : TT} {dt : DT} {tk tv : TE} {dk dv : DE} {vs : List Nat} (hi : LkI B wi di) (hg : LkC B vs g dg) (ht : LkT B tt dt) (hk : LkE B tk dk) (he : LkE B tv dv) : LkE B (tDn B wi g tt tk tv vs) (dDn di dg dt dk dv vs) := fun ρ σ G H Q R s w h k => by
  refine hi ρ σ G H _ _ s w h fun it J G1 H1 w1 f1 ok q1 => fun Dl hD => ?_
  have kp1 := f1.kp w
  have s1 := (s.mono kp1).wipe vs
  have hG1 : G1 Dl = none := w1.none hD
  refine ⟨fun i m H' => ∃ kvs G', m = it.items.length - i ∧ i ≤ it.items.length ∧ OkO B H' Dl (.dic kvs) ∧ G' Dl = none ∧ Wld B G' H' ∧ Fm G1 H1 G' H' ∧ dcGo it.chk dg dt dk dv (wipeD ρ vs) (fun kvs G' => ∀ p, G' p = none → Q (.ref p) (G'.upd p (.dic kvs))) (it.items.drop i) kvs G',
    ⟨_, [], G1, rfl, Nat.zero_le _, .inl ⟨[], upd_same, .nil⟩, hG1, wld_hid w1 hD, fm_hid hD, q1⟩, ?_⟩
  rintro i m H' ⟨kvs, G', rfl, hi, ox, hn, w', f', q⟩
  have kp' : Kp B.K H1 H' := f'.kp w1
  obtain ⟨u0, hx, nt, nf⟩ := OkO.live ox
  cases e : it.items.drop i with
  | nil =>
    rw [e] at q
    obtain ⟨c, q⟩ := q
    refine .inl ⟨(ok i G' H' w' kp' c).2 (drop_nil e hi), ?_⟩
    refine k _ _ (G'.upd Dl (.dic kvs)) H' (rp_ref.mpr rfl) (fun a o ha => ?_) (f1.trans fun a o ha na => ?_) (q Dl hn)
    · by_cases hd : a = Dl
      · subst hd
        rw [gupd_same] at ha; cases ha
        exact ox
      · rw [gupd_ne hd] at ha
        exact w' a o ha
    · have hd := ne_of_none ha hD
      rw [gupd_ne hd]
      exact f' a o ha na
  | cons d ds =>
    rw [e] at q
    obtain ⟨c, q⟩ := q
    obtain ⟨e1, e2⟩ := drop_get e
    obtain ⟨go, yl⟩ := (ok i G' H' w' kp' c).1 d e1
    have hlt : i < it.items.length := (List.getElem?_eq_some_iff.mp e1).1
    refine .inr ⟨go, fun H2 => ∃ kvs G2, OkO B H2 Dl (.dic kvs) ∧ G2 Dl = none ∧ Wld B G2 H2 ∧ Fm G1 H1 G2 H2 ∧ dcGo it.chk dg dt dk dv (wipeD ρ vs) (fun kvs G' => ∀ p, G' p = none → Q (.ref p) (G'.upd p (.dic kvs))) ds kvs G2, fun H2 q2 => ?_, fun x H2 hy => ?_⟩
    · obtain ⟨kvs2, G2, a1, a3, a4, a5, a6⟩ := q2
      exact ⟨it.items.length - (i + 1), by omega, kvs2, G2, rfl, hlt, a1, a3, a4, a5, by rw [e2]; exact a6⟩
    · obtain ⟨w2, f2, r2⟩ := yl x H2 hy
      have kp2 : Kp B.K H1 H2 := kp'.trans (f2.kp w')
      refine hg d x (wipeD ρ vs) (L2.wipe σ vs) G' H2 _ _ r2 (s1.mono kp2) w2 q fun ρ3 σ3 G3 H3 e3 s3 w3 f3 q3 => ⟨e3.trans (wipe_wipe σ vs), ?_⟩
      refine ht ρ3 σ3 G3 H3 _ _ s3 w3 q3 fun b G4 H4 w4 f4 q4 => ?_
      have f04 : Fm G' H' G4 H4 := f2.trans (f3.trans f4)
      cases b with
      | false =>
        obtain ⟨hx4, hn4⟩ := f04 Dl _ hx hn
        exact ⟨kvs, G4, ox.mono (f04.kp w') (fun u z => by rw [hx] at z; cases z; exact hx4), hn4, w4, f'.trans f04, q4⟩
      | true =>
        refine hk ρ3 σ3 G4 H4 _ _ (s3.mono (f4.kp w3)) w4 q4 fun y v G5 H5 r5 w5 f5 q5 => ?_
        refine he ρ3 σ3 G5 H5 _ _ (s3.mono ((f4.trans f5).kp w3)) w5 q5 fun z u G6 H6 r6 w6 f6 q6 => ?_
        have f06 : Fm G' H' G6 H6 := f04.trans (f5.trans f6)
        obtain ⟨hx6, hn6⟩ := f06 Dl _ hx hn
        have ox6 : OkO B H6 Dl (.dic kvs) := ox.mono (f06.kp w') (fun u z => by rw [hx] at z; cases z; exact hx6)
        refine ⟨y, z, kvs, r5.mono (f6.kp w5), r6, ox6, q6.1, fun H7 ok7 same => ?_⟩
        have kpn : Kp B.K H6 H7 := by
          refine ⟨fun a ys z => ?_, fun a ys z => ?_⟩
          · rcases z with (z | ⟨ob, z⟩) | z
            · exact .inl (.inl (by rw [same a (ne_of z hx6 (nt _).symm)]; exact z))
            · exact .inl (.inr ⟨ob, by rw [same a (ne_of z hx6 (nf _ _).symm)]; exact z⟩)
            · exact .inr z
          · rcases z with ⟨ob, z⟩ | z
            · exact .inl ⟨ob, by rw [same a (ne_of z hx6 (nf _ _).symm)]; exact z⟩
            · exact .inr z
        refine ⟨dput kvs y z, G6, ok7, hn6, fun a o ha => ?_, fun a o ha na => ?_, q6.2⟩
        · have hd : a ≠ Dl := fun z => by rw [z, hn6] at ha; cases ha
          exact (w6 a o ha).mono kpn fun u z => by rw [same a hd]; exact z
        · have hd := ne_of_none ha hD
          rw [same a hd]
          exact (f'.trans f06) a o ha na
theorem pd_dn {X : Cx} {n : Nat} {kx vx tg iter : Expr} {ifs : List Expr} {scope : Scope} {own : List (Str × Nat)} {pos : Pos} {di : DI} {g : DGt} {tt : DT} {tk tv : DE} (hr : Room n X.A) (hc : X.calm = true) (hN : X.N.Nodup) (hi : PDI X tg iter di) (ok : BlkOk X.N X.env.scope scope own)
    (hg : ∀ (s : Shared) (H : Hp) (C : Addr) (cl : List (Str × Addr)) (fp : List Addr), PDC (X.blk s H scope (compEnvC scope cl C X.env) fp) (own.map (·.2)) tg g)
    (ht : ∀ (s : Shared) (H : Hp) (C : Addr) (cl : List (Str × Addr)) (fp : List Addr), PDTs (X.blk s H scope (compEnvC scope cl C X.env) fp) ifs tt)
    (hk : ∀ (s : Shared) (H : Hp) (C : Addr) (cl : List (Str × Addr)) (fp : List Addr), PD (X.blk s H scope (compEnvC scope cl C X.env) fp) kx tk)
    (he : ∀ (s : Shared) (H : Hp) (C : Addr) (cl : List (Str × Addr)) (fp : List Addr), PD (X.blk s H scope (compEnvC scope cl C X.env) fp) vx tv)
    (hs : ∀ x, foldedSetIterable iter X.env x = pure x := by intro _; rfl) :
    PD X (.DictComp kx vx [⟨tg, iter, ifs, 0⟩] scope pos) (dDn di g tt tk tv (own.map (·.2))) := by
  obtain ⟨wi, pi, li⟩ := hi
  exact ⟨_, pe_dn (g := lowC (bs X) (own.map fun (p : Str × Nat) => p.2) g) (tt := lowT (bs X) tt) (tk := lowE (bs X) tk) (tv := lowE (bs X) tv) hr hc hN pi ok (fun s H C cl fp => (hg s H C cl fp).low) (fun s H C cl fp => (ht s H C cl fp).low) (fun s H C cl fp => (hk s H C cl fp).low) (fun s H C cl fp => (he s H C cl fp).low) hs, lk_dn li lowC_lk lowT_lk lowE_lk lowE_lk⟩
end FD

/-! FD8: sorted(xs), sorted(xs, key=f) of data, f a def of the text. -/
namespace FD
open PySem PySem.Spec PyProof.Rows L2
mutual
def toPy : D → PyData
  | .non => .none
  | .bl b => .bool b
  | .int i => .int i
  | .str x => .str x
  | .tup ds => .tuple (toPys ds)
  | .fl ds => .list (toPys ds)
  | .ref _ => .none
  | .ty _ => .none
def toPys : List D → List PyData
  | [] => []
  | d :: ds => toPy d :: toPys ds
end
mutual
/-- data that nobody changes -/
def imm : D → Bool
  | .tup ds => imms ds
  | .fl ds => imms ds
  | .ref _ => false
  | .ty _ => false
  | _ => true
def imms : List D → Bool
  | [] => true
  | d :: ds => imm d && imms ds
end
theorem toPys_map : ∀ ds : List D, toPys ds = ds.map toPy
  | [] => by rw [toPys]; rfl
  | d :: ds => by rw [toPys, toPys_map ds]; rfl
mutual
theorem imm_py (G : DG) : ∀ {d : D}, imm d = true → Py G d (toPy d)
  | .non, _ => by rw [toPy]; exact .non
  | .bl b, _ => by rw [toPy]; exact .bl b
  | .int i, _ => by rw [toPy]; exact .int i
  | .str x, _ => by rw [toPy]; exact .str x
  | .tup ds, h => by rw [toPy]; rw [imm] at h; exact .tup (imms_py G h)
  | .fl ds, h => by rw [toPy]; rw [imm] at h; exact .fl (imms_py G h)
  | .ref _, h => by rw [imm] at h; cases h
  | .ty _, h => by rw [imm] at h; cases h
theorem imms_py (G : DG) : ∀ {ds : List D}, imms ds = true → PyA G ds (toPys ds)
  | [], _ => by rw [toPys]; exact .nil
  | d :: ds, h => by
    rw [toPys]
    rw [imms, Bool.and_eq_true] at h
    exact .cons (imm_py G h.1) (imms_py G h.2)
end
theorem imms_mem : ∀ {ds : List D}, imms ds = true → ∀ d ∈ ds, imm d = true
  | d :: ds, h, x, hx => by
    rw [imms, Bool.and_eq_true] at h
    rcases List.mem_cons.mp hx with rfl | hx
    · exact h.1
    · exact imms_mem h.2 x hx
/-- what sorting asks of the keys -/
structure SortOk (ks : List D) : Prop where
  im : imms ks = true
  al : PySem.W.AllAlike (ks.map toPy)
  so : PySem.W.Sortable (ks.map toPy)
  dp : ∀ k ∈ ks, (toPy k).depth ≤ 60
def srt (ks : List D) : List D := ks.mergeSort (PySem.W.dataLe false toPy)
/-- xs in the order of the keys ks -/
def srtBy (xs ks : List D) : List D := ((xs.zip ks).mergeSort (PySem.W.dataLe false fun p => toPy p.2)).map (·.1)
theorem each_rel {K : PySem.W.Frag} {H : Hp} : ∀ {ds : List D} {xs : List V} {us : List Value}, RpL K H ds xs → Vals xs us → PySem.W.EachIs (fun u (p : D × V) => RelV p.2 u ∧ Rp K H p.1 p.2) us (ds.zip xs)
  | [], _, _, r, v => by rw [rpl_nil.mp r] at v; cases v; exact .nil
  | d :: ds, _, _, r, v => by
    obtain ⟨y, ys, rfl, r1, r2⟩ := rpl_cons.mp r
    cases v with
    | cons v1 v2 => exact .cons ⟨v1, r1⟩ (each_rel r2 v2)
theorem each_imm {K : PySem.W.Frag} {H : Hp} : ∀ {us : List Value} {ds : List D} {xs : List V}, imms ds = true → PySem.W.EachIs (fun u (p : D × V) => RelV p.2 u ∧ Rp K H p.1 p.2) us (ds.zip xs) → PySem.W.EachIs (fun u (p : D × V) => imm p.1 = true ∧ RelV p.2 u ∧ Rp K H p.1 p.2) us (ds.zip xs)
  | us, [], _, _, h => by cases h; exact .nil
  | us, _ :: _, [], _, h => by cases h; exact .nil
  | us, d :: ds, x :: xs, i, h => by
    rw [imms, Bool.and_eq_true] at i
    cases h with
    | cons h t => exact .cons ⟨i.1, h⟩ (each_imm i.2 t)
theorem each_back {K : PySem.W.Frag} {H : Hp} : ∀ {us : List Value} {ps : List (D × V)}, PySem.W.EachIs (fun u (p : D × V) => RelV p.2 u ∧ Rp K H p.1 p.2) us ps → RpL K H (ps.map (·.1)) (ps.map (·.2)) ∧ Vals (ps.map (·.2)) us
  | _, _, .nil => ⟨RpL.nil, .nil⟩
  | _, _, .cons h t => by
    obtain ⟨r, v⟩ := each_back t
    exact ⟨RpL.cons h.2 r, .cons h.1 v⟩
theorem zip_fst {α β : Type} : ∀ {l : List α} {m : List β}, l.length = m.length → (l.zip m).map (·.1) = l
  | [], [], _ => rfl
  | a :: l, b :: m, h => by
    show a :: (l.zip m).map (·.1) = a :: l
    rw [zip_fst (Nat.succ.inj h)]
section
variable {X : Cx} {pins : List (Addr × Obj)} {σ : L2.St} {H : Hp} {s : Shared} {G : DG}
theorem reads_of (I : Inv X pins σ H s) (w : Wld (bs X) G H) {d : D} {v : V} {u : Value} (h : imm d = true) (r : Rp X.K H d v) (q : RelV v u) : ∃ as, Reads s.heap u (toPy d) as := Dp.reads I _ v u (py_dp w (imm_py G h) r) q
/-! ### sorted(xs) -/
def sortedD : RCD := fun ds G Q => match ds with
  | [.ref a] => ∃ xs, G a = some (.lst xs) ∧ SortOk xs ∧ ∀ p, G p = none → Q (.ref p) (G.upd p (.lst (srt xs)))
  | _ => False
theorem srt_zip {xs : List D} {vs : List V} (h : xs.length = vs.length) : ((xs.zip vs).mergeSort (PySem.W.dataLe false fun p => toPy p.1)).map (·.1) = srt xs := by
  have e := PySem.W.sort_maps (r := PySem.W.dataLe false fun p : D × V => toPy p.1) (s := PySem.W.dataLe false toPy) (fun p : D × V => p.1) (l := xs.zip vs) (fun a _ b _ => rfl)
  rw [e, zip_fst h]
  rfl
end
theorem call_sortedD {X : Cx} {n : Nat} (hr : Room n X.A) : CallR X (.builtin "sorted") (lowCl (bs X) sortedD) := by
  intro pins s σ H xs us Q I r h
  obtain ⟨ds, G, Q', rl, w, h, kk⟩ := h
  match ds, h with
  | [.ref a], h =>
    obtain ⟨ys, e, so, q⟩ := h
    obtain ⟨v, rfl, rv⟩ := rl.one
    rw [rp_ref.mp rv] at r
    obtain ⟨u, rfl, ru⟩ := vals1 r
    cases (show u = Value.ref a from ru)
    obtain ⟨vs, e2, ry⟩ := w a _ e
    obtain ⟨its, rvs, pl, hz⟩ := I.list (SqL.of e2)
    have hlen : ys.length = vs.length := ry.length
    have ei := each_rel ry rvs
    have hmem : ∀ p ∈ ys.zip vs, p.1 ∈ ys := fun p hp => (List.of_mem_zip hp).1
    have em : (ys.zip vs).map (fun p => toPy p.1) = ys.map toPy := by
      have e := congrArg (List.map toPy) (zip_fst hlen)
      rw [List.map_map] at e
      exact e
    have hz2 : (ys.zip vs).length = ys.length := by rw [List.length_zip, hlen, Nat.min_self]
    refine PySem.W.sorted_data (enc := fun p : D × V => toPy p.1) (bs := ys.zip vs) pl.isList ei ((each_imm so.im ei).mono fun u p hp => ?_) (by rw [em]; exact so.al) (by rw [em]; exact so.so) (by rw [hz2, hlen]; exact hz) (fun p hp => ?_) fun out ho eo => ?_
    · exact reads_of I w hp.1 hp.2.2 hp.2.1
    · have h1 := so.dp p.1 (hmem p hp)
      have h2 := hr.units
      show X.A.units + 2 + (toPy p.1).depth < cLine
      omega
    · obtain ⟨ep, he'⟩ := PyProof.Rows.sortedAll_at s.heap its out.toArray
      obtain ⟨r2, v2⟩ := each_back eo
      rw [srt_zip hlen] at r2
      have hpn : H (s.heap.objs.size + 1) = none := I.hok.fresh (Nat.le_succ _)
      refine ⟨.ref _, L2.upd H (s.heap.objs.size + 1) (.lst (((ys.zip vs).mergeSort (PySem.W.dataLe false fun p => toPy p.1)).map (·.2))), I.laid (t' := s.toks) (fun _ _ => PyProof.Rows.sortedAll_old) (Nat.le_succ _) ⟨?_, out, ep, v2, he'⟩, rfl, ?_⟩
      · rw [← r2.length]
        unfold srt
        rw [(List.mergeSort_perm _ _).length_eq, hlen]
        exact hz
      · exact kk _ _ _ _ (rp_ref.mpr rfl) (wld_new (d := .lst (srt ys)) w hpn ⟨_, upd_same, r2.mono (kp_new (B := bs X) hpn)⟩) (fm_new hpn) (q _ (w.none hpn))
end FD

/-! FD9: sorted(xs, key=f), f a def of the text. -/
namespace FD
open PySem PySem.Spec PyProof.Rows L2
def skGo (dsp : DSp) : List D → List D → DG → (List D → DG → Prop) → Prop
  | [], ks, G, Q => Q ks G
  | x :: xs, ks, G, Q => dsp [x] G fun k G' => skGo dsp xs (ks ++ [k]) G' Q
def sortedKD (dsp : DSp) : RCD := fun ds G Q => match ds with
  | [.ref a] => ∃ xs, G a = some (.lst xs) ∧ skGo dsp xs [] G fun ks G' => SortOk ks ∧ ∀ p, G' p = none → Q (.ref p) (G'.upd p (.lst (srtBy xs ks)))
  | _ => False
section
variable {X : Cx} {pins : List (Addr × Obj)} {σ : L2.St} {H : Hp} {s : Shared} {G : DG}
/-- a def called where one stands deeper -/
theorem run_at {A : Around} {k : Nat} {f : Addr} {fd : FuncData} {ps : List Str} {sp : Sp} {E : XK} {us : List Value} {vs : List V} {Q : VK} (F : FnOk X.prog X.w X.K X.mg X.base CX0 k f fd ps sp) (hr : Room k A) (hb : Binds X.K fd ps []) (I : Inv X pins σ H s)
    (en : Env0 X.prog X.w X.K X.mg X.base A X.stack s H) (r : Vals vs us) (h : sp vs H Q E) : wpAny (model X.prog X.w) A (call (.ref f) us) (EP X pins σ Q) (fun _ _ => False) s := by
  have hl : (us ++ ([] : List Value)).length = ps.length := by rw [List.append_nil, ← r.length]; exact F.len _ _ _ _ h
  have hb2 := hb s us I.kIn hl
  rw [List.append_nil] at hb2
  refine wpAny_call (codeAny_mono (F.run A X.stack s H ⟨us, []⟩ us vs Q E hr en hb2 r h) fun r s' hq => ?_)
  cases r with
  | error e => exact hq
  | ok fl =>
    cases fl with
    | ret u => exact I.after hq
    | next => exact False.elim hq
    | brk => exact False.elim hq
    | cont => exact False.elim hq
/-- a young thing that nobody told of is told from now on -/
theorem Inv_track {h' : Heap} {t' : Nat} {ch : List Addr} {T : Addr} {ob : HO} (I : Inv X pins σ H s) (k : ∀ b o, b ∉ ch → s.heap.get? b = some o → h'.get? b = some o) (hf : ∀ b ∈ ch, FpOk X pins H b) (hT : T ∈ ch)
    (new : ObjOk X.prog X.w (L2.upd H T ob) h' T ob) : Inv X pins σ (L2.upd H T ob) { s with heap := h', toks := t' } := by
  have hn : H T = none := (hf T hT).1
  have nit : ∀ b u, H b = some u → b ∉ ch := fun b u e z => by
    rw [(hf b z).1] at e
    cases e
  refine I.step (g' := s.gens) (d' := s.drawn) (ch := ch) (fun b hb => ⟨(hf b hb).2.2.2.1, (hf b hb).2.1, (hf b hb).2.2.2.2.1, (hf b hb).2.2.2.2.2⟩) (fun b o _ _ hc e _ => k b o hc e) (fun b o _ _ hc e _ => ⟨o.slots, k b o hc e⟩)
    (fun b o hc e n => ?_) (fun b o hc e => ⟨o, k b o hc e⟩) (fun b xs e => ?_) (fun b o u e => ?_) (fun b ps e => ⟨#[], ?_⟩) (fun m hm => ?_) (fun b u e => ?_) I.bare
  · rw [upd_ne (fun z => hc (by rw [z]; exact hT))]
    exact n
  · rw [upd_ne (ne_of_none e hn)]
    exact e
  · rw [upd_ne (ne_of_none e hn)]
    exact e
  · rw [upd_ne (ne_of_none e hn), e]
    simp
  · obtain ⟨o, es, ep, ho, r⟩ := hm
    exact ⟨o, es, ep, k _ o (fun z => (hf _ z).2.1 rfl) ho, r⟩
  · by_cases hb : b = T
    · subst hb
      rw [upd_same] at e
      cases e
      exact new
    · rw [upd_ne hb] at e
      refine (I.hok b u e).stay (fun c v hc q => k c v ?_ q) (fun c q => by rw [upd_ne (ne_of_none q hn)]; exact q) fun c xs q => by rw [upd_ne (ne_of_none q hn)]; exact q
      rcases hc with z | z
      · rw [z]
        exact nit b u e
      · exact nit c _ z
theorem zip3 : ∀ {xs : List D} {vs : List V} {ks : List D}, xs.length = vs.length → ks.length = xs.length → ((xs.zip vs).zip ks).map (fun b => (b.1.1, b.2)) = xs.zip ks ∧ ((xs.zip vs).zip ks).map (fun b => toPy b.2) = ks.map toPy
  | [], [], [], _, _ => ⟨rfl, rfl⟩
  | x :: xs, v :: vs, k :: ks, h1, h2 => by
    obtain ⟨e1, e2⟩ := zip3 (xs := xs) (vs := vs) (ks := ks) (Nat.succ.inj h1) (Nat.succ.inj h2)
    exact ⟨congrArg (List.cons (x, k)) e1, congrArg (List.cons (toPy k)) e2⟩
theorem each3 {K : PySem.W.Frag} {H : Hp} : ∀ {xs : List D} {vs : List V} {us : List Value} {ks : List D}, RpL K H xs vs → Vals vs us → ks.length = xs.length → PySem.W.EachIs (fun u (b : (D × V) × D) => RelV b.1.2 u ∧ Rp K H b.1.1 b.1.2) us ((xs.zip vs).zip ks)
  | [], _, _, [], r, v, _ => by rw [rpl_nil.mp r] at v; cases v; exact .nil
  | d :: ds, _, _, k :: ks, r, v, h => by
    obtain ⟨y, ys, rfl, r1, r2⟩ := rpl_cons.mp r
    cases v with
    | cons v1 v2 => exact .cons ⟨v1, r1⟩ (each3 r2 v2 (Nat.succ.inj h))
theorem back3 {K : PySem.W.Frag} {H : Hp} : ∀ {us : List Value} {ps : List ((D × V) × D)}, PySem.W.EachIs (fun u (b : (D × V) × D) => RelV b.1.2 u ∧ Rp K H b.1.1 b.1.2) us ps → RpL K H (ps.map (·.1.1)) (ps.map (·.1.2)) ∧ Vals (ps.map (·.1.2)) us
  | _, _, .nil => ⟨RpL.nil, .nil⟩
  | _, _, .cons h t => by
    obtain ⟨r, v⟩ := back3 t
    exact ⟨RpL.cons h.2 r, .cons h.1 v⟩
theorem each_keys {G : DG} (I : Inv X pins σ H s) (w : Wld (bs X) G H) : ∀ {ks : List D} {kv : List V} {us : List Value}, imms ks = true → RpL X.K H ks kv → Vals kv us → PySem.W.EachIs (fun v d => ∃ as, Reads s.heap v d as) us (ks.map toPy)
  | [], _, _, _, r, v => by rw [rpl_nil.mp r] at v; cases v; exact .nil
  | d :: ds, _, _, i, r, v => by
    obtain ⟨y, ys, rfl, r1, r2⟩ := rpl_cons.mp r
    rw [imms, Bool.and_eq_true] at i
    cases v with
    | cons v1 v2 => exact .cons (reads_of I w i.1 r1 v1) (each_keys I w i.2 r2 v2)
/-- the keys are made, the list is sorted -/
theorem sk_rest {k : Nat} {f a kS : Addr} {fd : FuncData} {ps : List Str} {dsp : DSp} {xs : List D} {vs : List V} {its : List Value} {e1 : Nat} {Qk : List D → DG → Prop} {P : PySem.Fin → Shared → Prop} {E : Value → Shared → Prop}
    (F : FnOk X.prog X.w X.K X.mg X.base CX0 k f fd ps (lift (bs X) dsp)) (hr : Room (k + 2) X.A) (hb : Binds X.K fd ps []) (I : Inv X pins σ H s) (w : Wld (bs X) G H)
    (fa : FpOk X pins H a) (fk : FpOk X pins H kS) (nk : s.heap.get? kS = some (PyProof.Rows.seqObj "list" #[] 0)) (na : s.heap.get? a = some (PyProof.Rows.seqObj "list" #[] e1)) (hka : kS ≠ a)
    (rx : RpL X.K H xs vs) (rv : Vals vs its) (hz : vs.length ≤ sizeLine) (q : skGo dsp xs [] G Qk) (so : ∀ ks G', Qk ks G' → SortOk ks)
    (fin : ∀ s' H' G' ks zs, Inv X pins σ (L2.upd H' a (.lst zs)) s' → Wld (bs X) G' H' → Fm G H G' H' → H' a = none → RpL X.K H' (srtBy xs ks) zs → Qk ks G' → P (.done (.ret .none)) s') :
    wpAny (model X.prog X.w) X.A.in1.in1 (PyProof.Rows.ksk_rest a (.ref f) false its.toArray e1 (.ref kS)) P E s := by
  have hlen : xs.length = vs.length := rx.length
  have hlen2 : vs.length = its.length := rv.length
  have hrA : Room k X.A.in1.in1 := Room.in1 (Room.in1 hr)
  unfold PyProof.Rows.ksk_rest
  refine wpAny_bind (wpAny_rule ?_)
  rw [List.forIn_toArray]
  refine wpAny_bind (PyProof.Rows.ksk_fold (fun j s' => ∃ H' G' ks kv kA e, Inv X pins σ H' s' ∧ Wld (bs X) G' H' ∧ Fm G H G' H' ∧ H' a = none ∧ H' kS = none ∧ s'.heap.get? kS = some (PyProof.Rows.seqObj "list" kA e) ∧ s'.heap.get? a = some (PyProof.Rows.seqObj "list" #[] e1) ∧
      RpL X.K H' ks kv ∧ Vals kv kA.toList ∧ ks.length = j ∧ skGo dsp (xs.drop j) ks G' Qk) its 0 s
    ⟨H, G, [], [], #[], 0, I, w, Fm.refl, fa.1, fk.1, nk, na, RpL.nil, .nil, rfl, q⟩ ?step ?done)
  case step =>
    rintro j x s' hx ⟨H', G', ks, kv, kA, e, I', w', f', ha', hk', nk', na', rk, vk, hl, q'⟩
    simp only [Nat.zero_add] at hl q' ⊢
    have hj : j < its.length := (List.getElem?_eq_some_iff.mp hx).1
    obtain ⟨d, hd⟩ : ∃ d, xs[j]? = some d := ⟨_, List.getElem?_eq_getElem (by omega)⟩
    obtain ⟨v, hv, rd⟩ := (rx.mono (f'.kp w)).get hd
    obtain ⟨u, hu, ru⟩ := rv.get hv
    have eu : u = x := Option.some.inj (hu.symm.trans hx)
    subst eu
    have ed : xs.drop j = d :: xs.drop (j + 1) := by
      rw [← List.getElem_cons_drop (by omega : j < xs.length)]
      congr 1
      exact Option.some.inj ((List.getElem?_eq_getElem (by omega)).symm.trans hd)
    rw [ed] at q'
    have fp : ∀ b ∈ [a, kS], FpOk X pins H' b := fun b hb => by
      rcases List.mem_cons.mp hb with rfl | hb
      · exact ⟨ha', fa.2⟩
      · rw [List.mem_singleton.mp hb]
        exact ⟨hk', fk.2⟩
    have Ip := I'.pinned (fp := [a, kS]) fp fun b hb => by
      rcases List.mem_cons.mp hb with rfl | hb
      · exact ⟨_, na', fun _ z => nomatch z⟩
      · rw [List.mem_singleton.mp hb]
        exact ⟨_, nk', fun _ z => nomatch z⟩
    refine wpAny_bind (wpAny_attempt (wpAny_mono (run_at (E := E0) (Q := fun v2 H2 => ∃ k2 G2, Rp X.K H2 k2 v2 ∧ Wld (bs X) G2 H2 ∧ Fm G' H' G2 H2 ∧ skGo dsp (xs.drop (j + 1)) (ks ++ [k2]) G2 Qk) F hrA hb Ip Ip.env0.in1.in1 (.cons ru .nil) ?_) (fun y s'' he => ?_) fun _ _ hF => hF.elim))
    · exact ⟨[d], G', _, RpL.cons rd RpL.nil, w', q', fun k2 v2 G2 H2 r2 w2 f2 z2 => ⟨k2, G2, r2, w2, f2, z2⟩⟩
    · obtain ⟨v2, H2, I2, r2, k2, G2, rp2, w2, f2, q2⟩ := he
      have pa := I2.pin (a, _) (List.mem_append_right _ (List.mem_append_right _ (mem_pinsAt (fp := [a, kS]) List.mem_cons_self na')))
      have pk := I2.pin (kS, _) (List.mem_append_right _ (List.mem_append_right _ (mem_pinsAt (fp := [a, kS]) (List.mem_cons_of_mem _ List.mem_cons_self) nk')))
      have I3 := I2.unpinned
      have s1 := Heap.SameBut.update s''.heap kS (Obj.mapSeq (·.push y))
      obtain ⟨c2, hc2⟩ : ∃ c2, (s''.heap.update kS (Obj.mapSeq (·.push y))).get? kS = some (PyProof.Rows.seqObj "list" (kA.push y) c2) := ⟨_, PyProof.Rows.get?_update_seq pk.1 (·.push y)⟩
      have hkz : kA.size ≤ sizeLine := by
        have z1 := vk.length
        have z2 := rk.length
        have z3 : kA.toList.length = kA.size := by simp
        omega
      try dsimp only
      refine wpAny_bind (PyProof.Rows.listUpdate_at pk.1 rfl ?_ hkz (Nat.le_trans (Nat.le_of_eq (Array.size_push ..)) (Nat.succ_le_succ hkz)))
      have I4 : Inv X pins σ H2 { s'' with heap := s''.heap.update kS (Obj.mapSeq (·.push y)) } := I3.turned (t' := s''.toks) (it := kS) (fun b o hb z => (s1.2 b hb).trans z) pk.2.1 fk.2.1 fk.2.2.2.1 fk.2.2.2.2.1 fk.2.2.2.2.2
      refine wpAny_pure ⟨rfl, H2, G2, ks ++ [k2], kv ++ [v2], kA.push y, c2, I4, w2, f'.trans f2, pa.2.1, pk.2.1, hc2, (s1.2 a hka.symm).trans pa.1, RpL.snoc (rk.mono (f2.kp w')) rp2, ?_, by rw [List.length_append, hl]; rfl, q2⟩
      rw [Array.toList_push]
      exact vk.append (.cons r2 .nil)
  case done =>
    rintro s' ⟨H', G', ks, kv, kA, e, I', w', f', ha', hk', nk', na', rk, vk, hl, q'⟩
    rw [Nat.zero_add] at hl q'
    rw [List.drop_of_length_le (by omega)] at q'
    have q' : Qk ks G' := q'
    have sk := so ks G' q'
    have hks : ks.length = xs.length := by omega
    have hsz : kA.size = its.length := by
      have z1 := vk.length
      have z2 := rk.length
      have z3 : kA.toList.length = kA.size := by simp
      omega
    have ek := each_keys I' w' sk.im rk vk
    obtain ⟨e31, e32⟩ := zip3 hlen hks
    try dsimp only
    refine wpAny_bind (PyProof.Rows.listItems_at nk' rfl ?_)
    refine PySem.W.keyH_end (κ := PySem.W.dataKind s'.heap (ks.map toPy)) (h₁ := PySem.W.hideAll s'.heap [kS]) (fun b o hb z => PySem.W.of_hideAll _ z) (PySem.W.hideAll_none [kS] List.mem_cons_self) nk' na' hka (PySem.W.SortsAt.data ek sk.al sk.so fun d hd => ?_) hsz (by omega) fun h' tk c kp hnew => ?_
    · obtain ⟨k0, hk0, rfl⟩ := List.mem_map.mp hd
      have h1 := sk.dp k0 hk0
      have h2 := hr.units
      show X.A.units + 1 + 1 + (toPy k0).depth < cLine
      omega
    · have ko : PySem.W.KeyedOut false (((xs.zip vs).zip ks).map fun b => toPy b.2) its (PySem.W.sortVals (PySem.W.dataKind s'.heap (ks.map toPy)) false kA.toList its) := by
        rw [e32]
        exact ⟨s'.heap, kA.toList, sk.al, rfl, ek⟩
      have eo := PySem.W.keyedOut_each (fun b : (D × V) × D => toPy b.2) ko (each3 (rx.mono (f'.kp w)) rv hks)
      obtain ⟨r5, v5⟩ := back3 eo
      have er : (((xs.zip vs).zip ks).mergeSort (PySem.W.dataLe false fun b => toPy b.2)).map (·.1.1) = srtBy xs ks := by
        unfold srtBy
        rw [← e31]
        have z := PySem.W.sort_maps (r := PySem.W.dataLe false fun b : (D × V) × D => toPy b.2) (s := PySem.W.dataLe false fun p : D × D => toPy p.2) (fun b : (D × V) × D => (b.1.1, b.2)) (l := (xs.zip vs).zip ks) (fun _ _ _ _ => rfl)
        rw [← z, List.map_map]
        rfl
      rw [er] at r5
      have fp : ∀ b ∈ [a, kS], FpOk X pins H' b := fun b hb => by
        rcases List.mem_cons.mp hb with rfl | hb
        · exact ⟨ha', fa.2⟩
        · rw [List.mem_singleton.mp hb]
          exact ⟨hk', fk.2⟩
      refine fin _ H' G' ks _ (Inv_track (ch := [a, kS]) (t' := tk) I' (fun b o hb z => ?_) fp List.mem_cons_self ⟨?_, _, c, v5, hnew⟩) w' f' ha' r5 q'
      · have n1 : b ≠ a := fun z => hb (by rw [z]; exact List.mem_cons_self)
        have n2 : b ∉ [kS] := fun z => hb (List.mem_cons_of_mem _ z)
        exact kp b o n1 (PySem.W.hideAll_get _ z n2)
      · rw [← r5.length]
        unfold srtBy
        rw [List.length_map, (List.mergeSort_perm _ _).length_eq, List.length_zip]
        omega
/-- sorted(xs, key=f) -/
def lowK (B : Bs) (f : Addr) (rd : RCD) : List V → List V → Hp → VK → Prop := fun vs zs H R => zs = [.ref f] ∧ ∃ ds G Q, RpL B.K H ds vs ∧ Wld B G H ∧ rd ds G Q ∧ Kt B G H Q R
theorem call_sortedK {k : Nat} {f : Addr} {fd : FuncData} {ps : List Str} {dsp : DSp} (F : FnOk X.prog X.w X.K X.mg X.base CX0 k f fd ps (lift (bs X) dsp)) (hr : Room (k + 2) X.A) (hb : Binds X.K fd ps []) :
    CallRK X (.builtin "sorted") [Str.ofString "key"] (lowK (bs X) f (sortedKD dsp)) := by
  intro pins s σ H vs zs us ws Q I r rz h
  obtain ⟨rfl, ds, G, Q', rl, w, h, kk⟩ := h
  obtain ⟨w1, rfl, e1⟩ := vals1 rz
  cases (show w1 = Value.ref f from e1)
  match ds, h with
  | [.ref l], h =>
    obtain ⟨xs, el, q⟩ := h
    obtain ⟨v, rfl, rv⟩ := rl.one
    rw [rp_ref.mp rv] at r
    obtain ⟨u, rfl, ru⟩ := vals1 r
    cases (show u = Value.ref l from ru)
    obtain ⟨vs, e2, rx⟩ := w l _ el
    obtain ⟨its, rvs, pl, hz⟩ := I.list (SqL.of e2)
    have hlen2 : vs.length = its.length := rvs.length
    have hZ : its.length ≤ sizeLine := by omega
    show wpAny _ _ (call (.builtin "sorted") [.ref l] [(Str.ofString "key", .ref f)]) _ _ _
    refine PySem.W.sorted_of_sort pl.isList hZ (PyProof.Rows.ksk_s1 _ _) (fun _ => PyProof.Rows.ksk_l1 _ _) fun E' => ?_
    rw [PyProof.Rows.ksk_t1]
    have hc0 := PySem.W.copyHeap_at s.heap its
    obtain ⟨e1, ho1⟩ : ∃ e1, ((PySem.W.copyHeap s.heap its).update (s.heap.objs.size + 1) (Obj.mapSeq fun _ => (#[] : Array Value))).get? (s.heap.objs.size + 1) = some (PyProof.Rows.seqObj "list" #[] e1) := ⟨_, PyProof.Rows.get?_update_seq hc0 fun _ => #[]⟩
    unfold PyProof.Rows.ksk_tree
    refine wpAny_bind (PyProof.Rows.listItems_at hc0 rfl ?_)
    refine wpAny_bind (PyProof.Rows.listUpdate_at hc0 rfl ?_ (by rw [List.size_toArray]; exact hZ) (Nat.zero_le _))
    refine wpAny_bind (PyProof.Rows.seqEpoch_at ho1 rfl ?_)
    refine wpAny_bind (wpAny_newTuple ?_ (by show its.length ≤ _; exact hZ))
    refine wpAny_bind (wpAny_newList ?_ (Nat.zero_le _))
    refine wpAny_holding ?_
    have kp : ∀ b o, s.heap.get? b = some o → (PySem.W.sortingHeap (PySem.W.copyHeap s.heap its) (s.heap.objs.size + 1) its).get? b = some o := fun b o z => PySem.W.sortingHeap_old (Nat.ne_of_lt (Nat.lt_succ_of_lt (Heap.lt_size z))) (PySem.W.copyHeap_old z)
    have I1 : Inv X pins σ H { s with heap := PySem.W.sortingHeap (PySem.W.copyHeap s.heap its) (s.heap.objs.size + 1) its } := I.kept (t' := s.toks) kp
    have hsz : ((PySem.W.copyHeap s.heap its).update (s.heap.objs.size + 1) (Obj.mapSeq fun _ => (#[] : Array Value))).objs.size = s.heap.objs.size + 2 := by
      rw [Heap.size_update]
      unfold PySem.W.copyHeap
      rw [PyProof.Rows.size_push', Heap.size_update, PyProof.Rows.size_push']
    have hkS : (((PySem.W.copyHeap s.heap its).update (s.heap.objs.size + 1) (Obj.mapSeq fun _ => (#[] : Array Value))).push (PyProof.Rows.seqObj "tuple" its.toArray 0)).objs.size = s.heap.objs.size + 3 := by
      rw [PyProof.Rows.size_push', hsz]
    refine sk_rest (s := { s with heap := PySem.W.sortingHeap (PySem.W.copyHeap s.heap its) (s.heap.objs.size + 1) its }) (Qk := fun ks G' => SortOk ks ∧ ∀ p, G' p = none → Q' (.ref p) (G'.upd p (.lst (srtBy xs ks)))) F hr hb I1 w (I.fpOk (Nat.le_succ _) (I.hok.fresh (Nat.le_succ _)))
      (I.fpOk (by rw [hkS]; exact Nat.le_add_right _ 3) (I.hok.fresh (by rw [hkS]; exact Nat.le_add_right _ 3))) (Heap.get?_push_size _ rfl) (Heap.get?_push_of_some _ (Heap.get?_push_of_some _ ho1)) (by rw [hkS]; exact Nat.ne_of_gt (Nat.lt_succ_of_lt (Nat.lt_succ_self _))) rx rvs hz q (fun ks G' h => h.1) ?_
    intro s' H' G' ks zs I' w' f' ha' r' qq
    refine ⟨rfl, .ref _, _, I', rfl, ?_⟩
    exact kk _ _ _ _ (rp_ref.mpr rfl) (wld_new (d := .lst (srtBy xs ks)) w' ha' ⟨_, upd_same, r'.mono (kp_new (B := bs X) ha')⟩) (f'.trans (fm_new ha')) (qq.2 _ (w'.none ha'))
/-! ### -e -/
def dNeg (t : DE) : DE := fun ρ G Q => t ρ G fun x G1 => match x with
  | .int i => Q (.int (-i)) G1
  | _ => False
theorem pd_neg {e : Expr} {t : DE} {pos : Pos} (h : PD X e t) : PD X (.UnaryOp .USub e pos) (dNeg t) := by
  obtain ⟨te, p, l⟩ := h
  refine ⟨_, pe_un un_neg p, fun ρ σ G H Q R s w h k => ?_⟩
  refine l ρ σ G H _ _ s w h fun x v G1 H1 r1 w1 f1 q1 => ?_
  cases x <;> try exact q1.elim
  rename_i i
  exact ⟨i, rp_int.mp r1, k _ _ G1 H1 (rp_int.mpr rfl) w1 f1 q1⟩
/-! ### a comprehension within a comprehension -/
theorem blkOk2 {N : List Str} {sc0 scope inner : Scope} {own : List (Str × Nat)} {cl : List (Str × Addr)} {C : Addr} {env : Env} (he : env.scope = sc0) (h : blkC N (relS scope sc0) inner own = true) : BlkOk N (compEnvC scope cl C env).scope inner own := by
  subst he
  exact blkOk_by h
theorem fn_no2 {P : Program} {w : World} {K : PySem.W.Frag} {mg : Str → Option Value} {base : Heap} {k : Nat} {f : Addr} {fd : FuncData} {ps : List Str} {B : Bs} {dsp : DSp} (hf : ∀ ds G Q, dsp ds G Q → False) : FnOk P w K mg base CX0 k f fd ps (lift B dsp) :=
  ⟨fun vs H Q E h => by obtain ⟨_, _, _, _, _, h, _⟩ := h; exact (hf _ _ _ h).elim, fun A outer s H args us vs Q E _ _ _ _ h => by obtain ⟨_, _, _, _, _, h, _⟩ := h; exact (hf _ _ _ h).elim⟩
/-- a def of the text where the top has laid it -/
structure FunOn (K : PySem.W.Frag) (mg : Str → Option Value) (x : Str) (st : Stmt) (ps : List Str) (f : Addr) (fd : FuncData) : Prop where
  F : Fun K x x st f fd
  g : mg x = some (.ref f)
  b : Binds K fd ps []
def dSortK (dsp : DSp) (t : DA) : DE := fun ρ G Q => t ρ G fun ds G1 => sortedKD dsp ds G1 Q
theorem pd_sortedK {k : Nat} {f : Addr} {fd : FuncData} {ps : List Str} {dsp : DSp} {e : Expr} {es : List Expr} {t : DA} {p pos kp kp2 : Pos} {nm : Str} (F : FnOk X.prog X.w X.K X.mg X.base CX0 k f fd ps (lift (bs X) dsp)) (hr : Room (k + 2) X.A) (hb : Binds X.K fd ps [])
    (hg : Gl X "sorted") (hm : X.mg "sorted" = none) (hgf : Gl X nm) (hmf : X.mg nm = some (.ref f)) (ha : PDA X (e :: es) t) (hdb : (nm == ("__debug__" : Str)) = false := by decide)
    (he : backTo pos (starEach (e :: es) X.env) = (false, eval e X.env) :: backTo pos (starEach es X.env) := by rfl) (hpl : (backTo pos (starEach (e :: es) X.env)).any (·.1) = false := by rfl)
    (hall : (backToKw pos (keywordEach [⟨some "key", .Name nm kp2, kp⟩] X.env)).all (·.1.isSome) = true := by rfl) (hnone : (backToKw pos (keywordEach [⟨some "key", .Name nm kp2, kp⟩] X.env)).any (·.1.isNone) = false := by rfl) (hks : (backToKw pos (keywordEach [⟨some "key", .Name nm kp2, kp⟩] X.env)).filterMap (·.1) = [Str.ofString "key"] := by rfl) :
    PD X (.Call (.Name "sorted" p) (e :: es) [⟨some "key", .Name nm kp2, kp⟩] pos) (dSortK dsp t) := by
  obtain ⟨ta, pa, la⟩ := ha
  refine ⟨_, pe_callBK (call_sortedK F hr hb) hg hm (by decide +kernel) pa (pk_cons (pe_glob (v := .ref f) hgf hmf rfl hdb) pk_nil) (by decide) (by decide) he hpl hall hnone hks, fun ρ σ G H Q R s w h k => ?_⟩
  refine la ρ σ G H _ _ s w h fun ds vs G1 H1 r1 w1 f1 q1 => ?_
  exact ⟨rfl, ds, G1, Q, r1, w1, q1, k.aft f1⟩
theorem pd_sorted {n : Nat} {e : Expr} {es : List Expr} {t : DA} {p pos : Pos} (hr : Room n X.A) (hg : Gl X "sorted") (hm : X.mg "sorted" = none) (ha : PDA X (e :: es) t) (he : starEach (e :: es) X.env = (false, eval e X.env) :: starEach es X.env := by rfl) (hpl : (backTo pos (starEach es X.env)).any (·.1) = false := by rfl) :
    PD X (.Call (.Name "sorted" p) (e :: es) [] pos) (dCB sortedD t) := pd_callB (call_sortedD hr) lowCl_lk hg hm (by decide +kernel) ha (by decide) (by decide) he hpl
theorem pd_listD {e : Expr} {es : List Expr} {t : DA} {p pos : Pos} (hc : X.calm = true) (hg : Gl X "list") (hm : X.mg "list" = none) (ha : PDA X (e :: es) t) (he : starEach (e :: es) X.env = (false, eval e X.env) :: starEach es X.env := by rfl) (hpl : (backTo pos (starEach es X.env)).any (·.1) = false := by rfl) :
    PD X (.Call (.Name "list" p) (e :: es) [] pos) (dCB listDD t) := pd_callTy (call_listDD hc) lowCl_lk hg hm (by decide +kernel) ha (by decide) (by decide) he hpl
end
end FD

/-! FD10: the steps of a reading, as equations; stores that grow; plain data. -/
namespace FD
open PySem L2
section
variable {E : DEnds} {ρ : DSt} {G G1 G2 : DG} {Q : DK} {QT : Bool → DG → Prop} {QA : List D → DG → Prop} {QO : Option Int → DG → Prop} {QI : DIt → DG → Prop} {t u : DS} {te ta tb : DE} {tt tu : DT} {tA : DA} {g : DGt} {gs : DGts} {QS : DSt → DG → Prop}
/-- the two branches, not yet looked at -/
def dBr (t u : DS) (E : DEnds) (ρ : DSt) (b : Bool) (G : DG) : Prop := if b = true then t E ρ G else u E ρ G
def dBrE (ta tb : DE) (ρ : DSt) (Q : DK) (b : Bool) (G : DG) : Prop := if b = true then ta ρ G Q else tb ρ G Q
def kB (Q : Bool → DG → Prop) (x : D) (G : DG) : Prop := match x with
  | .bl b => Q b G
  | _ => False
def kN (u : DT) (ρ : DSt) (Q : Bool → DG → Prop) (k : Bool) (b : Bool) (G : DG) : Prop := if b = k then u ρ G Q else Q b G
def kAnd (tb : DE) (ρ : DSt) (Q : DK) (x : D) (k : Bool) (G : DG) : Prop := if k = true then tb ρ G Q else Q x G
/-- a new object, not yet looked at -/
def kNew (G : DG) (o : DO) (Q : DK) : Prop := ∀ p, G p = none → Q (.ref p) (G.upd p o)
theorem seq_ : dSeq t u E ρ G = t { E with nx := u E } ρ G := rfl
theorem next_ : dNext E ρ G = E.nx ρ G := rfl
theorem ret_ : dRet te E ρ G = te ρ G E.rt := rfl
theorem drop_ : dDrop te E ρ G = te ρ G fun _ G1 => E.nx ρ G1 := rfl
theorem ifs_ {c : DT} : dIfS c t u E ρ G = c ρ G (dBr t u E ρ) := rfl
theorem br_t : dBr t u E ρ true G = t E ρ G := rfl
theorem br_f : dBr t u E ρ false G = u E ρ G := rfl
theorem asg_ : dAsg te g E ρ G = te ρ G fun x G1 => g x ρ G1 E.nx := rfl
theorem gn_ {i : Nat} {d : D} : gnD i d ρ G QS = QS (ρ.set i (some d)) G := rfl
theorem gt_ {n : Nat} {ds : List D} : gtD n gs (.tup ds) ρ G QS = (ds.length = n ∧ gs ds ρ G QS) := rfl
theorem gtc_ {d : D} {r : List D} : gtCons g gs (d :: r) ρ G QS = g d ρ G fun ρ' G' => gs r ρ' G' QS := rfl
theorem gtn_ : gtNil [] ρ G QS = QS ρ G := rfl
theorem par_ {i j : Nat} : dPar i j tA E ρ G = tA ρ G fun ds G1 => match ds with
  | [x, y] => E.nx ((ρ.set i (some x)).set j (some y)) G1
  | _ => False := rfl
theorem var_0 {d : D} : dVar 0 (some d :: ρ) G Q = Q d G := rfl
theorem var_s {i : Nat} {o : Option D} : dVar (i + 1) (o :: ρ) G Q = dVar i ρ G Q := rfl
theorem c_ {d : D} : dC d ρ G Q = Q d G := rfl
theorem nil_ : dNil ρ G QA = QA [] G := rfl
theorem cons_ : dCons te tA ρ G QA = te ρ G fun x G1 => tA ρ G1 fun xs G2 => QA (x :: xs) G2 := rfl
theorem tup_ : dTup tA ρ G Q = tA ρ G fun xs G1 => xs.length ≤ sizeLine ∧ Q (.tup xs) G1 := rfl
theorem lst_ : dLst tA ρ G Q = tA ρ G fun xs G1 => xs.length ≤ sizeLine ∧ kNew G1 (.lst xs) Q := rfl
theorem op_ {rd : R2D} : dOp rd ta tb ρ G Q = ta ρ G fun x G1 => tb ρ G1 fun y G2 => rd x y G2 Q := rfl
theorem bool_ : dBool te ρ G QT = te ρ G (kB QT) := rfl
theorem kb_ {b : Bool} : kB QT (.bl b) G = QT b G := rfl
theorem tru_ : dTru te ρ G QT = te ρ G fun x G1 => trD x G1 QT := rfl
theorem tr_bl {b : Bool} : trD (.bl b) G QT = QT b G := rfl
theorem andT_ : dAndT tt tu ρ G QT = tt ρ G (kN tu ρ QT true) := by
  unfold dAndT; congr 1; funext c G1; cases c <;> rfl
theorem orT_ : dOrT tt tu ρ G QT = tt ρ G (kN tu ρ QT false) := by
  unfold dOrT; congr 1; funext c G1; cases c <;> rfl
theorem kn_tt : kN tu ρ QT true true G = tu ρ G QT := rfl
theorem kn_tf : kN tu ρ QT true false G = QT false G := rfl
theorem kn_ff : kN tu ρ QT false false G = tu ρ G QT := rfl
theorem kn_ft : kN tu ρ QT false true G = QT true G := rfl
theorem notT_ : dNotT tt ρ G QT = tt ρ G fun c G1 => QT (!c) G1 := rfl
theorem and_ : dAnd ta tb ρ G Q = ta ρ G fun x G1 => trD x G1 (kAnd tb ρ Q x) := rfl
theorem kand_t {x : D} : kAnd tb ρ Q x true G = tb ρ G Q := rfl
theorem kand_f {x : D} : kAnd tb ρ Q x false G = Q x G := rfl
theorem if_ : dIf tt ta tb ρ G Q = tt ρ G (dBrE ta tb ρ Q) := rfl
theorem bre_t : dBrE ta tb ρ Q true G = ta ρ G Q := rfl
theorem bre_f : dBrE ta tb ρ Q false G = tb ρ G Q := rfl
theorem call_ {dsp : DSp} : dCall dsp tA ρ G Q = tA ρ G fun ds G1 => dsp ds G1 Q := rfl
theorem cb_ {rd : RCD} : dCB rd tA ρ G Q = tA ρ G fun ds G1 => rd ds G1 Q := rfl
theorem neg_ : dNeg te ρ G Q = te ρ G fun x G1 => match x with
  | .int i => Q (.int (-i)) G1
  | _ => False := rfl
theorem sl_ {lo hi : DOp} : dSl te lo hi ρ G Q = te ρ G fun x G1 => lo ρ G1 fun l G2 => hi ρ G2 fun u G3 => slD x l u G3 Q := rfl
theorem nopart_ : dNoPart ρ G QO = QO none G := rfl
theorem part_ : dPart te ρ G QO = te ρ G fun x G1 => match x with
  | .int i => QO (some i) G1
  | _ => False := rfl
theorem sl_tup {ds : List D} {lo hi : Option Int} : slD (.tup ds) lo hi G Q = Q (.tup (cutD ds lo hi)) G := rfl
theorem add_int {i j : Int} : addD (.int i) (.int j) G Q = Q (.int (i + j)) G := rfl
theorem add_tup {xs ys : List D} : addD (.tup xs) (.tup ys) G Q = (xs.length + ys.length ≤ sizeLine ∧ Q (.tup (xs ++ ys)) G) := rfl
theorem add_ref {a b : Addr} : addD (.ref a) (.ref b) G Q = ∃ xs, G a = some (.lst xs) ∧ ∃ ys, G b = some (.lst ys) ∧ xs.length + ys.length ≤ sizeLine ∧ kNew G (.lst (xs ++ ys)) Q := propext ⟨fun ⟨xs, ys, h1, h2, h3, h4⟩ => ⟨xs, h1, ys, h2, h3, h4⟩, fun ⟨xs, h1, ys, h2, h3, h4⟩ => ⟨xs, ys, h1, h2, h3, h4⟩⟩
theorem int_ {C : Int → Int → Prop} {f : Int → Int → Int} {i j : Int} : intD C f (.int i) (.int j) G Q = (C i j ∧ Q (.int (f i j)) G) := rfl
theorem int0_ {f : Int → Int → Int} {i j : Int} : int0D f (.int i) (.int j) G Q = Q (.int (f i j)) G := rfl
theorem mul_int {i j : Int} : mulD (.int i) (.int j) G Q = (CMul i j ∧ Q (.int (i * j)) G) := rfl
theorem mul_str {s : Str} {n : Int} : mulD (.str s) (.int n) G Q = (MulOk s n ∧ Q (.str (Txt.mul s n)) G) := rfl
theorem ord_int {f : Int → Int → Bool} {h : List Nat → List Nat → Bool} {i j : Int} : ordD f h (.int i) (.int j) G Q = Q (.bl (f i j)) G := rfl
theorem ix_tup {ds : List D} {i : Int} : ixD (.tup ds) (.int i) G Q = atQ ds i G Q := rfl
theorem ix_fl {ds : List D} {i : Int} : ixD (.fl ds) (.int i) G Q = atQ ds i G Q := rfl
theorem ix_ref {a : Addr} {i : Int} : ixD (.ref a) (.int i) G Q = ∃ ds, G a = some (.lst ds) ∧ atQ ds i G Q := rfl
theorem at_0 {d : D} {ds : List D} : atQ (d :: ds) 0 G Q = Q d G := by
  unfold atQ atI ixN
  rw [if_pos (by decide), if_pos (by rw [List.length_cons]; omega)]; rfl
theorem at_1 {d e : D} {ds : List D} : atQ (d :: e :: ds) 1 G Q = Q e G := by
  unfold atQ atI ixN
  rw [if_pos (by decide), if_pos (by rw [List.length_cons, List.length_cons]; omega)]; rfl
theorem at_2 {d e f : D} {ds : List D} : atQ (d :: e :: f :: ds) 2 G Q = Q f G := by
  unfold atQ atI ixN
  rw [if_pos (by decide), if_pos (by rw [List.length_cons, List.length_cons, List.length_cons]; omega)]; rfl
theorem at_3 {d e f h : D} {ds : List D} : atQ (d :: e :: f :: h :: ds) 3 G Q = Q h G := by
  unfold atQ atI ixN
  rw [if_pos (by decide), if_pos (by rw [List.length_cons, List.length_cons, List.length_cons, List.length_cons]; omega)]; rfl
/-- any place within -/
theorem at_in {ds : List D} {i : Int} (h0 : 0 ≤ i) (h1 : i < ds.length) (k : ∀ d ∈ ds, Q d G) : atQ ds i G Q := by
  unfold atQ atI ixN
  rw [if_pos h0, if_pos h1]
  have e : i.toNat < ds.length := by omega
  show (match ds[i.toNat]? with | some d => Q d G | none => False)
  rw [List.getElem?_eq_getElem e]
  exact k _ (List.getElem_mem e)
theorem len_tup {xs : List D} : lenD [.tup xs] G Q = Q (.int xs.length) G := rfl
theorem len_fl {xs : List D} : lenD [.fl xs] G Q = Q (.int xs.length) G := rfl
theorem len_ref {a : Addr} : lenD [.ref a] G Q = ∃ xs, G a = some (.lst xs) ∧ Q (.int xs.length) G := rfl
theorem max2_ {i j : Int} : max2D [.int i, .int j] G Q = Q (.int (if j > i then j else i)) G := rfl
theorem min2_ {i j : Int} : min2D [.int i, .int j] G Q = Q (.int (if j < i then j else i)) G := rfl
theorem tuple_tup {xs : List D} : tupleD [.tup xs] G Q = Q (.tup xs) G := rfl
theorem tuple_ref {a : Addr} : tupleD [.ref a] G Q = ∃ xs, G a = some (.lst xs) ∧ Q (.tup xs) G := rfl
theorem is_ {x : D} {n : Bool} : isD n x .non G Q = Q (.bl (if n then !isNon x else isNon x)) G := rfl
theorem gs_ {to ti : DE} {rd : RSD} {x : D} : gsD to ti rd x ρ G QS = to ρ G fun o G1 => ti ρ G1 fun i G2 => rd o i x G2 fun G3 => QS ρ G3 := rfl
theorem setL_ {l : Addr} {n : Int} {x : D} {Qg : DG → Prop} : setLD (.ref l) (.int n) x G Qg = ∃ xs j, G l = some (.lst xs) ∧ ixN xs.length n = some j ∧ Qg (G.upd l (.lst (xs.set j x))) := rfl
theorem ml_ {rd : RMD} {to : DE} : dML rd to tA ρ G Q = to ρ G fun x G1 => isLst x G1 ∧ tA ρ G1 fun ds G2 => rd x ds G2 Q := rfl
theorem append_ {l : Addr} {y : D} : appendD (.ref l) [y] G Q = ∃ xs, G l = some (.lst xs) ∧ xs.length < sizeLine ∧ Q .non (G.upd l (.lst (xs ++ [y]))) := rfl
theorem for_ {di : DI} : dFor di g t E ρ G = di ρ G fun it G1 => forGo it.chk g t E it.items ρ G1 := rfl
theorem rng1_ : diRng1 tA ρ G QI = tA ρ G fun ds G1 => match ds with
  | [.int j] => (-(2 ^ 62) ≤ j ∧ j < 2 ^ 62) ∧ QI ⟨rngD 0 j.toNat, fun _ => True⟩ G1
  | _ => False := rfl
theorem any_ : diAny te ρ G QI = te ρ G fun x G1 => diVal x G1 QI := rfl
theorem lc_ {di : DI} {vs : List Nat} : dLc di g tt te vs ρ G Q = di ρ G fun it G1 => lcGo it.chk g tt te (wipeD ρ vs) (fun acc G' => kNew G' (.lst acc) Q) it.items [] G1 := rfl
theorem sl_ref {a : Addr} {lo hi : Option Int} : slD (.ref a) lo hi G Q = ∃ ds, G a = some (.lst ds) ∧ kNew G (.lst (cutD ds lo hi)) Q := rfl
theorem list_tup {xs : List D} : listDD [.tup xs] G Q = kNew G (.lst xs) Q := rfl
theorem dict0_ : dDict0 ρ G Q = kNew G (.dic []) Q := rfl
theorem dn_ {di : DI} {tk tv : DE} {vs : List Nat} : dDn di g tt tk tv vs ρ G Q = di ρ G fun it G1 => dcGo it.chk g tt tk tv (wipeD ρ vs) (fun kvs G' => kNew G' (.dic kvs) Q) it.items [] G1 := rfl
theorem sortK_ {dsp : DSp} : dSortK dsp tA ρ G Q = tA ρ G fun ds G1 => sortedKD dsp ds G1 Q := rfl
theorem val_tup {ds : List D} : diVal (.tup ds) G QI = QI ⟨ds, fun _ => True⟩ G := rfl
theorem yes_ : dYes ρ G QT = QT true G := rfl
theorem isLst_ {a : Addr} : isLst (.ref a) G = ∃ ds, G a = some (.lst ds) := rfl
theorem ex_lst {a : Addr} {ds : List D} (h : G a = some (.lst ds)) {P : List D → Prop} : (∃ xs, G a = some (.lst xs) ∧ P xs) ↔ P ds := by
  constructor
  · rintro ⟨xs, e, p⟩
    rw [h] at e; cases e; exact p
  · exact fun p => ⟨ds, h, p⟩
end
theorem list_lst {G : DG} {Q : DK} {a : Addr} {xs : List D} (h : G a = some (.lst xs)) (k : kNew G (.lst xs) Q) : listDD [.ref a] G Q := .inl ⟨xs, h, k⟩
theorem list_dic {G : DG} {Q : DK} {a : Addr} {kvs : List (D × D)} (h : G a = some (.dic kvs)) (t : tupKeys kvs = true) (k : kNew G (.lst (kvs.map (·.1))) Q) : listDD [.ref a] G Q := .inr ⟨kvs, h, t, k⟩
theorem val_lst {G : DG} {QI : DIt → DG → Prop} {a : Addr} {ds : List D} (h : G a = some (.lst ds)) (k : QI ⟨ds, fun G' => G' a = some (.lst ds)⟩ G) : diVal (.ref a) G QI := ⟨ds, h, k⟩
/-! ### stores that grow -/
/-- all but f is kept -/
def Ext (f : Addr) (G G' : DG) : Prop := ∀ a o, a ≠ f → G a = some o → G' a = some o
def Keep (G G' : DG) : Prop := ∀ a o, G a = some o → G' a = some o
theorem Ext.refl {f : Addr} {G : DG} : Ext f G G := fun _ _ _ h => h
theorem Ext.trans {f : Addr} {G G1 G2 : DG} (a : Ext f G G1) (b : Ext f G1 G2) : Ext f G G2 := fun x o n h => b x o n (a x o n h)
theorem Keep.refl {G : DG} : Keep G G := fun _ _ h => h
theorem Keep.trans {G G1 G2 : DG} (a : Keep G G1) (b : Keep G1 G2) : Keep G G2 := fun x o h => b x o (a x o h)
theorem Keep.ext {f : Addr} {G G1 : DG} (a : Keep G G1) : Ext f G G1 := fun x o _ h => a x o h
theorem keep_new {G : DG} {p : Addr} {o : DO} (h : G p = none) : Keep G (G.upd p o) := fun a u e => by
  have n : a ≠ p := fun q => by rw [q, h] at e; cases e
  rw [gupd_ne n]; exact e
theorem ext_upd {G : DG} {p : Addr} {o : DO} : Ext p G (G.upd p o) := fun a u n e => by rw [gupd_ne n]; exact e
theorem new_ {G : DG} {o : DO} {Q : DK} (h : ∀ p G', G p = none → G' p = some o → Keep G G' → Q (.ref p) G') : kNew G o Q := fun p hp => h p _ hp gupd_same (keep_new hp)
theorem ne_new {G : DG} {p f : Addr} {o : DO} (hp : G p = none) (hf : G f = some o) : p ≠ f := fun e => by rw [e, hf] at hp; cases hp
/-- the feed: two numbers, not below zero -/
def Feed (f : Addr) (G : DG) : Prop := ∃ g m : Int, 0 ≤ g ∧ 0 ≤ m ∧ G f = some (.lst [.int g, .int m])
theorem Feed.keep {f : Addr} {G G' : DG} (h : Feed f G) (k : Keep G G') : Feed f G' := by
  obtain ⟨g, m, a, b, e⟩ := h
  exact ⟨g, m, a, b, k _ _ e⟩
theorem Feed.ne {f p : Addr} {G : DG} (h : Feed f G) (hp : G p = none) : p ≠ f := by
  obtain ⟨g, m, a, b, e⟩ := h
  exact ne_new hp e
/-! ### == of what stands in D -/
theorem eq_imm {neg : Bool} {x y : D} {G : DG} {Q : DK} (hx : imm x = true) (hy : imm y = true) (sx : SeqAt.shaped (toPy x) = true) (sy : SeqAt.shaped (toPy y) = true) (h : Q (.bl (if neg then !PyData.eqv (toPy x) (toPy y) else PyData.eqv (toPy x) (toPy y))) G) : eqD neg x y G Q :=
  ⟨_, _, imm_py G hx, imm_py G hy, sx, sy, h⟩
theorem eq_lst {neg : Bool} {a b : Addr} {xs ys : List D} {G : DG} {Q : DK} (ha : G a = some (.lst xs)) (hb : G b = some (.lst ys)) (hx : imms xs = true) (hy : imms ys = true) (sx : SeqAt.shaped (.list (toPys xs)) = true) (sy : SeqAt.shaped (.list (toPys ys)) = true) (h : Q (.bl (if neg then !PyData.eqvAll (toPys xs) (toPys ys) else PyData.eqvAll (toPys xs) (toPys ys))) G) : eqD neg (.ref a) (.ref b) G Q :=
  ⟨_, _, .lst ha (imms_py G hx), .lst hb (imms_py G hy), sx, sy, by simpa only [PyData.eqv] using h⟩
end FD

/-! FD11: loops by an invariant; == as an equation; small facts. -/
namespace FD
open PySem L2
theorem py_int {G : DG} {i : Int} {p : PyData} (h : Py G (.int i) p) : p = .int i := by cases h; rfl
theorem py_str {G : DG} {x : Str} {p : PyData} (h : Py G (.str x) p) : p = .str x := by cases h; rfl
theorem py_bl {G : DG} {b : Bool} {p : PyData} (h : Py G (.bl b) p) : p = .bool b := by cases h; rfl
theorem shaped_int {i : Int} : SeqAt.shaped (.int i) = true := by simp [SeqAt.shaped, PyData.canLay0, PyData.depth]
theorem shaped_bool {i : Bool} : SeqAt.shaped (.bool i) = true := by simp [SeqAt.shaped, PyData.canLay0, PyData.depth]
theorem shaped_str {s : Str} : SeqAt.shaped (.str s) = PyData.strOk s := by simp [SeqAt.shaped, PyData.canLay0, PyData.depth]
theorem eq_int {neg : Bool} {i j : Int} {G : DG} {Q : DK} : eqD neg (.int i) (.int j) G Q = Q (.bl (if neg then !(i == j) else (i == j))) G := by
  apply propext
  constructor
  · rintro ⟨p, q, hp, hq, _, _, h⟩
    rw [py_int hp, py_int hq] at h
    simpa only [PyData.eqv] using h
  · intro h
    exact ⟨_, _, .int i, .int j, shaped_int, shaped_int, by simpa only [PyData.eqv] using h⟩
theorem eq_bl {neg : Bool} {i j : Bool} {G : DG} {Q : DK} : eqD neg (.bl i) (.bl j) G Q = Q (.bl (if neg then !(i == j) else (i == j))) G := by
  apply propext
  constructor
  · rintro ⟨p, q, hp, hq, _, _, h⟩
    rw [py_bl hp, py_bl hq] at h
    simpa only [PyData.eqv] using h
  · intro h
    exact ⟨_, _, .bl i, .bl j, shaped_bool, shaped_bool, by simpa only [PyData.eqv] using h⟩
theorem eq_int0 {i j : Int} {G : DG} {Q : DK} : eqD false (.int i) (.int j) G Q = Q (.bl (i == j)) G := eq_int
theorem eq_int1 {i j : Int} {G : DG} {Q : DK} : eqD true (.int i) (.int j) G Q = Q (.bl (!(i == j))) G := eq_int
theorem eq_bl0 {i j : Bool} {G : DG} {Q : DK} : eqD false (.bl i) (.bl j) G Q = Q (.bl (i == j)) G := eq_bl
theorem eq_bl1 {i j : Bool} {G : DG} {Q : DK} : eqD true (.bl i) (.bl j) G Q = Q (.bl (!(i == j))) G := eq_bl
/-! ### loops -/
theorem forGo_inv {chk : DG → Prop} {g : DGt} {b : DS} {E : DEnds} (Inv : List D → DSt → DG → Prop)
    (hc : ∀ ds ρ G, Inv ds ρ G → chk G)
    (hs : ∀ d ds ρ G (X : DSt → DG → Prop), Inv (d :: ds) ρ G → (∀ ρ' G', Inv ds ρ' G' → X ρ' G') → g d ρ G fun ρ' G' => b { E with nx := X, ct := X, bk := E.nx } ρ' G')
    (he : ∀ ρ G, Inv [] ρ G → E.nx ρ G) : ∀ (ds : List D) (ρ : DSt) (G : DG), Inv ds ρ G → forGo chk g b E ds ρ G
  | [], ρ, G, h => ⟨hc _ _ _ h, he ρ G h⟩
  | d :: ds, ρ, G, h => ⟨hc _ _ _ h, hs d ds ρ G _ h fun ρ' G' q => forGo_inv Inv hc hs he ds ρ' G' q⟩
theorem lcGo_inv {chk : DG → Prop} {g : DGt} {te : DE} {ρ : DSt} {fin : List D → DG → Prop} (I : DG → Prop) (P : D → D → Prop)
    (hc : ∀ G, I G → chk G) : ∀ (items acc : List D) (G : DG),
    (∀ d, d ∈ items → ∀ G K, I G → (∀ y G', P d y → I G' → K y G') → g d ρ G fun ρ2 G2 => te ρ2 G2 K) →
    I G → acc.length + items.length ≤ sizeLine →
    (∀ ys G', Paired P items ys → I G' → fin (acc ++ ys) G') → lcGo chk g dYes te ρ fin items acc G
  | [], acc, G, hs, hI, hl, hf => ⟨hc _ hI, by have h := hf [] G .nil hI; rwa [List.append_nil] at h⟩
  | d :: ds, acc, G, hs, hI, hl, hf => by
    rw [List.length_cons] at hl
    refine ⟨hc _ hI, ?_⟩
    refine hs d (List.mem_cons_self ..) G (fun y G4 => acc.length < sizeLine ∧ lcGo chk g dYes te ρ fin ds (acc ++ [y]) G4) hI fun y G' hp hI' => ⟨by omega, ?_⟩
    refine lcGo_inv I P hc ds (acc ++ [y]) G' (fun e he => hs e (List.mem_cons_of_mem _ he)) hI' (by rw [List.length_append]; show acc.length + 1 + ds.length ≤ sizeLine; omega) fun ys G'' hq hI'' => ?_
    have h := hf (y :: ys) G'' (.cons hp hq) hI''
    rwa [List.append_assoc]
theorem paired_len {α β : Type} {R : α → β → Prop} : ∀ {xs : List α} {ys : List β}, Paired R xs ys → ys.length = xs.length
  | _, _, .nil => rfl
  | _, _, .cons _ t => by rw [List.length_cons, List.length_cons, paired_len t]
theorem paired_all {α β : Type} {P : β → Prop} : ∀ {xs : List α} {ys : List β}, Paired (fun _ y => P y) xs ys → ∀ y ∈ ys, P y
  | _, _, .nil, y, h => nomatch h
  | _, _, .cons q t, y, h => by
    rcases List.mem_cons.mp h with rfl | h
    · exact q
    · exact paired_all t y h
theorem paired_map {α β : Type} {f : α → β} : ∀ {xs : List α} {ys : List β}, Paired (fun x y => y = f x) xs ys → ys = xs.map f
  | _, _, .nil => rfl
  | _, _, .cons q t => by rw [List.map_cons, q, paired_map t]
theorem whileGo_inv {c : DT} {b : DS} {E : DEnds} (Inv : Nat → DSt → DG → Prop)
    (hs : ∀ n ρ G (X : DSt → DG → Prop), Inv n ρ G → (∀ m ρ' G', m < n → Inv m ρ' G' → X ρ' G') → c ρ G fun k G1 => if k = true then b { E with nx := X, ct := X, bk := E.nx } ρ G1 else E.nx ρ G1) :
    ∀ (k n : Nat) (ρ : DSt) (G : DG), n ≤ k → Inv n ρ G → whileGo c b E (k + 1) ρ G
  | 0, n, ρ, G, hk, h => hs n ρ G (whileGo c b E 0) h fun m ρ' G' hm _ => by omega
  | k + 1, n, ρ, G, hk, h => hs n ρ G (whileGo c b E (k + 1)) h fun m ρ' G' hm q => whileGo_inv Inv hs k m ρ' G' (by omega) q
theorem while_inv {c : DT} {b : DS} {E : DEnds} (Inv : Nat → DSt → DG → Prop)
    (hs : ∀ n ρ G (X : DSt → DG → Prop), Inv n ρ G → (∀ m ρ' G', m < n → Inv m ρ' G' → X ρ' G') → c ρ G fun k G1 => if k = true then b { E with nx := X, ct := X, bk := E.nx } ρ G1 else E.nx ρ G1)
    {n : Nat} {ρ : DSt} {G : DG} (h : Inv n ρ G) : dWhile c b E ρ G := ⟨n + 1, whileGo_inv Inv hs n n ρ G (Nat.le_refl _) h⟩
theorem rng_mem {n : Nat} {d : D} {lo : Int} (h : d ∈ rngD lo n) : ∃ i : Nat, i < n ∧ d = .int (lo + (i : Int)) := by
  obtain ⟨i, hi, e⟩ := List.mem_map.mp h
  exact ⟨i, List.mem_range.mp hi, e.symm⟩
/-! ### stores -/
theorem Ext.back {f p : Addr} {G0 G : DG} (x : Ext f G0 G) (F : Feed f G) (h : G p = none) : G0 p = none := by
  cases e : G0 p with
  | none => rfl
  | some o =>
    by_cases q : p = f
    · obtain ⟨g, m, _, _, e2⟩ := F
      rw [← q, h] at e2; cases e2
    · have := x p o q e
      rw [h] at this; cases this
theorem Ext.updN {f p : Addr} {G0 G : DG} {o : DO} (x : Ext f G0 G) (h : G0 p = none) : Ext f G0 (G.upd p o) := fun a u n e => by
  have q : a ≠ p := fun z => by rw [z, h] at e; cases e
  rw [gupd_ne q]; exact x a u n e
theorem Feed.upd {f p : Addr} {G : DG} {o : DO} (F : Feed f G) (h : p ≠ f) : Feed f (G.upd p o) := by
  obtain ⟨g, m, a, b, e⟩ := F
  exact ⟨g, m, a, b, by rw [gupd_ne (Ne.symm h)]; exact e⟩
theorem Ext.get {f a : Addr} {G G' : DG} {o : DO} (x : Ext f G G') (n : a ≠ f) (h : G a = some o) : G' a = some o := x a o n h
theorem append_g {l : Addr} {y : D} {xs : List D} {G : DG} {Q : DK} (e : G l = some (.lst xs)) (hl : xs.length < sizeLine) (k : ∀ G', G' l = some (.lst (xs ++ [y])) → Ext l G G' → Q .non G') : appendD (.ref l) [y] G Q := ⟨xs, e, hl, k _ gupd_same ext_upd⟩
theorem Feed.ext {f l : Addr} {G G' : DG} (F : Feed f G) (x : Ext l G G') (n : l ≠ f) : Feed f G' := by
  obtain ⟨g, m, a, b, e⟩ := F
  exact ⟨g, m, a, b, x _ _ (Ne.symm n) e⟩
theorem Ext.own {f l : Addr} {G0 G G' : DG} (x : Ext f G0 G) (h : G0 l = none) (y : Ext l G G') : Ext f G0 G' := fun a o n e => by
  have q : a ≠ l := fun z => by rw [z, h] at e; cases e
  exact y a o q (x a o n e)
/-! ### parts -/
theorem cut_mem {α : Type} {xs : List α} {lo hi : Option Int} {x : α} (h : x ∈ cutD xs lo hi) : x ∈ xs := List.mem_of_mem_drop (List.mem_of_mem_take h)
theorem cut_len {α : Type} {xs : List α} {lo hi : Option Int} : (cutD xs lo hi).length ≤ xs.length := by
  unfold cutD
  rw [List.length_take, List.length_drop]
  omega
theorem cut_len_hi {α : Type} {xs : List α} {k : Nat} : (cutD xs none (some (k : Int))).length ≤ k := by
  unfold cutD
  rw [HT.sIx_nat, List.length_take]
  omega
theorem cut_hi {α : Type} {xs : List α} {k : Nat} : cutD xs none (some (k : Int)) = xs.take k := by
  unfold cutD
  rw [HT.sIx_nat, HT.sIx_none, List.drop_zero, Nat.sub_zero]
  by_cases h : k ≤ xs.length
  · rw [Nat.min_eq_left h]
  · rw [Nat.min_eq_right (by omega), List.take_of_length_le (Nat.le_refl _), List.take_of_length_le (by omega)]
end FD

/-! FD12: plain data: what == and isinstance say of them. -/
namespace FD
open PySem L2
/-- plain data of at most k levels -/
def Pl : Nat → D → Prop
  | _, .non => True
  | _, .bl _ => True
  | _, .int _ => True
  | _, .str s => PyData.strOk s = true
  | 0, .tup _ => False
  | k + 1, .tup ds => ds.length ≤ sizeLine ∧ ∀ d ∈ ds, Pl k d
  | _, .fl _ => False
  | _, .ref _ => False
  | _, .ty _ => False
theorem pl_tup {k : Nat} {ds : List D} : Pl (k + 1) (.tup ds) ↔ ds.length ≤ sizeLine ∧ ∀ d ∈ ds, Pl k d := by rw [Pl]
theorem Pl.succ : ∀ {k : Nat} {d : D}, Pl k d → Pl (k + 1) d
  | k, .non, h => by rw [Pl]; trivial
  | k, .bl _, h => by rw [Pl]; trivial
  | k, .int _, h => by rw [Pl]; trivial
  | k, .str s, h => by rw [Pl] at h ⊢; exact h
  | 0, .tup _, h => by rw [Pl] at h; exact h.elim
  | k + 1, .tup ds, h => by
    rw [pl_tup] at h ⊢
    exact ⟨h.1, fun d hd => Pl.succ (h.2 d hd)⟩
  | 0, .fl _, h => by rw [Pl] at h; exact h.elim
  | 0, .ref _, h => by rw [Pl] at h; exact h.elim
  | 0, .ty _, h => by rw [Pl] at h; exact h.elim
  | _ + 1, .fl _, h => by rw [Pl] at h; exact h.elim
  | _ + 1, .ref _, h => by rw [Pl] at h; exact h.elim
  | _ + 1, .ty _, h => by rw [Pl] at h; exact h.elim
theorem Pl.mono {k m : Nat} {d : D} (h : Pl k d) (hm : k ≤ m) : Pl m d := by
  induction hm with
  | refl => exact h
  | step _ ih => exact ih.succ
theorem pl_items {k : Nat} (ih : ∀ d, Pl k d → imm d = true ∧ (toPy d).canLay0 = true ∧ (toPy d).depth ≤ k) : ∀ ds : List D, (∀ d ∈ ds, Pl k d) → imms ds = true ∧ PyData.canLayAll0 (toPys ds) = true ∧ PyData.depthAll (toPys ds) ≤ k
  | [], _ => ⟨by rw [imms], by rw [toPys, PyData.canLayAll0], by rw [toPys, PyData.depthAll]; omega⟩
  | d :: ds, h => by
    obtain ⟨a, b, c⟩ := ih d (h d (List.mem_cons_self ..))
    obtain ⟨a', b', c'⟩ := pl_items ih ds fun e he => h e (List.mem_cons_of_mem _ he)
    refine ⟨by rw [imms, a, a']; rfl, by rw [toPys, PyData.canLayAll0, b, b']; rfl, by rw [toPys, PyData.depthAll]; omega⟩
theorem Pl.im : ∀ {k : Nat} (d : D), Pl k d → imm d = true ∧ (toPy d).canLay0 = true ∧ (toPy d).depth ≤ k
  | k, .non, h => ⟨by rw [imm] <;> intros <;> contradiction, by rw [toPy, PyData.canLay0], by rw [toPy, PyData.depth]; omega⟩
  | k, .bl _, h => ⟨by rw [imm] <;> intros <;> contradiction, by rw [toPy, PyData.canLay0], by rw [toPy, PyData.depth]; omega⟩
  | k, .int _, h => ⟨by rw [imm] <;> intros <;> contradiction, by rw [toPy, PyData.canLay0], by rw [toPy, PyData.depth]; omega⟩
  | k, .str s, h => by
    rw [Pl] at h
    exact ⟨by rw [imm] <;> intros <;> contradiction, by rw [toPy, PyData.canLay0]; exact h, by rw [toPy, PyData.depth]; omega⟩
  | 0, .tup _, h => by rw [Pl] at h; exact h.elim
  | k + 1, .tup ds, h => by
    obtain ⟨a, b, c⟩ := pl_items (fun d => Pl.im (k := k) d) ds (pl_tup.mp h).2
    exact ⟨by rw [imm]; exact a, by rw [toPy, PyData.canLay0]; exact b, by rw [toPy, PyData.depth]; omega⟩
  | 0, .fl _, h => by rw [Pl] at h; exact h.elim
  | 0, .ref _, h => by rw [Pl] at h; exact h.elim
  | 0, .ty _, h => by rw [Pl] at h; exact h.elim
  | _ + 1, .fl _, h => by rw [Pl] at h; exact h.elim
  | _ + 1, .ref _, h => by rw [Pl] at h; exact h.elim
  | _ + 1, .ty _, h => by rw [Pl] at h; exact h.elim
theorem Pl.all {k : Nat} {ds : List D} (h : ∀ d ∈ ds, Pl k d) : imms ds = true ∧ PyData.canLayAll0 (toPys ds) = true ∧ PyData.depthAll (toPys ds) ≤ k := pl_items (fun d => Pl.im d) ds h
theorem Pl.shp {k : Nat} {d : D} (h : Pl k d) (hk : k ≤ 64) : SeqAt.shaped (toPy d) = true := by
  obtain ⟨_, b, c⟩ := h.im
  unfold SeqAt.shaped
  rw [b, decide_eq_true (by omega)]; rfl
theorem shp_lst {k : Nat} {ds : List D} (h : ∀ d ∈ ds, Pl k d) (hk : k ≤ 63) : SeqAt.shaped (.list (toPys ds)) = true := by
  obtain ⟨_, b, c⟩ := Pl.all h
  unfold SeqAt.shaped
  rw [PyData.canLay0, b, PyData.depth, decide_eq_true (by omega)]; rfl
theorem Pl.refl {k : Nat} {d : D} (h : Pl k d) : PyData.eqv (toPy d) (toPy d) = true := SeqAt.eqv_refl _ h.im.2.1
theorem eqv_refls {k : Nat} {ds : List D} (h : ∀ d ∈ ds, Pl k d) : PyData.eqvAll (toPys ds) (toPys ds) = true := by
  have q := SeqAt.eqv_refl (.list (toPys ds)) (by rw [PyData.canLay0]; exact (Pl.all h).2.1)
  rwa [PyData.eqv] at q
section
variable {G : DG} {Q : DK}
theorem eq_pl {neg : Bool} {k m : Nat} {x y : D} (hx : Pl k x) (hy : Pl m y) (hk : k ≤ 64) (hm : m ≤ 64) (h : Q (.bl (if neg then !PyData.eqv (toPy x) (toPy y) else PyData.eqv (toPy x) (toPy y))) G) : eqD neg x y G Q :=
  eq_imm hx.im.1 hy.im.1 (hx.shp hk) (hy.shp hm) h
theorem eq_pls {neg : Bool} {k m : Nat} {a b : Addr} {xs ys : List D} (ha : G a = some (.lst xs)) (hb : G b = some (.lst ys)) (hx : ∀ d ∈ xs, Pl k d) (hy : ∀ d ∈ ys, Pl m d) (hk : k ≤ 63) (hm : m ≤ 63) (h : Q (.bl (if neg then !PyData.eqvAll (toPys xs) (toPys ys) else PyData.eqvAll (toPys xs) (toPys ys))) G) : eqD neg (.ref a) (.ref b) G Q :=
  eq_lst ha hb (Pl.all hx).1 (Pl.all hy).1 (shp_lst hx hk) (shp_lst hy hm) h
theorem eq_pl0 {k m : Nat} {x y : D} (hx : Pl k x) (hy : Pl m y) (hk : k ≤ 64) (hm : m ≤ 64) (h : Q (.bl (PyData.eqv (toPy x) (toPy y))) G) : eqD false x y G Q := eq_pl hx hy hk hm h
theorem eq_pl1 {k m : Nat} {x y : D} (hx : Pl k x) (hy : Pl m y) (hk : k ≤ 64) (hm : m ≤ 64) (h : Q (.bl (!PyData.eqv (toPy x) (toPy y))) G) : eqD true x y G Q := eq_pl hx hy hk hm h
theorem eq_pls0 {k m : Nat} {a b : Addr} {xs ys : List D} (ha : G a = some (.lst xs)) (hb : G b = some (.lst ys)) (hx : ∀ d ∈ xs, Pl k d) (hy : ∀ d ∈ ys, Pl m d) (hk : k ≤ 63) (hm : m ≤ 63) (h : Q (.bl (PyData.eqvAll (toPys xs) (toPys ys))) G) : eqD false (.ref a) (.ref b) G Q := eq_pls ha hb hx hy hk hm h
theorem eq_pls1 {k m : Nat} {a b : Addr} {xs ys : List D} (ha : G a = some (.lst xs)) (hb : G b = some (.lst ys)) (hx : ∀ d ∈ xs, Pl k d) (hy : ∀ d ∈ ys, Pl m d) (hk : k ≤ 63) (hm : m ≤ 63) (h : Q (.bl (!PyData.eqvAll (toPys xs) (toPys ys))) G) : eqD true (.ref a) (.ref b) G Q := eq_pls ha hb hx hy hk hm h
theorem cut2 {α : Type} {a b : α} {r : List α} : cutD (a :: b :: r) none (some 2) = [a, b] := cut_hi (k := 2)
theorem isi_ {x : D} {n : String} {b : Bool} (h : isi1 G x (.ty n) = some b) : isiD [x, .ty n] G Q = Q (.bl b) G := by
  show (match isi1 G x (.ty n) with | some b => Q (.bl b) G | Option.none => False) = _
  rw [h]
theorem isis_ {x : D} {cs : List D} {b : Bool} (h : isiAny G x cs = some b) (h1 : allTy cs = true) (h2 : cs ≠ []) : isiD [x, .tup cs] G Q = Q (.bl b) G := by
  show ((allTy cs = true ∧ cs ≠ []) ∧ match isiAny G x cs with | some b => Q (.bl b) G | Option.none => False) = _
  rw [h]
  exact propext ⟨fun h => h.2, fun h => ⟨⟨h1, h2⟩, h⟩⟩
theorem isi1_of {x : D} {n : String} {a c : Ty} (h : tyD G x = some a) (hn : Ty.of n = some c) : isi1 G x (.ty n) = some (Ty.isa a c) := by
  unfold isi1
  rw [h]
  show (Ty.of n).map (Ty.isa a) = _
  rw [hn]; rfl
theorem isi_ty {x : D} {n : String} {a c : Ty} (h : tyD G x = some a) (hn : Ty.of n = some c) : isiD [x, .ty n] G Q = Q (.bl (Ty.isa a c)) G := isi_ (isi1_of h hn)
theorem isi_ty2 {x : D} {n m : String} {a c e : Ty} (h : tyD G x = some a) (hn : Ty.of n = some c) (hm : Ty.of m = some e) : isiD [x, .tup [.ty n, .ty m]] G Q = Q (.bl (Ty.isa a c || Ty.isa a e)) G := by
  refine isis_ ?_ rfl (by simp)
  rw [isiAny, isi1_of h hn, isiAny, isi1_of h hm, isiAny]
  cases Ty.isa a c <;> cases Ty.isa a e <;> rfl
theorem ty_bool : Ty.of "bool" = some .bool := by decide
theorem ty_int : Ty.of "int" = some .int := by decide
theorem ty_str : Ty.of "str" = some .str := by decide
theorem ty_tuple : Ty.of "tuple" = some .tuple := by decide
theorem ty_list : Ty.of "list" = some .list := by decide
theorem tyd_lst {a : Addr} {xs : List D} (h : G a = some (.lst xs)) : tyD G (.ref a) = some .list := by
  show (match G a with | some (.lst _) => some Ty.list | _ => Option.none) = _
  rw [h]
/-- the type of a plain leaf -/
theorem pl_ty {k : Nat} {d : D} (h : Pl k d) : ∃ a, tyD G d = some a ∧ a ≠ .list := by
  cases d with
  | non => exact ⟨_, rfl, by decide⟩
  | bl b => exact ⟨_, rfl, by decide⟩
  | int b => exact ⟨_, rfl, by decide⟩
  | str b => exact ⟨_, rfl, by decide⟩
  | tup b => exact ⟨_, rfl, by decide⟩
  | fl b => cases k <;> rw [Pl] at h <;> exact h.elim
  | ref b => cases k <;> rw [Pl] at h <;> exact h.elim
  | ty b => cases k <;> rw [Pl] at h <;> exact h.elim
theorem all_true {a : Addr} {n : Nat} (h : G a = some (.lst (List.replicate n (.bl true)))) (q : Q (.bl true) G) : allD [.ref a] G Q := by
  refine ⟨List.replicate n true, by rw [List.map_replicate]; exact h, ?_⟩
  rw [show (List.replicate n true).all id = true from List.all_eq_true.mpr fun x hx => by rw [List.eq_of_mem_replicate hx]; rfl]
  exact q
end
end FD

/-! FD13: data as keys: dedupe by a dict, sort by a key. -/
namespace FD
open PySem L2
/-- plain data without truth values, of at most k levels -/
def Pk : Nat → D → Prop
  | _, .non => True
  | _, .bl _ => False
  | _, .int _ => True
  | _, .str s => PyData.strOk s = true
  | 0, .tup _ => False
  | k + 1, .tup ds => ds.length ≤ sizeLine ∧ ∀ d ∈ ds, Pk k d
  | _, .fl _ => False
  | _, .ref _ => False
  | _, .ty _ => False
theorem pk_tup {k : Nat} {ds : List D} : Pk (k + 1) (.tup ds) ↔ ds.length ≤ sizeLine ∧ ∀ d ∈ ds, Pk k d := by rw [Pk]
theorem pk_str {k : Nat} {s : Str} : Pk k (.str s) ↔ PyData.strOk s = true := by cases k <;> rw [Pk]
theorem pk_non {k : Nat} : Pk k .non := by cases k <;> rw [Pk] <;> trivial
theorem pk_int {k : Nat} {i : Int} : Pk k (.int i) := by cases k <;> rw [Pk] <;> trivial
theorem Pk.no {k : Nat} {d : D} (h : Pk k d) : (∃ ds, d = .tup ds) ∨ d = .non ∨ (∃ i, d = .int i) ∨ ∃ s, d = .str s ∧ PyData.strOk s = true := by
  cases d with
  | tup ds => exact .inl ⟨ds, rfl⟩
  | non => exact .inr (.inl rfl)
  | int i => exact .inr (.inr (.inl ⟨i, rfl⟩))
  | str s => exact .inr (.inr (.inr ⟨s, rfl, pk_str.mp h⟩))
  | bl _ => cases k <;> rw [Pk] at h <;> exact h.elim
  | fl _ => cases k <;> rw [Pk] at h <;> exact h.elim
  | ref _ => cases k <;> rw [Pk] at h <;> exact h.elim
  | ty _ => cases k <;> rw [Pk] at h <;> exact h.elim
theorem Pk.pl : ∀ {k : Nat} {d : D}, Pk k d → Pl k d
  | 0, d, h => by
    rcases h.no with ⟨ds, rfl⟩ | rfl | ⟨i, rfl⟩ | ⟨s, rfl, e⟩
    · rw [Pk] at h; exact h.elim
    · rw [Pl]; trivial
    · rw [Pl]; trivial
    · rw [Pl]; exact e
  | k + 1, d, h => by
    rcases h.no with ⟨ds, rfl⟩ | rfl | ⟨i, rfl⟩ | ⟨s, rfl, e⟩
    · obtain ⟨a, b⟩ := pk_tup.mp h
      exact pl_tup.mpr ⟨a, fun d hd => (b d hd).pl⟩
    · rw [Pl]; trivial
    · rw [Pl]; trivial
    · rw [Pl]; exact e
theorem pk_keys {k : Nat} (ih : ∀ d, Pk k d → ∃ n, nkey d = some n ∧ n.depth ≤ k) : ∀ ds : List D, (∀ d ∈ ds, Pk k d) → ∃ ns, nkeys ds = some ns ∧ NestedKey.depthAll ns ≤ k
  | [], _ => ⟨[], by rw [nkeys], by rw [NestedKey.depthAll]; omega⟩
  | d :: ds, h => by
    obtain ⟨n, e, a⟩ := ih d (h d (List.mem_cons_self ..))
    obtain ⟨ns, e', a'⟩ := pk_keys ih ds fun x hx => h x (List.mem_cons_of_mem _ hx)
    exact ⟨n :: ns, by rw [nkeys, e, e'], by rw [NestedKey.depthAll]; omega⟩
theorem Pk.key : ∀ {k : Nat} (d : D), Pk k d → ∃ n, nkey d = some n ∧ n.depth ≤ k
  | 0, d, h => by
    rcases h.no with ⟨ds, rfl⟩ | rfl | ⟨i, rfl⟩ | ⟨s, rfl, e⟩
    · rw [Pk] at h; exact h.elim
    · exact ⟨_, by rw [nkey], by rw [NestedKey.depth]; omega⟩
    · exact ⟨_, by rw [nkey], by rw [NestedKey.depth]; omega⟩
    · exact ⟨_, by rw [nkey], by rw [NestedKey.depth]; omega⟩
  | k + 1, d, h => by
    rcases h.no with ⟨ds, rfl⟩ | rfl | ⟨i, rfl⟩ | ⟨s, rfl, e⟩
    · obtain ⟨ns, e, a⟩ := pk_keys (fun d => Pk.key (k := k) d) ds (pk_tup.mp h).2
      exact ⟨.tup ns, by rw [nkey, e]; rfl, by rw [NestedKey.depth]; omega⟩
    · exact ⟨_, by rw [nkey], by rw [NestedKey.depth]; omega⟩
    · exact ⟨_, by rw [nkey], by rw [NestedKey.depth]; omega⟩
    · exact ⟨_, by rw [nkey], by rw [NestedKey.depth]; omega⟩
theorem pk_injs {k : Nat} (ih : ∀ a b, Pk k a → Pk k b → nkey a = nkey b → a = b) : ∀ as bs : List D, (∀ d ∈ as, Pk k d) → (∀ d ∈ bs, Pk k d) → nkeys as = nkeys bs → as = bs
  | [], [], _, _, _ => rfl
  | [], b :: bs, _, hb, e => by
    obtain ⟨ns, e', _⟩ := pk_keys (fun d => Pk.key d) (b :: bs) hb
    obtain ⟨n, q, _⟩ := Pk.key b (hb b (List.mem_cons_self ..))
    obtain ⟨m, q', _⟩ := pk_keys (fun d => Pk.key d) bs fun x hx => hb x (List.mem_cons_of_mem _ hx)
    rw [nkeys, nkeys, q, q'] at e
    cases e
  | b :: bs, [], hb, _, e => by
    obtain ⟨n, q, _⟩ := Pk.key b (hb b (List.mem_cons_self ..))
    obtain ⟨m, q', _⟩ := pk_keys (fun d => Pk.key d) bs fun x hx => hb x (List.mem_cons_of_mem _ hx)
    rw [nkeys, nkeys, q, q'] at e
    cases e
  | a :: as, b :: bs, ha, hb, e => by
    obtain ⟨n, q, _⟩ := Pk.key b (hb b (List.mem_cons_self ..))
    obtain ⟨m, q', _⟩ := pk_keys (fun d => Pk.key d) bs fun x hx => hb x (List.mem_cons_of_mem _ hx)
    obtain ⟨n2, q2, _⟩ := Pk.key a (ha a (List.mem_cons_self ..))
    obtain ⟨m2, q2', _⟩ := pk_keys (fun d => Pk.key d) as fun x hx => ha x (List.mem_cons_of_mem _ hx)
    rw [nkeys, nkeys, q, q', q2, q2'] at e
    injection e with e
    injection e with e1 e2
    rw [ih a b (ha a (List.mem_cons_self ..)) (hb b (List.mem_cons_self ..)) (by rw [q, q2, e1]), pk_injs ih as bs (fun x hx => ha x (List.mem_cons_of_mem _ hx)) (fun x hx => hb x (List.mem_cons_of_mem _ hx)) (by rw [q', q2', e2])]
theorem Pk.inj : ∀ {k : Nat} (a b : D), Pk k a → Pk k b → nkey a = nkey b → a = b
  | k, a, b, ha, hb, e => by
    rcases ha.no with ⟨as, rfl⟩ | rfl | ⟨i, rfl⟩ | ⟨s, rfl, _⟩ <;> rcases hb.no with ⟨bs, rfl⟩ | rfl | ⟨j, rfl⟩ | ⟨t, rfl, _⟩
    · cases k with
      | zero => rw [Pk] at ha; exact ha.elim
      | succ k =>
        have ha' := (pk_tup.mp ha).2
        have hb' := (pk_tup.mp hb).2
        obtain ⟨ns, q, _⟩ := pk_keys (fun d => Pk.key d) as ha'
        obtain ⟨ms, q', _⟩ := pk_keys (fun d => Pk.key d) bs hb'
        rw [nkey, nkey, q, q'] at e
        injection e with e
        injection e with e
        rw [pk_injs (fun a b => Pk.inj (k := k) a b) as bs ha' hb' (by rw [q, q', e])]
    all_goals (try (obtain ⟨n1, q1, _⟩ := Pk.key _ ha; obtain ⟨n2, q2, _⟩ := Pk.key _ hb; first | rfl | (exfalso; cases k with | zero => (first | (rw [Pk] at ha; exact ha.elim) | (rw [Pk] at hb; exact hb.elim) | (simp only [nkey] at e; cases e)) | succ k => (first | (obtain ⟨ns, q, _⟩ := pk_keys (fun d => Pk.key d) _ (pk_tup.mp ha).2; rw [nkey, nkey, q] at e; cases e) | (obtain ⟨ns, q, _⟩ := pk_keys (fun d => Pk.key d) _ (pk_tup.mp hb).2; rw [nkey, nkey, q] at e; cases e) | (simp only [nkey] at e; cases e)))))
    all_goals (rw [nkey, nkey] at e; injection e with e; injection e with e; rw [e])
theorem keq_iff {k : Nat} {a b : D} (ha : Pk k a) (hb : Pk k b) : keq a b = true ↔ a = b := by
  unfold keq
  rw [decide_eq_true_iff]
  exact ⟨fun h => Pk.inj a b ha hb h, fun h => by rw [h]⟩
theorem Pk.ok {k : Nat} {ds : List D} (h : Pk k (.tup ds)) (hk : k ≤ 8) : okKey (.tup ds) = true := by
  obtain ⟨n, e, a⟩ := Pk.key _ h
  unfold okKey
  rw [e]
  show (isTup (.tup ds) && decide (n.depth ≤ 8)) = true
  rw [decide_eq_true (by omega)]; rfl
/-! ### dedupe -/
def ins1 (acc : List D) (x : D) : List D := if acc.any (fun a => keq a x) = true then acc else acc ++ [x]
def ddp : List D → List D → List D
  | acc, [] => acc
  | acc, x :: xs => ddp (ins1 acc x) xs
theorem ins1_mem {acc : List D} {x y : D} (h : y ∈ ins1 acc x) : y ∈ acc ∨ y = x := by
  unfold ins1 at h
  split at h
  · exact .inl h
  · rcases List.mem_append.mp h with h | h
    · exact .inl h
    · exact .inr (List.mem_singleton.mp h)
theorem ins1_len {acc : List D} {x : D} : (ins1 acc x).length ≤ acc.length + 1 := by
  unfold ins1
  split
  · omega
  · rw [List.length_append]; exact Nat.le_refl _
theorem dput_map {r v : D → D} {acc : List D} {x : D} (h : ∀ a ∈ acc, keq (r a) (r x) = keq a x ∧ (keq a x = true → a = x)) : dput (acc.map fun a => (r a, v a)) (r x) (v x) = (ins1 acc x).map fun a => (r a, v a) := by
  have e : (dget (acc.map fun a => (r a, v a)) (r x)).isSome = acc.any fun a => keq a x := by
    unfold dget
    rw [Option.isSome_map]
    induction acc with
    | nil => rfl
    | cons a acc ih =>
      have ih := ih fun b hb => h b (List.mem_cons_of_mem _ hb)
      have h1 := (h a (List.mem_cons_self ..)).1
      rw [List.map_cons, List.find?_cons, List.any_cons]
      simp only [h1]
      cases keq a x
      · exact ih
      · rfl
  unfold dput ins1
  rw [e]
  cases hq : acc.any fun a => keq a x with
  | false =>
    rw [if_neg (by decide), if_neg (by decide), List.map_append]; rfl
  | true =>
    rw [if_pos rfl, if_pos rfl, List.map_map]
    apply List.map_congr_left
    intro a ha
    show (if keq (r a) (r x) = true then ((r a), v x) else (r a, v a)) = (r a, v a)
    by_cases q : keq (r a) (r x) = true
    · rw [if_pos q]
      rw [(h a ha).2 (by rw [← (h a ha).1]; exact q)]
    · rw [if_neg q]
theorem dget_map {r v : D → D} {acc : List D} {x : D} (hx : x ∈ acc) (h : ∀ a ∈ acc, keq (r a) (r x) = true → a = x) (hr : keq (r x) (r x) = true) : dget (acc.map fun a => (r a, v a)) (r x) = some (v x) := by
  unfold dget
  induction acc with
  | nil => nomatch hx
  | cons a acc ih =>
    rw [List.map_cons, List.find?_cons]
    cases q : keq (r a) (r x) with
    | true =>
      rw [h a (List.mem_cons_self ..) q]
      rfl
    | false =>
      rcases List.mem_cons.mp hx with rfl | hx
      · rw [hr] at q; cases q
      · exact ih hx fun b hb => h b (List.mem_cons_of_mem _ hb)
theorem keq_refl {x : D} : keq x x = true := decide_eq_true rfl
theorem tupKeys_map {r v : D → D} {acc : List D} (h : ∀ a ∈ acc, isTup (r a) = true) : tupKeys (acc.map fun a => (r a, v a)) = true := by
  unfold tupKeys
  rw [List.all_map]
  exact List.all_eq_true.mpr h
/-! ### sorting by a key -/
theorem zip_map_self {r : D → D} : ∀ xs : List D, xs.zip (xs.map r) = xs.map fun x => (x, r x)
  | [] => rfl
  | x :: xs => by rw [List.map_cons, List.zip_cons_cons, List.map_cons, zip_map_self xs]
def srtOn (r : D → D) (xs : List D) : List D := xs.mergeSort fun a b => PySem.W.dataLe false toPy (r a) (r b)
theorem srt_map {r : D → D} {xs : List D} : srt (xs.map r) = (srtOn r xs).map r := by
  unfold srt srtOn
  exact (PySem.W.sort_maps r fun a _ b _ => rfl).symm
theorem srtBy_map {r : D → D} {xs : List D} : srtBy xs (xs.map r) = srtOn r xs := by
  unfold srtBy srtOn
  rw [zip_map_self]
  rw [← PySem.W.sort_maps (r := fun a b => PySem.W.dataLe false toPy (r a) (r b)) (s := PySem.W.dataLe false fun p : D × D => toPy p.2) (fun x => (x, r x)) (fun a _ b _ => rfl), List.map_map]
  exact List.map_id _
theorem srtOn_mem {r : D → D} {xs : List D} {x : D} : x ∈ srtOn r xs ↔ x ∈ xs := List.mem_mergeSort
theorem srtOn_len {r : D → D} {xs : List D} : (srtOn r xs).length = xs.length := List.length_mergeSort _
theorem alike_all : ∀ {xs ys : List PyData}, (∀ x ∈ xs, ∀ y ∈ ys, PySem.W.alike x y = true) → PySem.W.alikeAll xs ys = true
  | [], _, _ => by rw [PySem.W.alikeAll]
  | _ :: _, [], _ => by rw [PySem.W.alikeAll]
  | x :: xs, y :: ys, h => by
    rw [PySem.W.alikeAll, h x (List.mem_cons_self ..) y (List.mem_cons_self ..), alike_all fun a ha b hb => h a (List.mem_cons_of_mem _ ha) b (List.mem_cons_of_mem _ hb)]; rfl
theorem skGo_map {dsp : DSp} {r : D → D} {I : DG → Prop} {Q : List D → DG → Prop} : ∀ (xs ks : List D) (G : DG), (∀ x ∈ xs, ∀ {G : DG} {Q : DK}, I G → (∀ G', I G' → Q (r x) G') → dsp [x] G Q) → I G → (∀ G', I G' → Q (ks ++ xs.map r) G') → skGo dsp xs ks G Q
  | [], ks, G, _, hI, h => by
    have q := h G hI
    rwa [List.map_nil, List.append_nil] at q
  | x :: xs, ks, G, hs, hI, h => by
    show dsp [x] G fun k G' => skGo dsp xs (ks ++ [k]) G' Q
    refine hs x (List.mem_cons_self ..) hI fun G' hI' => ?_
    refine skGo_map xs _ G' (fun y hy => hs y (List.mem_cons_of_mem _ hy)) hI' fun G'' hI'' => ?_
    have q := h G'' hI''
    rwa [List.map_cons, ← List.singleton_append, ← List.append_assoc] at q
theorem popAt_g {l : Addr} {i : Int} {xs : List D} {G : DG} {Q : DK} (e : G l = some (.lst xs)) (h0 : 0 ≤ i) (h1 : i < xs.length) (h2 : xs.length ≤ sizeLine) (k : ∀ y xs' G', y ∈ xs → xs'.length + 1 = xs.length → (∀ x ∈ xs', x ∈ xs) → G' l = some (.lst xs') → Ext l G G' → Q y G') : popAtD (.ref l) [.int i] G Q := by
  have hj : i.toNat < xs.length := by omega
  refine ⟨xs, i.toNat, xs[i.toNat], e, ⟨by omega, by simp only [sizeLine] at h2; omega⟩, ?_, List.getElem?_eq_getElem hj, ?_⟩
  · unfold seqIndex?
    rw [if_neg (by omega : ¬ i < 0)]
    show (if (decide (0 ≤ i) && decide (i < (xs.length : Int))) = true then some i.toNat else none) = some i.toNat
    rw [decide_eq_true h0, decide_eq_true h1]; rfl
  · exact k _ _ _ (List.getElem_mem hj) (by rw [List.length_eraseIdx_of_lt hj]; omega) (fun x hx => List.mem_of_mem_eraseIdx hx) gupd_same ext_upd
theorem okKey_tup {k : D} (h : okKey k = true) : isTup k = true := by
  unfold okKey at h
  rw [Bool.and_eq_true] at h
  exact h.1
theorem ddp_mem {P : D → Prop} : ∀ {xs acc : List D}, (∀ x ∈ acc, P x) → (∀ x ∈ xs, P x) → ∀ x ∈ ddp acc xs, P x
  | [], acc, ha, _, x, h => ha x h
  | y :: xs, acc, ha, hx, x, h => by
    rw [ddp] at h
    refine ddp_mem (fun z hz => ?_) (fun z hz => hx z (List.mem_cons_of_mem _ hz)) x h
    rcases ins1_mem hz with hz | rfl
    · exact ha z hz
    · exact hx z (List.mem_cons_self ..)
theorem ddp_len : ∀ {xs acc : List D}, (ddp acc xs).length ≤ acc.length + xs.length
  | [], acc => by rw [ddp]; exact Nat.le_refl _
  | y :: xs, acc => by
    rw [ddp, List.length_cons]
    have h1 := ddp_len (xs := xs) (acc := ins1 acc y)
    have h2 := ins1_len (acc := acc) (x := y)
    omega
theorem dcGo_ddp {chk : DG → Prop} {g : DGt} {tk tv : DE} {ρ : DSt} {fin : List (D × D) → DG → Prop} {r v : D → D} {P : D → Prop} {I : DG → Prop} (hc : ∀ G, I G → chk G) (hok : ∀ x, P x → okKey (r x) = true) (hk : ∀ a x, P a → P x → keq (r a) (r x) = keq a x ∧ (keq a x = true → a = x)) :
    ∀ (items acc : List D) (G : DG), (∀ d ∈ items, ∀ (G : DG) (K : D → D → DG → Prop), I G → (∀ G', I G' → K (r d) (v d) G') → g d ρ G fun ρ2 G2 => tk ρ2 G2 fun k G4 => tv ρ2 G4 fun u G5 => K k u G5) → I G → (∀ x ∈ items, P x) → (∀ x ∈ acc, P x) → acc.length + items.length ≤ sizeLine →
    (∀ G', I G' → fin ((ddp acc items).map fun a => (r a, v a)) G') → dcGo chk g dYes tk tv ρ fin items (acc.map fun a => (r a, v a)) G
  | [], acc, G, hs, hI, hx, ha, hl, hf => ⟨hc _ hI, hf G hI⟩
  | d :: ds, acc, G, hs, hI, hx, ha, hl, hf => by
    rw [List.length_cons] at hl
    refine ⟨hc _ hI, ?_⟩
    refine hs d (List.mem_cons_self ..) G (fun k u G5 => (tupKeys (acc.map fun a => (r a, v a)) = true ∧ okKey k = true ∧ (acc.map fun a => (r a, v a)).length < sizeLine) ∧ dcGo chk g dYes tk tv ρ fin ds (dput (acc.map fun a => (r a, v a)) k u) G5) hI fun G' hI' => ?_
    have hd := hx d (List.mem_cons_self ..)
    refine ⟨⟨tupKeys_map fun a h => okKey_tup (hok a (ha a h)), hok d hd, by rw [List.length_map]; omega⟩, ?_⟩
    rw [dput_map fun a h => hk a d (ha a h) hd]
    have h2 := ins1_len (acc := acc) (x := d)
    refine dcGo_ddp hc hok hk ds (ins1 acc d) G' (fun e he => hs e (List.mem_cons_of_mem _ he)) hI' (fun x h => hx x (List.mem_cons_of_mem _ h)) (fun x h => ?_) (by omega) hf
    rcases ins1_mem h with h | rfl
    · exact ha x h
    · exact hd
theorem Keep.own {l : Addr} {G0 G G' : DG} (x : Keep G0 G) (h : G0 l = none) (y : Ext l G G') : Keep G0 G' := fun a o e => by
  have q : a ≠ l := fun z => by rw [z, h] at e; cases e
  exact y a o q (x a o e)
theorem setD_g {l : Addr} {k x : D} {kvs : List (D × D)} {G : DG} {Q : DG → Prop} (e : G l = some (.dic kvs)) (h1 : tupKeys kvs = true) (h2 : okKey k = true) (h3 : kvs.length < sizeLine) (h : ∀ G', G' l = some (.dic (dput kvs k x)) → Ext l G G' → Q G') : setDD (.ref l) k x G Q := ⟨kvs, e, h1, h2, h3, h _ gupd_same ext_upd⟩
theorem sorted_g {a : Addr} {xs : List D} {G : DG} {Q : DK} (e : G a = some (.lst xs)) (h : SortOk xs) (k : kNew G (.lst (srt xs)) Q) : sortedD [.ref a] G Q := ⟨xs, e, h, k⟩
theorem Keep.back {p : Addr} {G0 G : DG} (x : Keep G0 G) (h : G p = none) : G0 p = none := by
  cases e : G0 p with
  | none => rfl
  | some o => rw [x p o e] at h; cases h
end FD

/-! the readings of the defs, printed by gen.py -/
namespace K03
open PySem L2 FD

def N_feed_of : List Str := ["_law_script", "_law_k", "_law_cell", "_law_great"]
def t_feed_of : DS := (dSeq (dAsg (dOp addD (dOp mulD (dC (.int 9029)) (dVar 1)) (dC (.int 31))) (gnD 2))
    (dSeq (dIfS (dBool (dOp ltD (dVar 1) (dCB lenD (dCons (dVar 0) dNil)))) (dAsg (dOp ixD (dVar 0) (dVar 1)) (gnD 2)) dNext)
    (dSeq (dIfS (dBool (dOp ltD (dVar 2) (dC (.int 0)))) (dAsg (dOp subD (dC (.int 5)) (dOp mulD (dC (.int 7)) (dVar 2))) (gnD 2)) dNext)
    (dSeq (dAsg (dIf (dBool (dOp geD (dVar 2) (dOp powD (dC (.int 10)) (dC (.int 18))))) (dVar 2) (dC (.int 0))) (gnD 3))
    (dRet (dLst (dCons (dVar 3) (dCons (dOp addD (dOp addD (dOp modD (dVar 2) (dC (.int 1000003))) (dOp mulD (dC (.int 11)) (dVar 1))) (dC (.int 1))) dNil))))))))
abbrev sp_feed_of : DSp := self N_feed_of 2 t_feed_of
def N_draw : List Str := ["_law_feed", "_law_many", "_law_digit"]
def t_draw : DS := (dSeq (dIfS (dBool (dOp gtD' (dOp ixD (dVar 0) (dC (.int 0))) (dC (.int 0)))) (dSeq (dAsg (dOp modD (dOp ixD (dVar 0) (dC (.int 0))) (dVar 1)) (gnD 2))
    (dSeq (dAsg (dOp fdivD (dOp ixD (dVar 0) (dC (.int 0))) (dVar 1)) (gsD (dVar 0) (dC (.int 0)) setLD))
    (dRet (dVar 2)))) dNext)
    (dSeq (dAsg (dOp modD (dOp addD (dOp mulD (dOp ixD (dVar 0) (dC (.int 1))) (dC (.int 48271))) (dC (.int 11))) (dC (.int 2147483647))) (gsD (dVar 0) (dC (.int 1)) setLD))
    (dRet (dOp modD (dOp fdivD (dOp ixD (dVar 0) (dC (.int 1))) (dC (.int 127))) (dVar 1)))))
abbrev sp_draw : DSp := self N_draw 2 t_draw
def N_pick : List Str := ["_law_feed", "_law_items"]
def t_pick : DS := (dRet (dOp ixD (dVar 1) (dCall sp_draw (dCons (dVar 0) (dCons (dCB lenD (dCons (dVar 1) dNil)) dNil)))))
abbrev sp_pick : DSp := self N_pick 2 t_pick
def N_calls : List Str := []
def t_calls : DS := (dRet (dLst (dCons (dC (.str "make")) (dCons (dC (.str "")) (dCons (dC (.str "r 2")) (dCons (dC (.str "Mend!")) (dCons (dC (.str "m")) dNil)))))))
abbrev sp_calls : DSp := self N_calls 0 t_calls
def N_some_text : List Str := ["_law_feed", "_law_form", "_law_many"]
def t_some_text : DS := (dSeq (dAsg (dCall sp_draw (dCons (dVar 0) (dCons (dC (.int 8)) dNil))) (gnD 1))
    (dSeq (dIfS (dBool (dOp (eqD false) (dVar 1) (dC (.int 7)))) (dRet (dCall sp_pick (dCons (dVar 0) (dCons (dCall sp_calls dNil) dNil)))) dNext)
    (dSeq (dIfS (dBool (dOp (eqD false) (dVar 1) (dC (.int 6)))) (dSeq (dAsg (dOp ixD (dLst (dCons (dOp addD (dC (.int 1)) (dCall sp_draw (dCons (dVar 0) (dCons (dC (.int 90)) dNil)))) (dCons (dC (.int 400)) dNil))) (dOp fdivD (dCall sp_draw (dCons (dVar 0) (dCons (dC (.int 7)) dNil))) (dC (.int 6)))) (gnD 2))
    (dRet (dCall sp_pick (dCons (dVar 0) (dCons (dLst (dCons (dC (.str " ")) (dCons (dC (.str "a b")) (dCons (dC (.str "\"")) (dCons (dC (.str "~")) (dCons (dC (.str "None")) (dCons (dOp mulD (dC (.str "x")) (dVar 2)) (dCons (dC (.str "read")) (dCons (dC (.str "write")) (dCons (dC (.str "stop")) (dCons (dC (.str "o")) dNil))))))))))) dNil))))) dNext)
    (dRet (dOp ixD (dLst (dCons (dC (.str "0")) (dCons (dC (.str "1")) (dCons (dC (.str "0")) (dCons (dC (.str "1")) (dCons (dC (.str "")) (dCons (dC (.str "10")) dNil))))))) (dVar 1))))))
abbrev sp_some_text : DSp := self N_some_text 1 t_some_text
def N_some_answer : List Str := ["_law_feed"]
def t_some_answer : DS := (dRet (dIf (dBool (dOp (eqD false) (dCall sp_draw (dCons (dVar 0) (dCons (dC (.int 5)) dNil))) (dC (.int 0)))) (dC .non) (dCall sp_some_text (dCons (dVar 0) dNil))))
abbrev sp_some_answer : DSp := self N_some_answer 1 t_some_answer
def N_some_place : List Str := ["_law_feed", "_law_rows", "_law_turn", "_law_arguments", "_law_part"]
def t_some_place : DS := (dSeq (dAsg (dLst dNil) (gnD 1))
    (dSeq (dFor (diRng1 (dCons (dCall sp_draw (dCons (dVar 0) (dCons (dC (.int 3)) dNil))) dNil)) (gnD 2) (dDrop (dML appendD (dVar 1) (dCons (dCB tupleD (dCons (dLc (diRng1 (dCons (dOp addD (dC (.int 1)) (dCall sp_draw (dCons (dVar 0) (dCons (dC (.int 3)) dNil)))) dNil)) (gnD 4) dYes (dCall sp_some_answer (dCons (dVar 0) dNil)) [4]) dNil)) dNil))))
    (dSeq (dAsg (dCB tupleD (dCons (dLc (diRng1 (dCons (dCall sp_draw (dCons (dVar 0) (dCons (dC (.int 3)) dNil))) dNil)) (gnD 2) dYes (dCall sp_some_text (dCons (dVar 0) dNil)) [2]) dNil)) (gnD 3))
    (dRet (dTup (dCons (dCall sp_some_text (dCons (dVar 0) dNil)) (dCons (dVar 3) (dCons (dCB tupleD (dCons (dVar 1) dNil)) (dCons (dOp ixD (dLst (dCons (dC (.int 0)) (dCons (dC (.int 1)) (dCons (dC (.int 2)) (dCons (dC (.int 9)) (dCons (dC (.int 10)) (dCons (dC (.int 11)) (dCons (dC (.int 100)) dNil)))))))) (dCall sp_draw (dCons (dVar 0) (dCons (dC (.int 7)) dNil)))) dNil)))))))))
abbrev sp_some_place : DSp := self N_some_place 1 t_some_place
def N_near : List Str := ["_law_feed", "_law_place", "_law_call", "_law_arguments", "_law_rows", "_law_count", "_law_row", "_law_found", "_law_part"]
def t_near : DS := (dSeq (dAsg (dVar 1) (gtD 4 (gtCons (gnD 2) (gtCons (gnD 3) (gtCons (gnD 4) (gtCons (gnD 5) gtNil))))))
    (dSeq (dAsg (dCB tupleD (dCons (dLc (diRng1 (dCons (dOp addD (dC (.int 1)) (dCall sp_draw (dCons (dVar 0) (dCons (dC (.int 2)) dNil)))) dNil)) (gnD 8) dYes (dCall sp_some_answer (dCons (dVar 0) dNil)) [8]) dNil)) (gnD 6))
    (dSeq (dAsg (dLst (dCons (dTup (dCons (dVar 2) (dCons (dVar 3) (dCons (dVar 4) (dCons (dOp addD (dVar 5) (dC (.int 1))) dNil))))) (dCons (dTup (dCons (dVar 2) (dCons (dVar 3) (dCons (dOp addD (dVar 4) (dTup (dCons (dVar 6) dNil))) (dCons (dC (.int 0)) dNil))))) dNil))) (gnD 7))
    (dSeq (dDrop (dML appendD (dVar 7) (dCons (dTup (dCons (dVar 2) (dCons (dVar 3) (dCons (dSl (dVar 4) dNoPart (dPart (dNeg (dC (.int 1))))) (dCons (dVar 5) dNil))))) dNil)))
    (dSeq (dAsg (dOp addD (dVar 7) (dLst (dCons (dTup (dCons (dVar 2) (dCons (dVar 3) (dCons (dOp addD (dVar 4) (dTup (dCons (dVar 6) (dCons (dVar 6) dNil)))) (dCons (dVar 5) dNil))))) (dCons (dTup (dCons (dCall sp_some_text (dCons (dVar 0) dNil)) (dCons (dVar 3) (dCons (dVar 4) (dCons (dVar 5) dNil))))) dNil)))) (gnD 7))
    (dSeq (dAsg (dOp addD (dVar 7) (dLst (dCons (dTup (dCons (dVar 2) (dCons (dOp addD (dSl (dVar 3) dNoPart (dPart (dC (.int 3)))) (dTup (dCons (dC (.str "")) dNil))) (dCons (dVar 4) (dCons (dVar 5) dNil))))) (dCons (dTup (dCons (dVar 2) (dCons (dSl (dVar 3) dNoPart (dPart (dNeg (dC (.int 1))))) (dCons (dOp addD (dVar 4) (dTup (dCons (dVar 6) dNil))) (dCons (dVar 5) dNil))))) dNil)))) (gnD 7))
    (dRet (dCall sp_pick (dCons (dVar 0) (dCons (dOp addD (dVar 7) (dLst (dCons (dTup (dCons (dVar 2) (dCons (dVar 3) (dCons (dOp addD (dSl (dVar 4) dNoPart (dPart (dNeg (dC (.int 1))))) (dTup (dCons (dVar 6) dNil))) (dCons (dVar 5) dNil))))) (dCons (dVar 1) dNil)))) dNil))))))))))
abbrev sp_near : DSp := self N_near 2 t_near
def N_same : List Str := ["_law_found", "_law_due", "_law_a", "_law_b"]
def t_same : Nat → DS
  | 0 => fun _ _ _ => False
  | n + 1 => (dSeq (dIfS (dTru (dCB isiD (dCons (dVar 1) (dCons (dTup (dCons (dC (.ty "list")) (dCons (dC (.ty "tuple")) dNil))) dNil)))) (dSeq (dIfS (dOrT (dBool (dOp (eqD true) (dCB isiD (dCons (dVar 0) (dCons (dC (.ty "list")) dNil))) (dCB isiD (dCons (dVar 1) (dCons (dC (.ty "list")) dNil))))) (dNotT (dTru (dCB isiD (dCons (dVar 0) (dCons (dTup (dCons (dC (.ty "list")) (dCons (dC (.ty "tuple")) dNil))) dNil)))))) (dRet (dC (.bl false))) dNext)
    (dRet (dAnd (dOp (eqD false) (dCB lenD (dCons (dVar 0) dNil)) (dCB lenD (dCons (dVar 1) dNil))) (dCB allD (dCons (dLc (diZip (dCons (dVar 0) (dCons (dVar 1) dNil))) (gtD 2 (gtCons (gnD 2) (gtCons (gnD 3) gtNil))) dYes (dCall (self N_same 2 (t_same n)) (dCons (dVar 2) (dCons (dVar 3) dNil))) [2, 3]) dNil))))) dNext)
    (dSeq (dIfS (dOrT (dBool (dOp (eqD true) (dCB isiD (dCons (dVar 0) (dCons (dC (.ty "bool")) dNil))) (dCB isiD (dCons (dVar 1) (dCons (dC (.ty "bool")) dNil))))) (dBool (dOp (eqD true) (dCB isiD (dCons (dVar 0) (dCons (dC (.ty "int")) dNil))) (dCB isiD (dCons (dVar 1) (dCons (dC (.ty "int")) dNil)))))) (dRet (dC (.bl false))) dNext)
    (dRet (dAnd (dOp (eqD false) (dCB isiD (dCons (dVar 0) (dCons (dC (.ty "str")) dNil))) (dCB isiD (dCons (dVar 1) (dCons (dC (.ty "str")) dNil)))) (dOp (eqD false) (dVar 0) (dVar 1))))))
abbrev sp_same (n : Nat) : DSp := self N_same 2 (t_same n)
def N_after_write : List Str := ["place", "recipe", "arguments", "answers", "count"]
def t_after_write : DS := (dSeq (dAsg (dVar 0) (gtD 4 (gtCons (gnD 1) (gtCons (gnD 2) (gtCons (gnD 3) (gtCons (gnD 4) gtNil))))))
    (dRet (dTup (dCons (dVar 1) (dCons (dVar 2) (dCons (dVar 3) (dCons (dOp addD (dVar 4) (dC (.int 1))) dNil)))))))
abbrev sp_after_write : DSp := self N_after_write 1 t_after_write
def N_after_read : List Str := ["place", "answers"]
def t_after_read : DS := (dRet (dTup (dCons (dOp ixD (dVar 0) (dC (.int 0))) (dCons (dOp ixD (dVar 0) (dC (.int 1))) (dCons (dOp addD (dOp ixD (dVar 0) (dC (.int 2))) (dTup (dCons (dCB tupleD (dCons (dVar 1) dNil)) dNil))) (dCons (dC (.int 0)) dNil))))))
abbrev sp_after_read : DSp := self N_after_read 2 t_after_read
def N_behind : List Str := ["_law_place", "_law_other"]
def t_behind : DS := (dSeq (dIfS (dOrT (dBool (dOp (eqD true) (dOp ixD (dVar 0) (dC (.int 0))) (dOp ixD (dVar 1) (dC (.int 0))))) (dBool (dOp (eqD true) (dOp ixD (dVar 0) (dC (.int 1))) (dOp ixD (dVar 1) (dC (.int 1)))))) (dRet (dC (.bl false))) dNext)
    (dSeq (dIfS (dBool (dOp (eqD false) (dCB lenD (dCons (dOp ixD (dVar 0) (dC (.int 2))) dNil)) (dCB lenD (dCons (dOp ixD (dVar 1) (dC (.int 2))) dNil)))) (dRet (dAnd (dOp (eqD false) (dOp ixD (dVar 0) (dC (.int 2))) (dOp ixD (dVar 1) (dC (.int 2)))) (dOp gtD' (dOp ixD (dVar 0) (dC (.int 3))) (dOp ixD (dVar 1) (dC (.int 3)))))) dNext)
    (dRet (dAnd (dOp gtD' (dCB lenD (dCons (dOp ixD (dVar 0) (dC (.int 2))) dNil)) (dCB lenD (dCons (dOp ixD (dVar 1) (dC (.int 2))) dNil))) (dOp (eqD false) (dSl (dOp ixD (dVar 0) (dC (.int 2))) dNoPart (dPart (dCB lenD (dCons (dOp ixD (dVar 1) (dC (.int 2))) dNil)))) (dOp ixD (dVar 1) (dC (.int 2))))))))
abbrev sp_behind : DSp := self N_behind 2 t_behind
def N_is_behind : List Str := ["place", "other", "rows", "ahead"]
def t_is_behind : DS := (dSeq (dIfS (dBool (dOp (eqD true) (dSl (dVar 0) dNoPart (dPart (dC (.int 2)))) (dSl (dVar 1) dNoPart (dPart (dC (.int 2)))))) (dRet (dC (.bl false))) dNext)
    (dSeq (dPar 2 3 (dCons (dOp ixD (dVar 0) (dC (.int 2))) (dCons (dOp ixD (dVar 1) (dC (.int 2))) dNil)))
    (dSeq (dIfS (dBool (dOp (eqD false) (dVar 2) (dVar 3))) (dRet (dOp gtD' (dOp ixD (dVar 0) (dC (.int 3))) (dOp ixD (dVar 1) (dC (.int 3))))) dNext)
    (dRet (dAnd (dOp gtD' (dCB lenD (dCons (dVar 2) dNil)) (dCB lenD (dCons (dVar 3) dNil))) (dOp (eqD false) (dSl (dVar 2) dNoPart (dPart (dCB lenD (dCons (dVar 3) dNil)))) (dVar 3)))))))
abbrev sp_is_behind : DSp := self N_is_behind 2 t_is_behind
def N_mixed : List Str := ["_law_feed", "_law_items", "_law_left", "_law_found"]
def t_mixed : DS := (dSeq (dPar 2 3 (dCons (dCB listDD (dCons (dVar 1) dNil)) (dCons (dLst dNil) dNil)))
    (dSeq (dWhile (dBool (dOp (eqD true) (dVar 2) (dLst dNil))) (dDrop (dML appendD (dVar 3) (dCons (dML popAtD (dVar 2) (dCons (dCall sp_draw (dCons (dVar 0) (dCons (dCB lenD (dCons (dVar 2) dNil)) dNil))) dNil)) dNil))))
    (dRet (dVar 3))))
abbrev sp_mixed : DSp := self N_mixed 2 t_mixed
def N_ordered : List Str := ["_law_places", "_law_found", "_law_spot", "_law_rows", "_law_row", "_law_one"]
def t_ordered : DS := (dSeq (dAsg dDict0 (gnD 1))
    (dSeq (dFor (diAny (dVar 0)) (gnD 2) (dSeq (dAsg (dLc (diAny (dOp ixD (dVar 2) (dC (.int 2)))) (gnD 4) dYes (dCB tupleD (dCons (dLc (diAny (dVar 4)) (gnD 5) dYes (dIf (dBool (dOp (isD false) (dVar 5) (dC .non))) (dTup (dCons (dC (.int 0)) (dCons (dC (.str "")) dNil))) (dTup (dCons (dC (.int 1)) (dCons (dVar 5) dNil)))) [5]) dNil)) [4]) (gnD 3))
    (dAsg (dVar 2) (gsD (dVar 1) (dTup (dCons (dOp ixD (dVar 2) (dC (.int 0))) (dCons (dOp ixD (dVar 2) (dC (.int 1))) (dCons (dCB tupleD (dCons (dVar 3) dNil)) (dCons (dOp ixD (dVar 2) (dC (.int 3))) dNil))))) setDD))))
    (dRet (dLc (diAny (dCB sortedD (dCons (dCB listDD (dCons (dVar 1) dNil)) dNil))) (gnD 5) dYes (dOp getDD (dVar 1) (dVar 5)) [5]))))
abbrev sp_ordered : DSp := self N_ordered 1 t_ordered
def N_rank : List Str := ["place", "rows", "row", "answer"]
def t_rank : DS := (dSeq (dAsg (dLc (diAny (dOp ixD (dVar 0) (dC (.int 2)))) (gnD 2) dYes (dCB tupleD (dCons (dLc (diAny (dVar 2)) (gnD 3) dYes (dIf (dBool (dOp (isD false) (dVar 3) (dC .non))) (dTup (dCons (dC (.int 0)) (dCons (dC (.str "")) dNil))) (dTup (dCons (dC (.int 1)) (dCons (dVar 3) dNil)))) [3]) dNil)) [2]) (gnD 1))
    (dRet (dTup (dCons (dOp ixD (dVar 0) (dC (.int 0))) (dCons (dOp ixD (dVar 0) (dC (.int 1))) (dCons (dCB tupleD (dCons (dVar 1) dNil)) (dCons (dOp ixD (dVar 0) (dC (.int 3))) dNil)))))))
abbrev sp_rank : DSp := self N_rank 1 t_rank
def N_in_order : List Str := ["places", "place"]
def t_in_order : DS := (dRet (dSortK sp_rank (dCons (dCB listDD (dCons (dDn (diAny (dVar 0)) (gnD 1) dYes (dVar 1) (dC (.bl true)) [1]) dNil)) dNil)))
abbrev sp_in_order : DSp := self N_in_order 1 t_in_order
def N_law : List Str := ["_law_script", "_law_k", "_law_feed", "_law_places", "_law_turn", "_law_place", "_law_call", "_law_arguments", "_law_rows", "_law_count", "_law_row", "_law_other", "_law_told", "_law_kept", "_law_items", "_law_few", "_law_same_here", "_law_found", "_law_part"]
def t_law : DS := (dSeq (dFor (diRng1 (dCons (dCB max2D (dCons (dC (.int 2)) (dCons (dCB min2D (dCons (dC (.int 5)) (dCons (dCB lenD (dCons (dVar 0) dNil)) dNil))) dNil))) dNil)) (gnD 1) (dSeq (dAsg (dCall sp_feed_of (dCons (dVar 0) (dCons (dVar 1) dNil))) (gnD 2))
    (dSeq (dAsg (dLst (dCons (dCall sp_some_place (dCons (dVar 2) dNil)) dNil)) (gnD 3))
    (dSeq (dFor (diRng1 (dCons (dC (.int 9)) dNil)) (gnD 4) (dDrop (dML appendD (dVar 3) (dCons (dCall sp_near (dCons (dVar 2) (dCons (dCall sp_pick (dCons (dVar 2) (dCons (dVar 3) dNil))) dNil))) dNil))))
    (dSeq (dFor (diAny (dVar 3)) (gnD 5) (dSeq (dAsg (dVar 5) (gtD 4 (gtCons (gnD 6) (gtCons (gnD 7) (gtCons (gnD 8) (gtCons (gnD 9) gtNil))))))
    (dSeq (dAsg (dCB tupleD (dCons (dLc (diRng1 (dCons (dOp addD (dC (.int 1)) (dCall sp_draw (dCons (dVar 2) (dCons (dC (.int 4)) dNil)))) dNil)) (gnD 18) dYes (dCall sp_some_answer (dCons (dVar 2) dNil)) [18]) dNil)) (gnD 10))
    (dSeq (dIfS (dNotT (dTru (dCall (sp_same 12) (dCons (dCall sp_after_write (dCons (dVar 5) dNil)) (dCons (dTup (dCons (dVar 6) (dCons (dVar 7) (dCons (dVar 8) (dCons (dOp addD (dVar 9) (dC (.int 1))) dNil))))) dNil))))) (dRet (dC (.bl false))) dNext)
    (dSeq (dIfS (dNotT (dTru (dCall (sp_same 12) (dCons (dCall sp_after_read (dCons (dVar 5) (dCons (dVar 10) dNil))) (dCons (dTup (dCons (dVar 6) (dCons (dVar 7) (dCons (dOp addD (dVar 8) (dTup (dCons (dVar 10) dNil))) (dCons (dC (.int 0)) dNil))))) dNil))))) (dRet (dC (.bl false))) dNext)
    (dFor (diAny (dVar 3)) (gnD 11) (dIfS (dNotT (dTru (dCall (sp_same 12) (dCons (dCall sp_is_behind (dCons (dVar 5) (dCons (dVar 11) dNil))) (dCons (dCall sp_behind (dCons (dVar 5) (dCons (dVar 11) dNil))) dNil))))) (dRet (dC (.bl false))) dNext)))))))
    (dSeq (dAsg (dOp addD (dVar 3) (dLst (dCons (dCall sp_pick (dCons (dVar 2) (dCons (dVar 3) dNil))) (dCons (dCall sp_pick (dCons (dVar 2) (dCons (dVar 3) dNil))) dNil)))) (gnD 12))
    (dSeq (dAsg (dCall sp_mixed (dCons (dVar 2) (dCons (dVar 12) dNil))) (gnD 12))
    (dSeq (dAsg (dCB listDD (dCons (dVar 12) dNil)) (gnD 13))
    (dSeq (dFor (diAny (dTup (dCons (dVar 12) (dCons (dCB tupleD (dCons (dVar 12) dNil)) dNil)))) (gnD 14) (dIfS (dOrT (dNotT (dTru (dCall (sp_same 12) (dCons (dCall sp_in_order (dCons (dVar 14) dNil)) (dCons (dCall sp_ordered (dCons (dVar 13) dNil)) dNil))))) (dBool (dOp (eqD true) (dVar 12) (dVar 13)))) (dRet (dC (.bl false))) dNext))
    (dSeq (dAsg (dSl (dVar 13) dNoPart (dPart (dCall sp_draw (dCons (dVar 2) (dCons (dC (.int 3)) dNil))))) (gnD 15))
    (dSeq (dPar 16 17 (dCons (dCB listDD (dCons (dVar 15) dNil)) (dCons (dCall sp_in_order (dCons (dVar 15) dNil)) dNil)))
    (dSeq (dDrop (dML appendD (dVar 17) (dCons (dC (.str "spoilt")) dNil)))
    (dIfS (dOrT (dBool (dOp (eqD true) (dVar 15) (dVar 16))) (dBool (dOp (eqD true) (dCall sp_in_order (dCons (dVar 15) dNil)) (dCall sp_ordered (dCons (dVar 16) dNil))))) (dRet (dC (.bl false))) dNext)))))))))))))
    (dRet (dAnd (dOp (eqD false) (dCall sp_in_order (dCons (dLst dNil) dNil)) (dLst dNil)) (dOp (eqD false) (dCall sp_in_order (dCons (dTup dNil) dNil)) (dLst dNil)))))
abbrev sp_law : DSp := self N_law 1 t_law
end K03

/-! what the common defs of the law do, at the data level -/
namespace K03
open PySem L2 FD
theorem feed_tail {ns : List Int} {k c : Int} {G : DG} {Q : DK} (h0 : 0 ≤ k) (h1 : k ≤ 1000) (hc : 0 ≤ c) (h : ∀ f G', G f = none → Feed f G' → Keep G G' → Q (.ref f) G') : 
    dSeq
              (dAsg (dIf (dBool (dOp geD (dVar 2) (dOp powD (dC (D.int 10)) (dC (D.int 18))))) (dVar 2) (dC (D.int 0)))
                (gnD 3))
              (dRet
                (dLst
                  (dCons (dVar 3)
                    (dCons
                      (dOp addD (dOp addD (dOp modD (dVar 2) (dC (D.int 1000003))) (dOp mulD (dC (D.int 11)) (dVar 1)))
                        (dC (D.int 1)))
                      dNil)))) { nx := fun x G' => Q D.non G', rt := Q } [some (D.fl (List.map D.int ns)), some (D.int k), some (D.int c), none] G := by
  have hm : 0 ≤ c % 1000003 := Int.emod_nonneg _ (by decide)
  have key : ∀ g, 0 ≤ g → kNew G (.lst [.int g, .int (c % 1000003 + 11 * k + 1)]) Q := fun g hg => new_ fun p G' hp e kk => h p G' hp ⟨g, _, hg, by omega, e⟩ kk
  try simp only [seq_, next_, ret_, drop_, ifs_, br_t, br_f, asg_, gn_, gt_, gtc_, gtn_, par_, var_0, var_s, c_, nil_, cons_, tup_, lst_, op_, bool_, kb_, tru_, tr_bl, andT_, orT_, kn_tt, kn_tf, kn_ff, kn_ft, notT_, and_, kand_t, kand_f, if_, bre_t, bre_f, call_, cb_, neg_, sl_, nopart_, part_, FD.sl_tup, eq_int0, eq_int1, eq_bl0, eq_bl1, beq_self_eq_true, Bool.not_true, Bool.not_false, add_int, add_tup, add_ref, int_, int0_, mul_int, mul_str, ord_int, FD.ix_tup, ix_fl, ix_ref, at_0, at_1, at_2, at_3, len_tup, len_fl, len_ref, max2_, min2_, tuple_tup, tuple_ref, is_, gs_, setL_, ml_, for_, rng1_, any_, lc_, FD.sl_ref, list_tup, dict0_, dn_, sortK_, val_tup, yes_, isLst_, List.set_cons_zero, List.set_cons_succ]
  refine ⟨⟨by decide, by decide, by decide⟩, ?_⟩
  by_cases hb : (10 : Int) ^ (18 : Int).toNat ≤ c
  · rw [decide_eq_true hb]
    try simp only [seq_, next_, ret_, drop_, ifs_, br_t, br_f, asg_, gn_, gt_, gtc_, gtn_, par_, var_0, var_s, c_, nil_, cons_, tup_, lst_, op_, bool_, kb_, tru_, tr_bl, andT_, orT_, kn_tt, kn_tf, kn_ff, kn_ft, notT_, and_, kand_t, kand_f, if_, bre_t, bre_f, call_, cb_, neg_, sl_, nopart_, part_, FD.sl_tup, eq_int0, eq_int1, eq_bl0, eq_bl1, beq_self_eq_true, Bool.not_true, Bool.not_false, add_int, add_tup, add_ref, int_, int0_, mul_int, mul_str, ord_int, FD.ix_tup, ix_fl, ix_ref, at_0, at_1, at_2, at_3, len_tup, len_fl, len_ref, max2_, min2_, tuple_tup, tuple_ref, is_, gs_, setL_, ml_, for_, rng1_, any_, lc_, FD.sl_ref, list_tup, dict0_, dn_, sortK_, val_tup, yes_, isLst_, List.set_cons_zero, List.set_cons_succ]
    exact ⟨by decide, .inl ⟨by decide, by decide⟩, by simp [sizeLine], key c hc⟩
  · rw [decide_eq_false hb]
    try simp only [seq_, next_, ret_, drop_, ifs_, br_t, br_f, asg_, gn_, gt_, gtc_, gtn_, par_, var_0, var_s, c_, nil_, cons_, tup_, lst_, op_, bool_, kb_, tru_, tr_bl, andT_, orT_, kn_tt, kn_tf, kn_ff, kn_ft, notT_, and_, kand_t, kand_f, if_, bre_t, bre_f, call_, cb_, neg_, sl_, nopart_, part_, FD.sl_tup, eq_int0, eq_int1, eq_bl0, eq_bl1, beq_self_eq_true, Bool.not_true, Bool.not_false, add_int, add_tup, add_ref, int_, int0_, mul_int, mul_str, ord_int, FD.ix_tup, ix_fl, ix_ref, at_0, at_1, at_2, at_3, len_tup, len_fl, len_ref, max2_, min2_, tuple_tup, tuple_ref, is_, gs_, setL_, ml_, for_, rng1_, any_, lc_, FD.sl_ref, list_tup, dict0_, dn_, sortK_, val_tup, yes_, isLst_, List.set_cons_zero, List.set_cons_succ]
    exact ⟨by decide, .inl ⟨by decide, by decide⟩, by simp [sizeLine], key 0 (Int.le_refl _)⟩
theorem feed_mid {ns : List Int} {k c : Int} {G : DG} {Q : DK} (h0 : 0 ≤ k) (h1 : k ≤ 1000) (h : ∀ f G', G f = none → Feed f G' → Keep G G' → Q (.ref f) G') : 
    dSeq
            (dIfS (dBool (dOp ltD (dVar 2) (dC (D.int 0))))
              (dAsg (dOp subD (dC (D.int 5)) (dOp mulD (dC (D.int 7)) (dVar 2))) (gnD 2)) dNext)
            (dSeq
              (dAsg (dIf (dBool (dOp geD (dVar 2) (dOp powD (dC (D.int 10)) (dC (D.int 18))))) (dVar 2) (dC (D.int 0)))
                (gnD 3))
              (dRet
                (dLst
                  (dCons (dVar 3)
                    (dCons
                      (dOp addD (dOp addD (dOp modD (dVar 2) (dC (D.int 1000003))) (dOp mulD (dC (D.int 11)) (dVar 1)))
                        (dC (D.int 1)))
                      dNil))))) { nx := fun x G' => Q D.non G', rt := Q } [some (D.fl (List.map D.int ns)), some (D.int k), some (D.int c), none] G := by
  rw [seq_]
  simp only [ifs_, bool_, op_, var_0, var_s, c_, ord_int, kb_]
  by_cases hb : c < 0
  · rw [decide_eq_true hb]
    simp only [br_t, asg_, op_, var_0, var_s, c_, mul_int, int0_, gn_, List.set_cons_zero, List.set_cons_succ]
    exact ⟨.inl ⟨by decide, by decide⟩, feed_tail h0 h1 (by omega) h⟩
  · rw [decide_eq_false hb]
    exact feed_tail h0 h1 (by omega) h
theorem feed_spec {ns : List Int} {k : Int} {G : DG} {Q : DK} (h0 : 0 ≤ k) (h1 : k ≤ 1000) (h : ∀ f G', G f = none → Feed f G' → Keep G G' → Q (.ref f) G') : sp_feed_of [.fl (ns.map D.int), .int k] G Q := by
  refine ⟨rfl, ?_⟩
  show t_feed_of _ [some (.fl (ns.map D.int)), some (.int k), none, none] G
  unfold t_feed_of
  try simp only [seq_, next_, ret_, drop_, ifs_, br_t, br_f, asg_, gn_, gt_, gtc_, gtn_, par_, var_0, var_s, c_, nil_, cons_, tup_, lst_, op_, bool_, kb_, tru_, tr_bl, andT_, orT_, kn_tt, kn_tf, kn_ff, kn_ft, notT_, and_, kand_t, kand_f, if_, bre_t, bre_f, call_, cb_, neg_, sl_, nopart_, part_, FD.sl_tup, eq_int0, eq_int1, eq_bl0, eq_bl1, beq_self_eq_true, Bool.not_true, Bool.not_false, add_int, add_tup, add_ref, int_, int0_, mul_int, mul_str, ord_int, FD.ix_tup, ix_fl, ix_ref, at_0, at_1, at_2, at_3, len_tup, len_fl, len_ref, max2_, min2_, tuple_tup, tuple_ref, is_, gs_, setL_, ml_, for_, rng1_, any_, lc_, FD.sl_ref, list_tup, dict0_, dn_, sortK_, val_tup, yes_, isLst_, List.set_cons_zero, List.set_cons_succ]
  refine ⟨.inl ⟨by decide, by decide⟩, ?_⟩
  by_cases hb : k < ((ns.map D.int).length : Int)
  · rw [decide_eq_true hb]
    try simp only [seq_, next_, ret_, drop_, ifs_, br_t, br_f, asg_, gn_, gt_, gtc_, gtn_, par_, var_0, var_s, c_, nil_, cons_, tup_, lst_, op_, bool_, kb_, tru_, tr_bl, andT_, orT_, kn_tt, kn_tf, kn_ff, kn_ft, notT_, and_, kand_t, kand_f, if_, bre_t, bre_f, call_, cb_, neg_, sl_, nopart_, part_, FD.sl_tup, eq_int0, eq_int1, eq_bl0, eq_bl1, beq_self_eq_true, Bool.not_true, Bool.not_false, add_int, add_tup, add_ref, int_, int0_, mul_int, mul_str, ord_int, FD.ix_tup, ix_fl, ix_ref, at_0, at_1, at_2, at_3, len_tup, len_fl, len_ref, max2_, min2_, tuple_tup, tuple_ref, is_, gs_, setL_, ml_, for_, rng1_, any_, lc_, FD.sl_ref, list_tup, dict0_, dn_, sortK_, val_tup, yes_, isLst_, List.set_cons_zero, List.set_cons_succ]
    refine at_in h0 hb fun d hd => ?_
    obtain ⟨c, _, rfl⟩ := List.mem_map.mp hd
    exact feed_mid h0 h1 h
  · rw [decide_eq_false hb]
    exact feed_mid h0 h1 h
theorem draw_spec {f : Addr} {m : Int} {G : DG} {Q : DK} (F : Feed f G) (h0 : 0 < m) (h1 : m < 1073741824) (h : ∀ d G', 0 ≤ d → d < m → Feed f G' → Ext f G G' → Q (.int d) G') : sp_draw [.ref f, .int m] G Q := by
  obtain ⟨g, n, hg, hn, e⟩ := F
  refine ⟨rfl, ?_⟩
  show t_draw _ [some (.ref f), some (.int m), none] G
  unfold t_draw
  try simp only [seq_, next_, ret_, drop_, ifs_, br_t, br_f, asg_, gn_, gt_, gtc_, gtn_, par_, var_0, var_s, c_, nil_, cons_, tup_, lst_, op_, bool_, kb_, tru_, tr_bl, andT_, orT_, kn_tt, kn_tf, kn_ff, kn_ft, notT_, and_, kand_t, kand_f, if_, bre_t, bre_f, call_, cb_, neg_, sl_, nopart_, part_, FD.sl_tup, eq_int0, eq_int1, eq_bl0, eq_bl1, beq_self_eq_true, Bool.not_true, Bool.not_false, add_int, add_tup, add_ref, int_, int0_, mul_int, mul_str, ord_int, FD.ix_tup, ix_fl, ix_ref, at_0, at_1, at_2, at_3, len_tup, len_fl, len_ref, max2_, min2_, tuple_tup, tuple_ref, is_, gs_, setL_, ml_, for_, rng1_, any_, lc_, FD.sl_ref, list_tup, dict0_, dn_, sortK_, val_tup, yes_, isLst_, List.set_cons_zero, List.set_cons_succ, ex_lst e]
  by_cases hb : 0 < g
  · rw [decide_eq_true hb]
    try simp only [seq_, next_, ret_, drop_, ifs_, br_t, br_f, asg_, gn_, gt_, gtc_, gtn_, par_, var_0, var_s, c_, nil_, cons_, tup_, lst_, op_, bool_, kb_, tru_, tr_bl, andT_, orT_, kn_tt, kn_tf, kn_ff, kn_ft, notT_, and_, kand_t, kand_f, if_, bre_t, bre_f, call_, cb_, neg_, sl_, nopart_, part_, FD.sl_tup, eq_int0, eq_int1, eq_bl0, eq_bl1, beq_self_eq_true, Bool.not_true, Bool.not_false, add_int, add_tup, add_ref, int_, int0_, mul_int, mul_str, ord_int, FD.ix_tup, ix_fl, ix_ref, at_0, at_1, at_2, at_3, len_tup, len_fl, len_ref, max2_, min2_, tuple_tup, tuple_ref, is_, gs_, setL_, ml_, for_, rng1_, any_, lc_, FD.sl_ref, list_tup, dict0_, dn_, sortK_, val_tup, yes_, isLst_, List.set_cons_zero, List.set_cons_succ, ex_lst e]
    refine ⟨h0, ⟨h0, h1⟩, [.int g, .int n], 0, e, rfl, ?_⟩
    exact h _ _ (Int.emod_nonneg _ (by omega)) (Int.emod_lt_of_pos _ h0) ⟨g / m, n, Int.ediv_nonneg hg (by omega), hn, gupd_same⟩ ext_upd
  · rw [decide_eq_false hb]
    try simp only [seq_, next_, ret_, drop_, ifs_, br_t, br_f, asg_, gn_, gt_, gtc_, gtn_, par_, var_0, var_s, c_, nil_, cons_, tup_, lst_, op_, bool_, kb_, tru_, tr_bl, andT_, orT_, kn_tt, kn_tf, kn_ff, kn_ft, notT_, and_, kand_t, kand_f, if_, bre_t, bre_f, call_, cb_, neg_, sl_, nopart_, part_, FD.sl_tup, eq_int0, eq_int1, eq_bl0, eq_bl1, beq_self_eq_true, Bool.not_true, Bool.not_false, add_int, add_tup, add_ref, int_, int0_, mul_int, mul_str, ord_int, FD.ix_tup, ix_fl, ix_ref, at_0, at_1, at_2, at_3, len_tup, len_fl, len_ref, max2_, min2_, tuple_tup, tuple_ref, is_, gs_, setL_, ml_, for_, rng1_, any_, lc_, FD.sl_ref, list_tup, dict0_, dn_, sortK_, val_tup, yes_, isLst_, List.set_cons_zero, List.set_cons_succ, ex_lst e]
    refine ⟨.inr ⟨by decide, by decide⟩, by decide, [.int g, .int n], 1, e, rfl, ?_⟩
    have e2 : (G.upd f (.lst [D.int g, D.int ((n * 48271 + 11) % 2147483647)])) f = some (.lst [.int g, .int ((n * 48271 + 11) % 2147483647)]) := gupd_same
    try simp only [seq_, next_, ret_, drop_, ifs_, br_t, br_f, asg_, gn_, gt_, gtc_, gtn_, par_, var_0, var_s, c_, nil_, cons_, tup_, lst_, op_, bool_, kb_, tru_, tr_bl, andT_, orT_, kn_tt, kn_tf, kn_ff, kn_ft, notT_, and_, kand_t, kand_f, if_, bre_t, bre_f, call_, cb_, neg_, sl_, nopart_, part_, FD.sl_tup, eq_int0, eq_int1, eq_bl0, eq_bl1, beq_self_eq_true, Bool.not_true, Bool.not_false, add_int, add_tup, add_ref, int_, int0_, mul_int, mul_str, ord_int, FD.ix_tup, ix_fl, ix_ref, at_0, at_1, at_2, at_3, len_tup, len_fl, len_ref, max2_, min2_, tuple_tup, tuple_ref, is_, gs_, setL_, ml_, for_, rng1_, any_, lc_, FD.sl_ref, list_tup, dict0_, dn_, sortK_, val_tup, yes_, isLst_, List.set_cons_zero, List.set_cons_succ, ex_lst e2]
    refine ⟨⟨by decide, by decide⟩, h0, ?_⟩
    exact h _ _ (Int.emod_nonneg _ (by omega)) (Int.emod_lt_of_pos _ h0) ⟨g, (n * 48271 + 11) % 2147483647, hg, Int.emod_nonneg _ (by decide), gupd_same⟩ ext_upd
theorem pick_spec {f l : Addr} {xs : List D} {G : DG} {Q : DK} (F : Feed f G) (hl : G l = some (.lst xs)) (hn : l ≠ f) (h0 : xs ≠ []) (h1 : xs.length < 1073741824) (h : ∀ x G', x ∈ xs → Feed f G' → Ext f G G' → Q x G') : sp_pick [.ref f, .ref l] G Q := by
  refine ⟨rfl, ?_⟩
  show t_pick _ [some (.ref f), some (.ref l)] G
  unfold t_pick
  try simp only [seq_, next_, ret_, drop_, ifs_, br_t, br_f, asg_, gn_, gt_, gtc_, gtn_, par_, var_0, var_s, c_, nil_, cons_, tup_, lst_, op_, bool_, kb_, tru_, tr_bl, andT_, orT_, kn_tt, kn_tf, kn_ff, kn_ft, notT_, and_, kand_t, kand_f, if_, bre_t, bre_f, call_, cb_, neg_, sl_, nopart_, part_, FD.sl_tup, eq_int0, eq_int1, eq_bl0, eq_bl1, beq_self_eq_true, Bool.not_true, Bool.not_false, add_int, add_tup, add_ref, int_, int0_, mul_int, mul_str, ord_int, FD.ix_tup, ix_fl, ix_ref, at_0, at_1, at_2, at_3, len_tup, len_fl, len_ref, max2_, min2_, tuple_tup, tuple_ref, is_, gs_, setL_, ml_, for_, rng1_, any_, lc_, FD.sl_ref, list_tup, dict0_, dn_, sortK_, val_tup, yes_, isLst_, List.set_cons_zero, List.set_cons_succ, ex_lst hl]
  have hp : 0 < xs.length := List.length_pos_iff.mpr h0
  refine draw_spec F (by omega) (by omega) fun d G' hd hm F' x' => ?_
  have hl' : G' l = some (.lst xs) := x' l _ hn hl
  try simp only [seq_, next_, ret_, drop_, ifs_, br_t, br_f, asg_, gn_, gt_, gtc_, gtn_, par_, var_0, var_s, c_, nil_, cons_, tup_, lst_, op_, bool_, kb_, tru_, tr_bl, andT_, orT_, kn_tt, kn_tf, kn_ff, kn_ft, notT_, and_, kand_t, kand_f, if_, bre_t, bre_f, call_, cb_, neg_, sl_, nopart_, part_, FD.sl_tup, eq_int0, eq_int1, eq_bl0, eq_bl1, beq_self_eq_true, Bool.not_true, Bool.not_false, add_int, add_tup, add_ref, int_, int0_, mul_int, mul_str, ord_int, FD.ix_tup, ix_fl, ix_ref, at_0, at_1, at_2, at_3, len_tup, len_fl, len_ref, max2_, min2_, tuple_tup, tuple_ref, is_, gs_, setL_, ml_, for_, rng1_, any_, lc_, FD.sl_ref, list_tup, dict0_, dn_, sortK_, val_tup, yes_, isLst_, List.set_cons_zero, List.set_cons_succ, ex_lst hl']
  exact at_in hd hm fun x hx => h x G' hx F' x'
end K03

/-! texts, answers, places -/
namespace K03
open PySem L2 FD
def Tx (d : D) : Prop := ∃ s, d = .str s ∧ PyData.strOk s = true
def An (d : D) : Prop := d = .non ∨ Tx d
def Row (d : D) : Prop := ∃ as, d = .tup as ∧ (∀ a ∈ as, An a) ∧ as.length ≤ 4
def Place (b : Nat) (d : D) : Prop := ∃ c args rows n, d = .tup [c, .tup args, .tup rows, .int n] ∧ Tx c ∧ (∀ a ∈ args, Tx a) ∧ (∀ r ∈ rows, Row r) ∧ args.length ≤ 4 ∧ rows.length ≤ b
theorem Place.mono {b b' : Nat} {d : D} (h : Place b d) (hb : b ≤ b') : Place b' d := by
  obtain ⟨c, args, rows, n, e, h1, h2, h3, h4, h5⟩ := h
  exact ⟨c, args, rows, n, e, h1, h2, h3, h4, by omega⟩
theorem calls_spec {G : DG} {Q : DK} (h : ∀ p G', G p = none → G' p = some (.lst [.str "make", .str "", .str "r 2", .str "Mend!", .str "m"]) → Keep G G' → Q (.ref p) G') : sp_calls [] G Q := by
  refine ⟨rfl, ?_⟩
  show t_calls _ [] G
  unfold t_calls
  try simp only [seq_, next_, ret_, drop_, ifs_, br_t, br_f, asg_, gn_, gt_, gtc_, gtn_, par_, var_0, var_s, c_, nil_, cons_, tup_, lst_, op_, bool_, kb_, tru_, tr_bl, andT_, orT_, kn_tt, kn_tf, kn_ff, kn_ft, notT_, and_, kand_t, kand_f, if_, bre_t, bre_f, call_, cb_, neg_, sl_, nopart_, part_, FD.sl_tup, eq_int0, eq_int1, eq_bl0, eq_bl1, beq_self_eq_true, Bool.not_true, Bool.not_false, add_int, add_tup, add_ref, int_, int0_, mul_int, mul_str, ord_int, FD.ix_tup, ix_fl, ix_ref, at_0, at_1, at_2, at_3, len_tup, len_fl, len_ref, max2_, min2_, tuple_tup, tuple_ref, is_, gs_, setL_, ml_, for_, rng1_, any_, lc_, FD.sl_ref, list_tup, dict0_, dn_, sortK_, val_tup, yes_, isLst_, List.set_cons_zero, List.set_cons_succ]
  exact ⟨by simp [sizeLine], new_ h⟩
theorem mul_x_ok {n : Int} (h0 : 1 ≤ n) (h1 : n ≤ 400) : MulOk "x" n := by
  refine ⟨by simp; omega, fun _ _ => ?_, fun _ _ => ?_⟩
  · have e : (("x" : Str).length : Int) = 1 := by decide
    rw [e]
    have : (1 : Int) ≤ (2 ^ 63 - 1) / n := by
      rw [Int.le_ediv_iff_mul_le (by omega)]; omega
    omega
  · have e : ("x" : Str).length = 1 := by decide
    rw [e]
    exact decide_eq_false (by simp only [sizeLine]; omega)
theorem all_foldl {p : Nat → Bool} {x : Array Nat} (hx : x.all p = true) : ∀ (k : Nat) (acc : Array Nat), acc.all p = true → ((List.replicate k x).foldl (· ++ ·) acc).all p = true
  | 0, acc, h => h
  | k + 1, acc, h => by
    rw [List.replicate_succ, List.foldl_cons]
    exact all_foldl hx k (acc ++ x) (by rw [Array.all_append, h, hx]; rfl)
theorem mul_str_ok {x : Str} {n : Int} (h : PyData.strOk x = true) : PyData.strOk (Txt.mul x n) = true := by
  unfold Txt.mul
  split
  · decide +kernel
  · split
    · exact h
    · unfold PyData.strOk
      exact all_foldl h _ _ (by decide +kernel)
theorem text_spec {f : Addr} {G : DG} {Q : DK} (F : Feed f G) (h : ∀ d G', Tx d → Feed f G' → Ext f G G' → Q d G') : sp_some_text [.ref f] G Q := by
  refine ⟨rfl, ?_⟩
  show t_some_text _ [some (.ref f), none, none] G
  unfold t_some_text
  try simp only [seq_, next_, ret_, drop_, ifs_, br_t, br_f, asg_, gn_, gt_, gtc_, gtn_, par_, var_0, var_s, c_, nil_, cons_, tup_, lst_, op_, bool_, kb_, tru_, tr_bl, andT_, orT_, kn_tt, kn_tf, kn_ff, kn_ft, notT_, and_, kand_t, kand_f, if_, bre_t, bre_f, call_, cb_, neg_, sl_, nopart_, part_, FD.sl_tup, eq_int0, eq_int1, eq_bl0, eq_bl1, beq_self_eq_true, Bool.not_true, Bool.not_false, add_int, add_tup, add_ref, int_, int0_, mul_int, mul_str, ord_int, FD.ix_tup, ix_fl, ix_ref, at_0, at_1, at_2, at_3, len_tup, len_fl, len_ref, max2_, min2_, tuple_tup, tuple_ref, is_, gs_, setL_, ml_, for_, rng1_, any_, lc_, FD.sl_ref, list_tup, dict0_, dn_, sortK_, val_tup, yes_, isLst_, List.set_cons_zero, List.set_cons_succ]
  refine draw_spec F (by decide) (by decide) fun d G1 d0 d1 F1 x1 => ?_
  try simp only [seq_, next_, ret_, drop_, ifs_, br_t, br_f, asg_, gn_, gt_, gtc_, gtn_, par_, var_0, var_s, c_, nil_, cons_, tup_, lst_, op_, bool_, kb_, tru_, tr_bl, andT_, orT_, kn_tt, kn_tf, kn_ff, kn_ft, notT_, and_, kand_t, kand_f, if_, bre_t, bre_f, call_, cb_, neg_, sl_, nopart_, part_, FD.sl_tup, eq_int0, eq_int1, eq_bl0, eq_bl1, beq_self_eq_true, Bool.not_true, Bool.not_false, add_int, add_tup, add_ref, int_, int0_, mul_int, mul_str, ord_int, FD.ix_tup, ix_fl, ix_ref, at_0, at_1, at_2, at_3, len_tup, len_fl, len_ref, max2_, min2_, tuple_tup, tuple_ref, is_, gs_, setL_, ml_, for_, rng1_, any_, lc_, FD.sl_ref, list_tup, dict0_, dn_, sortK_, val_tup, yes_, isLst_, List.set_cons_zero, List.set_cons_succ]
  by_cases h7 : d = 7
  · subst h7
    try simp only [seq_, next_, ret_, drop_, ifs_, br_t, br_f, asg_, gn_, gt_, gtc_, gtn_, par_, var_0, var_s, c_, nil_, cons_, tup_, lst_, op_, bool_, kb_, tru_, tr_bl, andT_, orT_, kn_tt, kn_tf, kn_ff, kn_ft, notT_, and_, kand_t, kand_f, if_, bre_t, bre_f, call_, cb_, neg_, sl_, nopart_, part_, FD.sl_tup, eq_int0, eq_int1, eq_bl0, eq_bl1, beq_self_eq_true, Bool.not_true, Bool.not_false, add_int, add_tup, add_ref, int_, int0_, mul_int, mul_str, ord_int, FD.ix_tup, ix_fl, ix_ref, at_0, at_1, at_2, at_3, len_tup, len_fl, len_ref, max2_, min2_, tuple_tup, tuple_ref, is_, gs_, setL_, ml_, for_, rng1_, any_, lc_, FD.sl_ref, list_tup, dict0_, dn_, sortK_, val_tup, yes_, isLst_, List.set_cons_zero, List.set_cons_succ]
    refine calls_spec fun p G2 hp e k => ?_
    refine pick_spec (F1.keep k) e (F1.ne hp) (by simp) (by simp) fun x G3 hx F3 x3 => ?_
    refine h x G3 ?_ F3 (x1.trans (k.ext.trans x3))
    simp only [List.mem_cons, List.not_mem_nil, or_false] at hx
    rcases hx with rfl | rfl | rfl | rfl | rfl <;> exact ⟨_, rfl, by decide +kernel⟩
  have b7 : (d == 7) = false := by simpa using h7
  rw [b7]
  try simp only [seq_, next_, ret_, drop_, ifs_, br_t, br_f, asg_, gn_, gt_, gtc_, gtn_, par_, var_0, var_s, c_, nil_, cons_, tup_, lst_, op_, bool_, kb_, tru_, tr_bl, andT_, orT_, kn_tt, kn_tf, kn_ff, kn_ft, notT_, and_, kand_t, kand_f, if_, bre_t, bre_f, call_, cb_, neg_, sl_, nopart_, part_, FD.sl_tup, eq_int0, eq_int1, eq_bl0, eq_bl1, beq_self_eq_true, Bool.not_true, Bool.not_false, add_int, add_tup, add_ref, int_, int0_, mul_int, mul_str, ord_int, FD.ix_tup, ix_fl, ix_ref, at_0, at_1, at_2, at_3, len_tup, len_fl, len_ref, max2_, min2_, tuple_tup, tuple_ref, is_, gs_, setL_, ml_, for_, rng1_, any_, lc_, FD.sl_ref, list_tup, dict0_, dn_, sortK_, val_tup, yes_, isLst_, List.set_cons_zero, List.set_cons_succ]
  by_cases h6 : d = 6
  · subst h6
    try simp only [seq_, next_, ret_, drop_, ifs_, br_t, br_f, asg_, gn_, gt_, gtc_, gtn_, par_, var_0, var_s, c_, nil_, cons_, tup_, lst_, op_, bool_, kb_, tru_, tr_bl, andT_, orT_, kn_tt, kn_tf, kn_ff, kn_ft, notT_, and_, kand_t, kand_f, if_, bre_t, bre_f, call_, cb_, neg_, sl_, nopart_, part_, FD.sl_tup, eq_int0, eq_int1, eq_bl0, eq_bl1, beq_self_eq_true, Bool.not_true, Bool.not_false, add_int, add_tup, add_ref, int_, int0_, mul_int, mul_str, ord_int, FD.ix_tup, ix_fl, ix_ref, at_0, at_1, at_2, at_3, len_tup, len_fl, len_ref, max2_, min2_, tuple_tup, tuple_ref, is_, gs_, setL_, ml_, for_, rng1_, any_, lc_, FD.sl_ref, list_tup, dict0_, dn_, sortK_, val_tup, yes_, isLst_, List.set_cons_zero, List.set_cons_succ]
    refine draw_spec F1 (by decide) (by decide) fun d2 G2 a0 a1 F2 x2 => ?_
    try simp only [seq_, next_, ret_, drop_, ifs_, br_t, br_f, asg_, gn_, gt_, gtc_, gtn_, par_, var_0, var_s, c_, nil_, cons_, tup_, lst_, op_, bool_, kb_, tru_, tr_bl, andT_, orT_, kn_tt, kn_tf, kn_ff, kn_ft, notT_, and_, kand_t, kand_f, if_, bre_t, bre_f, call_, cb_, neg_, sl_, nopart_, part_, FD.sl_tup, eq_int0, eq_int1, eq_bl0, eq_bl1, beq_self_eq_true, Bool.not_true, Bool.not_false, add_int, add_tup, add_ref, int_, int0_, mul_int, mul_str, ord_int, FD.ix_tup, ix_fl, ix_ref, at_0, at_1, at_2, at_3, len_tup, len_fl, len_ref, max2_, min2_, tuple_tup, tuple_ref, is_, gs_, setL_, ml_, for_, rng1_, any_, lc_, FD.sl_ref, list_tup, dict0_, dn_, sortK_, val_tup, yes_, isLst_, List.set_cons_zero, List.set_cons_succ]
    refine ⟨by simp [sizeLine], ?_⟩
    refine new_ fun p G3 hp e k => ?_
    try simp only [seq_, next_, ret_, drop_, ifs_, br_t, br_f, asg_, gn_, gt_, gtc_, gtn_, par_, var_0, var_s, c_, nil_, cons_, tup_, lst_, op_, bool_, kb_, tru_, tr_bl, andT_, orT_, kn_tt, kn_tf, kn_ff, kn_ft, notT_, and_, kand_t, kand_f, if_, bre_t, bre_f, call_, cb_, neg_, sl_, nopart_, part_, FD.sl_tup, eq_int0, eq_int1, eq_bl0, eq_bl1, beq_self_eq_true, Bool.not_true, Bool.not_false, add_int, add_tup, add_ref, int_, int0_, mul_int, mul_str, ord_int, FD.ix_tup, ix_fl, ix_ref, at_0, at_1, at_2, at_3, len_tup, len_fl, len_ref, max2_, min2_, tuple_tup, tuple_ref, is_, gs_, setL_, ml_, for_, rng1_, any_, lc_, FD.sl_ref, list_tup, dict0_, dn_, sortK_, val_tup, yes_, isLst_, List.set_cons_zero, List.set_cons_succ]
    refine draw_spec (F2.keep k) (by decide) (by decide) fun d3 G4 b0 b1 F4 x4 => ?_
    have e4 := x4.get (F2.ne hp) e
    try simp only [seq_, next_, ret_, drop_, ifs_, br_t, br_f, asg_, gn_, gt_, gtc_, gtn_, par_, var_0, var_s, c_, nil_, cons_, tup_, lst_, op_, bool_, kb_, tru_, tr_bl, andT_, orT_, kn_tt, kn_tf, kn_ff, kn_ft, notT_, and_, kand_t, kand_f, if_, bre_t, bre_f, call_, cb_, neg_, sl_, nopart_, part_, FD.sl_tup, eq_int0, eq_int1, eq_bl0, eq_bl1, beq_self_eq_true, Bool.not_true, Bool.not_false, add_int, add_tup, add_ref, int_, int0_, mul_int, mul_str, ord_int, FD.ix_tup, ix_fl, ix_ref, at_0, at_1, at_2, at_3, len_tup, len_fl, len_ref, max2_, min2_, tuple_tup, tuple_ref, is_, gs_, setL_, ml_, for_, rng1_, any_, lc_, FD.sl_ref, list_tup, dict0_, dn_, sortK_, val_tup, yes_, isLst_, List.set_cons_zero, List.set_cons_succ, ex_lst e4]
    refine ⟨⟨by decide, by decide⟩, ?_⟩
    refine at_in (by omega) (by simp; omega) fun n hn => ?_
    have hn' : ∃ m : Int, n = .int m ∧ 1 ≤ m ∧ m ≤ 400 := by
      simp only [List.mem_cons, List.not_mem_nil, or_false] at hn
      rcases hn with rfl | rfl
      · exact ⟨_, rfl, by omega, by omega⟩
      · exact ⟨_, rfl, by omega, by omega⟩
    obtain ⟨m, rfl, m0, m1⟩ := hn'
    try simp only [seq_, next_, ret_, drop_, ifs_, br_t, br_f, asg_, gn_, gt_, gtc_, gtn_, par_, var_0, var_s, c_, nil_, cons_, tup_, lst_, op_, bool_, kb_, tru_, tr_bl, andT_, orT_, kn_tt, kn_tf, kn_ff, kn_ft, notT_, and_, kand_t, kand_f, if_, bre_t, bre_f, call_, cb_, neg_, sl_, nopart_, part_, FD.sl_tup, eq_int0, eq_int1, eq_bl0, eq_bl1, beq_self_eq_true, Bool.not_true, Bool.not_false, add_int, add_tup, add_ref, int_, int0_, mul_int, mul_str, ord_int, FD.ix_tup, ix_fl, ix_ref, at_0, at_1, at_2, at_3, len_tup, len_fl, len_ref, max2_, min2_, tuple_tup, tuple_ref, is_, gs_, setL_, ml_, for_, rng1_, any_, lc_, FD.sl_ref, list_tup, dict0_, dn_, sortK_, val_tup, yes_, isLst_, List.set_cons_zero, List.set_cons_succ]
    refine ⟨mul_x_ok m0 m1, by simp [sizeLine], ?_⟩
    refine new_ fun q G5 hq e5 k5 => ?_
    refine pick_spec (F4.keep k5) e5 (F4.ne hq) (by simp) (by simp) fun x G6 hx F6 x6 => ?_
    refine h x G6 ?_ F6 (x1.trans (x2.trans (k.ext.trans (x4.trans (k5.ext.trans x6)))))
    simp only [List.mem_cons, List.not_mem_nil, or_false] at hx
    rcases hx with rfl | rfl | rfl | rfl | rfl | rfl | rfl | rfl | rfl | rfl <;> first | exact ⟨_, rfl, by decide +kernel⟩ | exact ⟨_, rfl, mul_str_ok (by decide +kernel)⟩
  have b6 : (d == 6) = false := by simpa using h6
  rw [b6]
  try simp only [seq_, next_, ret_, drop_, ifs_, br_t, br_f, asg_, gn_, gt_, gtc_, gtn_, par_, var_0, var_s, c_, nil_, cons_, tup_, lst_, op_, bool_, kb_, tru_, tr_bl, andT_, orT_, kn_tt, kn_tf, kn_ff, kn_ft, notT_, and_, kand_t, kand_f, if_, bre_t, bre_f, call_, cb_, neg_, sl_, nopart_, part_, FD.sl_tup, eq_int0, eq_int1, eq_bl0, eq_bl1, beq_self_eq_true, Bool.not_true, Bool.not_false, add_int, add_tup, add_ref, int_, int0_, mul_int, mul_str, ord_int, FD.ix_tup, ix_fl, ix_ref, at_0, at_1, at_2, at_3, len_tup, len_fl, len_ref, max2_, min2_, tuple_tup, tuple_ref, is_, gs_, setL_, ml_, for_, rng1_, any_, lc_, FD.sl_ref, list_tup, dict0_, dn_, sortK_, val_tup, yes_, isLst_, List.set_cons_zero, List.set_cons_succ]
  refine ⟨by simp [sizeLine], ?_⟩
  refine new_ fun q G5 hq e5 k5 => ?_
  try simp only [seq_, next_, ret_, drop_, ifs_, br_t, br_f, asg_, gn_, gt_, gtc_, gtn_, par_, var_0, var_s, c_, nil_, cons_, tup_, lst_, op_, bool_, kb_, tru_, tr_bl, andT_, orT_, kn_tt, kn_tf, kn_ff, kn_ft, notT_, and_, kand_t, kand_f, if_, bre_t, bre_f, call_, cb_, neg_, sl_, nopart_, part_, FD.sl_tup, eq_int0, eq_int1, eq_bl0, eq_bl1, beq_self_eq_true, Bool.not_true, Bool.not_false, add_int, add_tup, add_ref, int_, int0_, mul_int, mul_str, ord_int, FD.ix_tup, ix_fl, ix_ref, at_0, at_1, at_2, at_3, len_tup, len_fl, len_ref, max2_, min2_, tuple_tup, tuple_ref, is_, gs_, setL_, ml_, for_, rng1_, any_, lc_, FD.sl_ref, list_tup, dict0_, dn_, sortK_, val_tup, yes_, isLst_, List.set_cons_zero, List.set_cons_succ, ex_lst e5]
  refine at_in d0 (by simp; omega) fun x hx => ?_
  refine h x G5 ?_ (F1.keep k5) (x1.trans k5.ext)
  simp only [List.mem_cons, List.not_mem_nil, or_false] at hx
  rcases hx with rfl | rfl | rfl | rfl | rfl | rfl <;> exact ⟨_, rfl, by decide +kernel⟩
theorem answer_spec {f : Addr} {G : DG} {Q : DK} (F : Feed f G) (h : ∀ d G', An d → Feed f G' → Ext f G G' → Q d G') : sp_some_answer [.ref f] G Q := by
  refine ⟨rfl, ?_⟩
  show t_some_answer _ [some (.ref f)] G
  unfold t_some_answer
  try simp only [seq_, next_, ret_, drop_, ifs_, br_t, br_f, asg_, gn_, gt_, gtc_, gtn_, par_, var_0, var_s, c_, nil_, cons_, tup_, lst_, op_, bool_, kb_, tru_, tr_bl, andT_, orT_, kn_tt, kn_tf, kn_ff, kn_ft, notT_, and_, kand_t, kand_f, if_, bre_t, bre_f, call_, cb_, neg_, sl_, nopart_, part_, FD.sl_tup, eq_int0, eq_int1, eq_bl0, eq_bl1, beq_self_eq_true, Bool.not_true, Bool.not_false, add_int, add_tup, add_ref, int_, int0_, mul_int, mul_str, ord_int, FD.ix_tup, ix_fl, ix_ref, at_0, at_1, at_2, at_3, len_tup, len_fl, len_ref, max2_, min2_, tuple_tup, tuple_ref, is_, gs_, setL_, ml_, for_, rng1_, any_, lc_, FD.sl_ref, list_tup, dict0_, dn_, sortK_, val_tup, yes_, isLst_, List.set_cons_zero, List.set_cons_succ]
  refine draw_spec F (by decide) (by decide) fun d G1 d0 d1 F1 x1 => ?_
  try simp only [seq_, next_, ret_, drop_, ifs_, br_t, br_f, asg_, gn_, gt_, gtc_, gtn_, par_, var_0, var_s, c_, nil_, cons_, tup_, lst_, op_, bool_, kb_, tru_, tr_bl, andT_, orT_, kn_tt, kn_tf, kn_ff, kn_ft, notT_, and_, kand_t, kand_f, if_, bre_t, bre_f, call_, cb_, neg_, sl_, nopart_, part_, FD.sl_tup, eq_int0, eq_int1, eq_bl0, eq_bl1, beq_self_eq_true, Bool.not_true, Bool.not_false, add_int, add_tup, add_ref, int_, int0_, mul_int, mul_str, ord_int, FD.ix_tup, ix_fl, ix_ref, at_0, at_1, at_2, at_3, len_tup, len_fl, len_ref, max2_, min2_, tuple_tup, tuple_ref, is_, gs_, setL_, ml_, for_, rng1_, any_, lc_, FD.sl_ref, list_tup, dict0_, dn_, sortK_, val_tup, yes_, isLst_, List.set_cons_zero, List.set_cons_succ]
  by_cases hd : d = 0
  · subst hd
    exact h _ _ (.inl rfl) F1 x1
  have bd : (d == 0) = false := by simpa using hd
  rw [bd]
  try simp only [seq_, next_, ret_, drop_, ifs_, br_t, br_f, asg_, gn_, gt_, gtc_, gtn_, par_, var_0, var_s, c_, nil_, cons_, tup_, lst_, op_, bool_, kb_, tru_, tr_bl, andT_, orT_, kn_tt, kn_tf, kn_ff, kn_ft, notT_, and_, kand_t, kand_f, if_, bre_t, bre_f, call_, cb_, neg_, sl_, nopart_, part_, FD.sl_tup, eq_int0, eq_int1, eq_bl0, eq_bl1, beq_self_eq_true, Bool.not_true, Bool.not_false, add_int, add_tup, add_ref, int_, int0_, mul_int, mul_str, ord_int, FD.ix_tup, ix_fl, ix_ref, at_0, at_1, at_2, at_3, len_tup, len_fl, len_ref, max2_, min2_, tuple_tup, tuple_ref, is_, gs_, setL_, ml_, for_, rng1_, any_, lc_, FD.sl_ref, list_tup, dict0_, dn_, sortK_, val_tup, yes_, isLst_, List.set_cons_zero, List.set_cons_succ]
  exact text_spec F1 fun x G2 hx F2 x2 => h x G2 (.inr hx) F2 (x1.trans x2)
end K03

namespace K03
open PySem L2 FD
theorem var_at {ρ : DSt} {v : Nat} {d : D} {G : DG} {Q : DK} (h : ρ[v]? = some (some d)) : dVar v ρ G Q = Q d G := by unfold dVar; rw [h]
theorem lc_feed {sp : DSp} {P : D → Prop} {f : Addr} {ρ : DSt} {i v n : Nat} {G : DG} {Q : DK} (hsp : ∀ {G : DG} {Q : DK}, Feed f G → (∀ d G', P d → Feed f G' → Ext f G G' → Q d G') → sp [.ref f] G Q) (hv : ρ[v]? = some (some (.ref f))) (hi : i ≠ v) (F : Feed f G) (hn : n ≤ sizeLine)
    (h : ∀ p ys G', G p = none → (∀ y ∈ ys, P y) → ys.length = n → G' p = some (.lst ys) → Feed f G' → Ext f G G' → Q (.ref p) G') :
    lcGo (fun _ => True) (gnD i) dYes (dCall sp (dCons (dVar v) dNil)) ρ (fun acc G' => kNew G' (.lst acc) Q) (rngD 0 n) [] G := by
  refine lcGo_inv (fun G' => Feed f G' ∧ Ext f G G') (fun _ y => P y) (fun _ _ => True.intro) _ _ _ (fun d _ G1 K I k => ?_) ⟨F, .refl⟩ (by rw [rng_len]; simpa using hn) fun ys G1 hp I => ?_
  · rw [gn_, call_, cons_, var_at (by rw [List.getElem?_set_ne hi]; exact hv)]
    exact hsp I.1 fun y G2 py F2 x2 => k y G2 py ⟨F2, I.2.trans x2⟩
  · rw [List.nil_append]
    exact new_ fun p G2 hn' e kk => h p ys G2 (I.2.back I.1 hn') (paired_all hp) (by rw [paired_len hp, rng_len]) e (I.1.keep kk) (I.2.trans kk.ext)
theorem place_spec {f : Addr} {G : DG} {Q : DK} (F : Feed f G) (h : ∀ d G', Place 2 d → Feed f G' → Ext f G G' → Q d G') : sp_some_place [.ref f] G Q := by
  refine ⟨rfl, ?_⟩
  show t_some_place _ [some (.ref f), none, none, none, none] G
  unfold t_some_place
  try simp only [seq_, next_, ret_, drop_, ifs_, br_t, br_f, asg_, gn_, gt_, gtc_, gtn_, par_, var_0, var_s, c_, nil_, cons_, tup_, lst_, op_, bool_, kb_, tru_, tr_bl, andT_, orT_, kn_tt, kn_tf, kn_ff, kn_ft, notT_, and_, kand_t, kand_f, if_, bre_t, bre_f, call_, cb_, neg_, sl_, nopart_, part_, FD.sl_tup, eq_int0, eq_int1, eq_bl0, eq_bl1, beq_self_eq_true, Bool.not_true, Bool.not_false, add_int, add_tup, add_ref, int_, int0_, mul_int, mul_str, ord_int, FD.ix_tup, ix_fl, ix_ref, at_0, at_1, at_2, at_3, len_tup, len_fl, len_ref, max2_, min2_, tuple_tup, tuple_ref, is_, gs_, setL_, ml_, for_, rng1_, any_, lc_, FD.sl_ref, list_tup, dict0_, dn_, sortK_, val_tup, yes_, isLst_, List.set_cons_zero, List.set_cons_succ]
  refine ⟨by simp [sizeLine], new_ fun r G1 hr er k1 => ?_⟩
  have hrf : r ≠ f := F.ne hr
  try simp only [seq_, next_, ret_, drop_, ifs_, br_t, br_f, asg_, gn_, gt_, gtc_, gtn_, par_, var_0, var_s, c_, nil_, cons_, tup_, lst_, op_, bool_, kb_, tru_, tr_bl, andT_, orT_, kn_tt, kn_tf, kn_ff, kn_ft, notT_, and_, kand_t, kand_f, if_, bre_t, bre_f, call_, cb_, neg_, sl_, nopart_, part_, FD.sl_tup, eq_int0, eq_int1, eq_bl0, eq_bl1, beq_self_eq_true, Bool.not_true, Bool.not_false, add_int, add_tup, add_ref, int_, int0_, mul_int, mul_str, ord_int, FD.ix_tup, ix_fl, ix_ref, at_0, at_1, at_2, at_3, len_tup, len_fl, len_ref, max2_, min2_, tuple_tup, tuple_ref, is_, gs_, setL_, ml_, for_, rng1_, any_, lc_, FD.sl_ref, list_tup, dict0_, dn_, sortK_, val_tup, yes_, isLst_, List.set_cons_zero, List.set_cons_succ]
  refine draw_spec (F.keep k1) (by decide) (by decide) fun n G2 n0 n1 F2 x2 => ?_
  try simp only [seq_, next_, ret_, drop_, ifs_, br_t, br_f, asg_, gn_, gt_, gtc_, gtn_, par_, var_0, var_s, c_, nil_, cons_, tup_, lst_, op_, bool_, kb_, tru_, tr_bl, andT_, orT_, kn_tt, kn_tf, kn_ff, kn_ft, notT_, and_, kand_t, kand_f, if_, bre_t, bre_f, call_, cb_, neg_, sl_, nopart_, part_, FD.sl_tup, eq_int0, eq_int1, eq_bl0, eq_bl1, beq_self_eq_true, Bool.not_true, Bool.not_false, add_int, add_tup, add_ref, int_, int0_, mul_int, mul_str, ord_int, FD.ix_tup, ix_fl, ix_ref, at_0, at_1, at_2, at_3, len_tup, len_fl, len_ref, max2_, min2_, tuple_tup, tuple_ref, is_, gs_, setL_, ml_, for_, rng1_, any_, lc_, FD.sl_ref, list_tup, dict0_, dn_, sortK_, val_tup, yes_, isLst_, List.set_cons_zero, List.set_cons_succ]
  refine ⟨⟨by omega, by omega⟩, ?_⟩
  refine forGo_inv (fun ds ρ G' => ∃ o rows, ρ = [some (.ref f), some (.ref r), o, none, none] ∧ G' r = some (.lst rows) ∧ (∀ x ∈ rows, Row x) ∧ rows.length + ds.length ≤ 2 ∧ Feed f G' ∧ Ext f G G') (fun _ _ _ _ => True.intro) ?_ ?_ _ _ _ ?_
  · rintro d ds _ G3 X ⟨o, rows, rfl, e3, hrow, hlen, F3, x3⟩ k
    try simp only [seq_, next_, ret_, drop_, ifs_, br_t, br_f, asg_, gn_, gt_, gtc_, gtn_, par_, var_0, var_s, c_, nil_, cons_, tup_, lst_, op_, bool_, kb_, tru_, tr_bl, andT_, orT_, kn_tt, kn_tf, kn_ff, kn_ft, notT_, and_, kand_t, kand_f, if_, bre_t, bre_f, call_, cb_, neg_, sl_, nopart_, part_, FD.sl_tup, eq_int0, eq_int1, eq_bl0, eq_bl1, beq_self_eq_true, Bool.not_true, Bool.not_false, add_int, add_tup, add_ref, int_, int0_, mul_int, mul_str, ord_int, FD.ix_tup, ix_fl, ix_ref, at_0, at_1, at_2, at_3, len_tup, len_fl, len_ref, max2_, min2_, tuple_tup, tuple_ref, is_, gs_, setL_, ml_, for_, rng1_, any_, lc_, FD.sl_ref, list_tup, dict0_, dn_, sortK_, val_tup, yes_, isLst_, List.set_cons_zero, List.set_cons_succ]
    refine ⟨⟨_, e3⟩, ?_⟩
    refine draw_spec F3 (by decide) (by decide) fun m G4 m0 m1 F4 x4 => ?_
    try simp only [seq_, next_, ret_, drop_, ifs_, br_t, br_f, asg_, gn_, gt_, gtc_, gtn_, par_, var_0, var_s, c_, nil_, cons_, tup_, lst_, op_, bool_, kb_, tru_, tr_bl, andT_, orT_, kn_tt, kn_tf, kn_ff, kn_ft, notT_, and_, kand_t, kand_f, if_, bre_t, bre_f, call_, cb_, neg_, sl_, nopart_, part_, FD.sl_tup, eq_int0, eq_int1, eq_bl0, eq_bl1, beq_self_eq_true, Bool.not_true, Bool.not_false, add_int, add_tup, add_ref, int_, int0_, mul_int, mul_str, ord_int, FD.ix_tup, ix_fl, ix_ref, at_0, at_1, at_2, at_3, len_tup, len_fl, len_ref, max2_, min2_, tuple_tup, tuple_ref, is_, gs_, setL_, ml_, for_, rng1_, any_, lc_, FD.sl_ref, list_tup, dict0_, dn_, sortK_, val_tup, yes_, isLst_, List.set_cons_zero, List.set_cons_succ]
    refine ⟨⟨by omega, by omega⟩, ?_⟩
    refine lc_feed (fun F => answer_spec F) rfl (by decide) F4 (by simp only [sizeLine]; omega) fun p ys G5 hp hy hyl e5 F5 x5 => ?_
    have e5' := (x4.trans x5).get hrf e3
    try simp only [seq_, next_, ret_, drop_, ifs_, br_t, br_f, asg_, gn_, gt_, gtc_, gtn_, par_, var_0, var_s, c_, nil_, cons_, tup_, lst_, op_, bool_, kb_, tru_, tr_bl, andT_, orT_, kn_tt, kn_tf, kn_ff, kn_ft, notT_, and_, kand_t, kand_f, if_, bre_t, bre_f, call_, cb_, neg_, sl_, nopart_, part_, FD.sl_tup, eq_int0, eq_int1, eq_bl0, eq_bl1, beq_self_eq_true, Bool.not_true, Bool.not_false, add_int, add_tup, add_ref, int_, int0_, mul_int, mul_str, ord_int, FD.ix_tup, ix_fl, ix_ref, at_0, at_1, at_2, at_3, len_tup, len_fl, len_ref, max2_, min2_, tuple_tup, tuple_ref, is_, gs_, setL_, ml_, for_, rng1_, any_, lc_, FD.sl_ref, list_tup, dict0_, dn_, sortK_, val_tup, yes_, isLst_, List.set_cons_zero, List.set_cons_succ, ex_lst e5, append_, ex_lst e5']
    rw [List.length_cons] at hlen
    refine ⟨by simp only [sizeLine]; omega, ?_⟩
    refine k _ _ ⟨some d, rows ++ [.tup ys], rfl, gupd_same, ?_, by rw [List.length_append]; show rows.length + 1 + ds.length ≤ 2; omega, F5.upd hrf, (x3.trans (x4.trans x5)).updN hr⟩
    intro x hx
    rcases List.mem_append.mp hx with hx | hx
    · exact hrow x hx
    · rw [List.mem_singleton.mp hx]; exact ⟨ys, rfl, hy, by omega⟩
  · rintro _ G3 ⟨o, rows, rfl, e3, hrow, hlen, F3, x3⟩
    try simp only [seq_, next_, ret_, drop_, ifs_, br_t, br_f, asg_, gn_, gt_, gtc_, gtn_, par_, var_0, var_s, c_, nil_, cons_, tup_, lst_, op_, bool_, kb_, tru_, tr_bl, andT_, orT_, kn_tt, kn_tf, kn_ff, kn_ft, notT_, and_, kand_t, kand_f, if_, bre_t, bre_f, call_, cb_, neg_, sl_, nopart_, part_, FD.sl_tup, eq_int0, eq_int1, eq_bl0, eq_bl1, beq_self_eq_true, Bool.not_true, Bool.not_false, add_int, add_tup, add_ref, int_, int0_, mul_int, mul_str, ord_int, FD.ix_tup, ix_fl, ix_ref, at_0, at_1, at_2, at_3, len_tup, len_fl, len_ref, max2_, min2_, tuple_tup, tuple_ref, is_, gs_, setL_, ml_, for_, rng1_, any_, lc_, FD.sl_ref, list_tup, dict0_, dn_, sortK_, val_tup, yes_, isLst_, List.set_cons_zero, List.set_cons_succ]
    refine draw_spec F3 (by decide) (by decide) fun m G4 m0 m1 F4 x4 => ?_
    try simp only [seq_, next_, ret_, drop_, ifs_, br_t, br_f, asg_, gn_, gt_, gtc_, gtn_, par_, var_0, var_s, c_, nil_, cons_, tup_, lst_, op_, bool_, kb_, tru_, tr_bl, andT_, orT_, kn_tt, kn_tf, kn_ff, kn_ft, notT_, and_, kand_t, kand_f, if_, bre_t, bre_f, call_, cb_, neg_, sl_, nopart_, part_, FD.sl_tup, eq_int0, eq_int1, eq_bl0, eq_bl1, beq_self_eq_true, Bool.not_true, Bool.not_false, add_int, add_tup, add_ref, int_, int0_, mul_int, mul_str, ord_int, FD.ix_tup, ix_fl, ix_ref, at_0, at_1, at_2, at_3, len_tup, len_fl, len_ref, max2_, min2_, tuple_tup, tuple_ref, is_, gs_, setL_, ml_, for_, rng1_, any_, lc_, FD.sl_ref, list_tup, dict0_, dn_, sortK_, val_tup, yes_, isLst_, List.set_cons_zero, List.set_cons_succ]
    refine ⟨⟨by omega, by omega⟩, ?_⟩
    refine lc_feed (fun F => text_spec F) rfl (by decide) F4 (by simp only [sizeLine]; omega) fun p ys G5 hp hy hyl e5 F5 x5 => ?_
    try simp only [seq_, next_, ret_, drop_, ifs_, br_t, br_f, asg_, gn_, gt_, gtc_, gtn_, par_, var_0, var_s, c_, nil_, cons_, tup_, lst_, op_, bool_, kb_, tru_, tr_bl, andT_, orT_, kn_tt, kn_tf, kn_ff, kn_ft, notT_, and_, kand_t, kand_f, if_, bre_t, bre_f, call_, cb_, neg_, sl_, nopart_, part_, FD.sl_tup, eq_int0, eq_int1, eq_bl0, eq_bl1, beq_self_eq_true, Bool.not_true, Bool.not_false, add_int, add_tup, add_ref, int_, int0_, mul_int, mul_str, ord_int, FD.ix_tup, ix_fl, ix_ref, at_0, at_1, at_2, at_3, len_tup, len_fl, len_ref, max2_, min2_, tuple_tup, tuple_ref, is_, gs_, setL_, ml_, for_, rng1_, any_, lc_, FD.sl_ref, list_tup, dict0_, dn_, sortK_, val_tup, yes_, isLst_, List.set_cons_zero, List.set_cons_succ, ex_lst e5]
    refine text_spec F5 fun c G6 hc F6 x6 => ?_
    have e6 := (x4.trans (x5.trans x6)).get hrf e3
    try simp only [seq_, next_, ret_, drop_, ifs_, br_t, br_f, asg_, gn_, gt_, gtc_, gtn_, par_, var_0, var_s, c_, nil_, cons_, tup_, lst_, op_, bool_, kb_, tru_, tr_bl, andT_, orT_, kn_tt, kn_tf, kn_ff, kn_ft, notT_, and_, kand_t, kand_f, if_, bre_t, bre_f, call_, cb_, neg_, sl_, nopart_, part_, FD.sl_tup, eq_int0, eq_int1, eq_bl0, eq_bl1, beq_self_eq_true, Bool.not_true, Bool.not_false, add_int, add_tup, add_ref, int_, int0_, mul_int, mul_str, ord_int, FD.ix_tup, ix_fl, ix_ref, at_0, at_1, at_2, at_3, len_tup, len_fl, len_ref, max2_, min2_, tuple_tup, tuple_ref, is_, gs_, setL_, ml_, for_, rng1_, any_, lc_, FD.sl_ref, list_tup, dict0_, dn_, sortK_, val_tup, yes_, isLst_, List.set_cons_zero, List.set_cons_succ, ex_lst e6]
    refine ⟨by simp [sizeLine], new_ fun q G7 hq e7 k7 => ?_⟩
    refine draw_spec (F6.keep k7) (by decide) (by decide) fun z G8 z0 z1 F8 x8 => ?_
    have e8 := x8.get (F6.ne hq) e7
    try simp only [seq_, next_, ret_, drop_, ifs_, br_t, br_f, asg_, gn_, gt_, gtc_, gtn_, par_, var_0, var_s, c_, nil_, cons_, tup_, lst_, op_, bool_, kb_, tru_, tr_bl, andT_, orT_, kn_tt, kn_tf, kn_ff, kn_ft, notT_, and_, kand_t, kand_f, if_, bre_t, bre_f, call_, cb_, neg_, sl_, nopart_, part_, FD.sl_tup, eq_int0, eq_int1, eq_bl0, eq_bl1, beq_self_eq_true, Bool.not_true, Bool.not_false, add_int, add_tup, add_ref, int_, int0_, mul_int, mul_str, ord_int, FD.ix_tup, ix_fl, ix_ref, at_0, at_1, at_2, at_3, len_tup, len_fl, len_ref, max2_, min2_, tuple_tup, tuple_ref, is_, gs_, setL_, ml_, for_, rng1_, any_, lc_, FD.sl_ref, list_tup, dict0_, dn_, sortK_, val_tup, yes_, isLst_, List.set_cons_zero, List.set_cons_succ, ex_lst e8]
    refine at_in z0 (by simp; omega) fun w hw => ?_
    have hw' : ∃ i : Int, w = .int i := by
      simp only [List.mem_cons, List.not_mem_nil, or_false] at hw
      rcases hw with rfl | rfl | rfl | rfl | rfl | rfl | rfl <;> exact ⟨_, rfl⟩
    obtain ⟨i, rfl⟩ := hw'
    try simp only [seq_, next_, ret_, drop_, ifs_, br_t, br_f, asg_, gn_, gt_, gtc_, gtn_, par_, var_0, var_s, c_, nil_, cons_, tup_, lst_, op_, bool_, kb_, tru_, tr_bl, andT_, orT_, kn_tt, kn_tf, kn_ff, kn_ft, notT_, and_, kand_t, kand_f, if_, bre_t, bre_f, call_, cb_, neg_, sl_, nopart_, part_, FD.sl_tup, eq_int0, eq_int1, eq_bl0, eq_bl1, beq_self_eq_true, Bool.not_true, Bool.not_false, add_int, add_tup, add_ref, int_, int0_, mul_int, mul_str, ord_int, FD.ix_tup, ix_fl, ix_ref, at_0, at_1, at_2, at_3, len_tup, len_fl, len_ref, max2_, min2_, tuple_tup, tuple_ref, is_, gs_, setL_, ml_, for_, rng1_, any_, lc_, FD.sl_ref, list_tup, dict0_, dn_, sortK_, val_tup, yes_, isLst_, List.set_cons_zero, List.set_cons_succ]
    refine ⟨by simp [sizeLine], h _ _ ⟨c, ys, rows, i, rfl, hc, hy, hrow, by omega, by simpa using hlen⟩ F8 (x3.trans (x4.trans (x5.trans (x6.trans (k7.ext.trans x8)))))⟩
  · exact ⟨none, [], rfl, x2.get hrf er, (fun x hx => nomatch hx), by rw [rng_len]; simp; omega, F2, k1.ext.trans x2⟩
end K03

namespace K03
open PySem L2 FD
theorem near_spec {b : Nat} {f : Addr} {pl : D} {G : DG} {Q : DK} (hb : b ≤ 100) (F : Feed f G) (hp : Place b pl) (h : ∀ d G', Place (b + 2) d → Feed f G' → Ext f G G' → Q d G') : sp_near [.ref f, pl] G Q := by
  have hp0 := hp.mono (Nat.le_add_right b 2)
  obtain ⟨c, args, rows, n, rfl, hc, ha, hr, hal, hrl⟩ := hp
  refine ⟨rfl, ?_⟩
  show t_near _ [some (.ref f), some (.tup [c, .tup args, .tup rows, .int n]), none, none, none, none, none, none, none] G
  unfold t_near
  try simp only [seq_, next_, ret_, drop_, ifs_, br_t, br_f, asg_, gn_, gt_, gtc_, gtn_, par_, var_0, var_s, c_, nil_, cons_, tup_, lst_, op_, bool_, kb_, tru_, tr_bl, andT_, orT_, kn_tt, kn_tf, kn_ff, kn_ft, notT_, and_, kand_t, kand_f, if_, bre_t, bre_f, call_, cb_, neg_, sl_, nopart_, part_, FD.sl_tup, eq_int0, eq_int1, eq_bl0, eq_bl1, beq_self_eq_true, Bool.not_true, Bool.not_false, add_int, add_tup, add_ref, int_, int0_, mul_int, mul_str, ord_int, FD.ix_tup, ix_fl, ix_ref, at_0, at_1, at_2, at_3, len_tup, len_fl, len_ref, max2_, min2_, tuple_tup, tuple_ref, is_, gs_, setL_, ml_, for_, rng1_, any_, lc_, FD.sl_ref, list_tup, dict0_, dn_, sortK_, val_tup, yes_, isLst_, List.set_cons_zero, List.set_cons_succ]
  refine ⟨rfl, ?_⟩
  refine draw_spec F (by decide) (by decide) fun m G1 m0 m1 F1 x1 => ?_
  try simp only [seq_, next_, ret_, drop_, ifs_, br_t, br_f, asg_, gn_, gt_, gtc_, gtn_, par_, var_0, var_s, c_, nil_, cons_, tup_, lst_, op_, bool_, kb_, tru_, tr_bl, andT_, orT_, kn_tt, kn_tf, kn_ff, kn_ft, notT_, and_, kand_t, kand_f, if_, bre_t, bre_f, call_, cb_, neg_, sl_, nopart_, part_, FD.sl_tup, eq_int0, eq_int1, eq_bl0, eq_bl1, beq_self_eq_true, Bool.not_true, Bool.not_false, add_int, add_tup, add_ref, int_, int0_, mul_int, mul_str, ord_int, FD.ix_tup, ix_fl, ix_ref, at_0, at_1, at_2, at_3, len_tup, len_fl, len_ref, max2_, min2_, tuple_tup, tuple_ref, is_, gs_, setL_, ml_, for_, rng1_, any_, lc_, FD.sl_ref, list_tup, dict0_, dn_, sortK_, val_tup, yes_, isLst_, List.set_cons_zero, List.set_cons_succ]
  refine ⟨⟨by omega, by omega⟩, ?_⟩
  refine lc_feed (fun F => answer_spec F) rfl (by decide) F1 (by simp only [sizeLine]; omega) fun p ys G2 _ hy hyl e2 F2 x2 => ?_
  have x02 := x1.trans x2
  have hrow : Row (.tup ys) := ⟨ys, rfl, hy, by omega⟩
  have hmk : ∀ {c args rows n}, Tx c → (∀ a ∈ args, Tx a) → (∀ r ∈ rows, Row r) → args.length ≤ 4 → rows.length ≤ b + 2 → Place (b + 2) (.tup [c, .tup args, .tup rows, .int n]) := fun h1 h2 h3 h4 h5 => ⟨_, _, _, _, rfl, h1, h2, h3, h4, h5⟩
  have hcutr : ∀ r ∈ cutD rows none (some (-1)), Row r := fun r h => hr r (cut_mem h)
  have hcutl : (cutD rows none (some (-1))).length ≤ b := Nat.le_trans cut_len hrl
  have hcuta : ∀ r ∈ cutD args none (some (-1)), Tx r := fun r h => ha r (cut_mem h)
  have hcutal : (cutD args none (some (-1))).length ≤ 4 := Nat.le_trans cut_len hal
  have hc3 : ∀ r ∈ cutD args none (some 3), Tx r := fun r h => ha r (cut_mem h)
  have hc3l : (cutD args none (some 3)).length ≤ 3 := cut_len_hi (k := 3)
  have r1 : ∀ r ∈ rows ++ [D.tup ys], Row r := fun r h => by
    rcases List.mem_append.mp h with h | h
    · exact hr r h
    · rw [List.mem_singleton.mp h]; exact hrow
  have r2 : ∀ r ∈ rows ++ [D.tup ys, D.tup ys], Row r := fun r h => by
    rcases List.mem_append.mp h with h | h
    · exact hr r h
    · simp only [List.mem_cons, List.not_mem_nil, or_false, or_self] at h
      rw [h]; exact hrow
  have r3 : ∀ r ∈ cutD rows none (some (-1)) ++ [D.tup ys], Row r := fun r h => by
    rcases List.mem_append.mp h with h | h
    · exact hcutr r h
    · rw [List.mem_singleton.mp h]; exact hrow
  have a3 : ∀ r ∈ cutD args none (some 3) ++ [D.str ""], Tx r := fun r h => by
    rcases List.mem_append.mp h with h | h
    · exact hc3 r h
    · rw [List.mem_singleton.mp h]; exact ⟨_, rfl, by decide +kernel⟩
  try simp only [seq_, next_, ret_, drop_, ifs_, br_t, br_f, asg_, gn_, gt_, gtc_, gtn_, par_, var_0, var_s, c_, nil_, cons_, tup_, lst_, op_, bool_, kb_, tru_, tr_bl, andT_, orT_, kn_tt, kn_tf, kn_ff, kn_ft, notT_, and_, kand_t, kand_f, if_, bre_t, bre_f, call_, cb_, neg_, sl_, nopart_, part_, FD.sl_tup, eq_int0, eq_int1, eq_bl0, eq_bl1, beq_self_eq_true, Bool.not_true, Bool.not_false, add_int, add_tup, add_ref, int_, int0_, mul_int, mul_str, ord_int, FD.ix_tup, ix_fl, ix_ref, at_0, at_1, at_2, at_3, len_tup, len_fl, len_ref, max2_, min2_, tuple_tup, tuple_ref, is_, gs_, setL_, ml_, for_, rng1_, any_, lc_, FD.sl_ref, list_tup, dict0_, dn_, sortK_, val_tup, yes_, isLst_, List.set_cons_zero, List.set_cons_succ, ex_lst e2]
  repeat (with_reducible refine And.intro (by first | rfl | omega | (simp only [sizeLine, List.length_cons, List.length_nil, List.length_append] <;> omega)) ?_)
  refine new_ fun q G3 hq e3 k3 => ?_
  have hqf := F2.ne hq
  have hq0 := x02.back F2 hq
  try simp only [seq_, next_, ret_, drop_, ifs_, br_t, br_f, asg_, gn_, gt_, gtc_, gtn_, par_, var_0, var_s, c_, nil_, cons_, tup_, lst_, op_, bool_, kb_, tru_, tr_bl, andT_, orT_, kn_tt, kn_tf, kn_ff, kn_ft, notT_, and_, kand_t, kand_f, if_, bre_t, bre_f, call_, cb_, neg_, sl_, nopart_, part_, FD.sl_tup, eq_int0, eq_int1, eq_bl0, eq_bl1, beq_self_eq_true, Bool.not_true, Bool.not_false, add_int, add_tup, add_ref, int_, int0_, mul_int, mul_str, ord_int, FD.ix_tup, ix_fl, ix_ref, at_0, at_1, at_2, at_3, len_tup, len_fl, len_ref, max2_, min2_, tuple_tup, tuple_ref, is_, gs_, setL_, ml_, for_, rng1_, any_, lc_, FD.sl_ref, list_tup, dict0_, dn_, sortK_, val_tup, yes_, isLst_, List.set_cons_zero, List.set_cons_succ]
  refine ⟨⟨_, e3⟩, ?_⟩
  repeat (with_reducible refine And.intro (by first | rfl | omega | (simp only [sizeLine, List.length_cons, List.length_nil, List.length_append] <;> omega)) ?_)
  refine append_g e3 (by simp [sizeLine]) fun G4 e4 y4 => ?_
  have F4 := (F2.keep k3).ext y4 hqf
  have x4 := (x02.trans k3.ext).own hq0 y4
  repeat (with_reducible refine And.intro (by first | rfl | omega | (simp only [sizeLine, List.length_cons, List.length_nil, List.length_append] <;> omega)) ?_)
  refine text_spec F4 fun t G5 ht F5 x5 => ?_
  try simp only [seq_, next_, ret_, drop_, ifs_, br_t, br_f, asg_, gn_, gt_, gtc_, gtn_, par_, var_0, var_s, c_, nil_, cons_, tup_, lst_, op_, bool_, kb_, tru_, tr_bl, andT_, orT_, kn_tt, kn_tf, kn_ff, kn_ft, notT_, and_, kand_t, kand_f, if_, bre_t, bre_f, call_, cb_, neg_, sl_, nopart_, part_, FD.sl_tup, eq_int0, eq_int1, eq_bl0, eq_bl1, beq_self_eq_true, Bool.not_true, Bool.not_false, add_int, add_tup, add_ref, int_, int0_, mul_int, mul_str, ord_int, FD.ix_tup, ix_fl, ix_ref, at_0, at_1, at_2, at_3, len_tup, len_fl, len_ref, max2_, min2_, tuple_tup, tuple_ref, is_, gs_, setL_, ml_, for_, rng1_, any_, lc_, FD.sl_ref, list_tup, dict0_, dn_, sortK_, val_tup, yes_, isLst_, List.set_cons_zero, List.set_cons_succ]
  repeat (with_reducible refine And.intro (by first | rfl | omega | (simp only [sizeLine, List.length_cons, List.length_nil, List.length_append] <;> omega)) ?_)
  refine new_ fun q6 G6 hq6 e6 k6 => ?_
  have e6' := k6 _ _ (x5.get hqf e4)
  try simp only [seq_, next_, ret_, drop_, ifs_, br_t, br_f, asg_, gn_, gt_, gtc_, gtn_, par_, var_0, var_s, c_, nil_, cons_, tup_, lst_, op_, bool_, kb_, tru_, tr_bl, andT_, orT_, kn_tt, kn_tf, kn_ff, kn_ft, notT_, and_, kand_t, kand_f, if_, bre_t, bre_f, call_, cb_, neg_, sl_, nopart_, part_, FD.sl_tup, eq_int0, eq_int1, eq_bl0, eq_bl1, beq_self_eq_true, Bool.not_true, Bool.not_false, add_int, add_tup, add_ref, int_, int0_, mul_int, mul_str, ord_int, FD.ix_tup, ix_fl, ix_ref, at_0, at_1, at_2, at_3, len_tup, len_fl, len_ref, max2_, min2_, tuple_tup, tuple_ref, is_, gs_, setL_, ml_, for_, rng1_, any_, lc_, FD.sl_ref, list_tup, dict0_, dn_, sortK_, val_tup, yes_, isLst_, List.set_cons_zero, List.set_cons_succ, ex_lst e6, ex_lst e6']
  repeat (with_reducible refine And.intro (by first | rfl | omega | (simp only [sizeLine, List.length_cons, List.length_nil, List.length_append] <;> omega)) ?_)
  refine new_ fun q7 G7 hq7 e7 k7 => ?_
  try simp only [seq_, next_, ret_, drop_, ifs_, br_t, br_f, asg_, gn_, gt_, gtc_, gtn_, par_, var_0, var_s, c_, nil_, cons_, tup_, lst_, op_, bool_, kb_, tru_, tr_bl, andT_, orT_, kn_tt, kn_tf, kn_ff, kn_ft, notT_, and_, kand_t, kand_f, if_, bre_t, bre_f, call_, cb_, neg_, sl_, nopart_, part_, FD.sl_tup, eq_int0, eq_int1, eq_bl0, eq_bl1, beq_self_eq_true, Bool.not_true, Bool.not_false, add_int, add_tup, add_ref, int_, int0_, mul_int, mul_str, ord_int, FD.ix_tup, ix_fl, ix_ref, at_0, at_1, at_2, at_3, len_tup, len_fl, len_ref, max2_, min2_, tuple_tup, tuple_ref, is_, gs_, setL_, ml_, for_, rng1_, any_, lc_, FD.sl_ref, list_tup, dict0_, dn_, sortK_, val_tup, yes_, isLst_, List.set_cons_zero, List.set_cons_succ]
  repeat (with_reducible refine And.intro (by first | rfl | omega | (simp only [sizeLine, List.length_cons, List.length_nil, List.length_append] <;> omega)) ?_)
  refine new_ fun q8 G8 hq8 e8 k8 => ?_
  have e8' := k8 _ _ e7
  try simp only [seq_, next_, ret_, drop_, ifs_, br_t, br_f, asg_, gn_, gt_, gtc_, gtn_, par_, var_0, var_s, c_, nil_, cons_, tup_, lst_, op_, bool_, kb_, tru_, tr_bl, andT_, orT_, kn_tt, kn_tf, kn_ff, kn_ft, notT_, and_, kand_t, kand_f, if_, bre_t, bre_f, call_, cb_, neg_, sl_, nopart_, part_, FD.sl_tup, eq_int0, eq_int1, eq_bl0, eq_bl1, beq_self_eq_true, Bool.not_true, Bool.not_false, add_int, add_tup, add_ref, int_, int0_, mul_int, mul_str, ord_int, FD.ix_tup, ix_fl, ix_ref, at_0, at_1, at_2, at_3, len_tup, len_fl, len_ref, max2_, min2_, tuple_tup, tuple_ref, is_, gs_, setL_, ml_, for_, rng1_, any_, lc_, FD.sl_ref, list_tup, dict0_, dn_, sortK_, val_tup, yes_, isLst_, List.set_cons_zero, List.set_cons_succ, ex_lst e8, ex_lst e8']
  repeat (with_reducible refine And.intro (by first | rfl | omega | (simp only [sizeLine, List.length_cons, List.length_nil, List.length_append] <;> omega)) ?_)
  refine new_ fun q9 G9 hq9 e9 k9 => ?_
  try simp only [seq_, next_, ret_, drop_, ifs_, br_t, br_f, asg_, gn_, gt_, gtc_, gtn_, par_, var_0, var_s, c_, nil_, cons_, tup_, lst_, op_, bool_, kb_, tru_, tr_bl, andT_, orT_, kn_tt, kn_tf, kn_ff, kn_ft, notT_, and_, kand_t, kand_f, if_, bre_t, bre_f, call_, cb_, neg_, sl_, nopart_, part_, FD.sl_tup, eq_int0, eq_int1, eq_bl0, eq_bl1, beq_self_eq_true, Bool.not_true, Bool.not_false, add_int, add_tup, add_ref, int_, int0_, mul_int, mul_str, ord_int, FD.ix_tup, ix_fl, ix_ref, at_0, at_1, at_2, at_3, len_tup, len_fl, len_ref, max2_, min2_, tuple_tup, tuple_ref, is_, gs_, setL_, ml_, for_, rng1_, any_, lc_, FD.sl_ref, list_tup, dict0_, dn_, sortK_, val_tup, yes_, isLst_, List.set_cons_zero, List.set_cons_succ]
  repeat (with_reducible refine And.intro (by first | rfl | omega | (simp only [sizeLine, List.length_cons, List.length_nil, List.length_append] <;> omega)) ?_)
  refine new_ fun qa Ga hqa ea ka => ?_
  have ea' := ka _ _ e9
  try simp only [seq_, next_, ret_, drop_, ifs_, br_t, br_f, asg_, gn_, gt_, gtc_, gtn_, par_, var_0, var_s, c_, nil_, cons_, tup_, lst_, op_, bool_, kb_, tru_, tr_bl, andT_, orT_, kn_tt, kn_tf, kn_ff, kn_ft, notT_, and_, kand_t, kand_f, if_, bre_t, bre_f, call_, cb_, neg_, sl_, nopart_, part_, FD.sl_tup, eq_int0, eq_int1, eq_bl0, eq_bl1, beq_self_eq_true, Bool.not_true, Bool.not_false, add_int, add_tup, add_ref, int_, int0_, mul_int, mul_str, ord_int, FD.ix_tup, ix_fl, ix_ref, at_0, at_1, at_2, at_3, len_tup, len_fl, len_ref, max2_, min2_, tuple_tup, tuple_ref, is_, gs_, setL_, ml_, for_, rng1_, any_, lc_, FD.sl_ref, list_tup, dict0_, dn_, sortK_, val_tup, yes_, isLst_, List.set_cons_zero, List.set_cons_succ, ex_lst ea, ex_lst ea']
  repeat (with_reducible refine And.intro (by first | rfl | omega | (simp only [sizeLine, List.length_cons, List.length_nil, List.length_append] <;> omega)) ?_)
  refine new_ fun qb Gb hqb eb kb => ?_
  have kk := k6.trans (k7.trans (k8.trans (k9.trans (ka.trans kb))))
  refine pick_spec (F5.keep kk) eb ((F5.keep (k6.trans (k7.trans (k8.trans (k9.trans ka))))).ne hqb) (by simp) (by simp) fun x Gc hx Fc xc => ?_
  refine h x Gc ?_ Fc (x4.trans (x5.trans (kk.ext.trans xc)))
  simp only [List.cons_append, List.nil_append, List.mem_cons, List.not_mem_nil, or_false] at hx
  rcases hx with rfl | rfl | rfl | rfl | rfl | rfl | rfl | rfl | rfl
  · exact hmk hc ha hr hal (by omega)
  · exact hmk hc ha r1 hal (by simp; omega)
  · exact hmk hc ha hcutr hal (by omega)
  · exact hmk hc ha r2 hal (by simp; omega)
  · exact hmk ht ha hr hal (by omega)
  · exact hmk hc a3 hr (by simp; omega) (by omega)
  · exact hmk hc hcuta r1 hcutal (by simp; omega)
  · exact hmk hc ha r3 hal (by simp; omega)
  · exact hp0
end K03

namespace K03
open PySem L2 FD
theorem zip_self : ∀ ds : List D, zipD ds ds = ds.map fun d => .tup [d, d]
  | [] => rfl
  | d :: ds => by
    have h := zip_self ds
    unfold zipD at h ⊢
    rw [List.zip_cons_cons, List.map_cons, List.map_cons, h]
theorem rep_of {ds ys : List D} (h : Paired (fun _ y => y = D.bl true) ds ys) : ys = List.replicate ys.length (.bl true) := List.eq_replicate_iff.mpr ⟨rfl, paired_all h⟩
/-- the items, one by one -/
theorem same_items {k n : Nat} {x y : D} {chk : DG → Prop} {xs : List D} {G : DG} {Q : DK} (ih : ∀ d ∈ xs, ∀ {G : DG} {Q : DK}, (∀ G', Keep G G' → Q (.bl true) G') → sp_same n [d, d] G Q) (hc : ∀ G', Keep G G' → chk G') (hl : xs.length ≤ sizeLine)
    (h : ∀ p m G', G' p = some (.lst (List.replicate m (.bl true))) → Keep G G' → Q (.ref p) G') :
    lcGo chk (gtD 2 (gtCons (gnD 2) (gtCons (gnD 3) gtNil))) dYes (dCall (self N_same 2 (t_same n)) (dCons (dVar 2) (dCons (dVar 3) dNil))) [some x, some y, none, none] (fun acc G' => kNew G' (.lst acc) Q) (zipD xs xs) [] G := by
  rw [zip_self]
  refine lcGo_inv (fun G' => Keep G G') (fun _ y => y = D.bl true) hc _ _ _ ?_ .refl (by simpa using hl) fun ys G1 hp k1 => ?_
  · intro d hd G1 K k1 kk
    obtain ⟨e, he, rfl⟩ := List.mem_map.mp hd
    try simp only [seq_, next_, ret_, drop_, ifs_, br_t, br_f, asg_, gn_, gt_, gtc_, gtn_, par_, var_0, var_s, c_, nil_, cons_, tup_, lst_, op_, bool_, kb_, tru_, tr_bl, andT_, orT_, kn_tt, kn_tf, kn_ff, kn_ft, notT_, and_, kand_t, kand_f, if_, bre_t, bre_f, call_, cb_, neg_, sl_, nopart_, part_, FD.sl_tup, eq_int0, eq_int1, eq_bl0, eq_bl1, beq_self_eq_true, Bool.not_true, Bool.not_false, add_int, add_tup, add_ref, int_, int0_, mul_int, mul_str, ord_int, FD.ix_tup, ix_fl, ix_ref, at_0, at_1, at_2, at_3, len_tup, len_fl, len_ref, max2_, min2_, tuple_tup, tuple_ref, is_, gs_, setL_, ml_, for_, rng1_, any_, lc_, FD.sl_ref, list_tup, dict0_, dn_, sortK_, val_tup, yes_, isLst_, List.set_cons_zero, List.set_cons_succ]
    refine ⟨rfl, ?_⟩
    exact ih e he fun G2 k2 => kk _ G2 rfl (k1.trans k2)
  · rw [List.nil_append, rep_of hp]
    exact new_ fun p G2 _ e k2 => h p _ G2 e (k1.trans k2)
theorem same_tail {k n : Nat} {d : D} {G : DG} {Q : DK} (hd : Pl k d) (hk : k ≤ 64) (a : Ty) (ha : tyD G d = some a) (h1 : Ty.isa a .list = false) (h2 : Ty.isa a .tuple = false) (h : Q (.bl true) G) : sp_same (n + 1) [d, d] G Q := by
  refine ⟨rfl, ?_⟩
  show t_same (n + 1) _ [some d, some d, none, none] G
  unfold t_same
  try simp only [seq_, next_, ret_, drop_, ifs_, br_t, br_f, asg_, gn_, gt_, gtc_, gtn_, par_, var_0, var_s, c_, nil_, cons_, tup_, lst_, op_, bool_, kb_, tru_, tr_bl, andT_, orT_, kn_tt, kn_tf, kn_ff, kn_ft, notT_, and_, kand_t, kand_f, if_, bre_t, bre_f, call_, cb_, neg_, sl_, nopart_, part_, FD.sl_tup, eq_int0, eq_int1, eq_bl0, eq_bl1, beq_self_eq_true, Bool.not_true, Bool.not_false, add_int, add_tup, add_ref, int_, int0_, mul_int, mul_str, ord_int, FD.ix_tup, ix_fl, ix_ref, at_0, at_1, at_2, at_3, len_tup, len_fl, len_ref, max2_, min2_, tuple_tup, tuple_ref, is_, gs_, setL_, ml_, for_, rng1_, any_, lc_, FD.sl_ref, list_tup, dict0_, dn_, sortK_, val_tup, yes_, isLst_, List.set_cons_zero, List.set_cons_succ, isi_ty ha ty_list, isi_ty ha ty_bool, isi_ty ha ty_int, isi_ty ha ty_str, isi_ty2 ha ty_list ty_tuple, h1, h2, Bool.or_self]
  repeat (with_reducible refine And.intro (by first | rfl | omega | (simp only [sizeLine, List.length_cons, List.length_nil, List.length_append] <;> omega)) ?_)
  refine eq_pl hd hd hk hk ?_
  rw [hd.refl]
  exact h
theorem same_pl : ∀ (k n : Nat) (d : D) {G : DG} {Q : DK}, Pl k d → k ≤ 64 → k ≤ n → (∀ G', Keep G G' → Q (.bl true) G') → sp_same (n + 1) [d, d] G Q
  | k, n, .non, G, Q, hd, hk, hn, h => same_tail hd hk .none rfl rfl rfl (h G .refl)
  | k, n, .bl _, G, Q, hd, hk, hn, h => same_tail hd hk .bool rfl rfl rfl (h G .refl)
  | k, n, .int _, G, Q, hd, hk, hn, h => same_tail hd hk .int rfl rfl rfl (h G .refl)
  | k, n, .str _, G, Q, hd, hk, hn, h => same_tail hd hk .str rfl rfl rfl (h G .refl)
  | 0, n, .tup ds, G, Q, hd, hk, hn, h => by rw [Pl] at hd; exact hd.elim
  | k + 1, 0, .tup ds, G, Q, hd, hk, hn, h => by omega
  | k + 1, n + 1, .tup ds, G, Q, hd, hk, hn, h => by
    obtain ⟨hl, hi⟩ := pl_tup.mp hd
    have ha : ∀ {G : DG}, tyD G (.tup ds) = some .tuple := rfl
    refine ⟨rfl, ?_⟩
    show t_same (n + 1 + 1) _ [some (.tup ds), some (.tup ds), none, none] G
    rw [t_same]
    try simp only [seq_, next_, ret_, drop_, ifs_, br_t, br_f, asg_, gn_, gt_, gtc_, gtn_, par_, var_0, var_s, c_, nil_, cons_, tup_, lst_, op_, bool_, kb_, tru_, tr_bl, andT_, orT_, kn_tt, kn_tf, kn_ff, kn_ft, notT_, and_, kand_t, kand_f, if_, bre_t, bre_f, call_, cb_, neg_, sl_, nopart_, part_, FD.sl_tup, eq_int0, eq_int1, eq_bl0, eq_bl1, beq_self_eq_true, Bool.not_true, Bool.not_false, add_int, add_tup, add_ref, int_, int0_, mul_int, mul_str, ord_int, FD.ix_tup, ix_fl, ix_ref, at_0, at_1, at_2, at_3, len_tup, len_fl, len_ref, max2_, min2_, tuple_tup, tuple_ref, is_, gs_, setL_, ml_, for_, rng1_, any_, lc_, FD.sl_ref, list_tup, dict0_, dn_, sortK_, val_tup, yes_, isLst_, List.set_cons_zero, List.set_cons_succ, isi_ty ha ty_list, isi_ty2 ha ty_list ty_tuple, show Ty.isa .tuple .list = false from rfl, show Ty.isa .tuple .tuple = true from rfl, Bool.false_or]
    repeat (with_reducible refine And.intro (by first | rfl | omega | (simp only [sizeLine, List.length_cons, List.length_nil, List.length_append] <;> omega)) ?_)
    refine same_items (k := k) (fun d hd' {G Q} => same_pl k n d (hi d hd') (by omega) (by omega)) (fun _ _ => True.intro) hl fun p m G' e kk => all_true e (h _ kk)
  | 0, n, .fl ds, G, Q, hd, hk, hn, h => by rw [Pl] at hd; exact hd.elim
  | 0, n, .ref ds, G, Q, hd, hk, hn, h => by rw [Pl] at hd; exact hd.elim
  | 0, n, .ty ds, G, Q, hd, hk, hn, h => by rw [Pl] at hd; exact hd.elim
  | k + 1, n, .fl ds, G, Q, hd, hk, hn, h => by rw [Pl] at hd; exact hd.elim
  | k + 1, n, .ref ds, G, Q, hd, hk, hn, h => by rw [Pl] at hd; exact hd.elim
  | k + 1, n, .ty ds, G, Q, hd, hk, hn, h => by rw [Pl] at hd; exact hd.elim
theorem same_lst {k n : Nat} {a b : Addr} {xs : List D} {G : DG} {Q : DK} (ha : G a = some (.lst xs)) (hb : G b = some (.lst xs)) (hx : ∀ d ∈ xs, Pl k d) (hk : k ≤ 63) (hn : k ≤ n) (hl : xs.length ≤ sizeLine) (h : ∀ G', Keep G G' → Q (.bl true) G') : sp_same (n + 2) [.ref a, .ref b] G Q := by
  have t1 := tyd_lst ha
  have t2 := tyd_lst hb
  refine ⟨rfl, ?_⟩
  show t_same (n + 1 + 1) _ [some (.ref a), some (.ref b), none, none] G
  rw [t_same]
  try simp only [seq_, next_, ret_, drop_, ifs_, br_t, br_f, asg_, gn_, gt_, gtc_, gtn_, par_, var_0, var_s, c_, nil_, cons_, tup_, lst_, op_, bool_, kb_, tru_, tr_bl, andT_, orT_, kn_tt, kn_tf, kn_ff, kn_ft, notT_, and_, kand_t, kand_f, if_, bre_t, bre_f, call_, cb_, neg_, sl_, nopart_, part_, FD.sl_tup, eq_int0, eq_int1, eq_bl0, eq_bl1, beq_self_eq_true, Bool.not_true, Bool.not_false, add_int, add_tup, add_ref, int_, int0_, mul_int, mul_str, ord_int, FD.ix_tup, ix_fl, ix_ref, at_0, at_1, at_2, at_3, len_tup, len_fl, len_ref, max2_, min2_, tuple_tup, tuple_ref, is_, gs_, setL_, ml_, for_, rng1_, any_, lc_, FD.sl_ref, list_tup, dict0_, dn_, sortK_, val_tup, yes_, isLst_, List.set_cons_zero, List.set_cons_succ, isi_ty t1 ty_list, isi_ty2 t1 ty_list ty_tuple, isi_ty t2 ty_list, isi_ty2 t2 ty_list ty_tuple, show Ty.isa .list .list = true from rfl, show Ty.isa .list .tuple = false from rfl, Bool.or_false, ex_lst ha, ex_lst hb]
  repeat (with_reducible refine And.intro (by first | rfl | omega | (simp only [sizeLine, List.length_cons, List.length_nil, List.length_append] <;> omega)) ?_)
  refine ⟨xs, xs, ha, hb, ?_⟩
  refine same_items (k := k) (fun d hd' {G Q} => same_pl k n d (hx d hd') (by omega) (by omega)) (fun G' kk => ⟨kk _ _ ha, kk _ _ hb⟩) hl fun p m G' e kk => all_true e (h _ kk)
end K03

namespace K03
open PySem L2 FD
theorem pl_str {k : Nat} {s : Str} : Pl k (.str s) ↔ PyData.strOk s = true := by cases k <;> rw [Pl]
theorem pl_non {k : Nat} : Pl k .non := by cases k <;> rw [Pl] <;> trivial
theorem pl_int {k : Nat} {i : Int} : Pl k (.int i) := by cases k <;> rw [Pl] <;> trivial
theorem pl_bl {k : Nat} {i : Bool} : Pl k (.bl i) := by cases k <;> rw [Pl] <;> trivial
theorem Tx.pl {k : Nat} {d : D} (h : Tx d) : Pl k d := by obtain ⟨s, rfl, e⟩ := h; exact pl_str.mpr e
theorem An.pl {k : Nat} {d : D} (h : An d) : Pl k d := by
  rcases h with rfl | h
  · exact pl_non
  · exact h.pl
theorem Row.pl {d : D} (h : Row d) : Pl 1 d := by
  obtain ⟨as, rfl, h, hl⟩ := h
  exact pl_tup.mpr ⟨by simp only [sizeLine]; omega, fun a ha => (h a ha).pl⟩
theorem args_pl {args : List D} (h : ∀ a ∈ args, Tx a) (hl : args.length ≤ 4) : Pl 2 (.tup args) := pl_tup.mpr ⟨by simp only [sizeLine]; omega, fun a ha => (h a ha).pl⟩
theorem rows_pl {b : Nat} {rows : List D} (h : ∀ a ∈ rows, Row a) (hl : rows.length ≤ b) (hb : b ≤ 1000) : Pl 2 (.tup rows) := pl_tup.mpr ⟨by simp only [sizeLine]; omega, fun a ha => (h a ha).pl⟩
theorem mk_pl {b : Nat} {c : D} {args rows : List D} {n : Int} (hc : Tx c) (ha : ∀ a ∈ args, Tx a) (hr : ∀ r ∈ rows, Row r) (hal : args.length ≤ 4) (hrl : rows.length ≤ b) (hb : b ≤ 1000) : Pl 3 (.tup [c, .tup args, .tup rows, .int n]) := by
  refine pl_tup.mpr ⟨by simp [sizeLine], fun d hd => ?_⟩
  simp only [List.mem_cons, List.not_mem_nil, or_false] at hd
  rcases hd with rfl | rfl | rfl | rfl
  · exact hc.pl
  · exact args_pl ha hal
  · exact rows_pl hr hrl hb
  · exact pl_int
theorem Place.pl {b : Nat} {d : D} (h : Place b d) (hb : b ≤ 1000) : Pl 3 d := by
  obtain ⟨c, args, rows, n, rfl, hc, ha, hr, hal, hrl⟩ := h
  exact mk_pl hc ha hr hal hrl hb
theorem aw_spec {c args rows : D} {n : Int} {G : DG} {Q : DK} (h : Q (.tup [c, args, rows, .int (n + 1)]) G) : sp_after_write [.tup [c, args, rows, .int n]] G Q := by
  refine ⟨rfl, ?_⟩
  show t_after_write _ [some (.tup [c, args, rows, .int n]), none, none, none, none] G
  unfold t_after_write
  try simp only [seq_, next_, ret_, drop_, ifs_, br_t, br_f, asg_, gn_, gt_, gtc_, gtn_, par_, var_0, var_s, c_, nil_, cons_, tup_, lst_, op_, bool_, kb_, tru_, tr_bl, andT_, orT_, kn_tt, kn_tf, kn_ff, kn_ft, notT_, and_, kand_t, kand_f, if_, bre_t, bre_f, call_, cb_, neg_, sl_, nopart_, part_, FD.sl_tup, eq_int0, eq_int1, eq_bl0, eq_bl1, beq_self_eq_true, Bool.not_true, Bool.not_false, add_int, add_tup, add_ref, int_, int0_, mul_int, mul_str, ord_int, FD.ix_tup, ix_fl, ix_ref, at_0, at_1, at_2, at_3, len_tup, len_fl, len_ref, max2_, min2_, tuple_tup, tuple_ref, is_, gs_, setL_, ml_, for_, rng1_, any_, lc_, FD.sl_ref, list_tup, dict0_, dn_, sortK_, val_tup, yes_, isLst_, List.set_cons_zero, List.set_cons_succ]
  repeat (with_reducible refine And.intro (by first | rfl | omega | (simp only [sizeLine, List.length_cons, List.length_nil, List.length_append] <;> omega)) ?_)
  exact h
theorem ar_spec {c args : D} {rows as : List D} {n : Int} {G : DG} {Q : DK} (hl : rows.length ≤ 1000) (h : Q (.tup [c, args, .tup (rows ++ [.tup as]), .int 0]) G) : sp_after_read [.tup [c, args, .tup rows, .int n], .tup as] G Q := by
  refine ⟨rfl, ?_⟩
  show t_after_read _ [some (.tup [c, args, .tup rows, .int n]), some (.tup as)] G
  unfold t_after_read
  try simp only [seq_, next_, ret_, drop_, ifs_, br_t, br_f, asg_, gn_, gt_, gtc_, gtn_, par_, var_0, var_s, c_, nil_, cons_, tup_, lst_, op_, bool_, kb_, tru_, tr_bl, andT_, orT_, kn_tt, kn_tf, kn_ff, kn_ft, notT_, and_, kand_t, kand_f, if_, bre_t, bre_f, call_, cb_, neg_, sl_, nopart_, part_, FD.sl_tup, eq_int0, eq_int1, eq_bl0, eq_bl1, beq_self_eq_true, Bool.not_true, Bool.not_false, add_int, add_tup, add_ref, int_, int0_, mul_int, mul_str, ord_int, FD.ix_tup, ix_fl, ix_ref, at_0, at_1, at_2, at_3, len_tup, len_fl, len_ref, max2_, min2_, tuple_tup, tuple_ref, is_, gs_, setL_, ml_, for_, rng1_, any_, lc_, FD.sl_ref, list_tup, dict0_, dn_, sortK_, val_tup, yes_, isLst_, List.set_cons_zero, List.set_cons_succ]
  repeat (with_reducible refine And.intro (by first | rfl | omega | (simp only [sizeLine, List.length_cons, List.length_nil, List.length_append] <;> omega)) ?_)
  exact h
def bhv (A B R T : Bool) (l l' : Nat) (n n' : Int) : Bool := if (A && B) = true then (if R = true then decide (n' < n) else (decide ((l' : Int) < l) && T)) else false
theorem eqvAll_len : ∀ {xs ys : List PyData}, PyData.eqvAll xs ys = true → xs.length = ys.length
  | [], [], _ => rfl
  | [], _ :: _, h => by rw [PyData.eqvAll] at h; cases h
  | _ :: _, [], h => by rw [PyData.eqvAll] at h; cases h
  | x :: xs, y :: ys, h => by
    rw [PyData.eqvAll, Bool.and_eq_true] at h
    rw [List.length_cons, List.length_cons, eqvAll_len h.2]
theorem toPys_len (ds : List D) : (toPys ds).length = ds.length := by rw [toPys_map, List.length_map]
theorem eqv_tup {xs ys : List D} : PyData.eqv (toPy (.tup xs)) (toPy (.tup ys)) = PyData.eqvAll (toPys xs) (toPys ys) := by rw [toPy, toPy, PyData.eqv]
theorem isb_spec {b : Nat} {c c' : D} {args args' rows rows' : List D} {n n' : Int} {G : DG} {Q : DK} (hb : b ≤ 1000) (hc : Tx c) (ha : ∀ a ∈ args, Tx a) (hr : ∀ r ∈ rows, Row r) (hal : args.length ≤ 4) (hrl : rows.length ≤ b) (hc' : Tx c') (ha' : ∀ a ∈ args', Tx a) (hr' : ∀ r ∈ rows', Row r) (hal' : args'.length ≤ 4) (hrl' : rows'.length ≤ b)
    (h : Q (.bl (bhv (PyData.eqv (toPy c) (toPy c')) (PyData.eqvAll (toPys args) (toPys args')) (PyData.eqvAll (toPys rows) (toPys rows')) (PyData.eqvAll (toPys (rows.take rows'.length)) (toPys rows')) rows.length rows'.length n n')) G) :
    sp_is_behind [.tup [c, .tup args, .tup rows, .int n], .tup [c', .tup args', .tup rows', .int n']] G Q := by
  refine ⟨rfl, ?_⟩
  show t_is_behind _ [some (.tup [c, .tup args, .tup rows, .int n]), some (.tup [c', .tup args', .tup rows', .int n']), none, none] G
  unfold t_is_behind
  have hp2 : ∀ {c : D} {args : List D}, Tx c → (∀ a ∈ args, Tx a) → args.length ≤ 4 → Pl 3 (.tup [c, .tup args]) := fun h1 h2 h3 => pl_tup.mpr ⟨by simp [sizeLine], fun d hd => by
    simp only [List.mem_cons, List.not_mem_nil, or_false] at hd
    rcases hd with rfl | rfl
    · exact h1.pl
    · exact args_pl h2 h3⟩
  have hrows := rows_pl hr hrl hb
  have hrows' := rows_pl hr' hrl' hb
  try simp only [seq_, next_, ret_, drop_, ifs_, br_t, br_f, asg_, gn_, gt_, gtc_, gtn_, par_, var_0, var_s, c_, nil_, cons_, tup_, lst_, op_, bool_, kb_, tru_, tr_bl, andT_, orT_, kn_tt, kn_tf, kn_ff, kn_ft, notT_, and_, kand_t, kand_f, if_, bre_t, bre_f, call_, cb_, neg_, sl_, nopart_, part_, FD.sl_tup, eq_int0, eq_int1, eq_bl0, eq_bl1, beq_self_eq_true, Bool.not_true, Bool.not_false, add_int, add_tup, add_ref, int_, int0_, mul_int, mul_str, ord_int, FD.ix_tup, ix_fl, ix_ref, at_0, at_1, at_2, at_3, len_tup, len_fl, len_ref, max2_, min2_, tuple_tup, tuple_ref, is_, gs_, setL_, ml_, for_, rng1_, any_, lc_, FD.sl_ref, list_tup, dict0_, dn_, sortK_, val_tup, yes_, isLst_, List.set_cons_zero, List.set_cons_succ, cut2]
  refine eq_pl1 (hp2 hc ha hal) (hp2 hc' ha' hal') (by decide) (by decide) ?_
  rw [eqv_tup]
  simp only [toPys, toPy, PyData.eqvAll, PyData.eqv, Bool.and_true]
  unfold bhv at h
  cases hAB : (PyData.eqv (toPy c) (toPy c') && PyData.eqvAll (toPys args) (toPys args')) with
  | false =>
    rw [hAB] at h
    try simp only [seq_, next_, ret_, drop_, ifs_, br_t, br_f, asg_, gn_, gt_, gtc_, gtn_, par_, var_0, var_s, c_, nil_, cons_, tup_, lst_, op_, bool_, kb_, tru_, tr_bl, andT_, orT_, kn_tt, kn_tf, kn_ff, kn_ft, notT_, and_, kand_t, kand_f, if_, bre_t, bre_f, call_, cb_, neg_, sl_, nopart_, part_, FD.sl_tup, eq_int0, eq_int1, eq_bl0, eq_bl1, beq_self_eq_true, Bool.not_true, Bool.not_false, add_int, add_tup, add_ref, int_, int0_, mul_int, mul_str, ord_int, FD.ix_tup, ix_fl, ix_ref, at_0, at_1, at_2, at_3, len_tup, len_fl, len_ref, max2_, min2_, tuple_tup, tuple_ref, is_, gs_, setL_, ml_, for_, rng1_, any_, lc_, FD.sl_ref, list_tup, dict0_, dn_, sortK_, val_tup, yes_, isLst_, List.set_cons_zero, List.set_cons_succ]
    exact h
  | true =>
    rw [hAB] at h
    try simp only [seq_, next_, ret_, drop_, ifs_, br_t, br_f, asg_, gn_, gt_, gtc_, gtn_, par_, var_0, var_s, c_, nil_, cons_, tup_, lst_, op_, bool_, kb_, tru_, tr_bl, andT_, orT_, kn_tt, kn_tf, kn_ff, kn_ft, notT_, and_, kand_t, kand_f, if_, bre_t, bre_f, call_, cb_, neg_, sl_, nopart_, part_, FD.sl_tup, eq_int0, eq_int1, eq_bl0, eq_bl1, beq_self_eq_true, Bool.not_true, Bool.not_false, add_int, add_tup, add_ref, int_, int0_, mul_int, mul_str, ord_int, FD.ix_tup, ix_fl, ix_ref, at_0, at_1, at_2, at_3, len_tup, len_fl, len_ref, max2_, min2_, tuple_tup, tuple_ref, is_, gs_, setL_, ml_, for_, rng1_, any_, lc_, FD.sl_ref, list_tup, dict0_, dn_, sortK_, val_tup, yes_, isLst_, List.set_cons_zero, List.set_cons_succ]
    refine eq_pl0 hrows hrows' (by decide) (by decide) ?_
    rw [eqv_tup]
    cases hR : PyData.eqvAll (toPys rows) (toPys rows') with
    | true =>
      rw [hR] at h
      try simp only [seq_, next_, ret_, drop_, ifs_, br_t, br_f, asg_, gn_, gt_, gtc_, gtn_, par_, var_0, var_s, c_, nil_, cons_, tup_, lst_, op_, bool_, kb_, tru_, tr_bl, andT_, orT_, kn_tt, kn_tf, kn_ff, kn_ft, notT_, and_, kand_t, kand_f, if_, bre_t, bre_f, call_, cb_, neg_, sl_, nopart_, part_, FD.sl_tup, eq_int0, eq_int1, eq_bl0, eq_bl1, beq_self_eq_true, Bool.not_true, Bool.not_false, add_int, add_tup, add_ref, int_, int0_, mul_int, mul_str, ord_int, FD.ix_tup, ix_fl, ix_ref, at_0, at_1, at_2, at_3, len_tup, len_fl, len_ref, max2_, min2_, tuple_tup, tuple_ref, is_, gs_, setL_, ml_, for_, rng1_, any_, lc_, FD.sl_ref, list_tup, dict0_, dn_, sortK_, val_tup, yes_, isLst_, List.set_cons_zero, List.set_cons_succ]
      exact h
    | false =>
      rw [hR] at h
      try simp only [seq_, next_, ret_, drop_, ifs_, br_t, br_f, asg_, gn_, gt_, gtc_, gtn_, par_, var_0, var_s, c_, nil_, cons_, tup_, lst_, op_, bool_, kb_, tru_, tr_bl, andT_, orT_, kn_tt, kn_tf, kn_ff, kn_ft, notT_, and_, kand_t, kand_f, if_, bre_t, bre_f, call_, cb_, neg_, sl_, nopart_, part_, FD.sl_tup, eq_int0, eq_int1, eq_bl0, eq_bl1, beq_self_eq_true, Bool.not_true, Bool.not_false, add_int, add_tup, add_ref, int_, int0_, mul_int, mul_str, ord_int, FD.ix_tup, ix_fl, ix_ref, at_0, at_1, at_2, at_3, len_tup, len_fl, len_ref, max2_, min2_, tuple_tup, tuple_ref, is_, gs_, setL_, ml_, for_, rng1_, any_, lc_, FD.sl_ref, list_tup, dict0_, dn_, sortK_, val_tup, yes_, isLst_, List.set_cons_zero, List.set_cons_succ]
      cases hL : decide ((rows'.length : Int) < rows.length) with
      | false =>
        rw [hL] at h
        try simp only [seq_, next_, ret_, drop_, ifs_, br_t, br_f, asg_, gn_, gt_, gtc_, gtn_, par_, var_0, var_s, c_, nil_, cons_, tup_, lst_, op_, bool_, kb_, tru_, tr_bl, andT_, orT_, kn_tt, kn_tf, kn_ff, kn_ft, notT_, and_, kand_t, kand_f, if_, bre_t, bre_f, call_, cb_, neg_, sl_, nopart_, part_, FD.sl_tup, eq_int0, eq_int1, eq_bl0, eq_bl1, beq_self_eq_true, Bool.not_true, Bool.not_false, add_int, add_tup, add_ref, int_, int0_, mul_int, mul_str, ord_int, FD.ix_tup, ix_fl, ix_ref, at_0, at_1, at_2, at_3, len_tup, len_fl, len_ref, max2_, min2_, tuple_tup, tuple_ref, is_, gs_, setL_, ml_, for_, rng1_, any_, lc_, FD.sl_ref, list_tup, dict0_, dn_, sortK_, val_tup, yes_, isLst_, List.set_cons_zero, List.set_cons_succ]
        exact h
      | true =>
        rw [hL] at h
        try simp only [seq_, next_, ret_, drop_, ifs_, br_t, br_f, asg_, gn_, gt_, gtc_, gtn_, par_, var_0, var_s, c_, nil_, cons_, tup_, lst_, op_, bool_, kb_, tru_, tr_bl, andT_, orT_, kn_tt, kn_tf, kn_ff, kn_ft, notT_, and_, kand_t, kand_f, if_, bre_t, bre_f, call_, cb_, neg_, sl_, nopart_, part_, FD.sl_tup, eq_int0, eq_int1, eq_bl0, eq_bl1, beq_self_eq_true, Bool.not_true, Bool.not_false, add_int, add_tup, add_ref, int_, int0_, mul_int, mul_str, ord_int, FD.ix_tup, ix_fl, ix_ref, at_0, at_1, at_2, at_3, len_tup, len_fl, len_ref, max2_, min2_, tuple_tup, tuple_ref, is_, gs_, setL_, ml_, for_, rng1_, any_, lc_, FD.sl_ref, list_tup, dict0_, dn_, sortK_, val_tup, yes_, isLst_, List.set_cons_zero, List.set_cons_succ, cut_hi]
        refine eq_pl0 (pl_tup.mpr ⟨by rw [List.length_take]; simp only [sizeLine]; omega, fun r hr'' => (hr r (List.mem_of_mem_take hr'')).pl⟩ : Pl 2 _) hrows' (by decide) (by decide) ?_
        rw [eqv_tup]
        exact h
theorem beh_spec {b : Nat} {c c' : D} {args args' rows rows' : List D} {n n' : Int} {G : DG} {Q : DK} (hb : b ≤ 1000) (hc : Tx c) (ha : ∀ a ∈ args, Tx a) (hr : ∀ r ∈ rows, Row r) (hal : args.length ≤ 4) (hrl : rows.length ≤ b) (hc' : Tx c') (ha' : ∀ a ∈ args', Tx a) (hr' : ∀ r ∈ rows', Row r) (hal' : args'.length ≤ 4) (hrl' : rows'.length ≤ b)
    (h : Q (.bl (bhv (PyData.eqv (toPy c) (toPy c')) (PyData.eqvAll (toPys args) (toPys args')) (PyData.eqvAll (toPys rows) (toPys rows')) (PyData.eqvAll (toPys (rows.take rows'.length)) (toPys rows')) rows.length rows'.length n n')) G) :
    sp_behind [.tup [c, .tup args, .tup rows, .int n], .tup [c', .tup args', .tup rows', .int n']] G Q := by
  refine ⟨rfl, ?_⟩
  show t_behind _ [some (.tup [c, .tup args, .tup rows, .int n]), some (.tup [c', .tup args', .tup rows', .int n'])] G
  unfold t_behind
  have hrows := rows_pl hr hrl hb
  have hrows' := rows_pl hr' hrl' hb
  try simp only [seq_, next_, ret_, drop_, ifs_, br_t, br_f, asg_, gn_, gt_, gtc_, gtn_, par_, var_0, var_s, c_, nil_, cons_, tup_, lst_, op_, bool_, kb_, tru_, tr_bl, andT_, orT_, kn_tt, kn_tf, kn_ff, kn_ft, notT_, and_, kand_t, kand_f, if_, bre_t, bre_f, call_, cb_, neg_, sl_, nopart_, part_, FD.sl_tup, eq_int0, eq_int1, eq_bl0, eq_bl1, beq_self_eq_true, Bool.not_true, Bool.not_false, add_int, add_tup, add_ref, int_, int0_, mul_int, mul_str, ord_int, FD.ix_tup, ix_fl, ix_ref, at_0, at_1, at_2, at_3, len_tup, len_fl, len_ref, max2_, min2_, tuple_tup, tuple_ref, is_, gs_, setL_, ml_, for_, rng1_, any_, lc_, FD.sl_ref, list_tup, dict0_, dn_, sortK_, val_tup, yes_, isLst_, List.set_cons_zero, List.set_cons_succ]
  refine eq_pl1 (k := 0) (m := 0) hc.pl hc'.pl (by decide) (by decide) ?_
  unfold bhv at h
  cases hA : PyData.eqv (toPy c) (toPy c') with
  | false =>
    rw [hA] at h
    exact h
  | true =>
  rw [hA] at h
  try simp only [seq_, next_, ret_, drop_, ifs_, br_t, br_f, asg_, gn_, gt_, gtc_, gtn_, par_, var_0, var_s, c_, nil_, cons_, tup_, lst_, op_, bool_, kb_, tru_, tr_bl, andT_, orT_, kn_tt, kn_tf, kn_ff, kn_ft, notT_, and_, kand_t, kand_f, if_, bre_t, bre_f, call_, cb_, neg_, sl_, nopart_, part_, FD.sl_tup, eq_int0, eq_int1, eq_bl0, eq_bl1, beq_self_eq_true, Bool.not_true, Bool.not_false, add_int, add_tup, add_ref, int_, int0_, mul_int, mul_str, ord_int, FD.ix_tup, ix_fl, ix_ref, at_0, at_1, at_2, at_3, len_tup, len_fl, len_ref, max2_, min2_, tuple_tup, tuple_ref, is_, gs_, setL_, ml_, for_, rng1_, any_, lc_, FD.sl_ref, list_tup, dict0_, dn_, sortK_, val_tup, yes_, isLst_, List.set_cons_zero, List.set_cons_succ]
  refine eq_pl1 (args_pl ha hal) (args_pl ha' hal') (by decide) (by decide) ?_
  rw [eqv_tup]
  cases hB : PyData.eqvAll (toPys args) (toPys args') with
  | false =>
    rw [hB] at h
    exact h
  | true =>
  rw [hB] at h
  try simp only [seq_, next_, ret_, drop_, ifs_, br_t, br_f, asg_, gn_, gt_, gtc_, gtn_, par_, var_0, var_s, c_, nil_, cons_, tup_, lst_, op_, bool_, kb_, tru_, tr_bl, andT_, orT_, kn_tt, kn_tf, kn_ff, kn_ft, notT_, and_, kand_t, kand_f, if_, bre_t, bre_f, call_, cb_, neg_, sl_, nopart_, part_, FD.sl_tup, eq_int0, eq_int1, eq_bl0, eq_bl1, beq_self_eq_true, Bool.not_true, Bool.not_false, add_int, add_tup, add_ref, int_, int0_, mul_int, mul_str, ord_int, FD.ix_tup, ix_fl, ix_ref, at_0, at_1, at_2, at_3, len_tup, len_fl, len_ref, max2_, min2_, tuple_tup, tuple_ref, is_, gs_, setL_, ml_, for_, rng1_, any_, lc_, FD.sl_ref, list_tup, dict0_, dn_, sortK_, val_tup, yes_, isLst_, List.set_cons_zero, List.set_cons_succ]
  by_cases hL : rows.length = rows'.length
  · rw [show ((rows.length : Int) == (rows'.length : Int)) = true by rw [hL]; exact beq_self_eq_true _]
    try simp only [seq_, next_, ret_, drop_, ifs_, br_t, br_f, asg_, gn_, gt_, gtc_, gtn_, par_, var_0, var_s, c_, nil_, cons_, tup_, lst_, op_, bool_, kb_, tru_, tr_bl, andT_, orT_, kn_tt, kn_tf, kn_ff, kn_ft, notT_, and_, kand_t, kand_f, if_, bre_t, bre_f, call_, cb_, neg_, sl_, nopart_, part_, FD.sl_tup, eq_int0, eq_int1, eq_bl0, eq_bl1, beq_self_eq_true, Bool.not_true, Bool.not_false, add_int, add_tup, add_ref, int_, int0_, mul_int, mul_str, ord_int, FD.ix_tup, ix_fl, ix_ref, at_0, at_1, at_2, at_3, len_tup, len_fl, len_ref, max2_, min2_, tuple_tup, tuple_ref, is_, gs_, setL_, ml_, for_, rng1_, any_, lc_, FD.sl_ref, list_tup, dict0_, dn_, sortK_, val_tup, yes_, isLst_, List.set_cons_zero, List.set_cons_succ]
    refine eq_pl0 hrows hrows' (by decide) (by decide) ?_
    rw [eqv_tup]
    cases hR : PyData.eqvAll (toPys rows) (toPys rows') with
    | true =>
      rw [hR] at h
      try simp only [seq_, next_, ret_, drop_, ifs_, br_t, br_f, asg_, gn_, gt_, gtc_, gtn_, par_, var_0, var_s, c_, nil_, cons_, tup_, lst_, op_, bool_, kb_, tru_, tr_bl, andT_, orT_, kn_tt, kn_tf, kn_ff, kn_ft, notT_, and_, kand_t, kand_f, if_, bre_t, bre_f, call_, cb_, neg_, sl_, nopart_, part_, FD.sl_tup, eq_int0, eq_int1, eq_bl0, eq_bl1, beq_self_eq_true, Bool.not_true, Bool.not_false, add_int, add_tup, add_ref, int_, int0_, mul_int, mul_str, ord_int, FD.ix_tup, ix_fl, ix_ref, at_0, at_1, at_2, at_3, len_tup, len_fl, len_ref, max2_, min2_, tuple_tup, tuple_ref, is_, gs_, setL_, ml_, for_, rng1_, any_, lc_, FD.sl_ref, list_tup, dict0_, dn_, sortK_, val_tup, yes_, isLst_, List.set_cons_zero, List.set_cons_succ]
      exact h
    | false =>
      rw [hR, decide_eq_false (by omega : ¬ (rows'.length : Int) < rows.length)] at h
      try simp only [seq_, next_, ret_, drop_, ifs_, br_t, br_f, asg_, gn_, gt_, gtc_, gtn_, par_, var_0, var_s, c_, nil_, cons_, tup_, lst_, op_, bool_, kb_, tru_, tr_bl, andT_, orT_, kn_tt, kn_tf, kn_ff, kn_ft, notT_, and_, kand_t, kand_f, if_, bre_t, bre_f, call_, cb_, neg_, sl_, nopart_, part_, FD.sl_tup, eq_int0, eq_int1, eq_bl0, eq_bl1, beq_self_eq_true, Bool.not_true, Bool.not_false, add_int, add_tup, add_ref, int_, int0_, mul_int, mul_str, ord_int, FD.ix_tup, ix_fl, ix_ref, at_0, at_1, at_2, at_3, len_tup, len_fl, len_ref, max2_, min2_, tuple_tup, tuple_ref, is_, gs_, setL_, ml_, for_, rng1_, any_, lc_, FD.sl_ref, list_tup, dict0_, dn_, sortK_, val_tup, yes_, isLst_, List.set_cons_zero, List.set_cons_succ]
      exact h
  · rw [show ((rows.length : Int) == (rows'.length : Int)) = false by simp; omega]
    have hR : PyData.eqvAll (toPys rows) (toPys rows') = false := by
      cases e : PyData.eqvAll (toPys rows) (toPys rows') with
      | false => rfl
      | true =>
        have := eqvAll_len e
        rw [toPys_len, toPys_len] at this
        exact (hL this).elim
    rw [hR] at h
    try simp only [seq_, next_, ret_, drop_, ifs_, br_t, br_f, asg_, gn_, gt_, gtc_, gtn_, par_, var_0, var_s, c_, nil_, cons_, tup_, lst_, op_, bool_, kb_, tru_, tr_bl, andT_, orT_, kn_tt, kn_tf, kn_ff, kn_ft, notT_, and_, kand_t, kand_f, if_, bre_t, bre_f, call_, cb_, neg_, sl_, nopart_, part_, FD.sl_tup, eq_int0, eq_int1, eq_bl0, eq_bl1, beq_self_eq_true, Bool.not_true, Bool.not_false, add_int, add_tup, add_ref, int_, int0_, mul_int, mul_str, ord_int, FD.ix_tup, ix_fl, ix_ref, at_0, at_1, at_2, at_3, len_tup, len_fl, len_ref, max2_, min2_, tuple_tup, tuple_ref, is_, gs_, setL_, ml_, for_, rng1_, any_, lc_, FD.sl_ref, list_tup, dict0_, dn_, sortK_, val_tup, yes_, isLst_, List.set_cons_zero, List.set_cons_succ]
    cases hG : decide ((rows'.length : Int) < rows.length) with
    | false =>
      rw [hG] at h
      try simp only [seq_, next_, ret_, drop_, ifs_, br_t, br_f, asg_, gn_, gt_, gtc_, gtn_, par_, var_0, var_s, c_, nil_, cons_, tup_, lst_, op_, bool_, kb_, tru_, tr_bl, andT_, orT_, kn_tt, kn_tf, kn_ff, kn_ft, notT_, and_, kand_t, kand_f, if_, bre_t, bre_f, call_, cb_, neg_, sl_, nopart_, part_, FD.sl_tup, eq_int0, eq_int1, eq_bl0, eq_bl1, beq_self_eq_true, Bool.not_true, Bool.not_false, add_int, add_tup, add_ref, int_, int0_, mul_int, mul_str, ord_int, FD.ix_tup, ix_fl, ix_ref, at_0, at_1, at_2, at_3, len_tup, len_fl, len_ref, max2_, min2_, tuple_tup, tuple_ref, is_, gs_, setL_, ml_, for_, rng1_, any_, lc_, FD.sl_ref, list_tup, dict0_, dn_, sortK_, val_tup, yes_, isLst_, List.set_cons_zero, List.set_cons_succ]
      exact h
    | true =>
      rw [hG] at h
      try simp only [seq_, next_, ret_, drop_, ifs_, br_t, br_f, asg_, gn_, gt_, gtc_, gtn_, par_, var_0, var_s, c_, nil_, cons_, tup_, lst_, op_, bool_, kb_, tru_, tr_bl, andT_, orT_, kn_tt, kn_tf, kn_ff, kn_ft, notT_, and_, kand_t, kand_f, if_, bre_t, bre_f, call_, cb_, neg_, sl_, nopart_, part_, FD.sl_tup, eq_int0, eq_int1, eq_bl0, eq_bl1, beq_self_eq_true, Bool.not_true, Bool.not_false, add_int, add_tup, add_ref, int_, int0_, mul_int, mul_str, ord_int, FD.ix_tup, ix_fl, ix_ref, at_0, at_1, at_2, at_3, len_tup, len_fl, len_ref, max2_, min2_, tuple_tup, tuple_ref, is_, gs_, setL_, ml_, for_, rng1_, any_, lc_, FD.sl_ref, list_tup, dict0_, dn_, sortK_, val_tup, yes_, isLst_, List.set_cons_zero, List.set_cons_succ, cut_hi]
      refine eq_pl0 (pl_tup.mpr ⟨by rw [List.length_take]; simp only [sizeLine]; omega, fun r hr'' => (hr r (List.mem_of_mem_take hr'')).pl⟩ : Pl 2 _) hrows' (by decide) (by decide) ?_
      rw [eqv_tup]
      exact h
end K03

namespace K03
open PySem L2 FD
theorem mixed_spec {P : D → Prop} {k : Nat} {f l : Addr} {xs : List D} {G : DG} {Q : DK} (F : Feed f G) (hl : G l = some (.lst xs)) (hlf : l ≠ f) (hP : ∀ x ∈ xs, P x) (hk : k ≤ 63) (hpl : ∀ x, P x → Pl k x) (hn : xs.length ≤ 1000)
    (h : ∀ p ys G', G p = none → G' p = some (.lst ys) → (∀ y ∈ ys, P y) → ys.length = xs.length → Feed f G' → Ext f G G' → Q (.ref p) G') : sp_mixed [.ref f, .ref l] G Q := by
  refine ⟨rfl, ?_⟩
  show t_mixed _ [some (.ref f), some (.ref l), none, none] G
  unfold t_mixed
  try simp only [seq_, next_, ret_, drop_, ifs_, br_t, br_f, asg_, gn_, gt_, gtc_, gtn_, par_, var_0, var_s, c_, nil_, cons_, tup_, lst_, op_, bool_, kb_, tru_, tr_bl, andT_, orT_, kn_tt, kn_tf, kn_ff, kn_ft, notT_, and_, kand_t, kand_f, if_, bre_t, bre_f, call_, cb_, neg_, sl_, nopart_, part_, FD.sl_tup, eq_int0, eq_int1, eq_bl0, eq_bl1, beq_self_eq_true, Bool.not_true, Bool.not_false, add_int, add_tup, add_ref, int_, int0_, mul_int, mul_str, ord_int, FD.ix_tup, ix_fl, ix_ref, at_0, at_1, at_2, at_3, len_tup, len_fl, len_ref, max2_, min2_, tuple_tup, tuple_ref, is_, gs_, setL_, ml_, for_, rng1_, any_, lc_, FD.sl_ref, list_tup, dict0_, dn_, sortK_, val_tup, yes_, isLst_, List.set_cons_zero, List.set_cons_succ]
  refine list_lst hl (new_ fun a G1 ha e1 k1 => ?_)
  try simp only [seq_, next_, ret_, drop_, ifs_, br_t, br_f, asg_, gn_, gt_, gtc_, gtn_, par_, var_0, var_s, c_, nil_, cons_, tup_, lst_, op_, bool_, kb_, tru_, tr_bl, andT_, orT_, kn_tt, kn_tf, kn_ff, kn_ft, notT_, and_, kand_t, kand_f, if_, bre_t, bre_f, call_, cb_, neg_, sl_, nopart_, part_, FD.sl_tup, eq_int0, eq_int1, eq_bl0, eq_bl1, beq_self_eq_true, Bool.not_true, Bool.not_false, add_int, add_tup, add_ref, int_, int0_, mul_int, mul_str, ord_int, FD.ix_tup, ix_fl, ix_ref, at_0, at_1, at_2, at_3, len_tup, len_fl, len_ref, max2_, min2_, tuple_tup, tuple_ref, is_, gs_, setL_, ml_, for_, rng1_, any_, lc_, FD.sl_ref, list_tup, dict0_, dn_, sortK_, val_tup, yes_, isLst_, List.set_cons_zero, List.set_cons_succ]
  repeat (with_reducible refine And.intro (by first | rfl | omega | (simp only [sizeLine, List.length_cons, List.length_nil, List.length_append] <;> omega)) ?_)
  refine new_ fun b G2 hb e2 k2 => ?_
  try simp only [seq_, next_, ret_, drop_, ifs_, br_t, br_f, asg_, gn_, gt_, gtc_, gtn_, par_, var_0, var_s, c_, nil_, cons_, tup_, lst_, op_, bool_, kb_, tru_, tr_bl, andT_, orT_, kn_tt, kn_tf, kn_ff, kn_ft, notT_, and_, kand_t, kand_f, if_, bre_t, bre_f, call_, cb_, neg_, sl_, nopart_, part_, FD.sl_tup, eq_int0, eq_int1, eq_bl0, eq_bl1, beq_self_eq_true, Bool.not_true, Bool.not_false, add_int, add_tup, add_ref, int_, int0_, mul_int, mul_str, ord_int, FD.ix_tup, ix_fl, ix_ref, at_0, at_1, at_2, at_3, len_tup, len_fl, len_ref, max2_, min2_, tuple_tup, tuple_ref, is_, gs_, setL_, ml_, for_, rng1_, any_, lc_, FD.sl_ref, list_tup, dict0_, dn_, sortK_, val_tup, yes_, isLst_, List.set_cons_zero, List.set_cons_succ]
  have haf := F.ne ha
  have hbf := (F.keep k1).ne hb
  have hab : b ≠ a := ne_new hb e1
  have hb0 : G b = none := (k1.ext (f := f)).back (F.keep k1) hb
  refine while_inv (fun n ρ G' => ρ = [some (.ref f), some (.ref l), some (.ref a), some (.ref b)] ∧ ∃ ls fs, G' a = some (.lst ls) ∧ G' b = some (.lst fs) ∧ ls.length = n ∧ ls.length + fs.length = xs.length ∧ (∀ y ∈ ls, P y) ∧ (∀ y ∈ fs, P y) ∧ Feed f G' ∧ Ext f G G') ?_ (n := xs.length) ⟨rfl, xs, [], k2 _ _ e1, e2, rfl, rfl, hP, (fun _ h => nomatch h), (F.keep k1).keep k2, (k1.trans k2).ext⟩
  rintro n _ G3 X ⟨rfl, ls, fs, ea, eb, hln, hlen, hpl', hpf, F3, x3⟩ kx
  try simp only [seq_, next_, ret_, drop_, ifs_, br_t, br_f, asg_, gn_, gt_, gtc_, gtn_, par_, var_0, var_s, c_, nil_, cons_, tup_, lst_, op_, bool_, kb_, tru_, tr_bl, andT_, orT_, kn_tt, kn_tf, kn_ff, kn_ft, notT_, and_, kand_t, kand_f, if_, bre_t, bre_f, call_, cb_, neg_, sl_, nopart_, part_, FD.sl_tup, eq_int0, eq_int1, eq_bl0, eq_bl1, beq_self_eq_true, Bool.not_true, Bool.not_false, add_int, add_tup, add_ref, int_, int0_, mul_int, mul_str, ord_int, FD.ix_tup, ix_fl, ix_ref, at_0, at_1, at_2, at_3, len_tup, len_fl, len_ref, max2_, min2_, tuple_tup, tuple_ref, is_, gs_, setL_, ml_, for_, rng1_, any_, lc_, FD.sl_ref, list_tup, dict0_, dn_, sortK_, val_tup, yes_, isLst_, List.set_cons_zero, List.set_cons_succ]
  repeat (with_reducible refine And.intro (by first | rfl | omega | (simp only [sizeLine, List.length_cons, List.length_nil, List.length_append] <;> omega)) ?_)
  refine new_ fun c G4 hc e4 k4 => ?_
  refine eq_pls1 (k := k) (m := 0) (k4 _ _ ea) e4 (fun d hd => hpl d (hpl' d hd)) (fun _ h => nomatch h) hk (by decide) ?_
  try simp only [seq_, next_, ret_, drop_, ifs_, br_t, br_f, asg_, gn_, gt_, gtc_, gtn_, par_, var_0, var_s, c_, nil_, cons_, tup_, lst_, op_, bool_, kb_, tru_, tr_bl, andT_, orT_, kn_tt, kn_tf, kn_ff, kn_ft, notT_, and_, kand_t, kand_f, if_, bre_t, bre_f, call_, cb_, neg_, sl_, nopart_, part_, FD.sl_tup, eq_int0, eq_int1, eq_bl0, eq_bl1, beq_self_eq_true, Bool.not_true, Bool.not_false, add_int, add_tup, add_ref, int_, int0_, mul_int, mul_str, ord_int, FD.ix_tup, ix_fl, ix_ref, at_0, at_1, at_2, at_3, len_tup, len_fl, len_ref, max2_, min2_, tuple_tup, tuple_ref, is_, gs_, setL_, ml_, for_, rng1_, any_, lc_, FD.sl_ref, list_tup, dict0_, dn_, sortK_, val_tup, yes_, isLst_, List.set_cons_zero, List.set_cons_succ]
  cases ls with
  | nil =>
    show (if (!PyData.eqvAll [] []) = true then _ else _)
    rw [show PyData.eqvAll [] [] = true by rw [PyData.eqvAll]]
    rw [if_neg (by decide)]
    exact h b fs G4 hb0 (k4 _ _ eb) hpf (by simpa using hlen) (F3.keep k4) (x3.trans k4.ext)
  | cons y ls =>
    rw [show PyData.eqvAll (toPys (y :: ls)) (toPys []) = false by rw [toPys, toPys, PyData.eqvAll]]
    rw [if_pos (by decide)]
    have ea4 := k4 _ _ ea
    try simp only [seq_, next_, ret_, drop_, ifs_, br_t, br_f, asg_, gn_, gt_, gtc_, gtn_, par_, var_0, var_s, c_, nil_, cons_, tup_, lst_, op_, bool_, kb_, tru_, tr_bl, andT_, orT_, kn_tt, kn_tf, kn_ff, kn_ft, notT_, and_, kand_t, kand_f, if_, bre_t, bre_f, call_, cb_, neg_, sl_, nopart_, part_, FD.sl_tup, eq_int0, eq_int1, eq_bl0, eq_bl1, beq_self_eq_true, Bool.not_true, Bool.not_false, add_int, add_tup, add_ref, int_, int0_, mul_int, mul_str, ord_int, FD.ix_tup, ix_fl, ix_ref, at_0, at_1, at_2, at_3, len_tup, len_fl, len_ref, max2_, min2_, tuple_tup, tuple_ref, is_, gs_, setL_, ml_, for_, rng1_, any_, lc_, FD.sl_ref, list_tup, dict0_, dn_, sortK_, val_tup, yes_, isLst_, List.set_cons_zero, List.set_cons_succ, ex_lst ea4]
    refine ⟨⟨_, k4 _ _ eb⟩, ⟨_, ea4⟩, ?_⟩
    refine draw_spec (F3.keep k4) (by simp only [List.length_cons]; omega) (by omega) fun d G5 d0 d1 F5 x5 => ?_
    have ea5 := x5.get haf ea4
    have eb5 := x5.get hbf (k4 _ _ eb)
    refine popAt_g ea5 d0 d1 (by simp only [sizeLine]; omega) fun z ls' G6 hz hzl hls e6 x6 => ?_
    have F6 := F5.ext x6 haf
    have eb6 : G6 b = some (.lst fs) := x6 _ _ hab eb5
    try simp only [seq_, next_, ret_, drop_, ifs_, br_t, br_f, asg_, gn_, gt_, gtc_, gtn_, par_, var_0, var_s, c_, nil_, cons_, tup_, lst_, op_, bool_, kb_, tru_, tr_bl, andT_, orT_, kn_tt, kn_tf, kn_ff, kn_ft, notT_, and_, kand_t, kand_f, if_, bre_t, bre_f, call_, cb_, neg_, sl_, nopart_, part_, FD.sl_tup, eq_int0, eq_int1, eq_bl0, eq_bl1, beq_self_eq_true, Bool.not_true, Bool.not_false, add_int, add_tup, add_ref, int_, int0_, mul_int, mul_str, ord_int, FD.ix_tup, ix_fl, ix_ref, at_0, at_1, at_2, at_3, len_tup, len_fl, len_ref, max2_, min2_, tuple_tup, tuple_ref, is_, gs_, setL_, ml_, for_, rng1_, any_, lc_, FD.sl_ref, list_tup, dict0_, dn_, sortK_, val_tup, yes_, isLst_, List.set_cons_zero, List.set_cons_succ]
    refine append_g eb6 (by simp only [sizeLine]; omega) fun G7 e7 x7 => ?_
    have ea7 : G7 a = some (.lst ls') := x7 _ _ (Ne.symm hab) e6
    refine kx (n - 1) _ _ (by rw [← hln, List.length_cons]; omega) ⟨rfl, ls', fs ++ [z], ea7, e7, by omega, by rw [List.length_append]; show ls'.length + (fs.length + 1) = _; omega, fun y hy => hpl' y (hls y hy), fun y hy => ?_, F6.ext x7 hbf, ?_⟩
    · rcases List.mem_append.mp hy with hy | hy
      · exact hpf y hy
      · rw [List.mem_singleton.mp hy]; exact hpl' z hz
    · exact (((x3.trans k4.ext).trans x5).own ha x6).own hb0 x7
def rka : D → D
  | .non => .tup [.int 0, .str ""]
  | d => .tup [.int 1, d]
def rkr : D → D
  | .tup as => .tup (as.map rka)
  | d => d
def rk : D → D
  | .tup [c, a, .tup rows, n] => .tup [c, a, .tup (rows.map rkr), n]
  | d => d
theorem rkrow_spec {row : D} {i j : Nat} {ρ : DSt} {G : DG} {Q : DK} (hr : Row row) (hi : ρ[i]? = some (some row)) (hij : i ≠ j) (hj : j < ρ.length) (h : ∀ G', Keep G G' → Q (rkr row) G') :
    dCB tupleD (dCons (dLc (diAny (dVar i)) (gnD j) dYes (dIf (dBool (dOp (isD false) (dVar j) (dC .non))) (dTup (dCons (dC (.int 0)) (dCons (dC (.str "")) dNil))) (dTup (dCons (dC (.int 1)) (dCons (dVar j) dNil)))) [j]) dNil) ρ G Q := by
  obtain ⟨as, rfl, ha, hal⟩ := hr
  simp only [cb_, cons_, nil_, lc_, any_, var_at hi, val_tup]
  refine lcGo_inv (fun G' => Keep G G') (fun d y => y = rka d) (fun _ _ => True.intro) _ _ _ ?_ .refl (by simp only [List.length_nil, sizeLine]; omega) fun ys G1 hp k1 => ?_
  · intro d hd G1 K k1 kk
    have hv : ((wipeD ρ [j]).set j (some d))[j]? = some (some d) := by
      rw [List.getElem?_set_self (by show j < (ρ.set j none).length; rw [List.length_set]; exact hj)]
    simp only [gn_, if_, bool_, op_, var_at hv, c_, is_, kb_]
    rcases ha d hd with rfl | ⟨s, rfl, hs⟩
    · rw [show (if false = true then !FD.isNon D.non else FD.isNon D.non) = true from rfl, bre_t]
      refine ⟨by simp [sizeLine], kk _ _ rfl k1⟩
    · rw [show (if false = true then !FD.isNon (D.str s) else FD.isNon (D.str s)) = false from rfl, bre_f]
      simp only [tup_, cons_, nil_, c_, var_at hv]
      refine ⟨by simp [sizeLine], kk _ _ rfl k1⟩
  · rw [List.nil_append, paired_map hp]
    refine new_ fun p G2 _ e k2 => ?_
    rw [tuple_ref, ex_lst e]
    exact h G2 (k1.trans k2)
theorem rkrows_spec {rows : List D} {i j : Nat} {ρ : DSt} {G : DG} {Q : DK} (hr : ∀ r ∈ rows, Row r) (hl : rows.length ≤ 1000) (hij : i ≠ j) (hi : i < ρ.length) (hj : j < ρ.length) (h : ∀ p G', G' p = some (.lst (rows.map rkr)) → Keep G G' → Q (.ref p) G') :
    lcGo (fun _ => True) (gnD i) dYes (dCB tupleD (dCons (dLc (diAny (dVar i)) (gnD j) dYes (dIf (dBool (dOp (isD false) (dVar j) (dC .non))) (dTup (dCons (dC (.int 0)) (dCons (dC (.str "")) dNil))) (dTup (dCons (dC (.int 1)) (dCons (dVar j) dNil)))) [j]) dNil)) ρ (fun acc G' => kNew G' (.lst acc) Q) rows [] G := by
  refine lcGo_inv (fun G' => Keep G G') (fun d y => y = rkr d) (fun _ _ => True.intro) _ _ _ ?_ .refl (by simp only [List.length_nil, sizeLine]; omega) fun ys G1 hp k1 => ?_
  · intro d hd G1 K k1 kk
    rw [gn_]
    refine rkrow_spec (hr d hd) (List.getElem?_set_self hi) hij (by rw [List.length_set]; exact hj) fun G2 k2 => kk _ _ rfl (k1.trans k2)
  · rw [List.nil_append, paired_map hp]
    exact new_ fun p G2 _ e k2 => h p G2 e (k1.trans k2)
theorem rank_spec {b : Nat} {d : D} {G : DG} {Q : DK} (hd : Place b d) (hb : b ≤ 1000) (h : ∀ G', Keep G G' → Q (rk d) G') : sp_rank [d] G Q := by
  obtain ⟨c, args, rows, n, rfl, hc, ha, hr, hal, hrl⟩ := hd
  refine ⟨rfl, ?_⟩
  show t_rank _ [some (.tup [c, .tup args, .tup rows, .int n]), none, none, none] G
  unfold t_rank
  try simp only [seq_, next_, ret_, drop_, ifs_, br_t, br_f, asg_, gn_, gt_, gtc_, gtn_, par_, var_0, var_s, c_, nil_, cons_, tup_, lst_, op_, bool_, kb_, tru_, tr_bl, andT_, orT_, kn_tt, kn_tf, kn_ff, kn_ft, notT_, and_, kand_t, kand_f, if_, bre_t, bre_f, call_, cb_, neg_, sl_, nopart_, part_, FD.sl_tup, eq_int0, eq_int1, eq_bl0, eq_bl1, beq_self_eq_true, Bool.not_true, Bool.not_false, add_int, add_tup, add_ref, int_, int0_, mul_int, mul_str, ord_int, FD.ix_tup, ix_fl, ix_ref, at_0, at_1, at_2, at_3, len_tup, len_fl, len_ref, max2_, min2_, tuple_tup, tuple_ref, is_, gs_, setL_, ml_, for_, rng1_, any_, lc_, FD.sl_ref, list_tup, dict0_, dn_, sortK_, val_tup, yes_, isLst_, List.set_cons_zero, List.set_cons_succ]
  refine rkrows_spec hr (by omega) (by decide) (by simp [wipeD]) (by simp [wipeD]) fun p G1 e1 k1 => ?_
  try simp only [seq_, next_, ret_, drop_, ifs_, br_t, br_f, asg_, gn_, gt_, gtc_, gtn_, par_, var_0, var_s, c_, nil_, cons_, tup_, lst_, op_, bool_, kb_, tru_, tr_bl, andT_, orT_, kn_tt, kn_tf, kn_ff, kn_ft, notT_, and_, kand_t, kand_f, if_, bre_t, bre_f, call_, cb_, neg_, sl_, nopart_, part_, FD.sl_tup, eq_int0, eq_int1, eq_bl0, eq_bl1, beq_self_eq_true, Bool.not_true, Bool.not_false, add_int, add_tup, add_ref, int_, int0_, mul_int, mul_str, ord_int, FD.ix_tup, ix_fl, ix_ref, at_0, at_1, at_2, at_3, len_tup, len_fl, len_ref, max2_, min2_, tuple_tup, tuple_ref, is_, gs_, setL_, ml_, for_, rng1_, any_, lc_, FD.sl_ref, list_tup, dict0_, dn_, sortK_, val_tup, yes_, isLst_, List.set_cons_zero, List.set_cons_succ, ex_lst e1]
  repeat (with_reducible refine And.intro (by first | rfl | omega | (simp only [sizeLine, List.length_cons, List.length_nil, List.length_append] <;> omega)) ?_)
  exact h G1 k1
theorem rka_inj {a b : D} (ha : An a) (hb : An b) (h : rka a = rka b) : a = b := by
  rcases ha with rfl | ⟨s, rfl, _⟩ <;> rcases hb with rfl | ⟨t, rfl, _⟩
  · rfl
  · simp [rka] at h
  · simp [rka] at h
  · simpa [rka] using h
theorem map_inj {P : D → Prop} {r : D → D} (hi : ∀ a b, P a → P b → r a = r b → a = b) : ∀ {as bs : List D}, (∀ a ∈ as, P a) → (∀ b ∈ bs, P b) → as.map r = bs.map r → as = bs
  | [], [], _, _, _ => rfl
  | [], _ :: _, _, _, h => by simp at h
  | _ :: _, [], _, _, h => by simp at h
  | a :: as, b :: bs, ha, hb, h => by
    rw [List.map_cons, List.map_cons] at h
    injection h with h1 h2
    rw [hi a b (ha a (List.mem_cons_self ..)) (hb b (List.mem_cons_self ..)) h1, map_inj hi (fun x hx => ha x (List.mem_cons_of_mem _ hx)) (fun x hx => hb x (List.mem_cons_of_mem _ hx)) h2]
theorem rkr_inj {a b : D} (ha : Row a) (hb : Row b) (h : rkr a = rkr b) : a = b := by
  obtain ⟨as, rfl, ha, _⟩ := ha
  obtain ⟨bs, rfl, hb, _⟩ := hb
  simp only [rkr, D.tup.injEq] at h
  rw [map_inj (P := An) (fun a b => rka_inj) ha hb h]
theorem rk_inj {m : Nat} {a b : D} (ha : Place m a) (hb : Place m b) (h : rk a = rk b) : a = b := by
  obtain ⟨c, args, rows, n, rfl, hc, ha, hr, hal, hrl⟩ := ha
  obtain ⟨c', args', rows', n', rfl, hc', ha', hr', hal', hrl'⟩ := hb
  simp only [rk, D.tup.injEq, List.cons.injEq] at h
  obtain ⟨rfl, h2, h3, h4, _⟩ := h
  rw [h2, h4, map_inj (P := Row) (fun a b => rkr_inj) hr hr' h3]
theorem Tx.pk {k : Nat} {d : D} (h : Tx d) : Pk k d := by obtain ⟨s, rfl, e⟩ := h; exact pk_str.mpr e
theorem An.pk {k : Nat} {d : D} (h : An d) : Pk k d := by
  rcases h with rfl | h
  · exact pk_non
  · exact h.pk
theorem Row.pk {d : D} (h : Row d) : Pk 1 d := by
  obtain ⟨as, rfl, h, hl⟩ := h
  exact pk_tup.mpr ⟨by simp only [sizeLine]; omega, fun a ha => (h a ha).pk⟩
theorem four_pk {k : Nat} {c args rows : D} {n : Int} (hc : Tx c) (ha : Pk k args) (hr : Pk k rows) : Pk (k + 1) (.tup [c, args, rows, .int n]) := by
  refine pk_tup.mpr ⟨by simp [sizeLine], fun d hd => ?_⟩
  simp only [List.mem_cons, List.not_mem_nil, or_false] at hd
  rcases hd with rfl | rfl | rfl | rfl
  · exact hc.pk
  · exact ha
  · exact hr
  · exact pk_int
theorem Place.pk {b : Nat} {d : D} (h : Place b d) (hb : b ≤ 1000) : Pk 3 d := by
  obtain ⟨c, args, rows, n, rfl, hc, ha, hr, hal, hrl⟩ := h
  exact four_pk hc (pk_tup.mpr ⟨by simp only [sizeLine]; omega, fun a h => (ha a h).pk⟩) (pk_tup.mpr ⟨by simp only [sizeLine]; omega, fun a h => (hr a h).pk⟩)
theorem pair_pk {k : Nat} {i : Int} {x : D} (h : Pk k x) : Pk (k + 1) (.tup [.int i, x]) := by
  refine pk_tup.mpr ⟨by simp [sizeLine], fun d hd => ?_⟩
  simp only [List.mem_cons, List.not_mem_nil, or_false] at hd
  rcases hd with rfl | rfl
  · exact pk_int
  · exact h
theorem rka_pk {d : D} (h : An d) : Pk 1 (rka d) := by
  rcases h with rfl | ⟨s, rfl, e⟩
  · exact pair_pk (pk_str.mpr (by decide +kernel))
  · exact pair_pk (pk_str.mpr e)
theorem rkr_pk {d : D} (h : Row d) : Pk 2 (rkr d) := by
  obtain ⟨as, rfl, h, hl⟩ := h
  refine pk_tup.mpr ⟨by rw [List.length_map]; simp only [sizeLine]; omega, fun a ha => ?_⟩
  obtain ⟨x, hx, rfl⟩ := List.mem_map.mp ha
  exact rka_pk (h x hx)
theorem rk_pk {b : Nat} {d : D} (h : Place b d) (hb : b ≤ 1000) : Pk 4 (rk d) := by
  obtain ⟨c, args, rows, n, rfl, hc, ha, hr, hal, hrl⟩ := h
  refine four_pk hc (pk_tup.mpr ⟨by simp only [sizeLine]; omega, fun a h => (ha a h).pk⟩) (pk_tup.mpr ⟨by rw [List.length_map]; simp only [sizeLine]; omega, fun a h => ?_⟩)
  obtain ⟨x, hx, rfl⟩ := List.mem_map.mp h
  exact rkr_pk (hr x hx)
theorem rk_keq {b : Nat} {x y : D} (hx : Place b x) (hy : Place b y) (hb : b ≤ 1000) : keq (rk x) (rk y) = keq x y ∧ (keq x y = true → x = y) := by
  have h1 := keq_iff (rk_pk hx hb) (rk_pk hy hb)
  have h2 := keq_iff (hx.pk hb) (hy.pk hb)
  refine ⟨?_, h2.mp⟩
  cases e : keq x y with
  | true => rw [h2.mp e]; exact keq_refl
  | false =>
    cases e2 : keq (rk x) (rk y) with
    | false => rfl
    | true =>
      rw [h2.mpr (rk_inj hx hy (h1.mp e2))] at e
      cases e
theorem alike_tx {a b : D} (ha : Tx a) (hb : Tx b) : PySem.W.alike (toPy a) (toPy b) = true := by
  obtain ⟨s, rfl, _⟩ := ha
  obtain ⟨t, rfl, _⟩ := hb
  rw [toPy, toPy, PySem.W.alike]
theorem alike_tups {as bs : List D} (h : ∀ a ∈ as, ∀ b ∈ bs, PySem.W.alike (toPy a) (toPy b) = true) : PySem.W.alike (toPy (.tup as)) (toPy (.tup bs)) = true := by
  rw [toPy, toPy, PySem.W.alike]
  refine alike_all fun x hx y hy => ?_
  rw [toPys_map] at hx hy
  obtain ⟨a, ha, rfl⟩ := List.mem_map.mp hx
  obtain ⟨b, hb, rfl⟩ := List.mem_map.mp hy
  exact h a ha b hb
theorem alike_rka {a b : D} (ha : An a) (hb : An b) : PySem.W.alike (toPy (rka a)) (toPy (rka b)) = true := by
  rcases ha with rfl | ⟨s, rfl, _⟩ <;> rcases hb with rfl | ⟨t, rfl, _⟩ <;> simp [rka, toPy, toPys, PySem.W.alike, PySem.W.alikeAll]
theorem alike_rkr {a b : D} (ha : Row a) (hb : Row b) : PySem.W.alike (toPy (rkr a)) (toPy (rkr b)) = true := by
  obtain ⟨as, rfl, ha, _⟩ := ha
  obtain ⟨bs, rfl, hb, _⟩ := hb
  refine alike_tups fun x hx y hy => ?_
  obtain ⟨u, hu, rfl⟩ := List.mem_map.mp hx
  obtain ⟨v, hv, rfl⟩ := List.mem_map.mp hy
  exact alike_rka (ha u hu) (hb v hv)
theorem alike_rk {m m' : Nat} {a b : D} (ha : Place m a) (hb : Place m' b) : PySem.W.alike (toPy (rk a)) (toPy (rk b)) = true := by
  obtain ⟨c, args, rows, n, rfl, hc, ha, hr, hal, hrl⟩ := ha
  obtain ⟨c', args', rows', n', rfl, hc', ha', hr', hal', hrl'⟩ := hb
  have h1 := alike_tx hc hc'
  have h2 := alike_tups (as := args) (bs := args') fun a h b h' => alike_tx (ha a h) (ha' b h')
  have h3 := alike_tups (as := rows.map rkr) (bs := rows'.map rkr) fun x hx y hy => by
    obtain ⟨u, hu, rfl⟩ := List.mem_map.mp hx
    obtain ⟨v, hv, rfl⟩ := List.mem_map.mp hy
    exact alike_rkr (hr u hu) (hr' v hv)
  show PySem.W.alike (toPy (.tup [c, .tup args, .tup (rows.map rkr), .int n])) (toPy (.tup [c', .tup args', .tup (rows'.map rkr), .int n'])) = true
  rw [toPy, toPy, toPys, toPys, toPys, toPys, toPys, toPys, toPys, toPys, toPys, toPys, PySem.W.alike, PySem.W.alikeAll, PySem.W.alikeAll, PySem.W.alikeAll, PySem.W.alikeAll, PySem.W.alikeAll, h1, h2, h3]
  rw [toPy, toPy, PySem.W.alike]; rfl
theorem rk_sort {b : Nat} {xs : List D} (h : ∀ x ∈ xs, Place b x) (hb : b ≤ 1000) : SortOk (xs.map rk) := by
  have hp : ∀ d ∈ xs.map rk, Pl 4 d := fun d hd => by
    obtain ⟨x, hx, rfl⟩ := List.mem_map.mp hd
    exact (rk_pk (h x hx) hb).pl
  refine ⟨(Pl.all hp).1, ?_, .inl ?_, fun d hd => Nat.le_trans (hp d hd).im.2.2 (by decide)⟩
  · intro d hd d' hd'
    rw [List.map_map] at hd hd'
    obtain ⟨x, hx, rfl⟩ := List.mem_map.mp hd
    obtain ⟨y, hy, rfl⟩ := List.mem_map.mp hd'
    exact alike_rk (h x hx) (h y hy)
  · intro d hd
    rw [List.map_map] at hd
    obtain ⟨x, hx, rfl⟩ := List.mem_map.mp hd
    obtain ⟨c, args, rows, n, rfl, _⟩ := h x hx
    exact ⟨toPy c, [PyData.tuple (toPys args), PyData.tuple (toPys (List.map rkr rows)), PyData.int n], by simp only [Function.comp, rk, toPy, toPys]⟩
end K03

namespace K03
open PySem L2 FD
theorem Place.tup {b : Nat} {d : D} (h : Place b d) : ∃ ds, d = .tup ds := by
  obtain ⟨c, args, rows, n, rfl, _⟩ := h
  exact ⟨_, rfl⟩
theorem rk_tup {b : Nat} {d : D} (h : Place b d) : ∃ ds, rk d = .tup ds := by
  obtain ⟨c, args, rows, n, rfl, _⟩ := h
  exact ⟨_, rfl⟩
theorem Place.okk {b : Nat} {d : D} (h : Place b d) (hb : b ≤ 1000) : okKey d = true := by
  have q := h.pk hb
  obtain ⟨ds, rfl⟩ := h.tup
  exact q.ok (by decide)
theorem rk_okk {b : Nat} {d : D} (h : Place b d) (hb : b ≤ 1000) : okKey (rk d) = true := by
  have q := rk_pk h hb
  obtain ⟨ds, e⟩ := rk_tup h
  rw [e] at q ⊢
  exact q.ok (by decide)
theorem id_keq {b : Nat} {x y : D} (hx : Place b x) (hy : Place b y) (hb : b ≤ 1000) : keq x y = keq x y ∧ (keq x y = true → x = y) := ⟨rfl, (rk_keq hx hy hb).2⟩
abbrev ordr (xs : List D) : List D := srtOn rk (ddp [] xs)
theorem ordr_all {P : D → Prop} {xs : List D} (h : ∀ x ∈ xs, P x) : ∀ x ∈ ordr xs, P x := fun x hx => ddp_mem (fun _ h => nomatch h) h x (srtOn_mem.mp hx)
theorem ordr_len {xs : List D} : (ordr xs).length ≤ xs.length := by
  rw [srtOn_len]
  have h := ddp_len (xs := xs) (acc := [])
  simpa using h
theorem inord_tail {b : Nat} {x : D} {xs : List D} {chk : DG → Prop} {G : DG} {Q : DK} (hb : b ≤ 1000) (hc : ∀ G', Keep G G' → chk G') (hp : ∀ x ∈ xs, Place b x) (hl : xs.length ≤ 1000) (h : ∀ p G', G p = none → G' p = some (.lst (ordr xs)) → Keep G G' → Q (.ref p) G') :
    dcGo chk (gnD 1) dYes (dVar 1) (dC (.bl true)) (wipeD [some x, none] [1]) (fun kvs G' => kNew G' (.dic kvs) fun x G1 => listDD [x] G1 fun x G1 => sortedKD sp_rank [x] G1 Q) xs [] G := by
  refine dcGo_ddp (r := fun a => a) (v := fun _ => .bl true) (P := Place b) (I := fun G' => Keep G G') hc (fun x hx => hx.okk hb) (fun a x ha hx => id_keq ha hx hb) xs [] G ?_ .refl hp (fun _ h => nomatch h) (by simp only [List.length_nil, sizeLine]; omega) fun G1 k1 => ?_
  · intro d hd G1 K k1 kk
    try simp only [seq_, next_, ret_, drop_, ifs_, br_t, br_f, asg_, gn_, gt_, gtc_, gtn_, par_, var_0, var_s, c_, nil_, cons_, tup_, lst_, op_, bool_, kb_, tru_, tr_bl, andT_, orT_, kn_tt, kn_tf, kn_ff, kn_ft, notT_, and_, kand_t, kand_f, if_, bre_t, bre_f, call_, cb_, neg_, sl_, nopart_, part_, FD.sl_tup, eq_int0, eq_int1, eq_bl0, eq_bl1, beq_self_eq_true, Bool.not_true, Bool.not_false, add_int, add_tup, add_ref, int_, int0_, mul_int, mul_str, ord_int, FD.ix_tup, ix_fl, ix_ref, at_0, at_1, at_2, at_3, len_tup, len_fl, len_ref, max2_, min2_, tuple_tup, tuple_ref, is_, gs_, setL_, ml_, for_, rng1_, any_, lc_, FD.sl_ref, list_tup, dict0_, dn_, sortK_, val_tup, yes_, isLst_, List.set_cons_zero, List.set_cons_succ]
    exact kk _ k1
  · have hP : ∀ x ∈ ddp [] xs, Place b x := ddp_mem (fun _ h => nomatch h) hp
    refine new_ fun p G2 _ e2 k2 => ?_
    refine list_dic e2 (tupKeys_map (r := fun a => a) (v := fun _ => .bl true) fun a ha => okKey_tup ((hP a ha).okk hb)) ?_
    refine new_ fun q G3 _ e3 k3 => ?_
    rw [List.map_map, show (List.map ((fun x : D × D => x.1) ∘ fun a => ((fun a => a) a, (fun _ => D.bl true) a)) (ddp [] xs)) = ddp [] xs from List.map_id _] at e3
    refine ⟨_, e3, ?_⟩
    refine skGo_map (r := rk) (I := fun G' => Keep G G') _ [] _ (fun x hx {G' Q'} kx kk => rank_spec (hP x hx) hb fun G'' k' => kk G'' (kx.trans k')) ((k1.trans k2).trans k3) fun G4 k4 => ?_
    rw [List.nil_append]
    refine ⟨rk_sort hP hb, ?_⟩
    rw [srtBy_map]
    exact new_ fun s G5 hs e5 k5 => h s G5 (k4.back hs) e5 (k4.trans k5)
theorem inord_lst {b : Nat} {l : Addr} {xs : List D} {G : DG} {Q : DK} (hb : b ≤ 1000) (hp : ∀ x ∈ xs, Place b x) (hl : xs.length ≤ 1000) (e : G l = some (.lst xs)) (h : ∀ p G', G p = none → G' p = some (.lst (ordr xs)) → Keep G G' → Q (.ref p) G') : sp_in_order [.ref l] G Q := by
  refine ⟨rfl, ?_⟩
  show t_in_order _ [some (.ref l), none] G
  unfold t_in_order
  try simp only [seq_, next_, ret_, drop_, ifs_, br_t, br_f, asg_, gn_, gt_, gtc_, gtn_, par_, var_0, var_s, c_, nil_, cons_, tup_, lst_, op_, bool_, kb_, tru_, tr_bl, andT_, orT_, kn_tt, kn_tf, kn_ff, kn_ft, notT_, and_, kand_t, kand_f, if_, bre_t, bre_f, call_, cb_, neg_, sl_, nopart_, part_, FD.sl_tup, eq_int0, eq_int1, eq_bl0, eq_bl1, beq_self_eq_true, Bool.not_true, Bool.not_false, add_int, add_tup, add_ref, int_, int0_, mul_int, mul_str, ord_int, FD.ix_tup, ix_fl, ix_ref, at_0, at_1, at_2, at_3, len_tup, len_fl, len_ref, max2_, min2_, tuple_tup, tuple_ref, is_, gs_, setL_, ml_, for_, rng1_, any_, lc_, FD.sl_ref, list_tup, dict0_, dn_, sortK_, val_tup, yes_, isLst_, List.set_cons_zero, List.set_cons_succ]
  refine val_lst e ?_
  exact inord_tail hb (fun G' k => k _ _ e) hp hl h
theorem inord_tup {b : Nat} {xs : List D} {G : DG} {Q : DK} (hb : b ≤ 1000) (hp : ∀ x ∈ xs, Place b x) (hl : xs.length ≤ 1000) (h : ∀ p G', G p = none → G' p = some (.lst (ordr xs)) → Keep G G' → Q (.ref p) G') : sp_in_order [.tup xs] G Q := by
  refine ⟨rfl, ?_⟩
  show t_in_order _ [some (.tup xs), none] G
  unfold t_in_order
  try simp only [seq_, next_, ret_, drop_, ifs_, br_t, br_f, asg_, gn_, gt_, gtc_, gtn_, par_, var_0, var_s, c_, nil_, cons_, tup_, lst_, op_, bool_, kb_, tru_, tr_bl, andT_, orT_, kn_tt, kn_tf, kn_ff, kn_ft, notT_, and_, kand_t, kand_f, if_, bre_t, bre_f, call_, cb_, neg_, sl_, nopart_, part_, FD.sl_tup, eq_int0, eq_int1, eq_bl0, eq_bl1, beq_self_eq_true, Bool.not_true, Bool.not_false, add_int, add_tup, add_ref, int_, int0_, mul_int, mul_str, ord_int, FD.ix_tup, ix_fl, ix_ref, at_0, at_1, at_2, at_3, len_tup, len_fl, len_ref, max2_, min2_, tuple_tup, tuple_ref, is_, gs_, setL_, ml_, for_, rng1_, any_, lc_, FD.sl_ref, list_tup, dict0_, dn_, sortK_, val_tup, yes_, isLst_, List.set_cons_zero, List.set_cons_succ]
  exact inord_tail hb (fun G' k => True.intro) hp hl h
theorem ordered_spec {b : Nat} {l : Addr} {xs : List D} {G : DG} {Q : DK} (hb : b ≤ 1000) (hp : ∀ x ∈ xs, Place b x) (hl : xs.length ≤ 1000) (e : G l = some (.lst xs)) (h : ∀ p G', G' p = some (.lst (ordr xs)) → Keep G G' → Q (.ref p) G') : sp_ordered [.ref l] G Q := by
  refine ⟨rfl, ?_⟩
  show t_ordered _ [some (.ref l), none, none, none, none, none] G
  unfold t_ordered
  try simp only [seq_, next_, ret_, drop_, ifs_, br_t, br_f, asg_, gn_, gt_, gtc_, gtn_, par_, var_0, var_s, c_, nil_, cons_, tup_, lst_, op_, bool_, kb_, tru_, tr_bl, andT_, orT_, kn_tt, kn_tf, kn_ff, kn_ft, notT_, and_, kand_t, kand_f, if_, bre_t, bre_f, call_, cb_, neg_, sl_, nopart_, part_, FD.sl_tup, eq_int0, eq_int1, eq_bl0, eq_bl1, beq_self_eq_true, Bool.not_true, Bool.not_false, add_int, add_tup, add_ref, int_, int0_, mul_int, mul_str, ord_int, FD.ix_tup, ix_fl, ix_ref, at_0, at_1, at_2, at_3, len_tup, len_fl, len_ref, max2_, min2_, tuple_tup, tuple_ref, is_, gs_, setL_, ml_, for_, rng1_, any_, lc_, FD.sl_ref, list_tup, dict0_, dn_, sortK_, val_tup, yes_, isLst_, List.set_cons_zero, List.set_cons_succ]
  refine new_ fun d G1 hd e1 k1 => ?_
  try simp only [seq_, next_, ret_, drop_, ifs_, br_t, br_f, asg_, gn_, gt_, gtc_, gtn_, par_, var_0, var_s, c_, nil_, cons_, tup_, lst_, op_, bool_, kb_, tru_, tr_bl, andT_, orT_, kn_tt, kn_tf, kn_ff, kn_ft, notT_, and_, kand_t, kand_f, if_, bre_t, bre_f, call_, cb_, neg_, sl_, nopart_, part_, FD.sl_tup, eq_int0, eq_int1, eq_bl0, eq_bl1, beq_self_eq_true, Bool.not_true, Bool.not_false, add_int, add_tup, add_ref, int_, int0_, mul_int, mul_str, ord_int, FD.ix_tup, ix_fl, ix_ref, at_0, at_1, at_2, at_3, len_tup, len_fl, len_ref, max2_, min2_, tuple_tup, tuple_ref, is_, gs_, setL_, ml_, for_, rng1_, any_, lc_, FD.sl_ref, list_tup, dict0_, dn_, sortK_, val_tup, yes_, isLst_, List.set_cons_zero, List.set_cons_succ]
  refine val_lst (k1 _ _ e) ?_
  have hdl : d ≠ l := ne_new hd e
  refine forGo_inv (fun ds ρ G' => ∃ o2 o3 acc, ρ = [some (.ref l), some (.ref d), o2, o3, none, none] ∧ G' d = some (.dic (acc.map fun a => (rk a, (fun x => x) a))) ∧ ddp acc ds = ddp [] xs ∧ (∀ x ∈ acc, Place b x) ∧ (∀ x ∈ ds, Place b x) ∧ acc.length + ds.length ≤ xs.length ∧ Keep G G') ?_ ?_ ?_ _ _ _ ?_
  · rintro ds ρ G' ⟨_, _, _, _, _, _, _, _, _, k⟩
    exact k _ _ e
  · rintro x ds _ G2 X ⟨o2, o3, acc, rfl, e2, hdd, hacc, hds, hlen, k2⟩ kx
    have hx := hds x (List.mem_cons_self ..)
    have hok := rk_okk hx hb
    have hkq := fun a ha => rk_keq (hacc a ha) hx hb
    obtain ⟨c, args, rows, n, rfl, hc, ha, hr, hal, hrl⟩ := hx
    rw [List.length_cons] at hlen
    try simp only [seq_, next_, ret_, drop_, ifs_, br_t, br_f, asg_, gn_, gt_, gtc_, gtn_, par_, var_0, var_s, c_, nil_, cons_, tup_, lst_, op_, bool_, kb_, tru_, tr_bl, andT_, orT_, kn_tt, kn_tf, kn_ff, kn_ft, notT_, and_, kand_t, kand_f, if_, bre_t, bre_f, call_, cb_, neg_, sl_, nopart_, part_, FD.sl_tup, eq_int0, eq_int1, eq_bl0, eq_bl1, beq_self_eq_true, Bool.not_true, Bool.not_false, add_int, add_tup, add_ref, int_, int0_, mul_int, mul_str, ord_int, FD.ix_tup, ix_fl, ix_ref, at_0, at_1, at_2, at_3, len_tup, len_fl, len_ref, max2_, min2_, tuple_tup, tuple_ref, is_, gs_, setL_, ml_, for_, rng1_, any_, lc_, FD.sl_ref, list_tup, dict0_, dn_, sortK_, val_tup, yes_, isLst_, List.set_cons_zero, List.set_cons_succ]
    refine rkrows_spec hr (by omega) (by decide) (by simp [wipeD]) (by simp [wipeD]) fun p G3 e3 k3 => ?_
    try simp only [seq_, next_, ret_, drop_, ifs_, br_t, br_f, asg_, gn_, gt_, gtc_, gtn_, par_, var_0, var_s, c_, nil_, cons_, tup_, lst_, op_, bool_, kb_, tru_, tr_bl, andT_, orT_, kn_tt, kn_tf, kn_ff, kn_ft, notT_, and_, kand_t, kand_f, if_, bre_t, bre_f, call_, cb_, neg_, sl_, nopart_, part_, FD.sl_tup, eq_int0, eq_int1, eq_bl0, eq_bl1, beq_self_eq_true, Bool.not_true, Bool.not_false, add_int, add_tup, add_ref, int_, int0_, mul_int, mul_str, ord_int, FD.ix_tup, ix_fl, ix_ref, at_0, at_1, at_2, at_3, len_tup, len_fl, len_ref, max2_, min2_, tuple_tup, tuple_ref, is_, gs_, setL_, ml_, for_, rng1_, any_, lc_, FD.sl_ref, list_tup, dict0_, dn_, sortK_, val_tup, yes_, isLst_, List.set_cons_zero, List.set_cons_succ, ex_lst e3]
    repeat (with_reducible refine And.intro (by first | rfl | omega | (simp only [sizeLine, List.length_cons, List.length_nil, List.length_append] <;> omega)) ?_)
    refine setD_g (k3 _ _ e2) (tupKeys_map fun a ha => okKey_tup (rk_okk (hacc a ha) hb)) hok (by rw [List.length_map]; simp only [sizeLine]; omega) fun G4 e4 x4 => ?_
    refine kx _ _ ⟨_, _, ins1 acc (.tup [c, .tup args, .tup rows, .int n]), rfl, ?_, ?_, fun y hy => ?_, fun y hy => hds y (List.mem_cons_of_mem _ hy), ?_, (k2.trans k3).own hd x4⟩
    · rw [← dput_map (r := rk) (v := fun x => x) hkq]
      exact e4
    · exact hdd
    · rcases ins1_mem hy with hy | rfl
      · exact hacc y hy
      · exact hds _ (List.mem_cons_self ..)
    · have h2 := ins1_len (acc := acc) (x := .tup [c, .tup args, .tup rows, .int n])
      omega
  · rintro _ G2 ⟨o2, o3, acc, rfl, e2, hdd, hacc, hds, hlen, k2⟩
    rw [ddp] at hdd
    subst hdd
    have htk := tupKeys_map (r := rk) (v := fun x => x) fun a ha => okKey_tup (rk_okk (hacc a ha) hb)
    try simp only [seq_, next_, ret_, drop_, ifs_, br_t, br_f, asg_, gn_, gt_, gtc_, gtn_, par_, var_0, var_s, c_, nil_, cons_, tup_, lst_, op_, bool_, kb_, tru_, tr_bl, andT_, orT_, kn_tt, kn_tf, kn_ff, kn_ft, notT_, and_, kand_t, kand_f, if_, bre_t, bre_f, call_, cb_, neg_, sl_, nopart_, part_, FD.sl_tup, eq_int0, eq_int1, eq_bl0, eq_bl1, beq_self_eq_true, Bool.not_true, Bool.not_false, add_int, add_tup, add_ref, int_, int0_, mul_int, mul_str, ord_int, FD.ix_tup, ix_fl, ix_ref, at_0, at_1, at_2, at_3, len_tup, len_fl, len_ref, max2_, min2_, tuple_tup, tuple_ref, is_, gs_, setL_, ml_, for_, rng1_, any_, lc_, FD.sl_ref, list_tup, dict0_, dn_, sortK_, val_tup, yes_, isLst_, List.set_cons_zero, List.set_cons_succ]
    refine list_dic e2 htk ?_
    refine new_ fun q G3 _ e3 k3 => ?_
    rw [List.map_map, show ((fun x : D × D => x.1) ∘ fun a => (rk a, (fun x => x) a)) = rk from rfl] at e3
    refine sorted_g e3 (rk_sort hacc hb) ?_
    rw [srt_map]
    refine new_ fun r G4 hr e4 k4 => ?_
    try simp only [seq_, next_, ret_, drop_, ifs_, br_t, br_f, asg_, gn_, gt_, gtc_, gtn_, par_, var_0, var_s, c_, nil_, cons_, tup_, lst_, op_, bool_, kb_, tru_, tr_bl, andT_, orT_, kn_tt, kn_tf, kn_ff, kn_ft, notT_, and_, kand_t, kand_f, if_, bre_t, bre_f, call_, cb_, neg_, sl_, nopart_, part_, FD.sl_tup, eq_int0, eq_int1, eq_bl0, eq_bl1, beq_self_eq_true, Bool.not_true, Bool.not_false, add_int, add_tup, add_ref, int_, int0_, mul_int, mul_str, ord_int, FD.ix_tup, ix_fl, ix_ref, at_0, at_1, at_2, at_3, len_tup, len_fl, len_ref, max2_, min2_, tuple_tup, tuple_ref, is_, gs_, setL_, ml_, for_, rng1_, any_, lc_, FD.sl_ref, list_tup, dict0_, dn_, sortK_, val_tup, yes_, isLst_, List.set_cons_zero, List.set_cons_succ]
    refine val_lst e4 ?_
    have e2' := (k3.trans k4) _ _ e2
    refine lcGo_inv (fun G' => Keep G4 G') (fun k y => ∀ x ∈ ddp [] xs, k = rk x → y = x) (fun G' k => k _ _ e4) _ _ _ ?_ .refl (by rw [List.length_map]; have : (srtOn rk (ddp [] xs)).length ≤ xs.length := ordr_len (xs := xs); simp only [List.length_nil, sizeLine]; omega) fun ys G5 hys k5 => ?_
    · intro k hk G5 K k5 kk
      obtain ⟨x, hx, rfl⟩ := List.mem_map.mp hk
      have hx := srtOn_mem.mp hx
      try simp only [seq_, next_, ret_, drop_, ifs_, br_t, br_f, asg_, gn_, gt_, gtc_, gtn_, par_, var_0, var_s, c_, nil_, cons_, tup_, lst_, op_, bool_, kb_, tru_, tr_bl, andT_, orT_, kn_tt, kn_tf, kn_ff, kn_ft, notT_, and_, kand_t, kand_f, if_, bre_t, bre_f, call_, cb_, neg_, sl_, nopart_, part_, FD.sl_tup, eq_int0, eq_int1, eq_bl0, eq_bl1, beq_self_eq_true, Bool.not_true, Bool.not_false, add_int, add_tup, add_ref, int_, int0_, mul_int, mul_str, ord_int, FD.ix_tup, ix_fl, ix_ref, at_0, at_1, at_2, at_3, len_tup, len_fl, len_ref, max2_, min2_, tuple_tup, tuple_ref, is_, gs_, setL_, ml_, for_, rng1_, any_, lc_, FD.sl_ref, list_tup, dict0_, dn_, sortK_, val_tup, yes_, isLst_, List.set_cons_zero, List.set_cons_succ, wipeD]
      refine ⟨_, x, k5 _ _ e2', htk, rk_okk (hacc x hx) hb, dget_map (v := fun x => x) hx (fun a ha hq => ?_) keq_refl, ?_⟩
      · have hq2 := rk_keq (hacc a ha) (hacc x hx) hb
        exact hq2.2 (by rw [← hq2.1]; exact hq)
      · exact kk _ _ (fun y hy hxy => rk_inj (hacc x hx) (hacc y hy) hxy) k5
    · rw [List.nil_append]
      have : ys = ordr xs := by
        have hsub : ∀ x ∈ srtOn rk (ddp [] xs), x ∈ ddp [] xs := fun x hx => srtOn_mem.mp hx
        revert hys hsub
        show Paired _ (List.map rk (srtOn rk (ddp [] xs))) ys → _ → ys = srtOn rk (ddp [] xs)
        generalize srtOn rk (ddp [] xs) = S
        intro hys hsub
        clear e4 e3
        induction S generalizing ys with
        | nil => cases hys; rfl
        | cons x S ih =>
          cases hys with
          | cons h1 h2 =>
            rw [h1 x (hsub x (List.mem_cons_self ..)) rfl, ih _ h2 fun y hy => hsub y (List.mem_cons_of_mem _ hy)]
      rw [this]
      exact new_ fun s G6 _ e6 k6 => h s G6 e6 ((((k2.trans k3).trans k4).trans k5).trans k6)
  · exact ⟨none, none, [], rfl, e1, rfl, (fun _ h => nomatch h), hp, by simp, k1⟩
end K03

namespace K03
open PySem L2 FD
theorem ordr_nil : ordr [] = [] := by
  unfold ordr srtOn
  rw [ddp]
  exact List.mergeSort_nil
theorem Place.same {b : Nat} {d : D} {G : DG} {Q : DK} (h : Place b d) (hb : b ≤ 1000) (k : ∀ G', Keep G G' → Q (.bl true) G') : sp_same 12 [d, d] G Q := same_pl 3 11 d (h.pl hb) (by decide) (by decide) k
theorem law_spec {ns : List Int} {G : DG} {Q : DK} (h : ∀ G', Q (.bl true) G') : sp_law [.fl (ns.map D.int)] G Q := by
  refine ⟨rfl, ?_⟩
  show t_law _ [some (.fl (ns.map D.int)), none, none, none, none, none, none, none, none, none, none, none, none, none, none, none, none, none, none] G
  unfold t_law
  try simp only [seq_, next_, ret_, drop_, ifs_, br_t, br_f, asg_, gn_, gt_, gtc_, gtn_, par_, var_0, var_s, c_, nil_, cons_, tup_, lst_, op_, bool_, kb_, tru_, tr_bl, andT_, orT_, kn_tt, kn_tf, kn_ff, kn_ft, notT_, and_, kand_t, kand_f, if_, bre_t, bre_f, call_, cb_, neg_, sl_, nopart_, part_, FD.sl_tup, eq_int0, eq_int1, eq_bl0, eq_bl1, beq_self_eq_true, Bool.not_true, Bool.not_false, add_int, add_tup, add_ref, int_, int0_, mul_int, mul_str, ord_int, FD.ix_tup, ix_fl, ix_ref, at_0, at_1, at_2, at_3, len_tup, len_fl, len_ref, max2_, min2_, tuple_tup, tuple_ref, is_, gs_, setL_, ml_, for_, rng1_, any_, lc_, FD.sl_ref, list_tup, dict0_, dn_, sortK_, val_tup, yes_, isLst_, List.set_cons_zero, List.set_cons_succ]
  refine ⟨by constructor <;> split <;> split <;> omega, ?_⟩
  refine forGo_inv (fun ds ρ _ => (∃ o1 o2 o3 o4 o5 o6 o7 o8 o9 o10 o11 o12 o13 o14 o15 o16 o17 o18, ρ = [some (.fl (ns.map D.int)), o1, o2, o3, o4, o5, o6, o7, o8, o9, o10, o11, o12, o13, o14, o15, o16, o17, o18]) ∧ ∀ d ∈ ds, ∃ i : Int, 0 ≤ i ∧ i ≤ 1000 ∧ d = .int i) (fun _ _ _ _ => True.intro) ?_ ?_ _ _ _ ⟨⟨none, none, none, none, none, none, none, none, none, none, none, none, none, none, none, none, none, none, rfl⟩, fun d hd => ?_⟩
  · rintro d ds _ G0 X ⟨⟨o1, o2, o3, o4, o5, o6, o7, o8, o9, o10, o11, o12, o13, o14, o15, o16, o17, o18, rfl⟩, hds⟩ kx
    obtain ⟨i, i0, i1, rfl⟩ := hds d (List.mem_cons_self ..)
    have kx' : ∀ G' o1 o2 o3 o4 o5 o6 o7 o8 o9 o10 o11 o12 o13 o14 o15 o16 o17 o18, X [some (.fl (ns.map D.int)), o1, o2, o3, o4, o5, o6, o7, o8, o9, o10, o11, o12, o13, o14, o15, o16, o17, o18] G' := fun G' o1 o2 o3 o4 o5 o6 o7 o8 o9 o10 o11 o12 o13 o14 o15 o16 o17 o18 => kx _ G' ⟨⟨o1, o2, o3, o4, o5, o6, o7, o8, o9, o10, o11, o12, o13, o14, o15, o16, o17, o18, rfl⟩, fun d hd => hds d (List.mem_cons_of_mem _ hd)⟩
    clear kx hds
    try simp only [seq_, next_, ret_, drop_, ifs_, br_t, br_f, asg_, gn_, gt_, gtc_, gtn_, par_, var_0, var_s, c_, nil_, cons_, tup_, lst_, op_, bool_, kb_, tru_, tr_bl, andT_, orT_, kn_tt, kn_tf, kn_ff, kn_ft, notT_, and_, kand_t, kand_f, if_, bre_t, bre_f, call_, cb_, neg_, sl_, nopart_, part_, FD.sl_tup, eq_int0, eq_int1, eq_bl0, eq_bl1, beq_self_eq_true, Bool.not_true, Bool.not_false, add_int, add_tup, add_ref, int_, int0_, mul_int, mul_str, ord_int, FD.ix_tup, ix_fl, ix_ref, at_0, at_1, at_2, at_3, len_tup, len_fl, len_ref, max2_, min2_, tuple_tup, tuple_ref, is_, gs_, setL_, ml_, for_, rng1_, any_, lc_, FD.sl_ref, list_tup, dict0_, dn_, sortK_, val_tup, yes_, isLst_, List.set_cons_zero, List.set_cons_succ]
    refine feed_spec i0 i1 fun f G1 hf F1 k1 => ?_
    try simp only [seq_, next_, ret_, drop_, ifs_, br_t, br_f, asg_, gn_, gt_, gtc_, gtn_, par_, var_0, var_s, c_, nil_, cons_, tup_, lst_, op_, bool_, kb_, tru_, tr_bl, andT_, orT_, kn_tt, kn_tf, kn_ff, kn_ft, notT_, and_, kand_t, kand_f, if_, bre_t, bre_f, call_, cb_, neg_, sl_, nopart_, part_, FD.sl_tup, eq_int0, eq_int1, eq_bl0, eq_bl1, beq_self_eq_true, Bool.not_true, Bool.not_false, add_int, add_tup, add_ref, int_, int0_, mul_int, mul_str, ord_int, FD.ix_tup, ix_fl, ix_ref, at_0, at_1, at_2, at_3, len_tup, len_fl, len_ref, max2_, min2_, tuple_tup, tuple_ref, is_, gs_, setL_, ml_, for_, rng1_, any_, lc_, FD.sl_ref, list_tup, dict0_, dn_, sortK_, val_tup, yes_, isLst_, List.set_cons_zero, List.set_cons_succ]
    refine place_spec F1 fun pl G2 hpl F2 x2 => ?_
    try simp only [seq_, next_, ret_, drop_, ifs_, br_t, br_f, asg_, gn_, gt_, gtc_, gtn_, par_, var_0, var_s, c_, nil_, cons_, tup_, lst_, op_, bool_, kb_, tru_, tr_bl, andT_, orT_, kn_tt, kn_tf, kn_ff, kn_ft, notT_, and_, kand_t, kand_f, if_, bre_t, bre_f, call_, cb_, neg_, sl_, nopart_, part_, FD.sl_tup, eq_int0, eq_int1, eq_bl0, eq_bl1, beq_self_eq_true, Bool.not_true, Bool.not_false, add_int, add_tup, add_ref, int_, int0_, mul_int, mul_str, ord_int, FD.ix_tup, ix_fl, ix_ref, at_0, at_1, at_2, at_3, len_tup, len_fl, len_ref, max2_, min2_, tuple_tup, tuple_ref, is_, gs_, setL_, ml_, for_, rng1_, any_, lc_, FD.sl_ref, list_tup, dict0_, dn_, sortK_, val_tup, yes_, isLst_, List.set_cons_zero, List.set_cons_succ]
    repeat (with_reducible refine And.intro (by first | rfl | omega | (simp only [sizeLine, List.length_cons, List.length_nil, List.length_append] <;> omega)) ?_)
    refine new_ fun l G3 hl e3 k3 => ?_
    have hlf := F2.ne hl
    try simp only [seq_, next_, ret_, drop_, ifs_, br_t, br_f, asg_, gn_, gt_, gtc_, gtn_, par_, var_0, var_s, c_, nil_, cons_, tup_, lst_, op_, bool_, kb_, tru_, tr_bl, andT_, orT_, kn_tt, kn_tf, kn_ff, kn_ft, notT_, and_, kand_t, kand_f, if_, bre_t, bre_f, call_, cb_, neg_, sl_, nopart_, part_, FD.sl_tup, eq_int0, eq_int1, eq_bl0, eq_bl1, beq_self_eq_true, Bool.not_true, Bool.not_false, add_int, add_tup, add_ref, int_, int0_, mul_int, mul_str, ord_int, FD.ix_tup, ix_fl, ix_ref, at_0, at_1, at_2, at_3, len_tup, len_fl, len_ref, max2_, min2_, tuple_tup, tuple_ref, is_, gs_, setL_, ml_, for_, rng1_, any_, lc_, FD.sl_ref, list_tup, dict0_, dn_, sortK_, val_tup, yes_, isLst_, List.set_cons_zero, List.set_cons_succ]
    refine ⟨⟨by omega, by omega⟩, ?_⟩
    refine forGo_inv (fun ds ρ G' => ∃ o4, ρ = [some (.fl (ns.map D.int)), some (.int i), some (.ref f), some (.ref l), o4, o5, o6, o7, o8, o9, o10, o11, o12, o13, o14, o15, o16, o17, o18] ∧ ∃ xs, G' l = some (.lst xs) ∧ (∀ x ∈ xs, Place (20 - 2 * ds.length) x) ∧ xs ≠ [] ∧ xs.length + ds.length = 10 ∧ Feed f G') (fun _ _ _ _ => True.intro) ?_ ?_ _ _ _ ⟨o4, rfl, [pl], e3, fun x hx => ?_, by simp, by rw [rng_len]; rfl, F2.keep k3⟩
    · rintro d ds _ G4 Y ⟨o4, rfl, xs, e4, hxs, hne, hlen, F4⟩ ky
      rw [List.length_cons] at hlen
      try simp only [seq_, next_, ret_, drop_, ifs_, br_t, br_f, asg_, gn_, gt_, gtc_, gtn_, par_, var_0, var_s, c_, nil_, cons_, tup_, lst_, op_, bool_, kb_, tru_, tr_bl, andT_, orT_, kn_tt, kn_tf, kn_ff, kn_ft, notT_, and_, kand_t, kand_f, if_, bre_t, bre_f, call_, cb_, neg_, sl_, nopart_, part_, FD.sl_tup, eq_int0, eq_int1, eq_bl0, eq_bl1, beq_self_eq_true, Bool.not_true, Bool.not_false, add_int, add_tup, add_ref, int_, int0_, mul_int, mul_str, ord_int, FD.ix_tup, ix_fl, ix_ref, at_0, at_1, at_2, at_3, len_tup, len_fl, len_ref, max2_, min2_, tuple_tup, tuple_ref, is_, gs_, setL_, ml_, for_, rng1_, any_, lc_, FD.sl_ref, list_tup, dict0_, dn_, sortK_, val_tup, yes_, isLst_, List.set_cons_zero, List.set_cons_succ]
      refine ⟨⟨_, e4⟩, ?_⟩
      refine pick_spec F4 e4 hlf hne (by omega) fun x G5 hx F5 x5 => ?_
      refine near_spec (by omega) F5 (hxs x hx) fun y G6 hy F6 x6 => ?_
      have e6 := (x5.trans x6).get hlf e4
      refine append_g e6 (by simp only [sizeLine]; omega) fun G7 e7 x7 => ?_
      refine ky _ _ ⟨_, rfl, xs ++ [y], e7, fun z hz => ?_, by simp, by rw [List.length_append]; show xs.length + 1 + ds.length = 10; omega, F6.ext x7 hlf⟩
      rw [List.length_cons] at hxs hy
      rcases List.mem_append.mp hz with hz | hz
      · exact (hxs z hz).mono (by omega)
      · rw [List.mem_singleton.mp hz]; exact hy.mono (by omega)
    · rintro _ G4 ⟨o4, rfl, xs, e4, hxs, hne, hlen, F4⟩
      rw [List.length_nil] at hlen
      have hP : ∀ x ∈ xs, Place 20 x := hxs
      try simp only [seq_, next_, ret_, drop_, ifs_, br_t, br_f, asg_, gn_, gt_, gtc_, gtn_, par_, var_0, var_s, c_, nil_, cons_, tup_, lst_, op_, bool_, kb_, tru_, tr_bl, andT_, orT_, kn_tt, kn_tf, kn_ff, kn_ft, notT_, and_, kand_t, kand_f, if_, bre_t, bre_f, call_, cb_, neg_, sl_, nopart_, part_, FD.sl_tup, eq_int0, eq_int1, eq_bl0, eq_bl1, beq_self_eq_true, Bool.not_true, Bool.not_false, add_int, add_tup, add_ref, int_, int0_, mul_int, mul_str, ord_int, FD.ix_tup, ix_fl, ix_ref, at_0, at_1, at_2, at_3, len_tup, len_fl, len_ref, max2_, min2_, tuple_tup, tuple_ref, is_, gs_, setL_, ml_, for_, rng1_, any_, lc_, FD.sl_ref, list_tup, dict0_, dn_, sortK_, val_tup, yes_, isLst_, List.set_cons_zero, List.set_cons_succ]
      refine val_lst e4 ?_
      refine forGo_inv (fun ds ρ G' => (∃ o5 o6 o7 o8 o9 o10 o11, ρ = [some (.fl (ns.map D.int)), some (.int i), some (.ref f), some (.ref l), o4, o5, o6, o7, o8, o9, o10, o11, o12, o13, o14, o15, o16, o17, o18]) ∧ G' l = some (.lst xs) ∧ Feed f G' ∧ ∀ x ∈ ds, Place 20 x) (fun _ _ _ h => h.2.1) ?_ ?_ _ _ _ ⟨⟨o5, o6, o7, o8, o9, o10, o11, rfl⟩, e4, F4, hP⟩
      · rintro x ds _ G5 Y ⟨⟨o5, o6, o7, o8, o9, o10, o11, rfl⟩, e5, F5, hds⟩ ky
        have hx := hds x (List.mem_cons_self ..)
        have ky' : ∀ G' o5 o6 o7 o8 o9 o10 o11, G' l = some (.lst xs) → Feed f G' → Y [some (.fl (ns.map D.int)), some (.int i), some (.ref f), some (.ref l), o4, o5, o6, o7, o8, o9, o10, o11, o12, o13, o14, o15, o16, o17, o18] G' := fun G' o5 o6 o7 o8 o9 o10 o11 e F => ky _ G' ⟨⟨o5, o6, o7, o8, o9, o10, o11, rfl⟩, e, F, fun d hd => hds d (List.mem_cons_of_mem _ hd)⟩
        clear ky hds
        obtain ⟨c, args, rows, n, rfl, hc, ha, hr, hal, hrl⟩ := hx
        try simp only [seq_, next_, ret_, drop_, ifs_, br_t, br_f, asg_, gn_, gt_, gtc_, gtn_, par_, var_0, var_s, c_, nil_, cons_, tup_, lst_, op_, bool_, kb_, tru_, tr_bl, andT_, orT_, kn_tt, kn_tf, kn_ff, kn_ft, notT_, and_, kand_t, kand_f, if_, bre_t, bre_f, call_, cb_, neg_, sl_, nopart_, part_, FD.sl_tup, eq_int0, eq_int1, eq_bl0, eq_bl1, beq_self_eq_true, Bool.not_true, Bool.not_false, add_int, add_tup, add_ref, int_, int0_, mul_int, mul_str, ord_int, FD.ix_tup, ix_fl, ix_ref, at_0, at_1, at_2, at_3, len_tup, len_fl, len_ref, max2_, min2_, tuple_tup, tuple_ref, is_, gs_, setL_, ml_, for_, rng1_, any_, lc_, FD.sl_ref, list_tup, dict0_, dn_, sortK_, val_tup, yes_, isLst_, List.set_cons_zero, List.set_cons_succ]
        refine ⟨rfl, ?_⟩
        refine draw_spec F5 (by decide) (by decide) fun m G6 m0 m1 F6 x6 => ?_
        try simp only [seq_, next_, ret_, drop_, ifs_, br_t, br_f, asg_, gn_, gt_, gtc_, gtn_, par_, var_0, var_s, c_, nil_, cons_, tup_, lst_, op_, bool_, kb_, tru_, tr_bl, andT_, orT_, kn_tt, kn_tf, kn_ff, kn_ft, notT_, and_, kand_t, kand_f, if_, bre_t, bre_f, call_, cb_, neg_, sl_, nopart_, part_, FD.sl_tup, eq_int0, eq_int1, eq_bl0, eq_bl1, beq_self_eq_true, Bool.not_true, Bool.not_false, add_int, add_tup, add_ref, int_, int0_, mul_int, mul_str, ord_int, FD.ix_tup, ix_fl, ix_ref, at_0, at_1, at_2, at_3, len_tup, len_fl, len_ref, max2_, min2_, tuple_tup, tuple_ref, is_, gs_, setL_, ml_, for_, rng1_, any_, lc_, FD.sl_ref, list_tup, dict0_, dn_, sortK_, val_tup, yes_, isLst_, List.set_cons_zero, List.set_cons_succ]
        refine ⟨⟨by omega, by omega⟩, ?_⟩
        refine lc_feed (fun F => answer_spec F) rfl (by decide) F6 (by simp only [sizeLine]; omega) fun p ys G7 _ hy hyl e7 F7 x7 => ?_
        have e7' := (x6.trans x7).get hlf e5
        have hrow : Row (.tup ys) := ⟨ys, rfl, hy, by omega⟩
        try simp only [seq_, next_, ret_, drop_, ifs_, br_t, br_f, asg_, gn_, gt_, gtc_, gtn_, par_, var_0, var_s, c_, nil_, cons_, tup_, lst_, op_, bool_, kb_, tru_, tr_bl, andT_, orT_, kn_tt, kn_tf, kn_ff, kn_ft, notT_, and_, kand_t, kand_f, if_, bre_t, bre_f, call_, cb_, neg_, sl_, nopart_, part_, FD.sl_tup, eq_int0, eq_int1, eq_bl0, eq_bl1, beq_self_eq_true, Bool.not_true, Bool.not_false, add_int, add_tup, add_ref, int_, int0_, mul_int, mul_str, ord_int, FD.ix_tup, ix_fl, ix_ref, at_0, at_1, at_2, at_3, len_tup, len_fl, len_ref, max2_, min2_, tuple_tup, tuple_ref, is_, gs_, setL_, ml_, for_, rng1_, any_, lc_, FD.sl_ref, list_tup, dict0_, dn_, sortK_, val_tup, yes_, isLst_, List.set_cons_zero, List.set_cons_succ, ex_lst e7]
        refine aw_spec ?_
        try simp only [seq_, next_, ret_, drop_, ifs_, br_t, br_f, asg_, gn_, gt_, gtc_, gtn_, par_, var_0, var_s, c_, nil_, cons_, tup_, lst_, op_, bool_, kb_, tru_, tr_bl, andT_, orT_, kn_tt, kn_tf, kn_ff, kn_ft, notT_, and_, kand_t, kand_f, if_, bre_t, bre_f, call_, cb_, neg_, sl_, nopart_, part_, FD.sl_tup, eq_int0, eq_int1, eq_bl0, eq_bl1, beq_self_eq_true, Bool.not_true, Bool.not_false, add_int, add_tup, add_ref, int_, int0_, mul_int, mul_str, ord_int, FD.ix_tup, ix_fl, ix_ref, at_0, at_1, at_2, at_3, len_tup, len_fl, len_ref, max2_, min2_, tuple_tup, tuple_ref, is_, gs_, setL_, ml_, for_, rng1_, any_, lc_, FD.sl_ref, list_tup, dict0_, dn_, sortK_, val_tup, yes_, isLst_, List.set_cons_zero, List.set_cons_succ]
        repeat (with_reducible refine And.intro (by first | rfl | omega | (simp only [sizeLine, List.length_cons, List.length_nil, List.length_append] <;> omega)) ?_)
        refine Place.same (b := 20) ⟨c, args, rows, n + 1, rfl, hc, ha, hr, hal, hrl⟩ (by decide) fun G8 k8 => ?_
        try simp only [seq_, next_, ret_, drop_, ifs_, br_t, br_f, asg_, gn_, gt_, gtc_, gtn_, par_, var_0, var_s, c_, nil_, cons_, tup_, lst_, op_, bool_, kb_, tru_, tr_bl, andT_, orT_, kn_tt, kn_tf, kn_ff, kn_ft, notT_, and_, kand_t, kand_f, if_, bre_t, bre_f, call_, cb_, neg_, sl_, nopart_, part_, FD.sl_tup, eq_int0, eq_int1, eq_bl0, eq_bl1, beq_self_eq_true, Bool.not_true, Bool.not_false, add_int, add_tup, add_ref, int_, int0_, mul_int, mul_str, ord_int, FD.ix_tup, ix_fl, ix_ref, at_0, at_1, at_2, at_3, len_tup, len_fl, len_ref, max2_, min2_, tuple_tup, tuple_ref, is_, gs_, setL_, ml_, for_, rng1_, any_, lc_, FD.sl_ref, list_tup, dict0_, dn_, sortK_, val_tup, yes_, isLst_, List.set_cons_zero, List.set_cons_succ]
        refine ar_spec (by omega) ?_
        try simp only [seq_, next_, ret_, drop_, ifs_, br_t, br_f, asg_, gn_, gt_, gtc_, gtn_, par_, var_0, var_s, c_, nil_, cons_, tup_, lst_, op_, bool_, kb_, tru_, tr_bl, andT_, orT_, kn_tt, kn_tf, kn_ff, kn_ft, notT_, and_, kand_t, kand_f, if_, bre_t, bre_f, call_, cb_, neg_, sl_, nopart_, part_, FD.sl_tup, eq_int0, eq_int1, eq_bl0, eq_bl1, beq_self_eq_true, Bool.not_true, Bool.not_false, add_int, add_tup, add_ref, int_, int0_, mul_int, mul_str, ord_int, FD.ix_tup, ix_fl, ix_ref, at_0, at_1, at_2, at_3, len_tup, len_fl, len_ref, max2_, min2_, tuple_tup, tuple_ref, is_, gs_, setL_, ml_, for_, rng1_, any_, lc_, FD.sl_ref, list_tup, dict0_, dn_, sortK_, val_tup, yes_, isLst_, List.set_cons_zero, List.set_cons_succ]
        repeat (with_reducible refine And.intro (by first | rfl | omega | (simp only [sizeLine, List.length_cons, List.length_nil, List.length_append] <;> omega)) ?_)
        refine Place.same (b := 21) ⟨c, args, rows ++ [.tup ys], 0, rfl, hc, ha, fun r h' => ?_, hal, by rw [List.length_append]; show rows.length + 1 ≤ 21; omega⟩ (by decide) fun G9 k9 => ?_
        · rcases List.mem_append.mp h' with h' | h'
          · exact hr r h'
          · rw [List.mem_singleton.mp h']; exact hrow
        have e9 := (k8.trans k9) _ _ e7'
        have F9 := F7.keep (k8.trans k9)
        try simp only [seq_, next_, ret_, drop_, ifs_, br_t, br_f, asg_, gn_, gt_, gtc_, gtn_, par_, var_0, var_s, c_, nil_, cons_, tup_, lst_, op_, bool_, kb_, tru_, tr_bl, andT_, orT_, kn_tt, kn_tf, kn_ff, kn_ft, notT_, and_, kand_t, kand_f, if_, bre_t, bre_f, call_, cb_, neg_, sl_, nopart_, part_, FD.sl_tup, eq_int0, eq_int1, eq_bl0, eq_bl1, beq_self_eq_true, Bool.not_true, Bool.not_false, add_int, add_tup, add_ref, int_, int0_, mul_int, mul_str, ord_int, FD.ix_tup, ix_fl, ix_ref, at_0, at_1, at_2, at_3, len_tup, len_fl, len_ref, max2_, min2_, tuple_tup, tuple_ref, is_, gs_, setL_, ml_, for_, rng1_, any_, lc_, FD.sl_ref, list_tup, dict0_, dn_, sortK_, val_tup, yes_, isLst_, List.set_cons_zero, List.set_cons_succ]
        refine val_lst e9 ?_
        refine forGo_inv (fun ds ρ G' => (∃ o11, ρ = [some (.fl (ns.map D.int)), some (.int i), some (.ref f), some (.ref l), o4, some (.tup [c, .tup args, .tup rows, .int n]), some c, some (.tup args), some (.tup rows), some (.int n), some (.tup ys), o11, o12, o13, o14, o15, o16, o17, o18]) ∧ G' l = some (.lst xs) ∧ Feed f G' ∧ ∀ x ∈ ds, Place 20 x) (fun _ _ _ h => h.2.1) ?_ ?_ _ _ _ ⟨⟨o11, rfl⟩, e9, F9, hP⟩
        · rintro x ds _ Ga Z ⟨⟨o11, rfl⟩, ea, Fa, hds⟩ kz
          obtain ⟨c', args', rows', n', rfl, hc', ha', hr', hal', hrl'⟩ := hds x (List.mem_cons_self ..)
          try simp only [seq_, next_, ret_, drop_, ifs_, br_t, br_f, asg_, gn_, gt_, gtc_, gtn_, par_, var_0, var_s, c_, nil_, cons_, tup_, lst_, op_, bool_, kb_, tru_, tr_bl, andT_, orT_, kn_tt, kn_tf, kn_ff, kn_ft, notT_, and_, kand_t, kand_f, if_, bre_t, bre_f, call_, cb_, neg_, sl_, nopart_, part_, FD.sl_tup, eq_int0, eq_int1, eq_bl0, eq_bl1, beq_self_eq_true, Bool.not_true, Bool.not_false, add_int, add_tup, add_ref, int_, int0_, mul_int, mul_str, ord_int, FD.ix_tup, ix_fl, ix_ref, at_0, at_1, at_2, at_3, len_tup, len_fl, len_ref, max2_, min2_, tuple_tup, tuple_ref, is_, gs_, setL_, ml_, for_, rng1_, any_, lc_, FD.sl_ref, list_tup, dict0_, dn_, sortK_, val_tup, yes_, isLst_, List.set_cons_zero, List.set_cons_succ]
          refine isb_spec (b := 20) (by decide) hc ha hr hal hrl hc' ha' hr' hal' hrl' ?_
          refine beh_spec (b := 20) (by decide) hc ha hr hal hrl hc' ha' hr' hal' hrl' ?_
          refine same_pl 0 11 _ pl_bl (by decide) (by decide) fun Gb kb => ?_
          try simp only [seq_, next_, ret_, drop_, ifs_, br_t, br_f, asg_, gn_, gt_, gtc_, gtn_, par_, var_0, var_s, c_, nil_, cons_, tup_, lst_, op_, bool_, kb_, tru_, tr_bl, andT_, orT_, kn_tt, kn_tf, kn_ff, kn_ft, notT_, and_, kand_t, kand_f, if_, bre_t, bre_f, call_, cb_, neg_, sl_, nopart_, part_, FD.sl_tup, eq_int0, eq_int1, eq_bl0, eq_bl1, beq_self_eq_true, Bool.not_true, Bool.not_false, add_int, add_tup, add_ref, int_, int0_, mul_int, mul_str, ord_int, FD.ix_tup, ix_fl, ix_ref, at_0, at_1, at_2, at_3, len_tup, len_fl, len_ref, max2_, min2_, tuple_tup, tuple_ref, is_, gs_, setL_, ml_, for_, rng1_, any_, lc_, FD.sl_ref, list_tup, dict0_, dn_, sortK_, val_tup, yes_, isLst_, List.set_cons_zero, List.set_cons_succ]
          exact kz _ _ ⟨⟨_, rfl⟩, kb _ _ ea, Fa.keep kb, fun d hd => hds d (List.mem_cons_of_mem _ hd)⟩
        · rintro _ Ga ⟨⟨o11, rfl⟩, ea, Fa, _⟩
          exact ky' Ga _ _ _ _ _ _ _ ea Fa
      · rintro _ G5 ⟨⟨o5, o6, o7, o8, o9, o10, o11, rfl⟩, e5, F5, _⟩
        try simp only [seq_, next_, ret_, drop_, ifs_, br_t, br_f, asg_, gn_, gt_, gtc_, gtn_, par_, var_0, var_s, c_, nil_, cons_, tup_, lst_, op_, bool_, kb_, tru_, tr_bl, andT_, orT_, kn_tt, kn_tf, kn_ff, kn_ft, notT_, and_, kand_t, kand_f, if_, bre_t, bre_f, call_, cb_, neg_, sl_, nopart_, part_, FD.sl_tup, eq_int0, eq_int1, eq_bl0, eq_bl1, beq_self_eq_true, Bool.not_true, Bool.not_false, add_int, add_tup, add_ref, int_, int0_, mul_int, mul_str, ord_int, FD.ix_tup, ix_fl, ix_ref, at_0, at_1, at_2, at_3, len_tup, len_fl, len_ref, max2_, min2_, tuple_tup, tuple_ref, is_, gs_, setL_, ml_, for_, rng1_, any_, lc_, FD.sl_ref, list_tup, dict0_, dn_, sortK_, val_tup, yes_, isLst_, List.set_cons_zero, List.set_cons_succ]
        refine pick_spec F5 e5 hlf hne (by omega) fun a G6 ha F6 x6 => ?_
        refine pick_spec F6 (x6.get hlf e5) hlf hne (by omega) fun b G7 hb F7 x7 => ?_
        have e7 := (x6.trans x7).get hlf e5
        try simp only [seq_, next_, ret_, drop_, ifs_, br_t, br_f, asg_, gn_, gt_, gtc_, gtn_, par_, var_0, var_s, c_, nil_, cons_, tup_, lst_, op_, bool_, kb_, tru_, tr_bl, andT_, orT_, kn_tt, kn_tf, kn_ff, kn_ft, notT_, and_, kand_t, kand_f, if_, bre_t, bre_f, call_, cb_, neg_, sl_, nopart_, part_, FD.sl_tup, eq_int0, eq_int1, eq_bl0, eq_bl1, beq_self_eq_true, Bool.not_true, Bool.not_false, add_int, add_tup, add_ref, int_, int0_, mul_int, mul_str, ord_int, FD.ix_tup, ix_fl, ix_ref, at_0, at_1, at_2, at_3, len_tup, len_fl, len_ref, max2_, min2_, tuple_tup, tuple_ref, is_, gs_, setL_, ml_, for_, rng1_, any_, lc_, FD.sl_ref, list_tup, dict0_, dn_, sortK_, val_tup, yes_, isLst_, List.set_cons_zero, List.set_cons_succ]
        repeat (with_reducible refine And.intro (by first | rfl | omega | (simp only [sizeLine, List.length_cons, List.length_nil, List.length_append] <;> omega)) ?_)
        refine new_ fun q G8 hq e8 k8 => ?_
        have e8' := k8 _ _ e7
        try simp only [seq_, next_, ret_, drop_, ifs_, br_t, br_f, asg_, gn_, gt_, gtc_, gtn_, par_, var_0, var_s, c_, nil_, cons_, tup_, lst_, op_, bool_, kb_, tru_, tr_bl, andT_, orT_, kn_tt, kn_tf, kn_ff, kn_ft, notT_, and_, kand_t, kand_f, if_, bre_t, bre_f, call_, cb_, neg_, sl_, nopart_, part_, FD.sl_tup, eq_int0, eq_int1, eq_bl0, eq_bl1, beq_self_eq_true, Bool.not_true, Bool.not_false, add_int, add_tup, add_ref, int_, int0_, mul_int, mul_str, ord_int, FD.ix_tup, ix_fl, ix_ref, at_0, at_1, at_2, at_3, len_tup, len_fl, len_ref, max2_, min2_, tuple_tup, tuple_ref, is_, gs_, setL_, ml_, for_, rng1_, any_, lc_, FD.sl_ref, list_tup, dict0_, dn_, sortK_, val_tup, yes_, isLst_, List.set_cons_zero, List.set_cons_succ, ex_lst e8, ex_lst e8']
        repeat (with_reducible refine And.intro (by first | rfl | omega | (simp only [sizeLine, List.length_cons, List.length_nil, List.length_append] <;> omega)) ?_)
        refine new_ fun t G9 ht e9 k9 => ?_
        try simp only [seq_, next_, ret_, drop_, ifs_, br_t, br_f, asg_, gn_, gt_, gtc_, gtn_, par_, var_0, var_s, c_, nil_, cons_, tup_, lst_, op_, bool_, kb_, tru_, tr_bl, andT_, orT_, kn_tt, kn_tf, kn_ff, kn_ft, notT_, and_, kand_t, kand_f, if_, bre_t, bre_f, call_, cb_, neg_, sl_, nopart_, part_, FD.sl_tup, eq_int0, eq_int1, eq_bl0, eq_bl1, beq_self_eq_true, Bool.not_true, Bool.not_false, add_int, add_tup, add_ref, int_, int0_, mul_int, mul_str, ord_int, FD.ix_tup, ix_fl, ix_ref, at_0, at_1, at_2, at_3, len_tup, len_fl, len_ref, max2_, min2_, tuple_tup, tuple_ref, is_, gs_, setL_, ml_, for_, rng1_, any_, lc_, FD.sl_ref, list_tup, dict0_, dn_, sortK_, val_tup, yes_, isLst_, List.set_cons_zero, List.set_cons_succ]
        have F8 := F7.keep k8
        refine mixed_spec (P := Place 20) (k := 3) (F8.keep k9) e9 (F8.ne ht) (fun x hx => ?_) (by decide) (fun x hx => hx.pl (by decide)) (by simp only [List.length_append, List.length_cons, List.length_nil]; omega) fun w ys Ga hw ew hys hyl Fa xa => ?_
        · rcases List.mem_append.mp hx with hx | hx
          · exact hP x hx
          · simp only [List.mem_cons, List.not_mem_nil, or_false] at hx
            rcases hx with rfl | rfl
            · exact hP _ ha
            · exact hP _ hb
        have hyl : ys.length = 12 := by rw [hyl, List.length_append, List.length_cons, List.length_cons, List.length_nil]; omega
        have hpy : ∀ x ∈ ys, Pl 3 x := fun x hx => (hys x hx).pl (by decide)
        have hpo : ∀ x ∈ ordr ys, Pl 3 x := ordr_all hpy
        have hol : (ordr ys).length ≤ sizeLine := Nat.le_trans ordr_len (by simp only [sizeLine]; omega)
        try simp only [seq_, next_, ret_, drop_, ifs_, br_t, br_f, asg_, gn_, gt_, gtc_, gtn_, par_, var_0, var_s, c_, nil_, cons_, tup_, lst_, op_, bool_, kb_, tru_, tr_bl, andT_, orT_, kn_tt, kn_tf, kn_ff, kn_ft, notT_, and_, kand_t, kand_f, if_, bre_t, bre_f, call_, cb_, neg_, sl_, nopart_, part_, FD.sl_tup, eq_int0, eq_int1, eq_bl0, eq_bl1, beq_self_eq_true, Bool.not_true, Bool.not_false, add_int, add_tup, add_ref, int_, int0_, mul_int, mul_str, ord_int, FD.ix_tup, ix_fl, ix_ref, at_0, at_1, at_2, at_3, len_tup, len_fl, len_ref, max2_, min2_, tuple_tup, tuple_ref, is_, gs_, setL_, ml_, for_, rng1_, any_, lc_, FD.sl_ref, list_tup, dict0_, dn_, sortK_, val_tup, yes_, isLst_, List.set_cons_zero, List.set_cons_succ]
        refine list_lst ew (new_ fun kp Gb hkp ekp kb => ?_)
        have ew' := kb _ _ ew
        try simp only [seq_, next_, ret_, drop_, ifs_, br_t, br_f, asg_, gn_, gt_, gtc_, gtn_, par_, var_0, var_s, c_, nil_, cons_, tup_, lst_, op_, bool_, kb_, tru_, tr_bl, andT_, orT_, kn_tt, kn_tf, kn_ff, kn_ft, notT_, and_, kand_t, kand_f, if_, bre_t, bre_f, call_, cb_, neg_, sl_, nopart_, part_, FD.sl_tup, eq_int0, eq_int1, eq_bl0, eq_bl1, beq_self_eq_true, Bool.not_true, Bool.not_false, add_int, add_tup, add_ref, int_, int0_, mul_int, mul_str, ord_int, FD.ix_tup, ix_fl, ix_ref, at_0, at_1, at_2, at_3, len_tup, len_fl, len_ref, max2_, min2_, tuple_tup, tuple_ref, is_, gs_, setL_, ml_, for_, rng1_, any_, lc_, FD.sl_ref, list_tup, dict0_, dn_, sortK_, val_tup, yes_, isLst_, List.set_cons_zero, List.set_cons_succ, ex_lst ew']
        repeat (with_reducible refine And.intro (by first | rfl | omega | (simp only [sizeLine, List.length_cons, List.length_nil, List.length_append] <;> omega)) ?_)
        refine forGo_inv (fun ds ρ G' => (∃ o14, ρ = [some (.fl (ns.map D.int)), some (.int i), some (.ref f), some (.ref l), o4, o5, o6, o7, o8, o9, o10, o11, some (.ref w), some (.ref kp), o14, o15, o16, o17, o18]) ∧ Keep Gb G' ∧ ∀ d ∈ ds, d = .ref w ∨ d = .tup ys) (fun _ _ _ _ => True.intro) ?_ ?_ _ _ _ ⟨⟨o14, rfl⟩, .refl, fun d hd => by simpa using hd⟩
        · rintro d ds _ Gc Y ⟨⟨o14, rfl⟩, kc, hds⟩ ky
          have hend : ∀ p Gd, Gd p = some (.lst (ordr ys)) → Keep Gc Gd → sp_ordered [.ref kp] Gd (fun y Ge => sp_same 12 [.ref p, y] Ge fun x G1 => trD x G1 fun c G1 => kN (dBool (dOp (eqD true) (dVar 12) (dVar 13))) [some (.fl (ns.map D.int)), some (.int i), some (.ref f), some (.ref l), o4, o5, o6, o7, o8, o9, o10, o11, some (.ref w), some (.ref kp), some d, o15, o16, o17, o18] (dBr (dRet (dC (D.bl false))) dNext { nx := Y, ct := Y, bk := fun _ _ => True, rt := Q } [some (.fl (ns.map D.int)), some (.int i), some (.ref f), some (.ref l), o4, o5, o6, o7, o8, o9, o10, o11, some (.ref w), some (.ref kp), some d, o15, o16, o17, o18]) false (!c) G1) := by
            intro p Gd ed kd
            refine ordered_spec (b := 20) (by decide) hys (by omega) ((kc.trans kd) _ _ ekp) fun q Ge eq' ke => ?_
            refine same_lst (k := 3) (n := 10) (ke _ _ ed) eq' hpo (by decide) (by decide) hol fun Gf kf => ?_
            try simp only [seq_, next_, ret_, drop_, ifs_, br_t, br_f, asg_, gn_, gt_, gtc_, gtn_, par_, var_0, var_s, c_, nil_, cons_, tup_, lst_, op_, bool_, kb_, tru_, tr_bl, andT_, orT_, kn_tt, kn_tf, kn_ff, kn_ft, notT_, and_, kand_t, kand_f, if_, bre_t, bre_f, call_, cb_, neg_, sl_, nopart_, part_, FD.sl_tup, eq_int0, eq_int1, eq_bl0, eq_bl1, beq_self_eq_true, Bool.not_true, Bool.not_false, add_int, add_tup, add_ref, int_, int0_, mul_int, mul_str, ord_int, FD.ix_tup, ix_fl, ix_ref, at_0, at_1, at_2, at_3, len_tup, len_fl, len_ref, max2_, min2_, tuple_tup, tuple_ref, is_, gs_, setL_, ml_, for_, rng1_, any_, lc_, FD.sl_ref, list_tup, dict0_, dn_, sortK_, val_tup, yes_, isLst_, List.set_cons_zero, List.set_cons_succ]
            have kk := ((kc.trans kd).trans ke).trans kf
            refine eq_pls1 (kk _ _ ew') (kk _ _ ekp) hpy hpy (by decide) (by decide) ?_
            rw [eqv_refls hpy]
            try simp only [seq_, next_, ret_, drop_, ifs_, br_t, br_f, asg_, gn_, gt_, gtc_, gtn_, par_, var_0, var_s, c_, nil_, cons_, tup_, lst_, op_, bool_, kb_, tru_, tr_bl, andT_, orT_, kn_tt, kn_tf, kn_ff, kn_ft, notT_, and_, kand_t, kand_f, if_, bre_t, bre_f, call_, cb_, neg_, sl_, nopart_, part_, FD.sl_tup, eq_int0, eq_int1, eq_bl0, eq_bl1, beq_self_eq_true, Bool.not_true, Bool.not_false, add_int, add_tup, add_ref, int_, int0_, mul_int, mul_str, ord_int, FD.ix_tup, ix_fl, ix_ref, at_0, at_1, at_2, at_3, len_tup, len_fl, len_ref, max2_, min2_, tuple_tup, tuple_ref, is_, gs_, setL_, ml_, for_, rng1_, any_, lc_, FD.sl_ref, list_tup, dict0_, dn_, sortK_, val_tup, yes_, isLst_, List.set_cons_zero, List.set_cons_succ]
            exact ky _ _ ⟨⟨_, rfl⟩, kk, fun e he => hds e (List.mem_cons_of_mem _ he)⟩
          try simp only [seq_, next_, ret_, drop_, ifs_, br_t, br_f, asg_, gn_, gt_, gtc_, gtn_, par_, var_0, var_s, c_, nil_, cons_, tup_, lst_, op_, bool_, kb_, tru_, tr_bl, andT_, orT_, kn_tt, kn_tf, kn_ff, kn_ft, notT_, and_, kand_t, kand_f, if_, bre_t, bre_f, call_, cb_, neg_, sl_, nopart_, part_, FD.sl_tup, eq_int0, eq_int1, eq_bl0, eq_bl1, beq_self_eq_true, Bool.not_true, Bool.not_false, add_int, add_tup, add_ref, int_, int0_, mul_int, mul_str, ord_int, FD.ix_tup, ix_fl, ix_ref, at_0, at_1, at_2, at_3, len_tup, len_fl, len_ref, max2_, min2_, tuple_tup, tuple_ref, is_, gs_, setL_, ml_, for_, rng1_, any_, lc_, FD.sl_ref, list_tup, dict0_, dn_, sortK_, val_tup, yes_, isLst_, List.set_cons_zero, List.set_cons_succ]
          rcases hds d (List.mem_cons_self ..) with rfl | rfl
          · exact inord_lst (b := 20) (by decide) hys (by omega) (kc _ _ ew') fun p Gd _ ed kd => hend p Gd ed kd
          · exact inord_tup (b := 20) (by decide) hys (by omega) fun p Gd _ ed kd => hend p Gd ed kd
        · rintro _ Gc ⟨⟨o14, rfl⟩, kc, _⟩
          have Fc := (Fa.keep kb).keep kc
          have ekpc := kc _ _ ekp
          try simp only [seq_, next_, ret_, drop_, ifs_, br_t, br_f, asg_, gn_, gt_, gtc_, gtn_, par_, var_0, var_s, c_, nil_, cons_, tup_, lst_, op_, bool_, kb_, tru_, tr_bl, andT_, orT_, kn_tt, kn_tf, kn_ff, kn_ft, notT_, and_, kand_t, kand_f, if_, bre_t, bre_f, call_, cb_, neg_, sl_, nopart_, part_, FD.sl_tup, eq_int0, eq_int1, eq_bl0, eq_bl1, beq_self_eq_true, Bool.not_true, Bool.not_false, add_int, add_tup, add_ref, int_, int0_, mul_int, mul_str, ord_int, FD.ix_tup, ix_fl, ix_ref, at_0, at_1, at_2, at_3, len_tup, len_fl, len_ref, max2_, min2_, tuple_tup, tuple_ref, is_, gs_, setL_, ml_, for_, rng1_, any_, lc_, FD.sl_ref, list_tup, dict0_, dn_, sortK_, val_tup, yes_, isLst_, List.set_cons_zero, List.set_cons_succ]
          refine draw_spec Fc (by decide) (by decide) fun m Gd m0 m1 Fd xd => ?_
          have ekpd := xd.get (Fa.ne hkp) ekpc
          try simp only [seq_, next_, ret_, drop_, ifs_, br_t, br_f, asg_, gn_, gt_, gtc_, gtn_, par_, var_0, var_s, c_, nil_, cons_, tup_, lst_, op_, bool_, kb_, tru_, tr_bl, andT_, orT_, kn_tt, kn_tf, kn_ff, kn_ft, notT_, and_, kand_t, kand_f, if_, bre_t, bre_f, call_, cb_, neg_, sl_, nopart_, part_, FD.sl_tup, eq_int0, eq_int1, eq_bl0, eq_bl1, beq_self_eq_true, Bool.not_true, Bool.not_false, add_int, add_tup, add_ref, int_, int0_, mul_int, mul_str, ord_int, FD.ix_tup, ix_fl, ix_ref, at_0, at_1, at_2, at_3, len_tup, len_fl, len_ref, max2_, min2_, tuple_tup, tuple_ref, is_, gs_, setL_, ml_, for_, rng1_, any_, lc_, FD.sl_ref, list_tup, dict0_, dn_, sortK_, val_tup, yes_, isLst_, List.set_cons_zero, List.set_cons_succ, ex_lst ekpd]
          refine new_ fun fw Ge hfw efw ke => ?_
          try simp only [seq_, next_, ret_, drop_, ifs_, br_t, br_f, asg_, gn_, gt_, gtc_, gtn_, par_, var_0, var_s, c_, nil_, cons_, tup_, lst_, op_, bool_, kb_, tru_, tr_bl, andT_, orT_, kn_tt, kn_tf, kn_ff, kn_ft, notT_, and_, kand_t, kand_f, if_, bre_t, bre_f, call_, cb_, neg_, sl_, nopart_, part_, FD.sl_tup, eq_int0, eq_int1, eq_bl0, eq_bl1, beq_self_eq_true, Bool.not_true, Bool.not_false, add_int, add_tup, add_ref, int_, int0_, mul_int, mul_str, ord_int, FD.ix_tup, ix_fl, ix_ref, at_0, at_1, at_2, at_3, len_tup, len_fl, len_ref, max2_, min2_, tuple_tup, tuple_ref, is_, gs_, setL_, ml_, for_, rng1_, any_, lc_, FD.sl_ref, list_tup, dict0_, dn_, sortK_, val_tup, yes_, isLst_, List.set_cons_zero, List.set_cons_succ]
          have hz : ∀ x ∈ cutD ys none (some m), Place 20 x := fun x hx => hys x (cut_mem hx)
          have hzl : (cutD ys none (some m)).length ≤ 12 := Nat.le_trans cut_len (by omega)
          have hzp : ∀ x ∈ cutD ys none (some m), Pl 3 x := fun x hx => (hz x hx).pl (by decide)
          refine list_lst efw (new_ fun sh Gf hsh esh kf => ?_)
          try simp only [seq_, next_, ret_, drop_, ifs_, br_t, br_f, asg_, gn_, gt_, gtc_, gtn_, par_, var_0, var_s, c_, nil_, cons_, tup_, lst_, op_, bool_, kb_, tru_, tr_bl, andT_, orT_, kn_tt, kn_tf, kn_ff, kn_ft, notT_, and_, kand_t, kand_f, if_, bre_t, bre_f, call_, cb_, neg_, sl_, nopart_, part_, FD.sl_tup, eq_int0, eq_int1, eq_bl0, eq_bl1, beq_self_eq_true, Bool.not_true, Bool.not_false, add_int, add_tup, add_ref, int_, int0_, mul_int, mul_str, ord_int, FD.ix_tup, ix_fl, ix_ref, at_0, at_1, at_2, at_3, len_tup, len_fl, len_ref, max2_, min2_, tuple_tup, tuple_ref, is_, gs_, setL_, ml_, for_, rng1_, any_, lc_, FD.sl_ref, list_tup, dict0_, dn_, sortK_, val_tup, yes_, isLst_, List.set_cons_zero, List.set_cons_succ]
          refine inord_lst (b := 20) (by decide) hz (by omega) (kf _ _ efw) fun fo Gg hfo efo kg => ?_
          try simp only [seq_, next_, ret_, drop_, ifs_, br_t, br_f, asg_, gn_, gt_, gtc_, gtn_, par_, var_0, var_s, c_, nil_, cons_, tup_, lst_, op_, bool_, kb_, tru_, tr_bl, andT_, orT_, kn_tt, kn_tf, kn_ff, kn_ft, notT_, and_, kand_t, kand_f, if_, bre_t, bre_f, call_, cb_, neg_, sl_, nopart_, part_, FD.sl_tup, eq_int0, eq_int1, eq_bl0, eq_bl1, beq_self_eq_true, Bool.not_true, Bool.not_false, add_int, add_tup, add_ref, int_, int0_, mul_int, mul_str, ord_int, FD.ix_tup, ix_fl, ix_ref, at_0, at_1, at_2, at_3, len_tup, len_fl, len_ref, max2_, min2_, tuple_tup, tuple_ref, is_, gs_, setL_, ml_, for_, rng1_, any_, lc_, FD.sl_ref, list_tup, dict0_, dn_, sortK_, val_tup, yes_, isLst_, List.set_cons_zero, List.set_cons_succ]
          refine ⟨⟨_, efo⟩, ?_⟩
          have hof : fw ≠ fo := Ne.symm (ne_new hfo (kf _ _ efw))
          have hos : sh ≠ fo := Ne.symm (ne_new hfo esh)
          have hlo : (ordr (cutD ys none (some m))).length ≤ 12 := Nat.le_trans ordr_len hzl
          refine append_g efo (by simp only [sizeLine]; omega) fun Gh eh xh => ?_
          have efw' := xh.get hof (kg _ _ (kf _ _ efw))
          have esh' := xh.get hos (kg _ _ esh)
          refine eq_pls1 efw' esh' hzp hzp (by decide) (by decide) ?_
          rw [eqv_refls hzp]
          try simp only [seq_, next_, ret_, drop_, ifs_, br_t, br_f, asg_, gn_, gt_, gtc_, gtn_, par_, var_0, var_s, c_, nil_, cons_, tup_, lst_, op_, bool_, kb_, tru_, tr_bl, andT_, orT_, kn_tt, kn_tf, kn_ff, kn_ft, notT_, and_, kand_t, kand_f, if_, bre_t, bre_f, call_, cb_, neg_, sl_, nopart_, part_, FD.sl_tup, eq_int0, eq_int1, eq_bl0, eq_bl1, beq_self_eq_true, Bool.not_true, Bool.not_false, add_int, add_tup, add_ref, int_, int0_, mul_int, mul_str, ord_int, FD.ix_tup, ix_fl, ix_ref, at_0, at_1, at_2, at_3, len_tup, len_fl, len_ref, max2_, min2_, tuple_tup, tuple_ref, is_, gs_, setL_, ml_, for_, rng1_, any_, lc_, FD.sl_ref, list_tup, dict0_, dn_, sortK_, val_tup, yes_, isLst_, List.set_cons_zero, List.set_cons_succ]
          refine inord_lst (b := 20) (by decide) hz (by omega) efw' fun u Gi _ eu ki => ?_
          refine ordered_spec (b := 20) (by decide) hz (by omega) (ki _ _ esh') fun v Gj ev kj => ?_
          have hop := ordr_all hzp
          refine eq_pls1 (kj _ _ eu) ev hop hop (by decide) (by decide) ?_
          rw [eqv_refls hop]
          try simp only [seq_, next_, ret_, drop_, ifs_, br_t, br_f, asg_, gn_, gt_, gtc_, gtn_, par_, var_0, var_s, c_, nil_, cons_, tup_, lst_, op_, bool_, kb_, tru_, tr_bl, andT_, orT_, kn_tt, kn_tf, kn_ff, kn_ft, notT_, and_, kand_t, kand_f, if_, bre_t, bre_f, call_, cb_, neg_, sl_, nopart_, part_, FD.sl_tup, eq_int0, eq_int1, eq_bl0, eq_bl1, beq_self_eq_true, Bool.not_true, Bool.not_false, add_int, add_tup, add_ref, int_, int0_, mul_int, mul_str, ord_int, FD.ix_tup, ix_fl, ix_ref, at_0, at_1, at_2, at_3, len_tup, len_fl, len_ref, max2_, min2_, tuple_tup, tuple_ref, is_, gs_, setL_, ml_, for_, rng1_, any_, lc_, FD.sl_ref, list_tup, dict0_, dn_, sortK_, val_tup, yes_, isLst_, List.set_cons_zero, List.set_cons_succ]
          exact kx' _ _ _ _ _ _ _ _ _ _ _ _ _ _ _ _ _ _ _
    · rw [List.mem_singleton.mp hx]; exact hpl.mono (by rw [rng_len]; decide)
  · rintro _ G1 ⟨⟨o1, o2, o3, o4, o5, o6, o7, o8, o9, o10, o11, o12, o13, o14, o15, o16, o17, o18, rfl⟩, _⟩
    try simp only [seq_, next_, ret_, drop_, ifs_, br_t, br_f, asg_, gn_, gt_, gtc_, gtn_, par_, var_0, var_s, c_, nil_, cons_, tup_, lst_, op_, bool_, kb_, tru_, tr_bl, andT_, orT_, kn_tt, kn_tf, kn_ff, kn_ft, notT_, and_, kand_t, kand_f, if_, bre_t, bre_f, call_, cb_, neg_, sl_, nopart_, part_, FD.sl_tup, eq_int0, eq_int1, eq_bl0, eq_bl1, beq_self_eq_true, Bool.not_true, Bool.not_false, add_int, add_tup, add_ref, int_, int0_, mul_int, mul_str, ord_int, FD.ix_tup, ix_fl, ix_ref, at_0, at_1, at_2, at_3, len_tup, len_fl, len_ref, max2_, min2_, tuple_tup, tuple_ref, is_, gs_, setL_, ml_, for_, rng1_, any_, lc_, FD.sl_ref, list_tup, dict0_, dn_, sortK_, val_tup, yes_, isLst_, List.set_cons_zero, List.set_cons_succ]
    repeat (with_reducible refine And.intro (by first | rfl | omega | (simp only [sizeLine, List.length_cons, List.length_nil, List.length_append] <;> omega)) ?_)
    refine new_ fun a G2 _ e2 _ => ?_
    refine inord_lst (b := 0) (xs := []) (by decide) (fun _ h => nomatch h) (by simp) e2 fun p G3 _ e3 k3 => ?_
    rw [ordr_nil] at e3
    try simp only [seq_, next_, ret_, drop_, ifs_, br_t, br_f, asg_, gn_, gt_, gtc_, gtn_, par_, var_0, var_s, c_, nil_, cons_, tup_, lst_, op_, bool_, kb_, tru_, tr_bl, andT_, orT_, kn_tt, kn_tf, kn_ff, kn_ft, notT_, and_, kand_t, kand_f, if_, bre_t, bre_f, call_, cb_, neg_, sl_, nopart_, part_, FD.sl_tup, eq_int0, eq_int1, eq_bl0, eq_bl1, beq_self_eq_true, Bool.not_true, Bool.not_false, add_int, add_tup, add_ref, int_, int0_, mul_int, mul_str, ord_int, FD.ix_tup, ix_fl, ix_ref, at_0, at_1, at_2, at_3, len_tup, len_fl, len_ref, max2_, min2_, tuple_tup, tuple_ref, is_, gs_, setL_, ml_, for_, rng1_, any_, lc_, FD.sl_ref, list_tup, dict0_, dn_, sortK_, val_tup, yes_, isLst_, List.set_cons_zero, List.set_cons_succ]
    repeat (with_reducible refine And.intro (by first | rfl | omega | (simp only [sizeLine, List.length_cons, List.length_nil, List.length_append] <;> omega)) ?_)
    refine new_ fun c G4 _ e4 k4 => ?_
    refine eq_pls0 (k := 0) (m := 0) (k4 _ _ e3) e4 (fun _ h => nomatch h) (fun _ h => nomatch h) (by decide) (by decide) ?_
    rw [show PyData.eqvAll (toPys []) (toPys []) = true from rfl]
    try simp only [seq_, next_, ret_, drop_, ifs_, br_t, br_f, asg_, gn_, gt_, gtc_, gtn_, par_, var_0, var_s, c_, nil_, cons_, tup_, lst_, op_, bool_, kb_, tru_, tr_bl, andT_, orT_, kn_tt, kn_tf, kn_ff, kn_ft, notT_, and_, kand_t, kand_f, if_, bre_t, bre_f, call_, cb_, neg_, sl_, nopart_, part_, FD.sl_tup, eq_int0, eq_int1, eq_bl0, eq_bl1, beq_self_eq_true, Bool.not_true, Bool.not_false, add_int, add_tup, add_ref, int_, int0_, mul_int, mul_str, ord_int, FD.ix_tup, ix_fl, ix_ref, at_0, at_1, at_2, at_3, len_tup, len_fl, len_ref, max2_, min2_, tuple_tup, tuple_ref, is_, gs_, setL_, ml_, for_, rng1_, any_, lc_, FD.sl_ref, list_tup, dict0_, dn_, sortK_, val_tup, yes_, isLst_, List.set_cons_zero, List.set_cons_succ]
    repeat (with_reducible refine And.intro (by first | rfl | omega | (simp only [sizeLine, List.length_cons, List.length_nil, List.length_append] <;> omega)) ?_)
    refine inord_tup (b := 0) (xs := []) (by decide) (fun _ h => nomatch h) (by simp) fun p G5 _ e5 k5 => ?_
    rw [ordr_nil] at e5
    try simp only [seq_, next_, ret_, drop_, ifs_, br_t, br_f, asg_, gn_, gt_, gtc_, gtn_, par_, var_0, var_s, c_, nil_, cons_, tup_, lst_, op_, bool_, kb_, tru_, tr_bl, andT_, orT_, kn_tt, kn_tf, kn_ff, kn_ft, notT_, and_, kand_t, kand_f, if_, bre_t, bre_f, call_, cb_, neg_, sl_, nopart_, part_, FD.sl_tup, eq_int0, eq_int1, eq_bl0, eq_bl1, beq_self_eq_true, Bool.not_true, Bool.not_false, add_int, add_tup, add_ref, int_, int0_, mul_int, mul_str, ord_int, FD.ix_tup, ix_fl, ix_ref, at_0, at_1, at_2, at_3, len_tup, len_fl, len_ref, max2_, min2_, tuple_tup, tuple_ref, is_, gs_, setL_, ml_, for_, rng1_, any_, lc_, FD.sl_ref, list_tup, dict0_, dn_, sortK_, val_tup, yes_, isLst_, List.set_cons_zero, List.set_cons_succ]
    repeat (with_reducible refine And.intro (by first | rfl | omega | (simp only [sizeLine, List.length_cons, List.length_nil, List.length_append] <;> omega)) ?_)
    refine new_ fun c G6 _ e6 k6 => ?_
    refine eq_pls0 (k := 0) (m := 0) (k6 _ _ e5) e6 (fun _ h => nomatch h) (fun _ h => nomatch h) (by decide) (by decide) ?_
    exact h _
  · obtain ⟨j, hj, e⟩ := rng_mem hd
    refine ⟨_, ?_, ?_, e⟩
    · omega
    · revert hj
      split <;> split <;> omega
end K03

/-! the defs keep their readings, printed by gen.py -/
namespace K03
open PySem PySem.Spec PyProof.Rows L2 FD

def top (i : Nat) : Stmt := PySem.Challenge.pw_farenough_k03_places_after_and_in_order.main.body.getD i (.Pass ⟨0, 0, 0, 0⟩)
abbrev s_feed_of : Stmt := top 7
abbrev s_draw : Stmt := top 8
abbrev s_pick : Stmt := top 10
abbrev s_calls : Stmt := top 11
abbrev s_some_text : Stmt := top 12
abbrev s_some_answer : Stmt := top 13
abbrev s_some_place : Stmt := top 16
abbrev s_near : Stmt := top 17
abbrev s_same : Stmt := top 15
abbrev s_after_write : Stmt := top 1
abbrev s_after_read : Stmt := top 2
abbrev s_behind : Stmt := top 18
abbrev s_is_behind : Stmt := top 3
abbrev s_mixed : Stmt := top 9
abbrev s_ordered : Stmt := top 14
abbrev s_rank : Stmt := top 4
abbrev s_in_order : Stmt := top 5
abbrev s_law : Stmt := top 19
/-- the built-ins are still the built-ins -/
structure Bl (mg : Str → Option Value) : Prop where
  all' : mg "all" = none
  bool' : mg "bool" = none
  int' : mg "int" = none
  isinstance' : mg "isinstance" = none
  len' : mg "len" = none
  list' : mg "list" = none
  max' : mg "max" = none
  min' : mg "min" = none
  range' : mg "range" = none
  sorted' : mg "sorted" = none
  str' : mg "str" = none
  tuple' : mg "tuple" = none
  zip' : mg "zip" = none
section
variable {P : Program} {w : World} {K : PySem.W.Frag} {mg : Str → Option Value} {base : Heap}
theorem sc_feed_of : FnScope N_feed_of ["_law_script", "_law_k"] (defScope s_feed_of) := ⟨rfl, rfl, rfl, by decide +kernel, rfl, by decide +kernel, by decide +kernel⟩
theorem ok_feed_of (T : Bl mg) {f_feed_of : Addr} {fd_feed_of : FuncData} (F_feed_of : FunOn K mg "_law_feed_of" s_feed_of ["_law_script", "_law_k"] f_feed_of fd_feed_of) : FnOk P w K mg base CX0 1 f_feed_of fd_feed_of ["_law_script", "_law_k"] (lift ⟨P, w, K⟩ sp_feed_of) := by
  refine fn_ok (t := t_feed_of) (k := 0) F_feed_of.F sc_feed_of fun cdv A outer s H E hr => ?_
  exact (pds_cons (pds_set 2 sc_feed_of.nd (pd_add (pd_mul pd_int (pd_var 1)) pd_int))
    (pds_cons (pds_if (pdt_lt (pd_var 1) (pd_len (by rfl) T.len' (pda_cons (pd_var 0) pda_nil))) (pds_one (pds_set 2 sc_feed_of.nd (pd_ix (pd_var 0) (pd_var 1)))) pds_nil)
    (pds_cons (pds_if (pdt_lt (pd_var 2) pd_int) (pds_one (pds_set 2 sc_feed_of.nd (pd_sub pd_int (pd_mul pd_int (pd_var 2))))) pds_nil)
    (pds_cons (pds_set 3 sc_feed_of.nd (pd_if (pdt_ge (pd_var 2) (pd_pow pd_int pd_int)) (pd_var 2) pd_int))
    (pds_one (pds_ret (pd_lst (pda_cons (pd_var 3) (pda_cons (pd_add (pd_add (pd_mod (pd_var 2) pd_int) (pd_mul pd_int (pd_var 1))) pd_int) pda_nil)))))))))
theorem sc_draw : FnScope N_draw ["_law_feed", "_law_many"] (defScope s_draw) := ⟨rfl, rfl, rfl, by decide +kernel, rfl, by decide +kernel, by decide +kernel⟩
theorem ok_draw (T : Bl mg) {f_draw : Addr} {fd_draw : FuncData} (F_draw : FunOn K mg "_law_draw" s_draw ["_law_feed", "_law_many"] f_draw fd_draw) : FnOk P w K mg base CX0 1 f_draw fd_draw ["_law_feed", "_law_many"] (lift ⟨P, w, K⟩ sp_draw) := by
  refine fn_ok (t := t_draw) (k := 0) F_draw.F sc_draw fun cdv A outer s H E hr => ?_
  exact (pds_cons (pds_if (pdt_gt (pd_ix (pd_var 0) pd_int) pd_int) (pds_cons (pds_set 2 sc_draw.nd (pd_mod (pd_ix (pd_var 0) pd_int) (pd_var 1)))
    (pds_cons (pds_asg (pd_fdiv (pd_ix (pd_var 0) pd_int) (pd_var 1)) (pdg_subL (pd_var 0) pd_int))
    (pds_one (pds_ret (pd_var 2))))) pds_nil)
    (pds_cons (pds_asg (pd_mod (pd_add (pd_mul (pd_ix (pd_var 0) pd_int) pd_int) pd_int) pd_int) (pdg_subL (pd_var 0) pd_int))
    (pds_one (pds_ret (pd_mod (pd_fdiv (pd_ix (pd_var 0) pd_int) pd_int) (pd_var 1))))))
theorem sc_pick : FnScope N_pick ["_law_feed", "_law_items"] (defScope s_pick) := ⟨rfl, rfl, rfl, by decide +kernel, rfl, by decide +kernel, by decide +kernel⟩
theorem ok_pick (T : Bl mg) {f_pick : Addr} {fd_pick : FuncData} (F_pick : FunOn K mg "_law_pick" s_pick ["_law_feed", "_law_items"] f_pick fd_pick)
    {f_draw : Addr} {fd_draw : FuncData} (F_draw : FunOn K mg "_law_draw" s_draw ["_law_feed", "_law_many"] f_draw fd_draw) (G_draw : FnOk P w K mg base CX0 1 f_draw fd_draw ["_law_feed", "_law_many"] (lift ⟨P, w, K⟩ sp_draw)) : FnOk P w K mg base CX0 4 f_pick fd_pick ["_law_feed", "_law_items"] (lift ⟨P, w, K⟩ sp_pick) := by
  refine fn_ok (t := t_pick) (k := 3) F_pick.F sc_pick fun cdv A outer s H E hr => ?_
  exact (pds_one (pds_ret (pd_ix (pd_var 1) (pd_call G_draw (hr.mono (by decide)) (by rfl) F_draw.g F_draw.F.kp F_draw.b (pda_cons (pd_var 0) (pda_cons (pd_len (by rfl) T.len' (pda_cons (pd_var 1) pda_nil)) pda_nil))))))
theorem sc_calls : FnScope N_calls [] (defScope s_calls) := ⟨rfl, rfl, rfl, by decide +kernel, rfl, by decide +kernel, by decide +kernel⟩
theorem ok_calls (T : Bl mg) {f_calls : Addr} {fd_calls : FuncData} (F_calls : FunOn K mg "_law_calls" s_calls [] f_calls fd_calls) : FnOk P w K mg base CX0 1 f_calls fd_calls [] (lift ⟨P, w, K⟩ sp_calls) := by
  refine fn_ok (t := t_calls) (k := 0) F_calls.F sc_calls fun cdv A outer s H E hr => ?_
  exact (pds_one (pds_ret (pd_lst (pda_cons pd_str (pda_cons pd_str (pda_cons pd_str (pda_cons pd_str (pda_cons pd_str pda_nil))))))))
theorem sc_some_text : FnScope N_some_text ["_law_feed"] (defScope s_some_text) := ⟨rfl, rfl, rfl, by decide +kernel, rfl, by decide +kernel, by decide +kernel⟩
theorem ok_some_text (T : Bl mg) {f_some_text : Addr} {fd_some_text : FuncData} (F_some_text : FunOn K mg "_law_some_text" s_some_text ["_law_feed"] f_some_text fd_some_text)
    {f_draw : Addr} {fd_draw : FuncData} (F_draw : FunOn K mg "_law_draw" s_draw ["_law_feed", "_law_many"] f_draw fd_draw) (G_draw : FnOk P w K mg base CX0 1 f_draw fd_draw ["_law_feed", "_law_many"] (lift ⟨P, w, K⟩ sp_draw))
    {f_pick : Addr} {fd_pick : FuncData} (F_pick : FunOn K mg "_law_pick" s_pick ["_law_feed", "_law_items"] f_pick fd_pick) (G_pick : FnOk P w K mg base CX0 4 f_pick fd_pick ["_law_feed", "_law_items"] (lift ⟨P, w, K⟩ sp_pick))
    {f_calls : Addr} {fd_calls : FuncData} (F_calls : FunOn K mg "_law_calls" s_calls [] f_calls fd_calls) (G_calls : FnOk P w K mg base CX0 1 f_calls fd_calls [] (lift ⟨P, w, K⟩ sp_calls)) : FnOk P w K mg base CX0 7 f_some_text fd_some_text ["_law_feed"] (lift ⟨P, w, K⟩ sp_some_text) := by
  refine fn_ok (t := t_some_text) (k := 6) F_some_text.F sc_some_text fun cdv A outer s H E hr => ?_
  exact (pds_cons (pds_set 1 sc_some_text.nd (pd_call G_draw (hr.mono (by decide)) (by rfl) F_draw.g F_draw.F.kp F_draw.b (pda_cons (pd_var 0) (pda_cons pd_int pda_nil))))
    (pds_cons (pds_if (pdt_eq hr (pd_var 1) pd_int) (pds_one (pds_ret (pd_call G_pick (hr.mono (by decide)) (by rfl) F_pick.g F_pick.F.kp F_pick.b (pda_cons (pd_var 0) (pda_cons (pd_call0 G_calls (hr.mono (by decide)) (by rfl) F_calls.g F_calls.F.kp F_calls.b) pda_nil))))) pds_nil)
    (pds_cons (pds_if (pdt_eq hr (pd_var 1) pd_int) (pds_cons (pds_set 2 sc_some_text.nd (pd_ix (pd_lst (pda_cons (pd_add pd_int (pd_call G_draw (hr.mono (by decide)) (by rfl) F_draw.g F_draw.F.kp F_draw.b (pda_cons (pd_var 0) (pda_cons pd_int pda_nil)))) (pda_cons pd_int pda_nil))) (pd_fdiv (pd_call G_draw (hr.mono (by decide)) (by rfl) F_draw.g F_draw.F.kp F_draw.b (pda_cons (pd_var 0) (pda_cons pd_int pda_nil))) pd_int)))
    (pds_one (pds_ret (pd_call G_pick (hr.mono (by decide)) (by rfl) F_pick.g F_pick.F.kp F_pick.b (pda_cons (pd_var 0) (pda_cons (pd_lst (pda_cons pd_str (pda_cons pd_str (pda_cons pd_str (pda_cons pd_str (pda_cons pd_str (pda_cons (pd_mul pd_str (pd_var 2)) (pda_cons pd_str (pda_cons pd_str (pda_cons pd_str (pda_cons pd_str pda_nil))))))))))) pda_nil)))))) pds_nil)
    (pds_one (pds_ret (pd_ix (pd_lst (pda_cons pd_str (pda_cons pd_str (pda_cons pd_str (pda_cons pd_str (pda_cons pd_str (pda_cons pd_str pda_nil))))))) (pd_var 1)))))))
theorem sc_some_answer : FnScope N_some_answer ["_law_feed"] (defScope s_some_answer) := ⟨rfl, rfl, rfl, by decide +kernel, rfl, by decide +kernel, by decide +kernel⟩
theorem ok_some_answer (T : Bl mg) {f_some_answer : Addr} {fd_some_answer : FuncData} (F_some_answer : FunOn K mg "_law_some_answer" s_some_answer ["_law_feed"] f_some_answer fd_some_answer)
    {f_draw : Addr} {fd_draw : FuncData} (F_draw : FunOn K mg "_law_draw" s_draw ["_law_feed", "_law_many"] f_draw fd_draw) (G_draw : FnOk P w K mg base CX0 1 f_draw fd_draw ["_law_feed", "_law_many"] (lift ⟨P, w, K⟩ sp_draw))
    {f_some_text : Addr} {fd_some_text : FuncData} (F_some_text : FunOn K mg "_law_some_text" s_some_text ["_law_feed"] f_some_text fd_some_text) (G_some_text : FnOk P w K mg base CX0 7 f_some_text fd_some_text ["_law_feed"] (lift ⟨P, w, K⟩ sp_some_text)) : FnOk P w K mg base CX0 10 f_some_answer fd_some_answer ["_law_feed"] (lift ⟨P, w, K⟩ sp_some_answer) := by
  refine fn_ok (t := t_some_answer) (k := 9) F_some_answer.F sc_some_answer fun cdv A outer s H E hr => ?_
  exact (pds_one (pds_ret (pd_if (pdt_eq hr (pd_call G_draw (hr.mono (by decide)) (by rfl) F_draw.g F_draw.F.kp F_draw.b (pda_cons (pd_var 0) (pda_cons pd_int pda_nil))) pd_int) pd_non (pd_call G_some_text (hr.mono (by decide)) (by rfl) F_some_text.g F_some_text.F.kp F_some_text.b (pda_cons (pd_var 0) pda_nil)))))
theorem sc_some_place : FnScope N_some_place ["_law_feed"] (defScope s_some_place) := ⟨rfl, rfl, rfl, by decide +kernel, rfl, by decide +kernel, by decide +kernel⟩
theorem ok_some_place (T : Bl mg) {f_some_place : Addr} {fd_some_place : FuncData} (F_some_place : FunOn K mg "_law_some_place" s_some_place ["_law_feed"] f_some_place fd_some_place)
    {f_draw : Addr} {fd_draw : FuncData} (F_draw : FunOn K mg "_law_draw" s_draw ["_law_feed", "_law_many"] f_draw fd_draw) (G_draw : FnOk P w K mg base CX0 1 f_draw fd_draw ["_law_feed", "_law_many"] (lift ⟨P, w, K⟩ sp_draw))
    {f_some_answer : Addr} {fd_some_answer : FuncData} (F_some_answer : FunOn K mg "_law_some_answer" s_some_answer ["_law_feed"] f_some_answer fd_some_answer) (G_some_answer : FnOk P w K mg base CX0 10 f_some_answer fd_some_answer ["_law_feed"] (lift ⟨P, w, K⟩ sp_some_answer))
    {f_some_text : Addr} {fd_some_text : FuncData} (F_some_text : FunOn K mg "_law_some_text" s_some_text ["_law_feed"] f_some_text fd_some_text) (G_some_text : FnOk P w K mg base CX0 7 f_some_text fd_some_text ["_law_feed"] (lift ⟨P, w, K⟩ sp_some_text)) : FnOk P w K mg base CX0 13 f_some_place fd_some_place ["_law_feed"] (lift ⟨P, w, K⟩ sp_some_place) := by
  refine fn_ok (t := t_some_place) (k := 12) F_some_place.F sc_some_place fun cdv A outer s H E hr => ?_
  exact (pds_cons (pds_set 1 sc_some_place.nd (pd_lst pda_nil))
    (pds_cons (pds_for PassesOwn.never rfl (pdi_rng1 (by rfl) T.range' (pda_cons (pd_call G_draw (hr.mono (by decide)) (by rfl) F_draw.g F_draw.F.kp F_draw.b (pda_cons (pd_var 0) (pda_cons pd_int pda_nil))) pda_nil)) (pdg_name 2 sc_some_place.nd) (pds_one (pds_expr (pd_append (pd_var 1) (pda_cons (pd_tuple (by rfl) T.tuple' (pda_cons (pd_lc (own := [("_law_part", 4)]) rfl sc_some_place.nd (pdi_rng1 (by rfl) T.range' (pda_cons (pd_add pd_int (pd_call G_draw (hr.mono (by decide)) (by rfl) F_draw.g F_draw.F.kp F_draw.b (pda_cons (pd_var 0) (pda_cons pd_int pda_nil)))) pda_nil)) (blkOk_by (own := [("_law_part", 4)]) (N := N_some_place) (sc := defScope s_some_place) (by decide +kernel)) (fun _ _ _ _ _ => (pdc_name 4 sc_some_place.nd)) (fun _ _ _ _ _ => pdts_nil) (fun _ _ _ _ _ => (pd_call G_some_answer (hr.mono (by decide)) (by rfl) F_some_answer.g F_some_answer.F.kp F_some_answer.b (pda_cons (pd_var 0) pda_nil)))) pda_nil)) pda_nil)))))
    (pds_cons (pds_set 3 sc_some_place.nd (pd_tuple (by rfl) T.tuple' (pda_cons (pd_lc (own := [("_law_turn", 2)]) rfl sc_some_place.nd (pdi_rng1 (by rfl) T.range' (pda_cons (pd_call G_draw (hr.mono (by decide)) (by rfl) F_draw.g F_draw.F.kp F_draw.b (pda_cons (pd_var 0) (pda_cons pd_int pda_nil))) pda_nil)) (blkOk_by (own := [("_law_turn", 2)]) (N := N_some_place) (sc := defScope s_some_place) (by decide +kernel)) (fun _ _ _ _ _ => (pdc_name 2 sc_some_place.nd)) (fun _ _ _ _ _ => pdts_nil) (fun _ _ _ _ _ => (pd_call G_some_text (hr.mono (by decide)) (by rfl) F_some_text.g F_some_text.F.kp F_some_text.b (pda_cons (pd_var 0) pda_nil)))) pda_nil)))
    (pds_one (pds_ret (pd_tup (pda_cons (pd_call G_some_text (hr.mono (by decide)) (by rfl) F_some_text.g F_some_text.F.kp F_some_text.b (pda_cons (pd_var 0) pda_nil)) (pda_cons (pd_var 3) (pda_cons (pd_tuple (by rfl) T.tuple' (pda_cons (pd_var 1) pda_nil)) (pda_cons (pd_ix (pd_lst (pda_cons pd_int (pda_cons pd_int (pda_cons pd_int (pda_cons pd_int (pda_cons pd_int (pda_cons pd_int (pda_cons pd_int pda_nil)))))))) (pd_call G_draw (hr.mono (by decide)) (by rfl) F_draw.g F_draw.F.kp F_draw.b (pda_cons (pd_var 0) (pda_cons pd_int pda_nil)))) pda_nil))))))))))
theorem sc_near : FnScope N_near ["_law_feed", "_law_place"] (defScope s_near) := ⟨rfl, rfl, rfl, by decide +kernel, rfl, by decide +kernel, by decide +kernel⟩
theorem ok_near (T : Bl mg) {f_near : Addr} {fd_near : FuncData} (F_near : FunOn K mg "_law_near" s_near ["_law_feed", "_law_place"] f_near fd_near)
    {f_draw : Addr} {fd_draw : FuncData} (F_draw : FunOn K mg "_law_draw" s_draw ["_law_feed", "_law_many"] f_draw fd_draw) (G_draw : FnOk P w K mg base CX0 1 f_draw fd_draw ["_law_feed", "_law_many"] (lift ⟨P, w, K⟩ sp_draw))
    {f_some_answer : Addr} {fd_some_answer : FuncData} (F_some_answer : FunOn K mg "_law_some_answer" s_some_answer ["_law_feed"] f_some_answer fd_some_answer) (G_some_answer : FnOk P w K mg base CX0 10 f_some_answer fd_some_answer ["_law_feed"] (lift ⟨P, w, K⟩ sp_some_answer))
    {f_some_text : Addr} {fd_some_text : FuncData} (F_some_text : FunOn K mg "_law_some_text" s_some_text ["_law_feed"] f_some_text fd_some_text) (G_some_text : FnOk P w K mg base CX0 7 f_some_text fd_some_text ["_law_feed"] (lift ⟨P, w, K⟩ sp_some_text))
    {f_pick : Addr} {fd_pick : FuncData} (F_pick : FunOn K mg "_law_pick" s_pick ["_law_feed", "_law_items"] f_pick fd_pick) (G_pick : FnOk P w K mg base CX0 4 f_pick fd_pick ["_law_feed", "_law_items"] (lift ⟨P, w, K⟩ sp_pick)) : FnOk P w K mg base CX0 13 f_near fd_near ["_law_feed", "_law_place"] (lift ⟨P, w, K⟩ sp_near) := by
  refine fn_ok (t := t_near) (k := 12) F_near.F sc_near fun cdv A outer s H E hr => ?_
  exact (pds_cons (pds_asg (pd_var 1) (pdg_tup rfl (pdgs_cons (pdg_name 2 sc_near.nd) (pdgs_cons (pdg_name 3 sc_near.nd) (pdgs_cons (pdg_name 4 sc_near.nd) (pdgs_cons (pdg_name 5 sc_near.nd) pdgs_nil))))))
    (pds_cons (pds_set 6 sc_near.nd (pd_tuple (by rfl) T.tuple' (pda_cons (pd_lc (own := [("_law_part", 8)]) rfl sc_near.nd (pdi_rng1 (by rfl) T.range' (pda_cons (pd_add pd_int (pd_call G_draw (hr.mono (by decide)) (by rfl) F_draw.g F_draw.F.kp F_draw.b (pda_cons (pd_var 0) (pda_cons pd_int pda_nil)))) pda_nil)) (blkOk_by (own := [("_law_part", 8)]) (N := N_near) (sc := defScope s_near) (by decide +kernel)) (fun _ _ _ _ _ => (pdc_name 8 sc_near.nd)) (fun _ _ _ _ _ => pdts_nil) (fun _ _ _ _ _ => (pd_call G_some_answer (hr.mono (by decide)) (by rfl) F_some_answer.g F_some_answer.F.kp F_some_answer.b (pda_cons (pd_var 0) pda_nil)))) pda_nil)))
    (pds_cons (pds_set 7 sc_near.nd (pd_lst (pda_cons (pd_tup (pda_cons (pd_var 2) (pda_cons (pd_var 3) (pda_cons (pd_var 4) (pda_cons (pd_add (pd_var 5) pd_int) pda_nil))))) (pda_cons (pd_tup (pda_cons (pd_var 2) (pda_cons (pd_var 3) (pda_cons (pd_add (pd_var 4) (pd_tup (pda_cons (pd_var 6) pda_nil))) (pda_cons pd_int pda_nil))))) pda_nil))))
    (pds_cons (pds_expr (pd_append (pd_var 7) (pda_cons (pd_tup (pda_cons (pd_var 2) (pda_cons (pd_var 3) (pda_cons (pd_slice (pd_var 4) pdo_none (pdo_some (pd_neg pd_int))) (pda_cons (pd_var 5) pda_nil))))) pda_nil)))
    (pds_cons (pds_set 7 sc_near.nd (pd_add (pd_var 7) (pd_lst (pda_cons (pd_tup (pda_cons (pd_var 2) (pda_cons (pd_var 3) (pda_cons (pd_add (pd_var 4) (pd_tup (pda_cons (pd_var 6) (pda_cons (pd_var 6) pda_nil)))) (pda_cons (pd_var 5) pda_nil))))) (pda_cons (pd_tup (pda_cons (pd_call G_some_text (hr.mono (by decide)) (by rfl) F_some_text.g F_some_text.F.kp F_some_text.b (pda_cons (pd_var 0) pda_nil)) (pda_cons (pd_var 3) (pda_cons (pd_var 4) (pda_cons (pd_var 5) pda_nil))))) pda_nil)))))
    (pds_cons (pds_set 7 sc_near.nd (pd_add (pd_var 7) (pd_lst (pda_cons (pd_tup (pda_cons (pd_var 2) (pda_cons (pd_add (pd_slice (pd_var 3) pdo_none (pdo_some pd_int)) (pd_tup (pda_cons pd_str pda_nil))) (pda_cons (pd_var 4) (pda_cons (pd_var 5) pda_nil))))) (pda_cons (pd_tup (pda_cons (pd_var 2) (pda_cons (pd_slice (pd_var 3) pdo_none (pdo_some (pd_neg pd_int))) (pda_cons (pd_add (pd_var 4) (pd_tup (pda_cons (pd_var 6) pda_nil))) (pda_cons (pd_var 5) pda_nil))))) pda_nil)))))
    (pds_one (pds_ret (pd_call G_pick (hr.mono (by decide)) (by rfl) F_pick.g F_pick.F.kp F_pick.b (pda_cons (pd_var 0) (pda_cons (pd_add (pd_var 7) (pd_lst (pda_cons (pd_tup (pda_cons (pd_var 2) (pda_cons (pd_var 3) (pda_cons (pd_add (pd_slice (pd_var 4) pdo_none (pdo_some (pd_neg pd_int))) (pd_tup (pda_cons (pd_var 6) pda_nil))) (pda_cons (pd_var 5) pda_nil))))) (pda_cons (pd_var 1) pda_nil)))) pda_nil)))))))))))
theorem sc_same : FnScope N_same ["_law_found", "_law_due"] (defScope s_same) := ⟨rfl, rfl, rfl, by decide +kernel, rfl, by decide +kernel, by decide +kernel⟩
theorem ok_same (T : Bl mg) {f_same : Addr} {fd_same : FuncData} (F_same : FunOn K mg "_law_same" s_same ["_law_found", "_law_due"] f_same fd_same) : ∀ n : Nat, FnOk P w K mg base CX0 (0 + 1 + n) f_same fd_same ["_law_found", "_law_due"] (lift ⟨P, w, K⟩ (sp_same n))
  | 0 => fn_no2 fun _ _ _ h => h.2
  | n + 1 => by
    have G_same := ok_same T F_same n
    refine fn_ok (t := t_same (n + 1)) F_same.F sc_same fun cdv A outer s H E hr => ?_
    exact (pds_cons (pds_if (pdt_tru (pd_isi (by rfl) T.isinstance' (pda_cons (pd_var 1) (pda_cons (pd_tup (pda_cons (pd_ty (n := "list") (by rfl) T.list' (by decide +kernel)) (pda_cons (pd_ty (n := "tuple") (by rfl) T.tuple' (by decide +kernel)) pda_nil))) pda_nil)))) (pds_cons (pds_if (PDW.pt (pdw_or (pdt_ne hr (pd_isi (by rfl) T.isinstance' (pda_cons (pd_var 0) (pda_cons (pd_ty (n := "list") (by rfl) T.list' (by decide +kernel)) pda_nil))) (pd_isi (by rfl) T.isinstance' (pda_cons (pd_var 1) (pda_cons (pd_ty (n := "list") (by rfl) T.list' (by decide +kernel)) pda_nil)))) (pdw_or1 (pdt_not (pdt_tru (pd_isi (by rfl) T.isinstance' (pda_cons (pd_var 0) (pda_cons (pd_tup (pda_cons (pd_ty (n := "list") (by rfl) T.list' (by decide +kernel)) (pda_cons (pd_ty (n := "tuple") (by rfl) T.tuple' (by decide +kernel)) pda_nil))) pda_nil)))))))) (pds_one (pds_ret pd_bl)) pds_nil)
    (pds_one (pds_ret (pd_and (pd_eq hr (pd_len (by rfl) T.len' (pda_cons (pd_var 0) pda_nil)) (pd_len (by rfl) T.len' (pda_cons (pd_var 1) pda_nil))) (pd_one (pd_all rfl (by rfl) T.all' (pda_cons (pd_lc (own := [("_law_a", 2), ("_law_b", 3)]) rfl sc_same.nd (pdi_zip (by rfl) T.zip' (pda_cons (pd_var 0) (pda_cons (pd_var 1) pda_nil))) (blkOk_by (own := [("_law_a", 2), ("_law_b", 3)]) (N := N_same) (sc := defScope s_same) (by decide +kernel)) (fun _ _ _ _ _ => (pdc_tup rfl (pdcs_cons (pdc_name 2 sc_same.nd) (pdcs_cons (pdc_name 3 sc_same.nd) pdcs_nil)))) (fun _ _ _ _ _ => pdts_nil) (fun _ _ _ _ _ => (pd_call G_same hr (by rfl) F_same.g F_same.F.kp F_same.b (pda_cons (pd_var 2) (pda_cons (pd_var 3) pda_nil))))) pda_nil))))))) pds_nil)
    (pds_cons (pds_if (PDW.pt (pdw_or (pdt_ne hr (pd_isi (by rfl) T.isinstance' (pda_cons (pd_var 0) (pda_cons (pd_ty (n := "bool") (by rfl) T.bool' (by decide +kernel)) pda_nil))) (pd_isi (by rfl) T.isinstance' (pda_cons (pd_var 1) (pda_cons (pd_ty (n := "bool") (by rfl) T.bool' (by decide +kernel)) pda_nil)))) (pdw_or1 (pdt_ne hr (pd_isi (by rfl) T.isinstance' (pda_cons (pd_var 0) (pda_cons (pd_ty (n := "int") (by rfl) T.int' (by decide +kernel)) pda_nil))) (pd_isi (by rfl) T.isinstance' (pda_cons (pd_var 1) (pda_cons (pd_ty (n := "int") (by rfl) T.int' (by decide +kernel)) pda_nil))))))) (pds_one (pds_ret pd_bl)) pds_nil)
    (pds_one (pds_ret (pd_and (pd_eq hr (pd_isi (by rfl) T.isinstance' (pda_cons (pd_var 0) (pda_cons (pd_ty (n := "str") (by rfl) T.str' (by decide +kernel)) pda_nil))) (pd_isi (by rfl) T.isinstance' (pda_cons (pd_var 1) (pda_cons (pd_ty (n := "str") (by rfl) T.str' (by decide +kernel)) pda_nil)))) (pd_one (pd_eq hr (pd_var 0) (pd_var 1))))))))
theorem sc_after_write : FnScope N_after_write ["place"] (defScope s_after_write) := ⟨rfl, rfl, rfl, by decide +kernel, rfl, by decide +kernel, by decide +kernel⟩
theorem ok_after_write (T : Bl mg) {f_after_write : Addr} {fd_after_write : FuncData} (F_after_write : FunOn K mg "after_write" s_after_write ["place"] f_after_write fd_after_write) : FnOk P w K mg base CX0 1 f_after_write fd_after_write ["place"] (lift ⟨P, w, K⟩ sp_after_write) := by
  refine fn_ok (t := t_after_write) (k := 0) F_after_write.F sc_after_write fun cdv A outer s H E hr => ?_
  exact (pds_cons (pds_asg (pd_var 0) (pdg_tup rfl (pdgs_cons (pdg_name 1 sc_after_write.nd) (pdgs_cons (pdg_name 2 sc_after_write.nd) (pdgs_cons (pdg_name 3 sc_after_write.nd) (pdgs_cons (pdg_name 4 sc_after_write.nd) pdgs_nil))))))
    (pds_one (pds_ret (pd_tup (pda_cons (pd_var 1) (pda_cons (pd_var 2) (pda_cons (pd_var 3) (pda_cons (pd_add (pd_var 4) pd_int) pda_nil))))))))
theorem sc_after_read : FnScope N_after_read ["place", "answers"] (defScope s_after_read) := ⟨rfl, rfl, rfl, by decide +kernel, rfl, by decide +kernel, by decide +kernel⟩
theorem ok_after_read (T : Bl mg) {f_after_read : Addr} {fd_after_read : FuncData} (F_after_read : FunOn K mg "after_read" s_after_read ["place", "answers"] f_after_read fd_after_read) : FnOk P w K mg base CX0 1 f_after_read fd_after_read ["place", "answers"] (lift ⟨P, w, K⟩ sp_after_read) := by
  refine fn_ok (t := t_after_read) (k := 0) F_after_read.F sc_after_read fun cdv A outer s H E hr => ?_
  exact (pds_one (pds_ret (pd_tup (pda_cons (pd_ix (pd_var 0) pd_int) (pda_cons (pd_ix (pd_var 0) pd_int) (pda_cons (pd_add (pd_ix (pd_var 0) pd_int) (pd_tup (pda_cons (pd_tuple (by rfl) T.tuple' (pda_cons (pd_var 1) pda_nil)) pda_nil))) (pda_cons pd_int pda_nil)))))))
theorem sc_behind : FnScope N_behind ["_law_place", "_law_other"] (defScope s_behind) := ⟨rfl, rfl, rfl, by decide +kernel, rfl, by decide +kernel, by decide +kernel⟩
theorem ok_behind (T : Bl mg) {f_behind : Addr} {fd_behind : FuncData} (F_behind : FunOn K mg "_law_behind" s_behind ["_law_place", "_law_other"] f_behind fd_behind) : FnOk P w K mg base CX0 1 f_behind fd_behind ["_law_place", "_law_other"] (lift ⟨P, w, K⟩ sp_behind) := by
  refine fn_ok (t := t_behind) (k := 0) F_behind.F sc_behind fun cdv A outer s H E hr => ?_
  exact (pds_cons (pds_if (PDW.pt (pdw_or (pdt_ne hr (pd_ix (pd_var 0) pd_int) (pd_ix (pd_var 1) pd_int)) (pdw_or1 (pdt_ne hr (pd_ix (pd_var 0) pd_int) (pd_ix (pd_var 1) pd_int))))) (pds_one (pds_ret pd_bl)) pds_nil)
    (pds_cons (pds_if (pdt_eq hr (pd_len (by rfl) T.len' (pda_cons (pd_ix (pd_var 0) pd_int) pda_nil)) (pd_len (by rfl) T.len' (pda_cons (pd_ix (pd_var 1) pd_int) pda_nil))) (pds_one (pds_ret (pd_and (pd_eq hr (pd_ix (pd_var 0) pd_int) (pd_ix (pd_var 1) pd_int)) (pd_one (pd_gt (pd_ix (pd_var 0) pd_int) (pd_ix (pd_var 1) pd_int)))))) pds_nil)
    (pds_one (pds_ret (pd_and (pd_gt (pd_len (by rfl) T.len' (pda_cons (pd_ix (pd_var 0) pd_int) pda_nil)) (pd_len (by rfl) T.len' (pda_cons (pd_ix (pd_var 1) pd_int) pda_nil))) (pd_one (pd_eq hr (pd_slice (pd_ix (pd_var 0) pd_int) pdo_none (pdo_some (pd_len (by rfl) T.len' (pda_cons (pd_ix (pd_var 1) pd_int) pda_nil)))) (pd_ix (pd_var 1) pd_int))))))))
theorem sc_is_behind : FnScope N_is_behind ["place", "other"] (defScope s_is_behind) := ⟨rfl, rfl, rfl, by decide +kernel, rfl, by decide +kernel, by decide +kernel⟩
theorem ok_is_behind (T : Bl mg) {f_is_behind : Addr} {fd_is_behind : FuncData} (F_is_behind : FunOn K mg "is_behind" s_is_behind ["place", "other"] f_is_behind fd_is_behind) : FnOk P w K mg base CX0 1 f_is_behind fd_is_behind ["place", "other"] (lift ⟨P, w, K⟩ sp_is_behind) := by
  refine fn_ok (t := t_is_behind) (k := 0) F_is_behind.F sc_is_behind fun cdv A outer s H E hr => ?_
  exact (pds_cons (pds_if (pdt_ne hr (pd_slice (pd_var 0) pdo_none (pdo_some pd_int)) (pd_slice (pd_var 1) pdo_none (pdo_some pd_int))) (pds_one (pds_ret pd_bl)) pds_nil)
    (pds_cons (pds_par 2 3 rfl sc_is_behind.nd (pda_cons (pd_ix (pd_var 0) pd_int) (pda_cons (pd_ix (pd_var 1) pd_int) pda_nil)))
    (pds_cons (pds_if (pdt_eq hr (pd_var 2) (pd_var 3)) (pds_one (pds_ret (pd_gt (pd_ix (pd_var 0) pd_int) (pd_ix (pd_var 1) pd_int)))) pds_nil)
    (pds_one (pds_ret (pd_and (pd_gt (pd_len (by rfl) T.len' (pda_cons (pd_var 2) pda_nil)) (pd_len (by rfl) T.len' (pda_cons (pd_var 3) pda_nil))) (pd_one (pd_eq hr (pd_slice (pd_var 2) pdo_none (pdo_some (pd_len (by rfl) T.len' (pda_cons (pd_var 3) pda_nil)))) (pd_var 3)))))))))
theorem sc_mixed : FnScope N_mixed ["_law_feed", "_law_items"] (defScope s_mixed) := ⟨rfl, rfl, rfl, by decide +kernel, rfl, by decide +kernel, by decide +kernel⟩
theorem ok_mixed (T : Bl mg) {f_mixed : Addr} {fd_mixed : FuncData} (F_mixed : FunOn K mg "_law_mixed" s_mixed ["_law_feed", "_law_items"] f_mixed fd_mixed)
    {f_draw : Addr} {fd_draw : FuncData} (F_draw : FunOn K mg "_law_draw" s_draw ["_law_feed", "_law_many"] f_draw fd_draw) (G_draw : FnOk P w K mg base CX0 1 f_draw fd_draw ["_law_feed", "_law_many"] (lift ⟨P, w, K⟩ sp_draw)) : FnOk P w K mg base CX0 4 f_mixed fd_mixed ["_law_feed", "_law_items"] (lift ⟨P, w, K⟩ sp_mixed) := by
  refine fn_ok (t := t_mixed) (k := 3) F_mixed.F sc_mixed fun cdv A outer s H E hr => ?_
  exact (pds_cons (pds_par 2 3 rfl sc_mixed.nd (pda_cons (pd_listD rfl (by rfl) T.list' (pda_cons (pd_var 1) pda_nil)) (pda_cons (pd_lst pda_nil) pda_nil)))
    (pds_cons (pds_while PassesOwn.never (pdt_ne hr (pd_var 2) (pd_lst pda_nil)) (pds_one (pds_expr (pd_append (pd_var 3) (pda_cons (pd_popAt (pd_var 2) (pda_cons (pd_call G_draw (hr.mono (by decide)) (by rfl) F_draw.g F_draw.F.kp F_draw.b (pda_cons (pd_var 0) (pda_cons (pd_len (by rfl) T.len' (pda_cons (pd_var 2) pda_nil)) pda_nil))) pda_nil)) pda_nil)))))
    (pds_one (pds_ret (pd_var 3)))))
theorem sc_ordered : FnScope N_ordered ["_law_places"] (defScope s_ordered) := ⟨rfl, rfl, rfl, by decide +kernel, rfl, by decide +kernel, by decide +kernel⟩
theorem ok_ordered (T : Bl mg) {f_ordered : Addr} {fd_ordered : FuncData} (F_ordered : FunOn K mg "_law_ordered" s_ordered ["_law_places"] f_ordered fd_ordered) : FnOk P w K mg base CX0 1 f_ordered fd_ordered ["_law_places"] (lift ⟨P, w, K⟩ sp_ordered) := by
  refine fn_ok (t := t_ordered) (k := 0) F_ordered.F sc_ordered fun cdv A outer s H E hr => ?_
  exact (pds_cons (pds_set 1 sc_ordered.nd pd_dict0)
    (pds_cons (pds_for PassesOwn.never rfl (pdi_any (pd_var 0)) (pdg_name 2 sc_ordered.nd) (pds_cons (pds_setLc (own := [("_law_row", 4)]) 3 rfl sc_ordered.nd (sw_true rfl rfl rfl (by decide +kernel)) (pdi_any (pd_ix (pd_var 2) pd_int)) (blkOk_by (own := [("_law_row", 4)]) (N := N_ordered) (sc := defScope s_ordered) (by decide +kernel)) (fun _ _ _ _ _ => (pdc_name 4 sc_ordered.nd)) (fun _ _ _ _ _ => pdts_nil) (fun _ _ _ _ _ => (pd_tuple (by rfl) T.tuple' (pda_cons (pd_lc (own := [("_law_one", 5)]) rfl sc_ordered.nd (pdi_any (pd_var 4)) (blkOk2 (own := [("_law_one", 5)]) (N := N_ordered) (sc0 := defScope s_ordered) rfl (by decide +kernel)) (fun _ _ _ _ _ => (pdc_name 5 sc_ordered.nd)) (fun _ _ _ _ _ => pdts_nil) (fun _ _ _ _ _ => (pd_if (pdt_is (pd_var 5) pd_non) (pd_tup (pda_cons pd_int (pda_cons pd_str pda_nil))) (pd_tup (pda_cons pd_int (pda_cons (pd_var 5) pda_nil)))))) pda_nil))))
    (pds_one (pds_asg (pd_var 2) (pdg_subD hr (pd_var 1) (pd_tup (pda_cons (pd_ix (pd_var 2) pd_int) (pda_cons (pd_ix (pd_var 2) pd_int) (pda_cons (pd_tuple (by rfl) T.tuple' (pda_cons (pd_var 3) pda_nil)) (pda_cons (pd_ix (pd_var 2) pd_int) pda_nil))))))))))
    (pds_one (pds_ret (pd_lc (own := [("_law_one", 5)]) rfl sc_ordered.nd (pdi_any (pd_sorted hr (by rfl) T.sorted' (pda_cons (pd_listD rfl (by rfl) T.list' (pda_cons (pd_var 1) pda_nil)) pda_nil))) (blkOk_by (own := [("_law_one", 5)]) (N := N_ordered) (sc := defScope s_ordered) (by decide +kernel)) (fun _ _ _ _ _ => (pdc_name 5 sc_ordered.nd)) (fun _ _ _ _ _ => pdts_nil) (fun _ _ _ _ _ => (pd_getD hr (pd_var 1) (pd_var 5))))))))
theorem sc_rank : FnScope N_rank ["place"] (defScope s_rank) := ⟨rfl, rfl, rfl, by decide +kernel, rfl, by decide +kernel, by decide +kernel⟩
theorem ok_rank (T : Bl mg) {f_rank : Addr} {fd_rank : FuncData} (F_rank : FunOn K mg "rank" s_rank ["place"] f_rank fd_rank) : FnOk P w K mg base CX0 1 f_rank fd_rank ["place"] (lift ⟨P, w, K⟩ sp_rank) := by
  refine fn_ok (t := t_rank) (k := 0) F_rank.F sc_rank fun cdv A outer s H E hr => ?_
  exact (pds_cons (pds_setLc (own := [("row", 2)]) 1 rfl sc_rank.nd (sw_true rfl rfl rfl (by decide +kernel)) (pdi_any (pd_ix (pd_var 0) pd_int)) (blkOk_by (own := [("row", 2)]) (N := N_rank) (sc := defScope s_rank) (by decide +kernel)) (fun _ _ _ _ _ => (pdc_name 2 sc_rank.nd)) (fun _ _ _ _ _ => pdts_nil) (fun _ _ _ _ _ => (pd_tuple (by rfl) T.tuple' (pda_cons (pd_lc (own := [("answer", 3)]) rfl sc_rank.nd (pdi_any (pd_var 2)) (blkOk2 (own := [("answer", 3)]) (N := N_rank) (sc0 := defScope s_rank) rfl (by decide +kernel)) (fun _ _ _ _ _ => (pdc_name 3 sc_rank.nd)) (fun _ _ _ _ _ => pdts_nil) (fun _ _ _ _ _ => (pd_if (pdt_is (pd_var 3) pd_non) (pd_tup (pda_cons pd_int (pda_cons pd_str pda_nil))) (pd_tup (pda_cons pd_int (pda_cons (pd_var 3) pda_nil)))))) pda_nil))))
    (pds_one (pds_ret (pd_tup (pda_cons (pd_ix (pd_var 0) pd_int) (pda_cons (pd_ix (pd_var 0) pd_int) (pda_cons (pd_tuple (by rfl) T.tuple' (pda_cons (pd_var 1) pda_nil)) (pda_cons (pd_ix (pd_var 0) pd_int) pda_nil))))))))
theorem sc_in_order : FnScope N_in_order ["places"] (defScope s_in_order) := ⟨rfl, rfl, rfl, by decide +kernel, rfl, by decide +kernel, by decide +kernel⟩
theorem ok_in_order (T : Bl mg) {f_in_order : Addr} {fd_in_order : FuncData} (F_in_order : FunOn K mg "in_order" s_in_order ["places"] f_in_order fd_in_order)
    {f_rank : Addr} {fd_rank : FuncData} (F_rank : FunOn K mg "rank" s_rank ["place"] f_rank fd_rank) (G_rank : FnOk P w K mg base CX0 1 f_rank fd_rank ["place"] (lift ⟨P, w, K⟩ sp_rank)) : FnOk P w K mg base CX0 4 f_in_order fd_in_order ["places"] (lift ⟨P, w, K⟩ sp_in_order) := by
  refine fn_ok (t := t_in_order) (k := 3) F_in_order.F sc_in_order fun cdv A outer s H E hr => ?_
  exact (pds_one (pds_ret (pd_sortedK G_rank (hr.mono (by decide)) F_rank.b (by rfl) T.sorted' (by rfl) F_rank.g (pda_cons (pd_listD rfl (by rfl) T.list' (pda_cons (pd_dn (own := [("place", 1)]) hr rfl sc_in_order.nd (pdi_any (pd_var 0)) (blkOk_by (own := [("place", 1)]) (N := N_in_order) (sc := defScope s_in_order) (by decide +kernel)) (fun _ _ _ _ _ => (pdc_name 1 sc_in_order.nd)) (fun _ _ _ _ _ => pdts_nil) (fun _ _ _ _ _ => (pd_var 1)) (fun _ _ _ _ _ => pd_bl)) pda_nil)) pda_nil))))
theorem sc_law : FnScope N_law ["_law_script"] (defScope s_law) := ⟨rfl, rfl, rfl, by decide +kernel, rfl, by decide +kernel, by decide +kernel⟩
theorem ok_law (T : Bl mg) {f_law : Addr} {fd_law : FuncData} (F_law : FunOn K mg "law" s_law ["_law_script"] f_law fd_law)
    {f_feed_of : Addr} {fd_feed_of : FuncData} (F_feed_of : FunOn K mg "_law_feed_of" s_feed_of ["_law_script", "_law_k"] f_feed_of fd_feed_of) (G_feed_of : FnOk P w K mg base CX0 1 f_feed_of fd_feed_of ["_law_script", "_law_k"] (lift ⟨P, w, K⟩ sp_feed_of))
    {f_some_place : Addr} {fd_some_place : FuncData} (F_some_place : FunOn K mg "_law_some_place" s_some_place ["_law_feed"] f_some_place fd_some_place) (G_some_place : FnOk P w K mg base CX0 13 f_some_place fd_some_place ["_law_feed"] (lift ⟨P, w, K⟩ sp_some_place))
    {f_near : Addr} {fd_near : FuncData} (F_near : FunOn K mg "_law_near" s_near ["_law_feed", "_law_place"] f_near fd_near) (G_near : FnOk P w K mg base CX0 13 f_near fd_near ["_law_feed", "_law_place"] (lift ⟨P, w, K⟩ sp_near))
    {f_pick : Addr} {fd_pick : FuncData} (F_pick : FunOn K mg "_law_pick" s_pick ["_law_feed", "_law_items"] f_pick fd_pick) (G_pick : FnOk P w K mg base CX0 4 f_pick fd_pick ["_law_feed", "_law_items"] (lift ⟨P, w, K⟩ sp_pick))
    {f_draw : Addr} {fd_draw : FuncData} (F_draw : FunOn K mg "_law_draw" s_draw ["_law_feed", "_law_many"] f_draw fd_draw) (G_draw : FnOk P w K mg base CX0 1 f_draw fd_draw ["_law_feed", "_law_many"] (lift ⟨P, w, K⟩ sp_draw))
    {f_some_answer : Addr} {fd_some_answer : FuncData} (F_some_answer : FunOn K mg "_law_some_answer" s_some_answer ["_law_feed"] f_some_answer fd_some_answer) (G_some_answer : FnOk P w K mg base CX0 10 f_some_answer fd_some_answer ["_law_feed"] (lift ⟨P, w, K⟩ sp_some_answer))
    {f_same : Addr} {fd_same : FuncData} (F_same : FunOn K mg "_law_same" s_same ["_law_found", "_law_due"] f_same fd_same) (G_same : FnOk P w K mg base CX0 13 f_same fd_same ["_law_found", "_law_due"] (lift ⟨P, w, K⟩ (sp_same 12)))
    {f_after_write : Addr} {fd_after_write : FuncData} (F_after_write : FunOn K mg "after_write" s_after_write ["place"] f_after_write fd_after_write) (G_after_write : FnOk P w K mg base CX0 1 f_after_write fd_after_write ["place"] (lift ⟨P, w, K⟩ sp_after_write))
    {f_after_read : Addr} {fd_after_read : FuncData} (F_after_read : FunOn K mg "after_read" s_after_read ["place", "answers"] f_after_read fd_after_read) (G_after_read : FnOk P w K mg base CX0 1 f_after_read fd_after_read ["place", "answers"] (lift ⟨P, w, K⟩ sp_after_read))
    {f_behind : Addr} {fd_behind : FuncData} (F_behind : FunOn K mg "_law_behind" s_behind ["_law_place", "_law_other"] f_behind fd_behind) (G_behind : FnOk P w K mg base CX0 1 f_behind fd_behind ["_law_place", "_law_other"] (lift ⟨P, w, K⟩ sp_behind))
    {f_is_behind : Addr} {fd_is_behind : FuncData} (F_is_behind : FunOn K mg "is_behind" s_is_behind ["place", "other"] f_is_behind fd_is_behind) (G_is_behind : FnOk P w K mg base CX0 1 f_is_behind fd_is_behind ["place", "other"] (lift ⟨P, w, K⟩ sp_is_behind))
    {f_mixed : Addr} {fd_mixed : FuncData} (F_mixed : FunOn K mg "_law_mixed" s_mixed ["_law_feed", "_law_items"] f_mixed fd_mixed) (G_mixed : FnOk P w K mg base CX0 4 f_mixed fd_mixed ["_law_feed", "_law_items"] (lift ⟨P, w, K⟩ sp_mixed))
    {f_ordered : Addr} {fd_ordered : FuncData} (F_ordered : FunOn K mg "_law_ordered" s_ordered ["_law_places"] f_ordered fd_ordered) (G_ordered : FnOk P w K mg base CX0 1 f_ordered fd_ordered ["_law_places"] (lift ⟨P, w, K⟩ sp_ordered))
    {f_in_order : Addr} {fd_in_order : FuncData} (F_in_order : FunOn K mg "in_order" s_in_order ["places"] f_in_order fd_in_order) (G_in_order : FnOk P w K mg base CX0 4 f_in_order fd_in_order ["places"] (lift ⟨P, w, K⟩ sp_in_order)) : FnOk P w K mg base CX0 16 f_law fd_law ["_law_script"] (lift ⟨P, w, K⟩ sp_law) := by
  refine fn_ok (t := t_law) (k := 15) F_law.F sc_law fun cdv A outer s H E hr => ?_
  exact (pds_cons (pds_for PassesOwn.never rfl (pdi_rng1 (by rfl) T.range' (pda_cons (pd_max2 rfl (by rfl) T.max' (pda_cons pd_int (pda_cons (pd_min2 rfl (by rfl) T.min' (pda_cons pd_int (pda_cons (pd_len (by rfl) T.len' (pda_cons (pd_var 0) pda_nil)) pda_nil))) pda_nil))) pda_nil)) (pdg_name 1 sc_law.nd) (pds_cons (pds_set 2 sc_law.nd (pd_call G_feed_of (hr.mono (by decide)) (by rfl) F_feed_of.g F_feed_of.F.kp F_feed_of.b (pda_cons (pd_var 0) (pda_cons (pd_var 1) pda_nil))))
    (pds_cons (pds_set 3 sc_law.nd (pd_lst (pda_cons (pd_call G_some_place (hr.mono (by decide)) (by rfl) F_some_place.g F_some_place.F.kp F_some_place.b (pda_cons (pd_var 2) pda_nil)) pda_nil)))
    (pds_cons (pds_for PassesOwn.never rfl (pdi_rng1 (by rfl) T.range' (pda_cons pd_int pda_nil)) (pdg_name 4 sc_law.nd) (pds_one (pds_expr (pd_append (pd_var 3) (pda_cons (pd_call G_near (hr.mono (by decide)) (by rfl) F_near.g F_near.F.kp F_near.b (pda_cons (pd_var 2) (pda_cons (pd_call G_pick (hr.mono (by decide)) (by rfl) F_pick.g F_pick.F.kp F_pick.b (pda_cons (pd_var 2) (pda_cons (pd_var 3) pda_nil))) pda_nil))) pda_nil)))))
    (pds_cons (pds_for PassesOwn.never rfl (pdi_any (pd_var 3)) (pdg_name 5 sc_law.nd) (pds_cons (pds_asg (pd_var 5) (pdg_tup rfl (pdgs_cons (pdg_name 6 sc_law.nd) (pdgs_cons (pdg_name 7 sc_law.nd) (pdgs_cons (pdg_name 8 sc_law.nd) (pdgs_cons (pdg_name 9 sc_law.nd) pdgs_nil))))))
    (pds_cons (pds_set 10 sc_law.nd (pd_tuple (by rfl) T.tuple' (pda_cons (pd_lc (own := [("_law_part", 18)]) rfl sc_law.nd (pdi_rng1 (by rfl) T.range' (pda_cons (pd_add pd_int (pd_call G_draw (hr.mono (by decide)) (by rfl) F_draw.g F_draw.F.kp F_draw.b (pda_cons (pd_var 2) (pda_cons pd_int pda_nil)))) pda_nil)) (blkOk_by (own := [("_law_part", 18)]) (N := N_law) (sc := defScope s_law) (by decide +kernel)) (fun _ _ _ _ _ => (pdc_name 18 sc_law.nd)) (fun _ _ _ _ _ => pdts_nil) (fun _ _ _ _ _ => (pd_call G_some_answer (hr.mono (by decide)) (by rfl) F_some_answer.g F_some_answer.F.kp F_some_answer.b (pda_cons (pd_var 2) pda_nil)))) pda_nil)))
    (pds_cons (pds_if (pdt_not (pdt_tru (pd_call G_same (hr.mono (by decide)) (by rfl) F_same.g F_same.F.kp F_same.b (pda_cons (pd_call G_after_write (hr.mono (by decide)) (by rfl) F_after_write.g F_after_write.F.kp F_after_write.b (pda_cons (pd_var 5) pda_nil)) (pda_cons (pd_tup (pda_cons (pd_var 6) (pda_cons (pd_var 7) (pda_cons (pd_var 8) (pda_cons (pd_add (pd_var 9) pd_int) pda_nil))))) pda_nil))))) (pds_one (pds_ret pd_bl)) pds_nil)
    (pds_cons (pds_if (pdt_not (pdt_tru (pd_call G_same (hr.mono (by decide)) (by rfl) F_same.g F_same.F.kp F_same.b (pda_cons (pd_call G_after_read (hr.mono (by decide)) (by rfl) F_after_read.g F_after_read.F.kp F_after_read.b (pda_cons (pd_var 5) (pda_cons (pd_var 10) pda_nil))) (pda_cons (pd_tup (pda_cons (pd_var 6) (pda_cons (pd_var 7) (pda_cons (pd_add (pd_var 8) (pd_tup (pda_cons (pd_var 10) pda_nil))) (pda_cons pd_int pda_nil))))) pda_nil))))) (pds_one (pds_ret pd_bl)) pds_nil)
    (pds_one (pds_for PassesOwn.never rfl (pdi_any (pd_var 3)) (pdg_name 11 sc_law.nd) (pds_one (pds_if (pdt_not (pdt_tru (pd_call G_same (hr.mono (by decide)) (by rfl) F_same.g F_same.F.kp F_same.b (pda_cons (pd_call G_is_behind (hr.mono (by decide)) (by rfl) F_is_behind.g F_is_behind.F.kp F_is_behind.b (pda_cons (pd_var 5) (pda_cons (pd_var 11) pda_nil))) (pda_cons (pd_call G_behind (hr.mono (by decide)) (by rfl) F_behind.g F_behind.F.kp F_behind.b (pda_cons (pd_var 5) (pda_cons (pd_var 11) pda_nil))) pda_nil))))) (pds_one (pds_ret pd_bl)) pds_nil)))))))))
    (pds_cons (pds_set 12 sc_law.nd (pd_add (pd_var 3) (pd_lst (pda_cons (pd_call G_pick (hr.mono (by decide)) (by rfl) F_pick.g F_pick.F.kp F_pick.b (pda_cons (pd_var 2) (pda_cons (pd_var 3) pda_nil))) (pda_cons (pd_call G_pick (hr.mono (by decide)) (by rfl) F_pick.g F_pick.F.kp F_pick.b (pda_cons (pd_var 2) (pda_cons (pd_var 3) pda_nil))) pda_nil)))))
    (pds_cons (pds_set 12 sc_law.nd (pd_call G_mixed (hr.mono (by decide)) (by rfl) F_mixed.g F_mixed.F.kp F_mixed.b (pda_cons (pd_var 2) (pda_cons (pd_var 12) pda_nil))))
    (pds_cons (pds_set 13 sc_law.nd (pd_listD rfl (by rfl) T.list' (pda_cons (pd_var 12) pda_nil)))
    (pds_cons (pds_for PassesOwn.never rfl (pdi_any (pd_tup (pda_cons (pd_var 12) (pda_cons (pd_tuple (by rfl) T.tuple' (pda_cons (pd_var 12) pda_nil)) pda_nil)))) (pdg_name 14 sc_law.nd) (pds_one (pds_if (PDW.pt (pdw_or (pdt_not (pdt_tru (pd_call G_same (hr.mono (by decide)) (by rfl) F_same.g F_same.F.kp F_same.b (pda_cons (pd_call G_in_order (hr.mono (by decide)) (by rfl) F_in_order.g F_in_order.F.kp F_in_order.b (pda_cons (pd_var 14) pda_nil)) (pda_cons (pd_call G_ordered (hr.mono (by decide)) (by rfl) F_ordered.g F_ordered.F.kp F_ordered.b (pda_cons (pd_var 13) pda_nil)) pda_nil))))) (pdw_or1 (pdt_ne hr (pd_var 12) (pd_var 13))))) (pds_one (pds_ret pd_bl)) pds_nil)))
    (pds_cons (pds_set 15 sc_law.nd (pd_slice (pd_var 13) pdo_none (pdo_some (pd_call G_draw (hr.mono (by decide)) (by rfl) F_draw.g F_draw.F.kp F_draw.b (pda_cons (pd_var 2) (pda_cons pd_int pda_nil))))))
    (pds_cons (pds_par 16 17 rfl sc_law.nd (pda_cons (pd_listD rfl (by rfl) T.list' (pda_cons (pd_var 15) pda_nil)) (pda_cons (pd_call G_in_order (hr.mono (by decide)) (by rfl) F_in_order.g F_in_order.F.kp F_in_order.b (pda_cons (pd_var 15) pda_nil)) pda_nil)))
    (pds_cons (pds_expr (pd_append (pd_var 17) (pda_cons pd_str pda_nil)))
    (pds_one (pds_if (PDW.pt (pdw_or (pdt_ne hr (pd_var 15) (pd_var 16)) (pdw_or1 (pdt_ne hr (pd_call G_in_order (hr.mono (by decide)) (by rfl) F_in_order.g F_in_order.F.kp F_in_order.b (pda_cons (pd_var 15) pda_nil)) (pd_call G_ordered (hr.mono (by decide)) (by rfl) F_ordered.g F_ordered.F.kp F_ordered.b (pda_cons (pd_var 16) pda_nil)))))) (pds_one (pds_ret pd_bl)) pds_nil))))))))))))))
    (pds_one (pds_ret (pd_and (pd_eq hr (pd_call G_in_order (hr.mono (by decide)) (by rfl) F_in_order.g F_in_order.F.kp F_in_order.b (pda_cons (pd_lst pda_nil) pda_nil)) (pd_lst pda_nil)) (pd_one (pd_eq hr (pd_call G_in_order (hr.mono (by decide)) (by rfl) F_in_order.g F_in_order.F.kp F_in_order.b (pda_cons (pd_tup pda_nil) pda_nil)) (pd_lst pda_nil)))))))
end
end K03

namespace K03
open PySem PySem.Spec PyProof.Rows L2 FD
theorem all_mk {l : PySem.W.OpenLaw} {w : World} {K : PySem.W.Frag} {h : Heap} {mg : Str → Option Value} {fa : Addr} (X : K.In h) (G : h.Ns mainGlobals mg) (hfa : mg "law" = some (.ref fa))
    {f0 : Addr} {od0 an0 : Option Addr} {sl0 : Array (Option Value)} {oc0 kV0 dc0 pm0 cd0 ct0 : Value} (a0 : PySem.W.nsIn K mainGlobals "_law_feed_of" = some (some (.ref f0))) (l0 : K.lookup f0 = some ⟨oc0, od0, .func (PySem.W.fnOf "_law_feed_of" "_law_feed_of" (defArgs s_feed_of) (defBody s_feed_of) (defScope s_feed_of) .none kV0 dc0 pm0 an0 cd0 ct0), sl0⟩) (c0 : PySem.W.codeIn K cd0 "_law_feed_of" = true) (k0 : PySem.W.keepIn K (.ref f0) = true)
    {f1 : Addr} {od1 an1 : Option Addr} {sl1 : Array (Option Value)} {oc1 kV1 dc1 pm1 cd1 ct1 : Value} (a1 : PySem.W.nsIn K mainGlobals "_law_draw" = some (some (.ref f1))) (l1 : K.lookup f1 = some ⟨oc1, od1, .func (PySem.W.fnOf "_law_draw" "_law_draw" (defArgs s_draw) (defBody s_draw) (defScope s_draw) .none kV1 dc1 pm1 an1 cd1 ct1), sl1⟩) (c1 : PySem.W.codeIn K cd1 "_law_draw" = true) (k1 : PySem.W.keepIn K (.ref f1) = true)
    {f2 : Addr} {od2 an2 : Option Addr} {sl2 : Array (Option Value)} {oc2 kV2 dc2 pm2 cd2 ct2 : Value} (a2 : PySem.W.nsIn K mainGlobals "_law_pick" = some (some (.ref f2))) (l2 : K.lookup f2 = some ⟨oc2, od2, .func (PySem.W.fnOf "_law_pick" "_law_pick" (defArgs s_pick) (defBody s_pick) (defScope s_pick) .none kV2 dc2 pm2 an2 cd2 ct2), sl2⟩) (c2 : PySem.W.codeIn K cd2 "_law_pick" = true) (k2 : PySem.W.keepIn K (.ref f2) = true)
    {f3 : Addr} {od3 an3 : Option Addr} {sl3 : Array (Option Value)} {oc3 kV3 dc3 pm3 cd3 ct3 : Value} (a3 : PySem.W.nsIn K mainGlobals "_law_calls" = some (some (.ref f3))) (l3 : K.lookup f3 = some ⟨oc3, od3, .func (PySem.W.fnOf "_law_calls" "_law_calls" (defArgs s_calls) (defBody s_calls) (defScope s_calls) .none kV3 dc3 pm3 an3 cd3 ct3), sl3⟩) (c3 : PySem.W.codeIn K cd3 "_law_calls" = true) (k3 : PySem.W.keepIn K (.ref f3) = true)
    {f4 : Addr} {od4 an4 : Option Addr} {sl4 : Array (Option Value)} {oc4 kV4 dc4 pm4 cd4 ct4 : Value} (a4 : PySem.W.nsIn K mainGlobals "_law_some_text" = some (some (.ref f4))) (l4 : K.lookup f4 = some ⟨oc4, od4, .func (PySem.W.fnOf "_law_some_text" "_law_some_text" (defArgs s_some_text) (defBody s_some_text) (defScope s_some_text) .none kV4 dc4 pm4 an4 cd4 ct4), sl4⟩) (c4 : PySem.W.codeIn K cd4 "_law_some_text" = true) (k4 : PySem.W.keepIn K (.ref f4) = true)
    {f5 : Addr} {od5 an5 : Option Addr} {sl5 : Array (Option Value)} {oc5 kV5 dc5 pm5 cd5 ct5 : Value} (a5 : PySem.W.nsIn K mainGlobals "_law_some_answer" = some (some (.ref f5))) (l5 : K.lookup f5 = some ⟨oc5, od5, .func (PySem.W.fnOf "_law_some_answer" "_law_some_answer" (defArgs s_some_answer) (defBody s_some_answer) (defScope s_some_answer) .none kV5 dc5 pm5 an5 cd5 ct5), sl5⟩) (c5 : PySem.W.codeIn K cd5 "_law_some_answer" = true) (k5 : PySem.W.keepIn K (.ref f5) = true)
    {f6 : Addr} {od6 an6 : Option Addr} {sl6 : Array (Option Value)} {oc6 kV6 dc6 pm6 cd6 ct6 : Value} (a6 : PySem.W.nsIn K mainGlobals "_law_some_place" = some (some (.ref f6))) (l6 : K.lookup f6 = some ⟨oc6, od6, .func (PySem.W.fnOf "_law_some_place" "_law_some_place" (defArgs s_some_place) (defBody s_some_place) (defScope s_some_place) .none kV6 dc6 pm6 an6 cd6 ct6), sl6⟩) (c6 : PySem.W.codeIn K cd6 "_law_some_place" = true) (k6 : PySem.W.keepIn K (.ref f6) = true)
    {f7 : Addr} {od7 an7 : Option Addr} {sl7 : Array (Option Value)} {oc7 kV7 dc7 pm7 cd7 ct7 : Value} (a7 : PySem.W.nsIn K mainGlobals "_law_near" = some (some (.ref f7))) (l7 : K.lookup f7 = some ⟨oc7, od7, .func (PySem.W.fnOf "_law_near" "_law_near" (defArgs s_near) (defBody s_near) (defScope s_near) .none kV7 dc7 pm7 an7 cd7 ct7), sl7⟩) (c7 : PySem.W.codeIn K cd7 "_law_near" = true) (k7 : PySem.W.keepIn K (.ref f7) = true)
    {f8 : Addr} {od8 an8 : Option Addr} {sl8 : Array (Option Value)} {oc8 kV8 dc8 pm8 cd8 ct8 : Value} (a8 : PySem.W.nsIn K mainGlobals "_law_same" = some (some (.ref f8))) (l8 : K.lookup f8 = some ⟨oc8, od8, .func (PySem.W.fnOf "_law_same" "_law_same" (defArgs s_same) (defBody s_same) (defScope s_same) .none kV8 dc8 pm8 an8 cd8 ct8), sl8⟩) (c8 : PySem.W.codeIn K cd8 "_law_same" = true) (k8 : PySem.W.keepIn K (.ref f8) = true)
    {f9 : Addr} {od9 an9 : Option Addr} {sl9 : Array (Option Value)} {oc9 kV9 dc9 pm9 cd9 ct9 : Value} (a9 : PySem.W.nsIn K mainGlobals "after_write" = some (some (.ref f9))) (l9 : K.lookup f9 = some ⟨oc9, od9, .func (PySem.W.fnOf "after_write" "after_write" (defArgs s_after_write) (defBody s_after_write) (defScope s_after_write) .none kV9 dc9 pm9 an9 cd9 ct9), sl9⟩) (c9 : PySem.W.codeIn K cd9 "after_write" = true) (k9 : PySem.W.keepIn K (.ref f9) = true)
    {f10 : Addr} {od10 an10 : Option Addr} {sl10 : Array (Option Value)} {oc10 kV10 dc10 pm10 cd10 ct10 : Value} (a10 : PySem.W.nsIn K mainGlobals "after_read" = some (some (.ref f10))) (l10 : K.lookup f10 = some ⟨oc10, od10, .func (PySem.W.fnOf "after_read" "after_read" (defArgs s_after_read) (defBody s_after_read) (defScope s_after_read) .none kV10 dc10 pm10 an10 cd10 ct10), sl10⟩) (c10 : PySem.W.codeIn K cd10 "after_read" = true) (k10 : PySem.W.keepIn K (.ref f10) = true)
    {f11 : Addr} {od11 an11 : Option Addr} {sl11 : Array (Option Value)} {oc11 kV11 dc11 pm11 cd11 ct11 : Value} (a11 : PySem.W.nsIn K mainGlobals "_law_behind" = some (some (.ref f11))) (l11 : K.lookup f11 = some ⟨oc11, od11, .func (PySem.W.fnOf "_law_behind" "_law_behind" (defArgs s_behind) (defBody s_behind) (defScope s_behind) .none kV11 dc11 pm11 an11 cd11 ct11), sl11⟩) (c11 : PySem.W.codeIn K cd11 "_law_behind" = true) (k11 : PySem.W.keepIn K (.ref f11) = true)
    {f12 : Addr} {od12 an12 : Option Addr} {sl12 : Array (Option Value)} {oc12 kV12 dc12 pm12 cd12 ct12 : Value} (a12 : PySem.W.nsIn K mainGlobals "is_behind" = some (some (.ref f12))) (l12 : K.lookup f12 = some ⟨oc12, od12, .func (PySem.W.fnOf "is_behind" "is_behind" (defArgs s_is_behind) (defBody s_is_behind) (defScope s_is_behind) .none kV12 dc12 pm12 an12 cd12 ct12), sl12⟩) (c12 : PySem.W.codeIn K cd12 "is_behind" = true) (k12 : PySem.W.keepIn K (.ref f12) = true)
    {f13 : Addr} {od13 an13 : Option Addr} {sl13 : Array (Option Value)} {oc13 kV13 dc13 pm13 cd13 ct13 : Value} (a13 : PySem.W.nsIn K mainGlobals "_law_mixed" = some (some (.ref f13))) (l13 : K.lookup f13 = some ⟨oc13, od13, .func (PySem.W.fnOf "_law_mixed" "_law_mixed" (defArgs s_mixed) (defBody s_mixed) (defScope s_mixed) .none kV13 dc13 pm13 an13 cd13 ct13), sl13⟩) (c13 : PySem.W.codeIn K cd13 "_law_mixed" = true) (k13 : PySem.W.keepIn K (.ref f13) = true)
    {f14 : Addr} {od14 an14 : Option Addr} {sl14 : Array (Option Value)} {oc14 kV14 dc14 pm14 cd14 ct14 : Value} (a14 : PySem.W.nsIn K mainGlobals "_law_ordered" = some (some (.ref f14))) (l14 : K.lookup f14 = some ⟨oc14, od14, .func (PySem.W.fnOf "_law_ordered" "_law_ordered" (defArgs s_ordered) (defBody s_ordered) (defScope s_ordered) .none kV14 dc14 pm14 an14 cd14 ct14), sl14⟩) (c14 : PySem.W.codeIn K cd14 "_law_ordered" = true) (k14 : PySem.W.keepIn K (.ref f14) = true)
    {f15 : Addr} {od15 an15 : Option Addr} {sl15 : Array (Option Value)} {oc15 kV15 dc15 pm15 cd15 ct15 : Value} (a15 : PySem.W.nsIn K mainGlobals "rank" = some (some (.ref f15))) (l15 : K.lookup f15 = some ⟨oc15, od15, .func (PySem.W.fnOf "rank" "rank" (defArgs s_rank) (defBody s_rank) (defScope s_rank) .none kV15 dc15 pm15 an15 cd15 ct15), sl15⟩) (c15 : PySem.W.codeIn K cd15 "rank" = true) (k15 : PySem.W.keepIn K (.ref f15) = true)
    {f16 : Addr} {od16 an16 : Option Addr} {sl16 : Array (Option Value)} {oc16 kV16 dc16 pm16 cd16 ct16 : Value} (a16 : PySem.W.nsIn K mainGlobals "in_order" = some (some (.ref f16))) (l16 : K.lookup f16 = some ⟨oc16, od16, .func (PySem.W.fnOf "in_order" "in_order" (defArgs s_in_order) (defBody s_in_order) (defScope s_in_order) .none kV16 dc16 pm16 an16 cd16 ct16), sl16⟩) (c16 : PySem.W.codeIn K cd16 "in_order" = true) (k16 : PySem.W.keepIn K (.ref f16) = true)
    {f17 : Addr} {od17 an17 : Option Addr} {sl17 : Array (Option Value)} {oc17 kV17 dc17 pm17 cd17 ct17 : Value} (a17 : PySem.W.nsIn K mainGlobals "law" = some (some (.ref f17))) (l17 : K.lookup f17 = some ⟨oc17, od17, .func (PySem.W.fnOf "law" "law" (defArgs s_law) (defBody s_law) (defScope s_law) .none kV17 dc17 pm17 an17 cd17 ct17), sl17⟩) (c17 : PySem.W.codeIn K cd17 "law" = true) (k17 : PySem.W.keepIn K (.ref f17) = true)
    (z0 : PySem.W.nsIn K mainGlobals "all" = some none)
    (z1 : PySem.W.nsIn K mainGlobals "bool" = some none)
    (z2 : PySem.W.nsIn K mainGlobals "int" = some none)
    (z3 : PySem.W.nsIn K mainGlobals "isinstance" = some none)
    (z4 : PySem.W.nsIn K mainGlobals "len" = some none)
    (z5 : PySem.W.nsIn K mainGlobals "list" = some none)
    (z6 : PySem.W.nsIn K mainGlobals "max" = some none)
    (z7 : PySem.W.nsIn K mainGlobals "min" = some none)
    (z8 : PySem.W.nsIn K mainGlobals "range" = some none)
    (z9 : PySem.W.nsIn K mainGlobals "sorted" = some none)
    (z10 : PySem.W.nsIn K mainGlobals "str" = some none)
    (z11 : PySem.W.nsIn K mainGlobals "tuple" = some none)
    (z12 : PySem.W.nsIn K mainGlobals "zip" = some none) :
    ∃ fd : FuncData, (∀ (s : Shared) (v : Value), BindsTo s fd ⟨[v], []⟩ [("_law_script", v)]) ∧ ∀ base : Heap, K.In base → base.Ns mainGlobals mg → FnOk l.prog w K mg base CX0 16 fa fd ["_law_script"] (lift ⟨l.prog, w, K⟩ sp_law) := by
  have e := hfa.symm.trans (PySem.W.mg_of X G a17)
  cases e
  have T : Bl mg := ⟨PySem.W.mg_none_of X G z0, PySem.W.mg_none_of X G z1, PySem.W.mg_none_of X G z2, PySem.W.mg_none_of X G z3, PySem.W.mg_none_of X G z4, PySem.W.mg_none_of X G z5, PySem.W.mg_none_of X G z6, PySem.W.mg_none_of X G z7, PySem.W.mg_none_of X G z8, PySem.W.mg_none_of X G z9, PySem.W.mg_none_of X G z10, PySem.W.mg_none_of X G z11, PySem.W.mg_none_of X G z12⟩
  have E0 := fun_mk (st := s_feed_of) l0 c0 k0
  have F_feed_of : FunOn K mg "_law_feed_of" s_feed_of ["_law_script", "_law_k"] f0 _ := ⟨E0, PySem.W.mg_of X G a0, E0.binds (ps := ["_law_script", "_law_k"]) fun _ _ _ _ _ _ us hl => match us, hl with | [_, _], _ => rfl⟩
  have E1 := fun_mk (st := s_draw) l1 c1 k1
  have F_draw : FunOn K mg "_law_draw" s_draw ["_law_feed", "_law_many"] f1 _ := ⟨E1, PySem.W.mg_of X G a1, E1.binds (ps := ["_law_feed", "_law_many"]) fun _ _ _ _ _ _ us hl => match us, hl with | [_, _], _ => rfl⟩
  have E2 := fun_mk (st := s_pick) l2 c2 k2
  have F_pick : FunOn K mg "_law_pick" s_pick ["_law_feed", "_law_items"] f2 _ := ⟨E2, PySem.W.mg_of X G a2, E2.binds (ps := ["_law_feed", "_law_items"]) fun _ _ _ _ _ _ us hl => match us, hl with | [_, _], _ => rfl⟩
  have E3 := fun_mk (st := s_calls) l3 c3 k3
  have F_calls : FunOn K mg "_law_calls" s_calls [] f3 _ := ⟨E3, PySem.W.mg_of X G a3, E3.binds (ps := []) fun _ _ _ _ _ _ us hl => match us, hl with | [], _ => rfl⟩
  have E4 := fun_mk (st := s_some_text) l4 c4 k4
  have F_some_text : FunOn K mg "_law_some_text" s_some_text ["_law_feed"] f4 _ := ⟨E4, PySem.W.mg_of X G a4, E4.binds (ps := ["_law_feed"]) fun _ _ _ _ _ _ us hl => match us, hl with | [_], _ => rfl⟩
  have E5 := fun_mk (st := s_some_answer) l5 c5 k5
  have F_some_answer : FunOn K mg "_law_some_answer" s_some_answer ["_law_feed"] f5 _ := ⟨E5, PySem.W.mg_of X G a5, E5.binds (ps := ["_law_feed"]) fun _ _ _ _ _ _ us hl => match us, hl with | [_], _ => rfl⟩
  have E6 := fun_mk (st := s_some_place) l6 c6 k6
  have F_some_place : FunOn K mg "_law_some_place" s_some_place ["_law_feed"] f6 _ := ⟨E6, PySem.W.mg_of X G a6, E6.binds (ps := ["_law_feed"]) fun _ _ _ _ _ _ us hl => match us, hl with | [_], _ => rfl⟩
  have E7 := fun_mk (st := s_near) l7 c7 k7
  have F_near : FunOn K mg "_law_near" s_near ["_law_feed", "_law_place"] f7 _ := ⟨E7, PySem.W.mg_of X G a7, E7.binds (ps := ["_law_feed", "_law_place"]) fun _ _ _ _ _ _ us hl => match us, hl with | [_, _], _ => rfl⟩
  have E8 := fun_mk (st := s_same) l8 c8 k8
  have F_same : FunOn K mg "_law_same" s_same ["_law_found", "_law_due"] f8 _ := ⟨E8, PySem.W.mg_of X G a8, E8.binds (ps := ["_law_found", "_law_due"]) fun _ _ _ _ _ _ us hl => match us, hl with | [_, _], _ => rfl⟩
  have E9 := fun_mk (st := s_after_write) l9 c9 k9
  have F_after_write : FunOn K mg "after_write" s_after_write ["place"] f9 _ := ⟨E9, PySem.W.mg_of X G a9, E9.binds (ps := ["place"]) fun _ _ _ _ _ _ us hl => match us, hl with | [_], _ => rfl⟩
  have E10 := fun_mk (st := s_after_read) l10 c10 k10
  have F_after_read : FunOn K mg "after_read" s_after_read ["place", "answers"] f10 _ := ⟨E10, PySem.W.mg_of X G a10, E10.binds (ps := ["place", "answers"]) fun _ _ _ _ _ _ us hl => match us, hl with | [_, _], _ => rfl⟩
  have E11 := fun_mk (st := s_behind) l11 c11 k11
  have F_behind : FunOn K mg "_law_behind" s_behind ["_law_place", "_law_other"] f11 _ := ⟨E11, PySem.W.mg_of X G a11, E11.binds (ps := ["_law_place", "_law_other"]) fun _ _ _ _ _ _ us hl => match us, hl with | [_, _], _ => rfl⟩
  have E12 := fun_mk (st := s_is_behind) l12 c12 k12
  have F_is_behind : FunOn K mg "is_behind" s_is_behind ["place", "other"] f12 _ := ⟨E12, PySem.W.mg_of X G a12, E12.binds (ps := ["place", "other"]) fun _ _ _ _ _ _ us hl => match us, hl with | [_, _], _ => rfl⟩
  have E13 := fun_mk (st := s_mixed) l13 c13 k13
  have F_mixed : FunOn K mg "_law_mixed" s_mixed ["_law_feed", "_law_items"] f13 _ := ⟨E13, PySem.W.mg_of X G a13, E13.binds (ps := ["_law_feed", "_law_items"]) fun _ _ _ _ _ _ us hl => match us, hl with | [_, _], _ => rfl⟩
  have E14 := fun_mk (st := s_ordered) l14 c14 k14
  have F_ordered : FunOn K mg "_law_ordered" s_ordered ["_law_places"] f14 _ := ⟨E14, PySem.W.mg_of X G a14, E14.binds (ps := ["_law_places"]) fun _ _ _ _ _ _ us hl => match us, hl with | [_], _ => rfl⟩
  have E15 := fun_mk (st := s_rank) l15 c15 k15
  have F_rank : FunOn K mg "rank" s_rank ["place"] f15 _ := ⟨E15, PySem.W.mg_of X G a15, E15.binds (ps := ["place"]) fun _ _ _ _ _ _ us hl => match us, hl with | [_], _ => rfl⟩
  have E16 := fun_mk (st := s_in_order) l16 c16 k16
  have F_in_order : FunOn K mg "in_order" s_in_order ["places"] f16 _ := ⟨E16, PySem.W.mg_of X G a16, E16.binds (ps := ["places"]) fun _ _ _ _ _ _ us hl => match us, hl with | [_], _ => rfl⟩
  have E17 := fun_mk (st := s_law) l17 c17 k17
  have F_law : FunOn K mg "law" s_law ["_law_script"] fa _ := ⟨E17, PySem.W.mg_of X G a17, E17.binds (ps := ["_law_script"]) fun _ _ _ _ _ _ us hl => match us, hl with | [_], _ => rfl⟩
  refine ⟨PySem.W.fnOf "law" "law" (defArgs s_law) (defBody s_law) (defScope s_law) .none kV17 dc17 pm17 an17 cd17 ct17, fun s v => .of_eq rfl, fun base _ _ => ?_⟩
  have G_feed_of := ok_feed_of (P := l.prog) (w := w) (base := base) T F_feed_of
  have G_draw := ok_draw (P := l.prog) (w := w) (base := base) T F_draw
  have G_pick := ok_pick (P := l.prog) (w := w) (base := base) T F_pick F_draw G_draw
  have G_calls := ok_calls (P := l.prog) (w := w) (base := base) T F_calls
  have G_some_text := ok_some_text (P := l.prog) (w := w) (base := base) T F_some_text F_draw G_draw F_pick G_pick F_calls G_calls
  have G_some_answer := ok_some_answer (P := l.prog) (w := w) (base := base) T F_some_answer F_draw G_draw F_some_text G_some_text
  have G_some_place := ok_some_place (P := l.prog) (w := w) (base := base) T F_some_place F_draw G_draw F_some_answer G_some_answer F_some_text G_some_text
  have G_near := ok_near (P := l.prog) (w := w) (base := base) T F_near F_draw G_draw F_some_answer G_some_answer F_some_text G_some_text F_pick G_pick
  have G_same := ok_same (P := l.prog) (w := w) (base := base) T F_same 12
  have G_after_write := ok_after_write (P := l.prog) (w := w) (base := base) T F_after_write
  have G_after_read := ok_after_read (P := l.prog) (w := w) (base := base) T F_after_read
  have G_behind := ok_behind (P := l.prog) (w := w) (base := base) T F_behind
  have G_is_behind := ok_is_behind (P := l.prog) (w := w) (base := base) T F_is_behind
  have G_mixed := ok_mixed (P := l.prog) (w := w) (base := base) T F_mixed F_draw G_draw
  have G_ordered := ok_ordered (P := l.prog) (w := w) (base := base) T F_ordered
  have G_rank := ok_rank (P := l.prog) (w := w) (base := base) T F_rank
  have G_in_order := ok_in_order (P := l.prog) (w := w) (base := base) T F_in_order F_rank G_rank
  exact ok_law (P := l.prog) (w := w) (base := base) T F_law F_feed_of G_feed_of F_some_place G_some_place F_near G_near F_pick G_pick F_draw G_draw F_some_answer G_some_answer F_same G_same F_after_write G_after_write F_after_read G_after_read F_behind G_behind F_is_behind G_is_behind F_mixed G_mixed F_ordered G_ordered F_in_order G_in_order
theorem law_in {P : Program} {w : World} {K : PySem.W.Frag} {H : Hp} {a : Addr} {ns : List Int} {E : XK} (o : Only H) (hS : SqL K H a (ns.map V.int)) : lift ⟨P, w, K⟩ sp_law [.ref a] H (fun v _ => v = .bl true) E := by
  have hF : FzL K H a (ns.map V.int) := by
    rcases hS with (h | ⟨ob, h⟩) | h
    · rcases o a with q | ⟨ob, xs, q⟩
      · rw [q] at h; cases h
      · rw [q] at h; cases h
    · exact .inl ⟨ob, h⟩
    · exact .inr h
  refine ⟨[.fl (ns.map D.int)], fun _ => none, fun d _ => d = .bl true, RpL.cons (rp_fl.mpr ⟨a, _, rfl, hF, RpL.ints.mpr rfl⟩) RpL.nil, (fun _ _ h => nomatch h), law_spec fun _ => rfl, ?_⟩
  intro d v G' H' r _ _ e
  subst e
  exact rp_bl.mp r
theorem walk {l : PySem.W.OpenLaw} {q : Program} {loose : List Str} {XP : (Str → Option Value) → Heap → Prop} {YP : World → Heap → Prop} {d : DefRec} {K : Params → PySem.W.Frag} (hn : l.most = some 63) (hdf : d.params.defaults = [])
    (hY : ∀ (w : World) (h : Heap), YP w h → (K w.params).In h)
    (F : ∀ (w : World) (mg : Str → Option Value) (fa : Addr) (h : Heap), (K w.params).In h → h.Ns mainGlobals mg → mg d.name = some (.ref fa) →
      ∃ fd : FuncData, (∀ (s : Shared) (u : Value), BindsTo s fd ⟨[u], []⟩ [("_law_script", u)]) ∧ ∀ base : Heap, (K w.params).In base → base.Ns mainGlobals mg → FnOk l.prog w (K w.params) mg base CX0 16 fa fd ["_law_script"] (lift ⟨l.prog, w, K w.params⟩ sp_law)) :
    PySem.W.WalkO q loose XP YP l.row.toRowW d [] (fun f vs => PySem.call f vs) :=
  L2.walk_of (n := 63) (k := 16) (x := "_law_script") (CX := fun _ => CX0) (sp := fun w => lift ⟨l.prog, w, K w.params⟩ sp_law) hn (by decide) hdf ⟨rfl, by decide, by decide⟩ hY F (fun w H a ns _ o hS => law_in o hS) fun _ _ _ _ _ z => z
end K03
open PySem PySem.W PyProof.Rows
set_option maxRecDepth 100000 in
set_option maxHeartbeats 0 in
theorem PySem.Challenge.cw_farenough_k03_places_after_and_in_order_holds : PySem.Challenge.rw_farenough_k03_places_after_and_in_order.Holds := by
  w_on; o_law; k_head; (case hw => w_witness2)
  k_fill
  refine K03.walk (l := PySem.Challenge.rw_farenough_k03_places_after_and_in_order) rfl rfl (fun w h Y => PySem.W.kIn_of Y) ?F
  case F =>
    intro w mg fa h KX G hmg
    refine' K03.all_mk KX G hmg ?a0 ?l0 ?c0 ?k0 ?a1 ?l1 ?c1 ?k1 ?a2 ?l2 ?c2 ?k2 ?a3 ?l3 ?c3 ?k3 ?a4 ?l4 ?c4 ?k4 ?a5 ?l5 ?c5 ?k5 ?a6 ?l6 ?c6 ?k6 ?a7 ?l7 ?c7 ?k7 ?a8 ?l8 ?c8 ?k8 ?a9 ?l9 ?c9 ?k9 ?a10 ?l10 ?c10 ?k10 ?a11 ?l11 ?c11 ?k11 ?a12 ?l12 ?c12 ?k12 ?a13 ?l13 ?c13 ?k13 ?a14 ?l14 ?c14 ?k14 ?a15 ?l15 ?c15 ?k15 ?a16 ?l16 ?c16 ?k16 ?a17 ?l17 ?c17 ?k17 ?z0 ?z1 ?z2 ?z3 ?z4 ?z5 ?z6 ?z7 ?z8 ?z9 ?z10 ?z11 ?z12
    (case a0 => k_is); (case l0 => k_is); (case c0 => k_is); (case k0 => k_is); (case a1 => k_is); (case l1 => k_is)
    (case c1 => k_is); (case k1 => k_is); (case a2 => k_is); (case l2 => k_is); (case c2 => k_is); (case k2 => k_is)
    (case a3 => k_is); (case l3 => k_is); (case c3 => k_is); (case k3 => k_is); (case a4 => k_is); (case l4 => k_is)
    (case c4 => k_is); (case k4 => k_is); (case a5 => k_is); (case l5 => k_is); (case c5 => k_is); (case k5 => k_is)
    (case a6 => k_is); (case l6 => k_is); (case c6 => k_is); (case k6 => k_is); (case a7 => k_is); (case l7 => k_is)
    (case c7 => k_is); (case k7 => k_is); (case a8 => k_is); (case l8 => k_is); (case c8 => k_is); (case k8 => k_is)
    (case a9 => k_is); (case l9 => k_is); (case c9 => k_is); (case k9 => k_is); (case a10 => k_is); (case l10 => k_is)
    (case c10 => k_is); (case k10 => k_is); (case a11 => k_is); (case l11 => k_is); (case c11 => k_is); (case k11 => k_is)
    (case a12 => k_is); (case l12 => k_is); (case c12 => k_is); (case k12 => k_is); (case a13 => k_is); (case l13 => k_is)
    (case c13 => k_is); (case k13 => k_is); (case a14 => k_is); (case l14 => k_is); (case c14 => k_is); (case k14 => k_is)
    (case a15 => k_is); (case l15 => k_is); (case c15 => k_is); (case k15 => k_is); (case a16 => k_is); (case l16 => k_is)
    (case c16 => k_is); (case k16 => k_is); (case a17 => k_is); (case l17 => k_is); (case c17 => k_is); (case k17 => k_is)
    (case z0 => k_is); (case z1 => k_is); (case z2 => k_is); (case z3 => k_is); (case z4 => k_is); (case z5 => k_is)
    (case z6 => k_is); (case z7 => k_is); (case z8 => k_is); (case z9 => k_is); (case z10 => k_is); (case z11 => k_is)
    (case z12 => k_is)

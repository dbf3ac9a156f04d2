import PyProof.Rows.All
import Wide.All
import OpenK.AllK
import Wide.FinOn
import HandS.ForMost
import HandS.ForExc
import HandS.More
import HandS.Lambda
import HandS.TupAny
import HandS.Deep
import KE.KeyNested
import KE.KDictDisplayH
import KE.DataCmp
import KE.SortData
import KE.DataEq
import KE.DatumIndex
import KE.DatumOrd
import KE.DataFind
import HandS.DictComp
import HandS.SetKeys
import HandS.WordsExc
import KE.GoesEnum
import HandS.Zip
import HandS.IsInst
import HandS.TupLen
import KE.DataMinMax
import HandS.Conv
import HandS.HeadEnd
import PyProof.ReprRoads
import KE.KIndexOf
import HandS.HeadHook1
import HandS.Head0
import HandS.Head1
import HandS.Head2
import PySem.Challenge.RW_anyarrive_k61_whole_monitors
set_option Elab.async false
set_option autoImplicit false
set_option linter.all false
set_option maxRecDepth 100000
set_option maxHeartbeats 4000000
/-! DA: plain data D, the store DM, how they stand in HandS's V and Hp; readings lifted. -/
namespace Dt
open PySem PySem.Spec PyProof.Rows L2 LamX

/-- the frame of names, the program, the world -/
structure Bd where
  K : PySem.W.Frag
  P : Program
  w : World
instance : CoeOut Bd PySem.W.Frag := ⟨Bd.K⟩
abbrev _root_.L2.Cx.B (X : Cx) : Bd := ⟨X.K, X.prog, X.w⟩

/-- tup: a tuple of the text's own making; pair: one that an iterator hands out; scr: a list that is read alone (the script) -/
inductive D where
  | non | bl (b : Bool) | int (i : Int) | str (x : Str) | tup (xs : List D) | pair (xs : List D) | scr (xs : List D) | ref (a : Addr)
mutual
def nkD : NestedKey → D
  | .none => .non
  | .num i => .int i
  | .text x => .str x
  | .tup ks => .tup (nkDs ks)
def nkDs : List NestedKey → List D
  | [] => []
  | k :: ks => nkD k :: nkDs ks
end
inductive DO where
  | lst (xs : List D)
  | dK (kvs : List (Key × D))
  | dT (kvs : List (NestedKey × D))
  | ins (C : Addr) (fs : List (Str × D))
abbrev DM := Addr → Option DO
def put (M : DM) (a : Addr) (o : DO) : DM := fun b => if b = a then some o else M b
theorem put_same {M : DM} {a : Addr} {o : DO} : put M a o a = some o := by unfold put; rw [if_pos rfl]
theorem put_ne {M : DM} {a b : Addr} {o : DO} (h : b ≠ a) : put M a o b = M b := by unfold put; rw [if_neg h]
theorem put_put {M : DM} {a : Addr} {o u : DO} : put (put M a o) a u = put M a u := by
  funext b; unfold put; split <;> rfl

/-- a list that nobody writes: frozen, or an object of the module -/
def SqZ (K : PySem.W.Frag) (H : Hp) (a : Addr) (xs : List V) : Prop :=
  (∃ o, H a = some (.frz o (.lst xs))) ∨
    ∃ (o : Obj) (its : Array Value) (n : Nat), K.lookup a = some o ∧ o.cls = .type "list" ∧ o.dict = none ∧ o.data = .seq its n ∧ its.size ≤ sizeLine ∧ Vals xs its.toList
theorem SqZ.l {K : PySem.W.Frag} {H : Hp} {a : Addr} {xs : List V} (h : SqZ K H a xs) : SqL K H a xs := by
  rcases h with h | h
  · exact .inl (.inr h)
  · exact .inr h
mutual
inductive DV (K : Bd) (H : Hp) : D → V → Prop
  | non : DV K H .non .non
  | bl {b : Bool} : DV K H (.bl b) (.bl b)
  | int {i : Int} : DV K H (.int i) (.int i)
  | str {x : Str} : DV K H (.str x) (.str x)
  | ref {a : Addr} : DV K H (.ref a) (.ref a)
  | tup {a : Addr} {o : Obj} {ds : List D} {vs : List V} : H a = some (.frz o (.tup vs)) → o.dict = none → DVs K H ds vs → DV K H (.tup ds) (.ref a)
  | pair {a : Addr} {ds : List D} {vs : List V} : H a = some (.tup vs) → DVs K H ds vs → DV K H (.pair ds) (.ref a)
  | scr {a : Addr} {ds : List D} {vs : List V} : SqZ K H a vs → DVs K H ds vs → DV K H (.scr ds) (.ref a)
inductive DVs (K : Bd) (H : Hp) : List D → List V → Prop
  | nil : DVs K H [] []
  | cons {d : D} {v : V} {ds : List D} {vs : List V} : DV K H d v → DVs K H ds vs → DVs K H (d :: ds) (v :: vs)
end

/-- a dict with tuples for keys: the keys, where they stand, the values -/
def tdO (P : Program) (w : World) (a : Addr) (xs : List (NestedKey × Addr × Value)) : HO := .ext fun h => xs.length ≤ sizeLine ∧ (a == sysModules) = false ∧
  ∃ o es ep, h.get? a = some o ∧ o.ExactDict ∧ o.data = .dict es ep ∧ es.toList = xs.map (entryOfKey (nestedKind P w)) ∧ (xs.map (·.1)).Nodup
/-- how they stand in the heap -/
inductive TDR (K : Bd) (H : Hp) : List (NestedKey × D) → List (NestedKey × Addr × Value) → Prop
  | nil : TDR K H [] []
  | cons {k : NestedKey} {d : D} {q : Addr} {v : V} {u : Value} {kvs : List (NestedKey × D)} {xs : List (NestedKey × Addr × Value)} : DV K H (nkD k) (.ref q) → k.depth ≤ 8 → DV K H d v → RelV v u → TDR K H kvs xs → TDR K H ((k, d) :: kvs) ((k, q, u) :: xs)

/-- an object of the store, as it is tracked -/
inductive RelO (K : Bd) (H : Hp) (a : Addr) : DO → HO → Prop
  | lst {ds : List D} {vs : List V} : DVs K H ds vs → RelO K H a (.lst ds) (.lst vs)
  | dK {kvs : List (Key × D)} {kws : List (Key × V)} : kvs.map (·.1) = kws.map (·.1) → DVs K H (kvs.map (·.2)) (kws.map (·.2)) → RelO K H a (.dK kvs) (.dK kws)
  | dT {kvs : List (NestedKey × D)} {xs : List (NestedKey × Addr × Value)} : TDR K H kvs xs → RelO K H a (.dT kvs) (tdO K.P K.w a xs)
  | ins {C dx : Addr} {fs : List (Str × D)} {gs : List (Str × V)} : fs.map (·.1) = gs.map (·.1) → DVs K H (fs.map (·.2)) (gs.map (·.2)) → RelO K H a (.ins C fs) (.ins C dx gs)
def Rel (K : Bd) (M : DM) (H : Hp) : Prop := ∀ a o, M a = some o → ∃ u, H a = some u ∧ RelO K H a o u

/-- what is tracked and not in the store stays as it is -/
structure Keep (M : DM) (H : Hp) (M' : DM) (H' : Hp) : Prop where
  hid : ∀ a u, H a = some u → M a = none → (∀ ps, u ≠ .tbl ps) → H' a = some u
  out : ∀ a u, H a = some u → M a = none → M' a = none ∧ ∃ u', H' a = some u'
  tab : ∀ P q, TabS H P q → TabS H' P q
theorem Keep.refl {M : DM} {H : Hp} : Keep M H M H := ⟨fun _ _ h _ _ => h, fun _ _ h n => ⟨n, _, h⟩, fun _ _ h => h⟩
theorem Keep.trans {M M1 M2 : DM} {H H1 H2 : Hp} (a : Keep M H M1 H1) (b : Keep M1 H1 M2 H2) : Keep M H M2 H2 where
  hid := fun p u h n t => b.hid p u (a.hid p u h n t) (a.out p u h n).1 t
  out := fun p u h n => by
    obtain ⟨n1, u1, h1⟩ := a.out p u h n
    exact b.out p u1 h1 n1
  tab := fun P q t => b.tab P q (a.tab P q t)

theorem RelO.ntup {K : Bd} {H : Hp} {a : Addr} {o : DO} {xs : List V} (r : RelO K H a o (.tup xs)) : False := nomatch r
theorem Rel.ntup {K : Bd} {M : DM} {H : Hp} (R : Rel K M H) {a : Addr} {xs : List V} (h : H a = some (.tup xs)) : M a = none := by
  cases e : M a with
  | none => rfl
  | some o => obtain ⟨u, h2, r⟩ := R a o e; rw [h] at h2; cases h2; exact nomatch r
theorem Rel.nfrz {K : Bd} {M : DM} {H : Hp} (R : Rel K M H) {a : Addr} {u : Obj} {x : HO} (h : H a = some (.frz u x)) : M a = none := by
  cases e : M a with
  | none => rfl
  | some o => obtain ⟨u, h2, r⟩ := R a o e; rw [h] at h2; cases h2; exact nomatch r
theorem Rel.ntbl {K : Bd} {M : DM} {H : Hp} (R : Rel K M H) {a : Addr} {ps : Array Value} (h : H a = some (.tbl ps)) : M a = none := by
  cases e : M a with
  | none => rfl
  | some o => obtain ⟨u, h2, r⟩ := R a o e; rw [h] at h2; cases h2; exact nomatch r
theorem code_ne_td {c : Addr} {q : Str} {P : Program} {w : World} {xs : List (NestedKey × Addr × Value)} : CodeO c q ≠ tdO P w c xs := by
  intro h
  have h0 : (⟨Array.replicate (c + 1) { cls := .none, data := .fields #[.none, .str q 0] }, {}⟩ : Heap).get? c = some { cls := .none, data := .fields #[.none, .str q 0] } := by
    unfold Heap.get?
    have e : (Array.replicate (c + 1) ({ cls := .none, data := .fields #[.none, .str q 0] } : Obj))[c]? = some { cls := .none, data := .fields #[.none, .str q 0] } := by
      rw [Array.getElem?_replicate, if_pos (Nat.lt_succ_self c)]
    rw [e]
  have e2 := congrFun (HO.ext.inj h) ⟨Array.replicate (c + 1) { cls := .none, data := .fields #[.none, .str q 0] }, {}⟩
  have t := Eq.mp e2 ⟨_, #[.none, .str q 0], 0, h0, rfl, rfl⟩
  obtain ⟨_, _, o, es, ep, e3, _, hd, _⟩ := t
  rw [h0] at e3
  cases e3
  exact nomatch hd
theorem Rel.ncode {K : Bd} {M : DM} {H : Hp} (R : Rel K M H) {a : Addr} {q : Str} (h : H a = some (CodeO a q)) : M a = none := by
  cases e : M a with
  | none => rfl
  | some o =>
    obtain ⟨u, h2, r⟩ := R a o e
    rw [h] at h2
    cases r with
    | dT _ => exact absurd (Option.some.inj h2) code_ne_td
    | _ => cases h2
theorem Rel.free {K : Bd} {M : DM} {H : Hp} (R : Rel K M H) {a : Addr} (h : H a = none) : M a = none := by
  cases e : M a with
  | none => rfl
  | some o => obtain ⟨u, h2, r⟩ := R a o e; rw [h] at h2; cases h2

/-- tuples that are read stay -/
def Tups (H H' : Hp) : Prop := (∀ a xs, H a = some (.tup xs) → H' a = some (.tup xs)) ∧ (∀ a o u, H a = some (.frz o u) → H' a = some (.frz o u))
theorem Tups.refl {H : Hp} : Tups H H := ⟨fun _ _ h => h, fun _ _ _ h => h⟩
theorem Tups.trans {H H1 H2 : Hp} (a : Tups H H1) (b : Tups H1 H2) : Tups H H2 := ⟨fun p xs h => b.1 p xs (a.1 p xs h), fun p o u h => b.2 p o u (a.2 p o u h)⟩
theorem Keep.tups {K : Bd} {M M' : DM} {H H' : Hp} (k : Keep M H M' H') (R : Rel K M H) : Tups H H' :=
  ⟨fun a xs h => k.hid a _ h (R.ntup h) (fun _ z => nomatch z), fun a o u h => k.hid a _ h (R.nfrz h) (fun _ z => nomatch z)⟩
theorem sqF {K : PySem.W.Frag} {H H' : Hp} {a : Addr} {o : Obj} {vs : List V} (k : Tups H H') (s : H a = some (.frz o (.tup vs))) : SqT K H' a vs := .inl (.inr ⟨o, k.2 _ _ _ s⟩)
theorem Tups.sqZ {K : PySem.W.Frag} {H H' : Hp} (k : Tups H H') {a : Addr} {xs : List V} (h : SqZ K H a xs) : SqZ K H' a xs := by
  rcases h with ⟨o, h⟩ | h
  · exact .inl ⟨o, k.2 _ _ _ h⟩
  · exact .inr h
theorem Tups.sqT {K : Bd} {H H' : Hp} (k : Tups H H') {a : Addr} {xs : List V} (h : SqT K H a xs) : SqT K H' a xs := by
  rcases h with (h | ⟨o, h⟩) | h
  · exact .inl (.inl (k.1 _ _ h))
  · exact .inl (.inr ⟨o, k.2 _ _ _ h⟩)
  · exact .inr h
mutual
theorem DV.mono {K : Bd} {H H' : Hp} (k : Tups H H') : ∀ {d : D} {v : V}, DV K H d v → DV K H' d v
  | _, _, .non => .non
  | _, _, .bl => .bl
  | _, _, .int => .int
  | _, _, .str => .str
  | _, _, .ref => .ref
  | _, _, .tup s n h => .tup (k.2 _ _ _ s) n (DVs.mono k h)
  | _, _, .pair s h => .pair (k.1 _ _ s) (DVs.mono k h)
  | _, _, .scr s h => .scr (k.sqZ s) (DVs.mono k h)
theorem DVs.mono {K : Bd} {H H' : Hp} (k : Tups H H') : ∀ {ds : List D} {vs : List V}, DVs K H ds vs → DVs K H' ds vs
  | _, _, .nil => .nil
  | _, _, .cons h t => .cons (DV.mono k h) (DVs.mono k t)
end
theorem TDR.mono {K : Bd} {H H' : Hp} (k : Tups H H') {kvs : List (NestedKey × D)} {xs : List (NestedKey × Addr × Value)} (r : TDR K H kvs xs) : TDR K H' kvs xs := by
  induction r with
  | nil => exact .nil
  | cons a z b e _ ih => exact .cons (a.mono k) z (b.mono k) e ih
theorem RelO.mono {K : Bd} {H H' : Hp} (k : Tups H H') {a : Addr} {o : DO} {u : HO} (r : RelO K H a o u) : RelO K H' a o u := by
  cases r with
  | lst h => exact .lst (h.mono k)
  | dK e h => exact .dK e (h.mono k)
  | dT h => exact .dT (h.mono k)
  | ins e h => exact .ins e (h.mono k)

/-! ### lists of data -/
section
variable {K : Bd} {H H' : Hp}
theorem DVs.length {ds : List D} {vs : List V} (h : DVs K H ds vs) : ds.length = vs.length := by
  induction ds generalizing vs with
  | nil => cases h; rfl
  | cons d ds ih => cases h with | cons a b => simp [ih b]
theorem DVs.append {ds es : List D} {vs ws : List V} (h : DVs K H ds vs) (g : DVs K H es ws) : DVs K H (ds ++ es) (vs ++ ws) := by
  induction ds generalizing vs with
  | nil => cases h; exact g
  | cons d ds ih => cases h with | cons a b => exact .cons a (ih b)
theorem DVs.get {ds : List D} {vs : List V} (h : DVs K H ds vs) {i : Nat} {d : D} (e : ds[i]? = some d) : ∃ v, vs[i]? = some v ∧ DV K H d v := by
  induction ds generalizing vs i with
  | nil => simp at e
  | cons x ds ih =>
    cases h with
    | cons a b =>
      cases i with
      | zero => simp at e; subst e; exact ⟨_, rfl, a⟩
      | succ i => simpa using ih b (by simpa using e)
theorem DVs.getV {ds : List D} {vs : List V} (h : DVs K H ds vs) {i : Nat} {v : V} (e : vs[i]? = some v) : ∃ d, ds[i]? = some d ∧ DV K H d v := by
  have hi : i < ds.length := by rw [h.length]; exact (List.getElem?_eq_some_iff.mp e).1
  obtain ⟨w, e2, q⟩ := h.get (List.getElem?_eq_getElem hi)
  rw [e] at e2; cases e2
  exact ⟨_, List.getElem?_eq_getElem hi, q⟩
theorem DVs.drop {ds : List D} {vs : List V} (h : DVs K H ds vs) (n : Nat) : DVs K H (ds.drop n) (vs.drop n) := by
  induction n generalizing ds vs with
  | zero => simpa using h
  | succ n ih => cases h with
    | nil => exact .nil
    | cons a b => simpa using ih b
theorem DVs.take {ds : List D} {vs : List V} (h : DVs K H ds vs) (n : Nat) : DVs K H (ds.take n) (vs.take n) := by
  induction n generalizing ds vs with
  | zero => simpa using DVs.nil
  | succ n ih => cases h with
    | nil => exact .nil
    | cons a b => simpa using DVs.cons a (ih b)
theorem DVs.set {ds : List D} {vs : List V} (h : DVs K H ds vs) {d : D} {v : V} (e : DV K H d v) (n : Nat) : DVs K H (ds.set n d) (vs.set n v) := by
  induction n generalizing ds vs with
  | zero => cases h with
    | nil => exact .nil
    | cons a b => exact .cons e b
  | succ n ih => cases h with
    | nil => exact .nil
    | cons a b => exact .cons a (ih b)
theorem DVs.dropLast {ds : List D} {vs : List V} (h : DVs K H ds vs) : DVs K H ds.dropLast vs.dropLast := by
  rw [List.dropLast_eq_take, List.dropLast_eq_take, h.length]; exact h.take _
theorem DVs.reverse {ds : List D} {vs : List V} (h : DVs K H ds vs) : DVs K H ds.reverse vs.reverse := by
  induction ds generalizing vs with
  | nil => cases h; exact .nil
  | cons d ds ih => cases h with | cons a b => simpa using (ih b).append (.cons a .nil)
theorem DVs.one {d : D} {vs : List V} (h : DVs K H [d] vs) : ∃ v, vs = [v] ∧ DV K H d v := by
  cases h with | cons a b => cases b; exact ⟨_, rfl, a⟩
theorem DVs.two {d e : D} {vs : List V} (h : DVs K H [d, e] vs) : ∃ v w, vs = [v, w] ∧ DV K H d v ∧ DV K H e w := by
  cases h with | cons a b => cases b with | cons c d => cases d; exact ⟨_, _, rfl, a, c⟩
theorem DVs.mk1 {d : D} {v : V} (h : DV K H d v) : DVs K H [d] [v] := .cons h .nil
theorem DVs.get_none {ds : List D} {vs : List V} (h : DVs K H ds vs) {i : Nat} (e : ds[i]? = none) : vs[i]? = none := by
  rw [List.getElem?_eq_none_iff] at e ⊢; rw [← h.length]; exact e
end

/-! ### keeping -/
section
variable {K : Bd} {M : DM} {H : Hp}
theorem tabS_of {H' : Hp} {P : Addr} {q : Str} (h1 : ∀ ps, H P = some (.tbl ps) → H' P = some (.tbl ps)) (h2 : ∀ c, H c = some (CodeO c q) → H' c = some (CodeO c q)) (t : TabS H P q) : TabS H' P q := by
  obtain ⟨ps, e, ok, h⟩ := t
  exact ⟨ps, h1 ps e, ok, fun pos cv hc => let ⟨c, e1, e2⟩ := h pos cv hc; ⟨c, e1, h2 c e2⟩⟩
/-- an object of the store is written -/
theorem Keep.write (R : Rel K M H) {a : Addr} {o0 : DO} (h : M a = some o0) (o : DO) (u : HO) : Keep M H (put M a o) (upd H a u) := by
  obtain ⟨u0, hu, r⟩ := R a o0 h
  have ne : ∀ b, M b = none → b ≠ a := fun b n e => by rw [e, h] at n; cases n
  refine ⟨fun b w hb n _ => by rw [upd_ne (ne b n)]; exact hb, fun b w hb n => ⟨by rw [put_ne (ne b n)]; exact n, w, by rw [upd_ne (ne b n)]; exact hb⟩, fun P q t => tabS_of (fun ps e => ?_) (fun c e => ?_) t⟩
  · rw [upd_ne (ne P (R.ntbl e))]; exact e
  · rw [upd_ne (ne c (R.ncode e))]; exact e
theorem Rel.write (R : Rel K M H) {a : Addr} {o0 : DO} (h : M a = some o0) {o : DO} {u : HO} (r : RelO K H a o u) : Rel K (put M a o) (upd H a u) := by
  have k := Keep.write R h o u
  have kt := k.tups R
  intro b p e
  by_cases hb : b = a
  · subst hb; rw [put_same] at e; cases e
    exact ⟨u, upd_same, r.mono kt⟩
  · rw [put_ne hb] at e
    obtain ⟨w, hw, rw'⟩ := R b p e
    exact ⟨w, by rw [upd_ne hb]; exact hw, rw'.mono kt⟩
/-- a new object, tracked and in the store -/
theorem Keep.new (R : Rel K M H) {a : Addr} (h : H a = none) (o : DO) (u : HO) : Keep M H (put M a o) (upd H a u) := by
  have ne : ∀ b w, H b = some w → b ≠ a := fun b w e z => by rw [z, h] at e; cases e
  refine ⟨fun b w hb n _ => by rw [upd_ne (ne b w hb)]; exact hb, fun b w hb n => ⟨by rw [put_ne (ne b w hb)]; exact n, w, by rw [upd_ne (ne b w hb)]; exact hb⟩, fun P q t => tabS_of (fun ps e => ?_) (fun c e => ?_) t⟩
  · rw [upd_ne (ne P _ e)]; exact e
  · rw [upd_ne (ne c _ e)]; exact e
/-- a new object, tracked alone -/
theorem Keep.hidden (R : Rel K M H) {a : Addr} (h : H a = none) (u : HO) : Keep M H M (upd H a u) := by
  have ne : ∀ b w, H b = some w → b ≠ a := fun b w e z => by rw [z, h] at e; cases e
  refine ⟨fun b w hb n _ => by rw [upd_ne (ne b w hb)]; exact hb, fun b w hb n => ⟨n, w, by rw [upd_ne (ne b w hb)]; exact hb⟩, fun P q t => tabS_of (fun ps e => ?_) (fun c e => ?_) t⟩
  · rw [upd_ne (ne P _ e)]; exact e
  · rw [upd_ne (ne c _ e)]; exact e
theorem Rel.of_keep (R : Rel K M H) {M' : DM} {H' : Hp} (k : Tups H H') (h : ∀ a o, M' a = some o → M a = some o) (g : ∀ a u, H a = some u → (∃ o, M' a = some o) → H' a = some u) : Rel K M' H' := by
  intro a o e
  obtain ⟨u, hu, r⟩ := R a o (h a o e)
  exact ⟨u, g a u hu ⟨o, e⟩, r.mono k⟩
theorem Rel.new (R : Rel K M H) {a : Addr} (h : H a = none) {o : DO} {u : HO} (r : RelO K H a o u) : Rel K (put M a o) (upd H a u) := by
  have kt := (Keep.new R h o u).tups R
  intro b p e
  by_cases hb : b = a
  · subst hb; rw [put_same] at e; cases e
    exact ⟨u, upd_same, r.mono kt⟩
  · rw [put_ne hb] at e
    obtain ⟨w, hw, rw'⟩ := R b p e
    exact ⟨w, by rw [upd_ne hb]; exact hw, rw'.mono kt⟩
theorem Rel.hidden (R : Rel K M H) {a : Addr} (h : H a = none) (u : HO) : Rel K M (upd H a u) := by
  have kt := (Keep.hidden R h u).tups R
  intro b p e
  obtain ⟨w, hw, rw'⟩ := R b p e
  exact ⟨w, by rw [upd_ne (ne_of_none hw h)]; exact hw, rw'.mono kt⟩
theorem tups_new {a : Addr} (h : H a = none) (u : HO) : Tups H (upd H a u) :=
  ⟨fun b xs e => by rw [upd_ne (ne_of_none e h)]; exact e, fun b o w e => by rw [upd_ne (ne_of_none e h)]; exact e⟩
/-- a new tuple's data -/
theorem DV.newtup {a : Addr} (h : H a = none) {o : Obj} (n : o.dict = none) {ds : List D} {vs : List V} (r : DVs K H ds vs) : DV K (upd H a (.frz o (.tup vs))) (.tup ds) (.ref a) :=
  .tup upd_same n (r.mono (tups_new h _))
theorem DV.newpair {a : Addr} (h : H a = none) {ds : List D} {vs : List V} (r : DVs K H ds vs) : DV K (upd H a (.tup vs)) (.pair ds) (.ref a) :=
  .pair upd_same (r.mono (tups_new h _))
theorem DV.sqT {a : Addr} {ds : List D} (h : DV K H (.tup ds) (.ref a)) : ∃ vs, SqT K H a vs ∧ DVs K H ds vs := by
  cases h with | tup s _ r => exact ⟨_, .inl (.inr ⟨_, s⟩), r⟩
end

/-! ### tuples of the text's own making: what stands at the new address is known -/
section
variable {X : Cx}
def tTupF (t : TA) : TE := fun σ H Q => t σ H fun xs H1 => xs.length ≤ sizeLine ∧ ∀ p o, H1 p = none → o.dict = none → Q (.ref p) (upd H1 p (.frz o (.tup xs)))
theorem frz_ok {P : Program} {w : World} {H : Hp} {h : Heap} {a : Addr} {xs : List V} {its : List Value} (z : xs.length ≤ sizeLine) (r : Vals xs its) (e : h.get? a = some { cls := .type "tuple", data := .seq its.toArray }) : ObjOk P w H h a (.frz { cls := .type "tuple", data := .seq its.toArray } (.tup xs)) :=
  ⟨e, z, its, r, ⟨_, e, rfl, _, rfl⟩⟩
theorem pe_tupF {es : List Expr} {t : TA} {pos : Pos} {x1} (h : PA X es t) : PE X (.Tuple es x1 pos) (tTupF t) := by
  refine ⟨fun pins s σ H Q I hq => ?_⟩
  refine wpAny_Tuple_spliced (thn (h.run pos pins s σ H _ I hq) fun us s1 ⟨xs, H1, I1, r, z, q⟩ => ⟨by rw [← r.length]; exact z, ?_⟩)
  have hf : H1 s1.heap.objs.size = none := I1.hok.fresh (Nat.le_refl _)
  refine ⟨.ref s1.heap.objs.size, upd H1 s1.heap.objs.size (.frz { cls := .type "tuple", data := .seq us.toArray } (.tup xs)), I1.laid (t' := s1.toks) (fun b u e => Heap.get?_push_of_some _ e) (Nat.le_refl _) ?_, rfl, q _ _ hf rfl⟩
  exact frz_ok z r (Heap.get?_push_size _ rfl)
def rCatF (K : PySem.W.Frag) : R2 := fun x y H Q => ∃ a b xs ys, x = .ref a ∧ y = .ref b ∧ SqT K H a xs ∧ SqT K H b ys ∧ xs.length + ys.length ≤ sizeLine ∧
  (xs = [] → Q (.ref b) H) ∧ (xs ≠ [] → ys = [] → Q (.ref a) H) ∧ (xs ≠ [] → ys ≠ [] → ∀ p o, H p = none → o.dict = none → Q (.ref p) (upd H p (.frz o (.tup (xs ++ ys)))))
theorem op_catF : OpR X (binaryOp .Add) (rCatF X.K) := by
  intro pins s σ H x y v u Q I rx ry h
  obtain ⟨a, b, xs, ys, rfl, rfl, ha, hb, hz, q0, q1, q2⟩ := h
  cases rx
  cases ry
  obtain ⟨its, r1, p1, _⟩ := I.tuple ha
  obtain ⟨its2, r2, p2, _⟩ := I.tuple hb
  by_cases hx : xs = []
  · subst hx
    cases r1
    exact cat_tup0 p1 p2 ⟨.ref b, H, I, rfl, q0 rfl⟩
  · refine HT.cat_tup p1 p2 (fun z => hx (r1.nil_iff.mp z)) (fun z => ⟨.ref a, H, I, rfl, q1 hx (r2.nil_iff.mp z)⟩) (fun z => ?_) (by rw [← r1.length, ← r2.length]; exact hz)
    refine ⟨.ref s.heap.objs.size, _, I.laid (t' := s.toks) (o := .frz { cls := .type "tuple", data := .seq (its ++ its2).toArray } (.tup (xs ++ ys))) (fun b ob q => Heap.get?_push_of_some _ q) (Nat.le_refl _) ?_, rfl, q2 hx (fun w => z (r2.nil_iff.mpr w)) _ _ (I.hok.fresh (Nat.le_refl _)) rfl⟩
    exact frz_ok (by rw [List.length_append]; exact hz) (r1.append r2) (Heap.get?_push_size _ rfl)
def rSlF (K : PySem.W.Frag) : V → Option Int → Option Int → Hp → VK → Prop := fun x lo hi H Q => ∃ a xs, x = .ref a ∧ SqT K H a xs ∧
  (HT.sIx xs.length 0 lo = 0 ∧ HT.sIx xs.length xs.length hi = xs.length → Q (.ref a) H) ∧ (¬ (HT.sIx xs.length 0 lo = 0 ∧ HT.sIx xs.length xs.length hi = xs.length) → ∀ p o, H p = none → o.dict = none → Q (.ref p) (upd H p (.frz o (.tup (cutV xs lo hi)))))
theorem sl_tupF : SlR X (rSlF X.K) := by
  intro pins s σ H x v vl vu lo hi sl Q I rx hs pl pu h
  obtain ⟨a, xs, rfl, hx, q1, q2⟩ := h
  cases rx
  obtain ⟨its, r, ht, hz⟩ := I.tuple hx
  have hlen : its.toArray.size = xs.length := by rw [List.size_toArray]; exact r.length.symm
  refine ⟨"tuple", _, PyProof.Rows.slot_tuple_getitem.lookup, ht.typeIs, ?_⟩
  by_cases hw : HT.sIx xs.length 0 lo = 0 ∧ HT.sIx xs.length xs.length hi = xs.length
  · exact getItem_tuple_whole ht hs pl pu (by rw [hlen]; exact hw) ⟨.ref a, H, I, rfl, q1 hw⟩
  · refine HT.getItem_tuple_cut ht hs pl pu (by rw [hlen]; exact hw) ?_ (by rw [hlen]; exact hz)
    rw [hlen]
    refine ⟨.ref s.heap.objs.size, _, I.laid (t' := s.toks) (o := .frz { cls := .type "tuple", data := .seq ((its.drop (HT.sIx xs.length 0 lo)).take (HT.sIx xs.length xs.length hi - HT.sIx xs.length 0 lo)).toArray } (.tup (cutV xs lo hi))) (fun b ob q => Heap.get?_push_of_some _ q) (Nat.le_refl _) ?_, rfl, q2 hw _ _ (I.hok.fresh (Nat.le_refl _)) rfl⟩
    exact frz_ok (Nat.le_trans (cutV_length xs lo hi) hz) ((r.drop (HT.sIx xs.length 0 lo)).take (HT.sIx xs.length xs.length hi - HT.sIx xs.length 0 lo)) (Heap.get?_push_size _ rfl)
theorem call_tupleF : CallR X (.type "tuple") (fun xs H Q => ∃ p ys, xs = [.ref p] ∧ ((SqL X.K H p ys ∧ ∀ l o, H l = none → o.dict = none → Q (.ref l) (upd H l (.frz o (.tup ys)))) ∨ (SqT X.K H p ys ∧ Q (.ref p) H))) := by
  intro pins s σ H xs us Q I r h
  obtain ⟨p, ys, rfl, h⟩ := h
  obtain ⟨u, rfl, rx⟩ := vals1 r
  cases rx
  rcases h with ⟨hq, q⟩ | ⟨hq, q⟩
  · obtain ⟨its, r', pl, hz⟩ := I.list hq
    have hlen := r'.length
    refine call_tuple_list pl.isList (fun h' kp => ?_) (by simp only [List.size_toArray] <;> omega)
    have I1 : Inv X pins σ H { s with heap := h' } := I.kept (t' := s.toks) kp
    have I2 : Inv X pins σ (upd H h'.objs.size (.frz { cls := .type "tuple", data := .seq its.toArray } (.tup ys))) { s with heap := h'.push { cls := .type "tuple", data := .seq its.toArray } } :=
      I1.laid (t' := s.toks) (fun b o e => Heap.get?_push_of_some _ e) (Nat.le_refl _) (frz_ok hz r' (Heap.get?_push_size _ rfl))
    exact ⟨.ref h'.objs.size, _, I2, rfl, q _ _ (I1.hok.fresh (Nat.le_refl _)) rfl⟩
  · obtain ⟨its, r', pl, hz⟩ := I.tuple hq
    exact call_tuple_same pl ⟨.ref p, H, I, rfl, q⟩
end
end Dt

set_option Elab.async false
set_option autoImplicit false
set_option linter.all false
set_option maxRecDepth 100000
set_option maxHeartbeats 4000000
/-! DB: lifted readings: expressions. -/
namespace Dt
open PySem PySem.Spec PyProof.Rows L2 LamX

abbrev Std := List (Option D)
abbrev DQ := D → DM → Prop
/-- an exception of a class of the program: its class, its attributes -/
abbrev DX := Addr → List (Str × D) → DM → Prop
abbrev TED := Std → DM → DQ → DX → Prop
abbrev TTD := Std → DM → (Bool → DM → Prop) → DX → Prop
abbrev TAD := Std → DM → (List D → DM → Prop) → DX → Prop

def RelS (K : Bd) (H : Hp) (σd : Std) (σ : L2.St) : Prop := σd.length = σ.length ∧ ∀ (i : Nat) (d : D), σd[i]? = some (some d) → ∃ v, σ[i]? = some (some v) ∧ DV K H d v
theorem RelS.mono {K : Bd} {H H' : Hp} (k : Tups H H') {σd : Std} {σ : L2.St} (S : RelS K H σd σ) : RelS K H' σd σ :=
  ⟨S.1, fun i d e => let ⟨v, e2, h⟩ := S.2 i d e; ⟨v, e2, h.mono k⟩⟩
/-- an exception's own dict -/
def XD (K : Bd) (H : Hp) (d : Option Addr) (fs : List (Str × D)) : Prop :=
  (d = none ∧ fs = []) ∨ ∃ dd gs, d = some dd ∧ H dd = some (.xd gs) ∧ fs.map (·.1) = gs.map (·.1) ∧ DVs K H (fs.map (·.2)) (gs.map (·.2))
def CnX (K : Bd) (M : DM) (H : Hp) (E : DX) (W : XK) : Prop := ∀ C fs d M' H', XD K H' d fs → Rel K M' H' → Keep M H M' H' → E C fs M' → W (.ref C) d H'
theorem CnX.after {K : Bd} {M M1 : DM} {H H1 : Hp} {E : DX} {W : XK} (c : CnX K M H E W) (k : Keep M H M1 H1) : CnX K M1 H1 E W := fun C fs d M' H' x R k2 e => c C fs d M' H' x R (k.trans k2) e
def CnE (K : Bd) (M : DM) (H : Hp) (Qd : DQ) (Q : VK) : Prop := ∀ d v M' H', DV K H' d v → Rel K M' H' → Keep M H M' H' → Qd d M' → Q v H'
theorem CnE.after {K : Bd} {M M1 : DM} {H H1 : Hp} {Qd : DQ} {Q : VK} (c : CnE K M H Qd Q) (k : Keep M H M1 H1) : CnE K M1 H1 Qd Q := fun d v M' H' x R k2 e => c d v M' H' x R (k.trans k2) e
theorem CnE.now {K : Bd} {M : DM} {H : Hp} {Qd : DQ} {Q : VK} (c : CnE K M H Qd Q) (R : Rel K M H) {d : D} {v : V} (h : DV K H d v) (q : Qd d M) : Q v H := c d v M H h R .refl q

def lE (K : Bd) (W : WX) (t : TED) : TE := fun σ H Q => ∃ σd M Qd E, RelS K H σd σ ∧ Rel K M H ∧ t σd M Qd E ∧ CnE K M H Qd Q ∧ CnX K M H E (fun c d h => W c d σ h)
def lT (K : Bd) (W : WX) (t : TTD) : TT := fun σ H Q => ∃ σd M Qd E, RelS K H σd σ ∧ Rel K M H ∧ t σd M Qd E ∧ (∀ b M' H', Rel K M' H' → Keep M H M' H' → Qd b M' → Q b H') ∧ CnX K M H E (fun c d h => W c d σ h)
def lA (K : Bd) (W : WX) (t : TAD) : TA := fun σ H Q => ∃ σd M Qd E, RelS K H σd σ ∧ Rel K M H ∧ t σd M Qd E ∧ (∀ ds vs M' H', DVs K H' ds vs → Rel K M' H' → Keep M H M' H' → Qd ds M' → Q vs H') ∧ CnX K M H E (fun c d h => W c d σ h)

theorem PE.imp {X : Cx} {e : Expr} {t t' : TE} (h : PE X e t) (i : ∀ σ H Q, t' σ H Q → t σ H Q) : PE X e t' := ⟨fun pins s σ H Q I hw => h.run pins s σ H Q I (i _ _ _ hw)⟩
theorem PT.imp {X : Cx} {e : Expr} {t t' : TT} (h : PT X e t) (i : ∀ σ H Q, t' σ H Q → t σ H Q) : PT X e t' := ⟨fun pins s σ H Q I hw => h.run pins s σ H Q I (i _ _ _ hw)⟩
theorem PW.imp {X : Cx} {e : Expr} {t t' : TT} (h : PW X e t) (i : ∀ σ H Q, t' σ H Q → t σ H Q) : PW X e t' := ⟨fun wh pins s σ H Q I hw => h.run wh pins s σ H Q I (i _ _ _ hw)⟩
theorem PA.imp {X : Cx} {es : List Expr} {t t' : TA} (h : PA X es t) (i : ∀ σ H Q, t' σ H Q → t σ H Q) : PA X es t' := ⟨fun pos pins s σ H Q I hw => h.run pos pins s σ H Q I (i _ _ _ hw)⟩
theorem PS.imp {X : Cx} {e : Stmt} {t t' : TS} (h : PS X e t) (i : ∀ D σ H, t' D σ H → t D σ H) : PS X e t' := ⟨fun pins s σ H Q I hw => h.run pins s σ H Q I (i _ _ _ hw)⟩
theorem PSs.imp {X : Cx} {e : List Stmt} {t t' : TS} (h : PSs X e t) (i : ∀ D σ H, t' D σ H → t D σ H) : PSs X e t' := ⟨fun pins s σ H Q I hw => h.run pins s σ H Q I (i _ _ _ hw)⟩

/-! ### slots -/
@[reducible] def slot : Std → Nat → Option D
  | [], _ => none
  | x :: _, 0 => x
  | _ :: r, n + 1 => slot r n
@[reducible] def setS : Std → Nat → D → Std
  | [], _, _ => []
  | _ :: r, 0, d => some d :: r
  | x :: r, n + 1, d => x :: setS r n d
theorem slot_eq : ∀ (σ : Std) (i : Nat) (d : D), slot σ i = some d → σ[i]? = some (some d)
  | x :: r, 0, d, h => by simpa using h
  | x :: r, n + 1, d, h => by simpa using slot_eq r n d h
theorem setS_eq : ∀ (σ : Std) (i : Nat) (d : D), setS σ i d = σ.set i (some d)
  | [], _, _ => rfl
  | x :: r, 0, d => rfl
  | x :: r, n + 1, d => by show x :: setS r n d = x :: r.set n (some d); rw [setS_eq r n d]
theorem RelS.set {K : Bd} {H : Hp} {σd : Std} {σ : L2.St} (S : RelS K H σd σ) {d : D} {v : V} (h : DV K H d v) (i : Nat) : RelS K H (setS σd i d) (σ.set i (some v)) := by
  rw [setS_eq]
  refine ⟨by simpa using S.1, fun j e he => ?_⟩
  by_cases hj : i = j
  · subst hj
    by_cases hi : i < σd.length
    · rw [List.getElem?_set_self hi] at he
      cases he
      exact ⟨v, by rw [List.getElem?_set_self (by rw [← S.1]; exact hi)], h⟩
    · rw [List.getElem?_eq_none (by simpa using Nat.le_of_not_lt hi)] at he; cases he
  · rw [List.getElem?_set_ne hj] at he
    obtain ⟨w, e2, q⟩ := S.2 j e he
    exact ⟨w, by rw [List.getElem?_set_ne hj]; exact e2, q⟩

section
variable {X : Cx} {W : WX}
/-! ### names, constants -/
def dVar (i : Nat) : TED := fun σ M Q _ => match slot σ i with
  | some d => Q d M
  | none => False
def dC (d : D) : TED := fun _ M Q _ => Q d M
theorem de_var {i : Nat} {e : Expr} (h : PE X e (tVar i)) : PE X e (lE X.B W (dVar i)) := PE.imp h fun σ H Q ⟨σd, M, Qd, E, S, R, t, c, cx⟩ => by
  have t' : (match slot σd i with
    | some d => Qd d M
    | none => False) := t
  cases e : slot σd i with
  | none => rw [e] at t'; exact t'.elim
  | some d =>
    rw [e] at t'
    obtain ⟨v, e2, q⟩ := S.2 i d (slot_eq _ _ _ e)
    exact ⟨v, e2, c.now R q t'⟩
theorem de_c {e : Expr} {d : D} {v : V} (h : PE X e (tC v)) (r : ∀ K H, DV K H d v) : PE X e (lE X.B W (dC d)) := PE.imp h fun σ H Q ⟨σd, M, Qd, E, S, R, t, c, cx⟩ => c.now R (r _ _) t
theorem de_int {i j pos} : PE X (.Constant (.int i) j pos) (lE X.B W (dC (.int i))) := de_c pe_int fun _ _ => .int
theorem de_bl {b j pos} : PE X (.Constant (.bool b) j pos) (lE X.B W (dC (.bl b))) := de_c pe_bl fun _ _ => .bl
theorem de_non {j pos} : PE X (.Constant .none j pos) (lE X.B W (dC .non)) := de_c pe_non fun _ _ => .non
theorem de_str {x j pos} : PE X (.Constant (.str x) j pos) (lE X.B W (dC (.str x))) := de_c pe_str fun _ _ => .str

/-! ### argument lists, displays -/
def dNil : TAD := fun _ M Q _ => Q [] M
def dCons (ta : TED) (tr : TAD) : TAD := fun σ M Q E => ta σ M (fun d M1 => tr σ M1 (fun ds M2 => Q (d :: ds) M2) E) E
theorem da_nil : PA X [] (lA X.B W dNil) := PA.imp pa_nil fun σ H Q ⟨σd, M, Qd, E, S, R, t, c, cx⟩ => c [] [] M H .nil R .refl t
theorem da_cons {e : Expr} {es : List Expr} {ta : TED} {tr : TAD} (ha : PE X e (lE X.B W ta)) (hr : PA X es (lA X.B W tr)) (hs : starEach (e :: es) X.env = (false, eval e X.env) :: starEach es X.env := by rfl) : PA X (e :: es) (lA X.B W (dCons ta tr)) :=
  PA.imp (pa_cons ha hr hs) fun σ H Q ⟨σd, M, Qd, E, S, R, t, c, cx⟩ =>
    ⟨σd, M, _, E, S, R, t, fun d v M1 H1 dv R1 k1 q1 => ⟨σd, M1, _, E, S.mono (k1.tups R), R1, q1, fun ds vs M2 H2 dvs R2 k2 q2 => c (d :: ds) (v :: vs) M2 H2 (.cons (dv.mono (k2.tups R1)) dvs) R2 (k1.trans k2) q2, cx.after k1⟩, cx⟩
def dTup (t : TAD) : TED := fun σ M Q E => t σ M (fun ds M1 => ds.length ≤ sizeLine ∧ Q (.tup ds) M1) E
def dLst (t : TAD) : TED := fun σ M Q E => t σ M (fun ds M1 => ds.length ≤ sizeLine ∧ ∀ p, M1 p = none → Q (.ref p) (put M1 p (.lst ds))) E
theorem de_tup {es : List Expr} {k pos} {t : TAD} (h : PA X es (lA X.B W t)) : PE X (.Tuple es k pos) (lE X.B W (dTup t)) :=
  PE.imp (pe_tupF h) fun σ H Q ⟨σd, M, Qd, E, S, R, t, c, cx⟩ => ⟨σd, M, _, E, S, R, t, fun ds vs M1 H1 dvs R1 k1 ⟨hl, q⟩ => ⟨by rw [← dvs.length]; exact hl, fun p o hp hn =>
    c (.tup ds) (.ref p) M1 _ (.newtup hp hn dvs) (R1.hidden hp _) (k1.trans (.hidden R1 hp _)) q⟩, cx⟩
theorem de_lst {es : List Expr} {pos} {t : TAD} (h : PA X es (lA X.B W t)) : PE X (.List es pos) (lE X.B W (dLst t)) :=
  PE.imp (pe_lst h) fun σ H Q ⟨σd, M, Qd, E, S, R, t, c, cx⟩ => ⟨σd, M, _, E, S, R, t, fun ds vs M1 H1 dvs R1 k1 ⟨hl, q⟩ => ⟨by rw [← dvs.length]; exact hl, fun p hp =>
    c (.ref p) (.ref p) _ _ .ref (R1.new hp (.lst dvs)) (k1.trans (.new R1 hp _ _)) (q p (R1.free hp))⟩, cx⟩

/-! ### operators of two values -/
abbrev R2D := D → D → DM → DQ → Prop
def OpD (X : Cx) (r : R2) (rd : R2D) : Prop := ∀ d e x y M H Qd Q, DV X.B H d x → DV X.B H e y → Rel X.B M H → rd d e M Qd → CnE X.B M H Qd Q → r x y H Q
def dOp (rd : R2D) (ta tb : TED) : TED := fun σ M Q E => ta σ M (fun d M1 => tb σ M1 (fun e M2 => rd d e M2 Q) E) E
theorem lift2 {r : R2} {rd : R2D} (hr : OpD X r rd) {ta tb : TED} {σ : L2.St} {H : Hp} {Q : VK} (h : lE X.B W (dOp rd ta tb) σ H Q) : tOp r (lE X.B W ta) (lE X.B W tb) σ H Q := by
  obtain ⟨σd, M, Qd, E, S, R, t, c, cx⟩ := h
  exact ⟨σd, M, _, E, S, R, t, fun d v M1 H1 dv R1 k1 q1 => ⟨σd, M1, _, E, S.mono (k1.tups R), R1, q1, fun e u M2 H2 eu R2 k2 q2 =>
    hr d e v u M2 H2 Qd Q (dv.mono (k2.tups R1)) eu R2 q2 (c.after (k1.trans k2)), cx.after k1⟩, cx⟩
theorem de_op {op : Operator} {r : R2} {rd : R2D} {a b : Expr} {ta tb : TED} {pos : Pos} (ho : OpR X (binaryOp op) r) (hr : OpD X r rd) (ha : PE X a (lE X.B W ta)) (hb : PE X b (lE X.B W tb)) : PE X (.BinOp a op b pos) (lE X.B W (dOp rd ta tb)) :=
  PE.imp (pe_op ho ha hb) fun _ _ _ h => lift2 hr h
theorem de_cmp {op : CmpOp} {r : R2} {rd : R2D} {a b : Expr} {ta tb : TED} {pos : Pos} (ho : OpR X (compareOp op) r) (hr : OpD X r rd) (ha : PE X a (lE X.B W ta)) (hb : PE X b (lE X.B W tb)) (hm : behindInMarks op b = false := by first | exact nomark _ | rfl) : PE X (.Compare a [op] [b] pos) (lE X.B W (dOp rd ta tb)) :=
  PE.imp (pe_cmpR ho ha hb hm) fun _ _ _ h => lift2 hr h
abbrev R1D := D → DM → DQ → Prop
def UnD (X : Cx) (r : V → Hp → VK → Prop) (rd : R1D) : Prop := ∀ d x M H Qd Q, DV X.B H d x → Rel X.B M H → rd d M Qd → CnE X.B M H Qd Q → r x H Q
def dUn (rd : R1D) (ta : TED) : TED := fun σ M Q E => ta σ M (fun d M1 => rd d M1 Q) E
theorem lift1 {r : V → Hp → VK → Prop} {rd : R1D} (hr : UnD X r rd) {ta : TED} {σ : L2.St} {H : Hp} {Q : VK} (h : lE X.B W (dUn rd ta) σ H Q) : lE X.B W ta σ H fun x H1 => r x H1 Q := by
  obtain ⟨σd, M, Qd, E, S, R, t, c, cx⟩ := h
  exact ⟨σd, M, _, E, S, R, t, fun d v M1 H1 dv R1 k1 q1 => hr d v M1 H1 Qd Q dv R1 q1 (c.after k1), cx⟩
/-- a chain of two comparisons -/
def dChain (rd rd' : R2D) (ta tb tc : TED) : TED := fun σ M Q E => ta σ M (fun d M1 => tb σ M1 (fun e M2 => rd d e M2 (fun z M3 => match z with
  | .bl true => tc σ M3 (fun f M4 => rd' e f M4 Q) E
  | .bl false => Q (.bl false) M3
  | _ => False)) E) E
theorem de_chain {op op' : CmpOp} {r r' : R2} {rd rd' : R2D} {a b c : Expr} {ta tb tc : TED} {pos : Pos} (ho : OpR X (compareOp op) r) (hr : OpD X r rd) (ho' : OpR X (compareOp op') r') (hr' : OpD X r' rd') (ha : PE X a (lE X.B W ta)) (hb : PE X b (lE X.B W tb)) (hc : PE X c (lE X.B W tc))
    (h : PE X a (lE X.B W ta) → PE X b (lE X.B W tb) → PE X c (lE X.B W tc) → PE X (.Compare a [op, op'] [b, c] pos) (tChain r r' (lE X.B W ta) (lE X.B W tb) (lE X.B W tc))) : PE X (.Compare a [op, op'] [b, c] pos) (lE X.B W (dChain rd rd' ta tb tc)) :=
  PE.imp (h ha hb hc) fun σ H Q ⟨σd, M, Qd, E, S, R, t, c, cx⟩ => ⟨σd, M, _, E, S, R, t, fun d v M1 H1 dv R1 k1 q1 => ⟨σd, M1, _, E, S.mono (k1.tups R), R1, q1, fun e u M2 H2 eu R2 k2 q2 =>
    hr d e v u M2 H2 _ _ (dv.mono (k2.tups R1)) eu R2 q2 fun z zv M3 H3 zr R3 k3 q3 => by
      cases zr with
      | bl =>
        rename_i k
        refine ⟨k, rfl, ?_⟩
        cases k with
        | false => exact c _ _ M3 H3 .bl R3 ((k1.trans k2).trans k3) q3
        | true =>
          refine ⟨σd, M3, _, E, (S.mono (k1.tups R)).mono ((k2.trans k3).tups R1), R3, q3, fun f w M4 H4 fw R4 k4 q4 => ?_, cx.after ((k1.trans k2).trans k3)⟩
          exact hr' e f u w M4 H4 Qd Q ((eu.mono (k3.tups R2)).mono (k4.tups R3)) fw R4 q4 (c.after (((k1.trans k2).trans k3).trans k4))
      | _ => exact q3.elim, cx.after k1⟩, cx⟩

/-! ### truth -/
/-- a value's truth, where it is one (True, False) -/
def dB (t : TED) : TTD := fun σ M Q E => t σ M (fun d M1 => match d with
  | .bl b => Q b M1
  | _ => False) E
theorem dt_of {e : Expr} {t : TED} {tt : TE} (h : PT X e (fun σ H Q => lE X.B W t σ H fun x H' => ∃ k, x = .bl k ∧ Q k H')) : PT X e (lT X.B W (dB t)) :=
  PT.imp h fun σ H Q ⟨σd, M, Qd, E, S, R, t, c, cx⟩ => ⟨σd, M, _, E, S, R, t, fun d v M1 H1 dv R1 k1 q1 => by
    cases dv with
    | bl => exact ⟨_, rfl, c _ M1 H1 R1 k1 q1⟩
    | _ => exact q1.elim, cx⟩
theorem dt_val {e : Expr} {t : TED} (h : PE X e (lE X.B W t)) (he : ∀ whole, isTrue e X.env whole = (do let v ← whole; standAt e.pos; holding [v] (truthy v)) := by intro _; rfl) : PT X e (lT X.B W (dB t)) := dt_of (tt := lE X.B W t) (pt_val h he)
theorem dt_cmp {op : CmpOp} {r : R2} {rd : R2D} {a b : Expr} {ta tb : TED} {pos : Pos} (ho : OpR X (compareOp op) r) (hr : OpD X r rd) (ha : PE X a (lE X.B W ta)) (hb : PE X b (lE X.B W tb)) (hm : behindInMarks op b = false := by first | exact nomark _ | rfl) : PT X (.Compare a [op] [b] pos) (lT X.B W (dB (dOp rd ta tb))) :=
  dt_of (tt := lE X.B W (dOp rd ta tb)) (PT.imp (pt_cmpR ho ha hb hm) fun σ H Q h => lift2 (Q := fun x H' => ∃ k, x = .bl k ∧ Q k H') hr h)
def dNot (t : TTD) : TTD := fun σ M Q E => t σ M (fun b M1 => Q (!b) M1) E
theorem dt_not {a : Expr} {t : TTD} {pos : Pos} (h : PT X a (lT X.B W t)) : PT X (.UnaryOp .Not a pos) (lT X.B W (dNot t)) :=
  PT.imp (pt_not h) fun σ H Q ⟨σd, M, Qd, E, S, R, t, c, cx⟩ => ⟨σd, M, _, E, S, R, t, fun b M1 H1 R1 k1 q1 => c (!b) M1 H1 R1 k1 q1, cx⟩
def dAnd (t u : TTD) : TTD := fun σ M Q E => t σ M (fun b M1 => match b with
  | true => u σ M1 Q E
  | false => Q false M1) E
def dOr (t u : TTD) : TTD := fun σ M Q E => t σ M (fun b M1 => match b with
  | true => Q true M1
  | false => u σ M1 Q E) E
theorem dw_and1 {a : Expr} {t : TTD} {pos : Pos} (h : PT X a (lT X.B W t)) : PW X (.BoolOp .And [a] pos) (lT X.B W t) := pw_and1 h
theorem dw_or1 {a : Expr} {t : TTD} {pos : Pos} (h : PT X a (lT X.B W t)) : PW X (.BoolOp .Or [a] pos) (lT X.B W t) := pw_or1 h
theorem dw_and {a b : Expr} {r : List Expr} {t u : TTD} {pos : Pos} (h : PT X a (lT X.B W t)) (g : PW X (.BoolOp .And (b :: r) pos) (lT X.B W u)) : PW X (.BoolOp .And (a :: b :: r) pos) (lT X.B W (dAnd t u)) :=
  PW.imp (pw_and h g) fun σ H Q ⟨σd, M, Qd, E, S, R, t, c, cx⟩ => ⟨σd, M, _, E, S, R, t, fun b M1 H1 R1 k1 q1 => by
    cases b with
    | true => exact ⟨σd, M1, Qd, E, S.mono (k1.tups R), R1, q1, fun b M2 H2 R2 k2 q => c b M2 H2 R2 (k1.trans k2) q, cx.after k1⟩
    | false => exact c _ M1 H1 R1 k1 q1, cx⟩
theorem dw_or {a b : Expr} {r : List Expr} {t u : TTD} {pos : Pos} (h : PT X a (lT X.B W t)) (g : PW X (.BoolOp .Or (b :: r) pos) (lT X.B W u)) : PW X (.BoolOp .Or (a :: b :: r) pos) (lT X.B W (dOr t u)) :=
  PW.imp (pw_or h g) fun σ H Q ⟨σd, M, Qd, E, S, R, t, c, cx⟩ => ⟨σd, M, _, E, S, R, t, fun b M1 H1 R1 k1 q1 => by
    cases b with
    | true => exact c _ M1 H1 R1 k1 q1
    | false => exact ⟨σd, M1, Qd, E, S.mono (k1.tups R), R1, q1, fun b M2 H2 R2 k2 q => c b M2 H2 R2 (k1.trans k2) q, cx.after k1⟩, cx⟩
/-- .. as values: all but the last True or False -/
def dAndV (ta tb : TED) : TED := fun σ M Q E => ta σ M (fun d M1 => match d with
  | .bl true => tb σ M1 Q E
  | .bl false => Q (.bl false) M1
  | _ => False) E
def dOrV (ta tb : TED) : TED := fun σ M Q E => ta σ M (fun d M1 => match d with
  | .bl true => Q (.bl true) M1
  | .bl false => tb σ M1 Q E
  | _ => False) E
theorem de_one {op} {a : Expr} {t : TED} {pos : Pos} (h : PE X a (lE X.B W t)) : PE X (.BoolOp op [a] pos) (lE X.B W t) := pe_one h
theorem de_and {a b : Expr} {r : List Expr} {ta tb : TED} {pos : Pos} (ha : PE X a (lE X.B W ta)) (hb : PE X (.BoolOp .And (b :: r) pos) (lE X.B W tb)) : PE X (.BoolOp .And (a :: b :: r) pos) (lE X.B W (dAndV ta tb)) :=
  PE.imp (pe_and ha hb) fun σ H Q ⟨σd, M, Qd, E, S, R, t, c, cx⟩ => ⟨σd, M, _, E, S, R, t, fun d v M1 H1 dv R1 k1 q1 => by
    cases dv with
    | bl =>
      rename_i b
      refine ⟨b, rfl, ?_⟩
      cases b with
      | true => exact ⟨σd, M1, Qd, E, S.mono (k1.tups R), R1, q1, c.after k1, cx.after k1⟩
      | false => exact c _ _ M1 H1 .bl R1 k1 q1
    | _ => exact q1.elim, cx⟩
theorem de_or {a b : Expr} {r : List Expr} {ta tb : TED} {pos : Pos} (ha : PE X a (lE X.B W ta)) (hb : PE X (.BoolOp .Or (b :: r) pos) (lE X.B W tb)) : PE X (.BoolOp .Or (a :: b :: r) pos) (lE X.B W (dOrV ta tb)) :=
  PE.imp (pe_or ha hb) fun σ H Q ⟨σd, M, Qd, E, S, R, t, c, cx⟩ => ⟨σd, M, _, E, S, R, t, fun d v M1 H1 dv R1 k1 q1 => by
    cases dv with
    | bl =>
      rename_i b
      refine ⟨b, rfl, ?_⟩
      cases b with
      | true => exact c _ _ M1 H1 .bl R1 k1 q1
      | false => exact ⟨σd, M1, Qd, E, S.mono (k1.tups R), R1, q1, c.after k1, cx.after k1⟩
    | _ => exact q1.elim, cx⟩
def dNotV (ta : TED) : TED := fun σ M Q E => ta σ M (fun d M1 => match d with
  | .bl b => Q (.bl (!b)) M1
  | _ => False) E
theorem de_not {a : Expr} {ta : TED} {pos : Pos} (ha : PE X a (lE X.B W ta)) : PE X (.UnaryOp .Not a pos) (lE X.B W (dNotV ta)) :=
  PE.imp (pe_not ha) fun σ H Q ⟨σd, M, Qd, E, S, R, t, c, cx⟩ => ⟨σd, M, _, E, S, R, t, fun d v M1 H1 dv R1 k1 q1 => by
    cases dv with
    | bl => exact ⟨_, rfl, c _ _ M1 H1 .bl R1 k1 q1⟩
    | _ => exact q1.elim, cx⟩
def dIf (t : TTD) (ta tb : TED) : TED := fun σ M Q E => t σ M (fun b M1 => match b with
  | true => ta σ M1 Q E
  | false => tb σ M1 Q E) E
theorem de_ifExp {c a b : Expr} {t : TTD} {ta tb : TED} {pos : Pos} (hc : PT X c (lT X.B W t)) (ha : PE X a (lE X.B W ta)) (hb : PE X b (lE X.B W tb)) : PE X (.IfExp c a b pos) (lE X.B W (dIf t ta tb)) :=
  PE.imp (pe_ifExp hc ha hb) fun σ H Q ⟨σd, M, Qd, E, S, R, t, c, cx⟩ => ⟨σd, M, _, E, S, R, t, fun b M1 H1 R1 k1 q1 => by
    cases b with
    | true => exact ⟨σd, M1, Qd, E, S.mono (k1.tups R), R1, q1, c.after k1, cx.after k1⟩
    | false => exact ⟨σd, M1, Qd, E, S.mono (k1.tups R), R1, q1, c.after k1, cx.after k1⟩, cx⟩

/-! ### calls of built-ins -/
abbrev RLD := List D → DM → DQ → Prop
def CaD (X : Cx) (r : List V → Hp → VK → Prop) (rd : RLD) : Prop := ∀ ds vs M H Qd Q, DVs X.B H ds vs → Rel X.B M H → rd ds M Qd → CnE X.B M H Qd Q → r vs H Q
def dCB (rd : RLD) (t : TAD) : TED := fun σ M Q E => t σ M (fun ds M1 => rd ds M1 Q) E
theorem liftL {r : List V → Hp → VK → Prop} {rd : RLD} (hr : CaD X r rd) {ta : TAD} {σ : L2.St} {H : Hp} {Q : VK} (h : lE X.B W (dCB rd ta) σ H Q) : lA X.B W ta σ H fun vs H1 => r vs H1 Q := by
  obtain ⟨σd, M, Qd, E, S, R, t, c, cx⟩ := h
  exact ⟨σd, M, _, E, S, R, t, fun d v M1 H1 dv R1 k1 q1 => hr d v M1 H1 Qd Q dv R1 q1 (c.after k1), cx⟩
theorem de_cb {e : Expr} {r : List V → Hp → VK → Prop} {rd : RLD} {t : TAD} (h : PE X e (tCB r (lA X.B W t))) (hr : CaD X r rd) : PE X e (lE X.B W (dCB rd t)) :=
  PE.imp h fun _ _ _ h => liftL hr h
/-- methods of built-in types: the object, the arguments -/
abbrev RMD := D → List D → DM → DQ → Prop
def MtD (X : Cx) (T : String) (r : V → List V → Hp → VK → Prop) (rd : RMD) : Prop :=
  (∀ d ds x vs M H Qd Q, DV X.B H d x → DVs X.B H ds vs → Rel X.B M H → rd d ds M Qd → CnE X.B M H Qd Q → r x vs H Q)
def TyD (K : Bd) (T : String) (ok : D → DM → Prop) : Prop := ∀ d x M H, DV K H d x → Rel K M H → ok d M → tyV K T x H
def dBM (ok : D → DM → Prop) (rd : RMD) (to : TED) (t : TAD) : TED := fun σ M Q E => to σ M (fun d M1 => ok d M1 ∧ t σ M1 (fun ds M2 => rd d ds M2 Q) E) E
theorem de_bm {e : Expr} {T : String} {ok : D → DM → Prop} {r : V → List V → Hp → VK → Prop} {rd : RMD} {to : TED} {t : TAD} (h : PE X e (tBM X.B T r (lE X.B W to) (lA X.B W t))) (ty : TyD X.B T ok) (hr : MtD X T r rd) : PE X e (lE X.B W (dBM ok rd to t)) :=
  PE.imp h fun σ H Q ⟨σd, M, Qd, E, S, R, t, c, cx⟩ => ⟨σd, M, _, E, S, R, t, fun d v M1 H1 dv R1 k1 ⟨o1, q1⟩ => ⟨ty d v M1 H1 dv R1 o1, σd, M1, _, E, S.mono (k1.tups R), R1, q1, fun ds vs M2 H2 dvs R2 k2 q2 =>
    hr d ds v vs M2 H2 Qd Q (dv.mono (k2.tups R1)) dvs R2 q2 (c.after (k1.trans k2)), cx.after k1⟩, cx⟩
def dBM0 (ok : D → DM → Prop) (rd : RMD) (to : TED) : TED := fun σ M Q E => to σ M (fun d M1 => ok d M1 ∧ rd d [] M1 Q) E
theorem de_bm0 {e : Expr} {T : String} {ok : D → DM → Prop} {r : V → List V → Hp → VK → Prop} {rd : RMD} {to : TED} (h : PE X e (tBM0 X.B T r (lE X.B W to))) (ty : TyD X.B T ok) (hr : MtD X T r rd) : PE X e (lE X.B W (dBM0 ok rd to)) :=
  PE.imp h fun σ H Q ⟨σd, M, Qd, E, S, R, t, c, cx⟩ => ⟨σd, M, _, E, S, R, t, fun d v M1 H1 dv R1 k1 ⟨o1, q1⟩ => ⟨ty d v M1 H1 dv R1 o1, hr d [] v [] M1 H1 Qd Q dv .nil R1 q1 (c.after k1)⟩, cx⟩
end
end Dt

set_option Elab.async false
set_option autoImplicit false
set_option linter.all false
set_option maxRecDepth 100000
set_option maxHeartbeats 4000000
/-! DC: values as PyData; operators. -/
namespace Dt
open PySem PySem.Spec PyProof.Rows L2 LamX

/-! ### a value as PyData, at most so deep -/
mutual
inductive PyOf (M : DM) : Nat → D → PyData → Prop
  | non {n} : PyOf M n .non .none
  | bl {n b} : PyOf M n (.bl b) (.bool b)
  | int {n i} : PyOf M n (.int i) (.int i)
  | str {n x} : PyOf M n (.str x) (.str x)
  | tup {n ds ps} : PyOfs M n ds ps → PyOf M (n + 1) (.tup ds) (.tuple ps)
  | pair {n ds ps} : PyOfs M n ds ps → PyOf M (n + 1) (.pair ds) (.tuple ps)
  | lst {n a ds ps} : M a = some (.lst ds) → PyOfs M n ds ps → PyOf M (n + 1) (.ref a) (.list ps)
inductive PyOfs (M : DM) : Nat → List D → List PyData → Prop
  | nil {n} : PyOfs M n [] []
  | cons {n d p ds ps} : PyOf M n d p → PyOfs M n ds ps → PyOfs M n (d :: ds) (p :: ps)
end
mutual
theorem PyOf.shape {M : DM} : ∀ {n d p}, PyOf M n d p → p.plain = true ∧ p.depth ≤ n
  | _, _, _, .non => ⟨rfl, by simp [PyData.depth]⟩
  | _, _, _, .bl => ⟨rfl, by simp [PyData.depth]⟩
  | _, _, _, .int => ⟨rfl, by simp [PyData.depth]⟩
  | _, _, _, .str => ⟨rfl, by simp [PyData.depth]⟩
  | _, _, _, .tup h => by
    obtain ⟨a, b⟩ := PyOfs.shape h
    refine ⟨by simpa [PyData.plain] using a, ?_⟩
    simp only [PyData.depth]; omega
  | _, _, _, .pair h => by
    obtain ⟨a, b⟩ := PyOfs.shape h
    refine ⟨by simpa [PyData.plain] using a, ?_⟩
    simp only [PyData.depth]; omega
  | _, _, _, .lst _ h => by
    obtain ⟨a, b⟩ := PyOfs.shape h
    refine ⟨by simpa [PyData.plain] using a, ?_⟩
    simp only [PyData.depth]; omega
theorem PyOfs.shape {M : DM} : ∀ {n ds ps}, PyOfs M n ds ps → PyData.plainAll ps = true ∧ PyData.depthAll ps ≤ n
  | _, _, _, .nil => ⟨rfl, by simp [PyData.depthAll]⟩
  | _, _, _, .cons h t => by
    obtain ⟨a, b⟩ := PyOf.shape h
    obtain ⟨c, d⟩ := PyOfs.shape t
    refine ⟨by simp [PyData.plainAll, a, c], ?_⟩
    simp only [PyData.depthAll]; omega
end
mutual
theorem PyOf.dp {K : Bd} {M : DM} {H : Hp} (R : Rel K M H) : ∀ {n d p v}, PyOf M n d p → DV K H d v → Dp K H v p
  | _, _, _, _, .non, .non => .non
  | _, _, _, _, .bl, .bl => .bl _
  | _, _, _, _, .int, .int => .int _
  | _, _, _, _, .str, .str => .str _
  | _, _, _, _, .tup h, .tup s _ hs => .tup (.inl (.inr ⟨_, s⟩)) (PyOfs.dp R h hs)
  | _, _, _, _, .pair h, .pair s hs => .tup (.of s) (PyOfs.dp R h hs)
  | _, _, _, _, .lst e h, .ref => by
    obtain ⟨u, hu, r⟩ := R _ _ e
    cases r with
    | lst hs => exact .lst (.of hu) (PyOfs.dp R h hs)
theorem PyOfs.dp {K : Bd} {M : DM} {H : Hp} (R : Rel K M H) : ∀ {n ds ps vs}, PyOfs M n ds ps → DVs K H ds vs → DpAll K H vs ps
  | _, _, _, _, .nil, .nil => .nil
  | _, _, _, _, .cons h t, .cons a b => .cons (PyOf.dp R h a) (PyOfs.dp R t b)
end

section
variable {X : Cx}
/-! ### == and != -/
/-- data without dicts, not too deep -/
def Flat (d : PyData) : Prop := d.plain = true ∧ d.depth ≤ 40
theorem PyOf.flat {M : DM} {n d p} (h : PyOf M n d p) (hn : n ≤ 40 := by decide) : Flat p := ⟨h.shape.1, Nat.le_trans h.shape.2 hn⟩
def rEqP (K : Bd) (f : PyData → PyData → Bool) : R2 := fun x y H Q => ∃ d e, Dp K H x d ∧ Dp K H y e ∧ Flat d ∧ Flat e ∧ Q (.bl (f d e)) H
theorem room_min {A : Around} {d : PyData} {k : Nat} (h : Flat d) (hu : A.units + 64 < cLine) : A.units + min d.depth k < cLine := by
  have := h.2; omega
theorem op_eqP (hu : X.A.units + 64 < cLine) : OpR X (compareOp .Eq) (rEqP X.B fun d e => PyData.eqv d e) := by
  intro pins s σ H x y v u Q I rx ry ⟨d, e, hd, he, sd, se, q⟩
  obtain ⟨as, r1⟩ := Dp.reads I d x v hd rx
  obtain ⟨bs, r2⟩ := Dp.reads I e y u he ry
  exact SeqAt.eq_plain r1 r2 sd.1 se.1 (room_min sd hu) ⟨.bl _, H, I, rfl, q⟩
theorem op_neP (hu : X.A.units + 64 < cLine) : OpR X (compareOp .NotEq) (rEqP X.B fun d e => !PyData.eqv d e) := by
  intro pins s σ H x y v u Q I rx ry ⟨d, e, hd, he, sd, se, q⟩
  obtain ⟨as, r1⟩ := Dp.reads I d x v hd rx
  obtain ⟨bs, r2⟩ := Dp.reads I e y u he ry
  exact SeqAt.ne_plain r1 r2 sd.1 se.1 (room_min sd hu) ⟨.bl _, H, I, rfl, q⟩
def eqpD (f : PyData → PyData → Bool) : R2D := fun d e M Q => ∃ p q, PyOf M 20 d p ∧ PyOf M 20 e q ∧ Q (.bl (f p q)) M
theorem o_eqp {f : PyData → PyData → Bool} : OpD X (rEqP X.B f) (eqpD f) := fun d e x y M H Qd Q dx ey R ⟨p, q, hp, hq, h⟩ c => ⟨p, q, hp.dp R dx, hq.dp R ey, hp.flat, hq.flat, c.now R .bl h⟩
abbrev eqD : R2D := eqpD fun p q => PyData.eqv p q
abbrev neD : R2D := eqpD fun p q => !PyData.eqv p q
/-! ### < and its like -/
def rCmpD (K : Bd) (f : PyData → PyData → Bool) : R2 := fun x y H Q => ∃ d e, Dp K H x d ∧ Dp K H y e ∧ Flat d ∧ PySem.W.alike d e = true ∧ d ≠ .none ∧ Q (.bl (f d e)) H
theorem room_cmp {A : Around} {d e : PyData} (h : Flat d) (hu : A.units + 64 < cLine) : A.units + min d.depth e.depth < cLine := room_min h hu
theorem op_ltD (hu : X.A.units + 64 < cLine) : OpR X (compareOp .Lt) (rCmpD X.B fun d e => PySem.W.dataLt d e) := by
  intro pins s σ H x y v u Q I rx ry ⟨d, e, hd, he, sd, al, nn, q⟩
  obtain ⟨as, r1⟩ := Dp.reads I d x v hd rx
  obtain ⟨bs, r2⟩ := Dp.reads I e y u he ry
  exact PySem.W.lt_data r1 r2 al nn (room_cmp sd hu) ⟨.bl _, H, I, rfl, q⟩
theorem op_gtD (hu : X.A.units + 64 < cLine) : OpR X (compareOp .Gt) (rCmpD X.B fun d e => PySem.W.dataLt e d) := by
  intro pins s σ H x y v u Q I rx ry ⟨d, e, hd, he, sd, al, nn, q⟩
  obtain ⟨as, r1⟩ := Dp.reads I d x v hd rx
  obtain ⟨bs, r2⟩ := Dp.reads I e y u he ry
  exact PySem.W.gt_data r1 r2 al nn (room_cmp sd hu) ⟨.bl _, H, I, rfl, q⟩
theorem op_leD (hu : X.A.units + 64 < cLine) : OpR X (compareOp .LtE) (rCmpD X.B fun d e => !PySem.W.dataLt e d) := by
  intro pins s σ H x y v u Q I rx ry ⟨d, e, hd, he, sd, al, nn, q⟩
  obtain ⟨as, r1⟩ := Dp.reads I d x v hd rx
  obtain ⟨bs, r2⟩ := Dp.reads I e y u he ry
  exact PySem.W.le_data r1 r2 al nn (room_cmp sd hu) ⟨.bl _, H, I, rfl, q⟩
theorem op_geD (hu : X.A.units + 64 < cLine) : OpR X (compareOp .GtE) (rCmpD X.B fun d e => !PySem.W.dataLt d e) := by
  intro pins s σ H x y v u Q I rx ry ⟨d, e, hd, he, sd, al, nn, q⟩
  obtain ⟨as, r1⟩ := Dp.reads I d x v hd rx
  obtain ⟨bs, r2⟩ := Dp.reads I e y u he ry
  exact PySem.W.ge_data r1 r2 al nn (room_cmp sd hu) ⟨.bl _, H, I, rfl, q⟩
def cmpD (f : PyData → PyData → Bool) : R2D := fun d e M Q => ∃ p q, PyOf M 20 d p ∧ PyOf M 20 e q ∧ PySem.W.alike p q = true ∧ p ≠ .none ∧ Q (.bl (f p q)) M
theorem o_cmp {f : PyData → PyData → Bool} : OpD X (rCmpD X.B f) (cmpD f) := fun d e x y M H Qd Q dx ey R ⟨p, q, hp, hq, al, nn, h⟩ c => ⟨p, q, hp.dp R dx, hq.dp R ey, hp.flat, al, nn, c.now R .bl h⟩
abbrev ltD : R2D := cmpD fun p q => PySem.W.dataLt p q
abbrev gtD : R2D := cmpD fun p q => PySem.W.dataLt q p
abbrev leD : R2D := cmpD fun p q => !PySem.W.dataLt q p
abbrev geD : R2D := cmpD fun p q => !PySem.W.dataLt p q
/-! ### in and not in: lists, tuples -/
def rMemD (K : Bd) (neg : Bool) : R2 := fun x y H Q => ∃ d ds, Dp K H x d ∧ (Dp K H y (.list ds) ∨ Dp K H y (.tuple ds)) ∧ PyData.plainAll ds = true ∧ Flat d ∧
  Q (.bl (if neg then !ds.any fun z => PyData.eqv z d else ds.any fun z => PyData.eqv z d)) H
theorem op_memD (hu : X.A.units + 64 < cLine) : OpR X (compareOp .In) (rMemD X.B false) := by
  intro pins s σ H x y v u Q I rx ry ⟨d, ds, hd, he, sp, sd, q⟩
  have room : X.A.units + 1 + min (PyData.depthAll ds) d.depth < cLine := by have := sd.2; omega
  obtain ⟨as, r1⟩ := Dp.reads I d x v hd rx
  rcases he with he | he
  · obtain ⟨bs, r2⟩ := Dp.reads I (.list ds) y u he ry
    exact SeqAt.in_list_data r2 r1 sp sd.1 room ⟨.bl _, H, I, rfl, q⟩
  · obtain ⟨bs, r2⟩ := Dp.reads I (.tuple ds) y u he ry
    exact SeqAt.in_tuple_data r2 r1 sp sd.1 room ⟨.bl _, H, I, rfl, q⟩
theorem op_nmemD (hu : X.A.units + 64 < cLine) : OpR X (compareOp .NotIn) (rMemD X.B true) := by
  intro pins s σ H x y v u Q I rx ry ⟨d, ds, hd, he, sp, sd, q⟩
  have room : X.A.units + 1 + min (PyData.depthAll ds) d.depth < cLine := by have := sd.2; omega
  obtain ⟨as, r1⟩ := Dp.reads I d x v hd rx
  rcases he with he | he
  · obtain ⟨bs, r2⟩ := Dp.reads I (.list ds) y u he ry
    exact SeqAt.notIn_list_data r2 r1 sp sd.1 room ⟨.bl _, H, I, rfl, q⟩
  · obtain ⟨bs, r2⟩ := Dp.reads I (.tuple ds) y u he ry
    exact SeqAt.notIn_tuple_data r2 r1 sp sd.1 room ⟨.bl _, H, I, rfl, q⟩
/-- a sequence's items -/
def SeqIs (M : DM) (e : D) (xs : List D) : Prop := e = .tup xs ∨ ∃ a, e = .ref a ∧ M a = some (.lst xs)
def memD (neg : Bool) : R2D := fun d e M Q => ∃ p xs ps, SeqIs M e xs ∧ PyOf M 20 d p ∧ PyOfs M 20 xs ps ∧ Q (.bl (if neg then !ps.any fun z => PyData.eqv z p else ps.any fun z => PyData.eqv z p)) M
theorem o_mem {neg : Bool} : OpD X (rMemD X.B neg) (memD neg) := fun d e x y M H Qd Q dx ey R ⟨p, xs, ps, sq, hp, hs, h⟩ c => by
  refine ⟨p, ps, hp.dp R dx, ?_, hs.shape.1, hp.flat, c.now R .bl h⟩
  rcases sq with rfl | ⟨a, rfl, ea⟩
  · have g : PyOf M 21 (.tup xs) (.tuple ps) := .tup hs
    exact .inr (g.dp R ey)
  · have g : PyOf M 21 (.ref a) (.list ps) := .lst ea hs
    exact .inl (g.dp R ey)
/-! ### is None -/
def isN : R2D := fun d e M Q => e = .non ∧ Q (.bl (match d with
  | .non => true
  | _ => false)) M
def notN : R2D := fun d e M Q => e = .non ∧ Q (.bl (match d with
  | .non => false
  | _ => true)) M
theorem o_isN : OpD X (fun x y H Q => y = .non ∧ Q (.bl (decide (x = .non))) H) isN := fun d e x y M H Qd Q dx ey R ⟨he, h⟩ c => by
  subst he; cases ey
  refine ⟨rfl, ?_⟩
  cases dx <;> exact c.now R .bl h
theorem o_notN : OpD X (fun x y H Q => y = .non ∧ Q (.bl (!decide (x = .non))) H) notN := fun d e x y M H Qd Q dx ey R ⟨he, h⟩ c => by
  subst he; cases ey
  refine ⟨rfl, ?_⟩
  cases dx <;> exact c.now R .bl h
/-! ### + - * // % ** -/
def addD : R2D := fun d e M Q => match d, e with
  | .int i, .int j => Q (.int (i + j)) M
  | .str a, .str b => a.length + b.length ≤ sizeLine ∧ Q (.str (a ++ b)) M
  | .tup xs, .tup ys => xs.length + ys.length ≤ sizeLine ∧ Q (.tup (xs ++ ys)) M
  | .ref a, .ref b => ∃ xs ys, M a = some (.lst xs) ∧ M b = some (.lst ys) ∧ xs.length + ys.length ≤ sizeLine ∧ ∀ p, M p = none → Q (.ref p) (put M p (.lst (xs ++ ys)))
  | _, _ => False
def rAddA (K : Bd) : R2 := fun x y H Q => (rI0 (fun i j => .int (i + j)) x y H Q ∨ (∃ i j, x = .str i ∧ y = .str j ∧ i.length + j.length ≤ sizeLine ∧ Q (.str (i ++ j)) H)) ∨ (rCatF K x y H Q ∨ rCat x y H Q)
theorem op_addA : OpR X (binaryOp .Add) (rAddA X.B) := (op_add.or op_add_str).or (op_catF.or op_cat)
theorem o_add : OpD X (rAddA X.B) addD := fun d e x y M H Qd Q dx ey R h c => by
  cases dx with
  | int =>
    cases ey with
    | int => exact .inl (.inl ⟨_, _, rfl, rfl, c.now R .int h⟩)
    | _ => exact h.elim
  | str =>
    cases ey with
    | str => exact .inl (.inr ⟨_, _, rfl, rfl, h.1, c.now R .str h.2⟩)
    | _ => exact h.elim
  | @tup a o1 ds vs s1 n1 h1 =>
    cases ey with
    | @tup b o2 es ws s2 n2 h2 =>
      obtain ⟨hl, hq⟩ := h
      refine .inr (.inl ⟨a, b, vs, ws, rfl, rfl, .inl (.inr ⟨_, s1⟩), .inl (.inr ⟨_, s2⟩), by rw [← h1.length, ← h2.length]; exact hl, fun e => ?_, fun n e => ?_, fun _ _ p o hp hn => ?_⟩)
      · subst e; cases h1
        exact c.now R (.tup s2 n2 h2) hq
      · subst e; cases h2
        rw [List.append_nil] at hq
        exact c.now R (.tup s1 n1 h1) hq
      · exact c _ _ M _ (.newtup hp hn (h1.append h2)) (R.hidden hp _) (.hidden R hp _) hq
    | _ => exact h.elim
  | ref =>
    cases ey with
    | ref =>
      obtain ⟨xs, ys, e1, e2, hl, hq⟩ := h
      obtain ⟨u1, g1, r1⟩ := R _ _ e1
      obtain ⟨u2, g2, r2⟩ := R _ _ e2
      cases r1 with
      | lst h1 =>
        cases r2 with
        | lst h2 =>
          exact .inr (.inr ⟨_, _, _, _, rfl, rfl, g1, g2, by rw [← h1.length, ← h2.length]; exact hl, fun p hp => c _ _ _ _ .ref (R.new hp (.lst (h1.append h2))) (.new R hp _ _) (hq p (R.free hp))⟩)
    | _ => exact h.elim
  | _ => exact h.elim
def intOp (C : Int → Int → Prop) (g : Int → Int → Int) : R2D := fun d e M Q => match d, e with
  | .int i, .int j => C i j ∧ Q (.int (g i j)) M
  | _, _ => False
theorem o_int {C : Int → Int → Prop} {g : Int → Int → Int} : OpD X (rI C fun i j => .int (g i j)) (intOp C g) := fun d e x y M H Qd Q dx ey R h c => by
  cases dx with
  | int =>
    cases ey with
    | int => exact ⟨_, _, rfl, rfl, h.1, c.now R .int h.2⟩
    | _ => exact h.elim
  | _ => exact h.elim
def intOp0 (g : Int → Int → Int) : R2D := fun d e M Q => match d, e with
  | .int i, .int j => Q (.int (g i j)) M
  | _, _ => False
theorem o_int0 {g : Int → Int → Int} : OpD X (rI0 fun i j => .int (g i j)) (intOp0 g) := fun d e x y M H Qd Q dx ey R h c => by
  cases dx with
  | int =>
    cases ey with
    | int => exact ⟨_, _, rfl, rfl, c.now R .int h⟩
    | _ => exact h.elim
  | _ => exact h.elim
abbrev subD : R2D := intOp0 fun i j => i - j
abbrev mulI : R2D := intOp CMul fun i j => i * j
abbrev fdivD : R2D := intOp CDiv fun i j => i / j
abbrev modD : R2D := intOp (fun _ j => 0 < j) fun i j => i % j
abbrev powD : R2D := intOp CPow fun i j => i ^ j.toNat
def negD : R1D := fun d M Q => match d with
  | .int i => Q (.int (-i)) M
  | _ => False
theorem de_neg {W : WX} {a : Expr} {ta : TED} {pos : Pos} (ha : PE X a (lE X.B W ta)) : PE X (.UnaryOp .USub a pos) (lE X.B W (dUn negD ta)) :=
  PE.imp (pe_un un_neg ha) fun σ H Q h => lift1 (r := rU fun i => .int (-i)) (fun d x M H Qd Q dx R h c => by
    cases dx with
    | int => exact ⟨_, rfl, c.now R .int h⟩
    | _ => exact h.elim) h
/-! ### items, slices -/
def ixD : R2D := fun d e M Q => match e with
  | .int i => (match d with
    | .tup xs => ∃ v, atI xs i = some v ∧ Q v M
    | .pair xs => ∃ v, atI xs i = some v ∧ Q v M
    | .ref a => ∃ xs v, M a = some (.lst xs) ∧ atI xs i = some v ∧ Q v M
    | .str z => ∃ c, z.length ≤ sizeLine ∧ atI z.cps.toList i = some c ∧ Q (.str ⟨#[c]⟩) M
    | _ => False)
  | _ => False
theorem DVs.atI {K : Bd} {H : Hp} {ds : List D} {vs : List V} (h : DVs K H ds vs) {i : Int} {d : D} (e : L2.atI ds i = some d) : ∃ v, L2.atI vs i = some v ∧ DV K H d v := by
  unfold L2.atI at e ⊢
  rw [← h.length]
  cases q : ixN ds.length i with
  | none => rw [q] at e; cases e
  | some j =>
    rw [q] at e
    exact h.get e
theorem o_ix : OpD X (rIx X.B) ixD := fun d e x y M H Qd Q dx ey R h c => by
  cases ey with
  | int =>
    cases dx with
    | tup s1 _ h1 =>
      obtain ⟨v, hv, q⟩ := h
      obtain ⟨w, hw, r⟩ := h1.atI hv
      exact .inr (.inl ⟨_, _, _, w, rfl, rfl, .inl (.inr ⟨_, s1⟩), hw, c.now R r q⟩)
    | pair s1 h1 =>
      obtain ⟨v, hv, q⟩ := h
      obtain ⟨w, hw, r⟩ := h1.atI hv
      exact .inr (.inl ⟨_, _, _, w, rfl, rfl, .of s1, hw, c.now R r q⟩)
    | ref =>
      obtain ⟨xs, v, ea, hv, q⟩ := h
      obtain ⟨u, hu, r⟩ := R _ _ ea
      cases r with
      | lst h1 =>
        obtain ⟨w, hw, r⟩ := h1.atI hv
        exact .inl ⟨_, _, _, w, rfl, rfl, .of hu, hw, c.now R r q⟩
    | str =>
      obtain ⟨v, hl, hv, q⟩ := h
      exact .inr (.inr ⟨_, _, v, rfl, rfl, hl, hv, c.now R .str q⟩)
    | _ => exact h.elim
  | _ => exact h.elim
theorem de_ix {W : WX} {a b : Expr} {ta tb : TED} {pos : Pos} (ha : PE X a (lE X.B W ta)) (hb : PE X b (lE X.B W tb)) (hs : PlainIx b := by intro _ _; rfl) : PE X (.Subscript a b pos) (lE X.B W (dOp ixD ta tb)) :=
  PE.imp (pe_ix ix_seq ha hb hs) fun _ _ _ h => lift2 o_ix h
def cutD {α : Type} (xs : List α) (lo hi : Option Int) : List α := (xs.drop (HT.sIx xs.length 0 lo)).take (HT.sIx xs.length xs.length hi - HT.sIx xs.length 0 lo)
theorem DVs.cut {K : Bd} {H : Hp} {ds : List D} {vs : List V} (h : DVs K H ds vs) (lo hi : Option Int) : DVs K H (cutD ds lo hi) (cutV vs lo hi) := by
  unfold cutD cutV
  rw [← h.length]
  exact (h.drop _).take _
theorem cutD_whole {α : Type} {xs : List α} {lo hi : Option Int} (h : HT.sIx xs.length 0 lo = 0 ∧ HT.sIx xs.length xs.length hi = xs.length) : cutD xs lo hi = xs := by
  unfold cutD
  rw [h.1, h.2]
  simp
abbrev RSD := D → Option Int → Option Int → DM → DQ → Prop
def slD : RSD := fun d lo hi M Q => match d with
  | .tup xs => Q (.tup (cutD xs lo hi)) M
  | .scr xs => ∀ p, M p = none → Q (.ref p) (put M p (.lst (cutD xs lo hi)))
  | .ref a => ∃ xs, M a = some (.lst xs) ∧ ∀ p, M p = none → Q (.ref p) (put M p (.lst (cutD xs lo hi)))
  | .str z => z.length ≤ sizeLine ∧ Q (.str (cutS z lo hi)) M
  | _ => False
def rSlAll (K : Bd) : V → Option Int → Option Int → Hp → VK → Prop := fun x lo hi H Q => (rSlL K x lo hi H Q ∨ rSlF K x lo hi H Q) ∨ (∃ z, x = .str z ∧ z.length ≤ sizeLine ∧ Q (.str (cutS z lo hi)) H)
/-- an optional bound -/
abbrev TOD := Std → DM → (Option Int → DM → Prop) → DX → Prop
def dNo : TOD := fun _ M Q _ => Q none M
def dPart (t : TED) : TOD := fun σ M Q E => t σ M (fun d M1 => match d with
  | .int i => Q (some i) M1
  | _ => False) E
def dSl (te : TED) (tl th : TOD) : TED := fun σ M Q E => te σ M (fun d M1 => tl σ M1 (fun lo M2 => th σ M2 (fun hi M3 => slD d lo hi M3 Q) E) E) E
def lO (K : Bd) (W : WX) (t : TOD) : TO := fun σ H Q => ∃ σd M Qd E, RelS K H σd σ ∧ Rel K M H ∧ t σd M Qd E ∧ (∀ b M' H', Rel K M' H' → Keep M H M' H' → Qd b M' → Q b H') ∧ CnX K M H E (fun c d h => W c d σ h)
theorem do_no {W : WX} : PO X none (lO X.B W dNo) := ⟨fun pins s σ H Q I ⟨σd, M, Qd, E, S, R, t, c, cx⟩ => po_none.run pins s σ H Q I (c none M H R .refl t)⟩
theorem do_some {W : WX} {e : Expr} {t : TED} (h : PE X e (lE X.B W t)) : PO X (some e) (lO X.B W (dPart t)) := ⟨fun pins s σ H Q I ⟨σd, M, Qd, E, S, R, t, c, cx⟩ => (po_some h).run pins s σ H Q I
  ⟨σd, M, _, E, S, R, t, fun d v M1 H1 dv R1 k1 q1 => by
    cases dv with
    | int => exact ⟨_, rfl, c _ M1 H1 R1 k1 q1⟩
    | _ => exact q1.elim, cx⟩⟩
end
end Dt

set_option Elab.async false
set_option autoImplicit false
set_option linter.all false
set_option maxRecDepth 100000
set_option maxHeartbeats 4000000
/-! DD: targets, statements, loops, comprehensions. -/
namespace Dt
open PySem PySem.Spec PyProof.Rows L2 LamX

structure DEnds where
  nx : Std → DM → Prop
  rt : DQ
  bk : Std → DM → Prop
  ct : Std → DM → Prop
  ex : Std → DX
abbrev TSD := DEnds → Std → DM → Prop
/-- nothing is wanted of exceptions -/
abbrev noX : DX := fun _ _ _ => False
abbrev w0 : WX := fun _ _ _ _ => False
structure CnS (K : Bd) (W : WX) (M : DM) (H : Hp) (Dd : DEnds) (D : Ends) : Prop where
  nx : ∀ σd' σ' M' H', RelS K H' σd' σ' → Rel K M' H' → Keep M H M' H' → Dd.nx σd' M' → D.nx σ' H'
  rt : CnE K M H Dd.rt D.rt
  bk : ∀ σd' σ' M' H', RelS K H' σd' σ' → Rel K M' H' → Keep M H M' H' → Dd.bk σd' M' → D.bk σ' H'
  ct : ∀ σd' σ' M' H', RelS K H' σd' σ' → Rel K M' H' → Keep M H M' H' → Dd.ct σd' M' → D.ct σ' H'
  ex : ∀ σd' σ' C fs d M' H', RelS K H' σd' σ' → XD K H' d fs → Rel K M' H' → Keep M H M' H' → Dd.ex σd' C fs M' → W (.ref C) d σ' H'
section
variable {K : Bd} {W : WX} {M M1 : DM} {H H1 : Hp} {Dd : DEnds} {D : Ends}
theorem CnS.after (c : CnS K W M H Dd D) (k : Keep M H M1 H1) : CnS K W M1 H1 Dd D where
  nx := fun σd' σ' M' H' S R k2 q => c.nx σd' σ' M' H' S R (k.trans k2) q
  rt := c.rt.after k
  bk := fun σd' σ' M' H' S R k2 q => c.bk σd' σ' M' H' S R (k.trans k2) q
  ct := fun σd' σ' M' H' S R k2 q => c.ct σd' σ' M' H' S R (k.trans k2) q
  ex := fun σd' σ' C fs d M' H' S x R k2 q => c.ex σd' σ' C fs d M' H' S x R (k.trans k2) q
theorem CnS.cx (c : CnS K W M H Dd D) {σd : Std} {σ : L2.St} (S : RelS K H σd σ) (R : Rel K M H) : CnX K M H (Dd.ex σd) (fun c d h => W c d σ h) := fun C fs d M' H' x R' k e => c.ex σd σ C fs d M' H' (S.mono (k.tups R)) x R' k e
end
def lS (K : Bd) (W : WX) (t : TSD) : TS := fun D σ H => ∃ σd M Dd, RelS K H σd σ ∧ Rel K M H ∧ t Dd σd M ∧ CnS K W M H Dd D

/-! ### targets -/
abbrev TGD := D → Std → DM → (Std → DM → Prop) → DX → Prop
abbrev TGsD := List D → Std → DM → (Std → DM → Prop) → DX → Prop
/-- slots off vs stay -/
def Off (vs : List Nat) (σ σ' : L2.St) : Prop := σ'.length = σ.length ∧ ∀ i : Nat, i ∉ vs → σ'[i]? = σ[i]?
theorem Off.refl {vs : List Nat} {σ : L2.St} : Off vs σ σ := ⟨rfl, fun _ _ => rfl⟩
theorem Off.trans {vs : List Nat} {σ σ1 σ2 : L2.St} (a : Off vs σ σ1) (b : Off vs σ1 σ2) : Off vs σ σ2 := ⟨b.1.trans a.1, fun i h => (b.2 i h).trans (a.2 i h)⟩
theorem Off.set {vs : List Nat} {σ : L2.St} {i : Nat} {v : V} (h : i ∈ vs) : Off vs σ (σ.set i (some v)) := ⟨by simp, fun j hj => by
  rw [List.getElem?_set_ne]; intro e; subst e; exact hj h⟩
theorem wipe_at {σ : L2.St} {i : Nat} : ∀ {vs : List Nat}, (wipe σ vs)[i]? = if i ∈ vs then (σ[i]?).map (fun _ => none) else σ[i]?
  | [] => by simp [wipe]
  | v :: vs => by
    unfold wipe
    by_cases hi : v = i
    · subst hi
      by_cases hv : v < σ.length
      · rw [List.getElem?_set_self (by rw [wipe_length]; exact hv)]; simp [hv]
      · rw [List.getElem?_eq_none (by simpa [wipe_length] using hv)]; simp [List.getElem?_eq_none (Nat.le_of_not_lt hv)]
    · rw [List.getElem?_set_ne hi, wipe_at]
      have : (i = v) = False := by simp; exact fun e => hi e.symm
      simp [this]
theorem Off.wipe {vs : List Nat} {σ σ' : L2.St} (o : Off vs σ σ') : wipe σ' vs = wipe σ vs := by
  apply List.ext_getElem?
  intro i
  rw [wipe_at, wipe_at]
  by_cases h : i ∈ vs
  · rw [if_pos h, if_pos h]
    by_cases hl : i < σ.length
    · rw [List.getElem?_eq_getElem hl, List.getElem?_eq_getElem (by rw [o.1]; exact hl)]; rfl
    · rw [List.getElem?_eq_none (Nat.le_of_not_lt hl), List.getElem?_eq_none (by rw [o.1]; exact Nat.le_of_not_lt hl)]
  · rw [if_neg h, if_neg h, o.2 i h]
theorem Off.wiped {vs : List Nat} {σ : L2.St} : Off vs σ (L2.wipe σ vs) := ⟨wipe_length _ _, fun i h => by rw [wipe_at, if_neg h]⟩
def lG (K : Bd) (W : WX) (vs : List Nat) (g : TGD) : TG := fun v σ H Q => ∃ d σd M Qd E, DV K H d v ∧ RelS K H σd σ ∧ Rel K M H ∧ g d σd M Qd E ∧
  (∀ σd' σ' M' H', Off vs σ σ' → RelS K H' σd' σ' → Rel K M' H' → Keep M H M' H' → Qd σd' M' → Q σ' H') ∧ CnX K M H E (fun c d h => W c d σ h)
def lGs (K : Bd) (W : WX) (vs : List Nat) (g : TGsD) : TGs := fun ws σ H Q => ∃ ds σd M Qd E, DVs K H ds ws ∧ RelS K H σd σ ∧ Rel K M H ∧ g ds σd M Qd E ∧
  (∀ σd' σ' M' H', Off vs σ σ' → RelS K H' σd' σ' → Rel K M' H' → Keep M H M' H' → Qd σd' M' → Q σ' H') ∧ CnX K M H E (fun c d h => W c d σ h)
theorem PG.imp {X : Cx} {e : Expr} {t t' : TG} (h : PG X e t) (i : ∀ v σ H Q, t' v σ H Q → t v σ H Q) : PG X e t' := ⟨fun pins s σ H v u Q I r hw => h.run pins s σ H v u Q I r (i _ _ _ _ hw)⟩
theorem PGs.imp {X : Cx} {e : List Expr} {t t' : TGs} (h : PGs X e t) (i : ∀ v σ H Q, t' v σ H Q → t v σ H Q) : PGs X e t' := ⟨fun pins s σ H v u Q I r hw => h.run pins s σ H v u Q I r (i _ _ _ _ hw)⟩
theorem CnX.slots {K : Bd} {M : DM} {H : Hp} {E : DX} {W : XK} (c : CnX K M H E W) : CnX K M H E W := c
section
variable {X : Cx} {W : WX}
def gNm (i : Nat) : TGD := fun d σ M Q _ => Q (setS σ i d) M
theorem dg_name {i : Nat} {e : Expr} {vs : List Nat} (h : PG X e (gName i)) (hi : i ∈ vs) : PG X e (lG X.B W vs (gNm i)) := PG.imp h fun v σ H Q ⟨d, σd, M, Qd, E, dv, S, R, t, c, cx⟩ => c _ _ M H (.set hi) (S.set dv i) R .refl t
def gNilD : TGsD := fun ds σ M Q _ => match ds with
  | [] => Q σ M
  | _ => False
def gConsD (g : TGD) (gs : TGsD) : TGsD := fun ds σ M Q E => match ds with
  | d :: r => g d σ M (fun σ1 M1 => gs r σ1 M1 Q E) E
  | [] => False
theorem dgs_nil {vs : List Nat} : PGs X [] (lGs X.B W vs gNilD) := PGs.imp pgs_nil fun ws σ H Q ⟨ds, σd, M, Qd, E, dv, S, R, t, c, cx⟩ => by
  cases dv with
  | nil => exact ⟨rfl, c _ _ M H .refl S R .refl t⟩
  | cons => exact t.elim
/-- a target whose exceptions are none -/
theorem dgs_cons {e : Expr} {es : List Expr} {vs : List Nat} {g : TGD} {gs : TGsD} (h1 : PG X e (lG X.B w0 vs g)) (h2 : PGs X es (lGs X.B w0 vs gs)) (hs : (assignEach (e :: es) X.env).map (·.2) = assign e X.env :: (assignEach es X.env).map (·.2) := by rfl) : PGs X (e :: es) (lGs X.B w0 vs (gConsD g gs)) :=
  PGs.imp (pgs_cons h1 h2 hs) fun ws σ H Q ⟨ds, σd, M, Qd, E, dv, S, R, t, c, cx⟩ => by
    cases dv with
    | nil => exact t.elim
    | @cons d v ds ws a b => exact ⟨v, ws, rfl, d, σd, M, _, E, a, S, R, t, fun σd1 σ1 M1 H1 o1 S1 R1 k1 q1 => ⟨ds, σd1, M1, Qd, E, b.mono (k1.tups R), S1, R1, q1,
        fun σd2 σ2 M2 H2 o2 S2 R2 k2 q2 => c σd2 σ2 M2 H2 (o1.trans o2) S2 R2 (k1.trans k2) q2, (cx.after k1)⟩, cx⟩
def gUn (n : Nat) (gs : TGsD) : TGD := fun d σ M Q E => match d with
  | .tup xs => xs.length = n ∧ gs xs σ M Q E
  | .pair xs => xs.length = n ∧ gs xs σ M Q E
  | .ref a => ∃ xs, M a = some (.lst xs) ∧ xs.length = n ∧ gs xs σ M Q E
  | _ => False
theorem pg_or {e : Expr} {t u : TG} (h : PG X e t) (g : PG X e u) : PG X e (fun v σ H Q => t v σ H Q ∨ u v σ H Q) := ⟨fun pins s σ H v w Q I r hw => hw.elim (fun q => h.run pins s σ H v w Q I r q) fun q => g.run pins s σ H v w Q I r q⟩
theorem dg_un {es : List Expr} {k : Nat} {pos : Pos} {n : Nat} {vs : List Nat} {gs : TGsD} (hc : X.calm = true) (h : PGs X es (lGs X.B w0 vs gs)) (hn : (assignEach es X.env).length = n := by rfl) (hst : (assignEach es X.env).findIdx? (·.1) = none := by rfl) : PG X (.Tuple es k pos) (lG X.B w0 vs (gUn n gs)) :=
  PG.imp (pg_or (pg_tup hc h hn hst) (pg_lst hc h hn hst)) fun v σ H Q ⟨d, σd, M, Qd, E, dv, S, R, t, c, cx⟩ => by
    cases dv with
    | @tup a o ds ws s1 _ h1 => exact .inl ⟨a, ws, rfl, sqF .refl s1, by rw [← h1.length]; exact t.1, ds, σd, M, Qd, E, h1, S, R, t.2, c, cx⟩
    | @pair a ds ws s1 h1 => exact .inl ⟨a, ws, rfl, .of s1, by rw [← h1.length]; exact t.1, ds, σd, M, Qd, E, h1, S, R, t.2, c, cx⟩
    | ref =>
      obtain ⟨xs, ea, hl, q⟩ := t
      obtain ⟨u, hu, r⟩ := R _ _ ea
      cases r with
      | lst h1 => exact .inr ⟨_, _, rfl, .of hu, by rw [← h1.length]; exact hl, xs, σd, M, Qd, E, h1, S, R, q, c, cx⟩
    | _ => exact t.elim

/-! ### statements -/
def dNext : TSD := fun D σ M => D.nx σ M
def dSeq (t u : TSD) : TSD := fun D σ M => t { D with nx := fun σ' M' => u D σ' M' } σ M
theorem ds_nil : PSs X [] (lS X.B W dNext) := PSs.imp pss_nil fun D σ H ⟨σd, M, Dd, S, R, t, c⟩ => c.nx _ _ M H S R .refl t
theorem ds_cons {st : Stmt} {rest : List Stmt} {t u : TSD} (h1 : PS X st (lS X.B W t)) (h2 : PSs X rest (lS X.B W u)) : PSs X (st :: rest) (lS X.B W (dSeq t u)) :=
  PSs.imp (pss_cons h1 h2) fun D σ H ⟨σd, M, Dd, S, R, t, c⟩ => ⟨σd, M, _, S, R, t, ⟨fun σd1 σ1 M1 H1 S1 R1 k1 q1 => ⟨σd1, M1, Dd, S1, R1, q1, c.after k1⟩, c.rt, c.bk, c.ct, c.ex⟩⟩
theorem ds_one {st : Stmt} {t : TSD} (h1 : PS X st (lS X.B W t)) : PSs X [st] (lS X.B W t) := pss_one h1
theorem ds_pass {pos : Pos} : PS X (.Pass pos) (lS X.B W dNext) := PS.imp ps_pass fun D σ H ⟨σd, M, Dd, S, R, t, c⟩ => c.nx _ _ M H S R .refl t
def dBreak : TSD := fun D σ M => D.bk σ M
def dCont : TSD := fun D σ M => D.ct σ M
theorem ds_break {pos : Pos} : PS X (.Break pos) (lS X.B W dBreak) := PS.imp ps_break fun D σ H ⟨σd, M, Dd, S, R, t, c⟩ => c.bk _ _ M H S R .refl t
theorem ds_continue {pos : Pos} : PS X (.Continue pos) (lS X.B W dCont) := PS.imp ps_continue fun D σ H ⟨σd, M, Dd, S, R, t, c⟩ => c.ct _ _ M H S R .refl t
def dDrop (te : TED) : TSD := fun D σ M => te σ M (fun _ M1 => D.nx σ M1) (D.ex σ)
theorem ds_expr {e : Expr} {te : TED} {pos : Pos} (h : PE X e (lE X.B W te)) (hs : swapsWith e none pos.line X.env = pure false := by rfl) : PS X (.Expr e pos) (lS X.B W (dDrop te)) :=
  PS.imp (ps_expr h hs) fun D σ H ⟨σd, M, Dd, S, R, t, c⟩ => ⟨σd, M, _, _, S, R, t, fun d v M1 H1 dv R1 k1 q => c.nx _ _ M1 H1 (S.mono (k1.tups R)) R1 k1 q, c.cx S R⟩
def dRet (te : TED) : TSD := fun D σ M => te σ M D.rt (D.ex σ)
theorem ds_ret {e : Expr} {te : TED} {pos : Pos} (h : PE X e (lE X.B W te)) : PS X (.Return (some e) pos) (lS X.B W (dRet te)) :=
  PS.imp (ps_ret h) fun D σ H ⟨σd, M, Dd, S, R, t, c⟩ => ⟨σd, M, _, _, S, R, t, c.rt, c.cx S R⟩
def dRetN : TSD := fun D _ M => D.rt .non M
theorem ds_retN {pos : Pos} : PS X (.Return none pos) (lS X.B W dRetN) := PS.imp ps_retN fun D σ H ⟨σd, M, Dd, S, R, t, c⟩ => c.rt.now R .non t
def dIfS (tc : TTD) (t u : TSD) : TSD := fun D σ M => tc σ M (fun b M1 => match b with
  | true => t D σ M1
  | false => u D σ M1) (D.ex σ)
theorem ds_if {c : Expr} {a b : List Stmt} {tc : TTD} {t u : TSD} {pos : Pos} (hc : PT X c (lT X.B W tc)) (ha : PSs X a (lS X.B W t)) (hb : PSs X b (lS X.B W u)) : PS X (.If c a b pos) (lS X.B W (dIfS tc t u)) :=
  PS.imp (ps_if hc ha hb) fun D σ H ⟨σd, M, Dd, S, R, t, c⟩ => ⟨σd, M, _, _, S, R, t, fun b M1 H1 R1 k1 q => by
    cases b with
    | true => exact ⟨σd, M1, Dd, S.mono (k1.tups R), R1, q, c.after k1⟩
    | false => exact ⟨σd, M1, Dd, S.mono (k1.tups R), R1, q, c.after k1⟩, c.cx S R⟩
def dNever : TSD := fun _ _ _ => False
theorem ds_never {st : Stmt} : PS X st (lS X.B W dNever) := PS.imp ps_never fun D σ H ⟨σd, M, Dd, S, R, t, c⟩ => t
theorem dss_never {st : List Stmt} : PSs X st (lS X.B W dNever) := PSs.imp pss_never fun D σ H ⟨σd, M, Dd, S, R, t, c⟩ => t
def dAsg (te : TED) (g : TGD) : TSD := fun D σ M => te σ M (fun d M1 => g d σ M1 (fun σ' M' => D.nx σ' M') (D.ex σ)) (D.ex σ)
theorem lift_asg {te : TED} {g : TGD} {vs : List Nat} {D : Ends} {σ : L2.St} {H : Hp} (h : lS X.B W (dAsg te g) D σ H) : tAsg (lE X.B W te) (lG X.B W vs g) D σ H := by
  obtain ⟨σd, M, Dd, S, R, t, c⟩ := h
  exact ⟨σd, M, _, _, S, R, t, fun d v M1 H1 dv R1 k1 q => ⟨d, σd, M1, _, _, dv, S.mono (k1.tups R), R1, q, fun σd' σ' M' H' _ S' R' k' q' => c.nx _ _ M' H' S' R' (k1.trans k') q', (c.cx S R).after k1⟩, c.cx S R⟩
theorem ds_asg {tg e : Expr} {te : TED} {g : TGD} {vs : List Nat} {pos : Pos} (he : PE X e (lE X.B W te)) (hg : PG X tg (lG X.B W vs g)) (hs : swapsWithSole [tg] e pos.line X.env = pure false := by rfl) (hw : swappedStores [tg] e X.env = pure none := by rfl)
    (h1 : (assignEach [tg] X.env).map (·.2) = [assign tg X.env] := by rfl) : PS X (.Assign [tg] e pos) (lS X.B W (dAsg te g)) := PS.imp (ps_asg he hg hs hw h1) fun _ _ _ h => lift_asg h
/-- a name's store, whatever rule gives it -/
theorem lift_set {te : TED} {i : Nat} {D : Ends} {σ : L2.St} {H : Hp} (h : lS X.B W (dAsg te (gNm i)) D σ H) : tAsg (lE X.B W te) (gName i) D σ H := by
  obtain ⟨σd, M, Dd, S, R, t, c⟩ := h
  exact ⟨σd, M, _, _, S, R, t, fun d v M1 H1 dv R1 k1 q => c.nx _ _ M1 H1 ((S.mono (k1.tups R)).set dv i) R1 k1 q, c.cx S R⟩
theorem ds_set {st : Stmt} {te : TED} {i : Nat} (h : PS X st (tAsg (lE X.B W te) (gName i))) : PS X st (lS X.B W (dAsg te (gNm i))) := PS.imp h fun _ _ _ h => lift_set h
/-- a, b = x, y: names, stored at once -/
def dPar (i j : Nat) (ta : TAD) : TSD := fun D σ M => ta σ M (fun ds M1 => match ds with
  | [d, e] => D.nx (setS (setS σ i d) j e) M1
  | _ => False) (D.ex σ)
theorem ds_par {st : Stmt} {ta : TAD} {i j : Nat} (h : PS X st (tPar i j (lA X.B W ta))) : PS X st (lS X.B W (dPar i j ta)) := PS.imp h fun D σ H ⟨σd, M, Dd, S, R, t, c⟩ =>
  ⟨σd, M, _, _, S, R, t, fun ds vs M1 H1 dvs R1 k1 q => by
    cases dvs with
    | nil => exact q.elim
    | cons a b =>
      cases b with
      | nil => exact q.elim
      | cons a' b' =>
        cases b' with
        | nil => exact ⟨_, _, rfl, c.nx _ _ M1 H1 (((S.mono (k1.tups R)).set a i).set a' j) R1 k1 q⟩
        | cons => exact q.elim, c.cx S R⟩
/-- x op= e of a name -/
def dAug (i : Nat) (rd : R2D) (te : TED) : TSD := fun D σ M => match slot σ i with
  | some d => te σ M (fun e M1 => rd d e M1 (fun z M2 => D.nx (setS σ i z) M2)) (D.ex σ)
  | none => False
theorem ds_aug {st : Stmt} {te : TED} {i : Nat} {r : R2} {rd : R2D} (hr : OpD X r rd) (h : PS X st (tAug i (lE X.B W te) r)) : PS X st (lS X.B W (dAug i rd te)) := PS.imp h fun D σ H ⟨σd, M, Dd, S, R, t, c⟩ => by
  have t' : (match slot σd i with
    | some d => te σd M (fun e M1 => rd d e M1 (fun z M2 => Dd.nx (setS σd i z) M2)) (Dd.ex σd)
    | none => False) := t
  cases e : slot σd i with
  | none => rw [e] at t'; exact t'.elim
  | some d =>
    rw [e] at t'
    obtain ⟨v, e2, q⟩ := S.2 i d (slot_eq _ _ _ e)
    exact ⟨v, e2, σd, M, _, _, S, R, t', fun f w M1 H1 dv R1 k1 q1 => hr d f v w M1 H1 _ _ (q.mono (k1.tups R)) dv R1 q1 fun z zv M2 H2 zr R2 k2 q2 => c.nx _ _ M2 H2 ((S.mono ((k1.trans k2).tups R)).set zr i) R2 (k1.trans k2) q2, c.cx S R⟩

/-! ### while -/
def whN (tc : TTD) (tb : TSD) (D : DEnds) : Nat → Std → DM → Prop
  | 0, _, _ => False
  | n + 1, σ, M => tc σ M (fun b M1 => match b with
    | true => tb { D with nx := whN tc tb D n, ct := whN tc tb D n, bk := D.nx } σ M1
    | false => D.nx σ M1) (D.ex σ)
def dWhile (tc : TTD) (tb : TSD) : TSD := fun D σ M => ∃ n, whN tc tb D n σ M
theorem ds_while {c : Expr} {body : List Stmt} {tc : TTD} {tb : TSD} {pos : Pos} (hp : PassesOwn (model X.prog X.w) X.A X.env X.xe) (hc : PT X c (lT X.B W tc)) (hb : PSs X body (lS X.B W tb)) : PS X (.While c body [] pos) (lS X.B W (dWhile tc tb)) :=
  PS.imp (ps_while hp hc hb) fun D σ H ⟨σd, M, Dd, S, R, ⟨n, t⟩, c⟩ => by
    refine ⟨fun m σ' H' => ∃ σd' M', RelS X.B H' σd' σ' ∧ Rel X.B M' H' ∧ whN tc tb Dd m σd' M' ∧ CnS X.B W M' H' Dd D, ⟨n, σd, M, S, R, t, c⟩, ?_⟩
    rintro m σ H ⟨σd, M, S, R, t, c⟩
    cases m with
    | zero => exact t.elim
    | succ m =>
      refine ⟨σd, M, _, _, S, R, t, fun b M1 H1 R1 k1 q => ?_, c.cx S R⟩
      have c1 := c.after k1
      cases b with
      | false => exact c.nx _ _ M1 H1 (S.mono (k1.tups R)) R1 k1 q
      | true =>
        refine iteT ?_
        refine ⟨fun σ' H' => ∃ σd' M', RelS X.B H' σd' σ' ∧ Rel X.B M' H' ∧ whN tc tb Dd m σd' M' ∧ CnS X.B W M' H' Dd D, fun σ' H' h => ⟨m, Nat.lt_succ_self _, h⟩, σd, M1, _, S.mono (k1.tups R), R1, q, ?_⟩
        exact ⟨fun σd' σ' M' H' S' R' k' q' => ⟨σd', M', S', R', q', c1.after k'⟩, c1.rt, c1.nx, fun σd' σ' M' H' S' R' k' q' => ⟨σd', M', S', R', q', c1.after k'⟩, c1.ex⟩

/-! ### what is walked -/
abbrev ItD := Nat → DM → Option (Option D)
structure ItOk (K : Bd) (H0 : Hp) (Jd : ItD) (J : It) : Prop where
  go : ∀ i M H d, Tups H0 H → Rel K M H → Jd i M = some (some d) → J.go i H
  yld : ∀ i M H d v H', Tups H0 H → Rel K M H → Jd i M = some (some d) → J.yld i H v H' → Rel K M H' ∧ Keep M H M H' ∧ DV K H' d v
  stop : ∀ i M H, Tups H0 H → Rel K M H → Jd i M = some none → J.stop i H
abbrev TID := Std → DM → (ItD → DM → Prop) → DX → Prop
def lI (K : Bd) (W : WX) (wi : TID) : TI := fun σ H Q => ∃ σd M Qd E, RelS K H σd σ ∧ Rel K M H ∧ wi σd M Qd E ∧ (∀ Jd J M' H', ItOk K H' Jd J → Rel K M' H' → Keep M H M' H' → Qd Jd M' → Q J H') ∧ CnX K M H E (fun c d h => W c d σ h)
theorem PI.imp {X : Cx} {tg e : Expr} {t t' : TI} (h : PI X tg e t) (i : ∀ σ H Q, t' σ H Q → t σ H Q) : PI X tg e t' := ⟨fun pins s σ H Q I hw => h.run pins s σ H Q I (i _ _ _ hw)⟩
def itL (a : Addr) : ItD := fun i M => match M a with
  | some (.lst xs) => some xs[i]?
  | _ => none
def itT (ds : List D) : ItD := fun i _ => some ds[i]?
def itR (lo : Int) (n : Nat) : ItD := fun i _ => some (if i < n then some (.int (lo + i)) else none)
theorem itL_ok {K : Bd} {H0 : Hp} (a : Addr) : ItOk K H0 (itL a) (Itl K a) := by
  have at_ : ∀ {i : Nat} {M : DM} {o : Option D}, itL a i M = some o → ∃ xs, M a = some (.lst xs) ∧ o = xs[i]? := by
    intro i M o h
    unfold itL at h
    split at h
    · rename_i xs e
      exact ⟨xs, e, (Option.some.inj h).symm⟩
    · cases h
  refine ⟨fun i M H d _ R h => ?_, fun i M H d v H' _ R h y => ?_, fun i M H _ R h => ?_⟩
  · obtain ⟨xs, e, eo⟩ := at_ h
    obtain ⟨u, hu, r⟩ := R a _ e
    cases r with
    | lst hs =>
      obtain ⟨w, hw, _⟩ := hs.get eo.symm
      exact ⟨_, w, .of hu, hw⟩
  · obtain ⟨xs, e, eo⟩ := at_ h
    obtain ⟨u, hu, r⟩ := R a _ e
    cases r with
    | lst hs =>
      obtain ⟨w, hw, dw⟩ := hs.get eo.symm
      obtain ⟨rfl, fv⟩ := y
      have := fv _ (.of hu)
      rw [hw] at this; cases this
      exact ⟨R, .refl, dw⟩
  · obtain ⟨xs, e, eo⟩ := at_ h
    obtain ⟨u, hu, r⟩ := R a _ e
    cases r with
    | lst hs =>
      refine ⟨_, .of hu, ?_⟩
      rw [← hs.length]
      exact List.getElem?_eq_none_iff.mp eo.symm
theorem itT_ok {K : Bd} {H0 : Hp} {a : Addr} {o : Obj} {ds : List D} {vs : List V} (s : H0 a = some (.frz o (.tup vs))) (hs : DVs K H0 ds vs) : ItOk K H0 (itT ds) (Itt K a) := by
  refine ⟨fun i M H d tp R h => ?_, fun i M H d v H' tp R h y => ?_, fun i M H tp R h => ?_⟩
  · obtain ⟨w, hw, _⟩ := hs.get (Option.some.inj h)
    exact ⟨_, w, sqF tp s, hw⟩
  · obtain ⟨w, hw, dw⟩ := hs.get (Option.some.inj h)
    obtain ⟨rfl, fv⟩ := y
    have := fv _ (sqF tp s)
    rw [hw] at this; cases this
    exact ⟨R, .refl, dw.mono tp⟩
  · refine ⟨_, sqF tp s, ?_⟩
    rw [← hs.length]
    exact List.getElem?_eq_none_iff.mp (Option.some.inj h)
theorem itR_ok {K : Bd} {H0 : Hp} (lo : Int) (n : Nat) : ItOk K H0 (itR lo n) (Itr lo n) := by
  refine ⟨fun i M H d tp R h => ?_, fun i M H d v H' tp R h y => ?_, fun i M H tp R h => ?_⟩
  · have e := Option.some.inj h
    by_cases hi : i < n
    · exact hi
    · rw [if_neg hi] at e; cases e
  · have e := Option.some.inj h
    by_cases hi : i < n
    · rw [if_pos hi] at e; cases e
      obtain ⟨rfl, rfl⟩ := y
      exact ⟨R, .refl, .int⟩
    · rw [if_neg hi] at e; cases e
  · have e := Option.some.inj h
    by_cases hi : i < n
    · rw [if_pos hi] at e; cases e
    · exact Nat.le_of_not_lt hi
/-- a list or a tuple walked -/
def iSeq (K : Bd) (tl : TE) : TI := fun σ H R => tl σ H fun x H1 => ∃ a, x = .ref a ∧ (((∃ xs, SqL K H1 a xs) ∧ R (Itl K a) H1) ∨ ((∃ xs, SqT K H1 a xs) ∧ R (Itt K a) H1))
theorem pi_seq {tg l : Expr} {tl : TE} (hl : PE X l tl) : PI X tg l (iSeq X.B tl) := by
  refine ⟨fun pins s σ H R I h => ?_⟩
  refine thn (hl.run pins s σ H _ I h) fun v s1 ⟨x, H1, I1, r1, a, e, q⟩ => ?_
  subst e
  cases r1
  have fp1 : ∀ b ∈ [s1.heap.objs.size], FpOk X pins H1 b := fun b hb => by
    rw [List.mem_singleton.mp hb]
    exact I1.fpOk (Nat.le_refl _) (I1.hok.fresh (Nat.le_refl _))
  rcases q with ⟨⟨xs, hq⟩, q⟩ | ⟨⟨xs, hq⟩, q⟩
  · obtain ⟨its, _, p, _⟩ := I1.list hq
    exact wpAny_pyIter_list p.isList ⟨_, [_], _, _, H1, rfl, I1.kept (t' := s1.toks) fun b o e => Heap.get?_push_of_some _ e, turn_list a _, ⟨_, Heap.get?_push_size _ rfl, rfl, rfl⟩, fp1, q⟩
  · obtain ⟨its, _, p, _⟩ := I1.tuple hq
    exact wpAny_pyIter_tuple (show s1.heap.IsTuple a its.toArray from p) ⟨_, [_], _, _, H1, rfl, I1.kept (t' := s1.toks) fun b o e => Heap.get?_push_of_some _ e, turn_tuple a _, ⟨_, Heap.get?_push_size _ rfl, rfl, rfl⟩, fp1, q⟩
def diSeq (te : TED) : TID := fun σ M R E => te σ M (fun d M1 => match d with
  | .tup xs => R (itT xs) M1
  | .ref a => (∃ xs, M1 a = some (.lst xs)) ∧ R (itL a) M1
  | _ => False) E
theorem di_seq {tg l : Expr} {te : TED} (h : PE X l (lE X.B W te)) : PI X tg l (lI X.B W (diSeq te)) :=
  PI.imp (pi_seq h) fun σ H Q ⟨σd, M, Qd, E, S, R, t, c, cx⟩ => ⟨σd, M, _, E, S, R, t, fun d v M1 H1 dv R1 k1 q1 => by
    cases dv with
    | tup s1 _ h1 => exact ⟨_, rfl, .inr ⟨⟨_, sqF .refl s1⟩, c _ _ M1 H1 (itT_ok s1 h1) R1 k1 q1⟩⟩
    | ref =>
      obtain ⟨⟨xs, e⟩, q1⟩ := q1
      obtain ⟨u, hu, r⟩ := R1 _ _ e
      cases r with
      | lst hs => exact ⟨_, rfl, .inl ⟨⟨_, .of hu⟩, c _ _ M1 H1 (itL_ok _) R1 k1 q1⟩⟩
    | _ => exact q1.elim, cx⟩
def diRng1 (ta : TAD) : TID := fun σ M R E => ta σ M (fun ds M1 => match ds with
  | [.int j] => (-(2 ^ 62) ≤ j ∧ j < 2 ^ 62) ∧ R (itR 0 j.toNat) M1
  | _ => False) E
theorem di_rng1 {tg e : Expr} {ta : TAD} (h : PI X tg e (iRng1 (lA X.B W ta))) : PI X tg e (lI X.B W (diRng1 ta)) :=
  PI.imp h fun σ H Q ⟨σd, M, Qd, E, S, R, t, c, cx⟩ => ⟨σd, M, _, E, S, R, t, fun ds vs M1 H1 dvs R1 k1 q1 => by
    cases dvs with
    | nil => exact q1.elim
    | cons a b =>
      cases b with
      | nil =>
        cases a with
        | int => exact ⟨_, rfl, q1.1.1, q1.1.2, c _ _ M1 H1 (itR_ok 0 _) R1 k1 q1.2⟩
        | _ => exact q1.elim
      | cons => cases a <;> exact q1.elim, cx⟩
def diRng2 (ta : TAD) : TID := fun σ M R E => ta σ M (fun ds M1 => match ds with
  | [.int i, .int j] => (-(2 ^ 62) ≤ i ∧ i < 2 ^ 62 ∧ -(2 ^ 62) ≤ j ∧ j < 2 ^ 62) ∧ R (itR i (j - i).toNat) M1
  | _ => False) E
theorem di_rng2 {tg e : Expr} {ta : TAD} (h : PI X tg e (iRng2 (lA X.B W ta))) : PI X tg e (lI X.B W (diRng2 ta)) :=
  PI.imp h fun σ H Q ⟨σd, M, Qd, E, S, R, t, c, cx⟩ => ⟨σd, M, _, E, S, R, t, fun ds vs M1 H1 dvs R1 k1 q1 => by
    cases dvs with
    | nil => exact q1.elim
    | cons a b =>
      cases b with
      | nil => cases a <;> exact q1.elim
      | cons a' b' =>
        cases b' with
        | nil =>
          cases a with
          | int => cases a' with
            | int => exact ⟨_, _, rfl, q1.1, c _ _ M1 H1 (itR_ok _ _) R1 k1 q1.2⟩
            | _ => exact q1.elim
          | _ => exact q1.elim
        | cons => cases a <;> first | exact q1.elim | (cases a' <;> exact q1.elim), cx⟩

/-! ### for -/
def forN (J : ItD) (g : TGD) (tb : TSD) (D : DEnds) : Nat → Nat → Std → DM → Prop
  | 0, _, _, _ => False
  | n + 1, i, σ, M => match J i M with
    | some (some d) => g d σ M (fun σ2 M2 => tb { D with nx := forN J g tb D n (i + 1), ct := forN J g tb D n (i + 1), bk := D.nx } σ2 M2) (D.ex σ)
    | some none => D.nx σ M
    | none => False
def dFor (wi : TID) (g : TGD) (tb : TSD) : TSD := fun D σ M => wi σ M (fun J M1 => ∃ n, forN J g tb D n 0 σ M1) (D.ex σ)
theorem ds_for {tg iter : Expr} {body : List Stmt} {wi : TID} {g : TGD} {tb : TSD} {vs : List Nat} {pos : Pos} (hp : PassesOwn (model X.prog X.w) X.A X.env X.xe) (hc : X.calm = true) (hi : PI X tg iter (lI X.B W wi)) (hg : PG X tg (lG X.B W vs g)) (hb : PSs X body (lS X.B W tb))
    (hs : ∀ x, foldedSetIterable iter X.env x = pure x := by intro _; rfl) : PS X (.For tg iter body [] pos) (lS X.B W (dFor wi g tb)) :=
  PS.imp (ps_for hp hc hi hg hb hs) fun D σ H ⟨σd, M, Dd, S, R, t, c⟩ => by
    refine ⟨σd, M, _, _, S, R, t, fun Jd J M1 H1 ok R1 k1 ⟨n, q⟩ => ?_, c.cx S R⟩
    refine ⟨fun i m σ' H' => ∃ σd' M', RelS X.B H' σd' σ' ∧ Rel X.B M' H' ∧ forN Jd g tb Dd m i σd' M' ∧ CnS X.B W M' H' Dd D ∧ Tups H1 H', ⟨n, σd, M1, S.mono (k1.tups R), R1, q, c.after k1, .refl⟩, ?_⟩
    rintro i m σ H ⟨σd, M, S, R, t, c, tp⟩
    cases m with
    | zero => exact t.elim
    | succ m =>
      have t' : (match Jd i M with
        | some (some d) => g d σd M (fun σ2 M2 => tb { Dd with nx := forN Jd g tb Dd m (i + 1), ct := forN Jd g tb Dd m (i + 1), bk := Dd.nx } σ2 M2) (Dd.ex σd)
        | some none => Dd.nx σd M
        | none => False) := t
      cases e : Jd i M with
      | none => rw [e] at t'; exact t'.elim
      | some o =>
        cases o with
        | none =>
          rw [e] at t'
          exact .inl ⟨ok.stop i M H tp R e, c.nx _ _ M H S R .refl t'⟩
        | some d =>
          rw [e] at t'
          refine .inr ⟨ok.go i M H d tp R e, fun σ' H' => ∃ σd' M', RelS X.B H' σd' σ' ∧ Rel X.B M' H' ∧ forN Jd g tb Dd m (i + 1) σd' M' ∧ CnS X.B W M' H' Dd D ∧ Tups H1 H', fun σ' H' h => ⟨m, Nat.lt_succ_self _, h⟩, fun x H' y => ?_⟩
          obtain ⟨R', k', dx⟩ := ok.yld i M H d x H' tp R e y
          have c' := c.after k'
          have S' := S.mono (k'.tups R)
          have tp' := tp.trans (k'.tups R)
          refine ⟨d, σd, M, _, _, dx, S', R', t', fun σd2 σ2 M2 H2 _ S2 R2 k2 q2 => ?_, c'.cx S' R'⟩
          have c2 := c'.after k2
          have tp2 := tp'.trans (k2.tups R')
          exact ⟨σd2, M2, _, S2, R2, q2, ⟨fun σd3 σ3 M3 H3 S3 R3 k3 q3 => ⟨σd3, M3, S3, R3, q3, c2.after k3, tp2.trans (k3.tups R2)⟩, c2.rt, c2.nx, fun σd3 σ3 M3 H3 S3 R3 k3 q3 => ⟨σd3, M3, S3, R3, q3, c2.after k3, tp2.trans (k3.tups R2)⟩, c2.ex⟩⟩
end
end Dt

set_option Elab.async false
set_option autoImplicit false
set_option linter.all false
set_option maxRecDepth 100000
set_option maxHeartbeats 4000000
/-! DE: comprehensions; attributes; dicts; methods of lists; calls of the text's own defs. -/
namespace Dt
open PySem PySem.Spec PyProof.Rows L2 LamX

/-! ### comprehensions -/
@[reducible] def wipeS (σ : Std) : List Nat → Std
  | [] => σ
  | v :: vs => unset (wipeS σ vs) v
where @[reducible] unset : Std → Nat → Std
  | [], _ => []
  | _ :: r, 0 => none :: r
  | x :: r, n + 1 => x :: unset r n
theorem unset_eq : ∀ (σ : Std) (i : Nat), wipeS.unset σ i = σ.set i none
  | [], _ => rfl
  | x :: r, 0 => rfl
  | x :: r, n + 1 => by show x :: wipeS.unset r n = x :: r.set n none; rw [unset_eq r n]
theorem RelS.unset {K : Bd} {H : Hp} {σd : Std} {σ : L2.St} (S : RelS K H σd σ) (i : Nat) : RelS K H (wipeS.unset σd i) (σ.set i none) := by
  rw [unset_eq]
  refine ⟨by simpa using S.1, fun j e he => ?_⟩
  by_cases hj : i = j
  · subst hj
    by_cases hi : i < σd.length
    · rw [List.getElem?_set_self hi] at he; cases he
    · rw [List.getElem?_eq_none (by simpa using Nat.le_of_not_lt hi)] at he; cases he
  · rw [List.getElem?_set_ne hj] at he ⊢
    exact S.2 j e he
theorem RelS.wipe {K : Bd} {H : Hp} {σd : Std} {σ : L2.St} (S : RelS K H σd σ) : ∀ vs : List Nat, RelS K H (wipeS σd vs) (L2.wipe σ vs)
  | [] => S
  | v :: vs => (RelS.wipe S vs).unset v

def lcN (J : ItD) (g : TGD) (tt : TTD) (te : TED) (vs : List Nat) (σ : Std) (Q : DQ) : Nat → Nat → DM → List D → Prop
  | 0, _, _, _ => False
  | n + 1, i, M, acc => match J i M with
    | some (some d) => g d (wipeS σ vs) M (fun σ2 M2 => tt σ2 M2 (fun b M3 => match b with
      | true => te σ2 M3 (fun y M4 => acc.length < sizeLine ∧ lcN J g tt te vs σ Q n (i + 1) M4 (acc ++ [y])) noX
      | false => lcN J g tt te vs σ Q n (i + 1) M3 acc) noX) noX
    | some none => ∀ p, M p = none → Q (.ref p) (put M p (.lst acc))
    | none => False
def dLc (wi : TID) (g : TGD) (tt : TTD) (te : TED) (vs : List Nat) : TED := fun σ M Q E => wi σ M (fun J M1 => ∃ n, lcN J g tt te vs σ Q n 0 M1 []) E
section
variable {X : Cx} {W : WX}
theorem cnx0 {K : Bd} {M : DM} {H : Hp} {W : XK} : CnX K M H noX W := fun _ _ _ _ _ _ _ _ z => z.elim
/-- an object hidden from the store, rewritten -/
theorem Rel.hput {K : Bd} {M : DM} {H : Hp} (R : Rel K M H) {p : Addr} {u0 : HO} (h : H p = some u0) (n : M p = none) (nt : ∀ xs, u0 ≠ .tup xs) (nf : ∀ o xs, u0 ≠ .frz o xs) (u : HO) : Rel K M (upd H p u) := by
  have kt : Tups H (upd H p u) := ⟨fun a xs e => by
    have : a ≠ p := fun z => by rw [z, h] at e; exact nt xs (Option.some.inj e)
    rw [upd_ne this]; exact e, fun a o xs e => by
    have : a ≠ p := fun z => by rw [z, h] at e; exact nf o _ (Option.some.inj e)
    rw [upd_ne this]; exact e⟩
  intro a o e
  have : a ≠ p := fun z => by rw [z, n] at e; cases e
  obtain ⟨w, hw, r⟩ := R a o e
  exact ⟨w, by rw [upd_ne this]; exact hw, r.mono kt⟩
theorem tups_hput {H : Hp} {p : Addr} {u0 : HO} (h : H p = some u0) (nt : ∀ xs, u0 ≠ .tup xs) (nf : ∀ o xs, u0 ≠ .frz o xs) (u : HO) : Tups H (upd H p u) := ⟨fun a xs e => by
    have : a ≠ p := fun z => by rw [z, h] at e; exact nt xs (Option.some.inj e)
    rw [upd_ne this]; exact e, fun a o xs e => by
    have : a ≠ p := fun z => by rw [z, h] at e; exact nf o _ (Option.some.inj e)
    rw [upd_ne this]; exact e⟩
/-- all that stays while the object at p is made: from (M, H) to (M', H'), p aside -/
structure KeepP (p : Addr) (M : DM) (H : Hp) (M' : DM) (H' : Hp) : Prop where
  hid : ∀ a u, H a = some u → M a = none → (∀ ps, u ≠ .tbl ps) → H' a = some u
  out : ∀ a u, H a = some u → M a = none → M' a = none ∧ ∃ u', H' a = some u'
  tab : ∀ P q, TabS H P q → TabS H' P q
  pn : H p = none
theorem KeepP.then {p : Addr} {M M1 M2 : DM} {H H1 H2 : Hp} (a : KeepP p M H M1 H1) (b : Keep M1 H1 M2 H2) : KeepP p M H M2 H2 where
  hid := fun c u h n t => b.hid c u (a.hid c u h n t) (a.out c u h n).1 t
  out := fun c u h n => by
    obtain ⟨n1, u1, h1⟩ := a.out c u h n
    exact b.out c u1 h1 n1
  tab := fun P q t => b.tab P q (a.tab P q t)
  pn := a.pn
theorem KeepP.write {p : Addr} {M M1 : DM} {H H1 : Hp} (a : KeepP p M H M1 H1) {u0 : HO} (e : H1 p = some u0) (ne : (∀ ps, u0 ≠ .tbl ps) ∧ ∀ q c, u0 ≠ CodeO c q) (u : HO) : KeepP p M H M1 (upd H1 p u) where
  hid := fun c w h n t => by
    have : c ≠ p := fun z => by rw [z, a.pn] at h; cases h
    rw [upd_ne this]; exact a.hid c w h n t
  out := fun c w h n => by
    have : c ≠ p := fun z => by rw [z, a.pn] at h; cases h
    obtain ⟨n1, u1, h1⟩ := a.out c w h n
    exact ⟨n1, u1, by rw [upd_ne this]; exact h1⟩
  tab := fun P q t => tabS_of (fun ps h => by
    have : P ≠ p := fun z => by rw [z, e] at h; exact ne.1 ps (Option.some.inj h)
    rw [upd_ne this]; exact h) (fun c h => by
    have : c ≠ p := fun z => by rw [z, e] at h; exact ne.2 q _ (Option.some.inj h)
    rw [upd_ne this]; exact h) (a.tab P q t)
  pn := a.pn
/-- at the end the object at p comes into the store -/
theorem KeepP.done {p : Addr} {M M1 : DM} {H H1 : Hp} (a : KeepP p M H M1 H1) (o : DO) : Keep M H (put M1 p o) H1 where
  hid := a.hid
  out := fun c u h n => by
    have : c ≠ p := fun z => by rw [z, a.pn] at h; cases h
    rw [put_ne this]
    exact a.out c u h n
  tab := a.tab
theorem Rel.come {K : Bd} {M : DM} {H : Hp} (R : Rel K M H) {p : Addr} {o : DO} {u : HO} (h : H p = some u) (r : RelO K H p o u) : Rel K (put M p o) H := by
  intro a q e
  by_cases ha : a = p
  · subst ha; rw [put_same] at e; cases e; exact ⟨u, h, r⟩
  · rw [put_ne ha] at e; exact R a q e
theorem lst_ne {vs : List V} : (∀ xs, (HO.lst vs) ≠ .tup xs) ∧ (∀ o xs, (HO.lst vs) ≠ .frz o xs) ∧ ((∀ ps, (HO.lst vs) ≠ .tbl ps) ∧ ∀ q c, (HO.lst vs) ≠ CodeO c q) := ⟨(fun _ z => nomatch z), (fun _ _ z => nomatch z), ⟨(fun _ z => nomatch z), (fun _ _ z => nomatch z)⟩⟩
theorem dK_ne {vs : List (Key × V)} : (∀ xs, (HO.dK vs) ≠ .tup xs) ∧ (∀ o xs, (HO.dK vs) ≠ .frz o xs) ∧ ((∀ ps, (HO.dK vs) ≠ .tbl ps) ∧ ∀ q c, (HO.dK vs) ≠ CodeO c q) := ⟨(fun _ z => nomatch z), (fun _ _ z => nomatch z), ⟨(fun _ z => nomatch z), (fun _ _ z => nomatch z)⟩⟩
theorem off_wipe {vs : List Nat} {σ σ2 : L2.St} (o : Off vs (L2.wipe σ vs) σ2) : L2.wipe σ2 vs = L2.wipe σ vs := (Off.trans Off.wiped o).wipe
/-- the lifted reading of a list comprehension -/
theorem lift_lc {wi : TID} {g : TGD} {tt : TTD} {te : TED} {vs : List Nat} {σ : L2.St} {H : Hp} {Q : VK} (h : lE X.B W (dLc wi g tt te vs) σ H Q) : tLc (lI X.B W wi) (lG X.B w0 vs g) (lT X.B w0 tt) (lE X.B w0 te) vs σ H Q := by
  obtain ⟨σd, M, Qd, E, S, R, t, c, cx⟩ := h
  refine ⟨σd, M, _, E, S, R, t, fun Jd J M1 H1 ok R1 k1 ⟨n, q⟩ p hp => ?_, cx⟩
  have c1 := c.after k1
  have S1 := S.mono (k1.tups R)
  -- the invariant
  refine ⟨fun i m H' => ∃ M' acc ws, Rel X.B M' H' ∧ lcN Jd g tt te vs σd Qd m i M' acc ∧ DVs X.B H' acc ws ∧ H' p = some (.lst ws) ∧ M' p = none ∧ KeepP p M1 H1 M' H' ∧ Tups H1 H', ⟨n, M1, [], [], R1.hidden hp _, q, .nil, upd_same, R1.free hp, ?_, tups_new hp _⟩, ?_⟩
  · exact ⟨fun a u e _ _ => by rw [upd_ne (ne_of_none e hp)]; exact e, fun a u e n => ⟨n, u, by rw [upd_ne (ne_of_none e hp)]; exact e⟩, (Keep.hidden R1 hp _).tab, hp⟩
  rintro i m H' ⟨M', acc, ws, R', t, as, hP, mP, kp, tp⟩
  cases m with
  | zero => exact t.elim
  | succ m =>
    unfold lcN at t
    cases e : Jd i M' with
    | none => rw [e] at t; exact t.elim
    | some o =>
      rw [e] at t
      cases o with
      | none =>
        refine .inl ⟨ok.stop i M' H' tp R' e, c1 _ _ (put M' p (.lst acc)) H' .ref (R'.come hP (.lst as)) (kp.done _) (t p mP)⟩
      | some d =>
        refine .inr ⟨ok.go i M' H' d tp R' e, fun H2 => ∃ M2 acc ws, Rel X.B M2 H2 ∧ lcN Jd g tt te vs σd Qd m (i + 1) M2 acc ∧ DVs X.B H2 acc ws ∧ H2 p = some (.lst ws) ∧ M2 p = none ∧ KeepP p M1 H1 M2 H2 ∧ Tups H1 H2, fun H2 h => ⟨m, Nat.lt_succ_self _, h⟩, fun x H2 y => ?_⟩
        obtain ⟨R2, k2, dx⟩ := ok.yld i M' H' d x H2 tp R' e y
        have tp2 := tp.trans (k2.tups R')
        refine ⟨d, _, M', _, _, dx, (S1.mono tp2).wipe vs, R2, t, fun σd3 σ3 M3 H3 o3 S3 R3 k3 q3 => ⟨off_wipe o3, σd3, M3, _, _, S3, R3, q3, fun b M4 H4 R4 k4 q4 => ?_, cnx0⟩, cnx0⟩
        have k24 := (k2.trans k3).trans k4
        cases b with
        | false =>
          refine iteF ⟨M4, acc, ws, R4, q4, as.mono (k24.tups R'), k24.hid p _ hP mP lst_ne.2.2.1, (k24.out p _ hP mP).1, kp.then k24, tp.trans (k24.tups R')⟩
        | true =>
          refine iteT ⟨σd3, M4, _, _, S3.mono (k4.tups R3), R4, q4, fun z zv M5 H5 zr R5 k5 ⟨hl, q5⟩ => ?_, cnx0⟩
          have k25 := k24.trans k5
          have hP5 := k25.hid p _ hP mP lst_ne.2.2.1
          have mP5 := (k25.out p _ hP mP).1
          have as5 := as.mono (k25.tups R')
          have tq := tups_hput hP5 lst_ne.1 lst_ne.2.1 (.lst (ws ++ [zv]))
          exact ⟨ws, hP5, by rw [← as.length]; exact hl, M5, acc ++ [z], ws ++ [zv], R5.hput hP5 mP5 lst_ne.1 lst_ne.2.1 _, q5, (as5.append (.mk1 zr)).mono tq, upd_same, mP5, (kp.then k25).write hP5 lst_ne.2.2 _, (tp.trans (k25.tups R')).trans tq⟩
theorem de_lc {e : Expr} {wi : TID} {g : TGD} {tt : TTD} {te : TED} {vs : List Nat} (h : PE X e (tLc (lI X.B W wi) (lG X.B w0 vs g) (lT X.B w0 tt) (lE X.B w0 te) vs)) : PE X e (lE X.B W (dLc wi g tt te vs)) := PE.imp h fun _ _ _ h => lift_lc h
theorem ds_setLc {st : Stmt} {wi : TID} {g : TGD} {tt : TTD} {te : TED} {vs : List Nat} {i : Nat} (h : PS X st (tAsg (tLc (lI X.B W wi) (lG X.B w0 vs g) (lT X.B w0 tt) (lE X.B w0 te) vs) (gName i))) : PS X st (lS X.B W (dAsg (dLc wi g tt te vs) (gNm i))) := PS.imp h fun D σ H h => by
  have q : lE X.B W (dLc wi g tt te vs) σ H (fun x H1 => gName i x σ H1 D.nx) := lift_set h
  exact lift_lc q
def tYesD : TTD := fun _ M Q _ => Q true M
theorem dts_nil : PTs X [] (lT X.B W tYesD) := ⟨fun pins s σ H Q I ⟨σd, M, Qd, E, S, R, t, c, cx⟩ => pts_nil.run pins s σ H Q I (c true M H R .refl t)⟩
theorem dts_one {c : Expr} {t : TTD} (h : PT X c (lT X.B W t)) : PTs X [c] (lT X.B W t) := pts_one h

/-- two clauses -/
def lc2In (J : ItD) (g : TGD) (tt : TTD) (te : TED) (vs : List Nat) (σ : Std) (C : DM → List D → Prop) : Nat → Nat → DM → List D → Prop
  | 0, _, _, _ => False
  | n + 1, i, M, acc => match J i M with
    | some (some d) => g d (wipeS σ vs) M (fun σ2 M2 => tt σ2 M2 (fun b M3 => match b with
      | true => te σ2 M3 (fun y M4 => acc.length < sizeLine ∧ lc2In J g tt te vs σ C n (i + 1) M4 (acc ++ [y])) noX
      | false => lc2In J g tt te vs σ C n (i + 1) M3 acc) noX) noX
    | some none => C M acc
    | none => False
def lc2Out (J : ItD) (g : TGD) (tt : TTD) (wi1 : TID) (g1 : TGD) (tt1 : TTD) (te : TED) (vs vs1 : List Nat) (σ : Std) (Q : DQ) : Nat → Nat → DM → List D → Prop
  | 0, _, _, _ => False
  | n + 1, i, M, acc => match J i M with
    | some (some d) => g d (wipeS σ vs) M (fun σ2 M2 => tt σ2 M2 (fun b M3 => match b with
      | true => wi1 σ2 M3 (fun J1 M4 => ∃ k, lc2In J1 g1 tt1 te vs1 σ2 (fun M5 acc' => lc2Out J g tt wi1 g1 tt1 te vs vs1 σ Q n (i + 1) M5 acc') k 0 M4 acc) noX
      | false => lc2Out J g tt wi1 g1 tt1 te vs vs1 σ Q n (i + 1) M3 acc) noX) noX
    | some none => ∀ p, M p = none → Q (.ref p) (put M p (.lst acc))
    | none => False
def dLc2 (wi : TID) (g : TGD) (tt : TTD) (wi1 : TID) (g1 : TGD) (tt1 : TTD) (te : TED) (vs vs1 : List Nat) : TED := fun σ M Q E => wi σ M (fun J M1 => ∃ n, lc2Out J g tt wi1 g1 tt1 te vs vs1 σ Q n 0 M1 []) E
theorem lift_lc2 {wi : TID} {g : TGD} {tt : TTD} {wi1 : TID} {g1 : TGD} {tt1 : TTD} {te : TED} {vs vs1 : List Nat} {σ : L2.St} {H : Hp} {Q : VK} (h : lE X.B W (dLc2 wi g tt wi1 g1 tt1 te vs vs1) σ H Q) :
    tLc2 (lI X.B W wi) (lG X.B w0 vs g) (lT X.B w0 tt) (lI X.B w0 wi1) (lG X.B w0 vs1 g1) (lT X.B w0 tt1) (lE X.B w0 te) vs vs1 σ H Q := by
  obtain ⟨σd, M, Qd, E, S, R, t, c, cx⟩ := h
  refine ⟨σd, M, _, E, S, R, t, fun Jd J M1 H1 ok R1 k1 ⟨n, q⟩ p hp => ?_, cx⟩
  have c1 := c.after k1
  have S1 := S.mono (k1.tups R)
  refine ⟨fun i m H' => ∃ M' acc ws, Rel X.B M' H' ∧ lc2Out Jd g tt wi1 g1 tt1 te vs vs1 σd Qd m i M' acc ∧ DVs X.B H' acc ws ∧ H' p = some (.lst ws) ∧ M' p = none ∧ KeepP p M1 H1 M' H' ∧ Tups H1 H', ⟨n, M1, [], [], R1.hidden hp _, q, .nil, upd_same, R1.free hp, ?_, tups_new hp _⟩, ?_⟩
  · exact ⟨fun a u e _ _ => by rw [upd_ne (ne_of_none e hp)]; exact e, fun a u e n => ⟨n, u, by rw [upd_ne (ne_of_none e hp)]; exact e⟩, (Keep.hidden R1 hp _).tab, hp⟩
  rintro i m H' ⟨M', acc, ws, R', t, as, hP, mP, kp, tp⟩
  cases m with
  | zero => exact t.elim
  | succ m =>
    unfold lc2Out at t
    cases e : Jd i M' with
    | none => rw [e] at t; exact t.elim
    | some o =>
      rw [e] at t
      cases o with
      | none => exact .inl ⟨ok.stop i M' H' tp R' e, c1 _ _ (put M' p (.lst acc)) H' .ref (R'.come hP (.lst as)) (kp.done _) (t p mP)⟩
      | some d =>
        refine .inr ⟨ok.go i M' H' d tp R' e, fun H2 => ∃ M2 acc ws, Rel X.B M2 H2 ∧ lc2Out Jd g tt wi1 g1 tt1 te vs vs1 σd Qd m (i + 1) M2 acc ∧ DVs X.B H2 acc ws ∧ H2 p = some (.lst ws) ∧ M2 p = none ∧ KeepP p M1 H1 M2 H2 ∧ Tups H1 H2, fun H2 h => ⟨m, Nat.lt_succ_self _, h⟩, fun x H2 y => ?_⟩
        obtain ⟨R2, k2, dx⟩ := ok.yld i M' H' d x H2 tp R' e y
        have tp2 := tp.trans (k2.tups R')
        refine ⟨d, _, M', _, _, dx, (S1.mono tp2).wipe vs, R2, t, fun σd3 σ3 M3 H3 o3 S3 R3 k3 q3 => ⟨off_wipe o3, σd3, M3, _, _, S3, R3, q3, fun b M4 H4 R4 k4 q4 => ?_, cnx0⟩, cnx0⟩
        have k24 := (k2.trans k3).trans k4
        cases b with
        | false => exact iteF ⟨M4, acc, ws, R4, q4, as.mono (k24.tups R'), k24.hid p _ hP mP lst_ne.2.2.1, (k24.out p _ hP mP).1, kp.then k24, tp.trans (k24.tups R')⟩
        | true =>
          have S4 := S3.mono (k4.tups R3)
          refine iteT ⟨σd3, M4, _, _, S4, R4, q4, fun J1d J1 M5 H5 ok1 R5 k5 ⟨n1, q5⟩ => ?_, cnx0⟩
          have k25 := k24.trans k5
          refine ⟨fun j m1 H6 => ∃ M6 acc ws, Rel X.B M6 H6 ∧ lc2In J1d g1 tt1 te vs1 σd3 (fun M7 acc' => lc2Out Jd g tt wi1 g1 tt1 te vs vs1 σd Qd m (i + 1) M7 acc') m1 j M6 acc ∧ DVs X.B H6 acc ws ∧ H6 p = some (.lst ws) ∧ M6 p = none ∧ KeepP p M1 H1 M6 H6 ∧ Tups H1 H6 ∧ Tups H5 H6,
            ⟨n1, M5, acc, ws, R5, q5, as.mono (k25.tups R'), k25.hid p _ hP mP lst_ne.2.2.1, (k25.out p _ hP mP).1, kp.then k25, tp.trans (k25.tups R'), .refl⟩, ?_⟩
          rintro j m1 H6 ⟨M6, acc6, ws6, R6, t6, as6, hP6, mP6, kp6, tp6, tq6⟩
          cases m1 with
          | zero => exact t6.elim
          | succ m1 =>
            unfold lc2In at t6
            cases e6 : J1d j M6 with
            | none => rw [e6] at t6; exact t6.elim
            | some o6 =>
              rw [e6] at t6
              cases o6 with
              | none => exact .inl ⟨ok1.stop j M6 H6 tq6 R6 e6, M6, acc6, ws6, R6, t6, as6, hP6, mP6, kp6, tp6⟩
              | some d6 =>
                refine .inr ⟨ok1.go j M6 H6 d6 tq6 R6 e6, fun H7 => ∃ M7 acc ws, Rel X.B M7 H7 ∧ lc2In J1d g1 tt1 te vs1 σd3 (fun M7 acc' => lc2Out Jd g tt wi1 g1 tt1 te vs vs1 σd Qd m (i + 1) M7 acc') m1 (j + 1) M7 acc ∧ DVs X.B H7 acc ws ∧ H7 p = some (.lst ws) ∧ M7 p = none ∧ KeepP p M1 H1 M7 H7 ∧ Tups H1 H7 ∧ Tups H5 H7, fun H7 h => ⟨m1, Nat.lt_succ_self _, h⟩, fun x7 H7 y7 => ?_⟩
                obtain ⟨R7, k7, dx7⟩ := ok1.yld j M6 H6 d6 x7 H7 tq6 R6 e6 y7
                have S7 := (S4.mono (k5.tups R4)).mono (tq6.trans (k7.tups R6))
                refine ⟨d6, _, M6, _, _, dx7, S7.wipe vs1, R7, t6, fun σd8 σ8 M8 H8 o8 S8 R8 k8 q8 => ⟨off_wipe o8, σd8, M8, _, _, S8, R8, q8, fun b M9 H9 R9 k9 q9 => ?_, cnx0⟩, cnx0⟩
                have k79 := (k7.trans k8).trans k9
                cases b with
                | false => exact iteF ⟨M9, acc6, ws6, R9, q9, as6.mono (k79.tups R6), k79.hid p _ hP6 mP6 lst_ne.2.2.1, (k79.out p _ hP6 mP6).1, kp6.then k79, tp6.trans (k79.tups R6), tq6.trans (k79.tups R6)⟩
                | true =>
                  refine iteT ⟨σd8, M9, _, _, S8.mono (k9.tups R8), R9, q9, fun z zv M10 H10 zr R10 k10 ⟨hl, q10⟩ => ?_, cnx0⟩
                  have k710 := k79.trans k10
                  have hP10 := k710.hid p _ hP6 mP6 lst_ne.2.2.1
                  have mP10 := (k710.out p _ hP6 mP6).1
                  have tq := tups_hput hP10 lst_ne.1 lst_ne.2.1 (.lst (ws6 ++ [zv]))
                  have tall := (k710.tups R6).trans tq
                  exact ⟨ws6, hP10, by rw [← as6.length]; exact hl, M10, acc6 ++ [z], ws6 ++ [zv], R10.hput hP10 mP10 lst_ne.1 lst_ne.2.1 _, q10, ((as6.mono (k710.tups R6)).append (.mk1 zr)).mono tq, upd_same, mP10, (kp6.then k710).write hP10 lst_ne.2.2 _, tp6.trans tall, tq6.trans tall⟩
theorem de_lc2 {e : Expr} {wi : TID} {g : TGD} {tt : TTD} {wi1 : TID} {g1 : TGD} {tt1 : TTD} {te : TED} {vs vs1 : List Nat} (h : PE X e (tLc2 (lI X.B W wi) (lG X.B w0 vs g) (lT X.B w0 tt) (lI X.B w0 wi1) (lG X.B w0 vs1 g1) (lT X.B w0 tt1) (lE X.B w0 te) vs vs1)) : PE X e (lE X.B W (dLc2 wi g tt wi1 g1 tt1 te vs vs1)) := PE.imp h fun _ _ _ h => lift_lc2 h
theorem ds_setLc2 {st : Stmt} {wi : TID} {g : TGD} {tt : TTD} {wi1 : TID} {g1 : TGD} {tt1 : TTD} {te : TED} {vs vs1 : List Nat} {i : Nat} (h : PS X st (tAsg (tLc2 (lI X.B W wi) (lG X.B w0 vs g) (lT X.B w0 tt) (lI X.B w0 wi1) (lG X.B w0 vs1 g1) (lT X.B w0 tt1) (lE X.B w0 te) vs vs1) (gName i))) : PS X st (lS X.B W (dAsg (dLc2 wi g tt wi1 g1 tt1 te vs vs1) (gNm i))) := PS.imp h fun D σ H h => by
  have q : lE X.B W (dLc2 wi g tt wi1 g1 tt1 te vs vs1) σ H (fun x H1 => gName i x σ H1 D.nx) := lift_set h
  exact lift_lc2 q

/-- what stands at a key -/
def valD {κ : Type} [DecidableEq κ] (kvs : List (κ × D)) (k : κ) : Option D := (kvs.find? fun kv => decide (kv.1 = k)).map (·.2)
def putD {κ : Type} [DecidableEq κ] (kvs : List (κ × D)) (k : κ) (v : D) : List (κ × D) :=
  match kvs.any fun kv => decide (kv.1 = k) with
  | true => kvs.map fun kv => if kv.1 = k then (kv.1, v) else kv
  | false => kvs ++ [(k, v)]
/-! ### dict comprehensions: keys ints and texts -/
/-- a key's value -/
def KeyD : D → Option Key
  | .int i => some (.inl i)
  | .str x => some (.inr x)
  | _ => none
theorem KeyD.dv {K : Bd} {H : Hp} {d : D} {k : Key} {v : V} (h : KeyD d = some k) (r : DV K H d v) : v = kV k := by
  cases r <;> first | (simp only [KeyD, Option.some.injEq] at h; subst h; rfl) | (simp only [KeyD] at h; cases h)
def dcN (J : ItD) (g : TGD) (tt : TTD) (tk tv : TED) (vs : List Nat) (σ : Std) (Q : DQ) : Nat → Nat → DM → List (Key × D) → Prop
  | 0, _, _, _ => False
  | n + 1, i, M, acc => match J i M with
    | some (some d) => g d (wipeS σ vs) M (fun σ2 M2 => tt σ2 M2 (fun b M3 => match b with
      | true => tk σ2 M3 (fun y M4 => tv σ2 M4 (fun z M5 => ∃ k, KeyD y = some k ∧ acc.length < sizeLine ∧ dcN J g tt tk tv vs σ Q n (i + 1) M5 (putD acc k z)) noX) noX
      | false => dcN J g tt tk tv vs σ Q n (i + 1) M3 acc) noX) noX
    | some none => ∀ p, M p = none → Q (.ref p) (put M p (.dK acc))
    | none => False
def dDc (wi : TID) (g : TGD) (tt : TTD) (tk tv : TED) (vs : List Nat) : TED := fun σ M Q E => wi σ M (fun J M1 => ∃ n, dcN J g tt tk tv vs σ Q n 0 M1 []) E
/-- pairs side by side -/
inductive PR {κ : Type} (K : Bd) (H : Hp) : List (κ × D) → List (κ × V) → Prop
  | nil : PR K H [] []
  | cons {k : κ} {d : D} {v : V} {ds : List (κ × D)} {vs : List (κ × V)} : DV K H d v → PR K H ds vs → PR K H ((k, d) :: ds) ((k, v) :: vs)
theorem PR.of {κ : Type} {K : Bd} {H : Hp} : ∀ {ds : List (κ × D)} {vs : List (κ × V)}, ds.map (·.1) = vs.map (·.1) → DVs K H (ds.map (·.2)) (vs.map (·.2)) → PR K H ds vs
  | [], [], _, _ => .nil
  | [], _ :: _, e, _ => by simp at e
  | _ :: _, [], e, _ => by simp at e
  | (k, d) :: ds, (k', v) :: vs, e, h => by
    simp only [List.map_cons, List.cons.injEq] at e
    obtain ⟨rfl, e⟩ := e
    cases h with
    | cons a b => exact .cons a (PR.of e b)
theorem PR.keys {κ : Type} {K : Bd} {H : Hp} {ds : List (κ × D)} {vs : List (κ × V)} (h : PR K H ds vs) : ds.map (·.1) = vs.map (·.1) := by
  induction h with
  | nil => rfl
  | cons _ _ ih => simp [ih]
theorem PR.vals {κ : Type} {K : Bd} {H : Hp} {ds : List (κ × D)} {vs : List (κ × V)} (h : PR K H ds vs) : DVs K H (ds.map (·.2)) (vs.map (·.2)) := by
  induction h with
  | nil => exact .nil
  | cons a _ ih => exact .cons a ih
theorem PR.length {κ : Type} {K : Bd} {H : Hp} {ds : List (κ × D)} {vs : List (κ × V)} (h : PR K H ds vs) : ds.length = vs.length := by
  have := congrArg List.length h.keys
  simpa using this
theorem PR.mono {κ : Type} {K : Bd} {H H' : Hp} (t : Tups H H') {ds : List (κ × D)} {vs : List (κ × V)} (h : PR K H ds vs) : PR K H' ds vs := .of h.keys (h.vals.mono t)
theorem PR.append {κ : Type} {K : Bd} {H : Hp} {ds es : List (κ × D)} {vs ws : List (κ × V)} (h : PR K H ds vs) (g : PR K H es ws) : PR K H (ds ++ es) (vs ++ ws) := by
  induction h with
  | nil => exact g
  | cons a _ ih => exact .cons a ih
theorem PR.any {κ : Type} [DecidableEq κ] {K : Bd} {H : Hp} {ds : List (κ × D)} {vs : List (κ × V)} (h : PR K H ds vs) (k : κ) : (ds.any fun p => decide (p.1 = k)) = vs.any fun p => decide (p.1 = k) := by
  induction h with
  | nil => rfl
  | cons _ _ ih => simp [ih]
end
end Dt

set_option Elab.async false
set_option autoImplicit false
set_option linter.all false
set_option maxRecDepth 100000
set_option maxHeartbeats 4000000
/-! DF: dicts, attributes, lists by their methods, calls. -/
namespace Dt
open PySem PySem.Spec PyProof.Rows L2 LamX

section
variable {κ : Type} [DecidableEq κ] {K : Bd} {H : Hp}
theorem PR.val {ds : List (κ × D)} {vs : List (κ × V)} (h : PR K H ds vs) {k : κ} {d : D} (e : valD ds k = some d) : ∃ v, valV vs k = some v ∧ DV K H d v := by
  induction h with
  | nil => simp [valD] at e
  | @cons k' d' v' ds vs a _ ih =>
    by_cases hk : k' = k
    · subst hk
      simp [valD] at e; subst e
      exact ⟨v', by simp [valV], a⟩
    · simp only [valD, List.find?_cons, hk, decide_false] at e
      obtain ⟨v, e2, q⟩ := ih (by simpa [valD] using e)
      exact ⟨v, by simpa [valV, List.find?_cons, hk] using e2, q⟩
theorem PR.valN {ds : List (κ × D)} {vs : List (κ × V)} (h : PR K H ds vs) {k : κ} (e : valD ds k = none) : valV vs k = none := by
  induction h with
  | nil => rfl
  | @cons k' d' v' ds vs a _ ih =>
    by_cases hk : k' = k
    · subst hk; simp [valD] at e
    · simp only [valD, List.find?_cons, hk, decide_false] at e
      simpa [valV, List.find?_cons, hk] using ih (by simpa [valD] using e)
theorem PR.has {ds : List (κ × D)} {vs : List (κ × V)} (h : PR K H ds vs) (k : κ) : (valV vs k).isSome = (valD ds k).isSome := by
  cases e : valD ds k with
  | none => rw [h.valN e]; rfl
  | some d => obtain ⟨v, e2, _⟩ := h.val e; rw [e2]; rfl
theorem PR.map_put {ds : List (κ × D)} {vs : List (κ × V)} (h : PR K H ds vs) (k : κ) {d : D} {v : V} (a : DV K H d v) : PR K H (ds.map fun kv => if kv.1 = k then (kv.1, d) else kv) (vs.map fun kv => if kv.1 = k then (kv.1, v) else kv) := by
  induction h with
  | nil => exact .nil
  | @cons k' d' v' ds vs a' _ ih =>
    by_cases hk : k' = k
    · simpa [hk] using PR.cons a ih
    · simpa [hk] using PR.cons a' ih
theorem PR.put {ds : List (κ × D)} {vs : List (κ × V)} (h : PR K H ds vs) (k : κ) {d : D} {v : V} (a : DV K H d v) : PR K H (putD ds k d) (putK vs k v) := by
  unfold putD putK
  rw [← h.any k]
  cases ds.any fun kv => decide (kv.1 = k) with
  | true => simpa using h.map_put k a
  | false => simpa using h.append (.cons a .nil)
end

/-- dicts of the store, as they are tracked -/
theorem Rel.dK {K : Bd} {M : DM} {H : Hp} (R : Rel K M H) {a : Addr} {kvs : List (Key × D)} (e : M a = some (.dK kvs)) : ∃ kws, H a = some (.dK kws) ∧ PR K H kvs kws := by
  obtain ⟨u, hu, r⟩ := R a _ e
  cases r with | dK e1 e2 => exact ⟨_, hu, .of e1 e2⟩
theorem Rel.dT {K : Bd} {M : DM} {H : Hp} (R : Rel K M H) {a : Addr} {kvs : List (NestedKey × D)} (e : M a = some (.dT kvs)) : ∃ xs, H a = some (tdO K.P K.w a xs) ∧ TDR K H kvs xs := by
  obtain ⟨u, hu, r⟩ := R a _ e
  cases r with | dT h => exact ⟨_, hu, h⟩
theorem Rel.ins {K : Bd} {M : DM} {H : Hp} (R : Rel K M H) {a C : Addr} {fs : List (Str × D)} (e : M a = some (.ins C fs)) : ∃ dx gs, H a = some (.ins C dx gs) ∧ PR K H fs gs := by
  obtain ⟨u, hu, r⟩ := R a _ e
  cases r with | ins e1 e2 => exact ⟨_, _, hu, .of e1 e2⟩
theorem Rel.lst {K : Bd} {M : DM} {H : Hp} (R : Rel K M H) {a : Addr} {ds : List D} (e : M a = some (.lst ds)) : ∃ vs, H a = some (.lst vs) ∧ DVs K H ds vs := by
  obtain ⟨u, hu, r⟩ := R a _ e
  cases r with | lst h => exact ⟨_, hu, h⟩
theorem RelO.ofK {K : Bd} {H : Hp} {p : Addr} {a : List (Key × D)} {b : List (Key × V)} (h : PR K H a b) : RelO K H p (.dK a) (.dK b) := .dK h.keys h.vals
theorem RelO.ofI {K : Bd} {H : Hp} {p C dx : Addr} {a : List (Str × D)} {b : List (Str × V)} (h : PR K H a b) : RelO K H p (.ins C a) (.ins C dx b) := .ins h.keys h.vals

/-! ### dicts with tuples for keys -/
section
variable {X : Cx} {pins : List (Addr × Obj)} {σ : L2.St} {H : Hp} {s : Shared} {a b : Addr} {xs : List (NestedKey × Addr × Value)} {kvs : List (NestedKey × D)} {k : NestedKey} {A : Around} {E : Value → Shared → Prop}
mutual
theorem dv_nested (I : Inv X pins σ H s) : ∀ (k : NestedKey) (v : V) (u : Value), DV X.B H (nkD k) v → RelV v u → NestedIs s.heap k u
  | .none, v, u, d, r => by
    unfold nkD at d; cases d
    cases (show u = Value.none from r); exact .none
  | .num i, v, u, d, r => by
    unfold nkD at d; cases d
    obtain ⟨t, rfl⟩ := (show ∃ t, u = Value.int i t from r); exact .int i t
  | .text x, v, u, d, r => by
    unfold nkD at d; cases d
    obtain ⟨t, rfl⟩ := (show ∃ t, u = Value.str x t from r); exact .text x t
  | .tup ks, v, u, d, r => by
    unfold nkD at d
    cases d with
    | @tup a o ds vs s1 n hs =>
      obtain rfl : u = Value.ref a := r
      obtain ⟨its, rv, ⟨ob, h1, h2, m, h3⟩, _⟩ := I.tuple (sqF .refl s1)
      exact .tup h1 h2 h3 (by rw [List.toList_toArray]; exact dv_nesteds I ks vs its hs rv)
theorem dv_nesteds (I : Inv X pins σ H s) : ∀ (ks : List NestedKey) (vs : List V) (us : List Value), DVs X.B H (nkDs ks) vs → Vals vs us → NestedAll s.heap ks us
  | [], vs, us, d, r => by
    unfold nkDs at d; cases d; cases r; exact .nil
  | k :: ks, vs, us, d, r => by
    unfold nkDs at d
    cases d with
    | cons a b => cases r with
      | cons c e => exact .cons (dv_nested I k _ _ a c) (dv_nesteds I ks _ _ b e)
end
theorem TDR.keys {K : Bd} {H : Hp} (r : TDR K H kvs xs) : ∀ x ∈ xs, DV K H (nkD x.1) (.ref x.2.1) ∧ x.1.depth ≤ 8 := by
  induction r with
  | nil => intro x hx; cases hx
  | cons a z b e _ ih =>
    intro x hx
    rcases List.mem_cons.mp hx with rfl | hx
    · exact ⟨a, z⟩
    · exact ih x hx
theorem TDR.length {K : Bd} {H : Hp} (r : TDR K H kvs xs) : kvs.length = xs.length := by
  induction r with
  | nil => rfl
  | cons _ _ _ _ _ ih => simp [ih]
theorem TDR.at {K : Bd} {H : Hp} (r : TDR K H kvs xs) (k : NestedKey) : match valD kvs k with
    | some d => ∃ p v, atKey xs k = some p ∧ DV K H d v ∧ RelV v p.2
    | none => atKey xs k = none := by
  induction r with
  | nil => simp [valD, atKey]
  | @cons k' d q v u kvs xs a z b e t ih =>
    by_cases hk : k' = k
    · subst hk
      have e1 : valD ((k', d) :: kvs) k' = some d := by simp [valD]
      have e2 : atKey ((k', q, u) :: xs) k' = some (q, u) := by simp [atKey]
      rw [e1]
      exact ⟨_, v, e2, b, e⟩
    · have e1 : valD ((k', d) :: kvs) k = valD kvs k := by simp [valD, List.find?_cons, hk]
      have e2 : atKey ((k', q, u) :: xs) k = atKey xs k := by simp [atKey, List.find?_cons, hk]
      rw [e1, e2]
      exact ih
theorem TDR.has {K : Bd} {H : Hp} (r : TDR K H kvs xs) (k : NestedKey) : (atKey xs k).isSome = (valD kvs k).isSome := by
  have q := r.at k
  cases e : valD kvs k with
  | none => rw [e] at q; rw [q]; rfl
  | some d => rw [e] at q; obtain ⟨p, v, e2, _⟩ := q; rw [e2]; rfl
theorem TDR.snoc {K : Bd} {H : Hp} (r : TDR K H kvs xs) {q : Addr} {d : D} {v : V} {u : Value} (hk : DV K H (nkD k) (.ref q)) (hd : k.depth ≤ 8) (dv : DV K H d v) (rv : RelV v u) : TDR K H (kvs ++ [(k, d)]) (xs ++ [(k, q, u)]) := by
  induction r with
  | nil => exact .cons hk hd dv rv .nil
  | cons a z b e _ ih => exact .cons a z b e ih
theorem TDR.repl {K : Bd} {H : Hp} (r : TDR K H kvs xs) {d : D} {v : V} {u : Value} (dv : DV K H d v) (rv : RelV v u) : TDR K H (kvs.map fun kv => if kv.1 = k then (kv.1, d) else kv) (xs.map (putAt k u)) := by
  induction r with
  | nil => exact .nil
  | @cons k' d' q v' u' kvs xs a z b e t ih =>
    by_cases hk : k' = k
    · simpa [putAt, hk] using TDR.cons (hk ▸ a) (hk ▸ z) dv rv ih
    · simpa [putAt, hk] using TDR.cons a z b e ih
theorem TDR.put {K : Bd} {H : Hp} (r : TDR K H kvs xs) {q : Addr} {d : D} {v : V} {u : Value} (hk : DV K H (nkD k) (.ref q)) (hd : k.depth ≤ 8) (dv : DV K H d v) (rv : RelV v u) : TDR K H (putD kvs k d) (storedH xs k q u) := by
  have e : (kvs.any fun kv => decide (kv.1 = k)) = (atKey xs k).isSome := by
    rw [r.has k]
    clear r
    induction kvs with
    | nil => rfl
    | cons kv kvs ih =>
      by_cases hk' : kv.1 = k
      · simp [valD, hk']
      · simp only [List.any_cons, hk', decide_false, Bool.false_or]
        rw [ih]
        simp [valD, List.find?_cons, hk']
  unfold putD storedH
  rw [e]
  cases (atKey xs k).isSome with
  | true => simpa using r.repl dv rv
  | false => simpa using r.snoc hk hd dv rv
theorem td_dict (I : Inv X pins σ H s) (h : H a = some (tdO X.prog X.w a xs)) (hk : ∀ x ∈ xs, DV X.B H (nkD x.1) (.ref x.2.1) ∧ x.1.depth ≤ 8) : xs.length ≤ sizeLine ∧ (a == sysModules) = false ∧ s.heap.DictOfH (nestedKind X.prog X.w) a xs := by
  obtain ⟨⟨z, y, o, es, ep, h1, h2, h3, h4, h5⟩, _⟩ := (show ObjOk X.prog X.w H s.heap a (tdO X.prog X.w a xs) from I.hok a _ h)
  exact ⟨z, y, o, es, ep, h1, h2, h3, h4, fun x hx => ⟨dv_nested I x.1 _ _ (hk x hx).1 rfl, (hk x hx).2⟩, h5⟩
theorem td_ok {P : Program} {w : World} {H : Hp} {h : Heap} (z : xs.length ≤ sizeLine) (y : (a == sysModules) = false) (d : h.DictOfH (nestedKind P w) a xs) : ObjOk P w H h a (tdO P w a xs) := by
  obtain ⟨o, es, ep, h1, h2, h3, h4, _, h5⟩ := d
  exact ⟨⟨z, y, o, es, ep, h1, h2, h3, h4, h5⟩, ⟨o, h1⟩, fun g1 g2 ⟨z, y, o, es, ep, h1, r⟩ hk => ⟨z, y, o, es, ep, hk o h1, r⟩⟩
theorem room_k (hu : A.units + 64 < cLine) : (nestedKind X.prog X.w).room A.in1 := by
  show A.units + 1 + 8 < cLine
  omega
/-- what is known of a key beside a dict -/
structure TG (X : Cx) (H : Hp) (a b : Addr) (xs : List (NestedKey × Addr × Value)) (k : NestedKey) : Prop where
  at_ : H a = some (tdO X.prog X.w a xs)
  all : ∀ x ∈ xs, DV X.B H (nkD x.1) (.ref x.2.1) ∧ x.1.depth ≤ 8
  key : DV X.B H (nkD k) (.ref b)
  dep : k.depth ≤ 8
theorem TG.is (g : TG X H a b xs k) (I : Inv X pins σ H s) : (nestedKind X.prog X.w).is s.heap k b := ⟨dv_nested I k _ _ g.key rfl, g.dep⟩
theorem tg_get {p : Addr × Value} {Q : Value → Shared → Prop} (hu : A.units + 64 < cLine) (I : Inv X pins σ H s) (g : TG X H a b xs k) (hp : atKey xs k = some p) (h : ∀ s', Inv X pins σ H s' → Q p.2 s') : wpAny (model X.prog X.w) A (getItem (.ref a) (.ref b)) Q E s := by
  obtain ⟨z, hd, dd⟩ := td_dict I g.at_ g.all
  exact wpAny_getItem_heap (room_k hu) (g.is I) dd hp (h _ (I.tok _))
theorem tg_in {Q : Value → Shared → Prop} (hu : A.units + 64 < cLine) (I : Inv X pins σ H s) (g : TG X H a b xs k) (h : ∀ s', Inv X pins σ H s' → Q (.bool (atKey xs k).isSome) s') : wpAny (model X.prog X.w) A (compareOp .In (.ref b) (.ref a)) Q E s := by
  obtain ⟨z, hd, dd⟩ := td_dict I g.at_ g.all
  exact wpAny_in_heap (room_k hu) (g.is I) hd dd (h _ (I.tok _))
theorem tg_nin {Q : Value → Shared → Prop} (hu : A.units + 64 < cLine) (I : Inv X pins σ H s) (g : TG X H a b xs k) (h : ∀ s', Inv X pins σ H s' → Q (.bool (!(atKey xs k).isSome)) s') : wpAny (model X.prog X.w) A (compareOp .NotIn (.ref b) (.ref a)) Q E s := by
  obtain ⟨z, hd, dd⟩ := td_dict I g.at_ g.all
  exact wpAny_notIn_heap (room_k hu) (g.is I) hd dd (h _ (I.tok _))
theorem stored_len (xs : List (NestedKey × Addr × Value)) (k : NestedKey) (b : Addr) (r : Value) : (storedH xs k b r).length ≤ xs.length + 1 := by
  unfold storedH
  split
  · rw [List.length_map]; exact Nat.le_succ _
  · rw [List.length_append] <;> exact Nat.le_refl _
theorem tg_set {r : Value} {Q : Unit → Shared → Prop} (hu : A.units + 64 < cLine) (I : Inv X pins σ H s) (g : TG X H a b xs k) (hl : xs.length < sizeLine) (h : ∀ s', Inv X pins σ (upd H a (tdO X.prog X.w a (storedH xs k b r))) s' → Q () s') : wpAny (model X.prog X.w) A (setItem (.ref a) (.ref b) r) Q E s := by
  obtain ⟨z, hd, dd⟩ := td_dict I g.at_ g.all
  refine wpAny_setItem_heap (hsz := z) (room_k hu) (g.is I) dd fun h' dd' hs => h _ ?_
  have he : ∃ q, h'.get? a = some q := let ⟨q, _, _, hq, _⟩ := dd'; ⟨q, hq⟩
  exact d_write I (by rw [g.at_]; exact True.intro) hs he (td_ok (Nat.le_trans (stored_len ..) hl) hd dd')
/-- d[y], by values, of both kinds of dicts -/
def xGet (X : Cx) : R2 := fun x y H Q => (∃ a v, x = .ref a ∧ DGet H a y (some v) ∧ Q v H) ∨ ∃ a b xs k p v, x = .ref a ∧ y = .ref b ∧ TG X H a b xs k ∧ atKey xs k = some p ∧ RelV v p.2 ∧ Q v H
def xIn (X : Cx) (neg : Bool) : R2 := fun y x H Q => (∃ a o, x = .ref a ∧ DGet H a y o ∧ Q (.bl (if neg then !o.isSome else o.isSome)) H) ∨ ∃ a b xs k, x = .ref a ∧ y = .ref b ∧ TG X H a b xs k ∧ Q (.bl (if neg then !(atKey xs k).isSome else (atKey xs k).isSome)) H
def xPut (X : Cx) (H : Hp) (a : Addr) (y v : V) (N : Hp → Prop) : Prop := (∃ H', DPut H a y v H' ∧ N H') ∨ ∃ b xs k, y = .ref b ∧ TG X H a b xs k ∧ xs.length < sizeLine ∧ ∀ r, RelV v r → N (upd H a (tdO X.prog X.w a (storedH xs k b r)))
theorem x_get {y v : V} {u : Value} {Q : Value → Shared → Prop} (hu : A.units + 64 < cLine) (I : Inv X pins σ H s) {x : V} {ux : Value} {QV : VK} (g : xGet X x y H QV) (rx : RelV x ux) (ry : RelV y u) (h : ∀ v w' s', Inv X pins σ H s' → RelV v w' → QV v H → Q w' s') :
    s.TypeIs ux "dict" ∧ wpAny (model X.prog X.w) A (getItem ux u) Q E s := by
  rcases g with ⟨a, v, rfl, g, q⟩ | ⟨a, b, xs, k, p, v, rfl, rfl, g, hp, rv, q⟩
  · obtain rfl : ux = Value.ref a := rx
    exact ⟨dict_typeIs I g, d_getItem (by omega) I g ry fun w' s' I' r' => h v w' s' I' r' q⟩
  · obtain rfl : ux = Value.ref a := rx
    obtain rfl : u = Value.ref b := ry
    obtain ⟨_, _, dd⟩ := td_dict I g.at_ g.all
    exact ⟨dd.typeIs, tg_get hu I g hp fun s' I' => h v p.2 s' I' rv q⟩
theorem x_set {y v : V} {u r : Value} {N : Hp → Prop} {Q : Unit → Shared → Prop} (hu : A.units + 64 < cLine) (I : Inv X pins σ H s) (g : xPut X H a y v N) (ry : RelV y u) (rv : RelV v r) (h : ∀ H' s', Inv X pins σ H' s' → N H' → Q () s') : wpAny (model X.prog X.w) A (setItem (.ref a) u r) Q E s := by
  rcases g with ⟨H', g, n⟩ | ⟨b, xs, k, rfl, g, hl, n⟩
  · exact d_setItem (by omega) I g ry rv fun s' I' => h H' s' I' n
  · obtain rfl : u = Value.ref b := ry
    exact tg_set hu I g hl fun s' I' => h _ s' I' (n r rv)
variable {o i value : Expr} {pos pos' tpos : Pos} {td ty tv : TE}
theorem pe_xget (hu : X.A.units + 64 < cLine) (ho : PE X o td) (hi : PE X i ty) (hs : NoSl i) : PE X (.Subscript o i pos) (tOp (xGet X) td ty) := by
  refine ⟨fun pins s σ H Q I h => ?_⟩
  refine subD_of PySem.F.slot_dict_getitem.lookup hs (thn (ho.run pins s σ H _ I h) fun u s1 ⟨x, H1, I1, rx, q1⟩ => thn (hi.run pins s1 σ H1 _ I1 q1) fun iv s2 ⟨y, H2, I2, ry, g⟩ => ?_)
  exact x_get (v := y) hu I2 g rx ry fun v w' s3 I3 rw' q => ⟨v, H2, I3, rw', q⟩
theorem pc_xin (hu : X.A.units + 64 < cLine) (hi : PE X i ty) (ho : PE X o td) : PC X .In i o (tOp (xIn X false) ty td) := by
  refine ⟨fun pins s σ H Q I h => ?_⟩
  refine thn (hi.run pins s σ H _ I h) fun iv s1 ⟨y, H1, I1, ry, q1⟩ => thn (ho.run pins s1 σ H1 _ I1 q1) fun u s2 ⟨x, H2, I2, rx, g⟩ => ?_
  rcases g with ⟨a, ov, rfl, g, q⟩ | ⟨a, b, xs, k, rfl, rfl, g, q⟩
  · obtain rfl : u = Value.ref a := rx
    exact d_in (by omega) I2 g ry fun s3 I3 => ⟨.bl ov.isSome, H2, I3, rfl, q⟩
  · obtain rfl : u = Value.ref a := rx
    obtain rfl : iv = Value.ref b := ry
    exact tg_in hu I2 g fun s3 I3 => ⟨.bl _, H2, I3, rfl, q⟩
theorem pc_xnin (hu : X.A.units + 64 < cLine) (hi : PE X i ty) (ho : PE X o td) : PC X .NotIn i o (tOp (xIn X true) ty td) := by
  refine ⟨fun pins s σ H Q I h => ?_⟩
  refine thn (hi.run pins s σ H _ I h) fun iv s1 ⟨y, H1, I1, ry, q1⟩ => thn (ho.run pins s1 σ H1 _ I1 q1) fun u s2 ⟨x, H2, I2, rx, g⟩ => ?_
  rcases g with ⟨a, ov, rfl, g, q⟩ | ⟨a, b, xs, k, rfl, rfl, g, q⟩
  · obtain rfl : u = Value.ref a := rx
    exact d_notIn (by omega) I2 g ry fun s3 I3 => ⟨.bl (!ov.isSome), H2, I3, rfl, q⟩
  · obtain rfl : u = Value.ref a := rx
    obtain rfl : iv = Value.ref b := ry
    exact tg_nin hu I2 g fun s3 I3 => ⟨.bl _, H2, I3, rfl, q⟩
def sXPut (X : Cx) (td ty tv : TE) : TS := fun D σ H => tv σ H fun v H1 => td σ H1 fun x H2 => ty σ H2 fun y H3 => ∃ a, x = .ref a ∧ xPut X H3 a y v fun H4 => D.nx σ H4
theorem ps_xput (hu : X.A.units + 64 < cLine) (ho : PE X o td) (hi : PE X i ty) (hv : PE X value tv) (hs : swapsWith value (some (.Subscript o i pos')) pos.line X.env = pure false) :
    PS X (.Assign [.Subscript o i pos'] value pos) (sXPut X td ty tv) := by
  refine ⟨fun pins s σ H D I h => ?_⟩
  refine wpAny_Assign_Subscript (thn (hv.run pins s σ H _ I h) fun r s1 ⟨v, H1, I1, rv, q1⟩ => thn (ho.run pins s1 σ H1 _ I1 q1) fun u s2 ⟨x, H2, I2, rx, q2⟩ => thn (hi.run pins s2 σ H2 _ I2 q2) fun iv s3 ⟨y, H3, I3, ry, a, ex, g⟩ => ?_) hs
  subst ex
  obtain rfl : u = Value.ref a := rx
  exact x_set hu I3 g ry rv fun H4 s4 I4 q => ⟨σ, H4, I4, q⟩
def sXAug (X : Cx) (td ty tv : TE) (rd : V → V → Hp → VK → Prop) : TS := fun D σ H => td σ H fun x H1 => ty σ H1 fun y H2 => ∃ a, x = .ref a ∧ xGet X x y H2 fun v H2' =>
  tv σ H2' fun y2 H3 => rd v y2 H3 fun z H4 => xPut X H4 a y z fun H5 => D.nx σ H5
theorem ps_xaug {op : Operator} {rd : V → V → Hp → VK → Prop} (hu : X.A.units + 64 < cLine) (ho : PE X o td) (hi : PE X i ty) (hv : PE X value tv) (hop : InOp X op rd)
    (ha : ∀ ov iv new, augStore i ov iv new = (do holding [new, ov, iv] (setItem ov iv new); release [new, ov, iv] []; pure .next)) : PS X (.AugAssign (.Subscript o i tpos) op value pos) (sXAug X td ty tv rd) := by
  refine ⟨fun pins s σ H D I h => ?_⟩
  refine wpAny_AugAssign_SubscriptAny (thn (ho.run pins s σ H _ I h) fun u s1 ⟨x, H1, I1, rx, q1⟩ => thn (hi.run pins s1 σ H1 _ I1 q1) fun iv s2 ⟨y, H2, I2, ry, a, ex, g⟩ => ?_) ha
  subst ex
  obtain rfl : u = Value.ref a := rx
  refine (x_get (v := y) hu I2 g rfl ry fun v w' s3 I3 rw' q2 => ?_).2
  refine thn (hv.run pins s3 σ H2 _ I3 q2) fun w2 s4 ⟨y2, H3, I4, ry2, q3⟩ => thn (hop pins s4 σ H3 v y2 w' w2 _ I4 rw' ry2 q3) fun w3 s5 ⟨z, H4, I5, rz, g5⟩ => ?_
  exact x_set hu I5 g5 ry rz fun H5 s6 I6 q4 => ⟨σ, H5, I6, q4⟩
end
mutual
/-- a tuple as a key -/
def keyN : D → Option NestedKey
  | .non => some .none
  | .int i => some (.num i)
  | .str x => some (.text x)
  | .tup ds => (keyNs ds).map .tup
  | _ => none
def keyNs : List D → Option (List NestedKey)
  | [] => some []
  | d :: ds => match keyN d, keyNs ds with
    | some k, some ks => some (k :: ks)
    | _, _ => none
end
mutual
theorem keyN_eq : ∀ {d : D} {k : NestedKey}, keyN d = some k → d = nkD k
  | .non, k, h => by simp only [keyN, Option.some.injEq] at h; subst h; rfl
  | .int i, k, h => by simp only [keyN, Option.some.injEq] at h; subst h; rfl
  | .str x, k, h => by simp only [keyN, Option.some.injEq] at h; subst h; rfl
  | .tup ds, k, h => by
    simp only [keyN, Option.map_eq_some_iff] at h
    obtain ⟨ks, h1, rfl⟩ := h
    rw [keyNs_eq h1, nkD]
  | .bl _, k, h => by simp [keyN] at h
  | .ref _, k, h => by simp [keyN] at h
  | .pair _, k, h => by simp [keyN] at h
theorem keyNs_eq : ∀ {ds : List D} {ks : List NestedKey}, keyNs ds = some ks → ds = nkDs ks
  | [], ks, h => by simp only [keyNs, Option.some.injEq] at h; subst h; rfl
  | d :: ds, ks, h => by
    unfold keyNs at h
    split at h
    · rename_i k ks' e1 e2
      simp only [Option.some.injEq] at h
      subst h
      rw [nkDs, keyN_eq e1, keyNs_eq e2]
    · cases h
end
/-- what a dict holds at a key -/
inductive DGetD (M : DM) (a : Addr) : D → Option D → Prop
  | k {kvs : List (Key × D)} {d : D} {k : Key} : M a = some (.dK kvs) → KeyD d = some k → DGetD M a d (valD kvs k)
  | t {kvs : List (NestedKey × D)} {ds : List D} {k : NestedKey} : M a = some (.dT kvs) → keyN (.tup ds) = some k → k.depth ≤ 8 → DGetD M a (.tup ds) (valD kvs k)
/-- a store behind d[k] = v -/
inductive DPutD (M : DM) (a : Addr) : D → D → DM → Prop
  | k {kvs : List (Key × D)} {d v : D} {k : Key} : M a = some (.dK kvs) → KeyD d = some k → kvs.length < sizeLine → DPutD M a d v (put M a (.dK (putD kvs k v)))
  | t {kvs : List (NestedKey × D)} {ds : List D} {v : D} {k : NestedKey} : M a = some (.dT kvs) → keyN (.tup ds) = some k → k.depth ≤ 8 → kvs.length < sizeLine → DPutD M a (.tup ds) v (put M a (.dT (putD kvs k v)))
section
variable {X : Cx} {W : WX}
theorem tg_of {M : DM} {H : Hp} {a : Addr} {ds : List D} {v : V} {kvs : List (NestedKey × D)} {k : NestedKey} (R : Rel X.B M H) (e : M a = some (.dT kvs)) (hk : keyN (.tup ds) = some k) (hd : k.depth ≤ 8) (r : DV X.B H (.tup ds) v) : ∃ b xs, v = .ref b ∧ TG X H a b xs k ∧ TDR X.B H kvs xs := by
  obtain ⟨xs, hu, t⟩ := R.dT e
  rw [keyN_eq hk] at r
  cases v with
  | ref b => exact ⟨b, xs, rfl, ⟨hu, t.keys, r, hd⟩, t⟩
  | _ => rw [← keyN_eq hk] at r; nomatch r
/-- d[k] -/
def dgetD : R2D := fun d e M Q => ∃ a v, d = .ref a ∧ DGetD M a e (some v) ∧ Q v M
theorem o_dget : OpD X (xGet X) dgetD := fun d e x y M H Qd Q dx ey R ⟨a, v, hd, g, h⟩ c => by
  subst hd; cases dx
  generalize ho : some v = ov at g
  cases g with
  | @k kvs _ k e hk =>
    obtain ⟨kws, hu, pr⟩ := R.dK e
    obtain ⟨w, hw, dw⟩ := pr.val ho.symm
    rw [KeyD.dv hk ey]
    refine .inl ⟨a, w, rfl, ?_, c.now R dw h⟩
    rw [← hw]
    exact DGet.k hu
  | @t kvs ds k e hk hd =>
    obtain ⟨b, xs, rfl, g, t⟩ := tg_of R e hk hd ey
    have q := t.at k
    rw [← ho] at q
    obtain ⟨p, w, e2, dw, rw'⟩ := q
    exact .inr ⟨a, b, xs, k, p, w, rfl, rfl, g, e2, rw', c.now R dw h⟩
theorem de_dget {o i : Expr} {td ty : TED} {pos : Pos} (hu : X.A.units + 64 < cLine) (ho : PE X o (lE X.B W td)) (hi : PE X i (lE X.B W ty)) (hs : NoSl i) : PE X (.Subscript o i pos) (lE X.B W (dOp dgetD td ty)) :=
  PE.imp (pe_xget hu ho hi hs) fun _ _ _ h => lift2 o_dget h
/-- k in d, k not in d -/
def dinD (neg : Bool) : R2D := fun e d M Q => ∃ a o, d = .ref a ∧ DGetD M a e o ∧ Q (.bl (if neg then !o.isSome else o.isSome)) M
theorem o_din {neg : Bool} : OpD X (xIn X neg) (dinD neg) := fun e d y x M H Qd Q ey dx R ⟨a, o, hd, g, h⟩ c => by
  subst hd; cases dx
  cases g with
  | @k kvs _ k e hk =>
    obtain ⟨kws, hu, pr⟩ := R.dK e
    rw [KeyD.dv hk ey]
    refine .inl ⟨a, valV kws k, rfl, DGet.k hu, ?_⟩
    rw [pr.has k]
    exact c.now R .bl h
  | @t kvs ds k e hk hd =>
    obtain ⟨b, xs, rfl, g, t⟩ := tg_of R e hk hd ey
    refine .inr ⟨a, b, xs, k, rfl, rfl, g, ?_⟩
    rw [t.has k]
    exact c.now R .bl h
theorem de_din {o i : Expr} {td ty : TED} {pos : Pos} (hu : X.A.units + 64 < cLine) (hi : PE X i (lE X.B W ty)) (ho : PE X o (lE X.B W td)) (hm : behindInMarks .In o = false := by rfl) : PE X (.Compare i [.In] [o] pos) (lE X.B W (dOp (dinD false) ty td)) :=
  PE.imp (pe_cmp (pc_xin hu hi ho) hm) fun _ _ _ h => lift2 o_din h
theorem de_dnin {o i : Expr} {td ty : TED} {pos : Pos} (hu : X.A.units + 64 < cLine) (hi : PE X i (lE X.B W ty)) (ho : PE X o (lE X.B W td)) (hm : behindInMarks .NotIn o = false := by rfl) : PE X (.Compare i [.NotIn] [o] pos) (lE X.B W (dOp (dinD true) ty td)) :=
  PE.imp (pe_cmp (pc_xnin hu hi ho) hm) fun _ _ _ h => lift2 o_din h
theorem dt_din {o i : Expr} {td ty : TED} {pos : Pos} (hu : X.A.units + 64 < cLine) (hi : PE X i (lE X.B W ty)) (ho : PE X o (lE X.B W td)) (hm : behindInMarks .In o = false := by rfl) : PT X (.Compare i [.In] [o] pos) (lT X.B W (dB (dOp (dinD false) ty td))) :=
  dt_of (tt := lE X.B W (dOp (dinD false) ty td)) (PT.imp (pt_cmp (pc_xin hu hi ho) hm) fun σ H Q h => lift2 (Q := fun x H' => ∃ k, x = .bl k ∧ Q k H') o_din h)
theorem dt_dnin {o i : Expr} {td ty : TED} {pos : Pos} (hu : X.A.units + 64 < cLine) (hi : PE X i (lE X.B W ty)) (ho : PE X o (lE X.B W td)) (hm : behindInMarks .NotIn o = false := by rfl) : PT X (.Compare i [.NotIn] [o] pos) (lT X.B W (dB (dOp (dinD true) ty td))) :=
  dt_of (tt := lE X.B W (dOp (dinD true) ty td)) (PT.imp (pt_cmp (pc_xnin hu hi ho) hm) fun σ H Q h => lift2 (Q := fun x H' => ∃ k, x = .bl k ∧ Q k H') o_din h)
/-- the store behind d[k] = v -/
theorem DPutD.ok {M M' : DM} {H : Hp} {a : Addr} {d e : D} {v z : V} {N : Hp → Prop} (R : Rel X.B M H) (g : DPutD M a d e M') (r : DV X.B H d v) (rz : DV X.B H e z) (n : ∀ H', Rel X.B M' H' → Keep M H M' H' → N H') : xPut X H a v z N := by
  cases g with
  | k h hk hl =>
    obtain ⟨kws, hu, pr⟩ := R.dK h
    rw [KeyD.dv hk r]
    exact .inl ⟨_, DPut.k hu (by rw [← pr.length]; exact hl), n _ (R.write h (.ofK (pr.put _ rz))) (.write R h _ _)⟩
  | t h hk hd hl =>
    obtain ⟨b, xs, rfl, g, t⟩ := tg_of R h hk hd r
    exact .inr ⟨b, xs, _, rfl, g, by rw [← t.length]; exact hl, fun u ru => n _ (R.write h (.dT (t.put g.key hd rz ru))) (.write R h _ _)⟩
/-- d[k] = v -/
def dDPut (td ty tv : TED) : TSD := fun D σ M => tv σ M (fun v M1 => td σ M1 (fun d M2 => ty σ M2 (fun k M3 => ∃ a M4, d = .ref a ∧ DPutD M3 a k v M4 ∧ D.nx σ M4) (D.ex σ)) (D.ex σ)) (D.ex σ)
theorem ds_dput {o i value : Expr} {td ty tv : TED} {pos pos' : Pos} (hu : X.A.units + 64 < cLine) (ho : PE X o (lE X.B W td)) (hi : PE X i (lE X.B W ty)) (hv : PE X value (lE X.B W tv)) (hs : swapsWith value (some (.Subscript o i pos')) pos.line X.env = pure false := by rfl) : PS X (.Assign [.Subscript o i pos'] value pos) (lS X.B W (dDPut td ty tv)) :=
  PS.imp (ps_xput hu ho hi hv hs) fun D σ H ⟨σd, M, Dd, S, R, t, c⟩ => ⟨σd, M, _, _, S, R, t, fun v zv M1 H1 dv R1 k1 q1 => ⟨σd, M1, _, _, S.mono (k1.tups R), R1, q1, fun d x M2 H2 dx R2 k2 q2 => ⟨σd, M2, _, _, S.mono ((k1.trans k2).tups R), R2, q2, fun k y M3 H3 dy R3 k3 ⟨a, M4, hd, g, q⟩ => by
    subst hd
    cases dx
    refine ⟨a, rfl, g.ok R3 dy (dv.mono ((k2.trans k3).tups R1)) fun H4 R4 k4 => ?_⟩
    have kk := ((k1.trans k2).trans k3).trans k4
    exact c.nx _ _ M4 H4 (S.mono (kk.tups R)) R4 kk q, (c.cx S R).after (k1.trans k2)⟩, (c.cx S R).after k1⟩, c.cx S R⟩
/-- d[k] op= v -/
def dDAug (rd : R2D) (td ty tv : TED) : TSD := fun D σ M => td σ M (fun d M1 => ty σ M1 (fun k M2 => ∃ a v, d = .ref a ∧ DGetD M2 a k (some v) ∧ tv σ M2 (fun e M3 => rd v e M3 (fun z M4 => ∃ M5, DPutD M4 a k z M5 ∧ D.nx σ M5)) (D.ex σ)) (D.ex σ)) (D.ex σ)
theorem ds_daug {o i value : Expr} {op : Operator} {r : R2} {rd : R2D} {td ty tv : TED} {pos tpos : Pos} (hr : OpD X r rd) (hu : X.A.units + 64 < cLine) (ho : PE X o (lE X.B W td)) (hi : PE X i (lE X.B W ty)) (hv : PE X value (lE X.B W tv)) (hop : InOp X op r)
    (ha : ∀ ov iv new, augStore i ov iv new = (do holding [new, ov, iv] (setItem ov iv new); release [new, ov, iv] []; pure .next) := by intros; rfl) : PS X (.AugAssign (.Subscript o i tpos) op value pos) (lS X.B W (dDAug rd td ty tv)) :=
  PS.imp (ps_xaug hu ho hi hv hop ha) fun D σ H ⟨σd, M, Dd, S, R, t, c⟩ => ⟨σd, M, _, _, S, R, t, fun d x M1 H1 dx R1 k1 q1 => ⟨σd, M1, _, _, S.mono (k1.tups R), R1, q1, fun k y M2 H2 dy R2 k2 ⟨a, v, hd, g, q2⟩ => by
    subst hd
    cases dx
    refine ⟨a, rfl, o_dget _ _ _ _ M2 H2 (fun v' M' => tv σd M' (fun e M3 => rd v' e M3 (fun z M4 => ∃ M5, DPutD M4 a k z M5 ∧ Dd.nx σd M5)) (Dd.ex σd)) _ .ref dy R2 ⟨a, v, rfl, g, q2⟩ fun v' w M2' H2' dw R2' k2' q2' => ?_⟩
    have kk2 := (k1.trans k2).trans k2'
    refine ⟨σd, M2', _, _, S.mono (kk2.tups R), R2', q2', fun e z M3 H3 ez R3 k3 q3 => hr v' e w z M3 H3 _ _ (dw.mono (k3.tups R2')) ez R3 q3 fun f zf M4 H4 fz R4 k4 ⟨M5, g5, q5⟩ => ?_, (c.cx S R).after kk2⟩
    refine g5.ok R4 (dy.mono (((k2'.trans k3).trans k4).tups R2)) fz fun H5 R5 k5 => ?_
    have kk := ((kk2.trans k3).trans k4).trans k5
    exact c.nx _ _ M5 H5 (S.mono (kk.tups R)) R5 kk q5, (c.cx S R).after k1⟩, c.cx S R⟩
theorem pe_newTD {pos : Pos} : PE X (.Dict [] [] pos) (fun _ H Q => ∀ p, H p = none → Q (.ref p) (upd H p (tdO X.prog X.w p []))) := ⟨fun pins s σ H Q I h =>
  wpAny_Dict_empty ⟨.ref s.heap.objs.size, _, I.laid (a := s.heap.objs.size) (o := tdO X.prog X.w s.heap.objs.size []) (t' := s.toks) (fun _ _ q => Heap.get?_push_of_some _ q) (Nat.le_refl _) (td_ok (Nat.zero_le _) (beq_eq_false_iff_ne.mpr (Ne.symm (Nat.ne_of_lt I.big)))
    ⟨_, #[], 0, Heap.get?_push_size _ rfl, ⟨rfl, rfl, rfl⟩, rfl, rfl, (fun x hx => nomatch hx), List.nodup_nil⟩), rfl, h _ (I.hok.fresh (Nat.le_refl _))⟩⟩
/-- {} -/
def dNewK : TED := fun _ M Q _ => ∀ p, M p = none → Q (.ref p) (put M p (.dK []))
def dNewT : TED := fun _ M Q _ => ∀ p, M p = none → Q (.ref p) (put M p (.dT []))
theorem de_newK {pos : Pos} : PE X (.Dict [] [] pos) (lE X.B W dNewK) := PE.imp pe_dnewK fun σ H Q ⟨σd, M, Qd, E, S, R, t, c, cx⟩ p hp => c _ _ _ _ .ref (R.new hp (.dK rfl .nil)) (.new R hp _ _) (t p (R.free hp))
theorem de_newT {pos : Pos} : PE X (.Dict [] [] pos) (lE X.B W dNewT) := PE.imp pe_newTD fun σ H Q ⟨σd, M, Qd, E, S, R, t, c, cx⟩ p hp => c _ _ _ _ .ref (R.new hp (.dT .nil)) (.new R hp _ _) (t p (R.free hp))
/-- a dict comprehension -/
theorem lift_dc {wi : TID} {g : TGD} {tt : TTD} {tk tv : TED} {vs : List Nat} {σ : L2.St} {H : Hp} {Q : VK} (h : lE X.B W (dDc wi g tt tk tv vs) σ H Q) : tDc (lI X.B W wi) (lG X.B w0 vs g) (lT X.B w0 tt) (lE X.B w0 tk) (lE X.B w0 tv) vs σ H Q := by
  obtain ⟨σd, M, Qd, E, S, R, t, c, cx⟩ := h
  refine ⟨σd, M, _, E, S, R, t, fun Jd J M1 H1 ok R1 k1 ⟨n, q⟩ p hp => ?_, cx⟩
  have c1 := c.after k1
  have S1 := S.mono (k1.tups R)
  refine ⟨fun i m H' => ∃ M' acc ws, Rel X.B M' H' ∧ dcN Jd g tt tk tv vs σd Qd m i M' acc ∧ PR X.B H' acc ws ∧ H' p = some (.dK ws) ∧ M' p = none ∧ KeepP p M1 H1 M' H' ∧ Tups H1 H', ⟨n, M1, [], [], R1.hidden hp _, q, .nil, upd_same, R1.free hp, ?_, tups_new hp _⟩, ?_⟩
  · exact ⟨fun a u e _ _ => by rw [upd_ne (ne_of_none e hp)]; exact e, fun a u e n => ⟨n, u, by rw [upd_ne (ne_of_none e hp)]; exact e⟩, (Keep.hidden R1 hp _).tab, hp⟩
  rintro i m H' ⟨M', acc, ws, R', t, as, hP, mP, kp, tp⟩
  cases m with
  | zero => exact t.elim
  | succ m =>
    unfold dcN at t
    cases e : Jd i M' with
    | none => rw [e] at t; exact t.elim
    | some o =>
      rw [e] at t
      cases o with
      | none => exact .inl ⟨ok.stop i M' H' tp R' e, c1 _ _ (put M' p (.dK acc)) H' .ref (R'.come hP (.ofK as)) (kp.done _) (t p mP)⟩
      | some d =>
        refine .inr ⟨ok.go i M' H' d tp R' e, fun H2 => ∃ M2 acc ws, Rel X.B M2 H2 ∧ dcN Jd g tt tk tv vs σd Qd m (i + 1) M2 acc ∧ PR X.B H2 acc ws ∧ H2 p = some (.dK ws) ∧ M2 p = none ∧ KeepP p M1 H1 M2 H2 ∧ Tups H1 H2, fun H2 h => ⟨m, Nat.lt_succ_self _, h⟩, fun x H2 y => ?_⟩
        obtain ⟨R2, k2, dx⟩ := ok.yld i M' H' d x H2 tp R' e y
        have tp2 := tp.trans (k2.tups R')
        refine ⟨d, _, M', _, _, dx, (S1.mono tp2).wipe vs, R2, t, fun σd3 σ3 M3 H3 o3 S3 R3 k3 q3 => ⟨off_wipe o3, σd3, M3, _, _, S3, R3, q3, fun b M4 H4 R4 k4 q4 => ?_, cnx0⟩, cnx0⟩
        have k24 := (k2.trans k3).trans k4
        cases b with
        | false => exact iteF ⟨M4, acc, ws, R4, q4, as.mono (k24.tups R'), k24.hid p _ hP mP dK_ne.2.2.1, (k24.out p _ hP mP).1, kp.then k24, tp.trans (k24.tups R')⟩
        | true =>
          refine iteT ⟨σd3, M4, _, _, S3.mono (k4.tups R3), R4, q4, fun z zv M5 H5 zr R5 k5 q5 => ⟨σd3, M5, _, _, S3.mono ((k4.trans k5).tups R3), R5, q5, fun y' yv M6 H6 yr R6 k6 ⟨k, hk, hl, q6⟩ => ?_, cnx0⟩, cnx0⟩
          have k26 := (k24.trans k5).trans k6
          have hP6 := k26.hid p _ hP mP dK_ne.2.2.1
          have mP6 := (k26.out p _ hP mP).1
          have as6 := as.mono (k26.tups R')
          have tq := tups_hput hP6 dK_ne.1 dK_ne.2.1 (.dK (putK ws k yv))
          exact ⟨ws, k, KeyD.dv hk zr, hP6, by rw [← as.length]; exact hl, M6, putD acc k y', putK ws k yv, R6.hput hP6 mP6 dK_ne.1 dK_ne.2.1 _, q6, (as6.put k yr).mono tq, upd_same, mP6, (kp.then k26).write hP6 dK_ne.2.2 _, (tp.trans (k26.tups R')).trans tq⟩
theorem de_dc {e : Expr} {wi : TID} {g : TGD} {tt : TTD} {tk tv : TED} {vs : List Nat} (h : PE X e (tDc (lI X.B W wi) (lG X.B w0 vs g) (lT X.B w0 tt) (lE X.B w0 tk) (lE X.B w0 tv) vs)) : PE X e (lE X.B W (dDc wi g tt tk tv vs)) := PE.imp h fun _ _ _ h => lift_dc h

/-! ### attributes -/
def lookD (f : Str) : List (Str × D) → Option D
  | [] => none
  | (g, d) :: r => if f = g then some d else lookD f r
def putFD (f : Str) (v : D) : List (Str × D) → List (Str × D)
  | [] => [(f, v)]
  | (g, d) :: r => if g = f then (g, v) :: r else (g, d) :: putFD f v r
theorem PR.look {K : Bd} {H : Hp} {fs : List (Str × D)} {gs : List (Str × V)} (h : PR K H fs gs) {f : Str} {d : D} (e : lookD f fs = some d) : ∃ v, gs.lookup f = some v ∧ DV K H d v := by
  induction h with
  | nil => cases e
  | @cons k d' v' ds vs a _ ih =>
    unfold lookD at e
    by_cases hk : f = k
    · rw [if_pos hk] at e; cases e
      exact ⟨v', by rw [hk]; simp [List.lookup], a⟩
    · rw [if_neg hk] at e
      obtain ⟨v, e2, q⟩ := ih e
      refine ⟨v, ?_, q⟩
      have hb : (f == k) = false := beq_eq_false_iff_ne.mpr hk
      simp only [List.lookup, hb, e2]
theorem PR.putF {K : Bd} {H : Hp} {fs : List (Str × D)} {gs : List (Str × V)} (h : PR K H fs gs) (f : Str) {d : D} {v : V} (a : DV K H d v) : PR K H (putFD f d fs) (putF f v gs) := by
  induction h with
  | nil => exact .cons a .nil
  | @cons k d' v' ds vs a' t ih =>
    unfold putFD L2.putF
    by_cases hk : k = f
    · rw [if_pos hk, if_pos hk]; exact .cons a t
    · rw [if_neg hk, if_neg hk]; exact .cons a' ih
/-- e.f -/
def fldD (K : Bd) (f : Str) : R1D := fun d M Q => ∃ a C fs v, d = .ref a ∧ M a = some (.ins C fs) ∧ Cls K C ∧ NoAttr K C f ∧ lookD f fs = some v ∧ Q v M
theorem de_fld {e : Expr} {f : Str} {ta : TED} {pos : Pos} (he : PE X e (lE X.B W ta)) (hb : attributeBase e f X.env (eval e X.env) = eval e X.env := by rfl) : PE X (.Attribute e f pos) (lE X.B W (dUn (fldD X.B f) ta)) :=
  PE.imp (pe_fld he hb) fun σ H Q h => lift1 (r := fun x H1 Q => ∃ a C dx fs v, x = .ref a ∧ H1 a = some (.ins C dx fs) ∧ Cls X.B C ∧ NoAttr X.B C f ∧ fs.lookup f = some v ∧ Q v H1) (fun d x M H Qd Q dx R ⟨a, C, fs, v, hd, e, cl, na, l, h⟩ c => by
    subst hd; cases dx
    obtain ⟨dx, gs, hu, pr⟩ := R.ins e
    obtain ⟨w, lw, dw⟩ := pr.look l
    exact ⟨a, C, dx, gs, w, rfl, hu, cl, na, lw, c.now R dw h⟩) h
/-- e.f = v -/
def dFldS (K : Bd) (f : Str) (ta tv : TED) : TSD := fun D σ M => tv σ M (fun v M1 => ta σ M1 (fun d M2 => ∃ a C fs, d = .ref a ∧ M2 a = some (.ins C fs) ∧ Cls K C ∧ NoAttr K C f ∧ fs.length < 1000 ∧ D.nx σ (put M2 a (.ins C (putFD f v fs)))) (D.ex σ)) (D.ex σ)
theorem ds_fld {o value : Expr} {f : Str} {ta tv : TED} {pos pos' : Pos} (ha : PE X o (lE X.B W ta)) (hv : PE X value (lE X.B W tv)) (hs : swapsWith value (some (.Attribute o f pos')) pos.line X.env = pure false := by rfl) : PS X (.Assign [.Attribute o f pos'] value pos) (lS X.B W (dFldS X.B f ta tv)) :=
  PS.imp (ps_fld ha hv hs) fun D σ H ⟨σd, M, Dd, S, R, t, c⟩ => ⟨σd, M, _, _, S, R, t, fun v zv M1 H1 dv R1 k1 q1 => ⟨σd, M1, _, _, S.mono (k1.tups R), R1, q1, fun d x M2 H2 dx R2 k2 ⟨a, C, fs, hd, e, cl, na, hl, q⟩ => by
    subst hd; cases dx
    obtain ⟨dx, gs, hu, pr⟩ := R2.ins e
    have kk := (k1.trans k2).trans (Keep.write R2 e (.ins C (putFD f v fs)) (.ins C dx (putF f zv gs)))
    exact ⟨a, C, dx, gs, rfl, hu, cl, na, by rw [← pr.length]; exact hl, c.nx _ _ _ _ (S.mono (kk.tups R)) (R2.write e (.ofI (pr.putF f (dv.mono (k2.tups R1))))) kk q⟩, (c.cx S R).after k1⟩, c.cx S R⟩
/-- e.f op= v -/
def dFldA (K : Bd) (rd : R2D) (f : Str) (ta tv : TED) : TSD := fun D σ M => ta σ M (fun d M1 => ∃ a C fs v, d = .ref a ∧ M1 a = some (.ins C fs) ∧ Cls K C ∧ NoAttr K C f ∧ lookD f fs = some v ∧ tv σ M1 (fun e M2 => rd v e M2 (fun z M3 => ∃ fs', M3 a = some (.ins C fs') ∧ fs'.length < 1000 ∧ D.nx σ (put M3 a (.ins C (putFD f z fs'))))) (D.ex σ)) (D.ex σ)
theorem ds_fldaug {o value : Expr} {op : Operator} {r : R2} {rd : R2D} {f : Str} {ta tv : TED} {pos tpos : Pos} (hr : OpD X r rd) (ha : PE X o (lE X.B W ta)) (hv : PE X value (lE X.B W tv)) (hop : InOp X op r) : PS X (.AugAssign (.Attribute o f tpos) op value pos) (lS X.B W (dFldA X.B rd f ta tv)) :=
  PS.imp (ps_fldaug ha hv hop) fun D σ H ⟨σd, M, Dd, S, R, t, c⟩ => ⟨σd, M, _, _, S, R, t, fun d x M1 H1 dx R1 k1 ⟨a, C, fs, v, hd, e, cl, na, l, q1⟩ => by
    subst hd; cases dx
    obtain ⟨dx, gs, hu, pr⟩ := R1.ins e
    obtain ⟨w, lw, dw⟩ := pr.look l
    refine ⟨a, C, dx, gs, w, rfl, hu, cl, na, lw, σd, M1, _, _, S.mono (k1.tups R), R1, q1, fun f2 y M2 H2 fy R2 k2 q2 => hr v f2 w y M2 H2 _ _ (dw.mono (k2.tups R1)) fy R2 q2 fun z zv M3 H3 zr R3 k3 ⟨fs', e3, hl, q3⟩ => ?_, (c.cx S R).after k1⟩
    obtain ⟨dx', gs', hu', pr'⟩ := R3.ins e3
    have kk := ((k1.trans k2).trans k3).trans (Keep.write R3 e3 (.ins C (putFD f z fs')) (.ins C dx' (putF f zv gs')))
    exact ⟨dx', gs', hu', by rw [← pr'.length]; exact hl, c.nx _ _ _ _ (S.mono (kk.tups R)) (R3.write e3 (.ofI (pr'.putF f zr))) kk q3⟩, c.cx S R⟩
end
end Dt

set_option Elab.async false
set_option autoImplicit false
set_option linter.all false
set_option maxRecDepth 100000
set_option maxHeartbeats 4000000
/-! DG: calls of the text's own defs; a def's promise. -/
namespace Dt
open PySem PySem.Spec PyProof.Rows L2 LamX

abbrev SpD := List D → DM → DQ → DX → Prop
/-- the promise of a def that raises nothing -/
def lSp (K : Bd) (sp : SpD) : Sp := fun vs H Q _ => ∃ ds M Qd, DVs K H ds vs ∧ Rel K M H ∧ sp ds M Qd noX ∧ CnE K M H Qd Q
/-- .. of a def that may raise -/
def lSpX (K : Bd) (sp : SpD) : Sp := fun vs H Q E => ∃ ds M Qd Ed, DVs K H ds vs ∧ Rel K M H ∧ sp ds M Qd Ed ∧ CnE K M H Qd Q ∧ CnX K M H Ed E
def startD (N : List Str) (ds : List D) : Std := ds.map some ++ List.replicate (N.length - ds.length) none
theorem relS_start {K : Bd} {H : Hp} {N : List Str} {ds : List D} {vs : List V} (h : DVs K H ds vs) : RelS K H (startD N ds) (L2.start N vs) := by
  have hl := h.length
  refine ⟨by simp [startD, L2.start, hl], fun i d e => ?_⟩
  unfold startD at e
  unfold L2.start
  by_cases hi : i < ds.length
  · rw [List.getElem?_append_left (by simpa using hi)] at e
    rw [List.getElem?_append_left (by rw [List.length_map, ← hl]; exact hi)]
    rw [List.getElem?_map] at e ⊢
    cases q : ds[i]? with
    | none => rw [q] at e; cases e
    | some x =>
      rw [q] at e
      cases e
      obtain ⟨v, e2, r⟩ := h.get q
      exact ⟨v, by rw [e2]; rfl, r⟩
  · rw [List.getElem?_append_right (by simpa using Nat.le_of_not_lt hi)] at e
    rw [List.getElem?_replicate] at e
    split at e
    · cases e
    · cases e
section
variable {P : Program} {w : World} {K : PySem.W.Frag} {mg : Str → Option Value} {base : Heap}
abbrev dEnd (Q : DQ) (E : DX) : DEnds := { nx := fun _ M' => Q .non M', rt := Q, bk := fun _ _ => False, ct := fun _ _ => False, ex := fun _ => E }
/-- a def that raises nothing keeps its promise -/
theorem fnD {x qual : Str} {st : Stmt} {f : Addr} {fd : FuncData} {N ps : List Str} {k : Nat} {sp : SpD} {t : TSD} (F : Fun K x qual st f fd) (S : FnScope N ps (defScope st)) (len : ∀ ds M Q, sp ds M Q noX → ds.length = ps.length)
    (hbody : ∀ (cdv : Value) (A : Around) (outer : List Env) (s : Shared) (H : Hp) (E : XK), Room k (A.deeper (envOfC qual (defScope st) s.heap.objs.size f cdv)) → PSs (cxOf CX0 P w K mg base N qual (defScope st) f cdv A outer s H E).nox (defBody st) (lS ⟨K, P, w⟩ w0 t))
    (hp : ∀ ds M Q, sp ds M Q noX → t (dEnd Q noX) (startD N ds) M) : FnOk P w K mg base CX0 (k + 1) f fd ps (lSp ⟨K, P, w⟩ sp) := by
  refine F.ok S (fun vs H Q E ⟨ds, M, Qd, dv, R, h, c⟩ => by rw [← dv.length]; exact len ds M Qd h) fun cdv A outer s H vs Q E hr ⟨ds, M, Qd, dv, R, h, c⟩ => ⟨_, hbody cdv A outer s H E hr, startD N ds, M, _, relS_start dv, R, hp ds M Qd h, ?_⟩
  exact ⟨fun σd' σ' M' H' _ R' k' q => c .non .non M' H' .non R' k' q, c, fun _ _ _ _ _ _ _ q => q.elim, fun _ _ _ _ _ _ _ q => q.elim, fun _ _ _ _ _ _ _ _ _ _ _ q => q.elim⟩
/-- .. one that may raise -/
theorem fnDX {x qual : Str} {st : Stmt} {f : Addr} {fd : FuncData} {N ps : List Str} {k : Nat} {sp : SpD} {t : TSD} (F : Fun K x qual st f fd) (S : FnScope N ps (defScope st)) (len : ∀ ds M Q E, sp ds M Q E → ds.length = ps.length)
    (hbody : ∀ (cdv : Value) (A : Around) (outer : List Env) (s : Shared) (H : Hp) (E : XK), Room k (A.deeper (envOfC qual (defScope st) s.heap.objs.size f cdv)) → PSs (cxOf (L2.CX P w) P w K mg base N qual (defScope st) f cdv A outer s H E) (defBody st) (lS ⟨K, P, w⟩ (fun c d _ h => E c d h) t))
    (hp : ∀ ds M Q E, sp ds M Q E → t (dEnd Q E) (startD N ds) M) : FnOk P w K mg base (L2.CX P w) (k + 1) f fd ps (lSpX ⟨K, P, w⟩ sp) := by
  refine F.okX S (fun vs H Q E ⟨ds, M, Qd, Ed, dv, R, h, c, cx⟩ => by rw [← dv.length]; exact len ds M Qd Ed h) fun cdv A outer s H vs Q E hr ⟨ds, M, Qd, Ed, dv, R, h, c, cx⟩ => ⟨_, hbody cdv A outer s H E hr, startD N ds, M, _, relS_start dv, R, hp ds M Qd Ed h, ?_⟩
  exact ⟨fun σd' σ' M' H' _ R' k' q => c .non .non M' H' .non R' k' q, c, fun _ _ _ _ _ _ _ q => q.elim, fun _ _ _ _ _ _ _ q => q.elim, fun σd' σ' C fs d M' H' _ x R' k' q => cx C fs d M' H' x R' k' q⟩
end

section
variable {X : Cx} {W : WX}
/-- f(..) of a def that raises nothing -/
def dCall (sp : SpD) (t : TAD) : TED := fun σ M Q E => t σ M (fun ds M1 => sp ds M1 Q noX) E
theorem lift_call {sp : SpD} {t : TAD} {E : XK} {σ : L2.St} {H : Hp} {Q : VK} (h : lE X.B W (dCall sp t) σ H Q) : tCall (lSp X.B sp) [] E (lA X.B W t) σ H Q := by
  obtain ⟨σd, M, Qd, Ed, S, R, t, c, cx⟩ := h
  exact ⟨σd, M, _, Ed, S, R, t, fun ds vs M1 H1 dvs R1 k1 q => ⟨ds, M1, Qd, by rw [List.append_nil]; exact dvs, R1, q, c.after k1⟩, cx⟩
theorem de_call {k : Nat} {f : Addr} {fd : FuncData} {ps : List Str} {sp : SpD} {x : Str} {p pos : Pos} {e : Expr} {es : List Expr} {t : TAD} (F : FnOk X.prog X.w X.B X.mg X.base CX0 k f fd ps (lSp X.B sp)) (hr : Room k X.A) (hg : Gl X x) (hm : X.mg x = some (.ref f)) (hk : PySem.W.keepIn X.B (.ref f) = true) (hb : Binds X.B fd ps [])
    (ha : PA X (e :: es) (lA X.B W t)) (hdb : (x == ("__debug__" : Str)) = false := by decide) (he : starEach (e :: es) X.env = (false, eval e X.env) :: starEach es X.env := by rfl) (hpl : (backTo pos (starEach es X.env)).any (·.1) = false := by rfl) :
    PE X (.Call (.Name x p) (e :: es) [] pos) (lE X.B W (dCall sp t)) := PE.imp (pe_call (E := E0) F hr hg hm hk hb .nil pass0 ha hdb he hpl) fun _ _ _ h => lift_call h
/-- f(..) of a def that may raise -/
def dCallX (sp : SpD) (t : TAD) : TED := fun σ M Q E => t σ M (fun ds M1 => sp ds M1 Q E) E
theorem de_callX {k : Nat} {f : Addr} {fd : FuncData} {ps : List Str} {sp : SpD} {x : Str} {p pos : Pos} {e : Expr} {es : List Expr} {t : TAD} (F : FnOk X.prog X.w X.B X.mg X.base (L2.CX X.prog X.w) k f fd ps (lSpX X.B sp)) (tk : Takes X W) (hr : Room k X.A) (hg : Gl X x) (hm : X.mg x = some (.ref f)) (hk : PySem.W.keepIn X.B (.ref f) = true) (hb : Binds X.B fd ps [])
    (ha : PA X (e :: es) (lA X.B W t)) (h : PA X (e :: es) (lA X.B W t) → PE X (.Call (.Name x p) (e :: es) [] pos) (tCallS (lSpX X.B sp) (WE W) (lA X.B W t))) :
    PE X (.Call (.Name x p) (e :: es) [] pos) (lE X.B W (dCallX sp t)) := PE.imp (h ha) fun σ H Q ⟨σd, M, Qd, Ed, S, R, t, c, cx⟩ => ⟨σd, M, _, Ed, S, R, t, fun ds vs M1 H1 dvs R1 k1 q => ⟨ds, M1, Qd, Ed, dvs, R1, q, c.after k1, cx.after k1⟩, cx⟩
/-- o.m(..) -/
def dMeth (C : Addr) (m : Str) (sp : SpD) (ta : TED) (t : TAD) : TED := fun σ M Q E => ta σ M (fun d M1 => ∃ a fs, d = .ref a ∧ M1 a = some (.ins C fs) ∧ lookD m fs = none ∧ t σ M1 (fun ds M2 => sp (d :: ds) M2 Q noX) E) E
theorem PR.lookN {K : Bd} {H : Hp} {fs : List (Str × D)} {gs : List (Str × V)} (h : PR K H fs gs) {f : Str} (e : lookD f fs = none) : gs.lookup f = none := by
  induction h with
  | nil => rfl
  | @cons k d' v' ds vs a _ ih =>
    unfold lookD at e
    by_cases hk : f = k
    · rw [if_pos hk] at e; cases e
    · rw [if_neg hk] at e
      have hb : (f == k) = false := beq_eq_false_iff_ne.mpr hk
      simp only [List.lookup, hb]
      exact ih e
theorem lift_meth {C : Addr} {m : Str} {sp : SpD} {ta : TED} {t : TAD} {E : XK} {σ : L2.St} {H : Hp} {Q : VK} (h : lE X.B W (dMeth C m sp ta t) σ H Q) : tMeth C m (lSp X.B sp) [] E (lE X.B W ta) (lA X.B W t) σ H Q := by
  obtain ⟨σd, M, Qd, Ed, S, R, t, c, cx⟩ := h
  refine ⟨σd, M, _, Ed, S, R, t, fun d x M1 H1 dx R1 k1 ⟨a, fs, hd, e, l, q⟩ => ?_, cx⟩
  subst hd; cases dx
  obtain ⟨dx, gs, hu, pr⟩ := R1.ins e
  exact ⟨a, dx, gs, rfl, hu, pr.lookN l, σd, M1, _, Ed, S.mono (k1.tups R), R1, q, fun ds vs M2 H2 dvs R2 k2 q2 => ⟨.ref a :: ds, M2, Qd, by rw [List.append_nil]; exact .cons .ref dvs, R2, q2, c.after (k1.trans k2)⟩, cx.after k1⟩
theorem de_meth {C : Addr} {m : Str} {sp : SpD} {ta : TED} {t : TAD} {e : Expr} (h : PE X e (tMeth C m (lSp X.B sp) [] E0 (lE X.B W ta) (lA X.B W t))) : PE X e (lE X.B W (dMeth C m sp ta t)) := PE.imp h fun _ _ _ h => lift_meth h
theorem lift_meth0 {C : Addr} {m : Str} {sp : SpD} {ta : TED} {E : XK} {σ : L2.St} {H : Hp} {Q : VK} (h : lE X.B W (dMeth C m sp ta dNil) σ H Q) : tMeth C m (lSp X.B sp) [] E (lE X.B W ta) tNil σ H Q := by
  obtain ⟨σd, M, Qd, Ed, S, R, t, c, cx⟩ := h
  refine ⟨σd, M, _, Ed, S, R, t, fun d x M1 H1 dx R1 k1 ⟨a, fs, hd, e, l, q⟩ => ?_, cx⟩
  subst hd; cases dx
  obtain ⟨dx, gs, hu, pr⟩ := R1.ins e
  exact ⟨a, dx, gs, rfl, hu, pr.lookN l, [.ref a], M1, Qd, .cons .ref .nil, R1, q, c.after k1⟩
theorem de_meth0 {C : Addr} {m : Str} {sp : SpD} {ta : TED} {e : Expr} (h : PE X e (tMeth C m (lSp X.B sp) [] E0 (lE X.B W ta) tNil)) : PE X e (lE X.B W (dMeth C m sp ta dNil)) := PE.imp h fun _ _ _ h => lift_meth0 h
/-- C(..) -/
def dMake (C : Addr) (sp : SpD) (t : TAD) : TED := fun σ M Q E => t σ M (fun ds M1 => ∀ x, M1 x = none → sp (.ref x :: ds) (put M1 x (.ins C [])) (fun v M2 => v = .non ∧ Q (.ref x) M2) noX) E
theorem lift_make {C : Addr} {sp : SpD} {t : TAD} {E : XK} {σ : L2.St} {H : Hp} {Q : VK} (h : lE X.B W (dMake C sp t) σ H Q) : tMake C (lSp X.B sp) [] E (lA X.B W t) σ H Q := by
  obtain ⟨σd, M, Qd, Ed, S, R, t, c, cx⟩ := h
  refine ⟨σd, M, _, Ed, S, R, t, fun ds vs M1 H1 dvs R1 k1 q x dx hx hdx ne => ?_, cx⟩
  have hx' : upd H1 dx (.own x) x = none := by rw [upd_ne (Ne.symm ne)]; exact hx
  have R2 := R1.hidden hdx (.own x)
  have k2 := (Keep.hidden R1 hdx (.own x)).trans (.new R2 hx' (.ins C []) (.ins C dx []))
  have t2 := k2.tups R1
  exact ⟨.ref x :: ds, _, _, by rw [List.append_nil]; exact .cons .ref (dvs.mono t2), R2.new hx' (.ofI .nil), q x (R1.free hx), fun d v M3 H3 dv R3 k3 ⟨hd, q3⟩ => by
    subst hd; cases dv
    exact ⟨rfl, c _ _ M3 H3 .ref R3 ((k1.trans k2).trans k3) q3⟩⟩
theorem de_make {C : Addr} {sp : SpD} {t : TAD} {e : Expr} (h : PE X e (tMake C (lSp X.B sp) [] E0 (lA X.B W t))) : PE X e (lE X.B W (dMake C sp t)) := PE.imp h fun _ _ _ h => lift_make h
theorem de_make0 {C : Addr} {sp : SpD} {e : Expr} (h : PE X e (tMake C (lSp X.B sp) [] E0 tNil)) : PE X e (lE X.B W (dMake C sp dNil)) := PE.imp h fun σ H Q h => by
  obtain ⟨σd, M, Qd, Ed, S, R, q, c, cx⟩ := h
  intro x dx hx hdx ne
  have hx' : upd H dx (.own x) x = none := by rw [upd_ne (Ne.symm ne)]; exact hx
  have R2 := R.hidden hdx (.own x)
  have k2 := (Keep.hidden R hdx (.own x)).trans (.new R2 hx' (.ins C []) (.ins C dx []))
  exact ⟨[.ref x], _, _, .cons .ref .nil, R2.new hx' (.ofI .nil), q x (R.free hx), fun d v M3 H3 dv R3 k3 ⟨hd, q3⟩ => by
    subst hd; cases dv
    exact ⟨rfl, c _ _ M3 H3 .ref R3 (k2.trans k3) q3⟩⟩
end
end Dt

set_option Elab.async false
set_option autoImplicit false
set_option linter.all false
set_option maxRecDepth 100000
set_option maxHeartbeats 4000000
/-! DH: slices; enumerate, zip; len, tuple, list, all, int, abs, isinstance. -/
namespace Dt
open PySem PySem.Spec PyProof.Rows L2 LamX

/-! ### enumerate of a list or a tuple -/
/-- the tuple at a, each item in a new pair -/
def ItEt (K : PySem.W.Frag) (a : Addr) : It :=
  ⟨fun i H => ∃ (xs : List V) (x : V), SqT K H a xs ∧ xs[i]? = some x, fun i H v H' => ∃ T x, v = .ref T ∧ H T = none ∧ H' = upd H T (.tup [.int (i : Nat), x]) ∧ ∀ xs, SqT K H a xs → xs[i]? = some x, fun i H => ∃ xs : List V, SqT K H a xs ∧ xs.length ≤ i⟩
theorem turn_enumT {P : Program} {w : World} {K : PySem.W.Frag} {elts : List Expr} {kk : Nat} {tpos : Pos} (a e it : Addr) :
    Turn P w K (.Tuple elts kk tpos) (ItEt K a) [e, it] e (fun i h => (∃ old, IsEnum h e it ((i : Nat) : Int) old) ∧ h.IsTupleIter it a i ∧ e ≠ it ∧ a ≠ it ∧ a ≠ e) where
  mem := by simp
  obj := fun i h st b hb => by
    obtain ⟨⟨old, he⟩, ⟨o, ho, hc, hd⟩, _⟩ := st
    have e' : b = e ∨ b = it := by simpa using hb
    rcases e' with z | z
    · rw [z]; exact ⟨_, he, fun v q => nomatch q⟩
    · rw [z]; exact ⟨o, ho, fun v q => by rw [hd] at q; cases q⟩
  keep := fun i h h' st k => let ⟨⟨old, he⟩, hi, hne⟩ := st; ⟨⟨old, k e (by simp) _ he⟩, hi.at fun o q => k it (by simp) o q, hne⟩
  item := by
    intro X hP hw hK hc i pins s σ H E I hf st hg
    subst hP hw hK
    obtain ⟨⟨old, he⟩, hit, hne, hai, hae⟩ := st
    obtain ⟨xs, x, hq, hx⟩ := hg
    obtain ⟨its, rv, p, hz⟩ := I.tuple hq
    obtain ⟨u, hu, ru⟩ := rv.get hx
    have hel : e < s.heap.objs.size := Heap.lt_size he
    have hil : it < s.heap.objs.size := by obtain ⟨_, q, _⟩ := hit; exact Heap.lt_size q
    have pt : s.heap.IsTuple a its.toArray := p
    have hi : i < its.toArray.size := by
      have := (List.getElem?_eq_some_iff.mp hu).1
      simpa using this
    have D := Draws.tuple (prog := X.prog) (w := X.w) (A := X.A.in1) (show X.A.in1.handled = none from I.ok.hd hc) it a hai its.toArray
    refine wpAny_pyNext_enum_itemD D he ⟨hit, pt⟩ hi hne (by simp [hne, Ne.symm hae]) fun x' h' tk hP' ho hst' hT hsz hk => ?_
    obtain ⟨hit', _⟩ := hst'
    have hxu : x' = u := by
      have q : its.toArray[i]? = some x' := hP'
      rw [List.getElem?_toArray, hu] at q
      exact (Option.some.inj q).symm
    subst hxu
    refine ⟨_, rfl, wpAny_letOwnedTupleGo_enum (s := { s with heap := h', toks := tk + 1 }) ho fun h'' he' sb => ?_⟩
    have hT2 : h''.get? s.heap.objs.size = some { cls := .type "tuple", data := .seq #[.int i tk, x'] } := (sb.2 _ (Nat.ne_of_gt hel)).trans hT
    have new : ObjOk X.prog X.w (upd H s.heap.objs.size (.tup [.int (i : Nat), x])) h'' s.heap.objs.size (.tup [.int (i : Nat), x]) :=
      ⟨by show 2 ≤ sizeLine; decide, [.int i tk, x'], .cons ⟨_, rfl⟩ (.cons ru .nil), ⟨_, hT2, rfl, _, rfl⟩⟩
    have I1 : Inv X pins σ (upd H s.heap.objs.size (.tup [.int (i : Nat), x])) { s with heap := h'', toks := tk + 1 } :=
      I.turnedNew (ch := [e, it]) (fun b ob hb q => (sb.2 b (fun z => hb (by simp [z]))).trans (hk b ob (fun z => hb (by simp [z])) (fun z => hb (by simp [z])) q)) hf (Nat.le_refl _) new
    refine ⟨.ref s.heap.objs.size, _, I1, rfl, ⟨_, x, rfl, I.hok.fresh (Nat.le_refl _), rfl, fun ys hy => by rw [I.tuple_inj hy hq]; exact hx⟩, ⟨⟨x', ?_⟩, hit'.at fun o q => (sb.2 it (Ne.symm hne)).trans q, hne, hai, hae⟩, fun b hb => ?_⟩
    · have e1 : ((i + 1 : Nat) : Int) = (i : Int) + 1 := by omega
      rw [e1]; exact he'
    · have hb' : b < s.heap.objs.size := by
        have e' : b = e ∨ b = it := by simpa using hb
        rcases e' with z | z
        · rw [z]; exact hel
        · rw [z]; exact hil
      rw [upd_ne (Nat.ne_of_lt hb')]
      exact (hf b hb).1
  done := by
    intro X hP hw hK hc i pins s σ H E I hf st hg
    subst hP hw hK
    obtain ⟨⟨old, he⟩, hit, hne, hai, hae⟩ := st
    obtain ⟨xs, hq, hx⟩ := hg
    obtain ⟨its, rv, p, hz⟩ := I.tuple hq
    obtain ⟨f0, f1, f2, f3, f4, f5⟩ := hf it (by simp)
    have hl := rv.length
    have pt : s.heap.IsTuple a its.toArray := p
    have D : Draws X.prog X.w X.A.in1 it [it, a] i (fun _ _ => False) (fun j h => (j = i ∧ h.IsTupleIter it a i ∧ h.IsTuple a its.toArray)) :=
      { live := fun _ _ st => let ⟨o, ho, _⟩ := st.2.1; ⟨o, ho⟩
        frame := fun _ _ _ st hk => ⟨st.1, st.2.1.at fun o e => hk it (by simp) o e, st.2.2.at fun o e => hk a (by simp) o e⟩
        item := fun j s Q E hj st hQ => absurd st.1 (Nat.ne_of_lt hj)
        done := fun s Q E st hE => wpAny_nextOf_tuple_end (show X.A.in1.handled = none from I.ok.hd hc) st.2.1 st.2.2 (by
          rw [List.getElem?_toArray]
          exact List.getElem?_eq_none (by omega)) hE }
    exact wpAny_pyNext_enum_endD D he ⟨rfl, hit, pt⟩ fun h' eb => ⟨rfl, I.turned (t' := s.toks) (fun b o hb q => eb b o hb q) f0 f1 f3 f4 f5⟩
  self := fun A i s Q E st h => let ⟨⟨_, he⟩, _⟩ := st; wpAny_pyIter_enum he h
def iEnumA (K : PySem.W.Frag) (ta : TA) : TI := fun σ H R => ta σ H fun vs H1 => ∃ a, vs = [.ref a] ∧ (((∃ xs, SqL K H1 a xs) ∧ R (Ite K a) H1) ∨ ((∃ xs, SqT K H1 a xs) ∧ R (ItEt K a) H1))
theorem meets_enumB1 {v : Value} {o : Obj} {H : Heap → Prop} (B : Begins v o H) :
    Meets (Builtin.«enumerate.__new__» ⟨[.type "enumerate", v], []⟩) (fun _ R s => H s.heap ∧
      R (.ok (.ret (.ref (s.heap.push o).objs.size))) { s with heap := (s.heap.push o).push { cls := .type "enumerate", data := .fields #[.none, .bool false, .ref s.heap.objs.size, rawInt 0, .none, .none] } }) :=
  .of_wp fun prog w A R s h => by
    obtain ⟨hp, g, d, tk, os⟩ := s; obtain ⟨h1, h⟩ := h
    have hsub := sub_enumerate
    have q1 : ∀ {A' : Around} {E : Value → Shared → Prop} {Q : Value → Shared → Prop}, Q (.ref hp.objs.size) ⟨hp.push o, g, d, tk, os⟩ → wpAny (model prog w) A' (pyIter v) Q E ⟨hp, g, d, tk, os⟩ :=
      fun q => B.iter prog w _ _ ⟨hp, g, d, tk, os⟩ _ h1 q
    wp_walk using q1
    refine wpAny_stack_any fun st => wpAny_pure ?_
    split
    · rename_i c _ _ _ _ _
      cases (c == Value.type "enumerate")
      · wp_walk using q1
        exact ⟨_, rfl, h⟩
      · wp_walk using q1
        exact ⟨_, rfl, h⟩
    · wp_walk using q1
      exact ⟨_, rfl, h⟩
theorem enum_begins1 {prog : Program} {w : World} {A : Around} {E : Value → Shared → Prop} {s : Shared} {v : Value} {o : Obj} {H : Heap → Prop} {Q : Value → Shared → Prop} (B : Begins v o H) (h1 : H s.heap)
    (h : ∀ h', IsEnum h' (s.heap.objs.size + 1) s.heap.objs.size 0 .none → h'.get? s.heap.objs.size = some o → h'.objs.size = s.heap.objs.size + 2 →
      (∀ b o, s.heap.get? b = some o → h'.get? b = some o) → Q (.ref (s.heap.objs.size + 1)) { s with heap := h' }) :
    wpAny (model prog w) A (call (.type "enumerate") [v]) Q E s := by
  refine callType_new F.called_enumerate (by decide) (F.typeCall_enumerate_1 _) (F.newCall_enumerate_1 _) (fun obj => F.args_object_init_2 obj _) F.entry_enumerate_new (meets_enumB1 B) ⟨h1, ?_⟩
  have hz : (s.heap.push o).objs.size = s.heap.objs.size + 1 := Heap.size_push ..
  show _ ∧ _
  rw [hz]
  have he : IsEnum ((s.heap.push o).push { cls := .type "enumerate", data := .fields #[.none, .bool false, .ref s.heap.objs.size, rawInt 0, .none, .none] }) (s.heap.objs.size + 1) s.heap.objs.size 0 .none := by
    have := Heap.get?_push_size (s.heap.push o) (o := { cls := .type "enumerate", data := .fields #[.none, .bool false, .ref s.heap.objs.size, rawInt 0, .none, .none] }) rfl
    rw [hz] at this; exact this
  refine ⟨⟨_, he, rfl⟩, h _ he (Heap.get?_push_of_some _ (Heap.get?_push_size _ B.free)) (by rw [Heap.size_push, hz]) fun b o x => Heap.get?_push_of_some _ (Heap.get?_push_of_some _ x)⟩
theorem pi_enumA {X : Cx} {e : Expr} {ta : TA} {p pos tpos : Pos} {elts : List Expr} {kk : Nat} (hg : Gl X "enumerate") (hm : X.mg "enumerate" = none) (ha : PA X [e] ta) (hs : starEach [e] X.env = [(false, eval e X.env)] := by rfl) :
    PI X (.Tuple elts kk tpos) (.Call (.Name "enumerate" p) [e] [] pos) (iEnumA X.K ta) := by
  refine ⟨fun pins s σ H R I h => ?_⟩
  refine Call_ (ld_blt I hg hm boot_enumerate (PyProof.Rows.callWith_type1 (thn (ha.run pos pins s σ H _ I h) fun us s1 ⟨vs, H1, I1, r1, q1⟩ => ?_) hs rfl))
  obtain ⟨a, ex, q1⟩ := q1
  subst ex
  cases r1 with
  | cons r rr =>
    cases rr
    cases r
    rcases q1 with ⟨⟨xs, hq⟩, q⟩ | ⟨⟨xs, hq⟩, q⟩
    · obtain ⟨its, rv, p', hz⟩ := I1.list hq
      refine call_enumerate_list p'.isList fun h' he hit hsz hk => wpAny_pyIter_enum he ?_
      have I2 : Inv X pins σ H1 { s1 with heap := h' } := I1.kept (t' := s1.toks) hk
      refine ⟨s1.heap.objs.size + 1, [s1.heap.objs.size + 1, s1.heap.objs.size], _, _, H1, rfl, I2, turn_enum a (s1.heap.objs.size + 1) s1.heap.objs.size, ⟨⟨.none, he⟩, hit, Nat.succ_ne_self _⟩, fun b hb => ?_, q⟩
      have e' : b = s1.heap.objs.size + 1 ∨ b = s1.heap.objs.size := by simpa using hb
      have hle : s1.heap.objs.size ≤ b := by
        rcases e' with z | z
        · rw [z]; exact Nat.le_add_right _ _
        · rw [z]; exact Nat.le_refl _
      exact I1.fpOk hle (I1.hok.fresh hle)
    · obtain ⟨its, rv, p', hz⟩ := I1.tuple hq
      have pt : s1.heap.IsTuple a its.toArray := p'
      have hal : a < s1.heap.objs.size := by obtain ⟨_, q, _⟩ := pt; exact Heap.lt_size q
      refine enum_begins1 (begins_tuple a its.toArray) pt fun h' he ho hsz hk => wpAny_pyIter_enum he ?_
      have I2 : Inv X pins σ H1 { s1 with heap := h' } := I1.kept (t' := s1.toks) hk
      refine ⟨s1.heap.objs.size + 1, [s1.heap.objs.size + 1, s1.heap.objs.size], _, _, H1, rfl, I2, turn_enumT a (s1.heap.objs.size + 1) s1.heap.objs.size, ⟨⟨.none, he⟩, ⟨_, ho, rfl, rfl⟩, Nat.succ_ne_self _, Nat.ne_of_lt hal, Nat.ne_of_lt (Nat.lt_succ_of_lt hal)⟩, fun b hb => ?_, q⟩
      have e' : b = s1.heap.objs.size + 1 ∨ b = s1.heap.objs.size := by simpa using hb
      have hle : s1.heap.objs.size ≤ b := by
        rcases e' with z | z
        · rw [z]; exact Nat.le_add_right _ _
        · rw [z]; exact Nat.le_refl _
      exact I1.fpOk hle (I1.hok.fresh hle)
end Dt

set_option Elab.async false
set_option autoImplicit false
set_option linter.all false
set_option maxRecDepth 100000
set_option maxHeartbeats 4000000
/-! DI: enumerate, zip as data; slices; len, tuple, list, all, int, abs, isinstance, min, max. -/
namespace Dt
open PySem PySem.Spec PyProof.Rows L2 LamX RZ

def itE (J : ItD) : ItD := fun i M => match J i M with
  | some (some d) => some (some (.pair [.int (i : Nat), d]))
  | some none => some none
  | none => none
theorem itE_go {J : ItD} {i : Nat} {M : DM} {d : D} (h : itE J i M = some (some d)) : ∃ e, J i M = some (some e) ∧ d = .pair [.int (i : Nat), e] := by
  unfold itE at h
  split at h
  · rename_i e he
    exact ⟨e, he, (Option.some.inj (Option.some.inj h)).symm⟩
  · cases h
  · cases h
theorem itE_stop {J : ItD} {i : Nat} {M : DM} (h : itE J i M = some none) : J i M = some none := by
  unfold itE at h
  split at h
  · cases h
  · rename_i he; exact he
  · cases h
theorem itL_at {a : Addr} {i : Nat} {M : DM} {o : Option D} (h : itL a i M = some o) : ∃ xs, M a = some (.lst xs) ∧ o = xs[i]? := by
  unfold itL at h
  split at h
  · rename_i xs e
    exact ⟨xs, e, (Option.some.inj h).symm⟩
  · cases h
theorem itEL_ok {K : Bd} {H0 : Hp} (a : Addr) : ItOk K H0 (itE (itL a)) (Ite K a) := by
  refine ⟨fun i M H d _ R h => ?_, fun i M H d v H' _ R h y => ?_, fun i M H _ R h => ?_⟩
  · obtain ⟨e, h', rfl⟩ := itE_go h
    obtain ⟨xs, ea, eo⟩ := itL_at h'
    obtain ⟨u, hu, r⟩ := R a _ ea
    cases r with
    | lst hs =>
      obtain ⟨w, hw, _⟩ := hs.get eo.symm
      exact ⟨_, w, .of hu, hw⟩
  · obtain ⟨e, h', rfl⟩ := itE_go h
    obtain ⟨xs, ea, eo⟩ := itL_at h'
    obtain ⟨u, hu, r⟩ := R a _ ea
    cases r with
    | lst hs =>
      obtain ⟨w, hw, dw⟩ := hs.get eo.symm
      obtain ⟨T, x, rfl, hT, rfl, fv⟩ := y
      have := fv _ (.of hu)
      rw [hw] at this; cases this
      exact ⟨R.hidden hT _, .hidden R hT _, .newpair hT (.cons .int (.cons dw .nil))⟩
  · obtain ⟨xs, ea, eo⟩ := itL_at (itE_stop h)
    obtain ⟨u, hu, r⟩ := R a _ ea
    cases r with
    | lst hs =>
      refine ⟨_, .of hu, ?_⟩
      rw [← hs.length]
      exact List.getElem?_eq_none_iff.mp eo.symm
theorem itET_ok {K : Bd} {H0 : Hp} {a : Addr} {o : Obj} {ds : List D} {vs : List V} (s : H0 a = some (.frz o (.tup vs))) (hs : DVs K H0 ds vs) : ItOk K H0 (itE (itT ds)) (ItEt K a) := by
  refine ⟨fun i M H d tp R h => ?_, fun i M H d v H' tp R h y => ?_, fun i M H tp R h => ?_⟩
  · obtain ⟨e, h', rfl⟩ := itE_go h
    obtain ⟨w, hw, _⟩ := hs.get (Option.some.inj h')
    exact ⟨_, w, sqF tp s, hw⟩
  · obtain ⟨e, h', rfl⟩ := itE_go h
    obtain ⟨w, hw, dw⟩ := hs.get (Option.some.inj h')
    obtain ⟨T, x, rfl, hT, rfl, fv⟩ := y
    have := fv _ (sqF tp s)
    rw [hw] at this; cases this
    exact ⟨R.hidden hT _, .hidden R hT _, .newpair hT (.cons .int (.cons (dw.mono tp) .nil))⟩
  · refine ⟨_, sqF tp s, ?_⟩
    rw [← hs.length]
    exact List.getElem?_eq_none_iff.mp (Option.some.inj (itE_stop h))
def diEnum (ta : TAD) : TID := fun σ M R E => ta σ M (fun ds M1 => match ds with
  | [.tup xs] => R (itE (itT xs)) M1
  | [.ref a] => (∃ xs, M1 a = some (.lst xs)) ∧ R (itE (itL a)) M1
  | _ => False) E
theorem di_enum {X : Cx} {W : WX} {tg e : Expr} {ta : TAD} (h : PI X tg e (iEnumA X.B (lA X.B W ta))) : PI X tg e (lI X.B W (diEnum ta)) :=
  PI.imp h fun σ H Q ⟨σd, M, Qd, E, S, R, t, c, cx⟩ => ⟨σd, M, _, E, S, R, t, fun ds vs M1 H1 dvs R1 k1 q1 => by
    cases dvs with
    | nil => exact q1.elim
    | cons a b =>
      cases b with
      | nil =>
        cases a with
        | tup s1 _ h1 => exact ⟨_, rfl, .inr ⟨⟨_, sqF .refl s1⟩, c _ _ M1 H1 (itET_ok s1 h1) R1 k1 q1⟩⟩
        | ref =>
          obtain ⟨⟨xs, e⟩, q1⟩ := q1
          obtain ⟨u, hu, r⟩ := R1 _ _ e
          cases r with
          | lst hs => exact ⟨_, rfl, .inl ⟨⟨_, .of hu⟩, c _ _ M1 H1 (itEL_ok _) R1 k1 q1⟩⟩
        | _ => exact q1.elim
      | cons => cases a <;> exact q1.elim, cx⟩
/-! ### zip -/
def itZ (J J2 : ItD) : ItD := fun i M => match J i M, J2 i M with
  | some (some d), some (some e) => some (some (.pair [d, e]))
  | some none, some _ => some none
  | some _, some none => some none
  | _, _ => none
theorem itZ_go {J J2 : ItD} {i : Nat} {M : DM} {d : D} (h : itZ J J2 i M = some (some d)) : ∃ e f, J i M = some (some e) ∧ J2 i M = some (some f) ∧ d = .pair [e, f] := by
  unfold itZ at h
  split at h
  · rename_i e f h1 h2
    exact ⟨e, f, h1, h2, (Option.some.inj (Option.some.inj h)).symm⟩
  · cases h
  · cases h
  · cases h
theorem itZ_stop {J J2 : ItD} {i : Nat} {M : DM} (h : itZ J J2 i M = some none) : (∃ o o2, J i M = some o ∧ J2 i M = some o2) ∧ (J i M = some none ∨ J2 i M = some none) := by
  unfold itZ at h
  split at h
  · cases h
  · rename_i h1 h2; exact ⟨⟨_, _, h1, h2⟩, .inl h1⟩
  · rename_i h1 h2; exact ⟨⟨_, _, h1, h2⟩, .inr h2⟩
  · cases h
theorem itZL_ok {K : Bd} {H0 : Hp} (a b : Addr) : ItOk K H0 (itZ (itL a) (itL b)) (Itz K a b) := by
  refine ⟨fun i M H d _ R h => ?_, fun i M H d v H' _ R h y => ?_, fun i M H _ R h => ?_⟩
  · obtain ⟨e, f, h1, h2, rfl⟩ := itZ_go h
    obtain ⟨xs, ea, eo⟩ := itL_at h1
    obtain ⟨ys, eb, eo2⟩ := itL_at h2
    obtain ⟨u, hu, r⟩ := R a _ ea
    obtain ⟨u2, hu2, r2⟩ := R b _ eb
    cases r with
    | lst hs =>
      cases r2 with
      | lst hs2 =>
        obtain ⟨w, hw, _⟩ := hs.get eo.symm
        obtain ⟨w2, hw2, _⟩ := hs2.get eo2.symm
        exact ⟨_, _, w, w2, .of hu, .of hu2, hw, hw2⟩
  · obtain ⟨e, f, h1, h2, rfl⟩ := itZ_go h
    obtain ⟨xs, ea, eo⟩ := itL_at h1
    obtain ⟨ys, eb, eo2⟩ := itL_at h2
    obtain ⟨u, hu, r⟩ := R a _ ea
    obtain ⟨u2, hu2, r2⟩ := R b _ eb
    cases r with
    | lst hs =>
      cases r2 with
      | lst hs2 =>
        obtain ⟨w, hw, dw⟩ := hs.get eo.symm
        obtain ⟨w2, hw2, dw2⟩ := hs2.get eo2.symm
        obtain ⟨T, x, y', rfl, hT, rfl, fv, fv2⟩ := y
        have := fv _ (.of hu)
        rw [hw] at this; cases this
        have := fv2 _ (.of hu2)
        rw [hw2] at this; cases this
        exact ⟨R.hidden hT _, .hidden R hT _, .newpair hT (.cons dw (.cons dw2 .nil))⟩
  · obtain ⟨⟨o, o2, h1, h2⟩, hs⟩ := itZ_stop h
    obtain ⟨xs, ea, eo⟩ := itL_at h1
    obtain ⟨ys, eb, eo2⟩ := itL_at h2
    obtain ⟨u, hu, r⟩ := R a _ ea
    obtain ⟨u2, hu2, r2⟩ := R b _ eb
    cases r with
    | lst hs1 =>
      cases r2 with
      | lst hs2 =>
        refine ⟨_, _, .of hu, .of hu2, ?_⟩
        rw [← hs1.length, ← hs2.length]
        rcases hs with hs | hs
        · rw [h1] at hs; cases hs; exact .inl (List.getElem?_eq_none_iff.mp eo.symm)
        · rw [h2] at hs; cases hs; exact .inr (List.getElem?_eq_none_iff.mp eo2.symm)
theorem itZT_ok {K : Bd} {H0 : Hp} {a b : Addr} {o o2 : Obj} {ds es : List D} {vs ws : List V} (s : H0 a = some (.frz o (.tup vs))) (hs : DVs K H0 ds vs) (s2 : H0 b = some (.frz o2 (.tup ws))) (hs2 : DVs K H0 es ws) : ItOk K H0 (itZ (itT ds) (itT es)) (ItzT K a b) := by
  refine ⟨fun i M H d tp R h => ?_, fun i M H d v H' tp R h y => ?_, fun i M H tp R h => ?_⟩
  · obtain ⟨e, f, h1, h2, rfl⟩ := itZ_go h
    obtain ⟨w, hw, _⟩ := hs.get (Option.some.inj h1)
    obtain ⟨w2, hw2, _⟩ := hs2.get (Option.some.inj h2)
    exact ⟨_, _, w, w2, sqF tp s, sqF tp s2, hw, hw2⟩
  · obtain ⟨e, f, h1, h2, rfl⟩ := itZ_go h
    obtain ⟨w, hw, dw⟩ := hs.get (Option.some.inj h1)
    obtain ⟨w2, hw2, dw2⟩ := hs2.get (Option.some.inj h2)
    obtain ⟨T, x, y', rfl, hT, rfl, fv, fv2⟩ := y
    have := fv _ (sqF tp s)
    rw [hw] at this; cases this
    have := fv2 _ (sqF tp s2)
    rw [hw2] at this; cases this
    exact ⟨R.hidden hT _, .hidden R hT _, .newpair hT (.cons (dw.mono tp) (.cons (dw2.mono tp) .nil))⟩
  · obtain ⟨⟨o, o2, h1, h2⟩, hz⟩ := itZ_stop h
    refine ⟨_, _, sqF tp s, sqF tp s2, ?_⟩
    rw [← hs.length, ← hs2.length]
    rcases hz with hz | hz
    · exact .inl (List.getElem?_eq_none_iff.mp (Option.some.inj hz))
    · exact .inr (List.getElem?_eq_none_iff.mp (Option.some.inj hz))
def diZip (ta : TAD) : TID := fun σ M R E => ta σ M (fun ds M1 => match ds with
  | [.tup xs, .tup ys] => R (itZ (itT xs) (itT ys)) M1
  | [.ref a, .ref b] => (∃ xs ys, M1 a = some (.lst xs) ∧ M1 b = some (.lst ys)) ∧ R (itZ (itL a) (itL b)) M1
  | _ => False) E
theorem di_zip {X : Cx} {W : WX} {tg e : Expr} {ta : TAD} (h : PI X tg e (iZipA X.B (lA X.B W ta))) : PI X tg e (lI X.B W (diZip ta)) :=
  PI.imp h fun σ H Q ⟨σd, M, Qd, E, S, R, t, c, cx⟩ => ⟨σd, M, _, E, S, R, t, fun ds vs M1 H1 dvs R1 k1 q1 => by
    cases dvs with
    | nil => exact q1.elim
    | cons a b =>
      cases b with
      | nil => cases a <;> exact q1.elim
      | cons a2 b2 =>
        cases b2 with
        | cons => cases a <;> cases a2 <;> exact q1.elim
        | nil =>
          cases a with
          | tup s1 _ h1 =>
            cases a2 with
            | tup s2 _ h2 => exact ⟨_, _, _, _, rfl, .inr ⟨sqF .refl s1, sqF .refl s2, c _ _ M1 H1 (itZT_ok s1 h1 s2 h2) R1 k1 q1⟩⟩
            | _ => exact q1.elim
          | ref =>
            cases a2 with
            | ref =>
              obtain ⟨⟨xs, ys, e, e2⟩, q1⟩ := q1
              obtain ⟨u, hu, r⟩ := R1 _ _ e
              obtain ⟨u2, hu2, r2⟩ := R1 _ _ e2
              cases r with
              | lst hs =>
                cases r2 with
                | lst hs2 => exact ⟨_, _, _, _, rfl, .inl ⟨.of hu, .of hu2, c _ _ M1 H1 (itZL_ok _ _) R1 k1 q1⟩⟩
            | _ => exact q1.elim
          | _ => cases a2 <;> exact q1.elim, cx⟩

section
variable {X : Cx} {W : WX}
/-! ### slices -/
theorem sl_all : SlR X (rSlAll X.B) := (sl_list.or sl_tupF).or sl_str
theorem de_sl {e : Expr} {lo hi : Option Expr} {te : TED} {tl th : TOD} {pos p2 : Pos} (he : PE X e (lE X.B W te)) (hl : PO X lo (lO X.B W tl)) (hu : PO X hi (lO X.B W th)) : PE X (.Subscript e (.Slice lo hi none p2) pos) (lE X.B W (dSl te tl th)) :=
  PE.imp (pe_slice sl_all he hl hu) fun σ H Q ⟨σd, M, Qd, E, S, R, t, c, cx⟩ => ⟨σd, M, _, E, S, R, t, fun d v M1 H1 dv R1 k1 q1 => ⟨σd, M1, _, E, S.mono (k1.tups R), R1, q1, fun l M2 H2 R2 k2 q2 =>
    ⟨σd, M2, _, E, (S.mono (k1.tups R)).mono (k2.tups R1), R2, q2, fun u M3 H3 R3 k3 q3 => by
      have k := (k1.trans k2).trans k3
      have dv3 := (dv.mono (k2.tups R1)).mono (k3.tups R2)
      cases dv3 with
      | @tup a o ds vs s1 n1 h1 =>
        refine .inl (.inr ⟨a, vs, rfl, sqF .refl s1, fun hw => ?_, fun hw p o' hp hn => ?_⟩)
        · have q : Qd (.tup (cutD ds l u)) M3 := q3
          rw [cutD_whole (by rw [h1.length]; exact hw)] at q
          exact c _ _ M3 H3 (.tup s1 n1 h1) R3 k q
        · exact c _ _ M3 _ (.newtup hp hn (h1.cut l u)) (R3.hidden hp _) (k.trans (.hidden R3 hp _)) q3
      | ref =>
        obtain ⟨xs, e, q3⟩ := q3
        obtain ⟨w, hw, r⟩ := R3 _ _ e
        cases r with
        | lst hs => exact .inl (.inl ⟨_, _, rfl, .of hw, fun p hp => c _ _ _ _ .ref (R3.new hp (.lst (hs.cut l u))) (k.trans (.new R3 hp _ _)) (q3 p (R3.free hp))⟩)
      | scr s hs =>
        exact .inl (.inl ⟨_, _, rfl, s.l, fun p hp => c _ _ _ _ .ref (R3.new hp (.lst (hs.cut l u))) (k.trans (.new R3 hp _ _)) (q3 p (R3.free hp))⟩)
      | str =>
        obtain ⟨hl, q3⟩ := q3
        exact .inr ⟨_, rfl, hl, c _ _ M3 H3 .str R3 k q3⟩
      | _ => exact q3.elim, (cx.after k1).after k2⟩, cx.after k1⟩, cx⟩

/-! ### len, tuple, list, all, int, abs -/
def lenD : RLD := fun ds M Q => match ds with
  | [.tup xs] => Q (.int xs.length) M
  | [.str z] => z.length ≤ sizeLine ∧ Q (.int z.length) M
  | [.scr xs] => Q (.int xs.length) M
  | [.ref a] => (∃ xs, M a = some (.lst xs) ∧ Q (.int xs.length) M) ∨ ∃ kvs, M a = some (.dT kvs) ∧ Q (.int (kvs.length : Nat)) M
  | _ => False
def rLenTD (X : Cx) : List V → Hp → VK → Prop := fun xs H Q => ∃ (p : Addr) (kvs : List (NestedKey × Addr × Value)), xs = [.ref p] ∧ H p = some (tdO X.prog X.w p kvs) ∧ (∀ x ∈ kvs, DV X.B H (nkD x.1) (.ref x.2.1) ∧ x.1.depth ≤ 8) ∧ Q (.int ((kvs.length : Nat) : Int)) H
theorem call_lenTD : CallR X (.builtin "len") (rLenTD X) := by
  intro pins s σ H xs us Q I r h
  obtain ⟨p, kvs, rfl, hp, hk, q⟩ := h
  obtain ⟨u, rfl, rx⟩ := r.one
  cases rx
  obtain ⟨z, hd, dd⟩ := td_dict I hp hk
  exact call_len_dictH hd dd (by rw [sizeLine_eq] at z; omega) ⟨.int _, H, I.tok _, ⟨_, rfl⟩, q⟩
def rLenA (X : Cx) : List V → Hp → VK → Prop := fun xs H Q => (∃ x n, xs = [x] ∧ LenV X.K x H n ∧ Q (.int n) H) ∨ rLenTD X xs H Q
theorem call_lenA : CallR X (.builtin "len") (rLenA X) := call_len.or call_lenTD
theorem c_len : CaD X (rLenA X) lenD := fun ds vs M H Qd Q dvs R h c => by
  cases dvs with
  | nil => exact h.elim
  | cons a b =>
    cases b with
    | cons => cases a <;> exact h.elim
    | nil =>
      cases a with
      | tup s1 _ h1 =>
        refine .inl ⟨_, _, rfl, .inr ⟨_, sqF .refl s1, rfl⟩, ?_⟩
        rw [← h1.length]
        exact c.now R .int h
      | str => exact .inl ⟨_, _, rfl, ⟨h.1, rfl⟩, c.now R .int h.2⟩
      | scr s1 hs =>
        refine .inl ⟨_, _, rfl, .inl ⟨_, s1.l, rfl⟩, ?_⟩
        rw [← hs.length]
        exact c.now R .int h
      | ref =>
        rcases h with ⟨xs, e, h⟩ | ⟨kvs, e, h⟩
        · obtain ⟨u, hu, r⟩ := R _ _ e
          cases r with
          | lst hs =>
            refine .inl ⟨_, _, rfl, .inl ⟨_, .of hu, rfl⟩, ?_⟩
            rw [← hs.length]
            exact c.now R .int h
        · obtain ⟨u, hu, r⟩ := R _ _ e
          cases r with
          | @dT _ xs t =>
            refine .inr ⟨_, xs, rfl, hu, t.keys, ?_⟩
            rw [← t.length]
            exact c.now R .int h
      | _ => exact h.elim
def tupD : RLD := fun ds M Q => match ds with
  | [.tup xs] => Q (.tup xs) M
  | [.ref a] => ∃ xs, M a = some (.lst xs) ∧ Q (.tup xs) M
  | _ => False
theorem c_tup : CaD X (fun xs H Q => ∃ p ys, xs = [.ref p] ∧ ((SqL X.B H p ys ∧ ∀ l o, H l = none → o.dict = none → Q (.ref l) (upd H l (.frz o (.tup ys)))) ∨ (SqT X.B H p ys ∧ Q (.ref p) H))) tupD := fun ds vs M H Qd Q dvs R h c => by
  cases dvs with
  | nil => exact h.elim
  | cons a b =>
    cases b with
    | cons => cases a <;> exact h.elim
    | nil =>
      cases a with
      | tup s1 n1 h1 => exact ⟨_, _, rfl, .inr ⟨sqF .refl s1, c.now R (.tup s1 n1 h1) h⟩⟩
      | ref =>
        obtain ⟨xs, e, h⟩ := h
        obtain ⟨u, hu, r⟩ := R _ _ e
        cases r with
        | lst hs => exact ⟨_, _, rfl, .inl ⟨.of hu, fun p o hp hn => c _ _ M _ (.newtup hp hn hs) (R.hidden hp _) (.hidden R hp _) h⟩⟩
      | _ => exact h.elim
def lstD : RLD := fun ds M Q => match ds with
  | [.tup xs] => ∀ p, M p = none → Q (.ref p) (put M p (.lst xs))
  | [.ref a] => ∃ xs, M a = some (.lst xs) ∧ ∀ p, M p = none → Q (.ref p) (put M p (.lst xs))
  | _ => False
theorem c_lst : CaD X (fun xs H Q => ∃ p ys, xs = [.ref p] ∧ (SqL X.B H p ys ∨ SqT X.B H p ys) ∧ ∀ l, H l = none → Q (.ref l) (upd H l (.lst ys))) lstD := fun ds vs M H Qd Q dvs R h c => by
  cases dvs with
  | nil => exact h.elim
  | cons a b =>
    cases b with
    | cons => cases a <;> exact h.elim
    | nil =>
      cases a with
      | tup s1 _ h1 => exact ⟨_, _, rfl, .inr (sqF .refl s1), fun p hp => c _ _ _ _ .ref (R.new hp (.lst h1)) (.new R hp _ _) (h p (R.free hp))⟩
      | ref =>
        obtain ⟨xs, e, h⟩ := h
        obtain ⟨u, hu, r⟩ := R _ _ e
        cases r with
        | lst hs => exact ⟨_, _, rfl, .inl (.of hu), fun p hp => c _ _ _ _ .ref (R.new hp (.lst hs)) (.new R hp _ _) (h p (R.free hp))⟩
      | _ => exact h.elim
theorem DVs.bools {K : Bd} {H : Hp} : ∀ {bs : List Bool} {vs : List V}, DVs K H (bs.map .bl) vs → vs = bs.map .bl
  | [], _, .nil => rfl
  | b :: bs, _, .cons .bl t => by rw [DVs.bools t]; rfl
theorem DVs.ints {K : Bd} {H : Hp} : ∀ {bs : List Int} {vs : List V}, DVs K H (bs.map .int) vs → vs = bs.map .int
  | [], _, .nil => rfl
  | b :: bs, _, .cons .int t => by rw [DVs.ints t]; rfl
theorem DVs.strs {K : Bd} {H : Hp} : ∀ {bs : List Str} {vs : List V}, DVs K H (bs.map .str) vs → vs = bs.map .str
  | [], _, .nil => rfl
  | b :: bs, _, .cons .str t => by rw [DVs.strs t]; rfl
def allD : RLD := fun ds M Q => match ds with
  | [.ref a] => ∃ bs : List Bool, M a = some (.lst (bs.map .bl)) ∧ Q (.bl (bs.all id)) M
  | _ => False
theorem c_all : CaD X (rAll X.B) allD := fun ds vs M H Qd Q dvs R h c => by
  cases dvs with
  | nil => exact h.elim
  | cons a b =>
    cases b with
    | cons => cases a <;> exact h.elim
    | nil =>
      cases a with
      | ref =>
        obtain ⟨bs, e, h⟩ := h
        obtain ⟨u, hu, r⟩ := R _ _ e
        cases r with
        | lst hs =>
          refine ⟨_, bs, rfl, ?_, c.now R .bl h⟩
          rw [← hs.bools]
          exact .of hu
      | _ => exact h.elim
def anyD : RLD := fun ds M Q => match ds with
  | [.ref a] => ∃ bs : List Bool, M a = some (.lst (bs.map .bl)) ∧ Q (.bl (bs.any id)) M
  | _ => False
theorem c_any : CaD X (rAny X.B) anyD := fun ds vs M H Qd Q dvs R h c => by
  cases dvs with
  | nil => exact h.elim
  | cons a b =>
    cases b with
    | cons => cases a <;> exact h.elim
    | nil =>
      cases a with
      | ref =>
        obtain ⟨bs, e, h⟩ := h
        obtain ⟨u, hu, r⟩ := R _ _ e
        cases r with
        | lst hs =>
          refine ⟨_, bs, rfl, ?_, c.now R .bl h⟩
          rw [← hs.bools]
          exact .of hu
      | _ => exact h.elim
def intD : RLD := fun ds M Q => match ds with
  | [.int i] => Q (.int i) M
  | [.bl k] => Q (.int (if k then 1 else 0)) M
  | _ => False
theorem c_int : CaD X (fun xs H Q => (∃ i, xs = [.int i] ∧ Q (.int i) H) ∨ ∃ k, xs = [.bl k] ∧ Q (.int (if k then 1 else 0)) H) intD := fun ds vs M H Qd Q dvs R h c => by
  cases dvs with
  | nil => exact h.elim
  | cons a b =>
    cases b with
    | cons => cases a <;> exact h.elim
    | nil =>
      cases a with
      | int => exact .inl ⟨_, rfl, c.now R .int h⟩
      | bl => exact .inr ⟨_, rfl, c.now R .int h⟩
      | _ => exact h.elim
def absD : RLD := fun ds M Q => match ds with
  | [.int i] => Q (.int (if i < 0 then -i else i)) M
  | _ => False
theorem c_abs : CaD X (fun xs H Q => ∃ i, xs = [.int i] ∧ Q (.int (if i < 0 then -i else i)) H) absD := fun ds vs M H Qd Q dvs R h c => by
  cases dvs with
  | nil => exact h.elim
  | cons a b =>
    cases b with
    | cons => cases a <;> exact h.elim
    | nil =>
      cases a with
      | int => exact ⟨_, rfl, c.now R .int h⟩
      | _ => exact h.elim
end
end Dt

set_option Elab.async false
set_option autoImplicit false
set_option linter.all false
set_option maxRecDepth 100000
set_option maxHeartbeats 4000000
/-! DJ: min, max, sorted. -/
namespace Dt
open PySem PySem.Spec PyProof.Rows L2 LamX RZ

/-! ### min, max of two texts -/
section
variable {prog : Program} {w : World} {A : Around} {E : Value → Shared → Prop} {s : Shared}
def two (a b : Str) (t u : Tok) : Array Value := #[.str a t, .str b u]
def txt (a b : Str) : Nat → Str
  | 0 => a
  | _ => b
theorem two_at {a b : Str} {t u : Tok} {i : Nat} {v : Value} (h : (two a b t u)[i]? = some v) : ∃ k, v = .str (txt a b i) k := by
  match i with
  | 0 => exact ⟨t, (Option.some.inj (show some (Value.str a t) = some v from h)).symm⟩
  | 1 => exact ⟨u, (Option.some.inj (show some (Value.str b u) = some v from h)).symm⟩
  | n + 2 => simp [two] at h
theorem low_new {h : Heap} {o o2 : Obj} {c : Addr} (hc : c ∈ [(h.push o).objs.size, h.objs.size]) : c < ((h.push o).push o2).objs.size := by
  rw [Heap.size_push, Heap.size_push] at *
  rcases List.mem_cons.mp hc with rfl | hc
  · exact Nat.lt_succ_self _
  · rcases List.mem_cons.mp hc with rfl | hc
    · exact Nat.lt_succ_of_lt (Nat.lt_succ_self _)
    · cases hc
theorem old_new {h h' : Heap} {o o2 : Obj} (hk : ∀ b u, b ∉ [(h.push o).objs.size] → ((h.push o).push o2).get? b = some u → h'.get? b = some u) : ∀ c u, h.get? c = some u → h'.get? c = some u := fun c u e => by
  refine hk c u (fun hm => ?_) (Heap.get?_push_of_some _ (Heap.get?_push_of_some _ e))
  rcases List.mem_cons.mp hm with e1 | hm
  · have := Heap.lt_size e
    rw [e1, Heap.size_push] at this
    exact Nat.lt_irrefl _ (Nat.lt_of_succ_lt this)
  · cases hm
theorem min_two_strs {a b : Str} {t u : Tok} {Q : Value → Shared → Prop} (hh : A.handled = none)
    (h : ∀ h' tk, (∀ c o, s.heap.get? c = some o → h'.get? c = some o) → Q (if b.cps.toList < a.cps.toList then .str b u else .str a t) { s with heap := h', toks := tk }) :
    wpAny (model prog w) A (call (.builtin "min") [.str a t, .str b u]) Q E s := by
  have hT : (s.heap.push { cls := .type "tuple", data := .seq #[.str a t, .str b u] }).IsTuple s.heap.objs.size (two a b t u) := ⟨_, Heap.get?_push_size _ rfl, rfl, 0, rfl⟩
  refine call_min_two (wpAny_pyIter_tuple hT ?_)
  have hsz : (s.heap.push { cls := .type "tuple", data := .seq #[.str a t, .str b u] }).objs.size = s.heap.objs.size + 1 := Heap.size_push ..
  refine ⟨_, [_, s.heap.objs.size], [_], _, _, _, fun i j => decide ((txt a b i).cps.toList < (txt a b j).cps.toList), rfl, Walks.tuple (A := A.in1) hh _ s.heap.objs.size (by rw [hsz]; exact Nat.ne_of_lt (Nat.lt_succ_self _)) (two a b t u),
    ⟨⟨_, Heap.get?_push_size _ rfl, rfl, rfl⟩, hT.push _⟩, fun c hc => low_new hc, by simp [two], ?_, fun v h' tk hP hk => ?_⟩
  · intro i j vi vj s' Q' E' hi hj hq
    obtain ⟨k, rfl⟩ := two_at hi
    obtain ⟨k', rfl⟩ := two_at hj
    exact PyProof.Rows.lt_str hq
  · have q := h h' tk (old_new hk)
    have hv : v = if b.cps.toList < a.cps.toList then Value.str b u else Value.str a t := by
      have hP' : (two a b t u)[argBest (fun i j => decide ((txt a b i).cps.toList < (txt a b j).cps.toList)) 1]? = some v := hP
      by_cases hb : b.cps.toList < a.cps.toList
      · rw [if_pos hb]
        have e : argBest (fun i j => decide ((txt a b i).cps.toList < (txt a b j).cps.toList)) 1 = 1 := by
          simp [argBest, txt, hb]
        rw [e] at hP'
        exact (Option.some.inj (show some (Value.str b u) = some v from hP')).symm
      · rw [if_neg hb]
        have e : argBest (fun i j => decide ((txt a b i).cps.toList < (txt a b j).cps.toList)) 1 = 0 := by
          simp [argBest, txt, hb]
        rw [e] at hP'
        exact (Option.some.inj (show some (Value.str a t) = some v from hP')).symm
    rw [hv]
    exact q
theorem max_two_strs {a b : Str} {t u : Tok} {Q : Value → Shared → Prop} (hh : A.handled = none)
    (h : ∀ h' tk, (∀ c o, s.heap.get? c = some o → h'.get? c = some o) → Q (if a.cps.toList < b.cps.toList then .str b u else .str a t) { s with heap := h', toks := tk }) :
    wpAny (model prog w) A (call (.builtin "max") [.str a t, .str b u]) Q E s := by
  have hT : (s.heap.push { cls := .type "tuple", data := .seq #[.str a t, .str b u] }).IsTuple s.heap.objs.size (two a b t u) := ⟨_, Heap.get?_push_size _ rfl, rfl, 0, rfl⟩
  refine call_max_two (wpAny_pyIter_tuple hT ?_)
  have hsz : (s.heap.push { cls := .type "tuple", data := .seq #[.str a t, .str b u] }).objs.size = s.heap.objs.size + 1 := Heap.size_push ..
  refine ⟨_, [_, s.heap.objs.size], [_], _, _, _, fun i j => decide ((txt a b j).cps.toList < (txt a b i).cps.toList), rfl, Walks.tuple (A := A.in1) hh _ s.heap.objs.size (by rw [hsz]; exact Nat.ne_of_lt (Nat.lt_succ_self _)) (two a b t u),
    ⟨⟨_, Heap.get?_push_size _ rfl, rfl, rfl⟩, hT.push _⟩, fun c hc => low_new hc, by simp [two], ?_, fun v h' tk hP hk => ?_⟩
  · intro i j vi vj s' Q' E' hi hj hq
    obtain ⟨k, rfl⟩ := two_at hi
    obtain ⟨k', rfl⟩ := two_at hj
    exact PySem.P.gt_str hq
  · have q := h h' tk (old_new hk)
    have hv : v = if a.cps.toList < b.cps.toList then Value.str b u else Value.str a t := by
      have hP' : (two a b t u)[argBest (fun i j => decide ((txt a b j).cps.toList < (txt a b i).cps.toList)) 1]? = some v := hP
      by_cases hb : a.cps.toList < b.cps.toList
      · rw [if_pos hb]
        have e : argBest (fun i j => decide ((txt a b j).cps.toList < (txt a b i).cps.toList)) 1 = 1 := by
          simp [argBest, txt, hb]
        rw [e] at hP'
        exact (Option.some.inj (show some (Value.str b u) = some v from hP')).symm
      · rw [if_neg hb]
        have e : argBest (fun i j => decide ((txt a b j).cps.toList < (txt a b i).cps.toList)) 1 = 0 := by
          simp [argBest, txt, hb]
        rw [e] at hP'
        exact (Option.some.inj (show some (Value.str a t) = some v from hP')).symm
    rw [hv]
    exact q
end
abbrev sLt (a b : Str) : Prop := a.cps.toList < b.cps.toList
def minS (a b : Str) : Str := if sLt b a then b else a
def maxS (a b : Str) : Str := if sLt a b then b else a
def rMin2 : List V → Hp → VK → Prop := fun xs H Q => (∃ a b, xs = [.str a, .str b] ∧ Q (.str (minS a b)) H) ∨ (∃ i j, xs = [.int i, .int j] ∧ Q (.int (if j < i then j else i)) H)
def rMax2' : List V → Hp → VK → Prop := fun xs H Q => (∃ a b, xs = [.str a, .str b] ∧ Q (.str (maxS a b)) H) ∨ (∃ i j, xs = [.int i, .int j] ∧ Q (.int (if j > i then j else i)) H)
section
variable {X : Cx}
theorem call_minS (hc : X.calm = true) : CallR X (.builtin "min") (fun xs H Q => ∃ a b, xs = [.str a, .str b] ∧ Q (.str (minS a b)) H) := by
  intro pins s σ H xs us Q I r h
  obtain ⟨i, j, rfl, q⟩ := h
  obtain ⟨u, w', rfl, ⟨t, rfl⟩, ⟨t', rfl⟩⟩ := vals2 r
  refine min_two_strs (I.ok.hd hc) fun h' tk k => ⟨_, H, I.kept k, ?_, q⟩
  unfold minS sLt
  by_cases hj : j.cps.toList < i.cps.toList
  · rw [if_pos hj, if_pos hj]; exact ⟨_, rfl⟩
  · rw [if_neg hj, if_neg hj]; exact ⟨_, rfl⟩
theorem call_maxS (hc : X.calm = true) : CallR X (.builtin "max") (fun xs H Q => ∃ a b, xs = [.str a, .str b] ∧ Q (.str (maxS a b)) H) := by
  intro pins s σ H xs us Q I r h
  obtain ⟨i, j, rfl, q⟩ := h
  obtain ⟨u, w', rfl, ⟨t, rfl⟩, ⟨t', rfl⟩⟩ := vals2 r
  refine max_two_strs (I.ok.hd hc) fun h' tk k => ⟨_, H, I.kept k, ?_, q⟩
  unfold maxS sLt
  by_cases hj : i.cps.toList < j.cps.toList
  · rw [if_pos hj, if_pos hj]; exact ⟨_, rfl⟩
  · rw [if_neg hj, if_neg hj]; exact ⟨_, rfl⟩
theorem call_min2A (hc : X.calm = true) : CallR X (.builtin "min") rMin2 := (call_minS hc).or (call_min2 hc)
theorem call_max2A (hc : X.calm = true) : CallR X (.builtin "max") rMax2' := (call_maxS hc).or (call_max2 hc)
def min2D : RLD := fun ds M Q => match ds with
  | [.str a, .str b] => Q (.str (minS a b)) M
  | [.int i, .int j] => Q (.int (if j < i then j else i)) M
  | _ => False
def max2D : RLD := fun ds M Q => match ds with
  | [.str a, .str b] => Q (.str (maxS a b)) M
  | [.int i, .int j] => Q (.int (if j > i then j else i)) M
  | _ => False
theorem DVs.cases2 {K : Bd} {H : Hp} {ds : List D} {vs : List V} (h : DVs K H ds vs) {P : Prop} (p : ∀ d e v w, ds = [d, e] → vs = [v, w] → DV K H d v → DV K H e w → P) (n : (∀ d e, ds ≠ [d, e]) → P) : P := by
  match ds, vs, h with
  | [], [], _ => exact n fun _ _ z => nomatch z
  | [_], [_], _ => exact n fun _ _ z => nomatch z
  | [d, e], [v, w], .cons a (.cons b .nil) => exact p d e v w rfl rfl a b
  | _ :: _ :: _ :: _, _, _ => exact n fun _ _ z => nomatch z
theorem c_min2 : CaD X rMin2 min2D := fun ds vs M H Qd Q dvs R h c => by
  unfold min2D at h
  split at h
  · cases dvs with
    | cons a b => cases b with
      | cons a' b' => cases b'; cases a; cases a'; exact .inl ⟨_, _, rfl, c.now R .str h⟩
  · cases dvs with
    | cons a b => cases b with
      | cons a' b' => cases b'; cases a; cases a'; exact .inr ⟨_, _, rfl, c.now R .int h⟩
  · exact h.elim
theorem c_max2 : CaD X rMax2' max2D := fun ds vs M H Qd Q dvs R h c => by
  unfold max2D at h
  split at h
  · cases dvs with
    | cons a b => cases b with
      | cons a' b' => cases b'; cases a; cases a'; exact .inl ⟨_, _, rfl, c.now R .str h⟩
  · cases dvs with
    | cons a b => cases b with
      | cons a' b' => cases b'; cases a; cases a'; exact .inr ⟨_, _, rfl, c.now R .int h⟩
  · exact h.elim

/-! ### min of a list -/
theorem PyOfs.at {M : DM} {n : Nat} : ∀ {ds : List D} {ps : List PyData}, PyOfs M n ds ps → ∀ {i : Nat} {d : D}, ds[i]? = some d → ∃ p, ps[i]? = some p ∧ PyOf M n d p
  | _, _, .nil, i, d, e => by simp at e
  | _, _, .cons h t, 0, d, e => by simp at e; subst e; exact ⟨_, rfl, h⟩
  | _, _, .cons h t, i + 1, d, e => by simpa using PyOfs.at t (by simpa using e)
def rMinD (K : Bd) : List V → Hp → VK → Prop := fun xs H Q => ∃ a vs p ps, xs = [.ref a] ∧ SqL K H a vs ∧ DpAll K H vs (p :: ps) ∧ PyData.plainAll (p :: ps) = true ∧ PyData.depthAll (p :: ps) ≤ 40 ∧ PySem.W.AlikeAll (p :: ps) ∧
  ∀ (i : Nat) (v : V), vs[i]? = some v → (∀ q, (p :: ps)[i]? = some q → q = PySem.W.minD p ps) → Q v H
theorem call_minD (hc : X.calm = true) (hu : X.A.units + 64 < cLine) : CallR X (.builtin "min") (rMinD X.B) := by
  intro pins s σ H xs us Q I r h
  obtain ⟨a, vs, p, ps, rfl, hq, hd, hpl, hdp, hal, q⟩ := h
  obtain ⟨u, rfl, rx⟩ := r.one
  cases rx
  obtain ⟨its, rv, pl, hz⟩ := I.list hq
  obtain ⟨as, rs⟩ := Dp.readsAll I (p :: ps) vs its hd rv
  refine PySem.W.min_list_data (I.ok.hd hc) pl.isList rs hal (by omega) fun i v h' tk bs hv hr hk => ?_
  have hv' : its[i]? = some v := by simpa using hv
  have hi : i < its.length := (List.getElem?_eq_some_iff.mp hv').1
  have hl := rv.length
  obtain ⟨u', e1, e2⟩ : ∃ x, vs[i]? = some x ∧ RelV x v := by
    have e : vs[i]? = some vs[i] := List.getElem?_eq_getElem (by omega)
    obtain ⟨w', g1, g2⟩ := rv.get e
    rw [hv'] at g1; cases g1
    exact ⟨_, e, g2⟩
  have I' : Inv X pins σ H { s with heap := h', toks := tk } := I.kept hk
  refine ⟨u', H, I', e2, q i u' e1 fun z hz' => ?_⟩
  -- the item reads as two data
  obtain ⟨bs2, r2, h2, _, _⟩ := PySem.W.readsAll_atA rs i v (by simpa using hv')
  have hzz : (p :: ps).getD i .none = z := by
    rw [List.getD_eq_getElem?_getD, hz'] <;> rfl
  rw [hzz] at r2
  have hpz : z.plain = true := by
    have : z ∈ p :: ps := List.mem_of_getElem? hz'
    exact plain_mem hpl this
  exact SeqAt.plain_unique z _ v _ _ hpz (PySem.W.reads_keeps hk r2) hr
where
  plain_mem {xs : List PyData} (h : PyData.plainAll xs = true) {z : PyData} (hz : z ∈ xs) : z.plain = true := by
    induction xs with
    | nil => cases hz
    | cons x xs ih =>
      simp only [PyData.plainAll, Bool.and_eq_true] at h
      rcases List.mem_cons.mp hz with rfl | hz
      · exact h.1
      · exact ih h.2 hz
def minLD : RLD := fun ds M Q => match ds with
  | [.ref a] => ∃ xs p ps, M a = some (.lst xs) ∧ PyOfs M 20 xs (p :: ps) ∧ PySem.W.AlikeAll (p :: ps) ∧ ∀ (i : Nat) (d : D), xs[i]? = some d → (p :: ps)[i]? = some (PySem.W.minD p ps) → Q d M
  | _ => False
theorem PyOfs.length {M : DM} {n : Nat} : ∀ {ds : List D} {ps : List PyData}, PyOfs M n ds ps → ds.length = ps.length
  | _, _, .nil => rfl
  | _, _, .cons _ t => by simp [PyOfs.length t]
theorem c_minD : CaD X (rMinD X.B) minLD := fun ds vs M H Qd Q dvs R h c => by
  unfold minLD at h
  split at h
  · cases dvs with
    | cons a b =>
      cases b; cases a
      obtain ⟨xs, p, ps, ea, hp, al, q⟩ := h
      obtain ⟨u, hu, r⟩ := R _ _ ea
      cases r with
      | lst hs =>
        refine ⟨_, _, p, ps, rfl, .of hu, PyOfs.dp R hp hs, hp.shape.1, Nat.le_trans hp.shape.2 (by decide), al, fun i v hv hz => ?_⟩
        obtain ⟨d, hd, dv⟩ := hs.getV hv
        obtain ⟨z, hz1, _⟩ := hp.at hd
        exact c.now R dv (q i d hd (by rw [hz1, hz z hz1]))
  · exact h.elim
end
end Dt

set_option Elab.async false
set_option autoImplicit false
set_option linter.all false
set_option maxRecDepth 100000
set_option maxHeartbeats 4000000
/-! DK: sorted(list), sorted(dict with tuple keys). -/
namespace Dt
open PySem PySem.Spec PyProof.Rows L2 LamX RZ

/-- values that can be sorted: one of few, too -/
def CanSort (ps : List PyData) : Prop := PySem.W.AllAlike ps ∧ (∀ p ∈ ps, p ≠ .none) ∧ (PySem.W.Sortable ps ∨ ps.length < 2)
theorem sortsAt_few {prog : Program} {w : World} {A : Around} {s : Shared} {vs : List Value} {ds : List PyData} (e : PySem.W.EachIs (fun v d => ∃ as, Reads s.heap v d as) vs ds) (c : CanSort ds) (hu : ∀ d, d ∈ ds → A.units + d.depth < cLine) :
    PySem.W.SortsAt prog w A s (PySem.W.dataKind s.heap ds) vs := by
  obtain ⟨hal, hn, hs | hs⟩ := c
  · exact PySem.W.SortsAt.data e hal hs hu
  · refine ⟨fun v hv => ?_, general', ?_, fun h2 => ?_⟩
    · obtain ⟨d, hd, as, r⟩ := e.left v hv
      exact ⟨_, PySem.W.dataKind_some hal hd r⟩
    · intro E x y a b Q ha hb hq
      obtain ⟨d, as, hd, ra, rfl⟩ := PySem.W.dataKind_inv ha
      obtain ⟨d', as', hd', rb, rfl⟩ := PySem.W.dataKind_inv hb
      show wpAny (model prog w) A (oneLt' false x y) Q E s
      exact PySem.W.oneLt_alike (fun z => nomatch z) ra rb (hal d hd d' hd') (hn d hd) (by have := hu d hd; omega) hq
    · exact absurd (e.length ▸ h2) (by omega)

/-- the sorted list, by the data -/
noncomputable def srt {α : Type} (xs : List α) (ps : List PyData) : List α := ((xs.zip ps).mergeSort (PySem.W.dataLe false Prod.snd)).map Prod.fst
theorem each_zip {R : Value → V → Prop} : ∀ {us : List Value} {vs : List V} {ps : List PyData}, Vals vs us → vs.length = ps.length → PySem.W.EachIs (fun (v : Value) (b : V × PyData) => RelV b.1 v ∧ b ∈ vs.zip ps) us (vs.zip ps) := by
  intro us vs ps r hl
  refine PySem.W.EachIs.of_zip (by rw [List.length_zip, ← hl, Nat.min_self, r.length]) ?_
  rintro ⟨u, b⟩ hm
  refine ⟨?_, (List.of_mem_zip hm).2⟩
  clear R
  induction r generalizing ps with
  | nil => simp at hm
  | @cons x u' xs us' rx t ih =>
    cases ps with
    | nil => simp at hl
    | cons p ps =>
      rw [List.zip_cons_cons, List.zip_cons_cons] at hm
      rcases List.mem_cons.mp hm with e | hm
      · cases e; exact rx
      · exact ih (by simpa using hl) hm
theorem dpAll_len {K : PySem.W.Frag} {H : Hp} {vs : List V} {ps : List PyData} (h : DpAll K H vs ps) : vs.length = ps.length := by
  induction vs generalizing ps with
  | nil => cases h; rfl
  | cons v vs ih => cases h with | cons a b => simp [ih b]
theorem dpAll_mem {K : PySem.W.Frag} {H : Hp} {vs : List V} {ps : List PyData} (h : DpAll K H vs ps) {b : V × PyData} (hb : b ∈ vs.zip ps) : Dp K H b.1 b.2 := by
  induction vs generalizing ps with
  | nil => simp at hb
  | cons v vs ih =>
    cases h with
    | cons a t =>
      rw [List.zip_cons_cons] at hb
      rcases List.mem_cons.mp hb with rfl | hb
      · exact a
      · exact ih t hb
theorem zip_snd {α : Type} {xs : List α} {ps : List PyData} (hl : xs.length = ps.length) : (xs.zip ps).map Prod.snd = ps := by
  rw [List.map_snd_zip]; omega
theorem vals_out {us : List Value} {bs : List (V × PyData)} {P : (V × PyData) → Prop} (e : PySem.W.EachIs (fun (v : Value) (b : V × PyData) => RelV b.1 v ∧ P b) us bs) : Vals (bs.map Prod.fst) us := by
  induction e with
  | nil => exact .nil
  | cons h t ih => rw [List.map_cons]; exact .cons h.1 ih
def rSortLD (K : PySem.W.Frag) : List V → Hp → VK → Prop := fun xs H Q => ∃ a vs ps, xs = [.ref a] ∧ SqL K H a vs ∧ DpAll K H vs ps ∧ CanSort ps ∧ (∀ p ∈ ps, p.depth ≤ 40) ∧ ∀ l, H l = none → Q (.ref l) (upd H l (.lst (srt vs ps)))
section
variable {X : Cx}
theorem srt_len {α : Type} {xs : List α} {ps : List PyData} (hl : xs.length = ps.length) : (srt xs ps).length = xs.length := by
  unfold srt
  rw [List.length_map, List.length_mergeSort, List.length_zip, hl, Nat.min_self]
theorem call_sortLD (hu : X.A.units + 64 < cLine) : CallR X (.builtin "sorted") (rSortLD X.K) := by
  intro pins s σ H xs us Q I r h
  obtain ⟨a, vs, ps, rfl, hq, hd, cs, hdep, q⟩ := h
  obtain ⟨u, rfl, rx⟩ := r.one
  cases rx
  obtain ⟨its, rv, pl, hz⟩ := I.list hq
  have hl := dpAll_len hd
  have hl2 := rv.length
  have e := each_zip (R := fun _ _ => True) rv hl
  have er : PySem.W.EachIs (fun v (b : V × PyData) => ∃ as, Reads s.heap v b.2 as) its (vs.zip ps) := e.mono fun v b ⟨rb, hb⟩ => Dp.reads I b.2 b.1 v (dpAll_mem hd hb) rb
  have er' : PySem.W.EachIs (fun v (b : V × PyData) => ∃ as, Reads (PySem.W.sortingHeap (PySem.W.copyHeap s.heap its) (s.heap.objs.size + 1) its) v b.2 as) its (vs.zip ps) := er.mono fun _ _ ⟨as, r⟩ => ⟨as, PyProof.Rows.Reads.keeps (fun _ _ => PySem.W.sorting_copy_old) r⟩
  have hps : (vs.zip ps).map Prod.snd = ps := zip_snd hl
  have cs' : CanSort ((vs.zip ps).map Prod.snd) := by rw [hps]; exact cs
  have hlen : its.length ≤ sizeLine := by rw [← hl2]; omega
  refine PySem.W.sorted_vals (κ := PySem.W.dataKind (PySem.W.sortingHeap (PySem.W.copyHeap s.heap its) (s.heap.objs.size + 1) its) ((vs.zip ps).map Prod.snd)) pl.isList
    (sortsAt_few (s := { s with heap := PySem.W.sortingHeap (PySem.W.copyHeap s.heap its) (s.heap.objs.size + 1) its }) (PySem.W.each_map (R := fun v d => ∃ as, Reads (PySem.W.sortingHeap (PySem.W.copyHeap s.heap its) (s.heap.objs.size + 1) its) v d as) Prod.snd er') cs' fun d hd' => ?_) hlen ?_
  · rw [hps] at hd'
    have := hdep d hd'
    show X.A.units + 2 + d.depth < cLine
    omega
  · have out := PySem.W.sortVals_data (h' := PySem.W.sortingHeap (PySem.W.copyHeap s.heap its) (s.heap.objs.size + 1) its) (R := fun v (b : V × PyData) => RelV b.1 v ∧ b ∈ vs.zip ps) (enc := Prod.snd) false e er' cs'.1
    obtain ⟨ep, he'⟩ := PyProof.Rows.sortedAll_at s.heap its (PySem.W.sortVals (PySem.W.dataKind (PySem.W.sortingHeap (PySem.W.copyHeap s.heap its) (s.heap.objs.size + 1) its) ((vs.zip ps).map Prod.snd)) false its its).toArray
    refine ⟨.ref _, upd H (s.heap.objs.size + 1) (.lst (srt vs ps)), I.laid (t' := s.toks) (fun _ _ => PyProof.Rows.sortedAll_old) (Nat.le_succ _) ⟨?_, _, ep, vals_out out, he'⟩, rfl, q _ (I.hok.fresh (Nat.le_succ _))⟩
    rw [srt_len hl]; omega
end

/-! ### sorted(d), d with tuple keys -/
mutual
def nkP : NestedKey → PyData
  | .none => .none
  | .num i => .int i
  | .text x => .str x
  | .tup ks => .tuple (nkPs ks)
def nkPs : List NestedKey → List PyData
  | [] => []
  | k :: ks => nkP k :: nkPs ks
end
mutual
theorem dp_nk {K : Bd} {H : Hp} : ∀ (k : NestedKey) (v : V), DV K H (nkD k) v → Dp K H v (nkP k)
  | .none, v, d => by unfold nkD at d; cases d; unfold nkP; exact .non
  | .num i, v, d => by unfold nkD at d; cases d; unfold nkP; exact .int i
  | .text x, v, d => by unfold nkD at d; cases d; unfold nkP; exact .str x
  | .tup ks, v, d => by
    unfold nkD at d
    cases d with | tup s1 n hs => unfold nkP; exact .tup (sqF .refl s1) (dp_nks ks _ hs)
theorem dp_nks {K : Bd} {H : Hp} : ∀ (ks : List NestedKey) (vs : List V), DVs K H (nkDs ks) vs → DpAll K H vs (nkPs ks)
  | [], vs, d => by unfold nkDs at d; cases d; unfold nkPs; exact .nil
  | k :: ks, vs, d => by
    unfold nkDs at d
    cases d with | cons a b => unfold nkPs; exact .cons (dp_nk k _ a) (dp_nks ks _ b)
end
mutual
theorem nkP_depth : ∀ k : NestedKey, (nkP k).depth ≤ k.depth
  | .none => by simp [nkP, PyData.depth]
  | .num i => by simp [nkP, PyData.depth]
  | .text x => by simp [nkP, PyData.depth]
  | .tup ks => by
    have := nkPs_depth ks
    simp only [nkP, PyData.depth, NestedKey.depth]; omega
theorem nkPs_depth : ∀ ks : List NestedKey, PyData.depthAll (nkPs ks) ≤ NestedKey.depthAll ks
  | [] => by simp [nkPs, PyData.depthAll]
  | k :: ks => by
    have h1 := nkP_depth k
    have h2 := nkPs_depth ks
    simp only [nkPs, PyData.depthAll, NestedKey.depthAll]; omega
end
abbrev keysV (xs : List (NestedKey × Addr × Value)) : List V := xs.map fun x => V.ref x.2.1
abbrev keysP {β : Type} (xs : List (NestedKey × β)) : List PyData := xs.map fun x => nkP x.1
def rSortT (X : Cx) : List V → Hp → VK → Prop := fun ys H Q => ∃ d xs, ys = [V.ref d] ∧ H d = some (tdO X.prog X.w d xs) ∧ (∀ x ∈ xs, DV X.B H (nkD x.1) (.ref x.2.1) ∧ x.1.depth ≤ 8) ∧ CanSort (keysP xs) ∧ ∀ l, H l = none → Q (.ref l) (upd H l (.lst (srt (keysV xs) (keysP xs))))
theorem keys_dp {K : Bd} {H : Hp} {xs : List (NestedKey × Addr × Value)} (h : ∀ x ∈ xs, DV K H (nkD x.1) (.ref x.2.1) ∧ x.1.depth ≤ 8) : DpAll K H (keysV xs) (keysP xs) := by
  induction xs with
  | nil => exact .nil
  | cons x xs ih => exact .cons (dp_nk _ _ (h x (List.mem_cons_self ..)).1) (ih fun y hy => h y (List.mem_cons_of_mem _ hy))
section
variable {X : Cx}
theorem call_sortT (hc : X.calm = true) (hu : X.A.units + 64 < cLine) : CallR X (.builtin "sorted") (rSortT X) := by
  intro pins s σ H ys us Q I r h
  obtain ⟨d, ks, rfl, hd, hks, cs, q⟩ := h
  obtain ⟨u, rfl, rx⟩ := r.one
  cases rx
  obtain ⟨⟨z, hs, o, es, ep, ho, hx, hdt, he, hn⟩, _⟩ := (show ObjOk X.prog X.w H s.heap d (tdO X.prog X.w d ks) from I.hok d _ hd)
  have l1 : es.size = ks.length := size_of_entries he
  refine Calls.call_function_entry PyProof.Rows.kind_sorted PyProof.Rows.plain_sorted PyProof.Rows.entry_sorted (PyProof.Rows.args_sorted1 _) ?_
  unfold Builtin.«sorted»
  refine wpAny_bind (m := checkCount "sorted" 1 1 _) (wpAny_pure ?_)
  refine wpAny_bind (PySem.W.kdu_collect (A := X.A.in1) (kdl_raw hs hx hdt) (I.ok.hd hc) ho (by omega) fun h' tk acc kp it => ?_)
  have ea : acc.toList = ks.map fun x => Value.ref x.2.1 := by
    have hl : acc.toList.length = ks.length := by rw [Array.length_toList, it.1]; exact l1
    apply List.ext_getElem?
    intro j
    rw [List.getElem?_map]
    cases hj : acc.toList[j]? with
    | none =>
      have h1 := List.getElem?_eq_none_iff.mp hj
      rw [List.getElem?_eq_none (by omega)]
      all_goals rfl
    | some v =>
      obtain ⟨en, hen, hv⟩ := it.2 j v (by rw [← Array.getElem?_toList]; exact hj)
      have qe := entry_at he j
      rw [hen] at qe
      cases hb : ks[j]? with
      | none =>
        rw [hb] at qe
        exact nomatch (show some en = none from qe)
      | some b =>
        rw [hb] at qe
        have e2 : en = entryOfKey (nestedKind X.prog X.w) b := Option.some.inj qe
        rw [hv, e2]
        all_goals rfl
  have eb : acc.toList = (ks.map fun x => x.2.1).map Value.ref := by rw [ea, List.map_map]; all_goals rfl
  have ev : keysV ks = (ks.map fun x => x.2.1).map V.ref := by rw [List.map_map]; rfl
  have rv : Vals (keysV ks) acc.toList := by rw [eb, ev]; exact vals_refs _
  have I1 : Inv X pins σ H { s with heap := h', toks := tk } := I.kept kp
  have hdp : DpAll X.K H (keysV ks) (keysP ks) := keys_dp (K := X.B) hks
  have hal : acc.toList.length ≤ sizeLine := by rw [ea, List.length_map]; omega
  refine wpAny_bind (wpAny_newList ?_ hal)
  have hoL : (h'.push (seqObj "list" acc.toList.toArray 0)).get? h'.objs.size = some (seqObj "list" acc.toList.toArray 0) := Heap.get?_push_size _ rfl
  show wpAny _ _ _ _ _ { s with heap := h'.push (seqObj "list" acc.toList.toArray 0), toks := tk }
  have hl := dpAll_len hdp
  have e := each_zip (R := fun _ _ => True) rv hl
  have er : PySem.W.EachIs (fun v (b : V × PyData) => ∃ as, Reads h' v b.2 as) acc.toList ((keysV ks).zip (keysP ks)) := e.mono fun v b ⟨rb, hb⟩ => Dp.reads I1 b.2 b.1 v (dpAll_mem hdp hb) rb
  have old : ∀ b o', h'.get? b = some o' → (PySem.W.sortingHeap (h'.push (seqObj "list" acc.toList.toArray 0)) h'.objs.size acc.toList).get? b = some o' := fun b o' q => PySem.W.sortingHeap_old (Nat.ne_of_lt (Heap.lt_size q)) (Heap.get?_push_of_some _ q)
  have er' : PySem.W.EachIs (fun v (b : V × PyData) => ∃ as, Reads (PySem.W.sortingHeap (h'.push (seqObj "list" acc.toList.toArray 0)) h'.objs.size acc.toList) v b.2 as) acc.toList ((keysV ks).zip (keysP ks)) :=
    er.mono fun _ _ ⟨as, r⟩ => ⟨as, PyProof.Rows.Reads.keeps old r⟩
  have hps : ((keysV ks).zip (keysP ks)).map Prod.snd = keysP ks := zip_snd hl
  have cs' : CanSort (((keysV ks).zip (keysP ks)).map Prod.snd) := by rw [hps]; exact cs
  refine wpAny_bind (wpAny_holding (wpAny_call_entry PyProof.Rows.slot_list_sort ⟨_, hoL, rfl⟩ PyProof.Rows.entry_list_sort
    (PySem.W.list_sort_vals (s := { s with heap := h'.push (seqObj "list" acc.toList.toArray 0), toks := tk }) (κ := PySem.W.dataKind (PySem.W.sortingHeap (h'.push (seqObj "list" acc.toList.toArray 0)) h'.objs.size acc.toList) (((keysV ks).zip (keysP ks)).map Prod.snd)) hoL
      (sortsAt_few (s := { s with heap := PySem.W.sortingHeap (h'.push (seqObj "list" acc.toList.toArray 0)) h'.objs.size acc.toList, toks := tk }) (PySem.W.each_map (R := fun v d => ∃ as, Reads (PySem.W.sortingHeap (h'.push (seqObj "list" acc.toList.toArray 0)) h'.objs.size acc.toList) v d as) Prod.snd er') cs' fun d hd' => ?_) hal ⟨_, rfl, ?_⟩)
    (PyProof.Rows.args_list_sort _)))
  · rw [hps] at hd'
    obtain ⟨p, hp, rfl⟩ := List.mem_map.mp hd'
    have h1 := nkP_depth p.1
    have h2 := (hks p hp).2
    show X.A.units + 2 + (nkP p.1).depth < cLine
    omega
  · have out := PySem.W.sortVals_data (h' := PySem.W.sortingHeap (h'.push (seqObj "list" acc.toList.toArray 0)) h'.objs.size acc.toList) (R := fun v (b : V × PyData) => RelV b.1 v ∧ b ∈ (keysV ks).zip (keysP ks)) (enc := Prod.snd) false e er' cs'.1
    obtain ⟨e', he'⟩ := PyProof.Rows.sortedHeap_at (vs := acc.toList) (out := (PySem.W.sortVals (PySem.W.dataKind (PySem.W.sortingHeap (h'.push (seqObj "list" acc.toList.toArray 0)) h'.objs.size acc.toList) (((keysV ks).zip (keysP ks)).map Prod.snd)) false acc.toList acc.toList).toArray) hoL
    refine wpAny_pure ⟨_, rfl, .ref h'.objs.size, upd H h'.objs.size (.lst (srt (keysV ks) (keysP ks))), I1.laid (t' := tk) (fun b u e => ?_) (Nat.le_refl _)
      ⟨?_, _, e', vals_out out, he'⟩, rfl, q _ (I1.hok.fresh (Nat.le_refl _))⟩
    · have hb : b < h'.objs.size := Heap.lt_size e
      rw [PyProof.Rows.sortedHeap_old (Nat.ne_of_lt hb) (by rw [size_push']; exact Nat.lt_succ_of_lt hb)]
      exact Heap.get?_push_of_some _ e
    · rw [srt_len hl, List.length_map]; exact z

/-! ### as data -/
theorem zip_map_both {α β γ δ : Type} (f : α → β) (g : γ → δ) : ∀ (xs : List α) (ys : List γ), (xs.map f).zip (ys.map g) = (xs.zip ys).map fun p => (f p.1, g p.2)
  | [], _ => rfl
  | _ :: _, [] => rfl
  | x :: xs, y :: ys => by simp [zip_map_both f g xs ys]
/-- related lists are sorted alike -/
theorem srt_dvs {K : Bd} {H : Hp} {ds : List D} {vs : List V} (h : DVs K H ds vs) {ps : List PyData} (hl : ds.length = ps.length) : DVs K H (srt ds ps) (srt vs ps) := by
  -- sort the triples once
  have key : ∀ (bs : List ((D × V) × PyData)), (∀ b ∈ bs, DV K H b.1.1 b.1.2) → DVs K H (bs.map fun b => b.1.1) (bs.map fun b => b.1.2) := by
    intro bs hb
    induction bs with
    | nil => exact .nil
    | cons b bs ih => exact .cons (hb b (List.mem_cons_self ..)) (ih fun c hc => hb c (List.mem_cons_of_mem _ hc))
  have hz : ∀ b ∈ ds.zip vs, DV K H b.1 b.2 := by
    clear hl
    induction ds generalizing vs with
    | nil => intro b hb; simp at hb
    | cons d ds ih =>
      cases h with
      | cons a t =>
        intro b hb
        rw [List.zip_cons_cons] at hb
        rcases List.mem_cons.mp hb with rfl | hb
        · exact a
        · exact ih t b hb
  have hlen := h.length
  have e1 : ds.zip ps = ((ds.zip vs).zip ps).map fun b => (b.1.1, b.2) := by
    rw [show (fun b : (D × V) × PyData => (b.1.1, b.2)) = fun p => ((fun q : D × V => q.1) p.1, (fun z : PyData => z) p.2) from rfl, ← zip_map_both (fun q : D × V => q.1) (fun z : PyData => z)]
    rw [show (ds.zip vs).map (fun q : D × V => q.1) = ds from List.map_fst_zip (by omega)]
    simp
  have e2 : vs.zip ps = ((ds.zip vs).zip ps).map fun b => (b.1.2, b.2) := by
    rw [show (fun b : (D × V) × PyData => (b.1.2, b.2)) = fun p => ((fun q : D × V => q.2) p.1, (fun z : PyData => z) p.2) from rfl, ← zip_map_both (fun q : D × V => q.2) (fun z : PyData => z)]
    rw [show (ds.zip vs).map (fun q : D × V => q.2) = vs from List.map_snd_zip (by omega)]
    simp
  unfold srt
  rw [e1, e2, ← List.map_mergeSort (f := fun b : (D × V) × PyData => (b.1.1, b.2)) (r := fun b c => PySem.W.dataLe false Prod.snd b c) (fun a _ b _ => rfl), ← List.map_mergeSort (f := fun b : (D × V) × PyData => (b.1.2, b.2)) (r := fun b c => PySem.W.dataLe false Prod.snd b c) (fun a _ b _ => rfl), List.map_map, List.map_map]
  refine key _ fun b hb => hz _ ?_
  have hm : b ∈ (ds.zip vs).zip ps := List.mem_mergeSort.mp hb
  exact (List.of_mem_zip hm).1
def sortD : RLD := fun ds M Q => match ds with
  | [.ref a] => (∃ xs ps, M a = some (.lst xs) ∧ PyOfs M 20 xs ps ∧ CanSort ps ∧ ∀ p, M p = none → Q (.ref p) (put M p (.lst (srt xs ps)))) ∨
    (∃ kvs, M a = some (.dT kvs) ∧ CanSort (keysP kvs) ∧ ∀ p, M p = none → Q (.ref p) (put M p (.lst (srt (kvs.map fun p => nkD p.1) (keysP kvs)))))
  | _ => False
def rSortA (X : Cx) : List V → Hp → VK → Prop := fun xs H Q => rSortLD X.K xs H Q ∨ rSortT X xs H Q
theorem call_sortA (hc : X.calm = true) (hu : X.A.units + 64 < cLine) : CallR X (.builtin "sorted") (rSortA X) := (call_sortLD hu).or (call_sortT hc hu)
theorem depthAll_mem {ps : List PyData} {n : Nat} (h : PyData.depthAll ps ≤ n) : ∀ p ∈ ps, p.depth ≤ n := by
  induction ps with
  | nil => intro p hp; cases hp
  | cons q ps ih =>
    intro p hp
    simp only [PyData.depthAll] at h
    rcases List.mem_cons.mp hp with rfl | hp
    · omega
    · exact ih (by omega) p hp
theorem c_sort : CaD X (rSortA X) sortD := fun ds vs M H Qd Q dvs R h c => by
  unfold sortD at h
  split at h
  · cases dvs with
    | cons a b =>
      cases b; cases a
      rcases h with ⟨xs, ps, ea, hp, cs, q⟩ | ⟨kvs, ea, cs, q⟩
      · obtain ⟨u, hu, r⟩ := R _ _ ea
        cases r with
        | lst hs =>
          exact .inl ⟨_, _, ps, rfl, .of hu, PyOfs.dp R hp hs, cs, fun p hm => Nat.le_trans (depthAll_mem hp.shape.2 p hm) (by decide), fun l hl => c _ _ _ _ .ref (R.new hl (.lst (srt_dvs hs hp.length))) (.new R hl _ _) (q l (R.free hl))⟩
      · obtain ⟨u, hu, r⟩ := R _ _ ea
        cases r with
        | @dT _ xs t =>
          have hkw : keysP kvs = keysP xs := by
            clear hu cs q ea
            induction t with
            | nil => rfl
            | cons _ _ _ _ _ ih => simpa [keysP] using ih
          refine .inr ⟨_, xs, rfl, hu, t.keys, by rw [← hkw]; exact cs, fun l hl => ?_⟩
          have hkd : DVs X.B H (kvs.map fun p => nkD p.1) (keysV xs) := by
            clear hu cs q hkw ea
            induction t with
            | nil => exact .nil
            | cons a _ _ _ _ ih => exact .cons a ih
          rw [← hkw]
          refine c _ _ _ _ .ref (R.new hl (.lst (srt_dvs hkd ?_))) (.new R hl _ _) (q l (R.free hl))
          rw [List.length_map, List.length_map]
  · exact h.elim
end
end Dt

set_option Elab.async false
set_option autoImplicit false
set_option linter.all false
set_option maxRecDepth 100000
set_option maxHeartbeats 4000000
/-! DM: defs that are run while no repr is under way (so that repr tells a value whole): their promise, their calls, the law at the top. -/
namespace Dt
open PySem PySem.Spec PyProof.Rows L2 LamX RZ

/-- no repr is under way -/
def Still (A : Around) : Prop := A.guards = some []
theorem Still.deeper {A : Around} (h : Still A) (env : Env) : Still (A.deeper env) := h
theorem Still.in1 {A : Around} (h : Still A) : Still A.in1 := h
/-- a def's promise, called while no repr is under way -/
structure FnS (P : Program) (w : World) (K : PySem.W.Frag) (mg : Str → Option Value) (base : Heap) (CX : CXT) (k : Nat) (f : Addr) (fd : FuncData) (ps : List Str) (sp : Sp) : Prop where
  len : ∀ vs H Q E, sp vs H Q E → vs.length = ps.length
  go : ∀ (A : Around) (outer : List Env) (s : Shared) (H : Hp) (args : Args) (us : List Value) (vs : List V) (Q : VK) (E : XK), Still A → Room k A → Env0 P w K mg base A outer s H → BindsTo s fd args (ps.zip us) → Vals vs us → sp vs H Q E →
    codeAny (model P w) A (.call (.ref f) args) (CR CX outer P w H s Q E) s
theorem FnS.mono {P : Program} {w : World} {K : PySem.W.Frag} {mg : Str → Option Value} {base : Heap} {CX : CXT} {j k : Nat} {f : Addr} {fd : FuncData} {ps : List Str} {sp : Sp} (F : FnS P w K mg base CX j f fd ps sp) (h : j ≤ k) : FnS P w K mg base CX k f fd ps sp :=
  ⟨F.len, fun A o s H args us vs Q E hs hr => F.go A o s H args us vs Q E hs (hr.mono h)⟩
theorem FnS.of {P : Program} {w : World} {K : PySem.W.Frag} {mg : Str → Option Value} {base : Heap} {CX : CXT} {k : Nat} {f : Addr} {fd : FuncData} {ps : List Str} {sp : Sp} (F : FnOk P w K mg base CX k f fd ps sp) : FnS P w K mg base CX k f fd ps sp :=
  ⟨F.len, fun A o s H args us vs Q E _ hr => F.run A o s H args us vs Q E hr⟩

section
variable {CX : CXT} {P : Program} {w : World} {K : PySem.W.Frag} {mg : Str → Option Value} {base : Heap} {k : Nat} {x qual : Str} {st : Stmt} {f : Addr} {fd : FuncData} {N ps : List Str} {sp : Sp}
/-- a def by its body -/
theorem fnS_of (F : Fun K x qual st f fd) (S : FnScope N ps (defScope st)) (len : ∀ vs H Q E, sp vs H Q E → vs.length = ps.length)
    (hbody : ∀ (cdv : Value) (A : Around) (outer : List Env) (s : Shared) (H : Hp) (vs : List V) (Q : VK) (E : XK), Still A → Room k (A.deeper (envOfC qual (defScope st) s.heap.objs.size f cdv)) → sp vs H Q E →
      ∃ t, PSs (cxOf CX P w K mg base N qual (defScope st) f cdv A outer s H E) (defBody st) t ∧ t { nx := fun _ H' => Q .non H', rt := Q } (start N vs) H) :
    FnS P w K mg base CX (k + 1) f fd ps sp := by
  obtain ⟨oc, od, kV, doc, pm, an, cdv, ct, osl, rfl, lk, hcd⟩ := F.ex
  constructor
  · exact len
  intro A outer s H args us vs Q E still room env bind vals want
  have old : ∀ b o, base.get? b = some o → s.heap.get? b = some o := fun b o e => (env.bs b o e).1
  have inK : K.In s.heap := env.mod.kin.keeps old
  have slots : ∀ y ∈ ps.zip us, (defScope st).names.lookup y.1 = some .local ∨ ((defScope st).names.lookup y.1 = some .cell ∧ ((cellsFrom (s.heap.objs.size + 1) (defScope st).names []).lookup y.1).isSome = true) := by
    rintro ⟨n, v⟩ hy
    cases S.par n (List.of_mem_zip hy).1 with
    | inl h => exact .inl h
    | inr h => exact .inr ⟨h, PySem.W.cellsFrom_some _ _ _ (.inl h)⟩
  apply codeAny_call_function room.depth (inK _ _ lk) rfl S.co S.gen rfl (PySem.W.codeRec_of inK hcd)
  apply bind
  apply wpAny_newFunctionEnv_cells S.kind slots
  rintro env' rfl s1 made
  refine ⟨(env.mod.nolimit.keeps old).keeps made.toInCall.keep, codeAny_func ?_⟩
  obtain ⟨t, walk, start_⟩ := hbody cdv A outer s H vs Q E still (room.deeper _) want
  have inv0 := inv_start (CX := CX) (qual := qual) (f := f) (cd := cdv) (E := E) S room.hd env (len _ _ _ _ want) vals made
  refine wpAny_mono (walk.run [] s1 (start N vs) H _ inv0 start_) ?_ fun _ _ e => e
  intro fl s' got
  match fl, got with
  | .ret _, ⟨v, _, H', J, r, q⟩ => exact ⟨v, H', J.os, J.bare, J.base, J.hok, r, q⟩
  | .next, ⟨_, H', J, q⟩ => exact ⟨.non, H', J.os, J.bare, J.base, J.hok, rfl, q⟩
  | .brk, ⟨_, _, _, q⟩ => exact q.elim
  | .cont, ⟨_, _, _, q⟩ => exact q.elim
end
/-- f(..) -/
theorem pe_callS {X : Cx} {CX : CXT} {k : Nat} {f : Addr} {fd : FuncData} {ps : List Str} {sp : Sp} {E : XK} {x : Str} {p pos : Pos} {e : Expr} {es : List Expr} {t : TA} (F : FnS X.prog X.w X.K X.mg X.base CX k f fd ps sp) (hs : Still X.A) (hr : Room k X.A) (hg : Gl X x) (hm : X.mg x = some (.ref f)) (hk : PySem.W.keepIn X.K (.ref f) = true) (hb : Binds X.K fd ps []) (hx : Passes CX X E)
    (ha : PA X (e :: es) t) (hdb : (x == ("__debug__" : Str)) = false := by decide) (he : starEach (e :: es) X.env = (false, eval e X.env) :: starEach es X.env := by rfl) (hpl : (backTo pos (starEach es X.env)).any (·.1) = false := by rfl) :
    PE X (.Call (.Name x p) (e :: es) [] pos) (tCall sp [] E t) := by
  constructor
  intro pins s σ H Q I h
  refine wpAny_Call_Name_kw (ld_glob I hg hm ?_ hdb)
  refine PySem.W.callWith_K (h₀ := X.base) I.ok.mod.kin hk (thn (ha.run pos pins s σ H _ I h) ?_) he hpl
  rintro us s1 ⟨vs, H1, I1, r, q⟩
  rw [List.append_nil] at q
  refine ⟨I1.kIn, ?_⟩
  have hl : (us ++ []).length = ps.length := by rw [List.append_nil, ← r.length]; exact F.len _ _ _ _ q
  have hb' := hb s1 us I1.kIn hl
  rw [List.append_nil] at hb'
  refine wpAny_call (codeAny_mono (F.go X.A X.stack s1 H1 ⟨us, []⟩ us vs Q E hs hr I1.env0 hb' r q) ?_)
  intro out s' got
  match out, got with
  | .error _, g => exact hx pins σ H1 s1 _ s' I1 g
  | .ok (.ret _), g => exact I1.after g
  | .ok .next, g => exact False.elim g
  | .ok .brk, g => exact False.elim g
  | .ok .cont, g => exact False.elim g

/-! ### the law, called at the top -/
theorem ints_vals : ∀ {vs : List Value} {ns : List Int}, IntsAre vs ns → Vals (ns.map V.int) vs
  | _, _, .nil => .nil
  | _, _, .cons n t h => .cons ⟨t, rfl⟩ (ints_vals h)
/-- an abstract heap that knows the script alone -/
structure Script (K : PySem.W.Frag) (h : Heap) (a : Addr) (ns : List Int) (P : Program) (w : World) (H : Hp) : Prop where
  only : Only H
  sq : SqL K H a (ns.map V.int)
  ok : HOk P w H h
  at_ : ∀ b, H b ≠ none → b = a
  free : H a ≠ none → K.lookup a = none
theorem script_of {K : PySem.W.Frag} {h : Heap} {a : Addr} {vs : List Value} {ns : List Int} (P : Program) (w : World) (KX : K.In h) (ha : h.get? a = some { cls := .type "list", data := .seq vs.toArray }) (hi : IntsAre vs ns) (hl : ns.length ≤ sizeLine) : ∃ H, Script K h a ns P w H := by
  have rv := ints_vals hi
  have len := hi.length
  cases hk : K.lookup a with
  | some o =>
    have e := KX a o hk
    rw [ha] at e
    obtain rfl := Option.some.inj e
    exact ⟨fun _ => none, fun _ => .inl rfl, .inr ⟨_, vs.toArray, _, hk, rfl, rfl, rfl, by rw [List.size_toArray, len]; exact hl, by simpa using rv⟩, (fun b u z => nomatch (show (none : Option HO) = some u from z)), fun b z => (z rfl).elim, fun z => (z rfl).elim⟩
  | none =>
    refine ⟨upd (fun _ => none) a (.frz { cls := .type "list", data := .seq vs.toArray } (.lst (ns.map V.int))), fun b => ?_, .inl (.inr ⟨_, upd_same⟩), fun b u z => ?_, fun b z => ?_, fun _ => hk⟩
    · by_cases hb : b = a
      · subst hb; exact .inr ⟨_, _, upd_same⟩
      · exact .inl (upd_ne hb)
    · by_cases hb : b = a
      · subst hb
        rw [upd_same] at z
        obtain rfl := Option.some.inj z
        exact ⟨ha, by rw [List.length_map]; exact hl, vs, _, rv, ha⟩
      · rw [upd_ne hb] at z
        exact nomatch (show (none : Option HO) = some u from z)
    · by_cases hb : b = a
      · exact hb
      · exact (z (upd_ne hb)).elim
theorem law_still {P : Program} {w : World} {K : PySem.W.Frag} {mg mb : Str → Option Value} {CX : CXT} {k : Nat} {fa a : Addr} {x : Str} {sp : Sp} {s₁ : Shared} {vs : List Value} {ns : List Int}
    (KX : K.In s₁.heap) (hns : s₁.heap.Ns mainGlobals mg) (hb : s₁.heap.Ns builtinsNs mb) (hbb : ∀ x : Str, x ≠ "__name__" → mb x = bootBuiltins x) (hlim : s₁.heap.NoLimit) (hg : s₁.gens = #[])
    (ha : s₁.heap.get? a = some { cls := .type "list", data := .seq vs.toArray }) (hi : IntsAre vs ns) (hl : ns.length ≤ sizeLine) (hr : Room k callerA)
    (F : ∀ base : Heap, K.In base → base.Ns mainGlobals mg → ∃ fd, FnS P w K mg base CX k fa fd [x] sp ∧ Binds K fd [x] [])
    (hsp : ∀ H : Hp, Only H → SqL K H a (ns.map V.int) → sp [.ref a] H (fun v _ => v = .bl true) fun _ _ _ => False)
    (hCX : ∀ H e s', CX [] H s₁ (fun _ _ _ => False) e s' → False) :
    codeAny (model P w) callerA (.call (.ref fa) ⟨[.ref a], []⟩) (fun r s' => r = .ok (.ret (.bool true)) ∧ OldK s₁.heap s'.heap ∧ s'.os = s₁.os ∧ AllBare s'.gens) s₁ := by
  obtain ⟨H, Z⟩ := script_of P w KX ha hi hl
  -- what is not the script is as it was
  have seen : ∀ {b : Addr} {o : Obj}, s₁.heap.get? b = some o → H b = none → (hidT s₁.heap H).get? b = some o := fun e n => hidT_get e n
  have dicts : ∀ {b : Addr} {o : Obj} {es : Array DictEntry} {ep : Nat}, s₁.heap.get? b = some o → o.data = .dict es ep → H b = none := by
    intro b o es ep e d
    by_cases q : H b = none
    · exact q
    · obtain rfl := Z.at_ b q
      rw [ha] at e
      obtain rfl := Option.some.inj e
      exact nomatch d
  have names : ∀ {b : Addr} {m : Str → Option Value}, s₁.heap.Ns b m → (hidT s₁.heap H).Ns b m := fun {b m} ⟨o, es, ep, e, d, r⟩ => ⟨o, es, ep, seen e (dicts e d), d, r⟩
  have kin : K.In (hidT s₁.heap H) := by
    intro b o e
    refine seen (KX b o e) ?_
    by_cases q : H b = none
    · exact q
    · obtain rfl := Z.at_ b q
      rw [Z.free q] at e
      exact nomatch e
  obtain ⟨mc, l1, l2⟩ := hlim
  have modl : Mod K mg (hidT s₁.heap H) := ⟨kin, names hns, ⟨mb, names hb, hbb⟩, ⟨mc, names l1, l2⟩⟩
  have env : Env0 P w K mg (hidT s₁.heap H) callerA [] s₁ H := ⟨rfl, modl, fun b o e => of_hidT e, Nat.le_of_eq (hidT_size _ _), trivial, fun b z => (nomatch z), Z.ok, .of_eq hg⟩
  obtain ⟨fd, hF, hbind⟩ := F _ kin (names hns)
  refine codeAny_mono (hF.go callerA [] s₁ H ⟨[.ref a], []⟩ [.ref a] [.ref a] _ _ rfl hr env (hbind s₁ [.ref a] KX rfl) (.cons rfl .nil) (hsp H Z.only Z.sq)) ?_
  intro r s' got
  match r, got with
  | .error e, g => exact (hCX H e s' g).elim
  | .ok .next, g => exact False.elim g
  | .ok .brk, g => exact False.elim g
  | .ok .cont, g => exact False.elim g
  | .ok (.ret u), ⟨v, H', os, bare, un, ok', rv, q⟩ =>
    obtain rfl : v = .bl true := q
    obtain rfl : u = Value.bool true := rv
    refine ⟨rfl, OldK.of_keep fun b o e => ?_, os, bare⟩
    rcases Z.only b with n | ⟨ob, xs, z⟩
    · exact un.keep b o e n (fun y => nomatch y) (fun y => nomatch y)
    · have z1 := (Z.ok b _ z).1
      rw [e] at z1
      obtain rfl := Option.some.inj z1
      exact (ok' b _ (un.frzs b o _ z)).1
/-- the goal that a head leaves -/
theorem walk_still {l : PySem.W.OpenLaw} {n k : Nat} {q : Program} {loose : List Str} {XP : (Str → Option Value) → Heap → Prop} {YP : World → Heap → Prop} {d : DefRec} {CX : CXT} {x : Str}
    (hn : l.most = some n) (hn2 : n ≤ sizeLine) (hdf : d.params.defaults = []) (hr : Room k callerA)
    (F : ∀ (w : World) (mg : Str → Option Value) (fa : Addr) (h : Heap), YP w h → h.Ns mainGlobals mg → mg d.name = some (.ref fa) →
      ∃ (K : PySem.W.Frag) (sp : Sp), K.In h ∧
        (∀ (H : Hp) (a : Addr) (ns : List Int), ns.length ≤ n → Only H → SqL K H a (ns.map V.int) → sp [.ref a] H (fun v _ => v = .bl true) fun _ _ _ => False) ∧
        ∀ base : Heap, K.In base → base.Ns mainGlobals mg → ∃ fd, FnS l.prog w K mg base CX k fa fd [x] sp ∧ Binds K fd [x] [])
    (hCX : ∀ (H : Hp) (s : Shared) (e : Value) (s' : Shared), CX [] H s (fun _ _ _ => False) e s' → False) :
    PySem.W.WalkO q loose XP YP l.row.toRowW d [] (fun f vs => PySem.call f vs) := by
  refine Att.attach_call hn hdf fun w s₀ s₁ mg mb fa o pm cd doc a vs ns G Y ho hd hcd hmg hobj hints hlen hg => ?_
  obtain ⟨K, sp, KX, hsp, hF⟩ := F w mg fa _ Y G.T.g hmg
  exact law_still KX G.T.g G.T.b G.T.builtins G.T.nolimit hg hobj hints (Nat.le_trans hlen hn2) hr hF (fun H hO hS => hsp H a ns hlen hO hS) fun H e s' => hCX H s₁ e s'
end Dt

set_option Elab.async false
set_option autoImplicit false
set_option linter.all false
set_option maxRecDepth 100000
set_option maxHeartbeats 4000000
/-! DL: methods of lists and tuples, items stored, repr, isinstance, dict(d), targets. -/
namespace Dt
open PySem PySem.Spec PyProof.Rows L2 LamX RZ PySem.P

/-! ### methods of lists -/
def isLst : D → DM → Prop := fun d M => ∃ a xs, d = .ref a ∧ M a = some (.lst xs)
theorem ty_lst {K : Bd} {d : D} {x : V} {M : DM} {H : Hp} (dx : DV K H d x) (R : Rel K M H) (ok : isLst d M) : tyV K "list" x H := by
  obtain ⟨a, xs, rfl, e⟩ := ok
  cases dx
  obtain ⟨vs, hu, hs⟩ := R.lst e
  exact .inl ⟨rfl, vs, .of hu⟩
theorem tyd_lst {K : Bd} : TyD K "list" isLst := fun _ _ _ _ dx R ok => ty_lst dx R ok
def appD : RMD := fun d ds M Q => match ds with
  | [e] => ∃ a xs, d = .ref a ∧ M a = some (.lst xs) ∧ xs.length < sizeLine ∧ Q .non (put M a (.lst (xs ++ [e])))
  | _ => False
def extD : RMD := fun d ds M Q => match ds with
  | [.ref b] => ∃ a xs zs, d = .ref a ∧ M a = some (.lst xs) ∧ M b = some (.lst zs) ∧ xs.length + zs.length ≤ sizeLine ∧ Q .non (put M a (.lst (xs ++ zs)))
  | _ => False
def popD : RMD := fun d ds M Q => match ds with
  | [] => ∃ a xs y, d = .ref a ∧ M a = some (.lst (xs ++ [y])) ∧ Q y (put M a (.lst xs))
  | _ => False
def insD : RMD := fun d ds M Q => match ds with
  | [.int i, y] => ∃ a xs, d = .ref a ∧ M a = some (.lst xs) ∧ xs.length < sizeLine ∧ 0 ≤ i ∧ i < 2 ^ 63 ∧ Q .non (put M a (.lst (xs.take i.toNat ++ [y] ++ xs.drop i.toNat)))
  | _ => False
section
variable {X : Cx} {W : WX}
theorem m_app : MtD X "list" rAppend appD := fun d ds x vs M H Qd Q dx dvs R h c => by
  unfold appD at h
  split at h
  · rename_i e
    obtain ⟨a, xs, rfl, ea, hl, q⟩ := h
    cases dx
    obtain ⟨ws, hu, hs⟩ := R.lst ea
    obtain ⟨v, rfl, dv⟩ := dvs.one
    exact ⟨_, ws, v, rfl, rfl, hu, by rw [← hs.length]; exact hl, c _ _ _ _ .non (R.write ea (.lst (hs.append (.mk1 dv)))) (.write R ea _ _) q⟩
  · exact h.elim
theorem m_ext : MtD X "list" rExtend extD := fun d ds x vs M H Qd Q dx dvs R h c => by
  unfold extD at h
  split at h
  · obtain ⟨a, xs, zs, rfl, ea, eb, hl, q⟩ := h
    cases dx
    obtain ⟨ws, hu, hs⟩ := R.lst ea
    obtain ⟨us, hu2, hs2⟩ := R.lst eb
    obtain ⟨v, rfl, dv⟩ := dvs.one
    cases dv
    exact ⟨_, _, ws, us, rfl, rfl, hu, hu2, by rw [← hs.length, ← hs2.length]; exact hl, c _ _ _ _ .non (R.write ea (.lst (hs.append hs2))) (.write R ea _ _) q⟩
  · exact h.elim
theorem m_pop : MtD X "list" rPop popD := fun d ds x vs M H Qd Q dx dvs R h c => by
  unfold popD at h
  split at h
  · obtain ⟨a, xs, y, rfl, ea, q⟩ := h
    cases dx
    cases dvs
    obtain ⟨ws, hu, hs⟩ := R.lst ea
    have e1 : (xs ++ [y])[(xs ++ [y]).length - 1]? = some y := by simp
    obtain ⟨v, hv, dv⟩ := hs.get e1
    rw [hs.length] at hv
    have hd := hs.dropLast
    rw [List.dropLast_concat] at hd
    exact ⟨_, ws, v, rfl, rfl, hu, hv, c _ _ _ _ (dv.mono ((Keep.write R ea (.lst xs) (.lst ws.dropLast)).tups R)) (R.write ea (.lst hd)) (.write R ea _ _) q⟩
  · exact h.elim
def rIns : V → List V → Hp → VK → Prop := fun x vs H Q => ∃ (l : Addr) (xs : List V) (i : Int) (y : V), x = .ref l ∧ vs = [.int i, y] ∧ H l = some (.lst xs) ∧ xs.length < sizeLine ∧ 0 ≤ i ∧ i < 2 ^ 63 ∧
    Q .non (upd H l (.lst (xs.take i.toNat ++ [y] ++ xs.drop i.toNat)))
theorem m_ins : MtD X "list" rIns insD := fun d ds x vs M H Qd Q dx dvs R h c => by
  unfold insD at h
  split at h
  · obtain ⟨a, xs, rfl, ea, hl, h0, h1, q⟩ := h
    cases dx
    obtain ⟨ws, hu, hs⟩ := R.lst ea
    obtain ⟨v, w, rfl, dv, dw⟩ := dvs.two
    cases dv
    exact ⟨_, ws, _, w, rfl, rfl, hu, by rw [← hs.length]; exact hl, h0, h1, c _ _ _ _ .non (R.write ea (.lst (((hs.take _).append (.mk1 dw)).append (hs.drop _)))) (.write R ea _ _) q⟩
  · exact h.elim
variable {o e : Expr} {es : List Expr} {to : TED} {t : TAD} {apos cpos : Pos}

/-! ### methods of tuples -/
/-- o.m(..), o a tuple of the text's own making -/
def tTM (r : V → List V → Hp → VK → Prop) (to : TE) (t : TA) : TE := fun σ H Q => to σ H fun x H1 => (∃ a ob xs, x = .ref a ∧ H1 a = some (.frz ob (.tup xs)) ∧ ob.dict = none) ∧ t σ H1 fun xs H2 => r x xs H2 Q
theorem pe_tm {name : Str} {id : String} {r : V → List V → Hp → VK → Prop} {to : TE} {t : TA} (slot : Slot "tuple" name id) (hty : typeOf (.builtin id) = pure (.type "method_descriptor")) (hm : MtR X id r) (ho : PE X o to) (ha : PA X (e :: es) t)
    (hbase : attributeBase o name X.env (eval o X.env) = eval o X.env := by rfl)
    (hfew : ((backTo cpos (starEach (e :: es) X.env)).all (fun x => !x.1) && (backToKw cpos (keywordEach [] X.env)).all (fun x => x.1.isSome) && decide ((e :: es).length + ([] : List Keyword).length + (if ([] : List Keyword).isEmpty then 0 else 1) < 30)) = true := by rfl)
    (hline : (apos.endLine == cpos.line) = true := by rfl) (hs : starEach (e :: es) X.env = (false, eval e X.env) :: starEach es X.env := by rfl) (hplain : (backTo cpos (starEach es X.env)).any (·.1) = false := by rfl) :
    PE X (.Call (.Attribute o name apos) (e :: es) [] cpos) (tTM r to t) := by
  constructor
  intro pins s σ H Q I h
  refine wpAny_Call_method_late hbase hfew hline rfl (thn (ho.run pins s σ H _ I h) ?_)
  rintro v s1 ⟨x, H1, I1, r1, ⟨a, ob, ys, rfl, hat, hn⟩, q1⟩
  obtain rfl : v = Value.ref a := r1
  have there : s1.heap.get? a = some ob := (show ObjOk X.prog X.w H1 s1.heap a (.frz ob (.tup ys)) from I1.hok a _ hat).1
  obtain ⟨_, _, _, ⟨ob', g1, g2, _⟩⟩ := (show ObjOk X.prog X.w H1 s1.heap a (.frz ob (.tup ys)) from I1.hok a _ hat).2
  rw [there] at g1
  obtain rfl := Option.some.inj g1
  refine ⟨"tuple", id, F.plainAttrs_tuple, slot, hty, ⟨ob, there, g2⟩, fun b q => ?_, ?_⟩
  · cases q; exact ⟨ob, there, hn⟩
  have hA := ha.run cpos pins s1 σ H1 _ I1 q1
  rw [hs] at hA ⊢
  refine Calls.callWith_builtin (by show (false || (backTo cpos (starEach es X.env)).any (·.1)) = false; rw [hplain] <;> rfl) (Calls.evalArgs_plain (thn hA ?_))
  rintro us s2 ⟨vs, H2, I2, r2, q2⟩
  exact hm pins s2 σ H2 (.ref a) vs _ us Q I2 rfl r2 q2
def rTIdx (X : Cx) : V → List V → Hp → VK → Prop := fun x xs H Q => ∃ p vs y ks k, x = .ref p ∧ xs = [y] ∧ SqT X.K H p vs ∧ DVs X.B H (nkDs ks) vs ∧ DV X.B H (nkD k) y ∧ k.depth ≤ 40 ∧ k ∈ ks ∧ Q (.int (ks.idxOf k : Nat)) H
theorem mt_tidx (hu : X.A.units + 64 < cLine) : MtR X "tuple.index" (rTIdx X) := by
  intro pins s σ H x xs v us Q I rx rs h
  obtain ⟨p, vs, y, ks, k, rfl, rfl, hq, hds, hd, hk, hm, q⟩ := h
  obtain rfl : v = Value.ref p := rx
  obtain ⟨u, rfl, ru⟩ := rs.one
  obtain ⟨its, rv, pl, hz⟩ := I.tuple hq
  exact SeqAt.call_tuple_index (show s.heap.IsTuple p its.toArray from pl) (SeqAt.ItemsEq.nested (A := X.A.in1) (dv_nesteds I ks vs its hds rv) (dv_nested I k y u hd ru) (by show X.A.units + 1 + k.depth < cLine; omega)) hm ⟨.int _, H, I.tok _, ⟨_, rfl⟩, q⟩
def rTCnt (K : PySem.W.Frag) : V → List V → Hp → VK → Prop := fun x xs H Q => ∃ p vs y ps d, x = .ref p ∧ xs = [y] ∧ SqT K H p vs ∧ DpAll K H vs ps ∧ Dp K H y d ∧ PyData.plainAll ps = true ∧ Flat d ∧ Q (.int ((ps.countP fun z => PyData.eqv z d : Nat) : Int)) H
theorem mt_tcnt (hu : X.A.units + 64 < cLine) : MtR X "tuple.count" (rTCnt X.K) := by
  intro pins s σ H x xs v us Q I rx rs h
  obtain ⟨p, vs, y, ps, d, rfl, rfl, hq, hds, hd, hpl, hf, q⟩ := h
  obtain rfl : v = Value.ref p := rx
  obtain ⟨u, rfl, ru⟩ := rs.one
  obtain ⟨its, rv, pl, hz⟩ := I.tuple hq
  obtain ⟨as, r1⟩ := Dp.readsAll I ps vs its hds rv
  obtain ⟨bs, r2⟩ := Dp.reads I d y u hd ru
  exact SeqAt.count_tuple_data (show s.heap.IsTuple p its.toArray from pl) (by simpa using r1) r2 hpl hf.1 (by have := hf.2; omega) ⟨.int _, H, I.tok _, ⟨_, rfl⟩, q⟩
/-- t.index(x): x stands in t -/
def tidxD : RMD := fun d ds M Q => match ds with
  | [e] => ∃ xs ks k, d = .tup xs ∧ keyNs xs = some ks ∧ keyN e = some k ∧ k.depth ≤ 40 ∧ k ∈ ks ∧ Q (.int (ks.idxOf k : Nat)) M
  | _ => False
def tcntD : RMD := fun d ds M Q => match ds with
  | [e] => ∃ xs ps p, d = .tup xs ∧ PyOfs M 20 xs ps ∧ PyOf M 20 e p ∧ Q (.int ((ps.countP fun z => PyData.eqv z p : Nat) : Int)) M
  | _ => False
def isTup : D → DM → Prop := fun d _ => ∃ xs, d = .tup xs
theorem m_tidx : MtD X "tuple" (rTIdx X) tidxD := fun d ds x vs M H Qd Q dx dvs R h c => by
  unfold tidxD at h
  split at h
  · obtain ⟨xs, ks, k, rfl, h1, h2, h3, h4, q⟩ := h
    obtain ⟨v, rfl, dv⟩ := dvs.one
    cases dx with
    | tup s1 n hs =>
      rw [keyN_eq h2] at dv
      exact ⟨_, _, v, ks, k, rfl, rfl, sqF .refl s1, by rw [← keyNs_eq h1]; exact hs, dv, h3, h4, c.now R .int q⟩
  · exact h.elim
theorem m_tcnt : MtD X "tuple" (rTCnt X.K) tcntD := fun d ds x vs M H Qd Q dx dvs R h c => by
  unfold tcntD at h
  split at h
  · obtain ⟨xs, ps, p, rfl, h1, h2, q⟩ := h
    obtain ⟨v, rfl, dv⟩ := dvs.one
    cases dx with
    | tup s1 n hs => exact ⟨_, _, v, ps, p, rfl, rfl, sqF .refl s1, PyOfs.dp R h1 hs, h2.dp R dv, h1.shape.1, h2.flat, c.now R .int q⟩
  · exact h.elim
theorem de_tm {e' : Expr} {r : V → List V → Hp → VK → Prop} {rd : RMD} (h : PE X e' (tTM r (lE X.B W to) (lA X.B W t))) (hr : MtD X "tuple" r rd) : PE X e' (lE X.B W (dBM isTup rd to t)) :=
  PE.imp h fun σ H Q ⟨σd, M, Qd, E, S, R, t, c, cx⟩ => ⟨σd, M, _, E, S, R, t, fun d v M1 H1 dv R1 k1 ⟨⟨xs, hd⟩, q1⟩ => ⟨by
    subst hd
    cases dv with | tup s1 n hs => exact ⟨_, _, _, rfl, s1, n⟩, σd, M1, _, E, S.mono (k1.tups R), R1, q1, fun ds vs M2 H2 dvs R2 k2 q2 =>
    hr d ds v vs M2 H2 Qd Q (dv.mono (k2.tups R1)) dvs R2 q2 (c.after (k1.trans k2)), cx.after k1⟩, cx⟩

/-! ### repr -/
def rReprP (K : PySem.W.Frag) : List V → Hp → VK → Prop := fun xs H Q => ∃ x p, xs = [x] ∧ Dp K H x p ∧ p.plain = true ∧ p.depth ≤ 40 ∧ p.showable = true ∧ p.shown.length ≤ sizeLine ∧ Q (.str p.shown) H
mutual
theorem plain_noDict : ∀ {d : PyData}, d.plain = true → d.hasDict = false
  | .none, _ => rfl
  | .bool _, _ => rfl
  | .int _, _ => rfl
  | .str _, _ => rfl
  | .list xs, h => by simp only [PyData.plain] at h; simp only [PyData.hasDict]; exact plain_noDicts h
  | .tuple xs, h => by simp only [PyData.plain] at h; simp only [PyData.hasDict]; exact plain_noDicts h
  | .dict _, h => by simp [PyData.plain] at h
theorem plain_noDicts : ∀ {ds : List PyData}, PyData.plainAll ds = true → PyData.hasDictAll ds = false
  | [], _ => rfl
  | d :: ds, h => by
    simp only [PyData.plainAll, Bool.and_eq_true] at h
    simp only [PyData.hasDictAll, plain_noDict h.1, plain_noDicts h.2, Bool.or_false]
end
theorem call_reprP (st : Still X.A) (hu : X.A.units + 64 < cLine) : CallR X (.builtin "repr") (rReprP X.K) := by
  intro pins s σ H xs us Q I r h
  obtain ⟨x, p, rfl, hd, hpl, hdp, hs, hz, q⟩ := h
  obtain ⟨u, rfl, ru⟩ := r.one
  obtain ⟨as, rd⟩ := Dp.reads I p x u hd ru
  cases rd with
  | none => exact repr_of_none ⟨.str _, H, I.tok _, ⟨_, rfl⟩, q⟩
  | bool b => exact repr_of_bool ⟨.str _, H, I.tok _, ⟨_, rfl⟩, q⟩
  | int i t => exact repr_of_int (by simpa [PyData.showable] using hs) ⟨.str _, H, I.tok _, ⟨_, rfl⟩, q⟩
  | str y t => exact repr_of_str ⟨.str _, H, I.tok _, ⟨_, rfl⟩, q⟩ (by simpa only [PyData.shown] using hz)
  | list h1 h2 h3 h4 => exact repr_of_reads' (h₀ := s.heap) (.list h1 h2 h3 h4) hs (PyData.noDict_hsm (plain_noDict hpl)) st (by omega) (fun _ _ e => e) (fun h' u tk hk => ⟨.str _, H, I.kept (t' := tk) hk, ⟨_, rfl⟩, q⟩) hz
  | tuple h1 h2 h3 h4 => exact repr_of_reads' (h₀ := s.heap) (.tuple h1 h2 h3 h4) hs (PyData.noDict_hsm (plain_noDict hpl)) st (by omega) (fun _ _ e => e) (fun h' u tk hk => ⟨.str _, H, I.kept (t' := tk) hk, ⟨_, rfl⟩, q⟩) hz
  | dict => simp [PyData.plain] at hpl
def reprD : RLD := fun ds M Q => match ds with
  | [d] => ∃ p, PyOf M 20 d p ∧ p.showable = true ∧ p.shown.length ≤ sizeLine ∧ Q (.str p.shown) M
  | _ => False
theorem c_repr : CaD X (rReprP X.K) reprD := fun ds vs M H Qd Q dvs R h c => by
  unfold reprD at h
  split at h
  · obtain ⟨p, hp, h1, h2, q⟩ := h
    obtain ⟨v, rfl, dv⟩ := dvs.one
    exact ⟨v, p, rfl, hp.dp R dv, hp.flat.1, hp.flat.2, h1, h2, c.now R .str q⟩
  · exact h.elim

/-! ### isinstance -/
def typO : Option DO → Option String
  | some (.lst _) => some "list"
  | some (.dK _) => some "dict"
  | _ => none
def typD (d : D) (M : DM) : Option String := match d with
  | .non => some "NoneType"
  | .bl _ => some "bool"
  | .int _ => some "int"
  | .str _ => some "str"
  | .tup _ => some "tuple"
  | .pair _ => some "tuple"
  | .scr _ => none
  | .ref a => typO (M a)
theorem typD_ok {K : Bd} {d : D} {x : V} {M : DM} {H : Hp} {T : String} (R : Rel K M H) (dx : DV K H d x) (h : typD d M = some T) : TyX K H x (.type T) := by
  cases dx with
  | non => cases h; exact .base .non
  | bl => cases h; exact .base (.bl _)
  | int => cases h; exact .base (.int _)
  | str => cases h; exact .base (.str _)
  | tup s n hs => cases h; exact .fTuple s
  | pair s hs => cases h; exact .base (.tup s)
  | scr _ _ => cases h
  | ref =>
    rename_i a
    have h' : typO (M a) = some T := h
    cases e : M a with
    | none => rw [e] at h'; cases h'
    | some o =>
      rw [e] at h'
      obtain ⟨u, hu, r⟩ := R _ _ e
      cases r with
      | lst _ => cases h'; exact .base (.lst hu)
      | dK _ _ => cases h'; exact .base (.dK hu)
      | dT _ => cases h'
      | ins _ _ => cases h'
/-- isinstance(e, T), T a built-in class -/
def dIsi (ans : String → Option Bool) (te : TED) : TED := fun σ M Q E => te σ M (fun d M1 => ∃ U b, typD d M1 = some U ∧ ans U = some b ∧ Q (.bl b) M1) E
theorem de_isi {te : TED} {T x : Str} {T' : String} {e : Expr} {p p2 pos : Pos} {ans : String → Option Bool} (hk : ∀ U b, ans U = some b → PySem.W.kitOne X.K (.type U) (.type T') = some b) (hg : Gl X "isinstance") (hm : X.mg "isinstance" = none) (hg2 : Gl X x) (hm2 : X.mg x = none) (hv : bootBuiltins x = some (.type T')) (he : PE X e (lE X.B W te))
    (h : PA X [e, .Name x p2] (tCons (lE X.B W te) (tCons (tC (.ty T')) tNil)) → PE X (.Call (.Name "isinstance" p) [e, .Name x p2] [] pos) (tCB (rIsi X.K) (tCons (lE X.B W te) (tCons (tC (.ty T')) tNil))))
    (hpa : PE X e (lE X.B W te) → PE X (.Name x p2) (tC (.ty T')) → PA X [e, .Name x p2] (tCons (lE X.B W te) (tCons (tC (.ty T')) tNil))) (hn : x ≠ "__name__" := by decide) (hd : (x == ("__debug__" : Str)) = false := by decide) :
    PE X (.Call (.Name "isinstance" p) [e, .Name x p2] [] pos) (lE X.B W (dIsi ans te)) :=
  PE.imp (h (hpa he (pe_bltn hg2 hm2 hv rfl hn hd))) fun σ H Q ⟨σd, M, Qd, E, S, R, t, c, cx⟩ => ⟨σd, M, _, E, S, R, t, fun d v M1 H1 dv R1 k1 ⟨U, b, h1, h2, q1⟩ =>
    ⟨v, .ty T', .type U, .type T', b, rfl, .ty T', typD_ok R1 dv h1, hk U b h2, c _ _ M1 H1 .bl R1 k1 q1⟩, cx⟩

/-! ### dict(d), list(d) -/
def dicD : RLD := fun ds M Q => match ds with
  | [.ref a] => ∃ kvs, M a = some (.dK kvs) ∧ ∀ p, M p = none → Q (.ref p) (put M p (.dK kvs))
  | _ => False
theorem c_dic : CaD X (fun xs H Q => ∃ (a : Addr) (kvs : List (Key × V)), xs = [.ref a] ∧ Rd H a (.dK kvs) ∧ ∀ p, H p = none → Q (.ref p) (upd H p (.dK kvs))) dicD := fun ds vs M H Qd Q dvs R h c => by
  unfold dicD at h
  split at h
  · obtain ⟨kvs, ea, q⟩ := h
    obtain ⟨v, rfl, dv⟩ := dvs.one
    cases dv
    obtain ⟨kws, hu, pr⟩ := R.dK ea
    exact ⟨_, kws, rfl, .of hu, fun p hp => c _ _ _ _ .ref (R.new hp (.ofK pr)) (.new R hp _ _) (q p (R.free hp))⟩
  · exact h.elim

/-! ### items of lists, stored -/
theorem get_list : PGet X (rIxL X.K) := by
  intro pins s σ H x y v u Q I rx ry h
  obtain ⟨p, xs, i, z, rfl, rfl, hq, he, q⟩ := h
  obtain rfl : v = Value.ref p := rx
  obtain ⟨t, rfl⟩ := ry
  obtain ⟨its, r, pl, hz⟩ := I.list hq
  obtain ⟨j, h1, h2, h3, h4, h5⟩ := atI_get he
  obtain ⟨w, ew, rw'⟩ := r.get h2
  have hl := r.length
  have hn := line63
  rcases Int.lt_or_le i 0 with h0 | h0
  · have hj : (i + (its.toArray.size : Int)).toNat = j := by
      rw [seqIndex_neg h0 h4] at h1
      rw [List.size_toArray, ← hl]
      exact Option.some.inj h1
    exact wpAny_getItem_list_neg pl.isList h0 (by rw [List.size_toArray] <;> omega) (by omega) (by rw [hj]; simpa using ew) ⟨z, H, I, rw', q⟩
  · have hj : i.toNat = j := by
      rw [seqIndex_of h0 h5] at h1
      exact Option.some.inj h1
    exact wpAny_getItem_list pl.isList h0 (by omega) (by rw [hj]; simpa using ew) ⟨z, H, I, rw', q⟩
theorem op_pip {op : Operator} {r : R2} (h : OpR X (inplaceOp op) r) : PIp X op r := fun pins s σ H x y v u Q I rx ry hq => h pins s σ H x y v u Q I rx ry hq
/-- the list behind xs[i] = v -/
def setLD (M : DM) (o i v : D) (N : DM → Prop) : Prop := match o, i with
  | .ref a, .int k => ∃ xs j, M a = some (.lst xs) ∧ ixN xs.length k = some j ∧ N (put M a (.lst (xs.set j v)))
  | _, _ => False
theorem setLD_ok {M : DM} {H : Hp} {o i v : D} {x y z : V} {N : DM → Prop} {NH : Hp → Prop} (R : Rel X.B M H) (dx : DV X.B H o x) (dy : DV X.B H i y) (dz : DV X.B H v z) (h : setLD M o i v N) (n : ∀ M' H', Rel X.B M' H' → Keep M H M' H' → N M' → NH H') : rSetL x y z H NH := by
  unfold setLD at h
  split at h
  · obtain ⟨xs, j, ea, hj, q⟩ := h
    cases dx
    cases dy
    obtain ⟨ws, hu, hs⟩ := R.lst ea
    exact ⟨_, ws, _, j, rfl, rfl, hu, by rw [← hs.length]; exact hj, n _ _ (R.write ea (.lst (hs.set dz j))) (.write R ea _ _) q⟩
  · exact h.elim
/-- xs[i] = .., as a target -/
def gIx (to ti : TED) : TGD := fun v σ M Q E => to σ M (fun o M1 => ti σ M1 (fun i M2 => setLD M2 o i v (fun M3 => Q σ M3)) E) E
theorem dg_ix {o i : Expr} {to ti : TED} {vs : List Nat} {pos : Pos} (ho : PE X o (lE X.B w0 to)) (hi : PE X i (lE X.B w0 ti))
    (h : PE X o (lE X.B w0 to) → PE X i (lE X.B w0 ti) → PG X (.Subscript o i pos) (gSub (lE X.B w0 to) (lE X.B w0 ti) rSetL)) : PG X (.Subscript o i pos) (lG X.B w0 vs (gIx to ti)) :=
  PG.imp (h ho hi) fun v σ H Q ⟨d, σd, M, Qd, E, dv, S, R, t, c, cx⟩ => ⟨σd, M, _, E, S, R, t, fun d1 x M1 H1 dx R1 k1 q1 => ⟨σd, M1, _, E, S.mono (k1.tups R), R1, q1, fun d2 y M2 H2 dy R2 k2 q2 =>
    setLD_ok R2 (dx.mono (k2.tups R1)) dy (dv.mono ((k1.trans k2).tups R)) q2 fun M3 H3 R3 k3 q3 => c σd σ M3 H3 Off.refl (S.mono (((k1.trans k2).trans k3).tups R)) R3 ((k1.trans k2).trans k3) q3, cx.after k1⟩, cx⟩
theorem ixL_ok {M : DM} {H : Hp} {o i : D} {x y : V} {Qd : DQ} {Q : VK} (R : Rel X.B M H) (dx : DV X.B H o x) (dy : DV X.B H i y) (lst : ∃ a xs, o = .ref a ∧ M a = some (.lst xs)) (h : ixD o i M Qd) (c : CnE X.B M H Qd Q) : rIxL X.K x y H Q := by
  obtain ⟨a, xs, rfl, e⟩ := lst
  unfold ixD at h
  split at h
  · obtain ⟨ys, v, ea, hv, q⟩ := h
    rw [e] at ea; cases ea
    cases dx
    cases dy
    obtain ⟨ws, hu, hs⟩ := R.lst e
    obtain ⟨w, hw, r⟩ := hs.atI hv
    exact ⟨_, _, _, w, rfl, rfl, .of hu, hw, c.now R r q⟩
  · exact h.elim
theorem setLD_lst {M : DM} {o i v : D} {N : DM → Prop} (h : setLD M o i v N) : ∃ a xs, o = .ref a ∧ M a = some (.lst xs) := by
  unfold setLD at h
  split at h
  · obtain ⟨xs, j, ea, _⟩ := h; exact ⟨_, xs, rfl, ea⟩
  · exact h.elim
/-- xs[i] op= e -/
def dIxAug (rd : R2D) (to ti te : TED) : TSD := fun D σ M => to σ M (fun o M1 => ti σ M1 (fun i M2 => (∃ a xs, o = .ref a ∧ M2 a = some (.lst xs)) ∧ ixD o i M2 (fun x M3 => te σ M3 (fun y M4 => rd x y M4 (fun z M5 => setLD M5 o i z (fun M6 => D.nx σ M6))) (D.ex σ))) (D.ex σ)) (D.ex σ)
theorem ds_ixaug {o i e : Expr} {to ti te : TED} {op : Operator} {r : R2} {rd : R2D} {pos tpos : Pos} (hr : OpD X r rd) (ho : PE X o (lE X.B W to)) (hi : PE X i (lE X.B W ti)) (he : PE X e (lE X.B W te)) (hp : PIp X op r)
    (h : PE X o (lE X.B W to) → PE X i (lE X.B W ti) → PE X e (lE X.B W te) → PIp X op r → PS X (.AugAssign (.Subscript o i tpos) op e pos) (tAugS (lE X.B W to) (lE X.B W ti) (lE X.B W te) (rIxL X.K) r rSetL)) : PS X (.AugAssign (.Subscript o i tpos) op e pos) (lS X.B W (dIxAug rd to ti te)) :=
  PS.imp (h ho hi he hp) fun D σ H ⟨σd, M, Dd, S, R, t, c⟩ => ⟨σd, M, _, _, S, R, t, fun d1 x M1 H1 dx R1 k1 q1 => ⟨σd, M1, _, _, S.mono (k1.tups R), R1, q1, fun d2 y M2 H2 dy R2 k2 ⟨lst, q2⟩ =>
    ixL_ok R2 (dx.mono (k2.tups R1)) dy lst q2 fun d3 z M3 H3 dz R3 k3 q3 => by
      have k13 := (k1.trans k2).trans k3
      refine ⟨σd, M3, _, _, S.mono (k13.tups R), R3, q3, fun d4 u M4 H4 du R4 k4 q4 => hr d3 d4 z u M4 H4 _ _ (dz.mono (k4.tups R3)) du R4 q4 fun d5 v M5 H5 dv R5 k5 q5 => ?_, (c.cx S R).after k13⟩
      have k25 := ((k2.trans k3).trans k4).trans k5
      exact setLD_ok R5 (dx.mono (k25.tups R1)) (dy.mono (((k3.trans k4).trans k5).tups R2)) dv q5 fun M6 H6 R6 k6 q6 => c.nx σd σ M6 H6 (S.mono (((k13.trans k4).trans k5).trans k6 |>.tups R)) R6 (((k13.trans k4).trans k5).trans k6) q6, (c.cx S R).after k1⟩, c.cx S R⟩

/-! ### attributes as targets -/
def gFd (K : Bd) (f : Str) (to : TED) : TGD := fun v σ M Q E => to σ M (fun d M1 => ∃ a C fs, d = .ref a ∧ M1 a = some (.ins C fs) ∧ Cls K C ∧ NoAttr K C f ∧ fs.length < 1000 ∧ Q σ (put M1 a (.ins C (putFD f v fs)))) E
def gFld (K : PySem.W.Frag) (f : Str) (to : TE) : L2.TG := fun v σ H Q => to σ H fun x H1 => ∃ a C dx fs, x = .ref a ∧ H1 a = some (.ins C dx fs) ∧ Cls K C ∧ NoAttr K C f ∧ fs.length < 1000 ∧ Q σ (upd H1 a (.ins C dx (putF f v fs)))
theorem pg_fld {o : Expr} {f : Str} {to : TE} {pos : Pos} (ho : PE X o to) : PG X (.Attribute o f pos) (gFld X.K f to) := by
  constructor
  intro pins s σ H v u Q I r h
  rw [assign_Attribute]
  refine wpAny_bind (wpAny_holding (thn (ho.run pins s σ H _ I h) ?_))
  rintro ov s1 ⟨x, H1, I1, rx, a, C, dx, fs, rfl, ea, cl, na, hl, q⟩
  obtain rfl : ov = Value.ref a := rx
  refine wpAny_bind (wpAny_standAt (wpAny_bind (wpAny_holding (setattr_ok I1 ea cl na hl r fun s2 I2 => ?_))))
  exact wpAny_release ⟨σ, _, I2, q⟩
theorem dg_fld {o : Expr} {f : Str} {to : TED} {vs : List Nat} {pos : Pos} (ho : PE X o (lE X.B w0 to)) : PG X (.Attribute o f pos) (lG X.B w0 vs (gFd X.B f to)) :=
  PG.imp (pg_fld ho) fun v σ H Q ⟨d, σd, M, Qd, E, dv, S, R, t, c, cx⟩ => ⟨σd, M, _, E, S, R, t, fun d1 x M1 H1 dx R1 k1 ⟨a, C, fs, hd, e, cl, na, hl, q⟩ => by
    subst hd; cases dx
    obtain ⟨dx, gs, hu, pr⟩ := R1.ins e
    have kk := k1.trans (Keep.write R1 e (.ins C (putFD f d fs)) (.ins C dx (putF f v gs)))
    exact ⟨a, C, dx, gs, rfl, hu, cl, na, by rw [← pr.length]; exact hl, c σd σ _ _ .refl (S.mono (kk.tups R)) (R1.write e (.ofI (pr.putF f (dv.mono (k1.tups R))))) kk q⟩, cx⟩
end
end Dt

set_option Elab.async false
set_option autoImplicit false
set_option linter.all false
set_option maxRecDepth 100000
set_option maxHeartbeats 4000000
/-! DN: a dict of one written pair with a tuple for a key; three names stored at once. -/
namespace Dt
open PySem PySem.Spec PyProof.Rows L2 LamX RZ PySem.P

section
variable {X : Cx}
/-- {k: v}, k a tuple -/
def tOneT (X : Cx) (tk tv : TE) : TE := fun σ H Q => ∀ p, H p = none → tk σ (upd H p (tdO X.prog X.w p [])) fun x H1 => tv σ H1 fun y H2 => ∃ b k, x = .ref b ∧ DV X.B H2 (nkD k) (.ref b) ∧ k.depth ≤ 8 ∧ H2 p = some (tdO X.prog X.w p []) ∧ ∀ r, RelV y r → Q (.ref p) (upd H2 p (tdO X.prog X.w p [(k, b, r)]))
theorem pe_oneT {k v : Expr} {pos : Pos} {tk tv : TE} (hu : X.A.units + 64 < cLine) (hk : PE X k tk) (hv : PE X v tv) : PE X (.Dict [some k] [v] pos) (tOneT X tk tv) := by
  constructor
  intro pins s σ H Q I h
  have hn := I.hok.fresh (Nat.le_refl s.heap.objs.size)
  have big : (s.heap.objs.size == sysModules) = false := beq_eq_false_iff_ne.mpr (Ne.symm (Nat.ne_of_lt I.big))
  have I1 := I.laid (a := s.heap.objs.size) (o := tdO X.prog X.w s.heap.objs.size []) (h' := s.heap.push { cls := .type "dict", data := .dict #[] }) (t' := s.toks) (fun _ _ q => Heap.get?_push_of_some _ q) (Nat.le_refl _)
    (td_ok (Nat.zero_le _) big ⟨_, #[], 0, Heap.get?_push_size _ rfl, ⟨rfl, rfl, rfl⟩, rfl, rfl, (fun x hx => nomatch hx), List.nodup_nil⟩)
  have hz := zip_pairTrees [some k] [v] X.env pos rfl rfl
  rw [arm_eval_Dict, hz, dictDisplay_pairs _ (by intro z; exact nomatch z) (by show 1 < 17; decide)]
  refine wpAny_bind (wpAny_standAt (wpAny_bind ?_))
  refine wpAny_subDictH (knd := nestedKind X.prog X.w) (Q := fun d s' => wpAny (model X.prog X.w) X.A (pure (Value.ref d)) (EP X pins σ Q) X.xe s') (by show X.A.units + 8 < cLine; omega) (by show 1 ≤ 15; decide) ?_
  refine pairTrees_cons_walk (thn (hk.run pins _ σ _ _ I1 (h _ hn)) ?_)
  rintro kv s2 ⟨x, H1, I2, rx, q1⟩
  refine thn (hv.run pins s2 σ H1 _ I2 q1) ?_
  rintro vv s3 ⟨y, H2, I3, ry, b, key, rfl, hb, hd, hp, q2⟩
  refine pairTrees_nil_walk ?_
  obtain rfl : kv = Value.ref b := rx
  obtain ⟨_, _, dd⟩ := td_dict I3 hp (fun x hx => nomatch hx)
  refine ⟨[(key, b, vv)], ⟨rfl, rfl, ⟨dv_nested I3 key _ _ hb rfl, hd⟩, True.intro⟩, dd, fun h' tk dd' hs => wpAny_pure ⟨.ref s.heap.objs.size, _, ?_, rfl, q2 vv ry⟩⟩
  have he : ∃ q, h'.get? s.heap.objs.size = some q := let ⟨q, _, _, hq, _⟩ := dd'; ⟨q, hq⟩
  exact d_write I3 (by rw [hp]; exact True.intro) hs he (td_ok (by show 1 ≤ sizeLine; decide) big dd')
variable {W : WX}
def dOneT (tk tv : TED) : TED := fun σ M Q E => tk σ M (fun d M1 => tv σ M1 (fun e M2 => ∃ ds k, d = .tup ds ∧ keyN (.tup ds) = some k ∧ k.depth ≤ 8 ∧ ∀ p, M2 p = none → Q (.ref p) (put M2 p (.dT [(k, e)]))) E) E
theorem td_ne {P : Program} {w : World} {p : Addr} {xs : List (NestedKey × Addr × Value)} : (∀ ys, tdO P w p xs ≠ .tup ys) ∧ (∀ o ys, tdO P w p xs ≠ .frz o ys) ∧ ((∀ ps, tdO P w p xs ≠ .tbl ps) ∧ ∀ q, CodeO p q ≠ tdO P w p xs) := ⟨(fun _ z => nomatch z), (fun _ _ z => nomatch z), ⟨(fun _ z => nomatch z), fun q => code_ne_td⟩⟩
theorem de_oneT {k v : Expr} {pos : Pos} {tk tv : TED} (hu : X.A.units + 64 < cLine) (hk : PE X k (lE X.B W tk)) (hv : PE X v (lE X.B W tv)) : PE X (.Dict [some k] [v] pos) (lE X.B W (dOneT tk tv)) :=
  PE.imp (pe_oneT hu hk hv) fun σ H Q ⟨σd, M, Qd, E, S, R, t, c, cx⟩ p hp => by
    have R0 := R.hidden hp (tdO X.prog X.w p [])
    have k0 := Keep.hidden R hp (tdO X.prog X.w p [])
    have mp : M p = none := R.free hp
    refine ⟨σd, M, _, E, S.mono (k0.tups R), R0, t, fun d x M1 H1 dx R1 k1 q1 => ⟨σd, M1, _, E, S.mono ((k0.trans k1).tups R), R1, q1, fun e y M2 H2 ey R2 k2 ⟨ds, key, hd, h1, h2, q2⟩ => ?_, (cx.after k0).after k1⟩, cx.after k0⟩
    subst hd
    have k12 := k1.trans k2
    have hP := k12.hid p _ upd_same mp td_ne.2.2.1
    have mP := (k12.out p _ upd_same mp).1
    have dk := dx.mono (k2.tups R1)
    rw [keyN_eq h1] at dk
    cases x with
    | ref b =>
      refine ⟨b, key, rfl, dk, h2, hP, fun r rr => ?_⟩
      have tq := tups_hput hP td_ne.1 td_ne.2.1 (tdO X.prog X.w p [(key, b, r)])
      have kp : KeepP p M H M2 H2 := ⟨fun a u h n t => k12.hid a u (by rw [upd_ne (ne_of_none h hp)]; exact h) n t, fun a u h n => k12.out a u (by rw [upd_ne (ne_of_none h hp)]; exact h) n, fun P q t => k12.tab P q (k0.tab P q t), hp⟩
      have kw : KeepP p M H M2 (upd H2 p (tdO X.prog X.w p [(key, b, r)])) := by
        refine ⟨fun a u h n t => ?_, fun a u h n => ?_, fun P q t => ?_, hp⟩
        · rw [upd_ne (ne_of_none h hp)]; exact kp.hid a u h n t
        · obtain ⟨n1, u1, h1⟩ := kp.out a u h n
          exact ⟨n1, u1, by rw [upd_ne (ne_of_none h hp)]; exact h1⟩
        · refine tabS_of (fun ps h => ?_) (fun c h => ?_) (kp.tab P q t)
          · have : P ≠ p := fun z => by subst z; rw [hP] at h; exact td_ne.2.2.1 ps (Option.some.inj h)
            rw [upd_ne this]; exact h
          · have : c ≠ p := fun z => by subst z; rw [hP] at h; exact td_ne.2.2.2 q (Option.some.inj h).symm
            rw [upd_ne this]; exact h
      have Rn : Rel X.B M2 (upd H2 p (tdO X.prog X.w p [(key, b, r)])) := R2.hput hP mP td_ne.1 td_ne.2.1 _
      exact c _ _ _ _ .ref (Rn.come upd_same (.dT (.cons (dk.mono tq) h2 (ey.mono tq) rr .nil))) (kw.done _) (q2 p mP)
    | _ => rw [← keyN_eq h1] at dk; nomatch dk

/-! ### x, y, z = a, b, c -/
def dPar3 (i j l : Nat) (ta : TAD) : TSD := fun D σ M => ta σ M (fun ds M1 => match ds with
  | [d, e, f] => D.nx (setS (setS (setS σ i d) j e) l f) M1
  | _ => False) (D.ex σ)
def tPar3 (i j l : Nat) (ta : TA) : TS := fun D σ H => ta σ H fun vs H1 => ∃ x y z, vs = [x, y, z] ∧ D.nx (((σ.set i (some x)).set j (some y)).set l (some z)) H1
theorem ps_par3 {i j l : Nat} {x y z : Str} {a b c : Expr} {ta : TA} {px py pz pt : Pos} {kt k2 pt2} {pos : Pos} (hc : X.calm = true) (hN : X.N.Nodup) (hi : X.N[i]? = some x) (hj : X.N[j]? = some y) (hl : X.N[l]? = some z) (hij : i ≠ j) (hil : i ≠ l) (hjl : j ≠ l)
    (hx : X.env.scope.names.lookup x = some .local) (hy : X.env.scope.names.lookup y = some .local) (hz : X.env.scope.names.lookup z = some .local) (ha : PA X [a, b, c] ta)
    (hw : swappedStores [.Tuple [.Name x px, .Name y py, .Name z pz] kt pt] (.Tuple [a, b, c] k2 pt2) X.env = pure (some [x, y, z]))
    (hs : swapsWithSole [.Tuple [.Name x px, .Name y py, .Name z pz] kt pt] (.Tuple [a, b, c] k2 pt2) pos.line X.env = pure false := by rfl) :
    PS X (.Assign [.Tuple [.Name x px, .Name y py, .Name z pz] kt pt] (.Tuple [a, b, c] k2 pt2) pos) (tPar3 i j l ta) := by
  constructor
  intro pins s σ H D I h
  rw [exec_Assign_arm]
  refine wpAny_bind (wpAny_standAt ?_)
  rw [hs]
  refine wpAny_bind (wpAny_pure ?_)
  rw [if_neg (by decide)]
  refine wpAny_bind (Tuple_ (thn (ha.run _ pins s σ H _ I h) ?_))
  rintro us s1 ⟨vs, H1, I1, r1, v1, v2, v3, rfl, q1⟩
  match us, r1 with
  | [u1, u2, u3], .cons ra (.cons rb (.cons rc .nil)) =>
  refine wpAny_newObj_type ?_ (by show 3 ≤ sizeLine; decide)
  have I2 : Inv X pins σ H1 { s1 with heap := s1.heap.push { cls := .type "tuple", data := .seq [u1, u2, u3].toArray } } := I1.kept (t' := s1.toks) fun b o e => Heap.get?_push_of_some _ e
  rw [hw]
  refine wpAny_bind (wpAny_pure ?_)
  show wpAny (model X.prog X.w) X.A (do rule "assign.swapped-stores"; let items ← unpackItems (.ref s1.heap.objs.size) 3 none; assignInOrder [fun v => bindName X.env z v, fun v => bindName X.env y v, fun v => bindName X.env x v] items.reverse; pure Flow.next) _ _ _
  refine wpAny_bind (wpAny_rule (wpAny_bind (unpackItems_tuple (items := #[u1, u2, u3]) (I.ok.hd hc) (IsTup.new s1.heap _) fun h' hx' => ?_)))
  have I3 := I2.kept (h' := h') (t' := s1.toks) fun b o e => hx' b o (Nat.ne_of_lt (Heap.lt_size e)) e
  show wpAny _ _ (assignInOrder [fun v => bindName X.env z v, fun v => bindName X.env y v, fun v => bindName X.env x v] [u3, u2, u1] >>= fun _ => pure Flow.next) _ _ _
  refine wpAny_bind (assignInOrder_cons (wpAny_bindName (store_ok I3 hN hl (.inl hz) rc (fun s2 I4 => ?_) (.inr hz))))
  refine assignInOrder_cons (wpAny_bindName (store_ok I4 hN hj (.inl hy) rb (fun s3 I5 => ?_) (.inr hy)))
  refine assignInOrder_cons (wpAny_bindName (store_ok I5 hN hi (.inl hx) ra (fun s4 I6 => assignInOrder_nil (wpAny_pure ?_)) (.inr hx)))
  have e : (((σ.set l (some v3)).set j (some v2)).set i (some v1)) = (((σ.set i (some v1)).set j (some v2)).set l (some v3)) := by
    rw [List.set_comm _ _ (Ne.symm hjl), List.set_comm _ _ (Ne.symm hil), List.set_comm _ _ (Ne.symm hij)]
  rw [e] at I6
  exact ⟨_, H1, I6, q1⟩
theorem ds_par3 {st : Stmt} {ta : TAD} {i j l : Nat} (h : PS X st (tPar3 i j l (lA X.B W ta))) : PS X st (lS X.B W (dPar3 i j l ta)) := PS.imp h fun D σ H ⟨σd, M, Dd, S, R, t, c⟩ =>
  ⟨σd, M, _, _, S, R, t, fun ds vs M1 H1 dvs R1 k1 q => by
    match ds, vs, dvs, q with
    | [d, e, f], [v, w, z], .cons a (.cons b (.cons g .nil)), q => exact ⟨v, w, z, rfl, c.nx _ _ M1 H1 ((((S.mono (k1.tups R)).set a i).set b j).set g l) R1 k1 q⟩, c.cx S R⟩
end
end Dt

set_option Elab.async false
set_option autoImplicit false
set_option linter.all false
set_option maxRecDepth 100000
set_option maxHeartbeats 4000000
/-! DO: dict comprehensions of two clauses; name = a dict comprehension. -/
namespace Dt
open PySem PySem.Spec PyProof.Rows L2 LamX RZ PySem.P

section
variable {prog : Program} {w : World} {A : Around} {R : Result → Shared → Prop} {s : Shared} {kx vx t0 i0 t1 i1 : Expr} {ifs0 ifs1 : List Expr} {scope : Scope} {pos : Pos} {it : Value} {D : Addr} {env : Env}
abbrev dc2E (kx vx t0 i0 t1 i1 : Expr) (ifs0 ifs1 : List Expr) (scope : Scope) (pos : Pos) : Expr := .DictComp kx vx [⟨t0, i0, ifs0, 0⟩, ⟨t1, i1, ifs1, 0⟩] scope pos
abbrev tests (env : Env) (cs : List Expr) : Sem Bool := forIn cs true fun c r => if r = true then do let ok ← isTrue c env (eval c env); pure (ForInStep.yield ok) else pure (ForInStep.yield r)
theorem turn_out (acc : Value) : compTurn (dc2E kx vx t0 i0 t1 i1 ifs0 ifs1 scope pos) 0 it acc env = (do
    standAt i0.pos
    match ← pyNext it with
    | none => pure (.done .next)
    | some v =>
      letOwnedTupleGo t0 it v
      assign t0 env v
      let mut ok := true
      for c in ifs0 do
        if ok then ok ← isTrue c env (eval c env)
      if ok then
        let x ← eval i1 env
        standAt i1.pos
        let x ← foldedSetIterable i1 env x
        let _ ← runOwn (.compStart (dc2E kx vx t0 i0 t1 i1 ifs0 ifs1 scope pos) 1 (← holding [x] (pyIter x)) acc env) env
      again (.compLoop (dc2E kx vx t0 i0 t1 i1 ifs0 ifs1 scope pos) 0 it acc env)) := by rfl
theorem turn_in : compTurn (dc2E kx vx t0 i0 t1 i1 ifs0 ifs1 scope pos) 1 it (.ref D) env = (do
    standAt i1.pos
    match ← pyNext it with
    | none => pure (.done .next)
    | some v =>
      letOwnedTupleGo t1 it v
      assign t1 env v
      let mut ok := true
      for c in ifs1 do
        if ok then ok ← isTrue c env (eval c env)
      if ok then
        (do
          let kv ← eval kx env
          let vv ← holding [kv] (eval vx env)
          standAt { kx.pos with endLine := vx.pos.endLine, endCol := vx.pos.endCol }
          holding [kv, vv] (dictSet D kv vv))
      again (.compLoop (dc2E kx vx t0 i0 t1 i1 ifs0 ifs1 scope pos) 1 it (.ref D) env)) := by rfl
/-- what raises leaves the loop -/
abbrev out (prog : Program) (w : World) (A : Around) (env : Env) (R : Result → Shared → Prop) : Value → Shared → Prop := notedBy (model prog w) A env fun e s' => R (.error e) s'
theorem loop_out (hs : ∀ x, foldedSetIterable i1 env x = pure x) (acc : Value) (J : Nat → Shared → Prop)
    (turn : ∀ n s, J n s → wpAny (model prog w) A (pyNext it) (fun r s1 => match r with
      | none => R (.ok .next) s1
      | some v => wpAny (model prog w) A (letOwnedTupleGo t0 it v) (fun _ s2 => wpAny (model prog w) A (assign t0 env v) (fun _ s3 => wpAny (model prog w) A (tests env ifs0) (fun ok s4 =>
          if ok = true then wpAny (model prog w) A (eval i1 env) (fun x s5 => wpAny (model prog w) A (pyIter x) (fun it1 s6 =>
            codeAny (model prog w) A (.compStart (dc2E kx vx t0 i0 t1 i1 ifs0 ifs1 scope pos) 1 it1 acc env) (fun r s' => match r with
              | .ok _ => ∃ m, m < n ∧ J m s'
              | .error _ => False) s6) (out prog w A env R) s5) (out prog w A env R) s4
          else ∃ m, m < n ∧ J m s4) (out prog w A env R) s3) (out prog w A env R) s2) (out prog w A env R) s1) (out prog w A env R) s)
    (n : Nat) (h : J n s) : codeAny (model prog w) A (.compLoop (dc2E kx vx t0 i0 t1 i1 ifs0 ifs1 scope pos) 0 it acc env) R s := by
  refine codeAny_loop rfl J ?_ n h
  intro n s hJ
  show wpAny _ A ((compTurn (dc2E kx vx t0 i0 t1 i1 ifs0 ifs1 scope pos) 0 it acc env).onRaise (fun x => do noteFrame x env; theTreesLotGoes x)) _ _ s
  apply wpAny_noted
  rw [turn_out]
  apply wpAny_bind; apply wpAny_standAt; apply wpAny_bind
  refine wpAny_mono (turn n s hJ) ?_ fun _ _ z => z
  rintro (_ | v) s1 h1
  · exact wpAny_pure h1
  apply wpAny_bind
  refine wpAny_mono h1 (fun _ s2 h2 => wpAny_bind (wpAny_mono h2 (fun _ s3 h3 => wpAny_bind (wpAny_mono h3 ?_ fun _ _ z => z)) fun _ _ z => z)) fun _ _ z => z
  rintro (_ | _) s4 h4
  · exact wpAny_pure ⟨rfl, h4⟩
  apply wpAny_bind
  refine wpAny_mono h4 (fun x s5 h5 => wpAny_bind (wpAny_standAt (wpAny_bind (wpAny_of_eq (hs x) (wpAny_bind (wpAny_holding (wpAny_mono h5 ?_ fun _ _ z => z))))))) fun _ _ z => z
  intro it1 s6 h6
  refine wpAny_bind (wpAny_runOwn ?_)
  rw [Around.mark_none]
  refine codeAny_mono h6 ?_
  rintro (e | f) s' hr
  · exact hr.elim
  · first
      | exact wpAny_pure ⟨rfl, hr⟩
      | exact wpAny_bind (wpAny_pure (wpAny_pure ⟨rfl, hr⟩))
theorem loop_in (J : Nat → Shared → Prop)
    (turn : ∀ n s, J n s → wpAny (model prog w) A (pyNext it) (fun r s1 => match r with
      | none => R (.ok .next) s1
      | some v => wpAny (model prog w) A (letOwnedTupleGo t1 it v) (fun _ s2 => wpAny (model prog w) A (assign t1 env v) (fun _ s3 => wpAny (model prog w) A (tests env ifs1) (fun ok s4 =>
          if ok = true then wpAny (model prog w) A (eval kx env) (fun kv s5 => wpAny (model prog w) A (eval vx env) (fun vv s6 =>
            wpAny (model prog w) A (dictSet D kv vv) (fun _ s7 => ∃ m, m < n ∧ J m s7) (out prog w A env R) s6) (out prog w A env R) s5) (out prog w A env R) s4
          else ∃ m, m < n ∧ J m s4) (out prog w A env R) s3) (out prog w A env R) s2) (out prog w A env R) s1) (out prog w A env R) s)
    (n : Nat) (h : J n s) : codeAny (model prog w) A (.compLoop (dc2E kx vx t0 i0 t1 i1 ifs0 ifs1 scope pos) 1 it (.ref D) env) R s := by
  refine codeAny_loop rfl J ?_ n h
  intro n s hJ
  show wpAny _ A ((compTurn (dc2E kx vx t0 i0 t1 i1 ifs0 ifs1 scope pos) 1 it (.ref D) env).onRaise (fun x => do noteFrame x env; theTreesLotGoes x)) _ _ s
  apply wpAny_noted
  rw [turn_in]
  apply wpAny_bind; apply wpAny_standAt; apply wpAny_bind
  refine wpAny_mono (turn n s hJ) ?_ fun _ _ z => z
  rintro (_ | v) s1 h1
  · exact wpAny_pure h1
  apply wpAny_bind
  refine wpAny_mono h1 (fun _ s2 h2 => wpAny_bind (wpAny_mono h2 (fun _ s3 h3 => wpAny_bind (wpAny_mono h3 ?_ fun _ _ z => z)) fun _ _ z => z)) fun _ _ z => z
  rintro (_ | _) s4 h4
  · exact wpAny_pure ⟨rfl, h4⟩
  exact wpAny_bind (wpAny_bind (wpAny_mono h4 (fun kv s5 h5 => wpAny_bind (wpAny_holding (wpAny_mono h5 (fun vv s6 h6 => wpAny_bind (wpAny_standAt (wpAny_holding (wpAny_mono h6 (fun _ s7 h7 => wpAny_pure ⟨rfl, h7⟩) fun _ _ z => z)))) fun _ _ z => z))) fun _ _ z => z))
theorem start_in {acc : Value} (h0 : codeAny (model prog w) A (.compLoop (dc2E kx vx t0 i0 t1 i1 ifs0 ifs1 scope pos) 1 it acc env) R s)
    (h : wpAny (model prog w) A (pyIter it) (fun it' s' => codeAny (model prog w) A (.compLoop (dc2E kx vx t0 i0 t1 i1 ifs0 ifs1 scope pos) 1 it' acc env) R s') (out prog w A env R) s) :
    codeAny (model prog w) A (.compStart (dc2E kx vx t0 i0 t1 i1 ifs0 ifs1 scope pos) 1 it acc env) R s := by
  apply codeAny_of_tree
  show wpAny _ _ ((compStart (dc2E kx vx t0 i0 t1 i1 ifs0 ifs1 scope pos) 1 it acc env).onRaise (fun x => do noteFrame x env; standAt theWindowsPlace)) _ _ s
  apply wpAny_notedAt
  unfold compStart
  show wpAny _ _ (ask >>= _) _ _ s
  refine wpAny_bind (wpAny_askSetting (wpAny_ite ?_))
  split
  · first
      | exact wpAny_bind (wpAny_pure (wpAny_pure (And.intro rfl h0)))
      | exact wpAny_pure (And.intro rfl h0)
  · first
      | exact wpAny_bind (wpAny_rule (wpAny_bind (wpAny_standAt (wpAny_bind (wpAny_mono h (fun _ _ q => wpAny_pure (And.intro rfl q)) fun _ _ z => z)))))
      | (refine wpAny_bind (wpAny_rule ?_); show wpAny _ _ (standAt i1.pos >>= _) _ _ s; exact wpAny_bind (wpAny_standAt (wpAny_bind (wpAny_mono h (fun _ _ q => wpAny_pure (And.intro rfl q)) fun _ _ z => z))))
end
section
variable {X : Cx}
/-- {k: v for tg in iter if .. for tg1 in iter1 if ..} -/
def tDc2 (wi : TI) (g : L2.TG) (tt : TT) (wi1 : TI) (g1 : L2.TG) (tt1 : TT) (tk tv : TE) (vs vs1 : List Nat) : TE := fun σ H Q => wi σ H fun J H1 => ∀ D, H1 D = none → ∃ W : Nat → Nat → Hp → Prop, (∃ m, W 0 m (upd H1 D (.dK []))) ∧ ∀ i m H, W i m H →
  (J.stop i H ∧ Q (.ref D) H) ∨ (J.go i H ∧ ∃ Nx : Hp → Prop, (∀ H', Nx H' → ∃ m', m' < m ∧ W (i + 1) m' H') ∧ ∀ x H', J.yld i H x H' → g x (L2.wipe σ vs) H' fun σ2 H2 => L2.wipe σ2 vs = L2.wipe σ vs ∧ tt σ2 H2 fun b H3 =>
    if b = true then wi1 σ2 H3 fun J1 H4 => ∃ W1 : Nat → Nat → Hp → Prop, (∃ m, W1 0 m H4) ∧ ∀ j k H, W1 j k H →
      (J1.stop j H ∧ Nx H) ∨ (J1.go j H ∧ ∃ Nx1 : Hp → Prop, (∀ H', Nx1 H' → ∃ k', k' < k ∧ W1 (j + 1) k' H') ∧ ∀ x H', J1.yld j H x H' → g1 x (L2.wipe σ2 vs1) H' fun σ3 H5 => L2.wipe σ3 vs1 = L2.wipe σ2 vs1 ∧ tt1 σ3 H5 fun b H6 =>
        if b = true then tk σ3 H6 fun y H7 => tv σ3 H7 fun z H8 => ∃ kvs k, y = kV k ∧ H8 D = some (.dK kvs) ∧ kvs.length < sizeLine ∧ Nx1 (upd H8 D (.dK (putK kvs k z))) else Nx1 H6)
    else Nx H3)
abbrev InB (X : Cx) (scope : Scope) (P : Cx → Prop) : Prop := ∀ (s : Shared) (H : Hp) (C : Addr) (cl : List (Str × Addr)) (fp : List Addr), P (X.blk s H scope (compEnvC scope cl C X.env) fp)
theorem dc2_core {pins : List (Addr × Obj)} {s : Shared} {σ : L2.St} {H : Hp} {Q : VK} {kx vx tg iter tg1 iter1 : Expr} {ifs ifs1 : List Expr} {scope : Scope} {own : List (Str × Nat)} {vs1 : List Nat} {pos pos' : Pos} {wi wi1 : TI} {g g1 : L2.TG} {tt tt1 : TT} {tk tv : TE} {use : Option (Value → Sem Unit)} {Qf : Value → Shared → Prop}
    (calm : X.calm = true) (nd : X.N.Nodup) (I : Inv X pins σ H s) (hi : PI X tg iter wi) (ok : BlkOk X.N X.env.scope scope own) (hv : ∀ i ∈ vs1, i ∈ own.map (·.2))
    (hg : InB X scope fun Y => PG Y tg g) (ht : InB X scope fun Y => PTs Y ifs tt) (hi1 : InB X scope fun Y => PI Y tg1 iter1 wi1) (hg1 : InB X scope fun Y => PG Y tg1 g1) (ht1 : InB X scope fun Y => PTs Y ifs1 tt1)
    (hk : InB X scope fun Y => PE Y kx tk) (he : InB X scope fun Y => PE Y vx tv) (hs : ∀ x, foldedSetIterable iter X.env x = pure x) (hs1 : ∀ env x, foldedSetIterable iter1 env x = pure x)
    (h : tDc2 wi g tt wi1 g1 tt1 tk tv (own.map (·.2)) vs1 σ H Q)
    (fin : ∀ D C s' m H', Inv X pins σ H' s' → Q (.ref D) H' → s'.heap.Ns C m → FpOk X pins H' C → compPost (model X.prog X.w) X.A X.xe use Qf (.ref D) C (.ok .next) s') :
    wpAny (model X.prog X.w) X.A (comprehension (dc2E kx vx tg iter tg1 iter1 ifs ifs1 scope pos) scope X.env pos' newDict false (eval iter X.env) use) Qf X.xe s := by
  have cells : ∀ y ∈ scope.names, y.2 = .free → ∃ c, X.env.cells.lookup y.1 = some c := fun y hy e => (ok.free y hy e).elim (fun k => I.ok.has _ (.inl k)) fun k => I.ok.has _ (.inr k)
  refine wpAny_comprehension_free (use := use) rfl hs (closure_ok cells) ok.kind (fun y hy e => by rw [ok.uniq y hy, e]) (thn (hi.run pins s σ H _ I h) fun xv s1 hx => thn hx ?_)
  rintro itv s2 ⟨it, fp, tn, J, H2, rfl, I2, T, st2, f2, q⟩
  refine wpAny_newObj_type (newEnv_comp ?_)
  obtain ⟨D, hD⟩ : ∃ D, s2.heap.objs.size = D := ⟨_, rfl⟩
  rw [hD]
  obtain ⟨W, ⟨m0, w0⟩, turn⟩ := q D (I2.hok.fresh (Nat.le_of_eq hD))
  obtain ⟨s3, hs3⟩ : ∃ s3 : Shared, { s2 with heap := s2.heap.push { cls := .type "dict", data := .dict #[] } } = s3 := ⟨_, rfl⟩
  rw [hs3]
  have h3 : s3.heap = s2.heap.push { cls := .type "dict", data := .dict #[] } := by rw [← hs3]
  have I3 : Inv X pins σ (upd H2 D (.dK [])) s3 := by
    rw [← hs3]
    refine I2.laid (t' := s2.toks) (fun b o e => Heap.get?_push_of_some _ e) (Nat.le_of_eq hD) ?_
    rw [← hD]
    exact dk_empty s2.heap I2.big
  have f3 : ∀ b ∈ fp, FpOk X pins (upd H2 D (.dK [])) b ∧ b < s3.heap.objs.size := fun b hb => by
    obtain ⟨o, e, _⟩ := T.obj _ _ st2 b hb
    have lt := Heap.lt_size e
    refine ⟨⟨?_, (f2 b hb).2⟩, by rw [h3, Heap.size_push]; exact Nat.lt_succ_of_lt lt⟩
    rw [upd_ne (by rw [← hD]; exact Nat.ne_of_lt lt)]
    exact (f2 b hb).1
  have st3 : tn 0 s3.heap := T.keep _ _ _ st2 fun b _ o e => by rw [h3]; exact Heap.get?_push_of_some _ e
  have I4 := block_start I3 ok nd f3
  have nfp : ∀ b ∈ fp, (upd H2 D (.dK [])) b = none := fun b hb => (f3 b hb).1.1
  obtain ⟨H3, hH3⟩ : ∃ H3 : Hp, upd H2 D (.dK []) = H3 := ⟨_, rfl⟩
  rw [hH3] at I3 I4 w0 nfp f3
  obtain ⟨cl, hcl⟩ : ∃ cl, cellsFrom (s3.heap.objs.size + 1) scope.names (cloFrom X.env.cells scope.names []) = cl := ⟨_, rfl⟩
  rw [hcl] at I4
  have pg := hg s3 H3 s3.heap.objs.size cl fp
  have pt := ht s3 H3 s3.heap.objs.size cl fp
  have pi1 := hi1 s3 H3 s3.heap.objs.size cl fp
  have pg1 := hg1 s3 H3 s3.heap.objs.size cl fp
  have pt1 := ht1 s3 H3 s3.heap.objs.size cl fp
  have pk := hk s3 H3 s3.heap.objs.size cl fp
  have pe := he s3 H3 s3.heap.objs.size cl fp
  show codeAny _ _ (.compStart (dc2E kx vx tg iter tg1 iter1 ifs ifs1 scope pos) 0 (.ref it) (.ref D) (compEnvC scope (cellsFrom (s3.heap.objs.size + 1) scope.names (cloFrom X.env.cells scope.names [])) s3.heap.objs.size X.env)) (compPost (model X.prog X.w) X.A X.xe use Qf (.ref D) s3.heap.objs.size) { s3 with heap := pushCells (s3.heap.push { cls := .type "dict", data := .dict #[] }) scope.names }
  rw [hcl]
  obtain ⟨ce, hce⟩ : ∃ ce, compEnvC scope cl s3.heap.objs.size X.env = ce := ⟨_, rfl⟩
  have cL : ce.locals = s3.heap.objs.size := by subst hce; rfl
  rw [hce] at I4 pg pt pi1 pg1 pt1 pk pe ⊢
  obtain ⟨s4, hs4⟩ : ∃ s4 : Shared, { s3 with heap := pushCells (s3.heap.push { cls := .type "dict", data := .dict #[] }) scope.names } = s4 := ⟨_, rfl⟩
  rw [hs4] at I4 ⊢
  have st4 : tn 0 s4.heap := T.keep _ _ _ st3 fun b _ o e => by rw [← hs4]; exact pushCells_keeps _ _ _ _ (Heap.get?_push_of_some _ e)
  have stat : ∀ {σ' : L2.St} {H' : Hp} {s' : Shared}, Inv (X.blk s3 H3 scope ce fp) [] σ' H' s' → (∀ b ∈ fp, H' b = none) → ∀ b ∈ fp, FpOk (X.blk s3 H3 scope ce fp) [] H' b := fun {σ' H' s'} I' hn b hb =>
    ⟨hn b hb, (I'.ok.exf b hb).1, I'.ok.exfs b hb, .inl hb, fun x c e => (I'.ok.exf b hb).2 x c e, fun p hp => absurd (show p ∈ ([] : List (Addr × Obj)) ++ [] from hp) (by simp)⟩
  -- the outer loop's invariant
  let Jo : Nat → Shared → Prop := fun n s' => ∃ i H', Inv (X.blk s3 H3 scope ce fp) [] (L2.wipe σ (own.map (·.2))) H' s' ∧ tn i s'.heap ∧ (∀ b ∈ fp, H' b = none) ∧ W i n H'
  have loop : codeAny (model X.prog X.w) X.A (.compLoop (dc2E kx vx tg iter tg1 iter1 ifs ifs1 scope pos) 0 (.ref it) (.ref D) ce) (compPost (model X.prog X.w) X.A X.xe use Qf (.ref D) s3.heap.objs.size) s4 := by
    refine loop_out (hs1 ce) _ Jo ?_ m0 ⟨0, H3, I4, st4, nfp, w0⟩
    rintro n s5 ⟨i, H5, I5, st5, n5, w5⟩
    rcases turn i n H5 w5 with ⟨stop, last⟩ | ⟨go, Nx, next, step⟩
    · refine thnF (T.done (X.blk s3 H3 scope ce fp) rfl rfl rfl calm i [] s5 _ H5 (fun _ _ => False) I5 (stat I5 n5) st5 stop) ?_
      rintro r s6 ⟨rfl, I6⟩
      have I7 : Inv X pins σ H5 s6 := I3.call' (ch := fp) I6.os I6.base I6.hok I6.bare fun b hb => ⟨(f3 b hb).1.2.2.2.1, (f3 b hb).1.2.1, (f3 b hb).1.2.2.2.2.1, (f3 b hb).1.2.2.2.2.2⟩
      obtain ⟨m, names, _⟩ := I6.loc
      have nC : H5 s3.heap.objs.size = none := by rw [← cL]; exact I6.free
      have names' : s6.heap.Ns s3.heap.objs.size m := by rw [← cL]; exact names
      exact fin D s3.heap.objs.size s6 m H5 I7 last names' (I3.fpOk (Nat.le_refl _) nC)
    · refine thnF (T.item (X.blk s3 H3 scope ce fp) rfl rfl rfl calm i [] s5 _ H5 (fun _ _ => False) I5 (stat I5 n5) st5 go) ?_
      rintro r s6 ⟨u, rfl, h6⟩
      refine thnF h6 ?_
      rintro _ s7 ⟨x, H7, I7, r7, y7, st7, n7⟩
      refine thnF (pg.run _ s7 _ H7 x u _ (I7.pinned (stat I7 n7) (T.obj _ _ st7)) r7 (step x H7 y7)) ?_
      rintro _ s8 ⟨σ8, H8, I8, hw8, q8⟩
      refine thnF (pt.run _ s8 σ8 H8 _ I8 q8) ?_
      have back : ∀ {σ9 : L2.St} {s' : Shared} {H' : Hp}, Inv (X.blk s3 H3 scope ce fp) ([] ++ pinsAt fp s7.heap) σ9 H' s' → (L2.wipe σ (own.map (·.2))).length = σ9.length → (∀ (j : Nat) v, (L2.wipe σ (own.map (·.2)))[j]? = some (some v) → σ9[j]? = some (some v)) → Nx H' → ∃ m, m < n ∧ Jo m s' := by
        intro σ9 s' H' I' hl hk nx
        obtain ⟨m', lt, w'⟩ := next H' nx
        have stays : ∀ b ∈ fp, ∀ o, s7.heap.get? b = some o → s'.heap.get? b = some o ∧ H' b = none := fun b hb o e => ⟨(I'.pin (b, o) (List.mem_append_right _ (List.mem_append_right _ (mem_pinsAt hb e)))).1, (I'.pin (b, o) (List.mem_append_right _ (List.mem_append_right _ (mem_pinsAt hb e)))).2.1⟩
        refine ⟨m', lt, i + 1, H', (I'.unpinned (pins := [])).weak hl hk, T.keep _ _ _ st7 fun b hb o e => (stays b hb o e).1, fun b hb => ?_, w'⟩
        obtain ⟨o, e, _⟩ := T.obj _ _ st7 b hb
        exact (stays b hb o e).2
      have len8 : (L2.wipe σ (own.map (·.2))).length = σ8.length := by rw [← hw8, wipe_length]
      have old8 : ∀ (j : Nat) v, (L2.wipe σ (own.map (·.2)))[j]? = some (some v) → σ8[j]? = some (some v) ∧ j ∉ own.map (·.2) := fun j v e => by
        rw [← hw8] at e
        exact wipe_some e
      rintro (_ | _) s9 ⟨H9, I9, q9⟩
      · simp only [Bool.false_eq_true, if_false] at q9 ⊢
        exact back I9 len8 (fun j v e => (old8 j v e).1) q9
      simp only [if_true] at q9 ⊢
      refine thnF (pi1.run _ s9 σ8 H9 _ I9 q9) fun xv s10 hx => thnF hx ?_
      rintro itv s11 ⟨it1, fp1, tn1, J1, H11, rfl, I11, T1, st11, f11, W1, ⟨m1, w1⟩, turn1⟩
      have stat1 : ∀ {H' : Hp}, (∀ b ∈ fp1, H' b = none) → ∀ b ∈ fp1, FpOk (X.blk s3 H3 scope ce fp) ([] ++ pinsAt fp s7.heap) H' b := fun hn b hb => ⟨hn b hb, (f11 b hb).2⟩
      let Ji : Nat → Shared → Prop := fun k s' => ∃ j H', Inv (X.blk s3 H3 scope ce fp) ([] ++ pinsAt fp s7.heap) (L2.wipe σ8 vs1) H' s' ∧ tn1 j s'.heap ∧ (∀ b ∈ fp1, H' b = none) ∧ W1 j k H'
      have loop1 : codeAny (model X.prog X.w) X.A (.compLoop (dc2E kx vx tg iter tg1 iter1 ifs ifs1 scope pos) 1 (.ref it1) (.ref D) ce) (fun r s' => match r with
          | .ok _ => ∃ m, m < n ∧ Jo m s'
          | .error _ => False) s11 := by
        refine loop_in Ji ?_ m1 ⟨0, H11, I11.weak (wipe_length _ _) (fun j v e => (wipe_some e).1), st11, fun b hb => (f11 b hb).1, w1⟩
        rintro k s12 ⟨j, H12, I12, st12, n12, w12⟩
        rcases turn1 j k H12 w12 with ⟨stop1, nx1⟩ | ⟨go1, Nx1, next1, step1⟩
        · refine thnF (T1.done (X.blk s3 H3 scope ce fp) rfl rfl rfl calm j _ s12 (L2.wipe σ8 vs1) H12 (fun _ _ => False) I12 (stat1 n12) st12 stop1) ?_
          rintro r s13 ⟨rfl, I13⟩
          refine back I13 (len8.trans (wipe_length σ8 vs1).symm) (fun a v e => ?_) nx1
          rw [wipe_out fun z => (old8 a v e).2 (hv a z)]
          exact (old8 a v e).1
        · refine thnF (T1.item (X.blk s3 H3 scope ce fp) rfl rfl rfl calm j _ s12 (L2.wipe σ8 vs1) H12 (fun _ _ => False) I12 (stat1 n12) st12 go1) ?_
          rintro r s13 ⟨u1, rfl, h13⟩
          refine thnF h13 ?_
          rintro _ s14 ⟨x1, H14, I14, r14, y14, st14, n14⟩
          refine thnF (pg1.run _ s14 (L2.wipe σ8 vs1) H14 x1 u1 _ (I14.pinned (stat1 n14) (T1.obj _ _ st14)) r14 (step1 x1 H14 y14)) ?_
          rintro _ s15 ⟨σ15, H15, I15, hw15, q15⟩
          refine thnF (pt1.run _ s15 σ15 H15 _ I15 q15) ?_
          have back1 : ∀ {s' : Shared} {H' : Hp}, Inv (X.blk s3 H3 scope ce fp) (([] ++ pinsAt fp s7.heap) ++ pinsAt fp1 s14.heap) σ15 H' s' → Nx1 H' → ∃ m, m < k ∧ Ji m s' := by
            intro s' H' I' nx
            obtain ⟨m', lt, w'⟩ := next1 H' nx
            have stays : ∀ b ∈ fp1, ∀ o, s14.heap.get? b = some o → s'.heap.get? b = some o ∧ H' b = none := fun b hb o e => ⟨(I'.pin (b, o) (List.mem_append_right _ (List.mem_append_right _ (mem_pinsAt hb e)))).1, (I'.pin (b, o) (List.mem_append_right _ (List.mem_append_right _ (mem_pinsAt hb e)))).2.1⟩
            refine ⟨m', lt, j + 1, H', I'.unpinned.weak (by rw [← hw15, wipe_length]) (fun a v e => by rw [← hw15] at e; exact (wipe_some e).1), T1.keep _ _ _ st14 fun b hb o e => (stays b hb o e).1, fun b hb => ?_, w'⟩
            obtain ⟨o, e, _⟩ := T1.obj _ _ st14 b hb
            exact (stays b hb o e).2
          rintro (_ | _) s16 ⟨H16, I16, q16⟩
          · simp only [Bool.false_eq_true, if_false] at q16 ⊢
            exact back1 I16 q16
          simp only [if_true] at q16 ⊢
          refine thnF (pk.run _ s16 σ15 H16 _ I16 q16) ?_
          rintro kv s17 ⟨yk, H17, I17, r17, q17⟩
          refine thnF (pe.run _ s17 σ15 H17 _ I17 q17) ?_
          rintro vv s18 ⟨yv, H18, I18, r18, kvs, key, rfl, hD18, hz, nx⟩
          exact d_dictSet (X := X.blk s3 H3 scope ce fp) I18 hD18 hz r17 r18 fun s19 I19 => back1 I19 nx
      exact start_in loop1 (T1.self X.A 0 _ _ _ st11 loop1)
  exact codeAny_compStart_dict loop (T.self X.A 0 _ _ _ st4 loop)

/-- a comprehension's post where its value is the answer -/
theorem val_fin {pins : List (Addr × Obj)} {σ : L2.St} {Q : VK} : ∀ (D C : Addr) (s' : Shared) (m : Str → Option Value) (H' : Hp), Inv X pins σ H' s' → Q (.ref D) H' → s'.heap.Ns C m → FpOk X pins H' C → compPost (model X.prog X.w) X.A X.xe none (EP X pins σ Q) (.ref D) C (.ok .next) s' :=
  fun D C s' m H' I q hn f => ⟨m, hn, fun h'' sb => ⟨.ref D, H', I.turned (t' := s'.toks) (fun b o hb e => (sb.2 b hb).trans e) f.1 f.2.1 f.2.2.2.1 f.2.2.2.2.1 f.2.2.2.2.2, rfl, q⟩⟩
/-- .. where it is stored in a local name -/
theorem set_fin {pins : List (Addr × Obj)} {σ : L2.St} {De : Ends} {i : Nat} {y : Str} {py : Pos} (nd : X.N.Nodup) (hy : X.N[i]? = some y) (hyl : X.env.scope.names.lookup y = some .local) :
    ∀ (D C : Addr) (s' : Shared) (m : Str → Option Value) (H' : Hp), Inv X pins σ H' s' → gName i (.ref D) σ H' De.nx → s'.heap.Ns C m → FpOk X pins H' C → compPost (model X.prog X.w) X.A X.xe (some (assign (.Name y py) X.env)) (fun _ s' => SP X pins De .next s') (.ref D) C (.ok .next) s' := by
  intro D C s' m H' I q hn f
  show wpAny _ _ (assign (.Name y py) X.env (.ref D)) _ _ _
  refine wpAny_assign_Name (store_ok2 (v := V.ref D) I nd hy (.inl hyl) rfl (fun s2 I2 ⟨a, sb, ha⟩ => ?_) (.inr hyl))
  have apart : C ≠ a := by
    rcases ha with z | z
    · rw [z]; exact f.2.1
    · exact fun e => f.2.2.2.2.1 y a z e.symm
  exact ⟨m, hn.sameBut sb apart, fun h3 sb3 => ⟨_, H', I2.turned (t' := s2.toks) (fun b o hb e => (sb3.2 b hb).trans e) f.1 f.2.1 f.2.2.2.1 f.2.2.2.2.1 f.2.2.2.2.2, q⟩⟩
theorem sw_dict {kx vx : Expr} {gs : List Comprehension} {scope : Scope} {pos py : Pos} {y : Str} {l : Nat} {env : Env} (hk : env.scope.kind = .function) (hy : env.scope.names.lookup y = some .local) (hl : (py.line == pos.line) = true)
    (ha : (scope.names.any fun (n, k) => n == y && (k == .local || k == .cell)) = false) : swapsWith (.DictComp kx vx gs scope pos) (some (.Name y py)) l env = pure true := by
  have ky : env.kindOf y = some .local := hy
  have hb : env.blockKind = .function := by unfold Env.blockKind; rw [hk]; rfl
  unfold swapsWith
  simp only [hb, ky, ha, Expr.pos, hl]
  rfl
section
variable {kx vx tg iter tg1 iter1 : Expr} {ifs ifs1 : List Expr} {scope : Scope} {own : List (Str × Nat)} {vs1 : List Nat} {pos spos : Pos} {wi wi1 : TI} {g g1 : L2.TG} {tt tt1 : TT} {tk tv : TE}
theorem ps_setDc {i : Nat} {y : Str} {py : Pos} (calm : X.calm = true) (nd : X.N.Nodup) (hy : X.N[i]? = some y) (hyl : X.env.scope.names.lookup y = some .local) (hsw : swapsWith (.DictComp kx vx [⟨tg, iter, ifs, 0⟩] scope pos) (some (.Name y py)) spos.line X.env = pure true)
    (hi : PI X tg iter wi) (ok : BlkOk X.N X.env.scope scope own) (hg : InB X scope fun Y => PG Y tg g) (ht : InB X scope fun Y => PTs Y ifs tt) (hk : InB X scope fun Y => PE Y kx tk) (he : InB X scope fun Y => PE Y vx tv) (hs : ∀ x, foldedSetIterable iter X.env x = pure x := by intro _; rfl) :
    PS X (.Assign [.Name y py] (.DictComp kx vx [⟨tg, iter, ifs, 0⟩] scope pos) spos) (tAsg (tDc wi g tt tk tv (own.map (·.2))) (gName i)) := by
  constructor
  intro pins s σ H De I h
  rw [exec_Assign_Name_used _ _ _ _ hsw]
  refine wpAny_bind (wpAny_standAt (wpAny_bind ?_))
  show wpAny _ X.A (do let _ ← comprehension (.DictComp kx vx [⟨tg, iter, ifs, 0⟩] scope pos) scope X.env (firstIterPos [⟨tg, iter, ifs, 0⟩] pos) newDict false (eval iter X.env) (some (assign (.Name y py) X.env))) _ _ s
  exact wpAny_bind (thn (dc_core (Qf := fun _ s' => SP X pins De .next s') calm nd I hi ok hg ht hk he hs (show tDc wi g tt tk tv (own.map (·.2)) σ H (fun x H1 => gName i x σ H1 De.nx) from h) (set_fin nd hy hyl)) fun _ s' hq => wpAny_pure (wpAny_pure hq))
theorem pe_dc2 (calm : X.calm = true) (nd : X.N.Nodup) (hi : PI X tg iter wi) (ok : BlkOk X.N X.env.scope scope own) (hv : ∀ i ∈ vs1, i ∈ own.map (·.2)) (hg : InB X scope fun Y => PG Y tg g) (ht : InB X scope fun Y => PTs Y ifs tt) (hi1 : InB X scope fun Y => PI Y tg1 iter1 wi1) (hg1 : InB X scope fun Y => PG Y tg1 g1) (ht1 : InB X scope fun Y => PTs Y ifs1 tt1)
    (hk : InB X scope fun Y => PE Y kx tk) (he : InB X scope fun Y => PE Y vx tv) (hs : ∀ x, foldedSetIterable iter X.env x = pure x := by intro _; rfl) (hs1 : ∀ env x, foldedSetIterable iter1 env x = pure x := by intro _ _; rfl) :
    PE X (.DictComp kx vx [⟨tg, iter, ifs, 0⟩, ⟨tg1, iter1, ifs1, 0⟩] scope pos) (tDc2 wi g tt wi1 g1 tt1 tk tv (own.map (·.2)) vs1) := by
  constructor
  intro pins s σ H Q I h
  rw [arm_eval_DictComp]
  exact dc2_core calm nd I hi ok hv hg ht hi1 hg1 ht1 hk he hs hs1 h val_fin
theorem ps_setDc2 {i : Nat} {y : Str} {py : Pos} (calm : X.calm = true) (nd : X.N.Nodup) (hy : X.N[i]? = some y) (hyl : X.env.scope.names.lookup y = some .local) (hsw : swapsWith (.DictComp kx vx [⟨tg, iter, ifs, 0⟩, ⟨tg1, iter1, ifs1, 0⟩] scope pos) (some (.Name y py)) spos.line X.env = pure true)
    (hi : PI X tg iter wi) (ok : BlkOk X.N X.env.scope scope own) (hv : ∀ i ∈ vs1, i ∈ own.map (·.2)) (hg : InB X scope fun Y => PG Y tg g) (ht : InB X scope fun Y => PTs Y ifs tt) (hi1 : InB X scope fun Y => PI Y tg1 iter1 wi1) (hg1 : InB X scope fun Y => PG Y tg1 g1) (ht1 : InB X scope fun Y => PTs Y ifs1 tt1)
    (hk : InB X scope fun Y => PE Y kx tk) (he : InB X scope fun Y => PE Y vx tv) (hs : ∀ x, foldedSetIterable iter X.env x = pure x := by intro _; rfl) (hs1 : ∀ env x, foldedSetIterable iter1 env x = pure x := by intro _ _; rfl) :
    PS X (.Assign [.Name y py] (.DictComp kx vx [⟨tg, iter, ifs, 0⟩, ⟨tg1, iter1, ifs1, 0⟩] scope pos) spos) (tAsg (tDc2 wi g tt wi1 g1 tt1 tk tv (own.map (·.2)) vs1) (gName i)) := by
  constructor
  intro pins s σ H De I h
  rw [exec_Assign_Name_used _ _ _ _ hsw]
  refine wpAny_bind (wpAny_standAt (wpAny_bind ?_))
  show wpAny _ X.A (do let _ ← comprehension (.DictComp kx vx [⟨tg, iter, ifs, 0⟩, ⟨tg1, iter1, ifs1, 0⟩] scope pos) scope X.env (firstIterPos [⟨tg, iter, ifs, 0⟩, ⟨tg1, iter1, ifs1, 0⟩] pos) newDict false (eval iter X.env) (some (assign (.Name y py) X.env))) _ _ s
  exact wpAny_bind (thn (dc2_core (Qf := fun _ s' => SP X pins De .next s') calm nd I hi ok hv hg ht hi1 hg1 ht1 hk he hs hs1 (show tDc2 wi g tt wi1 g1 tt1 tk tv (own.map (·.2)) vs1 σ H (fun x H1 => gName i x σ H1 De.nx) from h) (set_fin nd hy hyl)) fun _ s' hq => wpAny_pure (wpAny_pure hq))
end

/-! ### as data -/
def dc2In (J : ItD) (g : TGD) (tt : TTD) (tk tv : TED) (vs : List Nat) (σ : Std) (C : DM → List (Key × D) → Prop) : Nat → Nat → DM → List (Key × D) → Prop
  | 0, _, _, _ => False
  | n + 1, i, M, acc => match J i M with
    | some (some d) => g d (wipeS σ vs) M (fun σ2 M2 => tt σ2 M2 (fun b M3 => match b with
      | true => tk σ2 M3 (fun y M4 => tv σ2 M4 (fun z M5 => ∃ k, KeyD y = some k ∧ acc.length < sizeLine ∧ dc2In J g tt tk tv vs σ C n (i + 1) M5 (putD acc k z)) noX) noX
      | false => dc2In J g tt tk tv vs σ C n (i + 1) M3 acc) noX) noX
    | some none => C M acc
    | none => False
def dc2Out (J : ItD) (g : TGD) (tt : TTD) (wi1 : TID) (g1 : TGD) (tt1 : TTD) (tk tv : TED) (vs vs1 : List Nat) (σ : Std) (Q : DQ) : Nat → Nat → DM → List (Key × D) → Prop
  | 0, _, _, _ => False
  | n + 1, i, M, acc => match J i M with
    | some (some d) => g d (wipeS σ vs) M (fun σ2 M2 => tt σ2 M2 (fun b M3 => match b with
      | true => wi1 σ2 M3 (fun J1 M4 => ∃ k, dc2In J1 g1 tt1 tk tv vs1 σ2 (fun M5 acc' => dc2Out J g tt wi1 g1 tt1 tk tv vs vs1 σ Q n (i + 1) M5 acc') k 0 M4 acc) noX
      | false => dc2Out J g tt wi1 g1 tt1 tk tv vs vs1 σ Q n (i + 1) M3 acc) noX) noX
    | some none => ∀ p, M p = none → Q (.ref p) (put M p (.dK acc))
    | none => False
def dDc2 (wi : TID) (g : TGD) (tt : TTD) (wi1 : TID) (g1 : TGD) (tt1 : TTD) (tk tv : TED) (vs vs1 : List Nat) : TED := fun σ M Q E => wi σ M (fun J M1 => ∃ n, dc2Out J g tt wi1 g1 tt1 tk tv vs vs1 σ Q n 0 M1 []) E
variable {W : WX}
theorem lift_dc2 {wi : TID} {g : TGD} {tt : TTD} {wi1 : TID} {g1 : TGD} {tt1 : TTD} {tk tv : TED} {vs vs1 : List Nat} {σ : L2.St} {H : Hp} {Q : VK} (h : lE X.B W (dDc2 wi g tt wi1 g1 tt1 tk tv vs vs1) σ H Q) :
    tDc2 (lI X.B W wi) (lG X.B w0 vs g) (lT X.B w0 tt) (lI X.B w0 wi1) (lG X.B w0 vs1 g1) (lT X.B w0 tt1) (lE X.B w0 tk) (lE X.B w0 tv) vs vs1 σ H Q := by
  obtain ⟨σd, M, Qd, E, S, R, t, c, cx⟩ := h
  refine ⟨σd, M, _, E, S, R, t, fun Jd J M1 H1 ok R1 k1 ⟨n, q⟩ p hp => ?_, cx⟩
  have c1 := c.after k1
  have S1 := S.mono (k1.tups R)
  refine ⟨fun i m H' => ∃ M' acc ws, Rel X.B M' H' ∧ dc2Out Jd g tt wi1 g1 tt1 tk tv vs vs1 σd Qd m i M' acc ∧ PR X.B H' acc ws ∧ H' p = some (.dK ws) ∧ M' p = none ∧ KeepP p M1 H1 M' H' ∧ Tups H1 H', ⟨n, M1, [], [], R1.hidden hp _, q, .nil, upd_same, R1.free hp, ?_, tups_new hp _⟩, ?_⟩
  · exact ⟨fun a u e _ _ => by rw [upd_ne (ne_of_none e hp)]; exact e, fun a u e n => ⟨n, u, by rw [upd_ne (ne_of_none e hp)]; exact e⟩, (Keep.hidden R1 hp _).tab, hp⟩
  rintro i m H' ⟨M', acc, ws, R', t, as, hP, mP, kp, tp⟩
  cases m with
  | zero => exact t.elim
  | succ m =>
    unfold dc2Out at t
    cases e : Jd i M' with
    | none => rw [e] at t; exact t.elim
    | some o =>
      rw [e] at t
      cases o with
      | none => exact .inl ⟨ok.stop i M' H' tp R' e, c1 _ _ (put M' p (.dK acc)) H' .ref (R'.come hP (.ofK as)) (kp.done _) (t p mP)⟩
      | some d =>
        refine .inr ⟨ok.go i M' H' d tp R' e, fun H2 => ∃ M2 acc ws, Rel X.B M2 H2 ∧ dc2Out Jd g tt wi1 g1 tt1 tk tv vs vs1 σd Qd m (i + 1) M2 acc ∧ PR X.B H2 acc ws ∧ H2 p = some (.dK ws) ∧ M2 p = none ∧ KeepP p M1 H1 M2 H2 ∧ Tups H1 H2, fun H2 h => ⟨m, Nat.lt_succ_self _, h⟩, fun x H2 y => ?_⟩
        obtain ⟨R2, k2, dx⟩ := ok.yld i M' H' d x H2 tp R' e y
        have tp2 := tp.trans (k2.tups R')
        refine ⟨d, _, M', _, _, dx, (S1.mono tp2).wipe vs, R2, t, fun σd3 σ3 M3 H3 o3 S3 R3 k3 q3 => ⟨off_wipe o3, σd3, M3, _, _, S3, R3, q3, fun b M4 H4 R4 k4 q4 => ?_, cnx0⟩, cnx0⟩
        have k24 := (k2.trans k3).trans k4
        cases b with
        | false => exact iteF ⟨M4, acc, ws, R4, q4, as.mono (k24.tups R'), k24.hid p _ hP mP dK_ne.2.2.1, (k24.out p _ hP mP).1, kp.then k24, tp.trans (k24.tups R')⟩
        | true =>
          have S4 := S3.mono (k4.tups R3)
          refine iteT ⟨σd3, M4, _, _, S4, R4, q4, fun J1d J1 M5 H5 ok1 R5 k5 ⟨n1, q5⟩ => ?_, cnx0⟩
          have k25 := k24.trans k5
          refine ⟨fun j m1 H6 => ∃ M6 acc ws, Rel X.B M6 H6 ∧ dc2In J1d g1 tt1 tk tv vs1 σd3 (fun M7 acc' => dc2Out Jd g tt wi1 g1 tt1 tk tv vs vs1 σd Qd m (i + 1) M7 acc') m1 j M6 acc ∧ PR X.B H6 acc ws ∧ H6 p = some (.dK ws) ∧ M6 p = none ∧ KeepP p M1 H1 M6 H6 ∧ Tups H1 H6 ∧ Tups H5 H6,
            ⟨n1, M5, acc, ws, R5, q5, as.mono (k25.tups R'), k25.hid p _ hP mP dK_ne.2.2.1, (k25.out p _ hP mP).1, kp.then k25, tp.trans (k25.tups R'), .refl⟩, ?_⟩
          rintro j m1 H6 ⟨M6, acc6, ws6, R6, t6, as6, hP6, mP6, kp6, tp6, tq6⟩
          cases m1 with
          | zero => exact t6.elim
          | succ m1 =>
            unfold dc2In at t6
            cases e6 : J1d j M6 with
            | none => rw [e6] at t6; exact t6.elim
            | some o6 =>
              rw [e6] at t6
              cases o6 with
              | none => exact .inl ⟨ok1.stop j M6 H6 tq6 R6 e6, M6, acc6, ws6, R6, t6, as6, hP6, mP6, kp6, tp6⟩
              | some d6 =>
                refine .inr ⟨ok1.go j M6 H6 d6 tq6 R6 e6, fun H7 => ∃ M7 acc ws, Rel X.B M7 H7 ∧ dc2In J1d g1 tt1 tk tv vs1 σd3 (fun M7 acc' => dc2Out Jd g tt wi1 g1 tt1 tk tv vs vs1 σd Qd m (i + 1) M7 acc') m1 (j + 1) M7 acc ∧ PR X.B H7 acc ws ∧ H7 p = some (.dK ws) ∧ M7 p = none ∧ KeepP p M1 H1 M7 H7 ∧ Tups H1 H7 ∧ Tups H5 H7, fun H7 h => ⟨m1, Nat.lt_succ_self _, h⟩, fun x7 H7 y7 => ?_⟩
                obtain ⟨R7, k7, dx7⟩ := ok1.yld j M6 H6 d6 x7 H7 tq6 R6 e6 y7
                have tq7 := tq6.trans (k7.tups R6)
                refine ⟨d6, _, M6, _, _, dx7, ((S4.mono (k5.tups R4)).mono tq7).wipe vs1, R7, t6, fun σd8 σ8 M8 H8 o8 S8 R8 k8 q8 => ⟨off_wipe o8, σd8, M8, _, _, S8, R8, q8, fun b9 M9 H9 R9 k9 q9 => ?_, cnx0⟩, cnx0⟩
                have k79 := (k7.trans k8).trans k9
                cases b9 with
                | false => exact iteF ⟨M9, acc6, ws6, R9, q9, as6.mono (k79.tups R6), k79.hid p _ hP6 mP6 dK_ne.2.2.1, (k79.out p _ hP6 mP6).1, kp6.then k79, tp6.trans (k79.tups R6), tq6.trans (k79.tups R6)⟩
                | true =>
                  refine iteT ⟨σd8, M9, _, _, S8.mono (k9.tups R8), R9, q9, fun z zv M10 H10 zr R10 k10 q10 => ⟨σd8, M10, _, _, S8.mono ((k9.trans k10).tups R8), R10, q10, fun y' yv M11 H11 yr R11 k11 ⟨k, hk, hl, q11⟩ => ?_, cnx0⟩, cnx0⟩
                  have kk := (k79.trans k10).trans k11
                  have hP11 := kk.hid p _ hP6 mP6 dK_ne.2.2.1
                  have mP11 := (kk.out p _ hP6 mP6).1
                  have as11 := as6.mono (kk.tups R6)
                  have tq := tups_hput hP11 dK_ne.1 dK_ne.2.1 (.dK (putK ws6 k yv))
                  exact ⟨ws6, k, KeyD.dv hk zr, hP11, by rw [← as6.length]; exact hl, M11, putD acc6 k y', putK ws6 k yv, R11.hput hP11 mP11 dK_ne.1 dK_ne.2.1 _, q11, (as11.put k yr).mono tq, upd_same, mP11, (kp6.then kk).write hP11 dK_ne.2.2 _, (tp6.trans (kk.tups R6)).trans tq, (tq6.trans (kk.tups R6)).trans tq⟩
theorem de_dc2 {e : Expr} {wi : TID} {g : TGD} {tt : TTD} {wi1 : TID} {g1 : TGD} {tt1 : TTD} {tk tv : TED} {vs vs1 : List Nat} (h : PE X e (tDc2 (lI X.B W wi) (lG X.B w0 vs g) (lT X.B w0 tt) (lI X.B w0 wi1) (lG X.B w0 vs1 g1) (lT X.B w0 tt1) (lE X.B w0 tk) (lE X.B w0 tv) vs vs1)) : PE X e (lE X.B W (dDc2 wi g tt wi1 g1 tt1 tk tv vs vs1)) := PE.imp h fun _ _ _ h => lift_dc2 h
theorem ds_setDc2 {st : Stmt} {wi : TID} {g : TGD} {tt : TTD} {wi1 : TID} {g1 : TGD} {tt1 : TTD} {tk tv : TED} {vs vs1 : List Nat} {i : Nat} (h : PS X st (tAsg (tDc2 (lI X.B W wi) (lG X.B w0 vs g) (lT X.B w0 tt) (lI X.B w0 wi1) (lG X.B w0 vs1 g1) (lT X.B w0 tt1) (lE X.B w0 tk) (lE X.B w0 tv) vs vs1) (gName i))) : PS X st (lS X.B W (dAsg (dDc2 wi g tt wi1 g1 tt1 tk tv vs vs1) (gNm i))) := PS.imp h fun D σ H h => lift_dc2 (show lE X.B W (dDc2 wi g tt wi1 g1 tt1 tk tv vs vs1) σ H (fun x H1 => gName i x σ H1 D.nx) from lift_set h)
theorem ds_setDc {st : Stmt} {wi : TID} {g : TGD} {tt : TTD} {tk tv : TED} {vs : List Nat} {i : Nat} (h : PS X st (tAsg (tDc (lI X.B W wi) (lG X.B w0 vs g) (lT X.B w0 tt) (lE X.B w0 tk) (lE X.B w0 tv) vs) (gName i))) : PS X st (lS X.B W (dAsg (dDc wi g tt tk tv vs) (gNm i))) := PS.imp h fun D σ H h => lift_dc (show lE X.B W (dDc wi g tt tk tv vs) σ H (fun x H1 => gName i x σ H1 D.nx) from lift_set h)
end
end Dt

set_option Elab.async false
set_option autoImplicit false
set_option linter.all false
set_option maxRecDepth 100000
set_option maxHeartbeats 4000000
/-! DP: what the printed walks lean on. -/
namespace Dt
open PySem PySem.Spec PyProof.Rows L2 LamX RZ PySem.P

/-- a def's promise, with what a call of it asks -/
def FnE (P : Program) (w : World) (K : PySem.W.Frag) (mg : Str → Option Value) (base : Heap) (k : Nat) (f : Addr) (ps : List Str) (sp : SpD) : Prop :=
  ∃ fd, FnOk P w K mg base CX0 k f fd ps (lSp ⟨K, P, w⟩ sp) ∧ Binds K fd ps [] ∧ PySem.W.keepIn K (.ref f) = true
def FnT (P : Program) (w : World) (K : PySem.W.Frag) (mg : Str → Option Value) (base : Heap) (k : Nat) (f : Addr) (ps : List Str) (sp : SpD) : Prop :=
  ∃ fd, FnS P w K mg base CX0 k f fd ps (lSp ⟨K, P, w⟩ sp) ∧ Binds K fd ps [] ∧ PySem.W.keepIn K (.ref f) = true
section
variable {P : Program} {w : World} {K : PySem.W.Frag} {mg : Str → Option Value} {base : Heap}
theorem in_of {X : Cx} {op : Operator} {r : R2} (h : OpR X (inplaceOp op) r) : InOp X op r := fun pins s σ H x y u v Q I rx ry q => h pins s σ H x y u v Q I rx ry q
/-- a def that raises nothing, called while no repr is under way -/
theorem fnDS {x qual : Str} {st : Stmt} {f : Addr} {fd : FuncData} {N ps : List Str} {k : Nat} {sp : SpD} {t : TSD} (F : Fun K x qual st f fd) (S : FnScope N ps (defScope st)) (len : ∀ ds M Q, sp ds M Q noX → ds.length = ps.length)
    (hbody : ∀ (cdv : Value) (A : Around) (outer : List Env) (s : Shared) (H : Hp) (E : XK), Still A → Room k (A.deeper (envOfC qual (defScope st) s.heap.objs.size f cdv)) → PSs (cxOf CX0 P w K mg base N qual (defScope st) f cdv A outer s H E).nox (defBody st) (lS ⟨K, P, w⟩ w0 t))
    (hp : ∀ ds M Q, sp ds M Q noX → t (dEnd Q noX) (startD N ds) M) : FnS P w K mg base CX0 (k + 1) f fd ps (lSp ⟨K, P, w⟩ sp) := by
  refine fnS_of F S (fun vs H Q E ⟨ds, M, Qd, dv, R, h, c⟩ => by rw [← dv.length]; exact len ds M Qd h) fun cdv A outer s H vs Q E hs hr ⟨ds, M, Qd, dv, R, h, c⟩ => ⟨_, (hbody cdv A outer s H E hs hr).nox, startD N ds, M, _, relS_start dv, R, hp ds M Qd h, ?_⟩
  exact ⟨fun σd' σ' M' H' _ R' k' q => c .non .non M' H' .non R' k' q, c, fun _ _ _ _ _ _ _ q => q.elim, fun _ _ _ _ _ _ _ q => q.elim, fun _ _ _ _ _ _ _ _ _ _ _ q => q.elim⟩
/-- a def at its place in the text -/
theorem fnE_of {x qual : Str} {st : Stmt} {f : Addr} {N ps : List Str} {k : Nat} {sp : SpD} {t : TSD} {oc : Value} {od an : Option Addr} {osl : Array (Option Value)} {kV doc pm cdv ct : Value}
    (l : K.lookup f = some ⟨oc, od, .func (PySem.W.fnOf x qual (defArgs st) (defBody st) (defScope st) .none kV doc pm an cdv ct), osl⟩) (hcd : PySem.W.codeIn K cdv qual = true) (kp : PySem.W.keepIn K (.ref f) = true) (S : FnScope N ps (defScope st)) (len : ∀ ds M Q, sp ds M Q noX → ds.length = ps.length)
    (hb : ∀ (us : List Value), us.length = ps.length → bindArgs (PySem.W.fnOf x qual (defArgs st) (defBody st) (defScope st) .none kV doc pm an cdv ct) ⟨us, []⟩ = pure (ps.zip us))
    (hbody : ∀ (cdv : Value) (A : Around) (outer : List Env) (s : Shared) (H : Hp) (E : XK), Room k (A.deeper (envOfC qual (defScope st) s.heap.objs.size f cdv)) → PSs (cxOf CX0 P w K mg base N qual (defScope st) f cdv A outer s H E).nox (defBody st) (lS ⟨K, P, w⟩ w0 t))
    (hp : ∀ ds M Q, sp ds M Q noX → t (dEnd Q noX) (startD N ds) M) : FnE P w K mg base (k + 1) f ps sp :=
  ⟨_, fnD (fun_mk l hcd kp) S len hbody hp, .all hb, kp⟩
theorem fnT_of {x qual : Str} {st : Stmt} {f : Addr} {N ps : List Str} {k : Nat} {sp : SpD} {t : TSD} {oc : Value} {od an : Option Addr} {osl : Array (Option Value)} {kV doc pm cdv ct : Value}
    (l : K.lookup f = some ⟨oc, od, .func (PySem.W.fnOf x qual (defArgs st) (defBody st) (defScope st) .none kV doc pm an cdv ct), osl⟩) (hcd : PySem.W.codeIn K cdv qual = true) (kp : PySem.W.keepIn K (.ref f) = true) (S : FnScope N ps (defScope st)) (len : ∀ ds M Q, sp ds M Q noX → ds.length = ps.length)
    (hb : ∀ (us : List Value), us.length = ps.length → bindArgs (PySem.W.fnOf x qual (defArgs st) (defBody st) (defScope st) .none kV doc pm an cdv ct) ⟨us, []⟩ = pure (ps.zip us))
    (hbody : ∀ (cdv : Value) (A : Around) (outer : List Env) (s : Shared) (H : Hp) (E : XK), Still A → Room k (A.deeper (envOfC qual (defScope st) s.heap.objs.size f cdv)) → PSs (cxOf CX0 P w K mg base N qual (defScope st) f cdv A outer s H E).nox (defBody st) (lS ⟨K, P, w⟩ w0 t))
    (hp : ∀ ds M Q, sp ds M Q noX → t (dEnd Q noX) (startD N ds) M) : FnT P w K mg base (k + 1) f ps sp :=
  ⟨_, fnDS (fun_mk l hcd kp) S len hbody hp, .all hb, kp⟩
/-- f(..) of a def that is run while no repr is under way -/
theorem de_callT {X : Cx} {W : WX} {k : Nat} {f : Addr} {fd : FuncData} {ps : List Str} {sp : SpD} {x : Str} {p pos : Pos} {e : Expr} {es : List Expr} {t : TAD} (F : FnS X.prog X.w X.K X.mg X.base CX0 k f fd ps (lSp X.B sp)) (hs : Still X.A) (hr : Room k X.A) (hg : Gl X x) (hm : X.mg x = some (.ref f)) (hk : PySem.W.keepIn X.K (.ref f) = true) (hb : Binds X.K fd ps [])
    (ha : PA X (e :: es) (lA X.B W t)) (hdb : (x == ("__debug__" : Str)) = false := by decide) (he : starEach (e :: es) X.env = (false, eval e X.env) :: starEach es X.env := by rfl) (hpl : (backTo pos (starEach es X.env)).any (·.1) = false := by rfl) :
    PE X (.Call (.Name x p) (e :: es) [] pos) (lE X.B W (dCall sp t)) := PE.imp (pe_callS (E := E0) F hs hr hg hm hk hb pass0 ha hdb he hpl) fun _ _ _ h => lift_call h
end
def isi_str (U : String) : Option Bool := if U = "str" then some true else if U = "int" then some false else if U = "NoneType" then some false else none
theorem isi_str_ok {K : PySem.W.Frag} : ∀ U b, isi_str U = some b → PySem.W.kitOne K (.type U) (.type "str") = some b := by
  intro U b h
  unfold isi_str at h
  split at h
  · rename_i e; subst e; cases h; rfl
  · split at h
    · rename_i e; subst e; cases h; rfl
    · split at h
      · rename_i e; subst e; cases h; rfl
      · cases h
def isi_int (U : String) : Option Bool := if U = "int" then some true else if U = "bool" then some true else if U = "str" then some false else if U = "NoneType" then some false else if U = "tuple" then some false else none
theorem isi_int_ok {K : PySem.W.Frag} : ∀ U b, isi_int U = some b → PySem.W.kitOne K (.type U) (.type "int") = some b := by
  intro U b h
  unfold isi_int at h
  split at h
  · rename_i e; subst e; cases h; rfl
  · split at h
    · rename_i e; subst e; cases h; rfl
    · split at h
      · rename_i e; subst e; cases h; rfl
      · split at h
        · rename_i e; subst e; cases h; rfl
        · split at h
          · rename_i e; subst e; cases h; rfl
          · cases h
def isi_bool (U : String) : Option Bool := if U = "int" then some false else if U = "bool" then some true else if U = "str" then some false else if U = "NoneType" then some false else if U = "tuple" then some false else none
theorem isi_bool_ok {K : PySem.W.Frag} : ∀ U b, isi_bool U = some b → PySem.W.kitOne K (.type U) (.type "bool") = some b := by
  intro U b h
  unfold isi_bool at h
  split at h
  · rename_i e; subst e; cases h; rfl
  · split at h
    · rename_i e; subst e; cases h; rfl
    · split at h
      · rename_i e; subst e; cases h; rfl
      · split at h
        · rename_i e; subst e; cases h; rfl
        · split at h
          · rename_i e; subst e; cases h; rfl
          · cases h
theorem boot_len : bootBuiltins "len" = some (.builtin "len") := by decide +kernel
theorem boot_abs : bootBuiltins "abs" = some (.builtin "abs") := by decide +kernel
theorem boot_repr : bootBuiltins "repr" = some (.builtin "repr") := by decide +kernel
theorem boot_sorted : bootBuiltins "sorted" = some (.builtin "sorted") := by decide +kernel
theorem boot_all : bootBuiltins "all" = some (.builtin "all") := by decide +kernel
theorem boot_any : bootBuiltins "any" = some (.builtin "any") := by decide +kernel
theorem boot_tuple : bootBuiltins "tuple" = some (.type "tuple") := by decide +kernel
theorem boot_list : bootBuiltins "list" = some (.type "list") := by decide +kernel
theorem boot_int : bootBuiltins "int" = some (.type "int") := by decide +kernel
theorem boot_str : bootBuiltins "str" = some (.type "str") := by decide +kernel
theorem boot_bool : bootBuiltins "bool" = some (.type "bool") := by decide +kernel
theorem boot_dict : bootBuiltins "dict" = some (.type "dict") := by decide +kernel
theorem boot_min : bootBuiltins "min" = some (.builtin "min") := by decide +kernel
theorem boot_max : bootBuiltins "max" = some (.builtin "max") := by decide +kernel
theorem boot_isinstance : bootBuiltins "isinstance" = some (.builtin "isinstance") := by decide +kernel
end Dt

set_option Elab.async false
set_option autoImplicit false
set_option linter.all false
set_option maxRecDepth 100000
set_option maxHeartbeats 4000000
/-! DQ: how a reading is shown: what memory keeps, loops by invariants. -/
namespace Dt
open PySem PySem.Spec PyProof.Rows L2 LamX RZ PySem.P

/-- M' has all that M has -/
def Ext (M M' : DM) : Prop := ∀ a o, M a = some o → M' a = some o
theorem Ext.refl {M : DM} : Ext M M := fun _ _ h => h
theorem Ext.trans {M M1 M2 : DM} (h : Ext M M1) (g : Ext M1 M2) : Ext M M2 := fun a o e => g a o (h a o e)
theorem Ext.alloc {M M1 : DM} (h : Ext M M1) {p : Addr} (hp : M1 p = none) (o : DO) : Ext M (put M1 p o) := fun a u e => by
  have e1 := h a u e
  rw [put_ne (fun z => by rw [z, hp] at e1; cases e1)]
  exact e1
theorem Ext.new {M : DM} {p : Addr} (hp : M p = none) (o : DO) : Ext M (put M p o) := Ext.refl.alloc hp o
theorem ne_of_new {M : DM} {a p : Addr} {o : DO} (e : M a = some o) (hp : M p = none) : a ≠ p := fun z => by rw [z, hp] at e; cases e
/-- the same address written on both sides -/
theorem Ext.both {M M1 : DM} (h : Ext M M1) (a : Addr) (o : DO) : Ext (put M a o) (put M1 a o) := fun b u e => by
  by_cases hb : b = a
  · subst hb; rw [put_same] at e ⊢; exact e
  · rw [put_ne hb] at e ⊢; exact h b u e
/-- all but what stands at a -/
def ExtBut (a : Addr) (M M' : DM) : Prop := ∀ b o, b ≠ a → M b = some o → M' b = some o

/-! ### loops -/
def qKp (P R : DM → Prop) : Bool → DM → Prop := fun b M => match b with
  | true => P M
  | false => R M
theorem for_inv {J : ItD} {g : TGD} {tb : TSD} {en eb ec : Std → DM → Prop} {er : DQ} {ex : Std → DX} {σ : Std} {M : DM} (ds : List Dt.D) (I : Nat → Std → DM → Prop) (hJ : ∀ i σ' M', I i σ' M' → i ≤ ds.length → J i M' = some ds[i]?) (h0 : I 0 σ M)
    (step : ∀ i d σ' M', ds[i]? = some d → I i σ' M' → ∀ K : Std → DM → Prop, (∀ σ2 M2, I (i + 1) σ2 M2 → K σ2 M2) → g d σ' M' (fun σ2 M2 => tb ⟨K, er, en, K, ex⟩ σ2 M2) (ex σ'))
    (done : ∀ σ' M', I ds.length σ' M' → en σ' M') : ∃ n, forN J g tb ⟨en, er, eb, ec, ex⟩ n 0 σ M := by
  have all : ∀ n i σ' M', i ≤ ds.length → n = ds.length - i + 1 → I i σ' M' → forN J g tb ⟨en, er, eb, ec, ex⟩ n i σ' M' := by
    intro n
    induction n with
    | zero => intro i _ _ _ hn; omega
    | succ n ih =>
      intro i σ' M' hi hn h
      unfold forN
      rw [hJ i σ' M' h hi]
      by_cases hl : i < ds.length
      · rw [List.getElem?_eq_getElem hl]
        exact step i _ σ' M' (List.getElem?_eq_getElem hl) h _ fun σ2 M2 h2 => ih (i + 1) σ2 M2 hl (by omega) h2
      · rw [List.getElem?_eq_none_iff.mpr (by omega)]
        have e : i = ds.length := by omega
        subst e
        exact done σ' M' h
  exact ⟨_, all _ 0 σ M (Nat.zero_le _) rfl h0⟩
theorem lc_inv {J : ItD} {g : TGD} {tt : TTD} {te : TED} {vs : List Nat} {σ : Std} {Q : DQ} {M : DM} (ds : List D) (I : Nat → List D → DM → Prop) (hJ : ∀ i acc M', I i acc M' → i ≤ ds.length → J i M' = some ds[i]?) (h0 : I 0 [] M)
    (hz : ds.length ≤ sizeLine) (hb : ∀ i acc M', I i acc M' → acc.length ≤ i)
    (step : ∀ i d acc M', ds[i]? = some d → I i acc M' → ∀ (KT : DQ) (KF : DM → Prop), (∀ y M2, I (i + 1) (acc ++ [y]) M2 → KT y M2) → (∀ M2, I (i + 1) acc M2 → KF M2) →
      g d (wipeS σ vs) M' (fun σ2 M2 => tt σ2 M2 (qKp (fun M3 => te σ2 M3 KT noX) KF) noX) noX)
    (done : ∀ acc M' p, I ds.length acc M' → M' p = none → Q (.ref p) (put M' p (.lst acc))) : ∃ n, lcN J g tt te vs σ Q n 0 M [] := by
  have all : ∀ n i acc M', i ≤ ds.length → n = ds.length - i + 1 → I i acc M' → lcN J g tt te vs σ Q n i M' acc := by
    intro n
    induction n with
    | zero => intro i _ _ _ hn; omega
    | succ n ih =>
      intro i acc M' hi hn h
      unfold lcN
      rw [hJ i acc M' h hi]
      by_cases hl : i < ds.length
      · rw [List.getElem?_eq_getElem hl]
        have ha := hb i acc M' h
        exact step i _ acc M' (List.getElem?_eq_getElem hl) h _ _ (fun y M2 h2 => ⟨by omega, ih (i + 1) _ M2 hl (by omega) h2⟩) fun M2 h2 => ih (i + 1) acc M2 hl (by omega) h2
      · rw [List.getElem?_eq_none_iff.mpr (by omega)]
        have e : i = ds.length := by omega
        subst e
        exact fun p hp => done acc M' p h hp
  exact ⟨_, all _ 0 [] M (Nat.zero_le _) rfl h0⟩
theorem dc_inv {J : ItD} {g : TGD} {tt : TTD} {tk tv : TED} {vs : List Nat} {σ : Std} {Q : DQ} {M : DM} (ds : List D) (I : Nat → List (Key × D) → DM → Prop) (hJ : ∀ i acc M', I i acc M' → i ≤ ds.length → J i M' = some ds[i]?) (h0 : I 0 [] M)
    (hz : ds.length ≤ sizeLine) (hb : ∀ i acc M', I i acc M' → acc.length ≤ i)
    (step : ∀ i d acc M', ds[i]? = some d → I i acc M' → ∀ (KT : D → D → DM → Prop) (KF : DM → Prop), (∀ y z k M2, KeyD y = some k → I (i + 1) (putD acc k z) M2 → KT y z M2) → (∀ M2, I (i + 1) acc M2 → KF M2) →
      g d (wipeS σ vs) M' (fun σ2 M2 => tt σ2 M2 (qKp (fun M3 => tk σ2 M3 (fun y M4 => tv σ2 M4 (fun z M5 => KT y z M5) noX) noX) KF) noX) noX)
    (done : ∀ acc M' p, I ds.length acc M' → M' p = none → Q (.ref p) (put M' p (.dK acc))) : ∃ n, dcN J g tt tk tv vs σ Q n 0 M [] := by
  have all : ∀ n i acc M', i ≤ ds.length → n = ds.length - i + 1 → I i acc M' → dcN J g tt tk tv vs σ Q n i M' acc := by
    intro n
    induction n with
    | zero => intro i _ _ _ hn; omega
    | succ n ih =>
      intro i acc M' hi hn h
      unfold dcN
      rw [hJ i acc M' h hi]
      by_cases hl : i < ds.length
      · rw [List.getElem?_eq_getElem hl]
        have ha := hb i acc M' h
        exact step i _ acc M' (List.getElem?_eq_getElem hl) h _ _ (fun y z k M2 hk h2 => ⟨k, hk, by omega, ih (i + 1) _ M2 hl (by omega) h2⟩) fun M2 h2 => ih (i + 1) acc M2 hl (by omega) h2
      · rw [List.getElem?_eq_none_iff.mpr (by omega)]
        have e : i = ds.length := by omega
        subst e
        exact fun p hp => done acc M' p h hp
  exact ⟨_, all _ 0 [] M (Nat.zero_le _) rfl h0⟩
/-- the inner clause -/
theorem lc2In_inv {J : ItD} {g : TGD} {tt : TTD} {te : TED} {vs : List Nat} {σ : Std} {C : DM → List D → Prop} {M : DM} {acc0 : List D} (ds : List D) (I : Nat → List D → DM → Prop) (hJ : ∀ i acc M', I i acc M' → i ≤ ds.length → J i M' = some ds[i]?) (h0 : I 0 acc0 M)
    (hb : ∀ i acc M', I i acc M' → i < ds.length → acc.length < sizeLine)
    (step : ∀ i d acc M', ds[i]? = some d → I i acc M' → ∀ (KT : DQ) (KF : DM → Prop), (∀ y M2, I (i + 1) (acc ++ [y]) M2 → KT y M2) → (∀ M2, I (i + 1) acc M2 → KF M2) →
      g d (wipeS σ vs) M' (fun σ2 M2 => tt σ2 M2 (qKp (fun M3 => te σ2 M3 KT noX) KF) noX) noX)
    (done : ∀ acc M', I ds.length acc M' → C M' acc) : ∃ n, lc2In J g tt te vs σ C n 0 M acc0 := by
  have all : ∀ n i acc M', i ≤ ds.length → n = ds.length - i + 1 → I i acc M' → lc2In J g tt te vs σ C n i M' acc := by
    intro n
    induction n with
    | zero => intro i _ _ _ hn; omega
    | succ n ih =>
      intro i acc M' hi hn h
      unfold lc2In
      rw [hJ i acc M' h hi]
      by_cases hl : i < ds.length
      · rw [List.getElem?_eq_getElem hl]
        have ha := hb i acc M' h hl
        exact step i _ acc M' (List.getElem?_eq_getElem hl) h _ _ (fun y M2 h2 => ⟨ha, ih (i + 1) _ M2 hl (by omega) h2⟩) fun M2 h2 => ih (i + 1) acc M2 hl (by omega) h2
      · rw [List.getElem?_eq_none_iff.mpr (by omega)]
        have e : i = ds.length := by omega
        subst e
        exact done acc M' h
  exact ⟨_, all _ 0 acc0 M (Nat.zero_le _) rfl h0⟩
theorem lc2_inv {J : ItD} {g : TGD} {tt : TTD} {wi1 : TID} {g1 : TGD} {tt1 : TTD} {te : TED} {vs vs1 : List Nat} {σ : Std} {Q : DQ} {M : DM} (ds : List D) (I : Nat → List D → DM → Prop) (hJ : ∀ i acc M', I i acc M' → i ≤ ds.length → J i M' = some ds[i]?) (h0 : I 0 [] M)
    (step : ∀ i d acc M', ds[i]? = some d → I i acc M' → ∀ (C : DM → List D → Prop), (∀ acc2 M2, I (i + 1) acc2 M2 → C M2 acc2) →
      g d (wipeS σ vs) M' (fun σ2 M2 => tt σ2 M2 (qKp (fun M3 => wi1 σ2 M3 (fun J1 M4 => ∃ k, lc2In J1 g1 tt1 te vs1 σ2 C k 0 M4 acc) noX) (fun M3 => C M3 acc)) noX) noX)
    (done : ∀ acc M' p, I ds.length acc M' → M' p = none → Q (.ref p) (put M' p (.lst acc))) : ∃ n, lc2Out J g tt wi1 g1 tt1 te vs vs1 σ Q n 0 M [] := by
  have all : ∀ n i acc M', i ≤ ds.length → n = ds.length - i + 1 → I i acc M' → lc2Out J g tt wi1 g1 tt1 te vs vs1 σ Q n i M' acc := by
    intro n
    induction n with
    | zero => intro i _ _ _ hn; omega
    | succ n ih =>
      intro i acc M' hi hn h
      unfold lc2Out
      rw [hJ i acc M' h hi]
      by_cases hl : i < ds.length
      · rw [List.getElem?_eq_getElem hl]
        exact step i _ acc M' (List.getElem?_eq_getElem hl) h _ fun acc2 M2 h2 => ih (i + 1) acc2 M2 hl (by omega) h2
      · rw [List.getElem?_eq_none_iff.mpr (by omega)]
        have e : i = ds.length := by omega
        subst e
        exact fun p hp => done acc M' p h hp
  exact ⟨_, all _ 0 [] M (Nat.zero_le _) rfl h0⟩
theorem dc2In_inv {J : ItD} {g : TGD} {tt : TTD} {tk tv : TED} {vs : List Nat} {σ : Std} {C : DM → List (Key × D) → Prop} {M : DM} {acc0 : List (Key × D)} (ds : List D) (I : Nat → List (Key × D) → DM → Prop) (hJ : ∀ i acc M', I i acc M' → i ≤ ds.length → J i M' = some ds[i]?) (h0 : I 0 acc0 M)
    (hb : ∀ i acc M', I i acc M' → i < ds.length → acc.length < sizeLine)
    (step : ∀ i d acc M', ds[i]? = some d → I i acc M' → ∀ (KT : D → D → DM → Prop) (KF : DM → Prop), (∀ y z k M2, KeyD y = some k → I (i + 1) (putD acc k z) M2 → KT y z M2) → (∀ M2, I (i + 1) acc M2 → KF M2) →
      g d (wipeS σ vs) M' (fun σ2 M2 => tt σ2 M2 (qKp (fun M3 => tk σ2 M3 (fun y M4 => tv σ2 M4 (fun z M5 => KT y z M5) noX) noX) KF) noX) noX)
    (done : ∀ acc M', I ds.length acc M' → C M' acc) : ∃ n, dc2In J g tt tk tv vs σ C n 0 M acc0 := by
  have all : ∀ n i acc M', i ≤ ds.length → n = ds.length - i + 1 → I i acc M' → dc2In J g tt tk tv vs σ C n i M' acc := by
    intro n
    induction n with
    | zero => intro i _ _ _ hn; omega
    | succ n ih =>
      intro i acc M' hi hn h
      unfold dc2In
      rw [hJ i acc M' h hi]
      by_cases hl : i < ds.length
      · rw [List.getElem?_eq_getElem hl]
        have ha := hb i acc M' h hl
        exact step i _ acc M' (List.getElem?_eq_getElem hl) h _ _ (fun y z k M2 hk h2 => ⟨k, hk, ha, ih (i + 1) _ M2 hl (by omega) h2⟩) fun M2 h2 => ih (i + 1) acc M2 hl (by omega) h2
      · rw [List.getElem?_eq_none_iff.mpr (by omega)]
        have e : i = ds.length := by omega
        subst e
        exact done acc M' h
  exact ⟨_, all _ 0 acc0 M (Nat.zero_le _) rfl h0⟩
theorem dc2_inv {J : ItD} {g : TGD} {tt : TTD} {wi1 : TID} {g1 : TGD} {tt1 : TTD} {tk tv : TED} {vs vs1 : List Nat} {σ : Std} {Q : DQ} {M : DM} (ds : List D) (I : Nat → List (Key × D) → DM → Prop) (hJ : ∀ i acc M', I i acc M' → i ≤ ds.length → J i M' = some ds[i]?) (h0 : I 0 [] M)
    (step : ∀ i d acc M', ds[i]? = some d → I i acc M' → ∀ (C : DM → List (Key × D) → Prop), (∀ acc2 M2, I (i + 1) acc2 M2 → C M2 acc2) →
      g d (wipeS σ vs) M' (fun σ2 M2 => tt σ2 M2 (qKp (fun M3 => wi1 σ2 M3 (fun J1 M4 => ∃ k, dc2In J1 g1 tt1 tk tv vs1 σ2 C k 0 M4 acc) noX) (fun M3 => C M3 acc)) noX) noX)
    (done : ∀ acc M' p, I ds.length acc M' → M' p = none → Q (.ref p) (put M' p (.dK acc))) : ∃ n, dc2Out J g tt wi1 g1 tt1 tk tv vs vs1 σ Q n 0 M [] := by
  have all : ∀ n i acc M', i ≤ ds.length → n = ds.length - i + 1 → I i acc M' → dc2Out J g tt wi1 g1 tt1 tk tv vs vs1 σ Q n i M' acc := by
    intro n
    induction n with
    | zero => intro i _ _ _ hn; omega
    | succ n ih =>
      intro i acc M' hi hn h
      unfold dc2Out
      rw [hJ i acc M' h hi]
      by_cases hl : i < ds.length
      · rw [List.getElem?_eq_getElem hl]
        exact step i _ acc M' (List.getElem?_eq_getElem hl) h _ fun acc2 M2 h2 => ih (i + 1) acc2 M2 hl (by omega) h2
      · rw [List.getElem?_eq_none_iff.mpr (by omega)]
        have e : i = ds.length := by omega
        subst e
        exact fun p hp => done acc M' p h hp
  exact ⟨_, all _ 0 [] M (Nat.zero_le _) rfl h0⟩
/-- while, by a number that falls -/
theorem wh_inv {tc : TTD} {tb : TSD} {en eb ec : Std → DM → Prop} {er : DQ} {ex : Std → DX} {σ : Std} {M : DM} (I : Nat → Std → DM → Prop) (m : Nat) (h0 : I m σ M)
    (step : ∀ m σ' M', I m σ' M' → ∀ K : Std → DM → Prop, (∀ m2 σ2 M2, m2 < m → I m2 σ2 M2 → K σ2 M2) → tc σ' M' (qKp (fun M1 => tb ⟨K, er, en, K, ex⟩ σ' M1) (fun M1 => en σ' M1)) (ex σ')) : dWhile tc tb ⟨en, er, eb, ec, ex⟩ σ M := by
  have all : ∀ n m σ' M', m < n → I m σ' M' → whN tc tb ⟨en, er, eb, ec, ex⟩ n σ' M' := by
    intro n
    induction n with
    | zero => intro m _ _ h; omega
    | succ n ih =>
      intro m σ' M' hm h
      unfold whN
      exact step m σ' M' h _ fun m2 σ2 M2 h2 hi => ih m2 σ2 M2 (by omega) hi
  exact ⟨m + 1, all (m + 1) m σ M (Nat.lt_succ_self m) h0⟩
end Dt

set_option Elab.async false
set_option autoImplicit false
set_option linter.all false
set_option maxRecDepth 100000
set_option maxHeartbeats 4000000
/-! DR: plain Lean values as data: what ==, in, <, repr answer of them. -/
namespace Dt
open PySem PySem.Spec PyProof.Rows L2 LamX RZ PySem.P

class Enc (α : Type) where
  d : α → D
  p : α → PyData
  dep : Nat
  of : ∀ (M : DM) (n : Nat) (a : α), dep ≤ n → PyOf M n (d a) (p a)
  eqv : ∀ a b : α, PyData.eqv (p a) (p b) = true ↔ a = b
@[reducible] instance encStr : Enc Str where
  d := D.str
  p := PyData.str
  dep := 0
  of := fun _ _ _ _ => .str
  eqv := fun a b => by simp [PyData.eqv]
@[reducible] instance encInt : Enc Int where
  d := D.int
  p := PyData.int
  dep := 0
  of := fun _ _ _ _ => .int
  eqv := fun a b => by simp [PyData.eqv]
@[reducible] instance encBool : Enc Bool where
  d := D.bl
  p := PyData.bool
  dep := 0
  of := fun _ _ _ _ => .bl
  eqv := fun a b => by simp [PyData.eqv]
section
variable {α β : Type} [Enc α] [Enc β]
theorem pyOfs_map (M : DM) (n : Nat) (h : Enc.dep α ≤ n) : ∀ xs : List α, PyOfs M n (xs.map Enc.d) (xs.map Enc.p)
  | [] => .nil
  | x :: xs => .cons (Enc.of M n x h) (pyOfs_map M n h xs)
theorem eqvAll_map : ∀ xs ys : List α, PyData.eqvAll (xs.map Enc.p) (ys.map Enc.p) = true ↔ xs = ys
  | [], [] => by simp [PyData.eqvAll]
  | [], _ :: _ => by simp [PyData.eqvAll]
  | _ :: _, [] => by simp [PyData.eqvAll]
  | x :: xs, y :: ys => by simp only [List.map_cons, PyData.eqvAll, Bool.and_eq_true, Enc.eqv, eqvAll_map xs ys, List.cons.injEq]
@[reducible] instance encList : Enc (List α) where
  d := fun xs => D.tup (xs.map Enc.d)
  p := fun xs => PyData.tuple (xs.map Enc.p)
  dep := Enc.dep α + 1
  of := fun M n xs h => by
    cases n with
    | zero => omega
    | succ n => exact .tup (pyOfs_map M n (by omega) xs)
  eqv := fun a b => by rw [PyData.eqv, eqvAll_map]
@[reducible] instance encProd : Enc (α × β) where
  d := fun x => D.tup [Enc.d x.1, Enc.d x.2]
  p := fun x => PyData.tuple [Enc.p x.1, Enc.p x.2]
  dep := max (Enc.dep α) (Enc.dep β) + 1
  of := fun M n x h => by
    cases n with
    | zero => omega
    | succ n => exact .tup (.cons (Enc.of M n _ (by omega)) (.cons (Enc.of M n _ (by omega)) .nil))
  eqv := fun a b => by
    obtain ⟨a1, a2⟩ := a
    obtain ⟨b1, b2⟩ := b
    simp only [PyData.eqv, PyData.eqvAll, Bool.and_eq_true, Bool.and_true, Enc.eqv, Prod.mk.injEq]
/-- none, or a value that is not none -/
theorem eqv_b {a b : α} {c : Bool} (hc : c = true ↔ a = b) : PyData.eqv (Enc.p a) (Enc.p b) = c := by
  rw [Bool.eq_iff_iff, Enc.eqv, hc]
variable {M : DM} {Q : DQ}
theorem eq_enc {a b : α} {c : Bool} (hc : c = true ↔ a = b) (h : Enc.dep α ≤ 20) (q : Q (.bl c) M) : eqD (Enc.d a) (Enc.d b) M Q :=
  ⟨_, _, Enc.of M 20 a h, Enc.of M 20 b h, by simp only []; rw [eqv_b hc]; exact q⟩
theorem ne_enc {a b : α} {c : Bool} (hc : c = true ↔ a = b) (h : Enc.dep α ≤ 20) (q : Q (.bl (!c)) M) : neD (Enc.d a) (Enc.d b) M Q :=
  ⟨_, _, Enc.of M 20 a h, Enc.of M 20 b h, by simp only []; rw [eqv_b hc]; exact q⟩
theorem any_mem {a : α} {xs : List α} {b : Bool} (hb : b = true ↔ a ∈ xs) : ((xs.map Enc.p).any fun z => PyData.eqv z (Enc.p a)) = b := by
  rw [Bool.eq_iff_iff, List.any_eq_true, hb]
  constructor
  · rintro ⟨z, hz, e⟩
    obtain ⟨c, hc, rfl⟩ := List.mem_map.mp hz
    rw [Enc.eqv] at e
    subst e; exact hc
  · intro h
    exact ⟨_, List.mem_map_of_mem h, (Enc.eqv a a).mpr rfl⟩
theorem mem_enc {a : α} {xs : List α} {b : Bool} (hb : b = true ↔ a ∈ xs) (h : Enc.dep α ≤ 20) (q : Q (.bl b) M) : memD false (Enc.d a) (.tup (xs.map Enc.d)) M Q :=
  ⟨_, _, _, .inl rfl, Enc.of M 20 a h, pyOfs_map M 20 h xs, by rw [any_mem hb]; exact q⟩
theorem nmem_enc {a : α} {xs : List α} {b : Bool} (hb : b = true ↔ a ∈ xs) (h : Enc.dep α ≤ 20) (q : Q (.bl (!b)) M) : memD true (Enc.d a) (.tup (xs.map Enc.d)) M Q :=
  ⟨_, _, _, .inl rfl, Enc.of M 20 a h, pyOfs_map M 20 h xs, by rw [any_mem hb]; exact q⟩
theorem mem_encL {a : α} {xs : List α} {l : Addr} {b : Bool} (e : M l = some (.lst (xs.map Enc.d))) (hb : b = true ↔ a ∈ xs) (h : Enc.dep α ≤ 20) (q : Q (.bl b) M) : memD false (Enc.d a) (.ref l) M Q :=
  ⟨_, _, _, .inr ⟨l, rfl, e⟩, Enc.of M 20 a h, pyOfs_map M 20 h xs, by rw [any_mem hb]; exact q⟩
theorem nmem_encL {a : α} {xs : List α} {l : Addr} {b : Bool} (e : M l = some (.lst (xs.map Enc.d))) (hb : b = true ↔ a ∈ xs) (h : Enc.dep α ≤ 20) (q : Q (.bl (!b)) M) : memD true (Enc.d a) (.ref l) M Q :=
  ⟨_, _, _, .inr ⟨l, rfl, e⟩, Enc.of M 20 a h, pyOfs_map M 20 h xs, by rw [any_mem hb]; exact q⟩
/-- two lists -/
theorem eq_encL {xs ys : List α} {l k : Addr} {c : Bool} (e : M l = some (.lst (xs.map Enc.d))) (e2 : M k = some (.lst (ys.map Enc.d))) (hc : c = true ↔ xs = ys) (h : Enc.dep α ≤ 19) (q : Q (.bl c) M) : eqD (.ref l) (.ref k) M Q :=
  ⟨_, _, .lst e (pyOfs_map M 19 h xs), .lst e2 (pyOfs_map M 19 h ys), by
    have : PyData.eqv (.list (xs.map Enc.p)) (.list (ys.map Enc.p)) = c := by rw [Bool.eq_iff_iff, PyData.eqv, eqvAll_map, hc]
    simp only []; rw [this]; exact q⟩
theorem ne_encL {xs ys : List α} {l k : Addr} {c : Bool} (e : M l = some (.lst (xs.map Enc.d))) (e2 : M k = some (.lst (ys.map Enc.d))) (hc : c = true ↔ xs = ys) (h : Enc.dep α ≤ 19) (q : Q (.bl (!c)) M) : neD (.ref l) (.ref k) M Q :=
  ⟨_, _, .lst e (pyOfs_map M 19 h xs), .lst e2 (pyOfs_map M 19 h ys), by
    have : PyData.eqv (.list (xs.map Enc.p)) (.list (ys.map Enc.p)) = c := by rw [Bool.eq_iff_iff, PyData.eqv, eqvAll_map, hc]
    simp only []; rw [this]; exact q⟩
end
section
variable {M : DM} {Q : DQ} {i j : Int}
theorem lt_int (q : Q (.bl (decide (i < j))) M) : ltD (.int i) (.int j) M Q := ⟨_, _, .int, .int, rfl, (fun z => nomatch z), by simp only []; rw [PySem.W.dataLt_int]; exact q⟩
theorem gt_int (q : Q (.bl (decide (j < i))) M) : gtD (.int i) (.int j) M Q := ⟨_, _, .int, .int, rfl, (fun z => nomatch z), by simp only []; rw [PySem.W.dataLt_int]; exact q⟩
theorem le_int (q : Q (.bl (decide (i ≤ j))) M) : leD (.int i) (.int j) M Q := ⟨_, _, .int, .int, rfl, (fun z => nomatch z), by
  simp only []; rw [PySem.W.dataLt_int]
  have e : (!decide (j < i)) = decide (i ≤ j) := by rw [Bool.eq_iff_iff]; simp
  rw [e]; exact q⟩
theorem ge_int (q : Q (.bl (decide (j ≤ i))) M) : geD (.int i) (.int j) M Q := ⟨_, _, .int, .int, rfl, (fun z => nomatch z), by
  simp only []; rw [PySem.W.dataLt_int]
  have e : (!decide (i < j)) = decide (j ≤ i) := by rw [Bool.eq_iff_iff]; simp
  rw [e]; exact q⟩
theorem eq_int (q : Q (.bl (decide (i = j))) M) : eqD (.int i) (.int j) M Q := eq_enc (α := Int) decide_eq_true_iff (by decide) q
theorem ne_int (q : Q (.bl (!decide (i = j))) M) : neD (.int i) (.int j) M Q := ne_enc (α := Int) decide_eq_true_iff (by decide) q
theorem eq_str {a b : Str} (q : Q (.bl (decide (a = b))) M) : eqD (.str a) (.str b) M Q := eq_enc (α := Str) decide_eq_true_iff (by decide) q
theorem ne_str {a b : Str} (q : Q (.bl (!decide (a = b))) M) : neD (.str a) (.str b) M Q := ne_enc (α := Str) decide_eq_true_iff (by decide) q
theorem add_int (q : Q (.int (i + j)) M) : addD (.int i) (.int j) M Q := q
theorem add_tup {xs ys : List D} (h : xs.length + ys.length ≤ sizeLine) (q : Q (.tup (xs ++ ys)) M) : addD (.tup xs) (.tup ys) M Q := ⟨h, q⟩
theorem atI_nat {α : Type} {xs : List α} {n : Nat} {x : α} (h : xs[n]? = some x) : atI xs (n : Int) = some x := by
  have hn : n < xs.length := (List.getElem?_eq_some_iff.mp h).1
  unfold atI ixN
  rw [if_pos (by omega), if_pos (by omega)]
  exact h
theorem ix_tup {xs : List D} {n : Nat} {x : D} (h : xs[n]? = some x) (q : Q x M) : ixD (.tup xs) (.int (n : Int)) M Q := ⟨x, atI_nat h, q⟩
theorem ix_lst {a : Addr} {xs : List D} {n : Nat} {x : D} (e : M a = some (.lst xs)) (h : xs[n]? = some x) (q : Q x M) : ixD (.ref a) (.int (n : Int)) M Q := ⟨xs, x, e, atI_nat h, q⟩
theorem cut_from {α : Type} (xs : List α) (n : Nat) : cutD xs (some (n : Int)) none = xs.drop n := by
  unfold cutD
  rw [HT.sIx_nat, HT.sIx_none]
  by_cases h : n ≤ xs.length
  · rw [Nat.min_eq_left h, List.take_of_length_le (by simp)]
  · rw [Nat.min_eq_right (by omega)]; simp; omega
theorem cut_to {α : Type} (xs : List α) (n : Nat) : cutD xs none (some (n : Int)) = xs.take n := by
  unfold cutD
  rw [HT.sIx_nat, HT.sIx_none]
  simp only [List.drop_zero, Nat.sub_zero]
  by_cases h : n ≤ xs.length
  · rw [Nat.min_eq_left h]
  · rw [Nat.min_eq_right (by omega), List.take_of_length_le (Nat.le_of_lt (Nat.lt_of_not_le h))]; simp
end
/-! ### what a list hands out -/
theorem itT_at (ds : List D) (i : Nat) (M : DM) : itT ds i M = some ds[i]? := rfl
theorem itL_is {a : Addr} {M : DM} {ds : List D} (e : M a = some (.lst ds)) (i : Nat) : itL a i M = some ds[i]? := by unfold itL; rw [e]
theorem itR_at (lo : Int) (n i : Nat) (M : DM) (h : i ≤ n) : itR lo n i M = some ((List.map (fun k : Nat => D.int (lo + (k : Int))) (List.range n))[i]?) := by
  unfold itR
  rw [List.getElem?_map]
  by_cases hi : i < n
  · rw [if_pos hi, List.getElem?_range hi]; rfl
  · rw [if_neg hi, List.getElem?_eq_none_iff.mpr (by simpa using hi)]; rfl
/-- a list's elements with their numbers -/
def numD (ds : List D) : List D := (ds.zipIdx).map fun p => D.pair [.int (p.2 : Nat), p.1]
theorem itE_at {J : ItD} {i : Nat} {M : DM} {ds : List D} (h : J i M = some ds[i]?) : itE J i M = some (numD ds)[i]? := by
  unfold itE numD
  rw [h, List.getElem?_map, List.getElem?_zipIdx]
  cases ds[i]? with
  | none => rfl
  | some d => simp
theorem numD_length (ds : List D) : (numD ds).length = ds.length := by simp [numD]
theorem numD_get {ds : List D} {i : Nat} {d : D} (h : (numD ds)[i]? = some d) : ∃ x, ds[i]? = some x ∧ d = .pair [.int (i : Nat), x] := by
  unfold numD at h
  rw [List.getElem?_map, List.getElem?_zipIdx] at h
  cases e : ds[i]? with
  | none => rw [e] at h; cases h
  | some x => rw [e] at h; simp at h; exact ⟨x, rfl, h.symm⟩
/-! ### comprehensions that change nothing but their list -/
section
variable {α : Type} {J : ItD} {g : TGD} {tt : TTD} {te : TED} {vs : List Nat} {σ : Std} {Q : DQ} {M : DM}
theorem take_succ_get {α : Type} {xs : List α} {i : Nat} {x : α} (h : xs[i]? = some x) : xs.take (i + 1) = xs.take i ++ [x] := by
  rw [List.take_add_one, h]; rfl
theorem lc_pure (xs : List α) (f : α → D) (keep : α → Bool) (out : α → D) (hJ : ∀ i M', Ext M M' → i ≤ xs.length → J i M' = some (xs.map f)[i]?) (hz : xs.length ≤ sizeLine)
    (step : ∀ (i : Nat) (x : α) (M' : DM), xs[i]? = some x → Ext M M' → ∀ (KT : DQ) (KF : DM → Prop), (keep x = true → ∀ M2, Ext M M2 → KT (out x) M2) → (keep x = false → ∀ M2, Ext M M2 → KF M2) →
      g (f x) (wipeS σ vs) M' (fun σ2 M2 => tt σ2 M2 (qKp (fun M3 => te σ2 M3 KT noX) KF) noX) noX)
    (done : ∀ M' p, Ext M M' → M' p = none → Q (.ref p) (put M' p (.lst ((xs.filter keep).map out)))) : ∃ n, lcN J g tt te vs σ Q n 0 M [] := by
  refine lc_inv (xs.map f) (fun i acc M' => Ext M M' ∧ acc = ((xs.take i).filter keep).map out) (fun i acc M' h hi => hJ i M' h.1 (by simpa using hi)) ⟨.refl, by simp⟩ (by simpa using hz) (fun i acc M' h => ?_) (fun i d acc M' hd h KT KF kt kf => ?_) (fun acc M' p h hp => ?_)
  · rw [h.2, List.length_map]
    exact Nat.le_trans (List.length_filter_le _ _) (by rw [List.length_take]; exact Nat.min_le_left _ _)
  · rw [List.getElem?_map] at hd
    cases hx : xs[i]? with
    | none => rw [hx] at hd; cases hd
    | some x =>
      rw [hx] at hd; cases hd
      refine step i x M' hx h.1 KT KF (fun hk M2 e => kt _ _ ⟨e, ?_⟩) (fun hk M2 e => kf _ ⟨e, ?_⟩)
      · rw [take_succ_get hx, List.filter_append, List.map_append, h.2]; simp [hk]
      · rw [take_succ_get hx, List.filter_append, List.map_append, h.2]; simp [hk]
  · have := done M' p h.1 hp
    rw [h.2, show (xs.map f).length = xs.length from by simp, List.take_length]
    exact this
end
/-! ### opening a reading -/
section
variable {M : DM} {Q : DQ} {σ : Std} {E : DX} {wi wi1 : TID} {g g1 : TGD} {tt tt1 : TTD} {te tk tv : TED} {vs vs1 : List Nat} {De : DEnds} {tb : TSD}
theorem w_lc (h : wi σ M (fun J M1 => ∃ n, lcN J g tt te vs σ Q n 0 M1 []) E) : dLc wi g tt te vs σ M Q E := h
theorem w_lc2 (h : wi σ M (fun J M1 => ∃ n, lc2Out J g tt wi1 g1 tt1 te vs vs1 σ Q n 0 M1 []) E) : dLc2 wi g tt wi1 g1 tt1 te vs vs1 σ M Q E := h
theorem w_dc (h : wi σ M (fun J M1 => ∃ n, dcN J g tt tk tv vs σ Q n 0 M1 []) E) : dDc wi g tt tk tv vs σ M Q E := h
theorem w_dc2 (h : wi σ M (fun J M1 => ∃ n, dc2Out J g tt wi1 g1 tt1 tk tv vs vs1 σ Q n 0 M1 []) E) : dDc2 wi g tt wi1 g1 tt1 tk tv vs vs1 σ M Q E := h
theorem w_for (h : wi σ M (fun J M1 => ∃ n, forN J g tb De n 0 σ M1) (De.ex σ)) : dFor wi g tb De σ M := h
theorem w_make {C : Addr} {sp : SpD} {t : TAD} (h : t σ M (fun ds M1 => ∀ x, M1 x = none → sp (.ref x :: ds) (put M1 x (.ins C [])) (fun v M2 => v = .non ∧ Q (.ref x) M2) noX) E) : dMake C sp t σ M Q E := h
theorem w_meth {C : Addr} {m : Str} {sp : SpD} {ta : TED} {ts : TAD}
    (h : ta σ M (fun d M1 => ∃ a fs, d = .ref a ∧ M1 a = some (.ins C fs) ∧ lookD m fs = none ∧ ts σ M1 (fun ds M2 => sp (d :: ds) M2 Q noX) E) E) : dMeth C m sp ta ts σ M Q E := h
theorem w_tup {t : TAD} (h : t σ M (fun ds M1 => ds.length ≤ sizeLine ∧ Q (.tup ds) M1) E) : dTup t σ M Q E := h
theorem w_lst {t : TAD} (h : t σ M (fun ds M1 => ds.length ≤ sizeLine ∧ ∀ p, M1 p = none → Q (.ref p) (put M1 p (.lst ds))) E) : dLst t σ M Q E := h
theorem w_fldS {K : Bd} {f : Str} {ta : TED} (h : te σ M (fun v M1 => ta σ M1 (fun d M2 => ∃ a C fs, d = .ref a ∧ M2 a = some (.ins C fs) ∧ Cls K C ∧ NoAttr K C f ∧ fs.length < 1000 ∧ De.nx σ (put M2 a (.ins C (putFD f v fs)))) (De.ex σ)) (De.ex σ)) : dFldS K f ta te De σ M := h
theorem w_dput {td ty : TED} (h : tv σ M (fun v M1 => td σ M1 (fun d M2 => ty σ M2 (fun k M3 => ∃ a M4, d = .ref a ∧ DPutD M3 a k v M4 ∧ De.nx σ M4) (De.ex σ)) (De.ex σ)) (De.ex σ)) : dDPut td ty tv De σ M := h
theorem w_min {a b : Str} (h : Q (.str (minS a b)) M) : min2D [.str a, .str b] M Q := h
theorem w_max {a b : Str} (h : Q (.str (maxS a b)) M) : max2D [.str a, .str b] M Q := h
theorem w_yes {T : Bool → DM → Prop} (h : T true M) : tYesD σ M T E := h
theorem w_add {i j : Int} (h : Q (.int (i + j)) M) : addD (.int i) (.int j) M Q := h
theorem w_slT {xs : List D} {l u : Option Int} (h : Q (.tup (cutD xs l u)) M) : slD (.tup xs) l u M Q := h
theorem w_slL {a : Addr} {xs : List D} {l u : Option Int} (e : M a = some (.lst xs)) (h : ∀ p, M p = none → Q (.ref p) (put M p (.lst (cutD xs l u)))) : slD (.ref a) l u M Q := ⟨xs, e, h⟩
theorem w_slZ {xs : List D} {l u : Option Int} (h : ∀ p, M p = none → Q (.ref p) (put M p (.lst (cutD xs l u)))) : slD (.scr xs) l u M Q := h
theorem w_lenT {xs : List D} (q : Q (.int (xs.length : Nat)) M) : lenD [.tup xs] M Q := q
theorem w_lenL {a : Addr} {xs : List D} (e : M a = some (.lst xs)) (q : Q (.int (xs.length : Nat)) M) : lenD [.ref a] M Q := .inl ⟨xs, e, q⟩
theorem w_tupT {xs : List D} (q : Q (.tup xs) M) : tupD [.tup xs] M Q := q
theorem tup_list {a : Addr} {xs : List D} (e : M a = some (.lst xs)) (q : Q (.tup xs) M) : tupD [.ref a] M Q := ⟨xs, e, q⟩
end
end Dt

set_option Elab.async false
set_option autoImplicit false
set_option linter.all false
set_option maxRecDepth 100000
set_option maxHeartbeats 4000000
/-! DS: steps of readings, a lemma for each. -/
namespace Dt
open PySem PySem.Spec PyProof.Rows L2 LamX RZ PySem.P
theorem Ext.get {M M' : DM} (h : Ext M M') {a : Addr} {o : DO} (e : M a = some o) : M' a = some o := h a o e
/-! ### what follows, by name -/
section
variable {M : DM} {Q : DQ} {σ σ' : Std} {E : DX} {wi wi1 : TID} {g g1 : TGD} {gs : TGsD} {tt tu : TTD} {te ta tb tc tk tv : TED} {tr : TAD} {vs vs1 : List Nat} {n b c : Std → DM → Prop} {x : Std → DX} {t u : TSD} {R : ItD → DM → Prop}
def qB (Q : Bool → DM → Prop) : DQ := fun d M1 => match d with
  | .bl b => Q b M1
  | _ => False
def qAnd (u : TTD) (σ : Std) (Q : Bool → DM → Prop) (E : DX) : Bool → DM → Prop := fun b M1 => match b with
  | true => u σ M1 Q E
  | false => Q false M1
def qOr (u : TTD) (σ : Std) (Q : Bool → DM → Prop) (E : DX) : Bool → DM → Prop := fun b M1 => match b with
  | true => Q true M1
  | false => u σ M1 Q E
def qAndV (tb : TED) (σ : Std) (Q : DQ) (E : DX) : DQ := fun d M1 => match d with
  | .bl true => tb σ M1 Q E
  | .bl false => Q (.bl false) M1
  | _ => False
def qOrV (tb : TED) (σ : Std) (Q : DQ) (E : DX) : DQ := fun d M1 => match d with
  | .bl true => Q (.bl true) M1
  | .bl false => tb σ M1 Q E
  | _ => False
def qNotV (Q : DQ) : DQ := fun d M1 => match d with
  | .bl b => Q (.bl (!b)) M1
  | _ => False
def qIf (ta tb : TED) (σ : Std) (Q : DQ) (E : DX) : Bool → DM → Prop := fun b M1 => match b with
  | true => ta σ M1 Q E
  | false => tb σ M1 Q E
def qPart (Q : Option Int → DM → Prop) : DQ := fun d M1 => match d with
  | .int i => Q (some i) M1
  | _ => False
def qIfS (t u : TSD) (D : DEnds) (σ : Std) : Bool → DM → Prop := fun b M1 => match b with
  | true => t D σ M1
  | false => u D σ M1
def qPar (i j : Nat) (σ : Std) (n : Std → DM → Prop) : List D → DM → Prop := fun ds M1 => match ds with
  | [d, e] => n (setS (setS σ i d) j e) M1
  | _ => False
def qPar3 (i j l : Nat) (σ : Std) (n : Std → DM → Prop) : List D → DM → Prop := fun ds M1 => match ds with
  | [d, e, f] => n (setS (setS (setS σ i d) j e) l f) M1
  | _ => False
def qSet (i : Nat) (σ : Std) (n : Std → DM → Prop) : DQ := fun z M2 => n (setS σ i z) M2
def qSeq (R : ItD → DM → Prop) : DQ := fun d M1 => match d with
  | .tup xs => R (itT xs) M1
  | .ref a => (∃ xs, M1 a = some (.lst xs)) ∧ R (itL a) M1
  | _ => False
def qRng1 (R : ItD → DM → Prop) : List D → DM → Prop := fun ds M1 => match ds with
  | [.int j] => (-(2 ^ 62) ≤ j ∧ j < 2 ^ 62) ∧ R (itR 0 j.toNat) M1
  | _ => False
def qRng2 (R : ItD → DM → Prop) : List D → DM → Prop := fun ds M1 => match ds with
  | [.int i, .int j] => (-(2 ^ 62) ≤ i ∧ i < 2 ^ 62 ∧ -(2 ^ 62) ≤ j ∧ j < 2 ^ 62) ∧ R (itR i (j - i).toNat) M1
  | _ => False
def qEnum (R : ItD → DM → Prop) : List D → DM → Prop := fun ds M1 => match ds with
  | [.tup xs] => R (itE (itT xs)) M1
  | [.ref a] => (∃ xs, M1 a = some (.lst xs)) ∧ R (itE (itL a)) M1
  | _ => False
def qZip (R : ItD → DM → Prop) : List D → DM → Prop := fun ds M1 => match ds with
  | [.tup xs, .tup ys] => R (itZ (itT xs) (itT ys)) M1
  | [.ref a, .ref b] => (∃ xs ys, M1 a = some (.lst xs) ∧ M1 b = some (.lst ys)) ∧ R (itZ (itL a) (itL b)) M1
  | _ => False
/-! ### slots -/
class SetS (σ : Std) (i : Nat) (d : D) (σ' : outParam Std) : Prop where
  eq : setS σ i d = σ'
class GetS (σ : Std) (i : Nat) (d : outParam D) : Prop where
  eq : slot σ i = some d
class UnsS (σ : Std) (i : Nat) (σ' : outParam Std) : Prop where
  eq : wipeS.unset σ i = σ'
class WipS (σ : Std) (vs : List Nat) (σ' : outParam Std) : Prop where
  eq : wipeS σ vs = σ'
instance {o : Option D} {r : Std} {d : D} : SetS (o :: r) 0 d (some d :: r) := ⟨rfl⟩
instance {o : Option D} {r r' : Std} {d : D} {i : Nat} [h : SetS r i d r'] : SetS (o :: r) (i + 1) d (o :: r') := ⟨by rw [← h.eq]⟩
instance {r : Std} {d : D} : GetS (some d :: r) 0 d := ⟨rfl⟩
instance {o : Option D} {r : Std} {d : D} {i : Nat} [h : GetS r i d] : GetS (o :: r) (i + 1) d := ⟨h.eq⟩
instance {o : Option D} {r : Std} : UnsS (o :: r) 0 (none :: r) := ⟨rfl⟩
instance {o : Option D} {r r' : Std} {i : Nat} [h : UnsS r i r'] : UnsS (o :: r) (i + 1) (o :: r') := ⟨by rw [← h.eq]⟩
instance {σ : Std} : WipS σ [] σ := ⟨rfl⟩
instance {σ σ1 σ2 : Std} {v : Nat} {vs : List Nat} [h : WipS σ vs σ1] [k : UnsS σ1 v σ2] : WipS σ (v :: vs) σ2 := ⟨by rw [← k.eq, ← h.eq]⟩
instance {σ σ1 σ2 : Std} {vs : List Nat} {i : Nat} {d : D} [h : WipS σ vs σ1] [k : SetS σ1 i d σ2] : SetS (wipeS σ vs) i d σ2 := ⟨by rw [h.eq, k.eq]⟩
instance {σ σ1 : Std} {vs : List Nat} {i : Nat} {d : D} [h : WipS σ vs σ1] [k : GetS σ1 i d] : GetS (wipeS σ vs) i d := ⟨by rw [h.eq, k.eq]⟩
/-- one step of a reading -/
class StepW (G : Prop) (H : outParam Prop) : Prop where
  go : H → G
class StepG (G : Prop) (H : outParam Prop) : Prop where
  go : H → G
/-- a part of a reading, by name -/
class StepP (G : Prop) (H : outParam Prop) : Prop where
  go : H → G
/-! ### names, constants, displays, operators -/
theorem w_var {i : Nat} {d : D} [h : GetS σ i d] (q : Q d M) : dVar i σ M Q E := by
  show (match slot σ i with | some d => Q d M | none => False)
  rw [h.eq]; exact q
theorem w_c {d : D} (q : Q d M) : dC d σ M Q E := q
theorem w_nil {Q : List D → DM → Prop} (h : Q [] M) : dNil σ M Q E := h
theorem w_cons {T : List D → DM → Prop} (h : ta σ M (fun d M1 => tr σ M1 (fun ds M2 => T (d :: ds) M2) E) E) : dCons ta tr σ M T E := h
theorem w_op {rd : R2D} (h : ta σ M (fun d M1 => tb σ M1 (fun e M2 => rd d e M2 Q) E) E) : dOp rd ta tb σ M Q E := h
theorem w_uno {rd : R1D} (h : ta σ M (fun d M1 => rd d M1 Q) E) : dUn rd ta σ M Q E := h
theorem w_B {Q : Bool → DM → Prop} (h : ta σ M (qB Q) E) : dB ta σ M Q E := h
theorem w_qB {Q : Bool → DM → Prop} {b : Bool} (h : Q b M) : qB Q (.bl b) M := h
theorem w_not {Q : Bool → DM → Prop} (h : tt σ M (fun b M1 => Q (!b) M1) E) : dNot tt σ M Q E := h
theorem w_and {Q : Bool → DM → Prop} (h : tt σ M (qAnd tu σ Q E) E) : dAnd tt tu σ M Q E := h
theorem w_qAndT {Q : Bool → DM → Prop} (h : tu σ M Q E) : qAnd tu σ Q E true M := h
theorem w_qAndF {Q : Bool → DM → Prop} (h : Q false M) : qAnd tu σ Q E false M := h
theorem w_or {Q : Bool → DM → Prop} (h : tt σ M (qOr tu σ Q E) E) : dOr tt tu σ M Q E := h
theorem w_qOrT {Q : Bool → DM → Prop} (h : Q true M) : qOr tu σ Q E true M := h
theorem w_qOrF {Q : Bool → DM → Prop} (h : tu σ M Q E) : qOr tu σ Q E false M := h
theorem w_andV (h : ta σ M (qAndV tb σ Q E) E) : dAndV ta tb σ M Q E := h
theorem w_qAndVT (h : tb σ M Q E) : qAndV tb σ Q E (.bl true) M := h
theorem w_qAndVF (h : Q (.bl false) M) : qAndV tb σ Q E (.bl false) M := h
theorem w_orV (h : ta σ M (qOrV tb σ Q E) E) : dOrV ta tb σ M Q E := h
theorem w_qOrVT (h : Q (.bl true) M) : qOrV tb σ Q E (.bl true) M := h
theorem w_qOrVF (h : tb σ M Q E) : qOrV tb σ Q E (.bl false) M := h
theorem w_notV (h : ta σ M (qNotV Q) E) : dNotV ta σ M Q E := h
theorem w_qNotV {b : Bool} (h : Q (.bl (!b)) M) : qNotV Q (.bl b) M := h
theorem w_if (h : tt σ M (qIf ta tb σ Q E) E) : dIf tt ta tb σ M Q E := h
theorem w_qIfT (h : ta σ M Q E) : qIf ta tb σ Q E true M := h
theorem w_qIfF (h : tb σ M Q E) : qIf ta tb σ Q E false M := h
theorem w_cb {rd : RLD} (h : tr σ M (fun ds M1 => rd ds M1 Q) E) : dCB rd tr σ M Q E := h
theorem w_bm {ok : D → DM → Prop} {rd : RMD} (h : ta σ M (fun d M1 => ok d M1 ∧ tr σ M1 (fun ds M2 => rd d ds M2 Q) E) E) : dBM ok rd ta tr σ M Q E := h
theorem w_bm0 {ok : D → DM → Prop} {rd : RMD} (h : ta σ M (fun d M1 => ok d M1 ∧ rd d [] M1 Q) E) : dBM0 ok rd ta σ M Q E := h
theorem w_no {Q : Option Int → DM → Prop} (h : Q none M) : dNo σ M Q E := h
theorem w_part {Q : Option Int → DM → Prop} (h : ta σ M (qPart Q) E) : dPart ta σ M Q E := h
theorem w_qPart {Q : Option Int → DM → Prop} {i : Int} (h : Q (some i) M) : qPart Q (.int i) M := h
theorem w_sl {tl th : TOD} (h : te σ M (fun d M1 => tl σ M1 (fun lo M2 => th σ M2 (fun hi M3 => slD d lo hi M3 Q) E) E) E) : dSl te tl th σ M Q E := h
theorem w_newK (h : ∀ p, M p = none → Q (.ref p) (put M p (.dK []))) : dNewK σ M Q E := h
theorem w_newT (h : ∀ p, M p = none → Q (.ref p) (put M p (.dT []))) : dNewT σ M Q E := h
theorem w_call {sp : SpD} (h : tr σ M (fun ds M1 => sp ds M1 Q noX) E) : dCall sp tr σ M Q E := h
theorem w_callX {sp : SpD} (h : tr σ M (fun ds M1 => sp ds M1 Q E) E) : dCallX sp tr σ M Q E := h
theorem w_isi {ans : String → Option Bool} (h : te σ M (fun d M1 => ∃ U b, typD d M1 = some U ∧ ans U = some b ∧ Q (.bl b) M1) E) : dIsi ans te σ M Q E := h
/-! ### targets -/
theorem w_nIfST {D : DEnds} (h : t D σ M) : qIfS t u D σ (!false) M := h
theorem w_nIfSF {D : DEnds} (h : u D σ M) : qIfS t u D σ (!true) M := h
theorem w_nIfT (h : ta σ M Q E) : qIf ta tb σ Q E (!false) M := h
theorem w_nIfF (h : tb σ M Q E) : qIf ta tb σ Q E (!true) M := h
theorem w_nOrT {Q : Bool → DM → Prop} (h : Q true M) : qOr tu σ Q E (!false) M := h
theorem w_nOrF {Q : Bool → DM → Prop} (h : tu σ M Q E) : qOr tu σ Q E (!true) M := h
theorem w_nAndT {Q : Bool → DM → Prop} (h : tu σ M Q E) : qAnd tu σ Q E (!false) M := h
theorem w_nAndF {Q : Bool → DM → Prop} (h : Q false M) : qAnd tu σ Q E (!true) M := h
theorem w_nAndVT (h : tb σ M Q E) : qAndV tb σ Q E (.bl (!false)) M := h
theorem w_nAndVF (h : Q (.bl false) M) : qAndV tb σ Q E (.bl (!true)) M := h
theorem w_nOrVT (h : Q (.bl true) M) : qOrV tb σ Q E (.bl (!false)) M := h
theorem w_nOrVF (h : tb σ M Q E) : qOrV tb σ Q E (.bl (!true)) M := h
theorem w_nm {Q : Std → DM → Prop} {i : Nat} {d : D} [h : SetS σ i d σ'] (q : Q σ' M) : gNm i d σ M Q E := by
  show Q (setS σ i d) M
  rw [h.eq]; exact q
theorem w_gnil {Q : Std → DM → Prop} (q : Q σ M) : gNilD [] σ M Q E := q
theorem w_gcons {Q : Std → DM → Prop} {d : D} {r : List D} (h : g d σ M (fun σ1 M1 => gs r σ1 M1 Q E) E) : gConsD g gs (d :: r) σ M Q E := h
theorem w_unT {Q : Std → DM → Prop} {n : Nat} {xs : List D} (h : xs.length = n ∧ gs xs σ M Q E) : gUn n gs (.tup xs) σ M Q E := h
theorem w_unP {Q : Std → DM → Prop} {n : Nat} {xs : List D} (h : xs.length = n ∧ gs xs σ M Q E) : gUn n gs (.pair xs) σ M Q E := h
theorem w_unR {Q : Std → DM → Prop} {n : Nat} {a : Addr} (h : ∃ xs, M a = some (.lst xs) ∧ xs.length = n ∧ gs xs σ M Q E) : gUn n gs (.ref a) σ M Q E := h
theorem w_gix {Q : Std → DM → Prop} {to ti : TED} {v : D} (h : to σ M (fun o M1 => ti σ M1 (fun i M2 => setLD M2 o i v (fun M3 => Q σ M3)) E) E) : gIx to ti v σ M Q E := h
theorem w_gfd {Q : Std → DM → Prop} {K : Bd} {f : Str} {to : TED} {v : D} (h : to σ M (fun d M1 => ∃ a C fs, d = .ref a ∧ M1 a = some (.ins C fs) ∧ Cls K C ∧ NoAttr K C f ∧ fs.length < 1000 ∧ Q σ (put M1 a (.ins C (putFD f v fs)))) E) : gFd K f to v σ M Q E := h
/-! ### statements -/
theorem w_nx (h : n σ M) : DEnds.nx ⟨n, Q, b, c, x⟩ σ M := h
theorem w_rt {d : D} (h : Q d M) : DEnds.rt ⟨n, Q, b, c, x⟩ d M := h
theorem w_bk (h : b σ M) : DEnds.bk ⟨n, Q, b, c, x⟩ σ M := h
theorem w_ct (h : c σ M) : DEnds.ct ⟨n, Q, b, c, x⟩ σ M := h
theorem w_next (h : n σ M) : dNext ⟨n, Q, b, c, x⟩ σ M := h
theorem w_seq (h : t ⟨fun σ' M' => u ⟨n, Q, b, c, x⟩ σ' M', Q, b, c, x⟩ σ M) : dSeq t u ⟨n, Q, b, c, x⟩ σ M := h
theorem w_break (h : b σ M) : dBreak ⟨n, Q, b, c, x⟩ σ M := h
theorem w_cont (h : c σ M) : dCont ⟨n, Q, b, c, x⟩ σ M := h
theorem w_drop (h : te σ M (fun _ M1 => n σ M1) (x σ)) : dDrop te ⟨n, Q, b, c, x⟩ σ M := h
theorem w_ret (h : te σ M Q (x σ)) : dRet te ⟨n, Q, b, c, x⟩ σ M := h
theorem w_retN (h : Q .non M) : dRetN ⟨n, Q, b, c, x⟩ σ M := h
theorem w_ifS (h : tt σ M (qIfS t u ⟨n, Q, b, c, x⟩ σ) (x σ)) : dIfS tt t u ⟨n, Q, b, c, x⟩ σ M := h
theorem w_qIfST {D : DEnds} (h : t D σ M) : qIfS t u D σ true M := h
theorem w_qIfSF {D : DEnds} (h : u D σ M) : qIfS t u D σ false M := h
theorem w_asg (h : te σ M (fun d M1 => g d σ M1 n (x σ)) (x σ)) : dAsg te g ⟨n, Q, b, c, x⟩ σ M := h
theorem w_par {i j : Nat} (h : tr σ M (qPar i j σ n) (x σ)) : dPar i j tr ⟨n, Q, b, c, x⟩ σ M := h
theorem w_qPar {σ1 σ2 : Std} {i j : Nat} {d e : D} [h1 : SetS σ i d σ1] [h2 : SetS σ1 j e σ2] (q : n σ2 M) : qPar i j σ n [d, e] M := by
  show n (setS (setS σ i d) j e) M
  rw [h1.eq, h2.eq]; exact q
theorem w_par3 {i j l : Nat} (h : tr σ M (qPar3 i j l σ n) (x σ)) : dPar3 i j l tr ⟨n, Q, b, c, x⟩ σ M := h
theorem w_qPar3 {σ1 σ2 σ3 : Std} {i j l : Nat} {d e f : D} [h1 : SetS σ i d σ1] [h2 : SetS σ1 j e σ2] [h3 : SetS σ2 l f σ3] (q : n σ3 M) : qPar3 i j l σ n [d, e, f] M := by
  show n (setS (setS (setS σ i d) j e) l f) M
  rw [h1.eq, h2.eq, h3.eq]; exact q
theorem w_aug {i : Nat} {rd : R2D} {d : D} [h : GetS σ i d] (q : te σ M (fun e M1 => rd d e M1 (qSet i σ n)) (x σ)) : dAug i rd te ⟨n, Q, b, c, x⟩ σ M := by
  show (match slot σ i with
  | some d => te σ M (fun e M1 => rd d e M1 (fun z M2 => n (setS σ i z) M2)) (x σ)
  | none => False)
  rw [h.eq]; exact q
theorem w_qSet {i : Nat} {d : D} [h : SetS σ i d σ'] (q : n σ' M) : qSet i σ n d M := by
  show n (setS σ i d) M
  rw [h.eq]; exact q
theorem w_daug {rd : R2D} {td ty tv : TED} (h : td σ M (fun d M1 => ty σ M1 (fun k M2 => ∃ a v, d = .ref a ∧ DGetD M2 a k (some v) ∧ tv σ M2 (fun e M3 => rd v e M3 (fun z M4 => ∃ M5, DPutD M4 a k z M5 ∧ n σ M5)) (x σ)) (x σ)) (x σ)) : dDAug rd td ty tv ⟨n, Q, b, c, x⟩ σ M := h
theorem w_ixaug {rd : R2D} {to ti te : TED} (h : to σ M (fun o M1 => ti σ M1 (fun i M2 => (∃ a xs, o = .ref a ∧ M2 a = some (.lst xs)) ∧ ixD o i M2 (fun x' M3 => te σ M3 (fun y M4 => rd x' y M4 (fun z M5 => setLD M5 o i z (fun M6 => n σ M6))) (x σ))) (x σ)) (x σ)) : dIxAug rd to ti te ⟨n, Q, b, c, x⟩ σ M := h
theorem w_fldA {K : Bd} {rd : R2D} {f : Str} {ta tv : TED} (h : ta σ M (fun d M1 => ∃ a C fs v, d = .ref a ∧ M1 a = some (.ins C fs) ∧ Cls K C ∧ NoAttr K C f ∧ lookD f fs = some v ∧ tv σ M1 (fun e M2 => rd v e M2 (fun z M3 => ∃ fs', M3 a = some (.ins C fs') ∧ fs'.length < 1000 ∧ n σ (put M3 a (.ins C (putFD f z fs'))))) (x σ)) (x σ)) : dFldA K rd f ta tv ⟨n, Q, b, c, x⟩ σ M := h
theorem w_fldS' {K : Bd} {f : Str} {ta : TED} (h : te σ M (fun v M1 => ta σ M1 (fun d M2 => ∃ a C fs, d = .ref a ∧ M2 a = some (.ins C fs) ∧ Cls K C ∧ NoAttr K C f ∧ fs.length < 1000 ∧ n σ (put M2 a (.ins C (putFD f v fs)))) (x σ)) (x σ)) : dFldS K f ta te ⟨n, Q, b, c, x⟩ σ M := h
theorem w_dput' {td ty : TED} (h : tv σ M (fun v M1 => td σ M1 (fun d M2 => ty σ M2 (fun k M3 => ∃ a M4, d = .ref a ∧ DPutD M3 a k v M4 ∧ n σ M4) (x σ)) (x σ)) (x σ)) : dDPut td ty tv ⟨n, Q, b, c, x⟩ σ M := h
theorem w_for' (h : wi σ M (fun J M1 => ∃ k, forN J g t ⟨n, Q, b, c, x⟩ k 0 σ M1) (x σ)) : dFor wi g t ⟨n, Q, b, c, x⟩ σ M := h
/-! ### what is walked -/
theorem w_seqi (h : te σ M (qSeq R) E) : diSeq te σ M R E := h
theorem w_qSeqT {xs : List D} (h : R (itT xs) M) : qSeq R (.tup xs) M := h
theorem w_qSeqR {a : Addr} (h : (∃ xs, M a = some (.lst xs)) ∧ R (itL a) M) : qSeq R (.ref a) M := h
theorem w_rng1 (h : tr σ M (qRng1 R) E) : diRng1 tr σ M R E := h
theorem w_qRng1 {j : Int} (h : (-(2 ^ 62) ≤ j ∧ j < 2 ^ 62) ∧ R (itR 0 j.toNat) M) : qRng1 R [.int j] M := h
theorem w_rng2 (h : tr σ M (qRng2 R) E) : diRng2 tr σ M R E := h
theorem w_qRng2 {i j : Int} (h : (-(2 ^ 62) ≤ i ∧ i < 2 ^ 62 ∧ -(2 ^ 62) ≤ j ∧ j < 2 ^ 62) ∧ R (itR i (j - i).toNat) M) : qRng2 R [.int i, .int j] M := h
theorem w_enum (h : tr σ M (qEnum R) E) : diEnum tr σ M R E := h
theorem w_qEnumT {xs : List D} (h : R (itE (itT xs)) M) : qEnum R [.tup xs] M := h
theorem w_qEnumR {a : Addr} (h : (∃ xs, M a = some (.lst xs)) ∧ R (itE (itL a)) M) : qEnum R [.ref a] M := h
theorem w_zip (h : tr σ M (qZip R) E) : diZip tr σ M R E := h
theorem w_qZipT {xs ys : List D} (h : R (itZ (itT xs) (itT ys)) M) : qZip R [.tup xs, .tup ys] M := h
theorem w_qZipR {a b : Addr} (h : (∃ xs ys, M a = some (.lst xs) ∧ M b = some (.lst ys)) ∧ R (itZ (itL a) (itL b)) M) : qZip R [.ref a, .ref b] M := h
/-! ### behind a step -/
theorem w_sz {n : Nat} {P : Prop} (h : n ≤ sizeLine) (p : P) : n ≤ sizeLine ∧ P := ⟨h, p⟩
theorem w_un {n : Nat} {P : Prop} (p : P) : n = n ∧ P := ⟨rfl, p⟩
theorem w_len {α : Type} {xs : List α} {n : Nat} {P : Prop} (h : xs.length = n) (p : P) : xs.length = n ∧ P := ⟨h, p⟩
theorem w_sub {i j : Int} (h : Q (.int (i - j)) M) : subD (.int i) (.int j) M Q := h
theorem w_neg {i : Int} (h : Q (.int (-i)) M) : negD (.int i) M Q := h
theorem w_lstT {xs : List D} (h : ∀ p, M p = none → Q (.ref p) (put M p (.lst xs))) : lstD [.tup xs] M Q := h
theorem w_lstL {a : Addr} {xs : List D} (e : M a = some (.lst xs)) (h : ∀ p, M p = none → Q (.ref p) (put M p (.lst xs))) : lstD [.ref a] M Q := ⟨xs, e, h⟩
theorem w_int1 {i : Int} (h : Q (.int i) M) : intD [.int i] M Q := h
theorem w_abs {i : Int} (h : Q (.int (if i < 0 then -i else i)) M) : absD [.int i] M Q := h
theorem w_dic {a : Addr} {kvs : List (Key × D)} (e : M a = some (.dK kvs)) (h : ∀ p, M p = none → Q (.ref p) (put M p (.dK kvs))) : dicD [.ref a] M Q := ⟨kvs, e, h⟩
theorem w_seqL {a : Addr} {xs : List D} {P : Prop} (e : M a = some (.lst xs)) (h : P) : (∃ xs, M a = some (.lst xs)) ∧ P := ⟨⟨xs, e⟩, h⟩
theorem w_app {a : Addr} {xs : List D} {e : D} (h : M a = some (.lst xs)) (hl : xs.length < sizeLine) (q : Q .non (put M a (.lst (xs ++ [e])))) : appD (.ref a) [e] M Q := ⟨a, xs, rfl, h, hl, q⟩
theorem w_all {a : Addr} {bs : List Bool} (e : M a = some (.lst (bs.map .bl))) (q : Q (.bl (bs.all id)) M) : allD [.ref a] M Q := ⟨bs, e, q⟩
theorem w_isLst {a : Addr} {xs : List D} {P : Prop} (h : M a = some (.lst xs)) (p : P) : isLst (.ref a) M ∧ P := ⟨⟨a, xs, rfl, h⟩, p⟩
theorem w_isTup {xs : List D} {P : Prop} (p : P) : isTup (.tup xs) M ∧ P := ⟨⟨xs, rfl⟩, p⟩
theorem w_obj {a C : Addr} {fs : List (Str × D)} {m : Str} {P : Prop} (e : M a = some (.ins C fs)) (l : lookD m fs = none) (p : P) : ∃ b gs, D.ref a = .ref b ∧ M b = some (.ins C gs) ∧ lookD m gs = none ∧ P := ⟨a, fs, rfl, e, l, p⟩
theorem w_isNN (q : Q (.bl true) M) : isN .non .non M Q := ⟨rfl, q⟩
theorem w_isNI {i : Int} (q : Q (.bl false) M) : isN (.int i) .non M Q := ⟨rfl, q⟩
theorem w_isNT {xs : List D} (q : Q (.bl false) M) : isN (.tup xs) .non M Q := ⟨rfl, q⟩
theorem w_isNS {s : Str} (q : Q (.bl false) M) : isN (.str s) .non M Q := ⟨rfl, q⟩
theorem w_notNN (q : Q (.bl false) M) : notN .non .non M Q := ⟨rfl, q⟩
theorem w_notNI {i : Int} (q : Q (.bl true) M) : notN (.int i) .non M Q := ⟨rfl, q⟩
theorem w_notNT {xs : List D} (q : Q (.bl true) M) : notN (.tup xs) .non M Q := ⟨rfl, q⟩
theorem w_notNS {s : Str} (q : Q (.bl true) M) : notN (.str s) .non M Q := ⟨rfl, q⟩
theorem w_ands {P R S : Prop} (p : P ∧ R) (s : S) : P ∧ R ∧ S := ⟨p.1, p.2, s⟩
instance i_var {i : Nat} {d : D} [h : GetS σ i d] : StepW (dVar i σ M Q E) (Q d M) := ⟨fun z => w_var z⟩
instance i_nm {Q : Std → DM → Prop} {i : Nat} {d : D} [h : SetS σ i d σ'] : StepW (gNm i d σ M Q E) (Q σ' M) := ⟨fun z => w_nm z⟩
instance i_seq  : StepW (dSeq t u ⟨n, Q, b, c, x⟩ σ M) (t ⟨fun σ' M' => u ⟨n, Q, b, c, x⟩ σ' M', Q, b, c, x⟩ σ M) := ⟨fun z => w_seq z⟩
instance i_c {d : D} : StepW (dC d σ M Q E) (Q d M) := ⟨fun z => w_c z⟩
instance i_asg  : StepW (dAsg te g ⟨n, Q, b, c, x⟩ σ M) (te σ M (fun d M1 => g d σ M1 n (x σ)) (x σ)) := ⟨fun z => w_asg z⟩
instance i_cons {T : List D → DM → Prop} : StepW (dCons ta tr σ M T E) (ta σ M (fun d M1 => tr σ M1 (fun ds M2 => T (d :: ds) M2) E) E) := ⟨fun z => w_cons z⟩
instance i_nil {Q : List D → DM → Prop} : StepW (dNil σ M Q E) (Q [] M) := ⟨fun z => w_nil z⟩
instance i_B {Q : Bool → DM → Prop} : StepW (dB ta σ M Q E) (ta σ M (qB Q) E) := ⟨fun z => w_B z⟩
instance i_qB {Q : Bool → DM → Prop} {b : Bool} : StepW (qB Q (.bl b) M) (Q b M) := ⟨fun z => w_qB z⟩
instance i_op {rd : R2D} : StepW (dOp rd ta tb σ M Q E) (ta σ M (fun d M1 => tb σ M1 (fun e M2 => rd d e M2 Q) E) E) := ⟨fun z => w_op z⟩
instance i_uno {rd : R1D} : StepW (dUn rd ta σ M Q E) (ta σ M (fun d M1 => rd d M1 Q) E) := ⟨fun z => w_uno z⟩
instance i_call {sp : SpD} : StepW (dCall sp tr σ M Q E) (tr σ M (fun ds M1 => sp ds M1 Q noX) E) := ⟨fun z => w_call z⟩
instance i_drop  : StepW (dDrop te ⟨n, Q, b, c, x⟩ σ M) (te σ M (fun _ M1 => n σ M1) (x σ)) := ⟨fun z => w_drop z⟩
instance i_ret  : StepW (dRet te ⟨n, Q, b, c, x⟩ σ M) (te σ M Q (x σ)) := ⟨fun z => w_ret z⟩
instance i_retN  : StepW (dRetN ⟨n, Q, b, c, x⟩ σ M) (Q .non M) := ⟨fun z => w_retN z⟩
instance i_ifS  : StepW (dIfS tt t u ⟨n, Q, b, c, x⟩ σ M) (tt σ M (qIfS t u ⟨n, Q, b, c, x⟩ σ) (x σ)) := ⟨fun z => w_ifS z⟩
instance i_qIfST {D : DEnds} : StepW (qIfS t u D σ true M) (t D σ M) := ⟨fun z => w_qIfST z⟩
instance i_qIfSF {D : DEnds} : StepW (qIfS t u D σ false M) (u D σ M) := ⟨fun z => w_qIfSF z⟩
instance i_nIfST {D : DEnds} : StepW (qIfS t u D σ (!false) M) (t D σ M) := ⟨fun z => w_nIfST z⟩
instance i_nIfSF {D : DEnds} : StepW (qIfS t u D σ (!true) M) (u D σ M) := ⟨fun z => w_nIfSF z⟩
instance i_next  : StepW (dNext ⟨n, Q, b, c, x⟩ σ M) (n σ M) := ⟨fun z => w_next z⟩
instance i_nx  : StepW (DEnds.nx ⟨n, Q, b, c, x⟩ σ M) (n σ M) := ⟨fun z => w_nx z⟩
instance i_rt {d : D} : StepW (DEnds.rt ⟨n, Q, b, c, x⟩ d M) (Q d M) := ⟨fun z => w_rt z⟩
instance i_bk  : StepW (DEnds.bk ⟨n, Q, b, c, x⟩ σ M) (b σ M) := ⟨fun z => w_bk z⟩
instance i_ct  : StepW (DEnds.ct ⟨n, Q, b, c, x⟩ σ M) (c σ M) := ⟨fun z => w_ct z⟩
instance i_break  : StepW (dBreak ⟨n, Q, b, c, x⟩ σ M) (b σ M) := ⟨fun z => w_break z⟩
instance i_cont  : StepW (dCont ⟨n, Q, b, c, x⟩ σ M) (c σ M) := ⟨fun z => w_cont z⟩
instance i_cb {rd : RLD} : StepW (dCB rd tr σ M Q E) (tr σ M (fun ds M1 => rd ds M1 Q) E) := ⟨fun z => w_cb z⟩
instance i_bm {ok : D → DM → Prop} {rd : RMD} : StepW (dBM ok rd ta tr σ M Q E) (ta σ M (fun d M1 => ok d M1 ∧ tr σ M1 (fun ds M2 => rd d ds M2 Q) E) E) := ⟨fun z => w_bm z⟩
instance i_bm0 {ok : D → DM → Prop} {rd : RMD} : StepW (dBM0 ok rd ta σ M Q E) (ta σ M (fun d M1 => ok d M1 ∧ rd d [] M1 Q) E) := ⟨fun z => w_bm0 z⟩
instance i_sl {tl th : TOD} : StepW (dSl te tl th σ M Q E) (te σ M (fun d M1 => tl σ M1 (fun lo M2 => th σ M2 (fun hi M3 => slD d lo hi M3 Q) E) E) E) := ⟨fun z => w_sl z⟩
instance i_no {Q : Option Int → DM → Prop} : StepW (dNo σ M Q E) (Q none M) := ⟨fun z => w_no z⟩
instance i_part {Q : Option Int → DM → Prop} : StepW (dPart ta σ M Q E) (ta σ M (qPart Q) E) := ⟨fun z => w_part z⟩
instance i_qPart {Q : Option Int → DM → Prop} {i : Int} : StepW (qPart Q (.int i) M) (Q (some i) M) := ⟨fun z => w_qPart z⟩
instance i_not {Q : Bool → DM → Prop} : StepW (dNot tt σ M Q E) (tt σ M (fun b M1 => Q (!b) M1) E) := ⟨fun z => w_not z⟩
instance i_and {Q : Bool → DM → Prop} : StepW (dAnd tt tu σ M Q E) (tt σ M (qAnd tu σ Q E) E) := ⟨fun z => w_and z⟩
instance i_qAndT {Q : Bool → DM → Prop} : StepW (qAnd tu σ Q E true M) (tu σ M Q E) := ⟨fun z => w_qAndT z⟩
instance i_qAndF {Q : Bool → DM → Prop} : StepW (qAnd tu σ Q E false M) (Q false M) := ⟨fun z => w_qAndF z⟩
instance i_or {Q : Bool → DM → Prop} : StepW (dOr tt tu σ M Q E) (tt σ M (qOr tu σ Q E) E) := ⟨fun z => w_or z⟩
instance i_qOrT {Q : Bool → DM → Prop} : StepW (qOr tu σ Q E true M) (Q true M) := ⟨fun z => w_qOrT z⟩
instance i_qOrF {Q : Bool → DM → Prop} : StepW (qOr tu σ Q E false M) (tu σ M Q E) := ⟨fun z => w_qOrF z⟩
instance i_nOrT {Q : Bool → DM → Prop} : StepW (qOr tu σ Q E (!false) M) (Q true M) := ⟨fun z => w_nOrT z⟩
instance i_nOrF {Q : Bool → DM → Prop} : StepW (qOr tu σ Q E (!true) M) (tu σ M Q E) := ⟨fun z => w_nOrF z⟩
instance i_nAndT {Q : Bool → DM → Prop} : StepW (qAnd tu σ Q E (!false) M) (tu σ M Q E) := ⟨fun z => w_nAndT z⟩
instance i_nAndF {Q : Bool → DM → Prop} : StepW (qAnd tu σ Q E (!true) M) (Q false M) := ⟨fun z => w_nAndF z⟩
instance i_nIfT  : StepW (qIf ta tb σ Q E (!false) M) (ta σ M Q E) := ⟨fun z => w_nIfT z⟩
instance i_nIfF  : StepW (qIf ta tb σ Q E (!true) M) (tb σ M Q E) := ⟨fun z => w_nIfF z⟩
instance i_nAndVT  : StepW (qAndV tb σ Q E (.bl (!false)) M) (tb σ M Q E) := ⟨fun z => w_nAndVT z⟩
instance i_nAndVF  : StepW (qAndV tb σ Q E (.bl (!true)) M) (Q (.bl false) M) := ⟨fun z => w_nAndVF z⟩
instance i_nOrVT  : StepW (qOrV tb σ Q E (.bl (!false)) M) (Q (.bl true) M) := ⟨fun z => w_nOrVT z⟩
instance i_nOrVF  : StepW (qOrV tb σ Q E (.bl (!true)) M) (tb σ M Q E) := ⟨fun z => w_nOrVF z⟩
instance i_andV  : StepW (dAndV ta tb σ M Q E) (ta σ M (qAndV tb σ Q E) E) := ⟨fun z => w_andV z⟩
instance i_qAndVT  : StepW (qAndV tb σ Q E (.bl true) M) (tb σ M Q E) := ⟨fun z => w_qAndVT z⟩
instance i_qAndVF  : StepW (qAndV tb σ Q E (.bl false) M) (Q (.bl false) M) := ⟨fun z => w_qAndVF z⟩
instance i_orV  : StepW (dOrV ta tb σ M Q E) (ta σ M (qOrV tb σ Q E) E) := ⟨fun z => w_orV z⟩
instance i_qOrVT  : StepW (qOrV tb σ Q E (.bl true) M) (Q (.bl true) M) := ⟨fun z => w_qOrVT z⟩
instance i_qOrVF  : StepW (qOrV tb σ Q E (.bl false) M) (tb σ M Q E) := ⟨fun z => w_qOrVF z⟩
instance i_notV  : StepW (dNotV ta σ M Q E) (ta σ M (qNotV Q) E) := ⟨fun z => w_notV z⟩
instance i_qNotV {b : Bool} : StepW (qNotV Q (.bl b) M) (Q (.bl (!b)) M) := ⟨fun z => w_qNotV z⟩
instance i_if  : StepW (dIf tt ta tb σ M Q E) (tt σ M (qIf ta tb σ Q E) E) := ⟨fun z => w_if z⟩
instance i_qIfT  : StepW (qIf ta tb σ Q E true M) (ta σ M Q E) := ⟨fun z => w_qIfT z⟩
instance i_qIfF  : StepW (qIf ta tb σ Q E false M) (tb σ M Q E) := ⟨fun z => w_qIfF z⟩
instance i_callX {sp : SpD} : StepW (dCallX sp tr σ M Q E) (tr σ M (fun ds M1 => sp ds M1 Q E) E) := ⟨fun z => w_callX z⟩
instance i_isi {ans : String → Option Bool} : StepW (dIsi ans te σ M Q E) (te σ M (fun d M1 => ∃ U b, typD d M1 = some U ∧ ans U = some b ∧ Q (.bl b) M1) E) := ⟨fun z => w_isi z⟩
instance i_newK  : StepW (dNewK σ M Q E) (∀ p, M p = none → Q (.ref p) (put M p (.dK []))) := ⟨fun z => w_newK z⟩
instance i_newT  : StepW (dNewT σ M Q E) (∀ p, M p = none → Q (.ref p) (put M p (.dT []))) := ⟨fun z => w_newT z⟩
instance i_gcons {Q : Std → DM → Prop} {d : D} {r : List D} : StepW (gConsD g gs (d :: r) σ M Q E) (g d σ M (fun σ1 M1 => gs r σ1 M1 Q E) E) := ⟨fun z => w_gcons z⟩
instance i_gnil {Q : Std → DM → Prop} : StepW (gNilD [] σ M Q E) (Q σ M) := ⟨fun z => w_gnil z⟩
instance i_unT {Q : Std → DM → Prop} {n : Nat} {xs : List D} : StepW (gUn n gs (.tup xs) σ M Q E) (xs.length = n ∧ gs xs σ M Q E) := ⟨fun z => w_unT z⟩
instance i_unP {Q : Std → DM → Prop} {n : Nat} {xs : List D} : StepW (gUn n gs (.pair xs) σ M Q E) (xs.length = n ∧ gs xs σ M Q E) := ⟨fun z => w_unP z⟩
instance i_unR {Q : Std → DM → Prop} {n : Nat} {a : Addr} : StepW (gUn n gs (.ref a) σ M Q E) (∃ xs, M a = some (.lst xs) ∧ xs.length = n ∧ gs xs σ M Q E) := ⟨fun z => w_unR z⟩
instance i_gix {Q : Std → DM → Prop} {to ti : TED} {v : D} : StepW (gIx to ti v σ M Q E) (to σ M (fun o M1 => ti σ M1 (fun i M2 => setLD M2 o i v (fun M3 => Q σ M3)) E) E) := ⟨fun z => w_gix z⟩
instance i_gfd {Q : Std → DM → Prop} {K : Bd} {f : Str} {to : TED} {v : D} : StepW (gFd K f to v σ M Q E) (to σ M (fun d M1 => ∃ a C fs, d = .ref a ∧ M1 a = some (.ins C fs) ∧ Cls K C ∧ NoAttr K C f ∧ fs.length < 1000 ∧ Q σ (put M1 a (.ins C (putFD f v fs)))) E) := ⟨fun z => w_gfd z⟩
instance i_par {i j : Nat} : StepW (dPar i j tr ⟨n, Q, b, c, x⟩ σ M) (tr σ M (qPar i j σ n) (x σ)) := ⟨fun z => w_par z⟩
instance i_par3 {i j l : Nat} : StepW (dPar3 i j l tr ⟨n, Q, b, c, x⟩ σ M) (tr σ M (qPar3 i j l σ n) (x σ)) := ⟨fun z => w_par3 z⟩
instance i_seqi  : StepW (diSeq te σ M R E) (te σ M (qSeq R) E) := ⟨fun z => w_seqi z⟩
instance i_qSeqT {xs : List D} : StepW (qSeq R (.tup xs) M) (R (itT xs) M) := ⟨fun z => w_qSeqT z⟩
instance i_qSeqR {a : Addr} : StepW (qSeq R (.ref a) M) ((∃ xs, M a = some (.lst xs)) ∧ R (itL a) M) := ⟨fun z => w_qSeqR z⟩
instance i_rng1  : StepW (diRng1 tr σ M R E) (tr σ M (qRng1 R) E) := ⟨fun z => w_rng1 z⟩
instance i_qRng1 {j : Int} : StepW (qRng1 R [.int j] M) ((-(2 ^ 62) ≤ j ∧ j < 2 ^ 62) ∧ R (itR 0 j.toNat) M) := ⟨fun z => w_qRng1 z⟩
instance i_rng2  : StepW (diRng2 tr σ M R E) (tr σ M (qRng2 R) E) := ⟨fun z => w_rng2 z⟩
instance i_qRng2 {i j : Int} : StepW (qRng2 R [.int i, .int j] M) ((-(2 ^ 62) ≤ i ∧ i < 2 ^ 62 ∧ -(2 ^ 62) ≤ j ∧ j < 2 ^ 62) ∧ R (itR i (j - i).toNat) M) := ⟨fun z => w_qRng2 z⟩
instance i_enum  : StepW (diEnum tr σ M R E) (tr σ M (qEnum R) E) := ⟨fun z => w_enum z⟩
instance i_qEnumT {xs : List D} : StepW (qEnum R [.tup xs] M) (R (itE (itT xs)) M) := ⟨fun z => w_qEnumT z⟩
instance i_qEnumR {a : Addr} : StepW (qEnum R [.ref a] M) ((∃ xs, M a = some (.lst xs)) ∧ R (itE (itL a)) M) := ⟨fun z => w_qEnumR z⟩
instance i_zip  : StepW (diZip tr σ M R E) (tr σ M (qZip R) E) := ⟨fun z => w_zip z⟩
instance i_qZipT {xs ys : List D} : StepW (qZip R [.tup xs, .tup ys] M) (R (itZ (itT xs) (itT ys)) M) := ⟨fun z => w_qZipT z⟩
instance i_qZipR {a b : Addr} : StepW (qZip R [.ref a, .ref b] M) ((∃ xs ys, M a = some (.lst xs) ∧ M b = some (.lst ys)) ∧ R (itZ (itL a) (itL b)) M) := ⟨fun z => w_qZipR z⟩
instance i_qPar {σ1 σ2 : Std} {i j : Nat} {d e : D} [h1 : SetS σ i d σ1] [h2 : SetS σ1 j e σ2] : StepW (qPar i j σ n [d, e] M) (n σ2 M) := ⟨fun z => w_qPar z⟩
instance i_qPar3 {σ1 σ2 σ3 : Std} {i j l : Nat} {d e f : D} [h1 : SetS σ i d σ1] [h2 : SetS σ1 j e σ2] [h3 : SetS σ2 l f σ3] : StepW (qPar3 i j l σ n [d, e, f] M) (n σ3 M) := ⟨fun z => w_qPar3 z⟩
instance i_aug {i : Nat} {rd : R2D} {d : D} [h : GetS σ i d] : StepW (dAug i rd te ⟨n, Q, b, c, x⟩ σ M) (te σ M (fun e M1 => rd d e M1 (qSet i σ n)) (x σ)) := ⟨fun z => w_aug z⟩
instance i_qSet {i : Nat} {d : D} [h : SetS σ i d σ'] : StepW (qSet i σ n d M) (n σ' M) := ⟨fun z => w_qSet z⟩
instance i_fldS' {K : Bd} {f : Str} {ta : TED} : StepG (dFldS K f ta te ⟨n, Q, b, c, x⟩ σ M) (te σ M (fun v M1 => ta σ M1 (fun d M2 => ∃ a C fs, d = .ref a ∧ M2 a = some (.ins C fs) ∧ Cls K C ∧ NoAttr K C f ∧ fs.length < 1000 ∧ n σ (put M2 a (.ins C (putFD f v fs)))) (x σ)) (x σ)) := ⟨fun z => w_fldS' z⟩
instance i_dput' {td ty : TED} : StepG (dDPut td ty tv ⟨n, Q, b, c, x⟩ σ M) (tv σ M (fun v M1 => td σ M1 (fun d M2 => ty σ M2 (fun k M3 => ∃ a M4, d = .ref a ∧ DPutD M3 a k v M4 ∧ n σ M4) (x σ)) (x σ)) (x σ)) := ⟨fun z => w_dput' z⟩
instance i_for'  : StepG (dFor wi g t ⟨n, Q, b, c, x⟩ σ M) (wi σ M (fun J M1 => ∃ k, forN J g t ⟨n, Q, b, c, x⟩ k 0 σ M1) (x σ)) := ⟨fun z => w_for' z⟩
instance i_daug {rd : R2D} {td ty tv : TED} : StepG (dDAug rd td ty tv ⟨n, Q, b, c, x⟩ σ M) (td σ M (fun d M1 => ty σ M1 (fun k M2 => ∃ a v, d = .ref a ∧ DGetD M2 a k (some v) ∧ tv σ M2 (fun e M3 => rd v e M3 (fun z M4 => ∃ M5, DPutD M4 a k z M5 ∧ n σ M5)) (x σ)) (x σ)) (x σ)) := ⟨fun z => w_daug z⟩
instance i_ixaug {rd : R2D} {to ti te : TED} : StepG (dIxAug rd to ti te ⟨n, Q, b, c, x⟩ σ M) (to σ M (fun o M1 => ti σ M1 (fun i M2 => (∃ a xs, o = .ref a ∧ M2 a = some (.lst xs)) ∧ ixD o i M2 (fun x' M3 => te σ M3 (fun y M4 => rd x' y M4 (fun z M5 => setLD M5 o i z (fun M6 => n σ M6))) (x σ))) (x σ)) (x σ)) := ⟨fun z => w_ixaug z⟩
instance i_fldA {K : Bd} {rd : R2D} {f : Str} {ta tv : TED} : StepG (dFldA K rd f ta tv ⟨n, Q, b, c, x⟩ σ M) (ta σ M (fun d M1 => ∃ a C fs v, d = .ref a ∧ M1 a = some (.ins C fs) ∧ Cls K C ∧ NoAttr K C f ∧ lookD f fs = some v ∧ tv σ M1 (fun e M2 => rd v e M2 (fun z M3 => ∃ fs', M3 a = some (.ins C fs') ∧ fs'.length < 1000 ∧ n σ (put M3 a (.ins C (putFD f z fs'))))) (x σ)) (x σ)) := ⟨fun z => w_fldA z⟩
instance i_sub {i j : Int} : StepG (subD (.int i) (.int j) M Q) (Q (.int (i - j)) M) := ⟨fun z => w_sub z⟩
instance i_neg {i : Int} : StepG (negD (.int i) M Q) (Q (.int (-i)) M) := ⟨fun z => w_neg z⟩
instance i_int1 {i : Int} : StepG (intD [.int i] M Q) (Q (.int i) M) := ⟨fun z => w_int1 z⟩
instance i_abs {i : Int} : StepG (absD [.int i] M Q) (Q (.int (if i < 0 then -i else i)) M) := ⟨fun z => w_abs z⟩
instance i_lstT {xs : List D} : StepG (lstD [.tup xs] M Q) (∀ p, M p = none → Q (.ref p) (put M p (.lst xs))) := ⟨fun z => w_lstT z⟩
instance i_isNN  : StepG (isN .non .non M Q) (Q (.bl true) M) := ⟨fun z => w_isNN z⟩
instance i_isNI {i : Int} : StepG (isN (.int i) .non M Q) (Q (.bl false) M) := ⟨fun z => w_isNI z⟩
instance i_isNT {xs : List D} : StepG (isN (.tup xs) .non M Q) (Q (.bl false) M) := ⟨fun z => w_isNT z⟩
instance i_isNS {s : Str} : StepG (isN (.str s) .non M Q) (Q (.bl false) M) := ⟨fun z => w_isNS z⟩
instance i_notNN  : StepG (notN .non .non M Q) (Q (.bl false) M) := ⟨fun z => w_notNN z⟩
instance i_notNI {i : Int} : StepG (notN (.int i) .non M Q) (Q (.bl true) M) := ⟨fun z => w_notNI z⟩
instance i_notNT {xs : List D} : StepG (notN (.tup xs) .non M Q) (Q (.bl true) M) := ⟨fun z => w_notNT z⟩
instance i_notNS {s : Str} : StepG (notN (.str s) .non M Q) (Q (.bl true) M) := ⟨fun z => w_notNS z⟩
instance i_un {n : Nat} {P : Prop} : StepG (n = n ∧ P) (P) := ⟨fun z => w_un z⟩
instance i_tup {t : TAD} : StepG (dTup t σ M Q E) (t σ M (fun ds M1 => ds.length ≤ sizeLine ∧ Q (.tup ds) M1) E) := ⟨fun z => w_tup z⟩
instance i_lst {t : TAD} : StepG (dLst t σ M Q E) (t σ M (fun ds M1 => ds.length ≤ sizeLine ∧ ∀ p, M1 p = none → Q (.ref p) (put M1 p (.lst ds))) E) := ⟨fun z => w_lst z⟩
instance i_lc : StepG (dLc wi g tt te vs σ M Q E) (wi σ M (fun J M1 => ∃ n, lcN J g tt te vs σ Q n 0 M1 []) E) := ⟨fun z => w_lc z⟩
instance i_lc2 : StepG (dLc2 wi g tt wi1 g1 tu te vs vs1 σ M Q E) (wi σ M (fun J M1 => ∃ n, lc2Out J g tt wi1 g1 tu te vs vs1 σ Q n 0 M1 []) E) := ⟨fun z => w_lc2 z⟩
instance i_dc : StepG (dDc wi g tt tk tv vs σ M Q E) (wi σ M (fun J M1 => ∃ n, dcN J g tt tk tv vs σ Q n 0 M1 []) E) := ⟨fun z => w_dc z⟩
instance i_dc2 : StepG (dDc2 wi g tt wi1 g1 tu tk tv vs vs1 σ M Q E) (wi σ M (fun J M1 => ∃ n, dc2Out J g tt wi1 g1 tu tk tv vs vs1 σ Q n 0 M1 []) E) := ⟨fun z => w_dc2 z⟩
instance i_make {C : Addr} {sp : SpD} {t : TAD} : StepG (dMake C sp t σ M Q E) (t σ M (fun ds M1 => ∀ x, M1 x = none → sp (.ref x :: ds) (put M1 x (.ins C [])) (fun v M2 => v = .non ∧ Q (.ref x) M2) noX) E) := ⟨fun z => w_make z⟩
instance i_meth {C : Addr} {m : Str} {sp : SpD} {ta : TED} {ts : TAD} : StepG (dMeth C m sp ta ts σ M Q E) (ta σ M (fun d M1 => ∃ a fs, d = .ref a ∧ M1 a = some (.ins C fs) ∧ lookD m fs = none ∧ ts σ M1 (fun ds M2 => sp (d :: ds) M2 Q noX) E) E) := ⟨fun z => w_meth z⟩
instance i_yes {T : Bool → DM → Prop} : StepG (tYesD σ M T E) (T true M) := ⟨fun z => w_yes z⟩
instance i_min {a b : Str} : StepG (min2D [.str a, .str b] M Q) (Q (.str (minS a b)) M) := ⟨fun z => w_min z⟩
instance i_max {a b : Str} : StepG (max2D [.str a, .str b] M Q) (Q (.str (maxS a b)) M) := ⟨fun z => w_max z⟩
instance i_add {i j : Int} : StepG (addD (.int i) (.int j) M Q) (Q (.int (i + j)) M) := ⟨fun z => w_add z⟩
instance i_slT {xs : List D} {l u : Option Int} : StepG (slD (.tup xs) l u M Q) (Q (.tup (cutD xs l u)) M) := ⟨fun z => w_slT z⟩
instance i_lenT {xs : List D} : StepG (lenD [.tup xs] M Q) (Q (.int (xs.length : Nat)) M) := ⟨fun z => w_lenT z⟩
instance i_tupT {xs : List D} : StepG (tupD [.tup xs] M Q) (Q (.tup xs) M) := ⟨fun z => w_tupT z⟩
instance i_lt {i j : Int} : StepG (ltD (.int i) (.int j) M Q) (Q (.bl (decide (i < j))) M) := ⟨fun z => lt_int z⟩
instance i_gt {i j : Int} : StepG (gtD (.int i) (.int j) M Q) (Q (.bl (decide (j < i))) M) := ⟨fun z => gt_int z⟩
instance i_le {i j : Int} : StepG (leD (.int i) (.int j) M Q) (Q (.bl (decide (i ≤ j))) M) := ⟨fun z => le_int z⟩
instance i_ge {i j : Int} : StepG (geD (.int i) (.int j) M Q) (Q (.bl (decide (j ≤ i))) M) := ⟨fun z => ge_int z⟩
instance i_eqi {i j : Int} : StepG (eqD (.int i) (.int j) M Q) (Q (.bl (decide (i = j))) M) := ⟨fun z => eq_int z⟩
instance i_nei {i j : Int} : StepG (neD (.int i) (.int j) M Q) (Q (.bl (!decide (i = j))) M) := ⟨fun z => ne_int z⟩
instance i_eqs {a b : Str} : StepG (eqD (.str a) (.str b) M Q) (Q (.bl (decide (a = b))) M) := ⟨fun z => eq_str z⟩
instance i_nes {a b : Str} : StepG (neD (.str a) (.str b) M Q) (Q (.bl (!decide (a = b))) M) := ⟨fun z => ne_str z⟩
end
section
variable {M : DM} {P R : DM → Prop}
instance i_kpT : StepW (qKp P R true M) (P M) := ⟨fun z => z⟩
instance i_kpF : StepW (qKp P R false M) (R M) := ⟨fun z => z⟩
instance i_kpNT : StepW (qKp P R (!false) M) (P M) := ⟨fun z => z⟩
instance i_kpNF : StepW (qKp P R (!true) M) (R M) := ⟨fun z => z⟩
end
/-! ### of encoded values -/
section
variable {α β : Type} [Enc α] [Enc β] {M : DM} {Q : DQ} {σ : Std} {E : DX} {R : ItD → DM → Prop} {gs : TGsD}
instance i_seqE {xs : List α} : StepW (qSeq R (Enc.d xs) M) (R (itT (xs.map Enc.d)) M) := ⟨fun z => z⟩
instance i_enumE {xs : List α} : StepW (qEnum R [Enc.d xs] M) (R (itE (itT (xs.map Enc.d))) M) := ⟨fun z => z⟩
instance i_unE {Q : Std → DM → Prop} {x : α × β} {n : Nat} : StepW (gUn n gs (Enc.d x) σ M Q E) (([Enc.d x.1, Enc.d x.2] : List D).length = n ∧ gs [Enc.d x.1, Enc.d x.2] σ M Q E) := ⟨fun z => z⟩
instance i_lenE {xs : List α} : StepG (lenD [Enc.d xs] M Q) (Q (.int (xs.length : Nat)) M) := ⟨fun z => by
  have : Q (.int ((xs.map (Enc.d (α := α))).length : Nat)) M := by rw [List.length_map]; exact z
  exact this⟩
instance i_slE {xs : List α} {l u : Option Int} : StepG (slD (Enc.d xs) l u M Q) (Q (.tup (cutD (xs.map Enc.d) l u)) M) := ⟨fun z => z⟩
instance i_tupE {xs : List α} : StepG (tupD [Enc.d xs] M Q) (Q (Enc.d xs) M) := ⟨fun z => z⟩
instance i_lstE {xs : List α} : StepG (lstD [Enc.d xs] M Q) (∀ p, M p = none → Q (.ref p) (put M p (.lst (xs.map Enc.d)))) := ⟨fun z => z⟩
end
section
variable {K : Bd} {M : DM} {Q : DQ}
theorem look1 {f : Str} {v : D} {r : List (Str × D)} : lookD f ((f, v) :: r) = some v := by unfold lookD; rw [if_pos rfl]
theorem lookS {f g : Str} {d v : D} {r : List (Str × D)} (h : decide (f = g) = false) (q : lookD f r = some v) : lookD f ((g, d) :: r) = some v := by unfold lookD; rw [if_neg (of_decide_eq_false h)]; exact q
theorem fld_ok {a C : Addr} {fs : List (Str × D)} {f : Str} {v : D} (e : M a = some (.ins C fs)) (cl : Cls K C ∧ NoAttr K C f) (l : lookD f fs = some v) (q : Q v M) : fldD K f (.ref a) M Q := ⟨a, C, fs, v, rfl, e, cl.1, cl.2, l, q⟩
theorem look_none {f : Str} {fs : List (Str × D)} {ns : List Str} (hn : fs.map (·.1) = ns) (h : decide (f ∈ ns) = false) : lookD f fs = none := by
  subst hn
  replace h := of_decide_eq_false h
  induction fs with
  | nil => rfl
  | cons p fs ih =>
    obtain ⟨g, v⟩ := p
    simp only [List.map_cons, List.mem_cons, not_or] at h
    unfold lookD
    rw [if_neg h.1]
    exact ih h.2
theorem st_okG {P : Std → DM → (Std → DM → Prop) → DX → Prop} {σ : Std} {Qs : Std → DM → Prop} {E : DX} {f : Str} {C : Addr} {v : D} {fs fs' : List (Str × D)} {a : Addr} (cl : Cls K C ∧ NoAttr K C f) (e : M a = some (.ins C fs)) (hf : putFD f v fs = fs') (hl : fs.length < 1000) (q : P σ (put M a (.ins C fs')) Qs E) :
    ∃ b C' gs, D.ref a = .ref b ∧ M b = some (.ins C' gs) ∧ Cls K C' ∧ NoAttr K C' f ∧ gs.length < 1000 ∧ P σ (put M b (.ins C' (putFD f v gs))) Qs E := ⟨a, C, fs, rfl, e, cl.1, cl.2, hl, by rw [hf]; exact q⟩
theorem st_ok {P : DM → Prop} {f : Str} {C : Addr} {v : D} {fs fs' : List (Str × D)} {a : Addr} (cl : Cls K C ∧ NoAttr K C f) (e : M a = some (.ins C fs)) (hf : putFD f v fs = fs') (hl : fs.length < 1000) (q : P (put M a (.ins C fs'))) :
    ∃ b C' gs, D.ref a = .ref b ∧ M b = some (.ins C' gs) ∧ Cls K C' ∧ NoAttr K C' f ∧ gs.length < 1000 ∧ P (put M b (.ins C' (putFD f v gs))) := ⟨a, C, fs, rfl, e, cl.1, cl.2, hl, by rw [hf]; exact q⟩
def CF (K : Bd) (C : String) (ns : List Str) : Prop := ∀ f ∈ ns, Cls K (He.ga K.K C) ∧ NoAttr K (He.ga K.K C) f
theorem CF.get {K : Bd} {C : String} {ns : List Str} {f : Str} (h : CF K C ns) (e : decide (f ∈ ns) = true) : Cls K (He.ga K.K C) ∧ NoAttr K (He.ga K.K C) f := h f (of_decide_eq_true e)
end
end Dt

set_option Elab.async false
set_option autoImplicit false
set_option linter.all false
set_option maxRecDepth 100000
set_option maxHeartbeats 0
namespace Dt
open PySem PySem.Spec PyProof.Rows L2 LamX
def N_is_number : List Str := ["thing"]
theorem nd_is_number : N_is_number.Nodup := by decide
def N_is_index : List Str := ["thing"]
theorem nd_is_index : N_is_index.Nodup := by decide
def N_check_sign : List Str := ["alphabet", "sign"]
theorem nd_check_sign : N_check_sign.Nodup := by decide
def N_are_independent : List Str := ["alphabet", "a", "b"]
theorem nd_are_independent : N_are_independent.Nodup := by decide
def N_dependent_couples : List Str := ["alphabet", "signs", "couples", "b", "at", "a", "couple"]
theorem nd_dependent_couples : N_dependent_couples.Nodup := by decide
def N_cut : List Str := ["row", "a", "b", "sign"]
theorem nd_cut : N_cut.Nodup := by decide
def N_Left___init__ : List Str := ["self", "alphabet", "row", "dependent", "a", "b", "sign", "at", "one"]
theorem nd_Left___init__ : N_Left___init__.Nodup := by decide
def N_Left_place : List Str := ["self", "sign", "at"]
theorem nd_Left_place : N_Left_place.Nodup := by decide
def N_Left_can_be_first : List Str := ["self", "sign", "here", "others", "other", "there"]
theorem nd_Left_can_be_first : N_Left_can_be_first.Nodup := by decide
def N_Left_firsts : List Str := ["self", "sign"]
theorem nd_Left_firsts : N_Left_firsts.Nodup := by decide
def N_Left_take : List Str := ["self", "sign"]
theorem nd_Left_take : N_Left_take.Nodup := by decide
def N_Left_left : List Str := ["self", "gone", "sign", "at"]
theorem nd_Left_left : N_Left_left.Nodup := by decide
def N_normal : List Str := ["alphabet", "row", "_turn", "left", "found", "sign"]
theorem nd_normal : N_normal.Nodup := by decide
def N_left_of : List Str := ["alphabet", "g", "x", "left", "sign"]
theorem nd_left_of : N_left_of.Nodup := by decide
def N_common : List Str := ["alphabet", "x", "y", "one", "other", "found", "both", "sign"]
theorem nd_common : N_common.Nodup := by decide
def N_lag : List Str := ["alphabet", "one", "other", "g"]
theorem nd_lag : N_lag.Nodup := by decide
def N_behind : List Str := ["alphabet", "told", "one", "other"]
theorem nd_behind : N_behind.Nodup := by decide
def N_Monitor___init__ : List Str := ["self", "alphabet", "due"]
theorem nd_Monitor___init__ : N_Monitor___init__.Nodup := by decide
def N_Monitor_told : List Str := ["self", "sign", "came", "a", "b", "one", "due"]
theorem nd_Monitor_told : N_Monitor_told.Nodup := by decide
def N_Monitor_put : List Str := ["self", "sign"]
theorem nd_Monitor_put : N_Monitor_put.Nodup := by decide
def N_Monitor_left : List Str := ["self"]
theorem nd_Monitor_left : N_Monitor_left.Nodup := by decide
def N_Monitor_is_done : List Str := ["self"]
theorem nd_Monitor_is_done : N_Monitor_is_done.Nodup := by decide
def N_Monitor_came : List Str := ["self"]
theorem nd_Monitor_came : N_Monitor_came.Nodup := by decide
def N_Monitor_twin : List Str := ["self", "other"]
theorem nd_Monitor_twin : N_Monitor_twin.Nodup := by decide
def N_Watch___init__ : List Str := ["self", "alphabet"]
theorem nd_Watch___init__ : N_Watch___init__.Nodup := by decide
def N_Watch_told : List Str := ["self", "couples", "first", "left", "right", "one", "other"]
theorem nd_Watch_told : N_Watch_told.Nodup := by decide
def N_Watch_put : List Str := ["self", "side", "sign", "more"]
theorem nd_Watch_put : N_Watch_put.Nodup := by decide
def N_Watch_lag : List Str := ["self"]
theorem nd_Watch_lag : N_Watch_lag.Nodup := by decide
def N_Watch_are_even : List Str := ["self"]
theorem nd_Watch_are_even : N_Watch_are_even.Nodup := by decide
def N_Watch_twin : List Str := ["self", "other"]
theorem nd_Watch_twin : N_Watch_twin.Nodup := by decide
def N_looked_at : List Str := ["alphabet", "due", "row", "monitor", "index", "sign", "parting"]
theorem nd_looked_at : N_looked_at.Nodup := by decide
def N_looked_at_both : List Str := ["alphabet", "steps", "watch", "index", "parting", "side", "sign"]
theorem nd_looked_at_both : N_looked_at_both.Nodup := by decide
def N__law_bag : List Str := ["script", "cell"]
theorem nd__law_bag : N__law_bag.Nodup := by decide
def N__law_take : List Str := ["bag", "many", "begin", "second", "cell", "stirred", "value"]
theorem nd__law_take : N__law_take.Nodup := by decide
def N__law_some : List Str := ["bag", "things"]
theorem nd__law_some : N__law_some.Nodup := by decide
def N__law_alike : List Str := ["found", "due"]
theorem nd__law_alike : N__law_alike.Nodup := by decide
def N__law_alphabet : List Str := ["bag", "signs", "couples", "k", "a", "b"]
theorem nd__law_alphabet : N__law_alphabet.Nodup := by decide
def N__law_is_free : List Str := ["alphabet", "a", "b"]
theorem nd__law_is_free : N__law_is_free.Nodup := by decide
def N__law_cut : List Str := ["row", "signs", "a"]
theorem nd__law_cut : N__law_cut.Nodup := by decide
def N__law_firsts : List Str := ["alphabet", "row", "found", "k", "a", "b"]
theorem nd__law_firsts : N__law_firsts.Nodup := by decide
def N__law_without : List Str := ["row", "a", "k"]
theorem nd__law_without : N__law_without.Nodup := by decide
def N__law_normal : List Str := ["alphabet", "row", "found", "a"]
theorem nd__law_normal : N__law_normal.Nodup := by decide
def N__law_lag : List Str := ["alphabet", "one", "other", "found", "both", "a"]
theorem nd__law_lag : N__law_lag.Nodup := by decide
def N__law_left_of : List Str := ["alphabet", "begin", "row", "a"]
theorem nd__law_left_of : N__law_left_of.Nodup := by decide
def N__law_class : List Str := ["alphabet", "row", "most", "found", "line", "here", "k", "other"]
theorem nd__law_class : N__law_class.Nodup := by decide
def N__law_row : List Str := ["bag", "signs", "most", "k"]
theorem nd__law_row : N__law_row.Nodup := by decide
def N__law_parting : List Str := ["alphabet", "due", "came", "sign", "row", "k", "a", "b", "one", "other"]
theorem nd__law_parting : N__law_parting.Nodup := by decide
def N__law_met : List Str := ["alphabet", "one", "other", "found", "a", "b"]
theorem nd__law_met : N__law_met.Nodup := by decide
def N_law : List Str := ["script", "bag", "lap", "alphabet", "due", "every", "row", "k", "told", "monitor", "came", "part", "first", "sign", "left", "other", "its", "watch", "roads", "steps", "at", "side", "common_v", "right"]
theorem nd_law : N_law.Nodup := by decide

def t_is_number (K : Bd) : TSD := (dRet (dAndV (dIsi isi_int (dVar 0)) (dNotV (dIsi isi_bool (dVar 0)))))
def sp_is_number (K : Bd) : SpD := fun ds M Q _ => ds.length = 1 ∧ t_is_number K (dEnd Q noX) (startD N_is_number ds) M
theorem go_is_number {K : Bd} {M : DM} {Q : DQ} {a : D} (h : t_is_number K (dEnd Q noX) [some a] M) : sp_is_number K [a] M Q noX := ⟨rfl, h⟩
def t_is_index (K : Bd) : TSD := (dRet (dAndV (dCall (sp_is_number K) (dCons (dVar 0) dNil)) (dOp geD (dVar 0) (dC (.int 0)))))
def sp_is_index (K : Bd) : SpD := fun ds M Q _ => ds.length = 1 ∧ t_is_index K (dEnd Q noX) (startD N_is_index ds) M
theorem go_is_index {K : Bd} {M : DM} {Q : DQ} {a : D} (h : t_is_index K (dEnd Q noX) [some a] M) : sp_is_index K [a] M Q noX := ⟨rfl, h⟩
def t_check_sign (K : Bd) : TSD := (dIfS (dOr (dNot (dB (dIsi isi_str (dVar 1)))) (dB (dOp (memD true) (dVar 1) (dOp ixD (dVar 0) (dC (.int 0)))))) dNever dNext)
def sp_check_sign (K : Bd) : SpD := fun ds M Q _ => ds.length = 2 ∧ t_check_sign K (dEnd Q noX) (startD N_check_sign ds) M
theorem go_check_sign {K : Bd} {M : DM} {Q : DQ} {a b : D} (h : t_check_sign K (dEnd Q noX) [some a, some b] M) : sp_check_sign K [a, b] M Q noX := ⟨rfl, h⟩
def t_are_independent (K : Bd) : TSD := (dSeq (dDrop (dCall (sp_check_sign K) (dCons (dVar 0) (dCons (dVar 1) dNil)))) (dSeq (dDrop (dCall (sp_check_sign K) (dCons (dVar 0) (dCons (dVar 2) dNil)))) (dRet (dOp (memD false) (dTup (dCons (dCB min2D (dCons (dVar 1) (dCons (dVar 2) dNil))) (dCons (dCB max2D (dCons (dVar 1) (dCons (dVar 2) dNil))) dNil))) (dOp ixD (dVar 0) (dC (.int 1)))))))
def sp_are_independent (K : Bd) : SpD := fun ds M Q _ => ds.length = 3 ∧ t_are_independent K (dEnd Q noX) (startD N_are_independent ds) M
theorem go_are_independent {K : Bd} {M : DM} {Q : DQ} {a b c : D} (h : t_are_independent K (dEnd Q noX) [some a, some b, some c] M) : sp_are_independent K [a, b, c] M Q noX := ⟨rfl, h⟩
def t_dependent_couples (K : Bd) : TSD := (dSeq (dAsg (dOp ixD (dVar 0) (dC (.int 0))) (gNm 1)) (dSeq (dAsg (dLc2 (diEnum (dCons (dVar 1) dNil)) (gUn 2 (gConsD (gNm 4) (gConsD (gNm 5) gNilD))) tYesD (diSeq (dSl (dVar 1) (dPart (dOp addD (dVar 4) (dC (.int 1)))) dNo)) (gNm 3) tYesD (dTup (dCons (dVar 5) (dCons (dVar 3) dNil))) [4, 5, 3] [3]) (gNm 2)) (dRet (dCB tupD (dCons (dLc (diSeq (dVar 2)) (gNm 6) (dB (dOp (memD true) (dVar 6) (dOp ixD (dVar 0) (dC (.int 1))))) (dVar 6) [6]) dNil)))))
def sp_dependent_couples (K : Bd) : SpD := fun ds M Q _ => ds.length = 1 ∧ t_dependent_couples K (dEnd Q noX) (startD N_dependent_couples ds) M
theorem go_dependent_couples {K : Bd} {M : DM} {Q : DQ} {a : D} (h : t_dependent_couples K (dEnd Q noX) [some a, none, none, none, none, none, none] M) : sp_dependent_couples K [a] M Q noX := ⟨rfl, h⟩
def t_cut (K : Bd) : TSD := (dRet (dCB tupD (dCons (dLc (diSeq (dVar 0)) (gNm 3) (dB (dOp (memD false) (dVar 3) (dTup (dCons (dVar 1) (dCons (dVar 2) dNil))))) (dVar 3) [3]) dNil)))
def sp_cut (K : Bd) : SpD := fun ds M Q _ => ds.length = 3 ∧ t_cut K (dEnd Q noX) (startD N_cut ds) M
theorem go_cut {K : Bd} {M : DM} {Q : DQ} {a b c : D} (h : t_cut K (dEnd Q noX) [some a, some b, some c, none] M) : sp_cut K [a, b, c] M Q noX := ⟨rfl, h⟩
def t_Left___init__ (K : Bd) : TSD := (dSeq (dFldS K "row" (dVar 0) (dVar 2)) (dSeq (dFldS K "signs" (dVar 0) (dOp ixD (dVar 1) (dC (.int 0)))) (dSeq (dAsg (dDc (diSeq (dUn (fldD K "signs") (dVar 0))) (gNm 6) tYesD (dVar 6) (dLst (dCons (dVar 6) dNil)) [6]) (gNm 3)) (dSeq (dFor (diSeq (dCall (sp_dependent_couples K) (dCons (dVar 1) dNil))) (gUn 2 (gConsD (gNm 4) (gConsD (gNm 5) gNilD))) (dSeq (dDrop (dBM isLst appD (dOp dgetD (dVar 3) (dVar 4)) (dCons (dVar 5) dNil))) (dDrop (dBM isLst appD (dOp dgetD (dVar 3) (dVar 5)) (dCons (dVar 4) dNil))))) (dSeq (dFldS K "dependent" (dVar 0) (dVar 3)) (dSeq (dFldS K "places" (dVar 0) (dDc (diSeq (dUn (fldD K "signs") (dVar 0))) (gNm 6) tYesD (dVar 6) (dLc (diEnum (dCons (dVar 2) dNil)) (gUn 2 (gConsD (gNm 7) (gConsD (gNm 8) gNilD))) (dB (dOp eqD (dVar 8) (dVar 6))) (dVar 7) [7, 8]) [6])) (dFldS K "taken" (dVar 0) (dDc (diSeq (dUn (fldD K "signs") (dVar 0))) (gNm 6) tYesD (dVar 6) (dC (.int 0)) [6]))))))))
def sp_Left___init__ (K : Bd) : SpD := fun ds M Q _ => ds.length = 3 ∧ t_Left___init__ K (dEnd Q noX) (startD N_Left___init__ ds) M
theorem go_Left___init__ {K : Bd} {M : DM} {Q : DQ} {a b c : D} (h : t_Left___init__ K (dEnd Q noX) [some a, some b, some c, none, none, none, none, none, none] M) : sp_Left___init__ K [a, b, c] M Q noX := ⟨rfl, h⟩
def t_Left_place (K : Bd) : TSD := (dSeq (dAsg (dOp dgetD (dUn (fldD K "taken") (dVar 0)) (dVar 1)) (gNm 2)) (dRet (dIf (dB (dOp ltD (dVar 2) (dCB lenD (dCons (dOp dgetD (dUn (fldD K "places") (dVar 0)) (dVar 1)) dNil)))) (dOp ixD (dOp dgetD (dUn (fldD K "places") (dVar 0)) (dVar 1)) (dVar 2)) (dC .non))))
def sp_Left_place (K : Bd) : SpD := fun ds M Q _ => ds.length = 2 ∧ t_Left_place K (dEnd Q noX) (startD N_Left_place ds) M
theorem go_Left_place {K : Bd} {M : DM} {Q : DQ} {a b : D} (h : t_Left_place K (dEnd Q noX) [some a, some b, none] M) : sp_Left_place K [a, b] M Q noX := ⟨rfl, h⟩
def t_Left_can_be_first (K : Bd) : TSD := (dSeq (dAsg (dMeth (He.ga K.K "Left") "place" (sp_Left_place K) (dVar 0) (dCons (dVar 1) dNil)) (gNm 2)) (dSeq (dIfS (dB (dOp isN (dVar 2) (dC .non))) (dRet (dC (.bl false))) dNext) (dSeq (dAsg (dLc (diSeq (dOp dgetD (dUn (fldD K "dependent") (dVar 0)) (dVar 1))) (gNm 4) (dB (dOp neD (dVar 4) (dVar 1))) (dMeth (He.ga K.K "Left") "place" (sp_Left_place K) (dVar 0) (dCons (dVar 4) dNil)) [4]) (gNm 3)) (dRet (dCB allD (dCons (dLc (diSeq (dVar 3)) (gNm 5) tYesD (dOrV (dOp isN (dVar 5) (dC .non)) (dOp gtD (dVar 5) (dVar 2))) [5]) dNil))))))
def sp_Left_can_be_first (K : Bd) : SpD := fun ds M Q _ => ds.length = 2 ∧ t_Left_can_be_first K (dEnd Q noX) (startD N_Left_can_be_first ds) M
theorem go_Left_can_be_first {K : Bd} {M : DM} {Q : DQ} {a b : D} (h : t_Left_can_be_first K (dEnd Q noX) [some a, some b, none, none, none, none] M) : sp_Left_can_be_first K [a, b] M Q noX := ⟨rfl, h⟩
def t_Left_firsts (K : Bd) : TSD := (dRet (dLc (diSeq (dUn (fldD K "signs") (dVar 0))) (gNm 1) (dB (dMeth (He.ga K.K "Left") "can_be_first" (sp_Left_can_be_first K) (dVar 0) (dCons (dVar 1) dNil))) (dVar 1) [1]))
def sp_Left_firsts (K : Bd) : SpD := fun ds M Q _ => ds.length = 1 ∧ t_Left_firsts K (dEnd Q noX) (startD N_Left_firsts ds) M
theorem go_Left_firsts {K : Bd} {M : DM} {Q : DQ} {a : D} (h : t_Left_firsts K (dEnd Q noX) [some a, none] M) : sp_Left_firsts K [a] M Q noX := ⟨rfl, h⟩
def t_Left_take (K : Bd) : TSD := (dDAug (intOp0 fun i j => i + j) (dUn (fldD K "taken") (dVar 0)) (dVar 1) (dC (.int 1)))
def sp_Left_take (K : Bd) : SpD := fun ds M Q _ => ds.length = 2 ∧ t_Left_take K (dEnd Q noX) (startD N_Left_take ds) M
theorem go_Left_take {K : Bd} {M : DM} {Q : DQ} {a b : D} (h : t_Left_take K (dEnd Q noX) [some a, some b] M) : sp_Left_take K [a, b] M Q noX := ⟨rfl, h⟩
def t_Left_left (K : Bd) : TSD := (dSeq (dAsg (dDc2 (diSeq (dUn (fldD K "signs") (dVar 0))) (gNm 2) tYesD (diSeq (dSl (dOp dgetD (dUn (fldD K "places") (dVar 0)) (dVar 2)) dNo (dPart (dOp dgetD (dUn (fldD K "taken") (dVar 0)) (dVar 2))))) (gNm 3) tYesD (dVar 3) (dC (.bl true)) [2, 3] [3]) (gNm 1)) (dRet (dCB tupD (dCons (dLc (diEnum (dCons (dUn (fldD K "row") (dVar 0)) dNil)) (gUn 2 (gConsD (gNm 3) (gConsD (gNm 2) gNilD))) (dB (dOp (dinD true) (dVar 3) (dVar 1))) (dVar 2) [3, 2]) dNil))))
def sp_Left_left (K : Bd) : SpD := fun ds M Q _ => ds.length = 1 ∧ t_Left_left K (dEnd Q noX) (startD N_Left_left ds) M
theorem go_Left_left {K : Bd} {M : DM} {Q : DQ} {a : D} (h : t_Left_left K (dEnd Q noX) [some a, none, none, none] M) : sp_Left_left K [a] M Q noX := ⟨rfl, h⟩
def t_normal (K : Bd) : TSD := (dSeq (dPar 3 4 (dCons (dMake (He.ga K.K "Left") (sp_Left___init__ K) (dCons (dVar 0) (dCons (dVar 1) dNil))) (dCons (dLst dNil) dNil))) (dSeq (dFor (diRng1 (dCons (dCB lenD (dCons (dVar 1) dNil)) dNil)) (gNm 2) (dSeq (dAsg (dOp ixD (dMeth (He.ga K.K "Left") "firsts" (sp_Left_firsts K) (dVar 3) dNil) (dC (.int 0))) (gNm 5)) (dSeq (dDrop (dMeth (He.ga K.K "Left") "take" (sp_Left_take K) (dVar 3) (dCons (dVar 5) dNil))) (dDrop (dBM isLst appD (dVar 4) (dCons (dVar 5) dNil)))))) (dRet (dCB tupD (dCons (dVar 4) dNil)))))
def sp_normal (K : Bd) : SpD := fun ds M Q _ => ds.length = 2 ∧ t_normal K (dEnd Q noX) (startD N_normal ds) M
theorem go_normal {K : Bd} {M : DM} {Q : DQ} {a b : D} (h : t_normal K (dEnd Q noX) [some a, some b, none, none, none, none] M) : sp_normal K [a, b] M Q noX := ⟨rfl, h⟩
def t_left_of (K : Bd) : TSD := (dSeq (dAsg (dMake (He.ga K.K "Left") (sp_Left___init__ K) (dCons (dVar 0) (dCons (dVar 2) dNil))) (gNm 3)) (dSeq (dFor (diSeq (dVar 1)) (gNm 4) (dSeq (dIfS (dNot (dB (dMeth (He.ga K.K "Left") "can_be_first" (sp_Left_can_be_first K) (dVar 3) (dCons (dVar 4) dNil)))) (dRet (dC .non)) dNext) (dDrop (dMeth (He.ga K.K "Left") "take" (sp_Left_take K) (dVar 3) (dCons (dVar 4) dNil))))) (dRet (dCall (sp_normal K) (dCons (dVar 0) (dCons (dMeth (He.ga K.K "Left") "left" (sp_Left_left K) (dVar 3) dNil) dNil))))))
def sp_left_of (K : Bd) : SpD := fun ds M Q _ => ds.length = 3 ∧ t_left_of K (dEnd Q noX) (startD N_left_of ds) M
theorem go_left_of {K : Bd} {M : DM} {Q : DQ} {a b c : D} (h : t_left_of K (dEnd Q noX) [some a, some b, some c, none, none] M) : sp_left_of K [a, b, c] M Q noX := ⟨rfl, h⟩
def t_common (K : Bd) : TSD := (dSeq (dAsg (dTup (dCons (dMake (He.ga K.K "Left") (sp_Left___init__ K) (dCons (dVar 0) (dCons (dVar 1) dNil))) (dCons (dMake (He.ga K.K "Left") (sp_Left___init__ K) (dCons (dVar 0) (dCons (dVar 2) dNil))) (dCons (dLst dNil) dNil)))) (gUn 3 (gConsD (gNm 3) (gConsD (gNm 4) (gConsD (gNm 5) gNilD))))) (dWhile (dB (dC (.bl true))) (dSeq (dAsg (dLc (diSeq (dMeth (He.ga K.K "Left") "firsts" (sp_Left_firsts K) (dVar 3) dNil)) (gNm 7) (dB (dMeth (He.ga K.K "Left") "can_be_first" (sp_Left_can_be_first K) (dVar 4) (dCons (dVar 7) dNil))) (dVar 7) [7]) (gNm 6)) (dSeq (dIfS (dB (dOp eqD (dVar 6) (dLst dNil))) (dRet (dCall (sp_normal K) (dCons (dVar 0) (dCons (dCB tupD (dCons (dVar 5) dNil)) dNil)))) dNext) (dSeq (dDrop (dMeth (He.ga K.K "Left") "take" (sp_Left_take K) (dVar 3) (dCons (dOp ixD (dVar 6) (dC (.int 0))) dNil))) (dSeq (dDrop (dMeth (He.ga K.K "Left") "take" (sp_Left_take K) (dVar 4) (dCons (dOp ixD (dVar 6) (dC (.int 0))) dNil))) (dDrop (dBM isLst appD (dVar 5) (dCons (dOp ixD (dVar 6) (dC (.int 0))) dNil)))))))))
def sp_common (K : Bd) : SpD := fun ds M Q _ => ds.length = 3 ∧ t_common K (dEnd Q noX) (startD N_common ds) M
theorem go_common {K : Bd} {M : DM} {Q : DQ} {a b c : D} (h : t_common K (dEnd Q noX) [some a, some b, some c, none, none, none, none, none] M) : sp_common K [a, b, c] M Q noX := ⟨rfl, h⟩
def t_lag (K : Bd) : TSD := (dSeq (dAsg (dCall (sp_common K) (dCons (dVar 0) (dCons (dVar 1) (dCons (dVar 2) dNil)))) (gNm 3)) (dRet (dTup (dCons (dCall (sp_left_of K) (dCons (dVar 0) (dCons (dVar 3) (dCons (dVar 1) dNil)))) (dCons (dCall (sp_left_of K) (dCons (dVar 0) (dCons (dVar 3) (dCons (dVar 2) dNil)))) dNil)))))
def sp_lag (K : Bd) : SpD := fun ds M Q _ => ds.length = 3 ∧ t_lag K (dEnd Q noX) (startD N_lag ds) M
theorem go_lag {K : Bd} {M : DM} {Q : DQ} {a b c : D} (h : t_lag K (dEnd Q noX) [some a, some b, some c, none] M) : sp_lag K [a, b, c] M Q noX := ⟨rfl, h⟩
def t_behind (K : Bd) : TSD := (dRet (dCall (sp_lag K) (dCons (dVar 0) (dCons (dOp addD (dOp ixD (dVar 1) (dC (.int 0))) (dVar 2)) (dCons (dOp addD (dOp ixD (dVar 1) (dC (.int 1))) (dVar 3)) dNil)))))
def sp_behind (K : Bd) : SpD := fun ds M Q _ => ds.length = 4 ∧ t_behind K (dEnd Q noX) (startD N_behind ds) M
theorem go_behind {K : Bd} {M : DM} {Q : DQ} {a b c d : D} (h : t_behind K (dEnd Q noX) [some a, some b, some c, some d] M) : sp_behind K [a, b, c, d] M Q noX := ⟨rfl, h⟩
def t_Monitor___init__ (K : Bd) : TSD := (dSeq (dFldS K "alphabet" (dVar 0) (dVar 1)) (dSeq (dFldS K "due" (dVar 0) (dVar 2)) (dSeq (dFldS K "its_left" (dVar 0) (dMake (He.ga K.K "Left") (sp_Left___init__ K) (dCons (dVar 1) (dCons (dVar 2) dNil)))) (dSeq (dFldS K "signs" (dVar 0) (dLst dNil)) (dFldS K "parting" (dVar 0) (dC .non))))))
def sp_Monitor___init__ (K : Bd) : SpD := fun ds M Q _ => ds.length = 3 ∧ t_Monitor___init__ K (dEnd Q noX) (startD N_Monitor___init__ ds) M
theorem go_Monitor___init__ {K : Bd} {M : DM} {Q : DQ} {a b c : D} (h : t_Monitor___init__ K (dEnd Q noX) [some a, some b, some c] M) : sp_Monitor___init__ K [a, b, c] M Q noX := ⟨rfl, h⟩
def t_Monitor_told (K : Bd) : TSD := (dSeq (dIfS (dB (dOp isN (dMeth (He.ga K.K "Left") "place" (sp_Left_place K) (dUn (fldD K "its_left") (dVar 0)) (dCons (dVar 1) dNil)) (dC .non))) (dRet (dTup (dCons (dC (.str "more")) (dCons (dVar 1) dNil)))) dNext) (dSeq (dAsg (dOp addD (dCB tupD (dCons (dUn (fldD K "signs") (dVar 0)) dNil)) (dTup (dCons (dVar 1) dNil))) (gNm 2)) (dSeq (dFor (diSeq (dCall (sp_dependent_couples K) (dCons (dUn (fldD K "alphabet") (dVar 0)) dNil))) (gUn 2 (gConsD (gNm 3) (gConsD (gNm 4) gNilD))) (dSeq (dPar 5 6 (dCons (dCall (sp_cut K) (dCons (dVar 2) (dCons (dVar 3) (dCons (dVar 4) dNil)))) (dCons (dCall (sp_cut K) (dCons (dUn (fldD K "due") (dVar 0)) (dCons (dVar 3) (dCons (dVar 4) dNil)))) dNil))) (dIfS (dAnd (dB (dOp (memD false) (dVar 1) (dTup (dCons (dVar 3) (dCons (dVar 4) dNil))))) (dB (dOp neD (dVar 5) (dSl (dVar 6) dNo (dPart (dCB lenD (dCons (dVar 5) dNil))))))) (dRet (dTup (dCons (dC (.str "couple")) (dCons (dVar 3) (dCons (dVar 4) (dCons (dOp subD (dCB lenD (dCons (dVar 5) dNil)) (dC (.int 1))) dNil)))))) dNext))) (dRet (dC .non)))))
def sp_Monitor_told (K : Bd) : SpD := fun ds M Q _ => ds.length = 2 ∧ t_Monitor_told K (dEnd Q noX) (startD N_Monitor_told ds) M
theorem go_Monitor_told {K : Bd} {M : DM} {Q : DQ} {a b : D} (h : t_Monitor_told K (dEnd Q noX) [some a, some b, none, none, none, none, none] M) : sp_Monitor_told K [a, b] M Q noX := ⟨rfl, h⟩
def t_Monitor_put (K : Bd) : TSD := (dSeq (dDrop (dCall (sp_check_sign K) (dCons (dUn (fldD K "alphabet") (dVar 0)) (dCons (dVar 1) dNil)))) (dSeq (dIfS (dB (dOp isN (dUn (fldD K "parting") (dVar 0)) (dC .non))) (dIfS (dB (dMeth (He.ga K.K "Left") "can_be_first" (sp_Left_can_be_first K) (dUn (fldD K "its_left") (dVar 0)) (dCons (dVar 1) dNil))) (dSeq (dDrop (dMeth (He.ga K.K "Left") "take" (sp_Left_take K) (dUn (fldD K "its_left") (dVar 0)) (dCons (dVar 1) dNil))) (dDrop (dBM isLst appD (dUn (fldD K "signs") (dVar 0)) (dCons (dVar 1) dNil)))) (dFldS K "parting" (dVar 0) (dMeth (He.ga K.K "Monitor") "told" (sp_Monitor_told K) (dVar 0) (dCons (dVar 1) dNil)))) dNext) (dRet (dUn (fldD K "parting") (dVar 0)))))
def sp_Monitor_put (K : Bd) : SpD := fun ds M Q _ => ds.length = 2 ∧ t_Monitor_put K (dEnd Q noX) (startD N_Monitor_put ds) M
theorem go_Monitor_put {K : Bd} {M : DM} {Q : DQ} {a b : D} (h : t_Monitor_put K (dEnd Q noX) [some a, some b] M) : sp_Monitor_put K [a, b] M Q noX := ⟨rfl, h⟩
def t_Monitor_left (K : Bd) : TSD := (dRet (dIf (dB (dOp notN (dUn (fldD K "parting") (dVar 0)) (dC .non))) (dC .non) (dCall (sp_normal K) (dCons (dUn (fldD K "alphabet") (dVar 0)) (dCons (dMeth (He.ga K.K "Left") "left" (sp_Left_left K) (dUn (fldD K "its_left") (dVar 0)) dNil) dNil)))))
def sp_Monitor_left (K : Bd) : SpD := fun ds M Q _ => ds.length = 1 ∧ t_Monitor_left K (dEnd Q noX) (startD N_Monitor_left ds) M
theorem go_Monitor_left {K : Bd} {M : DM} {Q : DQ} {a : D} (h : t_Monitor_left K (dEnd Q noX) [some a] M) : sp_Monitor_left K [a] M Q noX := ⟨rfl, h⟩
def t_Monitor_is_done (K : Bd) : TSD := (dRet (dAndV (dOp isN (dUn (fldD K "parting") (dVar 0)) (dC .non)) (dOp eqD (dMeth (He.ga K.K "Left") "left" (sp_Left_left K) (dUn (fldD K "its_left") (dVar 0)) dNil) (dTup dNil))))
def sp_Monitor_is_done (K : Bd) : SpD := fun ds M Q _ => ds.length = 1 ∧ t_Monitor_is_done K (dEnd Q noX) (startD N_Monitor_is_done ds) M
theorem go_Monitor_is_done {K : Bd} {M : DM} {Q : DQ} {a : D} (h : t_Monitor_is_done K (dEnd Q noX) [some a] M) : sp_Monitor_is_done K [a] M Q noX := ⟨rfl, h⟩
def t_Monitor_came (K : Bd) : TSD := (dRet (dCB tupD (dCons (dUn (fldD K "signs") (dVar 0)) dNil)))
def sp_Monitor_came (K : Bd) : SpD := fun ds M Q _ => ds.length = 1 ∧ t_Monitor_came K (dEnd Q noX) (startD N_Monitor_came ds) M
theorem go_Monitor_came {K : Bd} {M : DM} {Q : DQ} {a : D} (h : t_Monitor_came K (dEnd Q noX) [some a] M) : sp_Monitor_came K [a] M Q noX := ⟨rfl, h⟩
def t_Monitor_twin (K : Bd) : TSD := (dSeq (dAsg (dMake (He.ga K.K "Monitor") (sp_Monitor___init__ K) (dCons (dUn (fldD K "alphabet") (dVar 0)) (dCons (dUn (fldD K "due") (dVar 0)) dNil))) (gNm 1)) (dSeq (dFldS K "taken" (dUn (fldD K "its_left") (dVar 1)) (dCB dicD (dCons (dUn (fldD K "taken") (dUn (fldD K "its_left") (dVar 0))) dNil))) (dSeq (dAsg (dTup (dCons (dCB lstD (dCons (dUn (fldD K "signs") (dVar 0)) dNil)) (dCons (dUn (fldD K "parting") (dVar 0)) dNil))) (gUn 2 (gConsD (gFd K "signs" (dVar 1)) (gConsD (gFd K "parting" (dVar 1)) gNilD)))) (dRet (dVar 1)))))
def sp_Monitor_twin (K : Bd) : SpD := fun ds M Q _ => ds.length = 1 ∧ t_Monitor_twin K (dEnd Q noX) (startD N_Monitor_twin ds) M
theorem go_Monitor_twin {K : Bd} {M : DM} {Q : DQ} {a : D} (h : t_Monitor_twin K (dEnd Q noX) [some a, none] M) : sp_Monitor_twin K [a] M Q noX := ⟨rfl, h⟩
def t_Watch___init__ (K : Bd) : TSD := (dSeq (dFldS K "alphabet" (dVar 0) (dVar 1)) (dSeq (dFldS K "its_lag" (dVar 0) (dTup (dCons (dTup dNil) (dCons (dTup dNil) dNil)))) (dFldS K "parting" (dVar 0) (dC .non))))
def sp_Watch___init__ (K : Bd) : SpD := fun ds M Q _ => ds.length = 2 ∧ t_Watch___init__ K (dEnd Q noX) (startD N_Watch___init__ ds) M
theorem go_Watch___init__ {K : Bd} {M : DM} {Q : DQ} {a b : D} (h : t_Watch___init__ K (dEnd Q noX) [some a, some b] M) : sp_Watch___init__ K [a, b] M Q noX := ⟨rfl, h⟩
def t_Watch_told (K : Bd) : TSD := (dSeq (dAsg (dUn (fldD K "its_lag") (dVar 0)) (gUn 2 (gConsD (gNm 3) (gConsD (gNm 4) gNilD)))) (dSeq (dAsg (dLc2 (diSeq (dVar 3)) (gNm 5) tYesD (diSeq (dVar 4)) (gNm 6) (dOr (dB (dOp eqD (dVar 5) (dVar 6))) (dNot (dB (dCall (sp_are_independent K) (dCons (dUn (fldD K "alphabet") (dVar 0)) (dCons (dVar 5) (dCons (dVar 6) dNil))))))) (dTup (dCons (dCB min2D (dCons (dVar 5) (dCons (dVar 6) dNil))) (dCons (dCB max2D (dCons (dVar 5) (dCons (dVar 6) dNil))) dNil))) [5, 6] [6]) (gNm 1)) (dSeq (dIfS (dB (dOp eqD (dVar 1) (dLst dNil))) (dRet (dC .non)) dNext) (dSeq (dAsg (dCB minLD (dCons (dVar 1) dNil)) (gNm 2)) (dRet (dTup (dCons (dC (.str "couple")) (dCons (dOp ixD (dVar 2) (dC (.int 0))) (dCons (dOp ixD (dVar 2) (dC (.int 1))) dNil)))))))))
def sp_Watch_told (K : Bd) : SpD := fun ds M Q _ => ds.length = 1 ∧ t_Watch_told K (dEnd Q noX) (startD N_Watch_told ds) M
theorem go_Watch_told {K : Bd} {M : DM} {Q : DQ} {a : D} (h : t_Watch_told K (dEnd Q noX) [some a, none, none, none, none, none, none] M) : sp_Watch_told K [a] M Q noX := ⟨rfl, h⟩
def t_Watch_put (K : Bd) : TSD := (dSeq (dDrop (dCall (sp_check_sign K) (dCons (dUn (fldD K "alphabet") (dVar 0)) (dCons (dVar 2) dNil)))) (dSeq (dIfS (dOr (dNot (dB (dCall (sp_is_index K) (dCons (dVar 1) dNil)))) (dB (dOp gtD (dVar 1) (dC (.int 1))))) dNever dNext) (dSeq (dIfS (dB (dOp isN (dUn (fldD K "parting") (dVar 0)) (dC .non))) (dSeq (dAsg (dIf (dB (dOp eqD (dVar 1) (dC (.int 0)))) (dTup (dCons (dTup (dCons (dVar 2) dNil)) (dCons (dTup dNil) dNil))) (dTup (dCons (dTup dNil) (dCons (dTup (dCons (dVar 2) dNil)) dNil)))) (gNm 3)) (dSeq (dFldS K "its_lag" (dVar 0) (dCall (sp_behind K) (dCons (dUn (fldD K "alphabet") (dVar 0)) (dCons (dUn (fldD K "its_lag") (dVar 0)) (dCons (dOp ixD (dVar 3) (dC (.int 0))) (dCons (dOp ixD (dVar 3) (dC (.int 1))) dNil)))))) (dFldS K "parting" (dVar 0) (dMeth (He.ga K.K "Watch") "told" (sp_Watch_told K) (dVar 0) dNil)))) dNext) (dRet (dUn (fldD K "parting") (dVar 0))))))
def sp_Watch_put (K : Bd) : SpD := fun ds M Q _ => ds.length = 3 ∧ t_Watch_put K (dEnd Q noX) (startD N_Watch_put ds) M
theorem go_Watch_put {K : Bd} {M : DM} {Q : DQ} {a b c : D} (h : t_Watch_put K (dEnd Q noX) [some a, some b, some c, none] M) : sp_Watch_put K [a, b, c] M Q noX := ⟨rfl, h⟩
def t_Watch_lag (K : Bd) : TSD := (dRet (dUn (fldD K "its_lag") (dVar 0)))
def sp_Watch_lag (K : Bd) : SpD := fun ds M Q _ => ds.length = 1 ∧ t_Watch_lag K (dEnd Q noX) (startD N_Watch_lag ds) M
theorem go_Watch_lag {K : Bd} {M : DM} {Q : DQ} {a : D} (h : t_Watch_lag K (dEnd Q noX) [some a] M) : sp_Watch_lag K [a] M Q noX := ⟨rfl, h⟩
def t_Watch_are_even (K : Bd) : TSD := (dRet (dOp eqD (dUn (fldD K "its_lag") (dVar 0)) (dTup (dCons (dTup dNil) (dCons (dTup dNil) dNil)))))
def sp_Watch_are_even (K : Bd) : SpD := fun ds M Q _ => ds.length = 1 ∧ t_Watch_are_even K (dEnd Q noX) (startD N_Watch_are_even ds) M
theorem go_Watch_are_even {K : Bd} {M : DM} {Q : DQ} {a : D} (h : t_Watch_are_even K (dEnd Q noX) [some a] M) : sp_Watch_are_even K [a] M Q noX := ⟨rfl, h⟩
def t_Watch_twin (K : Bd) : TSD := (dSeq (dAsg (dMake (He.ga K.K "Watch") (sp_Watch___init__ K) (dCons (dUn (fldD K "alphabet") (dVar 0)) dNil)) (gNm 1)) (dSeq (dAsg (dTup (dCons (dUn (fldD K "its_lag") (dVar 0)) (dCons (dUn (fldD K "parting") (dVar 0)) dNil))) (gUn 2 (gConsD (gFd K "its_lag" (dVar 1)) (gConsD (gFd K "parting" (dVar 1)) gNilD)))) (dRet (dVar 1))))
def sp_Watch_twin (K : Bd) : SpD := fun ds M Q _ => ds.length = 1 ∧ t_Watch_twin K (dEnd Q noX) (startD N_Watch_twin ds) M
theorem go_Watch_twin {K : Bd} {M : DM} {Q : DQ} {a : D} (h : t_Watch_twin K (dEnd Q noX) [some a, none] M) : sp_Watch_twin K [a] M Q noX := ⟨rfl, h⟩
def t_looked_at (K : Bd) : TSD := (dSeq (dAsg (dMake (He.ga K.K "Monitor") (sp_Monitor___init__ K) (dCons (dVar 0) (dCons (dVar 1) dNil))) (gNm 3)) (dSeq (dFor (diEnum (dCons (dVar 2) dNil)) (gUn 2 (gConsD (gNm 4) (gConsD (gNm 5) gNilD))) (dSeq (dAsg (dMeth (He.ga K.K "Monitor") "put" (sp_Monitor_put K) (dVar 3) (dCons (dVar 5) dNil)) (gNm 6)) (dIfS (dB (dOp notN (dVar 6) (dC .non))) (dRet (dTup (dCons (dVar 4) (dCons (dVar 6) dNil)))) dNext))) (dRet (dTup (dCons (dCB lenD (dCons (dVar 2) dNil)) (dCons (dC .non) dNil))))))
def sp_looked_at (K : Bd) : SpD := fun ds M Q _ => ds.length = 3 ∧ t_looked_at K (dEnd Q noX) (startD N_looked_at ds) M
theorem go_looked_at {K : Bd} {M : DM} {Q : DQ} {a b c : D} (h : t_looked_at K (dEnd Q noX) [some a, some b, some c, none, none, none, none] M) : sp_looked_at K [a, b, c] M Q noX := ⟨rfl, h⟩
def t_looked_at_both (K : Bd) : TSD := (dSeq (dAsg (dMake (He.ga K.K "Watch") (sp_Watch___init__ K) (dCons (dVar 0) dNil)) (gNm 2)) (dSeq (dFor (diEnum (dCons (dVar 1) dNil)) (gUn 2 (gConsD (gNm 3) (gConsD (gUn 2 (gConsD (gNm 5) (gConsD (gNm 6) gNilD))) gNilD))) (dSeq (dAsg (dMeth (He.ga K.K "Watch") "put" (sp_Watch_put K) (dVar 2) (dCons (dVar 5) (dCons (dVar 6) dNil))) (gNm 4)) (dIfS (dB (dOp notN (dVar 4) (dC .non))) (dRet (dTup (dCons (dVar 3) (dCons (dVar 4) dNil)))) dNext))) (dRet (dTup (dCons (dCB lenD (dCons (dVar 1) dNil)) (dCons (dC .non) dNil))))))
def sp_looked_at_both (K : Bd) : SpD := fun ds M Q _ => ds.length = 2 ∧ t_looked_at_both K (dEnd Q noX) (startD N_looked_at_both ds) M
theorem go_looked_at_both {K : Bd} {M : DM} {Q : DQ} {a b : D} (h : t_looked_at_both K (dEnd Q noX) [some a, some b, none, none, none, none, none] M) : sp_looked_at_both K [a, b] M Q noX := ⟨rfl, h⟩
def t__law_bag (K : Bd) : TSD := (dRet (dLst (dCons (dC (.int 0)) (dCons (dC (.int 1234567891)) (dCons (dC (.int 0)) (dCons (dLc (diSeq (dSl (dVar 0) dNo (dPart (dC (.int 63))))) (gNm 1) tYesD (dCB absD (dCons (dVar 1) dNil)) [1]) dNil))))))
def sp__law_bag (K : Bd) : SpD := fun ds M Q _ => ds.length = 1 ∧ t__law_bag K (dEnd Q noX) (startD N__law_bag ds) M
theorem go__law_bag {K : Bd} {M : DM} {Q : DQ} {a : D} (h : t__law_bag K (dEnd Q noX) [some a, none] M) : sp__law_bag K [a] M Q noX := ⟨rfl, h⟩
def t__law_take (K : Bd) : TSD := (dSeq (dIfS (dB (dOp eqD (dOp ixD (dVar 0) (dC (.int 0))) (dC (.int 0)))) (dSeq (dAsg (dOp ixD (dOp addD (dSl (dOp ixD (dVar 0) (dC (.int 3))) (dPart (dOp ixD (dVar 0) (dC (.int 2)))) dNo) (dLst (dCons (dC (.int 0)) dNil))) (dC (.int 0))) (gNm 4)) (dSeq (dIxAug (intOp0 fun i j => i + j) (dVar 0) (dC (.int 2)) (dC (.int 1))) (dSeq (dIfS (dB (dOp geD (dVar 4) (dOp powD (dC (.int 10)) (dC (.int 18))))) (dAsg (dVar 4) (gIx (dVar 0) (dC (.int 0)))) dNext) (dSeq (dAsg (dOp addD (dOp addD (dOp mulI (dOp ixD (dVar 0) (dC (.int 1))) (dC (.int 48271))) (dOp modD (dCB intD (dCons (dVar 4) dNil)) (dC (.int 2147483647)))) (dOp mulI (dC (.int 7919)) (dOp ixD (dVar 0) (dC (.int 2))))) (gNm 5)) (dAsg (dOp modD (dCB intD (dCons (dVar 5) dNil)) (dC (.int 2147483647))) (gIx (dVar 0) (dC (.int 1)))))))) dNext) (dSeq (dIfS (dB (dOp gtD (dOp ixD (dVar 0) (dC (.int 0))) (dC (.int 0)))) (dSeq (dAsg (dOp modD (dCB intD (dCons (dOp ixD (dVar 0) (dC (.int 0))) dNil)) (dVar 1)) (gNm 6)) (dSeq (dAsg (dOp fdivD (dCB intD (dCons (dOp ixD (dVar 0) (dC (.int 0))) dNil)) (dVar 1)) (gIx (dVar 0) (dC (.int 0)))) (dRet (dVar 6)))) dNext) (dSeq (dAsg (dOp modD (dCB intD (dCons (dOp mulI (dOp addD (dOp ixD (dVar 0) (dC (.int 1))) (dC (.int 1))) (dC (.int 39373))) dNil)) (dC (.int 1000000007))) (gNm 2)) (dSeq (dAsg (dOp modD (dCB intD (dCons (dOp mulI (dOp modD (dCB intD (dCons (dOp mulI (dVar 2) (dVar 2)) dNil)) (dC (.int 998244353))) (dC (.int 30011))) dNil)) (dC (.int 998244353))) (gNm 3)) (dRet (dOp modD (dCB intD (dCons (dOp fdivD (dVar 3) (dC (.int 7))) dNil)) (dVar 1)))))))
def sp__law_take (K : Bd) : SpD := fun ds M Q _ => ds.length = 2 ∧ t__law_take K (dEnd Q noX) (startD N__law_take ds) M
theorem go__law_take {K : Bd} {M : DM} {Q : DQ} {a b : D} (h : t__law_take K (dEnd Q noX) [some a, some b, none, none, none, none, none] M) : sp__law_take K [a, b] M Q noX := ⟨rfl, h⟩
def t__law_some (K : Bd) : TSD := (dRet (dOp ixD (dVar 1) (dCall (sp__law_take K) (dCons (dVar 0) (dCons (dCB lenD (dCons (dVar 1) dNil)) dNil)))))
def sp__law_some (K : Bd) : SpD := fun ds M Q _ => ds.length = 2 ∧ t__law_some K (dEnd Q noX) (startD N__law_some ds) M
theorem go__law_some {K : Bd} {M : DM} {Q : DQ} {a b : D} (h : t__law_some K (dEnd Q noX) [some a, some b] M) : sp__law_some K [a, b] M Q noX := ⟨rfl, h⟩
def t__law_alike (K : Bd) : TSD := (dRet (dAndV (dOp eqD (dCB reprD (dCons (dVar 0) dNil)) (dCB reprD (dCons (dVar 1) dNil))) (dOp eqD (dVar 0) (dVar 1))))
def sp__law_alike (K : Bd) : SpD := fun ds M Q _ => ds.length = 2 ∧ t__law_alike K (dEnd Q noX) (startD N__law_alike ds) M
theorem go__law_alike {K : Bd} {M : DM} {Q : DQ} {a b : D} (h : t__law_alike K (dEnd Q noX) [some a, some b] M) : sp__law_alike K [a, b] M Q noX := ⟨rfl, h⟩
def t__law_alphabet (K : Bd) : TSD := (dSeq (dAsg (dLst dNil) (gNm 2)) (dSeq (dFor (diEnum (dCons (dVar 1) dNil)) (gUn 2 (gConsD (gNm 3) (gConsD (gNm 4) gNilD))) (dDrop (dBM isLst extD (dVar 2) (dCons (dLc (diSeq (dSl (dVar 1) (dPart (dOp addD (dVar 3) (dC (.int 1)))) dNo)) (gNm 5) (dB (dOp ltD (dCall (sp__law_take K) (dCons (dVar 0) (dCons (dC (.int 5)) dNil))) (dC (.int 3)))) (dTup (dCons (dVar 4) (dCons (dVar 5) dNil))) [5]) dNil)))) (dRet (dTup (dCons (dCB tupD (dCons (dVar 1) dNil)) (dCons (dCB tupD (dCons (dVar 2) dNil)) dNil))))))
def sp__law_alphabet (K : Bd) : SpD := fun ds M Q _ => ds.length = 2 ∧ t__law_alphabet K (dEnd Q noX) (startD N__law_alphabet ds) M
theorem go__law_alphabet {K : Bd} {M : DM} {Q : DQ} {a b : D} (h : t__law_alphabet K (dEnd Q noX) [some a, some b, none, none, none, none] M) : sp__law_alphabet K [a, b] M Q noX := ⟨rfl, h⟩
def t__law_is_free (K : Bd) : TSD := (dRet (dOp (memD false) (dTup (dCons (dCB min2D (dCons (dVar 1) (dCons (dVar 2) dNil))) (dCons (dCB max2D (dCons (dVar 1) (dCons (dVar 2) dNil))) dNil))) (dOp ixD (dVar 0) (dC (.int 1)))))
def sp__law_is_free (K : Bd) : SpD := fun ds M Q _ => ds.length = 3 ∧ t__law_is_free K (dEnd Q noX) (startD N__law_is_free ds) M
theorem go__law_is_free {K : Bd} {M : DM} {Q : DQ} {a b c : D} (h : t__law_is_free K (dEnd Q noX) [some a, some b, some c] M) : sp__law_is_free K [a, b, c] M Q noX := ⟨rfl, h⟩
def t__law_cut (K : Bd) : TSD := (dRet (dCB tupD (dCons (dLc (diSeq (dVar 0)) (gNm 2) (dB (dOp (memD false) (dVar 2) (dVar 1))) (dVar 2) [2]) dNil)))
def sp__law_cut (K : Bd) : SpD := fun ds M Q _ => ds.length = 2 ∧ t__law_cut K (dEnd Q noX) (startD N__law_cut ds) M
theorem go__law_cut {K : Bd} {M : DM} {Q : DQ} {a b : D} (h : t__law_cut K (dEnd Q noX) [some a, some b, none] M) : sp__law_cut K [a, b] M Q noX := ⟨rfl, h⟩
def t__law_firsts (K : Bd) : TSD := (dSeq (dAsg (dLst dNil) (gNm 2)) (dSeq (dFor (diEnum (dCons (dVar 1) dNil)) (gUn 2 (gConsD (gNm 3) (gConsD (gNm 4) gNilD))) (dIfS (dAnd (dB (dOp (memD true) (dVar 4) (dVar 2))) (dB (dOp eqD (dLc (diSeq (dSl (dVar 1) dNo (dPart (dVar 3)))) (gNm 5) (dNot (dB (dCall (sp__law_is_free K) (dCons (dVar 0) (dCons (dVar 4) (dCons (dVar 5) dNil)))))) (dVar 5) [5]) (dLst dNil)))) (dDrop (dBM isLst appD (dVar 2) (dCons (dVar 4) dNil))) dNext)) (dRet (dCB sortD (dCons (dVar 2) dNil)))))
def sp__law_firsts (K : Bd) : SpD := fun ds M Q _ => ds.length = 2 ∧ t__law_firsts K (dEnd Q noX) (startD N__law_firsts ds) M
theorem go__law_firsts {K : Bd} {M : DM} {Q : DQ} {a b : D} (h : t__law_firsts K (dEnd Q noX) [some a, some b, none, none, none, none] M) : sp__law_firsts K [a, b] M Q noX := ⟨rfl, h⟩
def t__law_without (K : Bd) : TSD := (dSeq (dAsg (dBM isTup tidxD (dVar 0) (dCons (dVar 1) dNil)) (gNm 2)) (dRet (dOp addD (dSl (dVar 0) dNo (dPart (dVar 2))) (dSl (dVar 0) (dPart (dOp addD (dVar 2) (dC (.int 1)))) dNo))))
def sp__law_without (K : Bd) : SpD := fun ds M Q _ => ds.length = 2 ∧ t__law_without K (dEnd Q noX) (startD N__law_without ds) M
theorem go__law_without {K : Bd} {M : DM} {Q : DQ} {a b : D} (h : t__law_without K (dEnd Q noX) [some a, some b, none] M) : sp__law_without K [a, b] M Q noX := ⟨rfl, h⟩
def t__law_normal (K : Bd) : TSD := (dSeq (dAsg (dTup dNil) (gNm 2)) (dSeq (dWhile (dB (dOp neD (dVar 1) (dTup dNil))) (dSeq (dAsg (dOp ixD (dCall (sp__law_firsts K) (dCons (dVar 0) (dCons (dVar 1) dNil))) (dC (.int 0))) (gNm 3)) (dPar 2 1 (dCons (dOp addD (dVar 2) (dTup (dCons (dVar 3) dNil))) (dCons (dCall (sp__law_without K) (dCons (dVar 1) (dCons (dVar 3) dNil))) dNil))))) (dRet (dVar 2))))
def sp__law_normal (K : Bd) : SpD := fun ds M Q _ => ds.length = 2 ∧ t__law_normal K (dEnd Q noX) (startD N__law_normal ds) M
theorem go__law_normal {K : Bd} {M : DM} {Q : DQ} {a b : D} (h : t__law_normal K (dEnd Q noX) [some a, some b, none, none] M) : sp__law_normal K [a, b] M Q noX := ⟨rfl, h⟩
def t__law_lag (K : Bd) : TSD := (dSeq (dPar 3 4 (dCons (dTup dNil) (dCons (dLc (diSeq (dCall (sp__law_firsts K) (dCons (dVar 0) (dCons (dVar 1) dNil)))) (gNm 5) (dB (dOp (memD false) (dVar 5) (dCall (sp__law_firsts K) (dCons (dVar 0) (dCons (dVar 2) dNil))))) (dVar 5) [5]) dNil))) (dSeq (dWhile (dB (dOp neD (dVar 4) (dLst dNil))) (dSeq (dAsg (dOp addD (dVar 3) (dTup (dCons (dOp ixD (dVar 4) (dC (.int 0))) dNil))) (gNm 3)) (dSeq (dAsg (dTup (dCons (dCall (sp__law_without K) (dCons (dVar 1) (dCons (dOp ixD (dVar 4) (dC (.int 0))) dNil))) (dCons (dCall (sp__law_without K) (dCons (dVar 2) (dCons (dOp ixD (dVar 4) (dC (.int 0))) dNil))) dNil))) (gUn 2 (gConsD (gNm 1) (gConsD (gNm 2) gNilD)))) (dAsg (dLc (diSeq (dCall (sp__law_firsts K) (dCons (dVar 0) (dCons (dVar 1) dNil)))) (gNm 5) (dB (dOp (memD false) (dVar 5) (dCall (sp__law_firsts K) (dCons (dVar 0) (dCons (dVar 2) dNil))))) (dVar 5) [5]) (gNm 4))))) (dRet (dTup (dCons (dCall (sp__law_normal K) (dCons (dVar 0) (dCons (dVar 3) dNil))) (dCons (dCall (sp__law_normal K) (dCons (dVar 0) (dCons (dVar 1) dNil))) (dCons (dCall (sp__law_normal K) (dCons (dVar 0) (dCons (dVar 2) dNil))) dNil)))))))
def sp__law_lag (K : Bd) : SpD := fun ds M Q _ => ds.length = 3 ∧ t__law_lag K (dEnd Q noX) (startD N__law_lag ds) M
theorem go__law_lag {K : Bd} {M : DM} {Q : DQ} {a b c : D} (h : t__law_lag K (dEnd Q noX) [some a, some b, some c, none, none, none] M) : sp__law_lag K [a, b, c] M Q noX := ⟨rfl, h⟩
def t__law_left_of (K : Bd) : TSD := (dSeq (dFor (diSeq (dVar 1)) (gNm 3) (dSeq (dIfS (dB (dOp (memD true) (dVar 3) (dCall (sp__law_firsts K) (dCons (dVar 0) (dCons (dVar 2) dNil))))) (dRet (dC .non)) dNext) (dAsg (dCall (sp__law_without K) (dCons (dVar 2) (dCons (dVar 3) dNil))) (gNm 2)))) (dRet (dCall (sp__law_normal K) (dCons (dVar 0) (dCons (dVar 2) dNil)))))
def sp__law_left_of (K : Bd) : SpD := fun ds M Q _ => ds.length = 3 ∧ t__law_left_of K (dEnd Q noX) (startD N__law_left_of ds) M
theorem go__law_left_of {K : Bd} {M : DM} {Q : DQ} {a b c : D} (h : t__law_left_of K (dEnd Q noX) [some a, some b, some c, none] M) : sp__law_left_of K [a, b, c] M Q noX := ⟨rfl, h⟩
def t__law_class (K : Bd) : TSD := (dSeq (dPar 3 4 (dCons (dOneT (dVar 1) (dC (.bl true))) (dCons (dLst (dCons (dVar 1) dNil)) dNil))) (dSeq (dWhile (dB (dOp neD (dVar 4) (dLst dNil))) (dSeq (dAsg (dBM0 isLst popD (dVar 4)) (gNm 5)) (dFor (diRng1 (dCons (dOp subD (dCB lenD (dCons (dVar 5) dNil)) (dC (.int 1))) dNil)) (gNm 6) (dIfS (dB (dCall (sp__law_is_free K) (dCons (dVar 0) (dCons (dOp ixD (dVar 5) (dVar 6)) (dCons (dOp ixD (dVar 5) (dOp addD (dVar 6) (dC (.int 1)))) dNil))))) (dSeq (dAsg (dOp addD (dOp addD (dSl (dVar 5) dNo (dPart (dVar 6))) (dTup (dCons (dOp ixD (dVar 5) (dOp addD (dVar 6) (dC (.int 1)))) (dCons (dOp ixD (dVar 5) (dVar 6)) dNil)))) (dSl (dVar 5) (dPart (dOp addD (dVar 6) (dC (.int 2)))) dNo)) (gNm 7)) (dIfS (dB (dOp (dinD true) (dVar 7) (dVar 3))) (dSeq (dIfS (dB (dOp geD (dCB lenD (dCons (dVar 3) dNil)) (dVar 2))) (dRet (dC (.str "many"))) dNext) (dSeq (dDPut (dVar 3) (dVar 7) (dC (.bl true))) (dDrop (dBM isLst appD (dVar 4) (dCons (dVar 7) dNil))))) dNext)) dNext)))) (dRet (dCB sortD (dCons (dVar 3) dNil)))))
def sp__law_class (K : Bd) : SpD := fun ds M Q _ => ds.length = 3 ∧ t__law_class K (dEnd Q noX) (startD N__law_class ds) M
theorem go__law_class {K : Bd} {M : DM} {Q : DQ} {a b c : D} (h : t__law_class K (dEnd Q noX) [some a, some b, some c, none, none, none, none, none] M) : sp__law_class K [a, b, c] M Q noX := ⟨rfl, h⟩
def t__law_row (K : Bd) : TSD := (dRet (dCB tupD (dCons (dLc (diRng1 (dCons (dCall (sp__law_take K) (dCons (dVar 0) (dCons (dOp addD (dVar 2) (dC (.int 1))) dNil))) dNil)) (gNm 3) tYesD (dCall (sp__law_some K) (dCons (dVar 0) (dCons (dVar 1) dNil))) [3]) dNil)))
def sp__law_row (K : Bd) : SpD := fun ds M Q _ => ds.length = 3 ∧ t__law_row K (dEnd Q noX) (startD N__law_row ds) M
theorem go__law_row {K : Bd} {M : DM} {Q : DQ} {a b c : D} (h : t__law_row K (dEnd Q noX) [some a, some b, some c, none] M) : sp__law_row K [a, b, c] M Q noX := ⟨rfl, h⟩
def t__law_parting (K : Bd) : TSD := (dSeq (dAsg (dOp addD (dVar 2) (dTup (dCons (dVar 3) dNil))) (gNm 4)) (dSeq (dIfS (dB (dOp gtD (dBM isTup tcntD (dVar 4) (dCons (dVar 3) dNil)) (dBM isTup tcntD (dVar 1) (dCons (dVar 3) dNil)))) (dRet (dTup (dCons (dC (.str "more")) (dCons (dVar 3) dNil)))) dNext) (dSeq (dFor (diEnum (dCons (dOp ixD (dVar 0) (dC (.int 0))) dNil)) (gUn 2 (gConsD (gNm 5) (gConsD (gNm 6) gNilD))) (dFor (diSeq (dSl (dOp ixD (dVar 0) (dC (.int 0))) (dPart (dOp addD (dVar 5) (dC (.int 1)))) dNo)) (gNm 7) (dIfS (dAnd (dB (dOp (memD false) (dVar 3) (dTup (dCons (dVar 6) (dCons (dVar 7) dNil))))) (dNot (dB (dCall (sp__law_is_free K) (dCons (dVar 0) (dCons (dVar 6) (dCons (dVar 7) dNil))))))) (dSeq (dPar 8 9 (dCons (dCall (sp__law_cut K) (dCons (dVar 4) (dCons (dTup (dCons (dVar 6) (dCons (dVar 7) dNil))) dNil))) (dCons (dCall (sp__law_cut K) (dCons (dVar 1) (dCons (dTup (dCons (dVar 6) (dCons (dVar 7) dNil))) dNil))) dNil))) (dIfS (dB (dOp neD (dVar 8) (dSl (dVar 9) dNo (dPart (dCB lenD (dCons (dVar 8) dNil)))))) (dRet (dTup (dCons (dC (.str "couple")) (dCons (dVar 6) (dCons (dVar 7) (dCons (dOp subD (dCB lenD (dCons (dVar 8) dNil)) (dC (.int 1))) dNil)))))) dNext)) dNext))) (dRet (dC .non)))))
def sp__law_parting (K : Bd) : SpD := fun ds M Q _ => ds.length = 4 ∧ t__law_parting K (dEnd Q noX) (startD N__law_parting ds) M
theorem go__law_parting {K : Bd} {M : DM} {Q : DQ} {a b c d : D} (h : t__law_parting K (dEnd Q noX) [some a, some b, some c, some d, none, none, none, none, none, none] M) : sp__law_parting K [a, b, c, d] M Q noX := ⟨rfl, h⟩
def t__law_met (K : Bd) : TSD := (dSeq (dAsg (dLst dNil) (gNm 3)) (dSeq (dFor (diSeq (dVar 1)) (gNm 4) (dDrop (dBM isLst extD (dVar 3) (dCons (dLc (diSeq (dVar 2)) (gNm 5) (dNot (dB (dCall (sp__law_is_free K) (dCons (dVar 0) (dCons (dVar 4) (dCons (dVar 5) dNil)))))) (dTup (dCons (dCB min2D (dCons (dVar 4) (dCons (dVar 5) dNil))) (dCons (dCB max2D (dCons (dVar 4) (dCons (dVar 5) dNil))) dNil))) [5]) dNil)))) (dRet (dIf (dB (dOp eqD (dVar 3) (dLst dNil))) (dC .non) (dOp addD (dTup (dCons (dC (.str "couple")) dNil)) (dCB minLD (dCons (dVar 3) dNil)))))))
def sp__law_met (K : Bd) : SpD := fun ds M Q _ => ds.length = 3 ∧ t__law_met K (dEnd Q noX) (startD N__law_met ds) M
theorem go__law_met {K : Bd} {M : DM} {Q : DQ} {a b c : D} (h : t__law_met K (dEnd Q noX) [some a, some b, some c, none, none, none] M) : sp__law_met K [a, b, c] M Q noX := ⟨rfl, h⟩
def t_law_p1 (K : Bd) : TSD := (dRet (dC (.bl true)))
instance i_t_law_p1 {K : Bd} {De : DEnds} {σ : Std} {M : DM} : StepP (t_law_p1 K De σ M) ((dRet (dC (.bl true))) De σ M) := ⟨fun z => z⟩
def t_law_p2 (K : Bd) : TSD := (dIfS (dNot (dB (dCall (sp__law_alike K) (dCons (dCall (sp_looked_at_both K) (dCons (dVar 3) (dCons (dCB tupD (dCons (dVar 19) dNil)) dNil))) (dCons (dVar 8) dNil))))) (dRet (dC (.bl false))) dNext)
instance i_t_law_p2 {K : Bd} {De : DEnds} {σ : Std} {M : DM} : StepP (t_law_p2 K De σ M) ((dIfS (dNot (dB (dCall (sp__law_alike K) (dCons (dCall (sp_looked_at_both K) (dCons (dVar 3) (dCons (dCB tupD (dCons (dVar 19) dNil)) dNil))) (dCons (dVar 8) dNil))))) (dRet (dC (.bl false))) dNext) De σ M) := ⟨fun z => z⟩
def t_law_p3 (K : Bd) : TSD := (dSeq (dAsg (dIf (dB (dOp notN (dVar 11) (dC .non))) (dTup (dCons (dVar 20) (dCons (dVar 11) dNil))) (dTup (dCons (dCB lenD (dCons (dVar 19) dNil)) (dCons (dC .non) dNil)))) (gNm 8)) (t_law_p2 K))
instance i_t_law_p3 {K : Bd} {De : DEnds} {σ : Std} {M : DM} : StepP (t_law_p3 K De σ M) ((dSeq (dAsg (dIf (dB (dOp notN (dVar 11) (dC .non))) (dTup (dCons (dVar 20) (dCons (dVar 11) dNil))) (dTup (dCons (dCB lenD (dCons (dVar 19) dNil)) (dCons (dC .non) dNil)))) (gNm 8)) (t_law_p2 K)) De σ M) := ⟨fun z => z⟩
def t_law_p4 (K : Bd) : TSD := (dIfS (dNot (dB (dCall (sp__law_alike K) (dCons (dLst (dCons (dMeth (He.ga K.K "Watch") "are_even" (sp_Watch_are_even K) (dVar 17) dNil) (dCons (dMeth (He.ga K.K "Watch") "lag" (sp_Watch_lag K) (dMeth (He.ga K.K "Watch") "twin" (sp_Watch_twin K) (dVar 17) dNil) dNil) dNil))) (dCons (dLst (dCons (dOp eqD (dTup (dCons (dVar 14) (dCons (dVar 23) dNil))) (dTup (dCons (dTup dNil) (dCons (dTup dNil) dNil)))) (dCons (dTup (dCons (dVar 14) (dCons (dVar 23) dNil))) dNil))) dNil))))) (dRet (dC (.bl false))) dNext)
instance i_t_law_p4 {K : Bd} {De : DEnds} {σ : Std} {M : DM} : StepP (t_law_p4 K De σ M) ((dIfS (dNot (dB (dCall (sp__law_alike K) (dCons (dLst (dCons (dMeth (He.ga K.K "Watch") "are_even" (sp_Watch_are_even K) (dVar 17) dNil) (dCons (dMeth (He.ga K.K "Watch") "lag" (sp_Watch_lag K) (dMeth (He.ga K.K "Watch") "twin" (sp_Watch_twin K) (dVar 17) dNil) dNil) dNil))) (dCons (dLst (dCons (dOp eqD (dTup (dCons (dVar 14) (dCons (dVar 23) dNil))) (dTup (dCons (dTup dNil) (dCons (dTup dNil) dNil)))) (dCons (dTup (dCons (dVar 14) (dCons (dVar 23) dNil))) dNil))) dNil))))) (dRet (dC (.bl false))) dNext) De σ M) := ⟨fun z => z⟩
def t_law_p5 (K : Bd) : TSD := (dSeq (dIfS (dNot (dB (dCall (sp__law_alike K) (dCons (dLst (dCons (dMeth (He.ga K.K "Watch") "put" (sp_Watch_put K) (dVar 17) (dCons (dVar 21) (dCons (dVar 13) dNil))) (dCons (dMeth (He.ga K.K "Watch") "lag" (sp_Watch_lag K) (dVar 17) dNil) dNil))) (dCons (dLst (dCons (dVar 11) (dCons (dTup (dCons (dVar 14) (dCons (dVar 23) dNil))) dNil))) dNil))))) (dRet (dC (.bl false))) dNext) (t_law_p4 K))
instance i_t_law_p5 {K : Bd} {De : DEnds} {σ : Std} {M : DM} : StepP (t_law_p5 K De σ M) ((dSeq (dIfS (dNot (dB (dCall (sp__law_alike K) (dCons (dLst (dCons (dMeth (He.ga K.K "Watch") "put" (sp_Watch_put K) (dVar 17) (dCons (dVar 21) (dCons (dVar 13) dNil))) (dCons (dMeth (He.ga K.K "Watch") "lag" (sp_Watch_lag K) (dVar 17) dNil) dNil))) (dCons (dLst (dCons (dVar 11) (dCons (dTup (dCons (dVar 14) (dCons (dVar 23) dNil))) dNil))) dNil))))) (dRet (dC (.bl false))) dNext) (t_law_p4 K)) De σ M) := ⟨fun z => z⟩
def t_law_p6 (K : Bd) : TSD := (dAsg (dIf (dB (dOp notN (dVar 11) (dC .non))) (dVar 7) (dC .non)) (gNm 20))
instance i_t_law_p6 {K : Bd} {De : DEnds} {σ : Std} {M : DM} : StepP (t_law_p6 K De σ M) ((dAsg (dIf (dB (dOp notN (dVar 11) (dC .non))) (dVar 7) (dC .non)) (gNm 20)) De σ M) := ⟨fun z => z⟩
def t_law_p7 (K : Bd) : TSD := (dSeq (dAsg (dCall (sp__law_met K) (dCons (dVar 3) (dCons (dVar 14) (dCons (dVar 23) dNil)))) (gNm 11)) (t_law_p6 K))
instance i_t_law_p7 {K : Bd} {De : DEnds} {σ : Std} {M : DM} : StepP (t_law_p7 K De σ M) ((dSeq (dAsg (dCall (sp__law_met K) (dCons (dVar 3) (dCons (dVar 14) (dCons (dVar 23) dNil)))) (gNm 11)) (t_law_p6 K)) De σ M) := ⟨fun z => z⟩
def t_law_p8 (K : Bd) : TSD := (dSeq (dAsg (dCall (sp__law_lag K) (dCons (dVar 3) (dCons (dOp ixD (dVar 18) (dC (.int 0))) (dCons (dOp ixD (dVar 18) (dC (.int 1))) dNil)))) (gUn 3 (gConsD (gNm 22) (gConsD (gNm 14) (gConsD (gNm 23) gNilD))))) (t_law_p7 K))
instance i_t_law_p8 {K : Bd} {De : DEnds} {σ : Std} {M : DM} : StepP (t_law_p8 K De σ M) ((dSeq (dAsg (dCall (sp__law_lag K) (dCons (dVar 3) (dCons (dOp ixD (dVar 18) (dC (.int 0))) (dCons (dOp ixD (dVar 18) (dC (.int 1))) dNil)))) (gUn 3 (gConsD (gNm 22) (gConsD (gNm 14) (gConsD (gNm 23) gNilD))))) (t_law_p7 K)) De σ M) := ⟨fun z => z⟩
def t_law_p9 (K : Bd) : TSD := (dSeq (dAsg (dOp addD (dOp ixD (dVar 18) (dVar 21)) (dTup (dCons (dVar 13) dNil))) (gIx (dVar 18) (dVar 21))) (t_law_p8 K))
instance i_t_law_p9 {K : Bd} {De : DEnds} {σ : Std} {M : DM} : StepP (t_law_p9 K De σ M) ((dSeq (dAsg (dOp addD (dOp ixD (dVar 18) (dVar 21)) (dTup (dCons (dVar 13) dNil))) (gIx (dVar 18) (dVar 21))) (t_law_p8 K)) De σ M) := ⟨fun z => z⟩
def t_law_p10 (K : Bd) : TSD := (dSeq (dIfS (dB (dOp isN (dVar 11) (dC .non))) (t_law_p9 K) dNext) (t_law_p5 K))
instance i_t_law_p10 {K : Bd} {De : DEnds} {σ : Std} {M : DM} : StepP (t_law_p10 K De σ M) ((dSeq (dIfS (dB (dOp isN (dVar 11) (dC .non))) (t_law_p9 K) dNext) (t_law_p5 K)) De σ M) := ⟨fun z => z⟩
def t_law_p11 (K : Bd) : TSD := (dSeq (dDrop (dBM isLst appD (dVar 19) (dCons (dTup (dCons (dVar 21) (dCons (dVar 13) dNil))) dNil))) (t_law_p10 K))
instance i_t_law_p11 {K : Bd} {De : DEnds} {σ : Std} {M : DM} : StepP (t_law_p11 K De σ M) ((dSeq (dDrop (dBM isLst appD (dVar 19) (dCons (dTup (dCons (dVar 21) (dCons (dVar 13) dNil))) dNil))) (t_law_p10 K)) De σ M) := ⟨fun z => z⟩
def t_law_p12 (K : Bd) : TSD := (dSeq (dPar 21 13 (dCons (dCall (sp__law_take K) (dCons (dVar 1) (dCons (dC (.int 2)) dNil))) (dCons (dCall (sp__law_some K) (dCons (dVar 1) (dCons (dOp ixD (dVar 3) (dC (.int 0))) dNil))) dNil))) (t_law_p11 K))
instance i_t_law_p12 {K : Bd} {De : DEnds} {σ : Std} {M : DM} : StepP (t_law_p12 K De σ M) ((dSeq (dPar 21 13 (dCons (dCall (sp__law_take K) (dCons (dVar 1) (dCons (dC (.int 2)) dNil))) (dCons (dCall (sp__law_some K) (dCons (dVar 1) (dCons (dOp ixD (dVar 3) (dC (.int 0))) dNil))) dNil))) (t_law_p11 K)) De σ M) := ⟨fun z => z⟩
def t_law_l13 (K : Bd) : TSD := (dFor (diRng1 (dCons (dC (.int 8)) dNil)) (gNm 7) (t_law_p12 K))
def t_law_p14 (K : Bd) : TSD := (dSeq (t_law_l13 K) (t_law_p3 K))
instance i_t_law_p14 {K : Bd} {De : DEnds} {σ : Std} {M : DM} : StepP (t_law_p14 K De σ M) ((dSeq (t_law_l13 K) (t_law_p3 K)) De σ M) := ⟨fun z => z⟩
def t_law_p15 (K : Bd) : TSD := (dSeq (dAsg (dTup (dCons (dMake (He.ga K.K "Watch") (sp_Watch___init__ K) (dCons (dVar 3) dNil)) (dCons (dLst (dCons (dTup dNil) (dCons (dTup dNil) dNil))) (dCons (dC .non) (dCons (dLst dNil) (dCons (dC .non) dNil)))))) (gUn 5 (gConsD (gNm 17) (gConsD (gNm 18) (gConsD (gNm 11) (gConsD (gNm 19) (gConsD (gNm 20) gNilD))))))) (t_law_p14 K))
instance i_t_law_p15 {K : Bd} {De : DEnds} {σ : Std} {M : DM} : StepP (t_law_p15 K De σ M) ((dSeq (dAsg (dTup (dCons (dMake (He.ga K.K "Watch") (sp_Watch___init__ K) (dCons (dVar 3) dNil)) (dCons (dLst (dCons (dTup dNil) (dCons (dTup dNil) dNil))) (dCons (dC .non) (dCons (dLst dNil) (dCons (dC .non) dNil)))))) (gUn 5 (gConsD (gNm 17) (gConsD (gNm 18) (gConsD (gNm 11) (gConsD (gNm 19) (gConsD (gNm 20) gNilD))))))) (t_law_p14 K)) De σ M) := ⟨fun z => z⟩
def t_law_p16 (K : Bd) : TSD := (dSeq (dIfS (dNot (dB (dCall (sp__law_alike K) (dCons (dCall (sp_looked_at K) (dCons (dVar 3) (dCons (dVar 4) (dCons (dCB tupD (dCons (dVar 6) dNil)) dNil)))) (dCons (dTup (dCons (dVar 12) (dCons (dVar 11) dNil))) dNil))))) (dRet (dC (.bl false))) dNext) (t_law_p15 K))
instance i_t_law_p16 {K : Bd} {De : DEnds} {σ : Std} {M : DM} : StepP (t_law_p16 K De σ M) ((dSeq (dIfS (dNot (dB (dCall (sp__law_alike K) (dCons (dCall (sp_looked_at K) (dCons (dVar 3) (dCons (dVar 4) (dCons (dCB tupD (dCons (dVar 6) dNil)) dNil)))) (dCons (dTup (dCons (dVar 12) (dCons (dVar 11) dNil))) dNil))))) (dRet (dC (.bl false))) dNext) (t_law_p15 K)) De σ M) := ⟨fun z => z⟩
def t_law_l17 (K : Bd) : TSD := (dFor (diSeq (dTup (dCons (dVar 9) (dCons (dVar 15) dNil)))) (gNm 16) (dIfS (dNot (dB (dCall (sp__law_alike K) (dCons (dLst (dCons (dMeth (He.ga K.K "Monitor") "left" (sp_Monitor_left K) (dVar 16) dNil) (dCons (dMeth (He.ga K.K "Monitor") "is_done" (sp_Monitor_is_done K) (dVar 16) dNil) (dCons (dMeth (He.ga K.K "Monitor") "came" (sp_Monitor_came K) (dVar 16) dNil) dNil)))) (dCons (dLst (dCons (dVar 14) (dCons (dOp eqD (dVar 14) (dTup dNil)) (dCons (dVar 10) dNil)))) dNil))))) (dRet (dC (.bl false))) dNext))
def t_law_p18 (K : Bd) : TSD := (t_law_l17 K)
instance i_t_law_p18 {K : Bd} {De : DEnds} {σ : Std} {M : DM} : StepP (t_law_p18 K De σ M) ((t_law_l17 K) De σ M) := ⟨fun z => z⟩
def t_law_p19 (K : Bd) : TSD := (dSeq (dAsg (dMeth (He.ga K.K "Monitor") "twin" (sp_Monitor_twin K) (dVar 9) dNil) (gNm 15)) (t_law_p18 K))
instance i_t_law_p19 {K : Bd} {De : DEnds} {σ : Std} {M : DM} : StepP (t_law_p19 K De σ M) ((dSeq (dAsg (dMeth (He.ga K.K "Monitor") "twin" (sp_Monitor_twin K) (dVar 9) dNil) (gNm 15)) (t_law_p18 K)) De σ M) := ⟨fun z => z⟩
def t_law_p20 (K : Bd) : TSD := (dSeq (dAsg (dIf (dB (dOp notN (dVar 11) (dC .non))) (dC .non) (dCall (sp__law_left_of K) (dCons (dVar 3) (dCons (dVar 10) (dCons (dVar 4) dNil))))) (gNm 14)) (t_law_p19 K))
instance i_t_law_p20 {K : Bd} {De : DEnds} {σ : Std} {M : DM} : StepP (t_law_p20 K De σ M) ((dSeq (dAsg (dIf (dB (dOp notN (dVar 11) (dC .non))) (dC .non) (dCall (sp__law_left_of K) (dCons (dVar 3) (dCons (dVar 10) (dCons (dVar 4) dNil))))) (gNm 14)) (t_law_p19 K)) De σ M) := ⟨fun z => z⟩
def t_law_p21 (K : Bd) : TSD := (dSeq (dIfS (dNot (dB (dCall (sp__law_alike K) (dCons (dMeth (He.ga K.K "Monitor") "put" (sp_Monitor_put K) (dVar 9) (dCons (dVar 13) dNil)) (dCons (dVar 11) dNil))))) (dRet (dC (.bl false))) dNext) (t_law_p20 K))
instance i_t_law_p21 {K : Bd} {De : DEnds} {σ : Std} {M : DM} : StepP (t_law_p21 K De σ M) ((dSeq (dIfS (dNot (dB (dCall (sp__law_alike K) (dCons (dMeth (He.ga K.K "Monitor") "put" (sp_Monitor_put K) (dVar 9) (dCons (dVar 13) dNil)) (dCons (dVar 11) dNil))))) (dRet (dC (.bl false))) dNext) (t_law_p20 K)) De σ M) := ⟨fun z => z⟩
def t_law_p22 (K : Bd) : TSD := (dSeq (dAsg (dOp addD (dVar 10) (dIf (dB (dOp isN (dVar 11) (dC .non))) (dTup (dCons (dVar 13) dNil)) (dTup dNil))) (gNm 10)) (t_law_p21 K))
instance i_t_law_p22 {K : Bd} {De : DEnds} {σ : Std} {M : DM} : StepP (t_law_p22 K De σ M) ((dSeq (dAsg (dOp addD (dVar 10) (dIf (dB (dOp isN (dVar 11) (dC .non))) (dTup (dCons (dVar 13) dNil)) (dTup dNil))) (gNm 10)) (t_law_p21 K)) De σ M) := ⟨fun z => z⟩
def t_law_p23 (K : Bd) : TSD := (dSeq (dIfS (dAnd (dB (dOp isN (dVar 11) (dC .non))) (dB (dOp isN (dCall (sp__law_left_of K) (dCons (dVar 3) (dCons (dOp addD (dVar 10) (dTup (dCons (dVar 13) dNil))) (dCons (dVar 4) dNil)))) (dC .non)))) (dPar 11 12 (dCons (dCall (sp__law_parting K) (dCons (dVar 3) (dCons (dVar 4) (dCons (dVar 10) (dCons (dVar 13) dNil))))) (dCons (dVar 7) dNil))) dNext) (t_law_p22 K))
instance i_t_law_p23 {K : Bd} {De : DEnds} {σ : Std} {M : DM} : StepP (t_law_p23 K De σ M) ((dSeq (dIfS (dAnd (dB (dOp isN (dVar 11) (dC .non))) (dB (dOp isN (dCall (sp__law_left_of K) (dCons (dVar 3) (dCons (dOp addD (dVar 10) (dTup (dCons (dVar 13) dNil))) (dCons (dVar 4) dNil)))) (dC .non)))) (dPar 11 12 (dCons (dCall (sp__law_parting K) (dCons (dVar 3) (dCons (dVar 4) (dCons (dVar 10) (dCons (dVar 13) dNil))))) (dCons (dVar 7) dNil))) dNext) (t_law_p22 K)) De σ M) := ⟨fun z => z⟩
def t_law_l24 (K : Bd) : TSD := (dFor (diEnum (dCons (dVar 6) dNil)) (gUn 2 (gConsD (gNm 7) (gConsD (gNm 13) gNilD))) (t_law_p23 K))
def t_law_p25 (K : Bd) : TSD := (dSeq (t_law_l24 K) (t_law_p16 K))
instance i_t_law_p25 {K : Bd} {De : DEnds} {σ : Std} {M : DM} : StepP (t_law_p25 K De σ M) ((dSeq (t_law_l24 K) (t_law_p16 K)) De σ M) := ⟨fun z => z⟩
def t_law_p26 (K : Bd) : TSD := (dSeq (dAsg (dTup (dCons (dMake (He.ga K.K "Monitor") (sp_Monitor___init__ K) (dCons (dVar 3) (dCons (dVar 4) dNil))) (dCons (dTup dNil) (dCons (dC .non) (dCons (dCB lenD (dCons (dVar 6) dNil)) dNil))))) (gUn 4 (gConsD (gNm 9) (gConsD (gNm 10) (gConsD (gNm 11) (gConsD (gNm 12) gNilD)))))) (t_law_p25 K))
instance i_t_law_p26 {K : Bd} {De : DEnds} {σ : Std} {M : DM} : StepP (t_law_p26 K De σ M) ((dSeq (dAsg (dTup (dCons (dMake (He.ga K.K "Monitor") (sp_Monitor___init__ K) (dCons (dVar 3) (dCons (dVar 4) dNil))) (dCons (dTup dNil) (dCons (dC .non) (dCons (dCB lenD (dCons (dVar 6) dNil)) dNil))))) (gUn 4 (gConsD (gNm 9) (gConsD (gNm 10) (gConsD (gNm 11) (gConsD (gNm 12) gNilD)))))) (t_law_p25 K)) De σ M) := ⟨fun z => z⟩
def t_law_p27 (K : Bd) : TSD := (dSeq (dIfS (dB (dOp eqD (dCall (sp__law_take K) (dCons (dVar 1) (dCons (dC (.int 2)) dNil))) (dC (.int 0)))) (dDrop (dBM isLst insD (dVar 6) (dCons (dCall (sp__law_take K) (dCons (dVar 1) (dCons (dOp addD (dCB lenD (dCons (dVar 6) dNil)) (dC (.int 1))) dNil))) (dCons (dCall (sp__law_some K) (dCons (dVar 1) (dCons (dOp ixD (dVar 3) (dC (.int 0))) dNil))) dNil)))) dNext) (t_law_p26 K))
instance i_t_law_p27 {K : Bd} {De : DEnds} {σ : Std} {M : DM} : StepP (t_law_p27 K De σ M) ((dSeq (dIfS (dB (dOp eqD (dCall (sp__law_take K) (dCons (dVar 1) (dCons (dC (.int 2)) dNil))) (dC (.int 0)))) (dDrop (dBM isLst insD (dVar 6) (dCons (dCall (sp__law_take K) (dCons (dVar 1) (dCons (dOp addD (dCB lenD (dCons (dVar 6) dNil)) (dC (.int 1))) dNil))) (dCons (dCall (sp__law_some K) (dCons (dVar 1) (dCons (dOp ixD (dVar 3) (dC (.int 0))) dNil))) dNil)))) dNext) (t_law_p26 K)) De σ M) := ⟨fun z => z⟩
def t_law_p28 (K : Bd) : TSD := (dSeq (dAsg (dIf (dB (dOp neD (dVar 5) (dC (.str "many")))) (dCB lstD (dCons (dCall (sp__law_some K) (dCons (dVar 1) (dCons (dVar 5) dNil))) dNil)) (dCB lstD (dCons (dVar 4) dNil))) (gNm 6)) (t_law_p27 K))
instance i_t_law_p28 {K : Bd} {De : DEnds} {σ : Std} {M : DM} : StepP (t_law_p28 K De σ M) ((dSeq (dAsg (dIf (dB (dOp neD (dVar 5) (dC (.str "many")))) (dCB lstD (dCons (dCall (sp__law_some K) (dCons (dVar 1) (dCons (dVar 5) dNil))) dNil)) (dCB lstD (dCons (dVar 4) dNil))) (gNm 6)) (t_law_p27 K)) De σ M) := ⟨fun z => z⟩
def t_law_p29 (K : Bd) : TSD := (dSeq (dAsg (dCall (sp__law_class K) (dCons (dVar 3) (dCons (dVar 4) (dCons (dC (.int 300)) dNil)))) (gNm 5)) (t_law_p28 K))
instance i_t_law_p29 {K : Bd} {De : DEnds} {σ : Std} {M : DM} : StepP (t_law_p29 K De σ M) ((dSeq (dAsg (dCall (sp__law_class K) (dCons (dVar 3) (dCons (dVar 4) (dCons (dC (.int 300)) dNil)))) (gNm 5)) (t_law_p28 K)) De σ M) := ⟨fun z => z⟩
def t_law_p30 (K : Bd) : TSD := (dSeq (dAsg (dCall (sp__law_row K) (dCons (dVar 1) (dCons (dOp ixD (dVar 3) (dC (.int 0))) (dCons (dC (.int 6)) dNil)))) (gNm 4)) (t_law_p29 K))
instance i_t_law_p30 {K : Bd} {De : DEnds} {σ : Std} {M : DM} : StepP (t_law_p30 K De σ M) ((dSeq (dAsg (dCall (sp__law_row K) (dCons (dVar 1) (dCons (dOp ixD (dVar 3) (dC (.int 0))) (dCons (dC (.int 6)) dNil)))) (gNm 4)) (t_law_p29 K)) De σ M) := ⟨fun z => z⟩
def t_law_p31 (K : Bd) : TSD := (dSeq (dAsg (dCall (sp__law_alphabet K) (dCons (dVar 1) (dCons (dSl (dTup (dCons (dC (.str "a")) (dCons (dC (.str "b")) (dCons (dC (.str "c")) (dCons (dC (.str "d")) dNil))))) dNo (dPart (dOp addD (dC (.int 2)) (dCall (sp__law_take K) (dCons (dVar 1) (dCons (dC (.int 3)) dNil)))))) dNil))) (gNm 3)) (t_law_p30 K))
instance i_t_law_p31 {K : Bd} {De : DEnds} {σ : Std} {M : DM} : StepP (t_law_p31 K De σ M) ((dSeq (dAsg (dCall (sp__law_alphabet K) (dCons (dVar 1) (dCons (dSl (dTup (dCons (dC (.str "a")) (dCons (dC (.str "b")) (dCons (dC (.str "c")) (dCons (dC (.str "d")) dNil))))) dNo (dPart (dOp addD (dC (.int 2)) (dCall (sp__law_take K) (dCons (dVar 1) (dCons (dC (.int 3)) dNil)))))) dNil))) (gNm 3)) (t_law_p30 K)) De σ M) := ⟨fun z => z⟩
def t_law_l32 (K : Bd) : TSD := (dFor (diRng1 (dCons (dC (.int 6)) dNil)) (gNm 2) (t_law_p31 K))
def t_law_p33 (K : Bd) : TSD := (dSeq (t_law_l32 K) (t_law_p1 K))
instance i_t_law_p33 {K : Bd} {De : DEnds} {σ : Std} {M : DM} : StepP (t_law_p33 K De σ M) ((dSeq (t_law_l32 K) (t_law_p1 K)) De σ M) := ⟨fun z => z⟩
def t_law (K : Bd) : TSD := (dSeq (dAsg (dCall (sp__law_bag K) (dCons (dVar 0) dNil)) (gNm 1)) (t_law_p33 K))
def sp_law (K : Bd) : SpD := fun ds M Q _ => ds.length = 1 ∧ t_law K (dEnd Q noX) (startD N_law ds) M
theorem go_law {K : Bd} {M : DM} {Q : DQ} {a : D} (h : t_law K (dEnd Q noX) [some a, none, none, none, none, none, none, none, none, none, none, none, none, none, none, none, none, none, none, none, none, none, none, none] M) : sp_law K [a] M Q noX := ⟨rfl, h⟩
end Dt

set_option autoImplicit false
set_option linter.all false
/-! TR: rows up to swaps, purely: two rows are one if they are the same, cut to each dependent couple. -/
namespace Tr
section
variable {α : Type} [DecidableEq α] {f : α → α → Bool}
/-- the row cut to a couple -/
def cut (a b : α) (r : List α) : List α := r.filter fun s => decide (s ∈ [a, b])
/-- s is there, and all that is ahead of it may be exchanged with it -/
def fst (f : α → α → Bool) : List α → α → Bool
  | [], _ => false
  | t :: r, s => if t = s then true else f t s && fst f r s
/-- one by swaps -/
def Tq (f : α → α → Bool) (r r' : List α) : Prop := ∀ a b, f a b = false → cut a b r = cut a b r'
theorem Tq.refl {r : List α} : Tq f r r := fun _ _ _ => rfl
theorem Tq.symm {r s : List α} (h : Tq f r s) : Tq f s r := fun a b e => (h a b e).symm
theorem Tq.trans {r s t : List α} (h : Tq f r s) (g : Tq f s t) : Tq f r t := fun a b e => (h a b e).trans (g a b e)
theorem cut_app {a b : α} {r s : List α} : cut a b (r ++ s) = cut a b r ++ cut a b s := List.filter_append ..
theorem Tq.app {r s r' s' : List α} (h : Tq f r s) (g : Tq f r' s') : Tq f (r ++ r') (s ++ s') := fun a b e => by rw [cut_app, cut_app, h a b e, g a b e]
theorem Tq.left {g x y : List α} (h : Tq f (g ++ x) (g ++ y)) : Tq f x y := fun a b e => by
  have := h a b e
  rw [cut_app, cut_app] at this
  exact List.append_cancel_left this
theorem Tq.right {g x y : List α} (h : Tq f (x ++ g) (y ++ g)) : Tq f x y := fun a b e => by
  have := h a b e
  rw [cut_app, cut_app] at this
  exact List.append_cancel_right this
theorem Tq.cons {s : α} {x y : List α} (h : Tq f x y) : Tq f (s :: x) (s :: y) := Tq.app (r := [s]) (s := [s]) .refl h
theorem Tq.uncons {s : α} {x y : List α} (h : Tq f (s :: x) (s :: y)) : Tq f x y := Tq.left (g := [s]) h
theorem count_cut (s : α) (r : List α) : (cut s s r).length = r.count s := by
  unfold cut
  induction r with
  | nil => rfl
  | cons t r ih =>
    by_cases h : t = s
    · subst h; simp at ih ⊢; exact ih
    · have : ¬ (t ∈ [s, s]) := by simp [h]
      rw [List.filter_cons_of_neg (by simpa using this), List.count_cons_of_ne h]; exact ih
variable (fs : ∀ a, f a a = false) (fc : ∀ a b, f a b = f b a)
include fs in
theorem Tq.count {r r' : List α} (h : Tq f r r') (s : α) : r.count s = r'.count s := by
  rw [← count_cut, ← count_cut, h s s (fs s)]
include fs in
theorem Tq.perm {r r' : List α} (h : Tq f r r') : r.Perm r' := List.perm_iff_count.mpr (h.count fs)
include fs in
theorem Tq.mem {r r' : List α} (h : Tq f r r') {s : α} : s ∈ r ↔ s ∈ r' := (h.perm fs).mem_iff
include fs in
theorem Tq.length {r r' : List α} (h : Tq f r r') : r.length = r'.length := (h.perm fs).length_eq
include fs in
theorem Tq.nil {r : List α} (h : Tq f [] r) : r = [] := by
  have := h.length fs
  exact List.length_eq_zero_iff.mp this.symm
/-! ### firsts -/
theorem fst_iff {r : List α} {s : α} : fst f r s = true ↔ ∃ pre post, r = pre ++ s :: post ∧ s ∉ pre ∧ ∀ t ∈ pre, f t s = true := by
  induction r with
  | nil => simp [fst]
  | cons t r ih =>
    unfold fst
    by_cases h : t = s
    · rw [if_pos h]; subst h
      exact ⟨fun _ => ⟨[], r, rfl, by simp, by simp⟩, fun _ => rfl⟩
    · rw [if_neg h, Bool.and_eq_true, ih]
      constructor
      · rintro ⟨h1, pre, post, rfl, h2, h3⟩
        exact ⟨t :: pre, post, rfl, by simp [Ne.symm h, h2], fun u hu => by
          rcases List.mem_cons.mp hu with e | e
          · rw [e]; exact h1
          · exact h3 u e⟩
      · rintro ⟨pre, post, e, h2, h3⟩
        cases pre with
        | nil => simp at e; exact absurd e.1 h
        | cons u pre =>
          simp at e
          obtain ⟨rfl, rfl⟩ := e
          exact ⟨h3 _ (by simp), pre, post, rfl, fun z => h2 (by simp [z]), fun v hv => h3 v (by simp [hv])⟩
theorem fst_mem {r : List α} {s : α} (h : fst f r s = true) : s ∈ r := by
  obtain ⟨pre, post, rfl, _⟩ := fst_iff.mp h; simp
theorem fst_head {r : List α} {s : α} : fst f (s :: r) s = true := by unfold fst; rw [if_pos rfl]
theorem erase_split {pre post : List α} {s : α} (h : s ∉ pre) : (pre ++ s :: post).erase s = pre ++ post := by
  rw [List.erase_append_right _ h, List.erase_cons_head]
include fc in
theorem fst_Tq {r : List α} {s : α} (h : fst f r s = true) : Tq f r (s :: r.erase s) := by
  obtain ⟨pre, post, rfl, h1, h2⟩ := fst_iff.mp h
  rw [erase_split h1]
  intro a b e
  show cut a b _ = _
  rw [cut_app]
  by_cases hs : s ∈ [a, b]
  · have e0 : cut a b pre = [] := by
      unfold cut
      rw [List.filter_eq_nil_iff]
      intro t ht
      have h3 := h2 t ht
      simp only [decide_eq_true_eq, List.mem_cons, List.not_mem_nil, or_false] at hs ⊢
      rintro (rfl | rfl)
      · rcases hs with rfl | rfl
        · exact h1 ht
        · rw [e] at h3; cases h3
      · rcases hs with rfl | rfl
        · rw [fc, e] at h3; cases h3
        · exact h1 ht
    have e1 : cut a b (s :: (pre ++ post)) = s :: cut a b (pre ++ post) := List.filter_cons_of_pos (by simpa using hs)
    have e2 : cut a b (s :: post) = s :: cut a b post := List.filter_cons_of_pos (by simpa using hs)
    rw [e1, e2, cut_app, e0]; rfl
  · have e1 : cut a b (s :: (pre ++ post)) = cut a b (pre ++ post) := List.filter_cons_of_neg (by simpa using hs)
    have e2 : cut a b (s :: post) = cut a b post := List.filter_cons_of_neg (by simpa using hs)
    rw [e1, e2, cut_app]
include fs in
theorem Tq.fst {r r' : List α} (h : Tq f r r') {s : α} (h1 : fst f r s = true) : Tr.fst f r' s = true := by
  have hm : s ∈ r' := (h.mem fs).mp (fst_mem h1)
  obtain ⟨pre', post', rfl, h2⟩ := List.append_of_mem hm |> fun ⟨a, b, e⟩ => (⟨_, _, e, trivial⟩ : ∃ pre post, r' = pre ++ s :: post ∧ True)
  -- the first place
  obtain ⟨p, q, e, hp⟩ : ∃ p q, pre' ++ s :: post' = p ++ s :: q ∧ s ∉ p := by
    have := List.mem_iff_append.mp hm
    clear h h1 this h2 hm
    induction pre' with
    | nil => exact ⟨[], post', rfl, by simp⟩
    | cons t pre ih =>
      by_cases ht : t = s
      · exact ⟨[], pre ++ s :: post', by simp [ht], by simp⟩
      · obtain ⟨p, q, e, hp⟩ := ih
        exact ⟨t :: p, q, by simp [e], by simp [Ne.symm ht, hp]⟩
  rw [e] at h ⊢
  refine fst_iff.mpr ⟨p, q, rfl, hp, fun t ht => ?_⟩
  cases hf : f t s with
  | true => rfl
  | false =>
    exfalso
    obtain ⟨pre, post, rfl, h3, h4⟩ := fst_iff.mp h1
    have c := h t s hf
    rw [cut_app, cut_app] at c
    have e0 : cut t s pre = [] := by
      unfold cut
      rw [List.filter_eq_nil_iff]
      intro u hu
      simp only [decide_eq_true_eq, List.mem_cons, List.not_mem_nil, or_false]
      rintro (rfl | rfl)
      · rw [h4 _ hu] at hf; cases hf
      · exact h3 hu
    have e1 : cut t s (s :: post) = s :: cut t s post := List.filter_cons_of_pos (by simp)
    rw [e0, e1] at c
    have : cut t s p ≠ [] := by
      unfold cut
      intro z
      rw [List.filter_eq_nil_iff] at z
      exact z t ht (by simp)
    cases hc : cut t s p with
    | nil => exact this hc
    | cons u l =>
      rw [hc] at c
      simp at c
      have hu : u ∈ cut t s p := by rw [hc]; simp
      have := (List.mem_filter.mp hu).1
      rw [← c.1] at this
      exact hp this
include fs in
theorem Tq.fst_eq {r r' : List α} (h : Tq f r r') (s : α) : Tr.fst f r s = Tr.fst f r' s := by
  rw [Bool.eq_iff_iff]
  exact ⟨fun z => h.fst fs z, fun z => h.symm.fst fs z⟩
include fs fc in
theorem Tq.erase {r r' : List α} (h : Tq f r r') {s : α} (h1 : Tr.fst f r s = true) : Tq f (r.erase s) (r'.erase s) :=
  ((fst_Tq fc h1).symm.trans (h.trans (fst_Tq fc (h.fst fs h1)))).uncons
include fs fc in
theorem fst_begin {r : List α} {s : α} : Tr.fst f r s = true ↔ ∃ y, Tq f (s :: y) r :=
  ⟨fun h => ⟨_, (fst_Tq fc h).symm⟩, fun ⟨y, h⟩ => h.fst fs fst_head⟩
/-- first of what is put together -/
theorem fst_app {g x : List α} {s : α} : Tr.fst f (g ++ x) s = (Tr.fst f g s || (decide (s ∉ g) && g.all (fun t => f t s) && Tr.fst f x s)) := by
  induction g with
  | nil => simp [Tr.fst]
  | cons t g ih =>
    simp only [List.cons_append, Tr.fst]
    by_cases h : t = s
    · simp [h]
    · rw [if_neg h, if_neg h, ih]
      cases h1 : f t s <;> cases h2 : Tr.fst f g s <;> simp [h1, Ne.symm h]
/-! ### what is left behind a beginning -/
def lo (f : α → α → Bool) : List α → List α → Option (List α)
  | [], r => some r
  | s :: g, r => if fst f r s = true then lo f g (r.erase s) else none
include fc in
theorem lo_some : ∀ {g r y : List α}, lo f g r = some y → Tq f (g ++ y) r
  | [], r, y, h => by cases h; exact .refl
  | s :: g, r, y, h => by
    unfold lo at h
    by_cases e : fst f r s = true
    · rw [if_pos e] at h
      exact (Tq.cons (lo_some h)).trans (fst_Tq fc e).symm
    · rw [if_neg e] at h; cases h
include fs fc in
theorem lo_of : ∀ {g r y : List α}, Tq f (g ++ y) r → ∃ z, lo f g r = some z ∧ Tq f y z
  | [], r, y, h => ⟨r, rfl, h⟩
  | s :: g, r, y, h => by
    have e : fst f r s = true := (fst_begin fs fc).mpr ⟨_, h⟩
    unfold lo
    rw [if_pos e]
    exact lo_of ((show Tq f (s :: (g ++ y)) r from h).trans (fst_Tq fc e)).uncons
include fs fc in
theorem lo_isSome {g r : List α} : (lo f g r).isSome = true ↔ ∃ y, Tq f (g ++ y) r := by
  constructor
  · intro h
    obtain ⟨y, hy⟩ := Option.isSome_iff_exists.mp h
    exact ⟨y, lo_some fc hy⟩
  · rintro ⟨y, h⟩
    obtain ⟨z, e, _⟩ := lo_of fs fc h
    rw [e]; rfl
/-! ### the greatest common beginning -/
/-- no sign can be first of both -/
def Apart (f : α → α → Bool) (x y : List α) : Prop := ∀ s, ¬ (fst f x s = true ∧ fst f y s = true)
include fs in
theorem Apart.tq {x y x' y' : List α} (h : Apart f x y) (h1 : Tq f x x') (h2 : Tq f y y') : Apart f x' y' := fun s ⟨a, b⟩ => h s ⟨h1.symm.fst fs a, h2.symm.fst fs b⟩
include fs fc in
/-- each common beginning is a beginning of the greatest one -/
theorem common_below : ∀ {h g x y x' y' : List α}, Apart f x y → Tq f (h ++ x') (g ++ x) → Tq f (h ++ y') (g ++ y) → ∃ k, Tq f (h ++ k) g ∧ Tq f x' (k ++ x) ∧ Tq f y' (k ++ y)
  | [], g, x, y, x', y', _, h1, h2 => ⟨g, .refl, h1, h2⟩
  | s :: h, g, x, y, x', y', ap, h1, h2 => by
    have f1 : fst f (g ++ x) s = true := h1.fst fs fst_head
    have f2 : fst f (g ++ y) s = true := h2.fst fs fst_head
    have fg : fst f g s = true := by
      rw [fst_app] at f1 f2
      cases e : fst f g s with
      | true => rfl
      | false =>
        rw [e] at f1 f2
        simp only [Bool.false_or, Bool.and_eq_true] at f1 f2
        exact absurd ⟨f1.2, f2.2⟩ (ap s)
    have e := fst_Tq fc fg
    have e1 : Tq f (h ++ x') (g.erase s ++ x) := (show Tq f (s :: (h ++ x')) _ from h1.trans (show Tq f (g ++ x) (s :: (g.erase s ++ x)) from e.app .refl)).uncons
    have e2 : Tq f (h ++ y') (g.erase s ++ y) := (show Tq f (s :: (h ++ y')) _ from h2.trans (show Tq f (g ++ y) (s :: (g.erase s ++ y)) from e.app .refl)).uncons
    obtain ⟨k, h3, h4, h5⟩ := common_below ap e1 e2
    exact ⟨k, (Tq.cons h3).trans e.symm, h4, h5⟩
include fs fc in
/-- what is left is one only -/
theorem common_one {h g x y x' y' : List α} (ap : Apart f x y) (ap' : Apart f x' y') (h1 : Tq f (h ++ x') (g ++ x)) (h2 : Tq f (h ++ y') (g ++ y)) : Tq f h g ∧ Tq f x' x ∧ Tq f y' y := by
  obtain ⟨k, h3, h4, h5⟩ := common_below fs fc ap h1 h2
  cases k with
  | nil => exact ⟨by rw [List.append_nil] at h3; exact h3, h4, h5⟩
  | cons s k => exact absurd ⟨h4.symm.fst fs fst_head, h5.symm.fst fs fst_head⟩ (ap' s)
end
end Tr

set_option Elab.async false
set_option autoImplicit false
set_option linter.all false
set_option maxRecDepth 100000
set_option maxHeartbeats 400000
namespace Dt
open PySem PySem.Spec PyProof.Rows L2 LamX RZ PySem.P
local macro_rules | `(tactic| walk_at "w1") => `(tactic| with_reducible refine StepW.go ?_)
local macro_rules | `(tactic| walk_at "w") => `(tactic| ((repeat walk_at "w1"); try (with_reducible conv => whnf)))
local macro_rules | `(tactic| walk_at "m") => `(tactic| first | with_reducible assumption | with_reducible exact put_same | (with_reducible apply Ext.get; (with_reducible assumption); walk_at "m") | (with_reducible apply Ext.get; (with_reducible apply Ext.new); (with_reducible assumption); walk_at "m"))
local macro_rules | `(tactic| walk_at "x") => `(tactic| first | with_reducible assumption | with_reducible exact Ext.refl | (with_reducible refine Ext.alloc ?_ (by with_reducible assumption) _; walk_at "x") | (with_reducible refine Ext.trans ?_ (by with_reducible assumption); walk_at "x"))
local macro_rules | `(tactic| walk_at "lk") => `(tactic| first | with_reducible exact look1 | ((with_reducible apply lookS); (with_unfolding_all decide); walk_at "lk"))
local macro_rules | `(tactic| walk_at "g1") => `(tactic| (first
  | with_reducible refine StepW.go ?_
  | with_reducible refine StepG.go ?_
  | with_reducible refine w_isTup ?_
  | ((with_reducible refine w_sz ?sz ?_); (case sz => size_fits))
  | ((with_reducible refine w_len ?sz ?_); (case sz => rfl))
  | ((with_reducible refine w_obj (by walk_at "m") ?ob2 ?_); (case ob2 => walk_at "ln"))
  | (with_reducible refine w_lenL (by walk_at "m") ?_) | (with_reducible refine w_seqL (by walk_at "m") ?_) | (with_reducible refine tup_list (by walk_at "m") ?_)
  | (with_reducible refine w_isLst (by walk_at "m") ?_) | (with_reducible refine w_slL (by walk_at "m") ?_)
  | ((with_reducible refine fld_ok (by walk_at "m") ?cl (by walk_at "lk") ?_); (case cl => walk_at "cl"))
  | (with_reducible refine w_lstL (by walk_at "m") ?_) | (with_reducible refine w_dic (by walk_at "m") ?_)
  ))
local macro_rules | `(tactic| walk_at "g") => `(tactic| ((repeat walk_at "g1"); try (with_reducible conv => whnf)))
local macro_rules | `(tactic| walk_at "ln") => `(tactic| first | exact look_none (ns := ["row", "signs", "dependent", "places", "taken"]) rfl (by decide) | exact look_none (ns := ["alphabet", "due", "its_left", "signs", "parting"]) rfl (by decide) | exact look_none (ns := ["alphabet", "its_lag", "parting"]) rfl (by decide))
local macro_rules | `(tactic| walk_at "cl") => `(tactic| first | exact CF.get (by with_reducible assumption) (by decide))
structure Alph where
  signs : List Str
  free : List (Str × Str)
def aD (A : Alph) : D := .tup [.tup (A.signs.map .str), .tup (A.free.map Enc.d)]
theorem slt_irrefl (a : Str) : ¬ sLt a a := List.lt_irrefl _
theorem slt_asymm {a b : Str} (h : sLt a b) : ¬ sLt b a := fun g => List.lt_irrefl _ (List.lt_trans h g)
theorem slt_trans {a b c : Str} (h : sLt a b) (g : sLt b c) : sLt a c := List.lt_trans h g
theorem slt_ne {a b : Str} (h : sLt a b) : a ≠ b := fun e => slt_irrefl a (by rw [← e] at h; exact h)
theorem slt_tri {a b : Str} (h : a ≠ b) : sLt a b ∨ sLt b a := by
  by_cases h1 : sLt a b
  · exact .inl h1
  · by_cases h2 : sLt b a
    · exact .inr h2
    · exact absurd (PySem.W.str_of_cps (List.le_antisymm (List.not_lt.mp h2) (List.not_lt.mp h1))) h
theorem minS_of {a b : Str} (h : sLt a b) : minS a b = a := by unfold minS; rw [if_neg (slt_asymm h)]
theorem maxS_of {a b : Str} (h : sLt a b) : maxS a b = b := by unfold maxS; rw [if_pos h]
theorem minS_of' {a b : Str} (h : sLt b a) : minS a b = b := by unfold minS; rw [if_pos h]
theorem maxS_of' {a b : Str} (h : sLt b a) : maxS a b = a := by unfold maxS; rw [if_neg (slt_asymm h)]
theorem minS_comm (a b : Str) : minS a b = minS b a := by
  by_cases e : a = b
  · rw [e]
  · rcases slt_tri e with h | h
    · rw [minS_of h, minS_of' h]
    · rw [minS_of' h, minS_of h]
theorem maxS_comm (a b : Str) : maxS a b = maxS b a := by
  by_cases e : a = b
  · rw [e]
  · rcases slt_tri e with h | h
    · rw [maxS_of h, maxS_of' h]
    · rw [maxS_of' h, maxS_of h]
/-- the two may be exchanged -/
def fr (A : Alph) (a b : Str) : Bool := decide ((minS a b, maxS a b) ∈ A.free)
theorem fr_comm (A : Alph) (a b : Str) : fr A a b = fr A b a := by unfold fr; rw [minS_comm a b, maxS_comm a b]
structure GoodA (A : Alph) : Prop where
  sorted : A.signs.Pairwise sLt
  short : A.signs.length ≤ 100
  free : ∀ p ∈ A.free, sLt p.1 p.2
theorem GoodA.nodup {A : Alph} (g : GoodA A) : A.signs.Nodup := g.sorted.imp slt_ne
theorem fr_self {A : Alph} (g : GoodA A) (a : Str) : fr A a a = false := by
  unfold fr
  rw [show minS a a = a from by unfold minS; exact if_neg (slt_irrefl a), show maxS a a = a from by unfold maxS; exact if_neg (slt_irrefl a)]
  exact decide_eq_false fun h => slt_irrefl a (g.free _ h)
section
variable {K : Bd} {M : DM} {Q : DQ} {A : Alph}
theorem s_is_number {i : Int} (q : Q (.bl true) M) : sp_is_number K [.int i] M Q noX := by
  refine go_is_number ?_
  delta t_is_number
  walk_at "w"
  refine ⟨_, _, rfl, rfl, ?_⟩
  walk_at "w"
  refine ⟨_, _, rfl, rfl, ?_⟩
  walk_at "w"
  exact q
theorem s_is_index {i : Int} (q : Q (.bl (decide (0 ≤ i))) M) : sp_is_index K [.int i] M Q noX := by
  refine go_is_index ?_
  delta t_is_index
  walk_at "w"
  refine s_is_number ?_
  walk_at "w"
  exact ge_int q
theorem s_check_sign {s : Str} (h : s ∈ A.signs) (q : Q .non M) : sp_check_sign K [aD A, .str s] M Q noX := by
  refine go_check_sign ?_
  delta t_check_sign
  walk_at "w"
  refine ⟨_, _, rfl, rfl, ?_⟩
  walk_at "w"
  refine ix_tup (n := 0) rfl ?_
  skip
  refine nmem_enc (α := Str) (b := true) (by simp [h]) (by decide) ?_
  walk_at "w"
  exact q
theorem s_are_independent {a b : Str} (ha : a ∈ A.signs) (hb : b ∈ A.signs) (q : Q (.bl (fr A a b)) M) : sp_are_independent K [aD A, .str a, .str b] M Q noX := by
  refine go_are_independent ?_
  delta t_are_independent
  walk_at "w"
  refine s_check_sign ha ?_
  walk_at "w"
  refine s_check_sign hb ?_
  walk_at "w"
  refine w_tup ?_
  walk_at "w"
  refine w_min ?_
  walk_at "w"
  refine w_max ?_
  walk_at "w"
  refine ⟨by size_fits, ?_⟩
  walk_at "w"
  refine ix_tup (n := 1) rfl ?_
  exact mem_enc (α := Str × Str) (a := (minS a b, maxS a b)) decide_eq_true_iff (by decide) q
theorem s_cut {r : List Str} {a b : Str} (hr : r.length ≤ sizeLine) (q : ∀ M', Ext M M' → Q (Enc.d (r.filter fun s => decide (s ∈ [a, b]))) M') : sp_cut K [Enc.d r, .str a, .str b] M Q noX := by
  refine go_cut ?_
  delta t_cut
  walk_at "w"
  refine w_lc ?_
  walk_at "w"
  refine lc_pure r .str (fun s => decide (s ∈ [a, b])) .str (fun i M' _ _ => rfl) hr ?_ ?_
  · intro i x M' hx e KT KF kt kf
    walk_at "w"
    refine w_tup ?_
    walk_at "w"
    refine ⟨by size_fits, ?_⟩
    walk_at "w"
    refine mem_enc (α := Str) (xs := [a, b]) (b := decide (x ∈ [a, b])) decide_eq_true_iff (by decide) ?_
    walk_at "w"
    cases h : decide (x ∈ [a, b])
    · walk_at "w"
      exact kf h _ e
    · walk_at "w"
      exact kt h _ e
  · intro M' p e hp
    walk_at "w"
    exact tup_list put_same (q _ (e.alloc hp _))
/-- all couples, each in the order of the row -/
def pairs {α : Type} : List α → List (α × α)
  | [] => []
  | a :: r => r.map (fun b => (a, b)) ++ pairs r
theorem drop_get {α : Type} {xs : List α} {i : Nat} {x : α} (h : xs[i]? = some x) : xs.drop i = x :: xs.drop (i + 1) := by
  obtain ⟨hi, e⟩ := List.getElem?_eq_some_iff.mp h
  rw [List.drop_eq_getElem_cons hi, e]
theorem pairs_length {α : Type} : ∀ xs : List α, (pairs xs).length ≤ xs.length * xs.length
  | [] => Nat.le_refl _
  | a :: r => by
    have := pairs_length r
    simp only [pairs, List.length_append, List.length_map, List.length_cons]
    have e : (r.length + 1) * (r.length + 1) = r.length * r.length + 2 * r.length + 1 := by
      simp only [Nat.mul_add, Nat.add_mul]; omega
    omega
def dcs (A : Alph) : List (Str × Str) := (pairs A.signs).filter fun c => !decide (c ∈ A.free)
theorem s_dependent_couples (g : GoodA A) (q : ∀ M', Ext M M' → Q (Enc.d (dcs A)) M') : sp_dependent_couples K [aD A] M Q noX := by
  refine go_dependent_couples ?_
  delta t_dependent_couples
  walk_at "w"
  refine ix_tup (n := 0) rfl ?_
  walk_at "w"
  refine w_lc2 ?_
  walk_at "w"
  have hp' : (pairs A.signs).length ≤ 10000 := Nat.le_trans (pairs_length _) (Nat.mul_le_mul g.short g.short)
  refine lc2_inv (numD (A.signs.map .str)) (fun i acc M' => Ext M M' ∧ ∃ dn : List (Str × Str), acc = dn.map Enc.d ∧ dn ++ pairs (A.signs.drop i) = pairs A.signs) (fun i acc M' _ _ => itE_at rfl) ⟨.refl, [], rfl, rfl⟩ ?_ ?_
  · rintro i d acc M' hd ⟨e, dn, rfl, he⟩ C c
    obtain ⟨y, hy, rfl⟩ := numD_get hd
    rw [List.getElem?_map] at hy
    cases hx : A.signs[i]? with
    | none => rw [hx] at hy; cases hy
    | some x =>
      rw [hx] at hy; cases hy
      walk_at "w"
      refine ⟨rfl, ?_⟩
      walk_at "w"
      refine w_yes ?_
      walk_at "w"
      refine w_add ?_
      walk_at "w"
      refine w_slT ?_
      walk_at "w"
      rw [show ((i : Int) + 1) = ((i + 1 : Nat) : Int) from by omega, cut_from, ← List.map_drop]
      have hl : ∀ n : Nat, (dn ++ ((A.signs.drop (i + 1)).take n).map fun b => (x, b)).length ≤ 10000 := fun n => by
        have := congrArg List.length he
        rw [drop_get hx] at this
        simp only [pairs, List.length_append, List.length_map, List.length_take] at this ⊢
        omega
      refine lc2In_inv ((A.signs.drop (i + 1)).map .str) (fun k acc M2 => Ext M M2 ∧ acc = (dn ++ ((A.signs.drop (i + 1)).take k).map fun b => (x, b)).map Enc.d) (fun k acc M2 _ _ => rfl) ⟨e, by simp⟩ (fun k acc M2 h hk => by rw [h.2, List.length_map]; exact Nat.lt_of_le_of_lt (hl k) (Nat.le_of_ble_eq_true rfl)) ?_ ?_
      · rintro k d acc M2 hd ⟨e2, rfl⟩ KT KF kt kf
        rw [List.getElem?_map] at hd
        cases hy : (A.signs.drop (i + 1))[k]? with
        | none => rw [hy] at hd; cases hd
        | some y =>
          rw [hy] at hd; cases hd
          walk_at "w"
          refine w_yes ?_
          walk_at "w"
          refine w_tup ?_
          walk_at "w"
          refine ⟨by size_fits, ?_⟩
          refine kt _ _ ⟨e2, ?_⟩
          rw [take_succ_get hy]
          simp
          rfl
      · rintro acc M2 ⟨e2, rfl⟩
        refine c _ _ ⟨e2, _, rfl, ?_⟩
        rw [List.length_map, List.take_length, List.append_assoc, ← he, drop_get hx]
        rfl
  · rintro acc M' p ⟨e, dn, rfl, he⟩ hp
    rw [numD_length, List.length_map, List.drop_length] at he
    simp only [pairs, List.append_nil] at he
    subst he
    walk_at "w"
    refine w_lc ?_
    walk_at "w"
    refine ⟨⟨_, put_same⟩, ?_⟩
    refine lc_pure (pairs A.signs) Enc.d (fun c => !decide (c ∈ A.free)) Enc.d (fun i M2 e2 _ => itL_is (e2 _ _ put_same) i) (Nat.le_trans hp' (Nat.le_of_ble_eq_true rfl)) ?_ ?_
    · intro i x M2 hx e2 KT KF kt kf
      walk_at "w"
      refine ix_tup (n := 1) rfl ?_
      refine nmem_enc (α := Str × Str) (b := decide (x ∈ A.free)) decide_eq_true_iff (by decide) ?_
      walk_at "w"
      cases h : !decide (x ∈ A.free)
      · walk_at "w"
        exact kf h _ e2
      · walk_at "w"
        exact kt h _ e2
    · intro M2 p2 e2 hp2
      walk_at "w"
      exact tup_list put_same (q _ ((e.alloc hp _).trans (e2.alloc hp2 _)))
end
end Dt

set_option Elab.async false
set_option autoImplicit false
set_option linter.all false
set_option maxRecDepth 100000
set_option maxHeartbeats 400000
namespace Dt
open PySem PySem.Spec PyProof.Rows L2 LamX RZ PySem.P
local macro_rules | `(tactic| walk_at "w1") => `(tactic| with_reducible refine StepW.go ?_)
local macro_rules | `(tactic| walk_at "w") => `(tactic| ((repeat walk_at "w1"); try (with_reducible conv => whnf)))
local macro_rules | `(tactic| walk_at "m") => `(tactic| first | with_reducible assumption | with_reducible exact put_same | (with_reducible apply Ext.get; (with_reducible assumption); walk_at "m") | (with_reducible apply Ext.get; (with_reducible apply Ext.new); (with_reducible assumption); walk_at "m"))
local macro_rules | `(tactic| walk_at "x") => `(tactic| first | with_reducible assumption | with_reducible exact Ext.refl | (with_reducible refine Ext.alloc ?_ (by with_reducible assumption) _; walk_at "x") | (with_reducible refine Ext.trans ?_ (by with_reducible assumption); walk_at "x"))
local macro_rules | `(tactic| walk_at "lk") => `(tactic| first | with_reducible exact look1 | ((with_reducible apply lookS); (with_unfolding_all decide); walk_at "lk"))
local macro_rules | `(tactic| walk_at "g1") => `(tactic| (first
  | with_reducible refine StepW.go ?_
  | with_reducible refine StepG.go ?_
  | with_reducible refine w_isTup ?_
  | ((with_reducible refine w_sz ?sz ?_); (case sz => size_fits))
  | ((with_reducible refine w_len ?sz ?_); (case sz => rfl))
  | ((with_reducible refine w_obj (by walk_at "m") ?ob2 ?_); (case ob2 => walk_at "ln"))
  | (with_reducible refine w_lenL (by walk_at "m") ?_) | (with_reducible refine w_seqL (by walk_at "m") ?_) | (with_reducible refine tup_list (by walk_at "m") ?_)
  | (with_reducible refine w_isLst (by walk_at "m") ?_) | (with_reducible refine w_slL (by walk_at "m") ?_)
  | ((with_reducible refine fld_ok (by walk_at "m") ?cl (by walk_at "lk") ?_); (case cl => walk_at "cl"))
  | (with_reducible refine w_lstL (by walk_at "m") ?_) | (with_reducible refine w_dic (by walk_at "m") ?_)
  ))
local macro_rules | `(tactic| walk_at "g") => `(tactic| ((repeat walk_at "g1"); try (with_reducible conv => whnf)))
local macro_rules | `(tactic| walk_at "ln") => `(tactic| first | exact look_none (ns := ["row", "signs", "dependent", "places", "taken"]) rfl (by decide) | exact look_none (ns := ["alphabet", "due", "its_left", "signs", "parting"]) rfl (by decide) | exact look_none (ns := ["alphabet", "its_lag", "parting"]) rfl (by decide))
local macro_rules | `(tactic| walk_at "cl") => `(tactic| first | exact CF.get (by with_reducible assumption) (by decide))
/-! ### what is left of a row, purely -/
section
variable {A : Alph}
abbrev Rem := List (Str × Nat)
def pl (rem : Rem) (s : Str) : Option Nat := (rem.find? fun p => decide (p.1 = s)).map (·.2)
def fstB (A : Alph) : List Str → Str → Bool
  | [], _ => false
  | t :: r, s => if t = s then true else fr A t s && fstB A r s
def places (row : List Str) (s : Str) : List Nat := (row.zipIdx.filter fun p => decide (p.1 = s)).map (·.2)
structure Took (A : Alph) (row : List Str) (tk : Str → Nat) (rem : Rem) : Prop where
  sub : rem.Sublist row.zipIdx
  at_ : ∀ s, (rem.filter fun p => decide (p.1 = s)).map (·.2) = (places row s).drop (tk s)
  le : ∀ s, tk s ≤ (places row s).length
theorem zip_sorted : ∀ (row : List Str) (k : Nat), (row.zipIdx k).Pairwise fun a b => a.2 < b.2
  | [], _ => .nil
  | x :: r, k => by
    rw [List.zipIdx_cons]
    refine .cons (fun p hp => ?_) (zip_sorted r (k + 1))
    obtain ⟨i, hi, e⟩ := List.mem_iff_getElem.mp hp
    rw [List.getElem_zipIdx] at e
    subst e
    show k < k + 1 + i
    omega
theorem Took.sorted {row : List Str} {tk : Str → Nat} {rem : Rem} (T : Took A row tk rem) : rem.Pairwise fun a b => a.2 < b.2 := (zip_sorted row 0).sublist T.sub
theorem Took.start (A : Alph) (row : List Str) : Took A row (fun _ => 0) row.zipIdx := ⟨.refl _, fun _ => rfl, fun _ => Nat.zero_le _⟩
theorem find_filter {α : Type} (p : α → Bool) : ∀ xs : List α, xs.find? p = (xs.filter p)[0]?
  | [] => rfl
  | x :: xs => by
    by_cases h : p x = true
    · rw [List.find?_cons_of_pos h, List.filter_cons_of_pos h]; rfl
    · rw [List.find?_cons_of_neg h, List.filter_cons_of_neg h, find_filter p xs]
theorem Took.pl_eq {row : List Str} {tk : Str → Nat} {rem : Rem} (T : Took A row tk rem) (s : Str) : pl rem s = (places row s)[tk s]? := by
  unfold pl
  rw [find_filter, ← List.getElem?_map, T.at_, List.getElem?_drop]; rfl
theorem pl_cons {t s : Str} {i : Nat} {rem : Rem} : pl ((t, i) :: rem) s = if t = s then some i else pl rem s := by
  unfold pl
  by_cases h : t = s
  · rw [List.find?_cons_of_pos (by simpa using h), if_pos h]; rfl
  · rw [List.find?_cons_of_neg (by simpa using h), if_neg h]
theorem pl_mem {rem : Rem} {s : Str} {i : Nat} (h : pl rem s = some i) : (s, i) ∈ rem := by
  unfold pl at h
  cases e : rem.find? fun p => decide (p.1 = s) with
  | none => rw [e] at h; cases h
  | some p =>
    rw [e] at h; cases h
    have h1 := List.mem_of_find?_eq_some e
    have h2 := List.find?_some e
    simp at h2
    subst h2
    exact h1
theorem pl_none {rem : Rem} {s : Str} : pl rem s = none ↔ s ∉ rem.map (·.1) := by
  induction rem with
  | nil => simp [pl]
  | cons p rem ih =>
    obtain ⟨t, i⟩ := p
    rw [pl_cons]
    by_cases h : t = s
    · rw [if_pos h]; simp [h]
    · rw [if_neg h, ih]; simp [Ne.symm h]
/-- s is there, and all that is ahead of it may be exchanged with it -/
theorem fstB_iff {rem : Rem} (hs : rem.Pairwise fun a b => a.2 < b.2) (hm : ∀ p ∈ rem, p.1 ∈ A.signs) (s : Str) :
    fstB A (rem.map (·.1)) s = true ↔ ∃ h, pl rem s = some h ∧ ∀ b ∈ A.signs, fr A s b = false → b ≠ s → ∀ k, pl rem b = some k → h < k := by
  induction rem with
  | nil => simp [fstB, pl]
  | cons p rem ih =>
    obtain ⟨t, i⟩ := p
    obtain ⟨h1, h2⟩ := List.pairwise_cons.mp hs
    have ih := ih h2 fun p hp => hm p (List.mem_cons_of_mem _ hp)
    simp only [List.map_cons, fstB, pl_cons]
    by_cases e : t = s
    · rw [if_pos e, if_pos e]
      refine ⟨fun _ => ⟨i, rfl, fun b hb hf hn k hk => ?_⟩, fun _ => rfl⟩
      rw [if_neg (fun z => hn (by rw [← z, e]))] at hk
      exact h1 _ (pl_mem hk)
    · rw [if_neg e, if_neg e, Bool.and_eq_true, ih]
      constructor
      · rintro ⟨hf, h, hp, ha⟩
        refine ⟨h, hp, fun b hb hf' hn k hk => ?_⟩
        by_cases eb : t = b
        · subst eb
          rw [fr_comm, hf] at hf'; cases hf'
        · rw [if_neg eb] at hk
          exact ha b hb hf' hn k hk
      · rintro ⟨h, hp, ha⟩
        have hlt : i < h := h1 _ (pl_mem hp)
        have hf : fr A t s = true := by
          cases q : fr A t s with
          | true => rfl
          | false =>
            have := ha t (hm _ List.mem_cons_self) (by rw [fr_comm]; exact q) e i (if_pos rfl)
            omega
        refine ⟨hf, h, hp, fun b hb hf' hn k hk => ?_⟩
        by_cases eb : t = b
        · subst eb
          rw [fr_comm, hf] at hf'; cases hf'
        · exact ha b hb hf' hn k (by rw [if_neg eb]; exact hk)
/-- the first s is taken -/
def tkOne (rem : Rem) (s : Str) : Rem := rem.eraseP fun p => decide (p.1 = s)
theorem filter_eraseP_same {α : Type} (p : α → Bool) : ∀ xs : List α, (xs.eraseP p).filter p = (xs.filter p).drop 1
  | [] => rfl
  | x :: xs => by
    by_cases h : p x = true
    · rw [List.eraseP_cons_of_pos h, List.filter_cons_of_pos h]; rfl
    · rw [List.eraseP_cons_of_neg h, List.filter_cons_of_neg h, List.filter_cons_of_neg h, filter_eraseP_same p xs]
theorem filter_eraseP_other {α : Type} (p q : α → Bool) (h : ∀ x, p x = true → q x = false) : ∀ xs : List α, (xs.eraseP p).filter q = xs.filter q
  | [] => rfl
  | x :: xs => by
    by_cases hx : p x = true
    · rw [List.eraseP_cons_of_pos hx, List.filter_cons_of_neg (by rw [h x hx]; simp)]
    · rw [List.eraseP_cons_of_neg hx]
      by_cases hq : q x = true
      · rw [List.filter_cons_of_pos hq, List.filter_cons_of_pos hq, filter_eraseP_other p q h xs]
      · rw [List.filter_cons_of_neg hq, List.filter_cons_of_neg hq, filter_eraseP_other p q h xs]
theorem Took.take {row : List Str} {tk : Str → Nat} {rem : Rem} (T : Took A row tk rem) {s : Str} (h : s ∈ rem.map (·.1)) : Took A row (fun b => if b = s then tk b + 1 else tk b) (tkOne rem s) := by
  refine ⟨List.eraseP_sublist.trans T.sub, fun b => ?_, fun b => ?_⟩
  · unfold tkOne
    by_cases e : b = s
    · subst e
      rw [filter_eraseP_same, List.map_drop, T.at_, List.drop_drop, if_pos rfl]
    · rw [filter_eraseP_other _ _ (fun x hx => by simp at hx ⊢; rw [hx]; exact Ne.symm e), T.at_, if_neg e]
  · by_cases e : b = s
    · subst e
      rw [if_pos rfl]
      have e1 := T.pl_eq b
      cases q : pl rem b with
      | none => exact absurd h (pl_none.mp q)
      | some i =>
        rw [q] at e1
        have := (List.getElem?_eq_some_iff.mp e1.symm).1
        omega
    · rw [if_neg e]; exact T.le b
theorem tkOne_map (rem : Rem) (s : Str) : (tkOne rem s).map (·.1) = (rem.map (·.1)).erase s := by
  unfold tkOne
  induction rem with
  | nil => rfl
  | cons p rem ih =>
    obtain ⟨t, i⟩ := p
    by_cases h : t = s
    · rw [List.eraseP_cons_of_pos (by simpa using h)]; subst h; simp
    · rw [List.eraseP_cons_of_neg (by simpa using h)]
      simp only [List.map_cons]
      rw [List.erase_cons_tail (by simpa using h), ih]
theorem zip_map (row : List Str) : row.zipIdx.map (·.1) = row := by simp
theorem Took.in {row : List Str} {tk : Str → Nat} {rem : Rem} (T : Took A row tk rem) (hr : ∀ s ∈ row, s ∈ A.signs) : ∀ p ∈ rem, p.1 ∈ A.signs := fun p hp => by
  have h1 := T.sub.subset hp
  refine hr _ ?_
  rw [← zip_map row]
  exact List.mem_map_of_mem h1
end
end Dt

set_option Elab.async false
set_option autoImplicit false
set_option linter.all false
set_option maxRecDepth 100000
set_option maxHeartbeats 400000
namespace Dt
open PySem PySem.Spec PyProof.Rows L2 LamX RZ PySem.P
local macro_rules | `(tactic| walk_at "w1") => `(tactic| with_reducible refine StepW.go ?_)
local macro_rules | `(tactic| walk_at "w") => `(tactic| ((repeat walk_at "w1"); try (with_reducible conv => whnf)))
local macro_rules | `(tactic| walk_at "m") => `(tactic| first | with_reducible assumption | with_reducible exact put_same | (with_reducible apply Ext.get; (with_reducible assumption); walk_at "m") | (with_reducible apply Ext.get; (with_reducible apply Ext.new); (with_reducible assumption); walk_at "m"))
local macro_rules | `(tactic| walk_at "x") => `(tactic| first | with_reducible assumption | with_reducible exact Ext.refl | (with_reducible refine Ext.alloc ?_ (by with_reducible assumption) _; walk_at "x") | (with_reducible refine Ext.trans ?_ (by with_reducible assumption); walk_at "x"))
local macro_rules | `(tactic| walk_at "lk") => `(tactic| first | with_reducible exact look1 | ((with_reducible apply lookS); (with_unfolding_all decide); walk_at "lk"))
local macro_rules | `(tactic| walk_at "g1") => `(tactic| (first
  | with_reducible refine StepW.go ?_
  | with_reducible refine StepG.go ?_
  | with_reducible refine w_isTup ?_
  | ((with_reducible refine w_sz ?sz ?_); (case sz => size_fits))
  | ((with_reducible refine w_len ?sz ?_); (case sz => rfl))
  | ((with_reducible refine w_obj (by walk_at "m") ?ob2 ?_); (case ob2 => walk_at "ln"))
  | (with_reducible refine w_lenL (by walk_at "m") ?_) | (with_reducible refine w_seqL (by walk_at "m") ?_) | (with_reducible refine tup_list (by walk_at "m") ?_)
  | (with_reducible refine w_isLst (by walk_at "m") ?_) | (with_reducible refine w_slL (by walk_at "m") ?_)
  | ((with_reducible refine fld_ok (by walk_at "m") ?cl (by walk_at "lk") ?_); (case cl => walk_at "cl"))
  | (with_reducible refine w_lstL (by walk_at "m") ?_) | (with_reducible refine w_dic (by walk_at "m") ?_)
  ))
local macro_rules | `(tactic| walk_at "g") => `(tactic| ((repeat walk_at "g1"); try (with_reducible conv => whnf)))
local macro_rules | `(tactic| walk_at "ln") => `(tactic| first | exact look_none (ns := ["row", "signs", "dependent", "places", "taken"]) rfl (by decide) | exact look_none (ns := ["alphabet", "due", "its_left", "signs", "parting"]) rfl (by decide) | exact look_none (ns := ["alphabet", "its_lag", "parting"]) rfl (by decide))
local macro_rules | `(tactic| walk_at "cl") => `(tactic| first | exact CF.get (by with_reducible assumption) (by decide))
/-! ### fields, dicts -/
section
variable {K : Bd} {M : DM} {Q : DQ}
theorem valD_map {xs : List Str} (f : Str → D) {s : Str} (h : s ∈ xs) : valD (xs.map fun x => ((.inr x : Key), f x)) (.inr s) = some (f s) := by
  unfold valD
  induction xs with
  | nil => cases h
  | cons x xs ih =>
    by_cases e : x = s
    · subst e
      rw [List.map_cons, List.find?_cons_of_pos (by simp)]; rfl
    · rw [List.map_cons, List.find?_cons_of_neg (by simpa using e)]
      exact ih (by cases h with | head => exact absurd rfl e | tail _ h => exact h)
theorem dget_str {a : Addr} {kvs : List (Key × D)} {s : Str} {v : D} (e : M a = some (.dK kvs)) (h : valD kvs (.inr s) = some v) (q : Q v M) : dgetD (.ref a) (.str s) M Q := ⟨a, v, rfl, by rw [← h]; exact .k e rfl, q⟩
theorem putD_map {xs : List Str} (f : Str → D) {s : Str} (v : D) (h : s ∈ xs) : putD (xs.map fun x => ((.inr x : Key), f x)) (.inr s) v = xs.map fun x => ((.inr x : Key), if x = s then v else f x) := by
  unfold putD
  have : ((xs.map fun x => ((.inr x : Key), f x)).any fun kv => decide (kv.1 = .inr s)) = true := by
    rw [List.any_eq_true]
    exact ⟨_, List.mem_map_of_mem h, by simp⟩
  rw [this]
  simp only [List.map_map]
  refine List.map_congr_left fun x hx => ?_
  simp only [Function.comp]
  by_cases e : x = s
  · subst e; simp
  · rw [if_neg (fun z => e (Sum.inr.inj z)), if_neg e]
theorem putD_new {κ : Type} [DecidableEq κ] {kvs : List (κ × D)} {k : κ} (v : D) (h : k ∉ kvs.map (·.1)) : putD kvs k v = kvs ++ [(k, v)] := by
  unfold putD
  have : (kvs.any fun kv => decide (kv.1 = k)) = false := by
    rw [List.any_eq_false]
    intro x hx
    simp only [decide_eq_true_eq]
    intro z
    exact h (z ▸ List.mem_map_of_mem hx)
  rw [this]
end
/-- what the module says of Left -/
structure LF (K : Bd) : Prop where
  row : Cls K (He.ga K.K "Left") ∧ NoAttr K (He.ga K.K "Left") "row"
  signs : Cls K (He.ga K.K "Left") ∧ NoAttr K (He.ga K.K "Left") "signs"
  dependent : Cls K (He.ga K.K "Left") ∧ NoAttr K (He.ga K.K "Left") "dependent"
  places : Cls K (He.ga K.K "Left") ∧ NoAttr K (He.ga K.K "Left") "places"
  taken : Cls K (He.ga K.K "Left") ∧ NoAttr K (He.ga K.K "Left") "taken"
section
variable {K : Bd} {M M' : DM} {Q : DQ} {A : Alph} {S : Addr → Prop} {x d p t : Addr} {row : List Str} {tk : Str → Nat} {rem : Rem}
/-- the part of a Left that stays -/
structure LeftFix (S : Addr → Prop) (M : DM) (A : Alph) (row : List Str) (d p : Addr) : Prop where
  sd : S d
  sp : S p
  dep : ∃ da : Str → Addr, M d = some (.dK (A.signs.map fun s => (.inr s, .ref (da s)))) ∧ ∀ s ∈ A.signs, S (da s) ∧ ∃ ds : List Str, M (da s) = some (.lst (ds.map .str)) ∧ ds.length ≤ sizeLine ∧ ∀ b, b ∈ ds ↔ b = s ∨ (b ∈ A.signs ∧ fr A s b = false)
  pla : ∃ pa : Str → Addr, M p = some (.dK (A.signs.map fun s => (.inr s, .ref (pa s)))) ∧ ∀ s ∈ A.signs, S (pa s) ∧ M (pa s) = some (.lst ((places row s).map fun n : Nat => D.int (n : Int)))
theorem LeftFix.mono (h : LeftFix S M A row d p) (k : ∀ a o, S a → M a = some o → M' a = some o) : LeftFix S M' A row d p := by
  obtain ⟨sd, sp, ⟨da, e1, h1⟩, ⟨pa, e2, h2⟩⟩ := h
  exact ⟨sd, sp, ⟨da, k _ _ sd e1, fun s hs => ⟨(h1 s hs).1, let ⟨ds, e, r⟩ := (h1 s hs).2; ⟨ds, k _ _ (h1 s hs).1 e, r⟩⟩⟩, ⟨pa, k _ _ sp e2, fun s hs => ⟨(h2 s hs).1, k _ _ (h2 s hs).1 (h2 s hs).2⟩⟩⟩
@[reducible] def leftO (K : Bd) (A : Alph) (row : List Str) (d p t : Addr) : DO := .ins (He.ga K.K "Left") [("row", Enc.d row), ("signs", .tup (A.signs.map .str)), ("dependent", .ref d), ("places", .ref p), ("taken", .ref t)]
def tkO (A : Alph) (tk : Str → Nat) : DO := .dK (A.signs.map fun s => (.inr s, .int (tk s : Nat)))
/-- a Left -/
structure LeftAt (K : Bd) (S : Addr → Prop) (M : DM) (x t : Addr) (A : Alph) (row : List Str) (rem : Rem) : Prop where
  ex : ∃ d p tk, M x = some (leftO K A row d p t) ∧ LeftFix S M A row d p ∧ M t = some (tkO A tk) ∧ Took A row tk rem
  sx : S x
  nt : ¬ S t
theorem LeftAt.mono (h : LeftAt K S M x t A row rem) (k : ∀ a o, S a → M a = some o → M' a = some o) (kt : ∀ o, M t = some o → M' t = some o) : LeftAt K S M' x t A row rem := by
  obtain ⟨⟨d, p, tk, e, f, et, T⟩, sx, nt⟩ := h
  exact ⟨⟨d, p, tk, k _ _ sx e, f.mono k, kt _ et, T⟩, sx, nt⟩
theorem LeftAt.ext (h : LeftAt K S M x t A row rem) (k : Ext M M') : LeftAt K S M' x t A row rem := h.mono (fun a o _ e => k a o e) (fun o e => k _ _ e)
@[reducible] def optN : Option Nat → D
  | none => .non
  | some n => .int (n : Int)
theorem s_place (F : LF K) (h : LeftAt K S M x t A row rem) {s : Str} (hs : s ∈ A.signs) (q : Q (optN (pl rem s)) M) : sp_Left_place K [.ref x, .str s] M Q noX := by
  obtain ⟨⟨d, p, tk, e, f, et, T⟩, sx, nt⟩ := h
  obtain ⟨pa, ep, hp⟩ := f.pla
  have e' : M x = some (.ins _ _) := e
  refine go_Left_place ?_
  delta t_Left_place
  walk_at "w"
  refine fld_ok e' F.taken (lookS (by decide) (lookS (by decide) (lookS (by decide) (lookS (by decide) look1)))) ?_
  walk_at "w"
  refine dget_str et (valD_map _ hs) ?_
  walk_at "w"
  refine fld_ok e' F.places (lookS (by decide) (lookS (by decide) (lookS (by decide) look1))) ?_
  walk_at "w"
  refine dget_str ep (valD_map _ hs) ?_
  walk_at "w"
  refine .inl ⟨_, (hp s hs).2, ?_⟩
  walk_at "w"
  refine lt_int ?_
  walk_at "w"
  rw [List.length_map]
  rw [T.pl_eq] at q
  cases hl : decide ((tk s : Int) < ((places row s).length : Int))
  · walk_at "w"
    have := of_decide_eq_false hl
    rw [List.getElem?_eq_none_iff.mpr (by omega)] at q
    exact q
  · walk_at "w"
    have := of_decide_eq_true hl
    rw [List.getElem?_eq_getElem (by omega)] at q
    refine fld_ok e' F.places (lookS (by decide) (lookS (by decide) (lookS (by decide) look1))) ?_
    walk_at "w"
    refine dget_str ep (valD_map _ hs) ?_
    walk_at "w"
    refine ix_lst (hp s hs).2 (x := .int ((places row s)[tk s]'(by omega) : Nat)) (by rw [List.getElem?_map, List.getElem?_eq_getElem (by omega)]; rfl) ?_
    exact q
end
end Dt

set_option Elab.async false
set_option autoImplicit false
set_option linter.all false
set_option maxRecDepth 100000
set_option maxHeartbeats 400000
namespace Dt
open PySem PySem.Spec PyProof.Rows L2 LamX RZ PySem.P
local macro_rules | `(tactic| walk_at "w1") => `(tactic| with_reducible refine StepW.go ?_)
local macro_rules | `(tactic| walk_at "w") => `(tactic| ((repeat walk_at "w1"); try (with_reducible conv => whnf)))
local macro_rules | `(tactic| walk_at "m") => `(tactic| first | with_reducible assumption | with_reducible exact put_same | (with_reducible apply Ext.get; (with_reducible assumption); walk_at "m") | (with_reducible apply Ext.get; (with_reducible apply Ext.new); (with_reducible assumption); walk_at "m"))
local macro_rules | `(tactic| walk_at "x") => `(tactic| first | with_reducible assumption | with_reducible exact Ext.refl | (with_reducible refine Ext.alloc ?_ (by with_reducible assumption) _; walk_at "x") | (with_reducible refine Ext.trans ?_ (by with_reducible assumption); walk_at "x"))
local macro_rules | `(tactic| walk_at "lk") => `(tactic| first | with_reducible exact look1 | ((with_reducible apply lookS); (with_unfolding_all decide); walk_at "lk"))
local macro_rules | `(tactic| walk_at "g1") => `(tactic| (first
  | with_reducible refine StepW.go ?_
  | with_reducible refine StepG.go ?_
  | with_reducible refine w_isTup ?_
  | ((with_reducible refine w_sz ?sz ?_); (case sz => size_fits))
  | ((with_reducible refine w_len ?sz ?_); (case sz => rfl))
  | ((with_reducible refine w_obj (by walk_at "m") ?ob2 ?_); (case ob2 => walk_at "ln"))
  | (with_reducible refine w_lenL (by walk_at "m") ?_) | (with_reducible refine w_seqL (by walk_at "m") ?_) | (with_reducible refine tup_list (by walk_at "m") ?_)
  | (with_reducible refine w_isLst (by walk_at "m") ?_) | (with_reducible refine w_slL (by walk_at "m") ?_)
  | ((with_reducible refine fld_ok (by walk_at "m") ?cl (by walk_at "lk") ?_); (case cl => walk_at "cl"))
  | (with_reducible refine w_lstL (by walk_at "m") ?_) | (with_reducible refine w_dic (by walk_at "m") ?_)
  ))
local macro_rules | `(tactic| walk_at "g") => `(tactic| ((repeat walk_at "g1"); try (with_reducible conv => whnf)))
local macro_rules | `(tactic| walk_at "ln") => `(tactic| first | exact look_none (ns := ["row", "signs", "dependent", "places", "taken"]) rfl (by decide) | exact look_none (ns := ["alphabet", "due", "its_left", "signs", "parting"]) rfl (by decide) | exact look_none (ns := ["alphabet", "its_lag", "parting"]) rfl (by decide))
local macro_rules | `(tactic| walk_at "cl") => `(tactic| first | exact CF.get (by with_reducible assumption) (by decide))
section
variable {K : Bd} {M M' : DM} {Q : DQ} {A : Alph} {S : Addr → Prop} {x d p t : Addr} {row : List Str} {tk : Str → Nat} {rem : Rem}
theorem LeftAt.o (h : LeftAt K S M x t A row rem) : ∃ d p, M x = some (leftO K A row d p t) := by
  obtain ⟨⟨d, p, tk, e, f, et, T⟩, sx, nt⟩ := h
  exact ⟨d, p, e⟩
abbrev leftNs : List Str := ["row", "signs", "dependent", "places", "taken"]
theorem LeftAt.sorted (h : LeftAt K S M x t A row rem) : rem.Pairwise fun a b => a.2 < b.2 := by
  obtain ⟨⟨d, p, tk, e, f, et, T⟩, sx, nt⟩ := h
  exact T.sorted
theorem LeftAt.in (h : LeftAt K S M x t A row rem) (hr : ∀ s ∈ row, s ∈ A.signs) : ∀ p ∈ rem, p.1 ∈ A.signs := by
  obtain ⟨⟨d, p, tk, e, f, et, T⟩, sx, nt⟩ := h
  exact T.in hr
def bigger (h : Nat) : Option Nat → Bool
  | none => true
  | some k => decide (h < k)
theorem s_can_be_first (F : LF K) (h : LeftAt K S M x t A row rem) (hr : ∀ s ∈ row, s ∈ A.signs) {s : Str} (hs : s ∈ A.signs) (q : ∀ M', Ext M M' → Q (.bl (fstB A (rem.map (·.1)) s)) M') : sp_Left_can_be_first K [.ref x, .str s] M Q noX := by
  have hB := fstB_iff (A := A) h.sorted (h.in hr) s
  obtain ⟨d, p, e⟩ := h.o
  refine go_Left_can_be_first ?_
  delta t_Left_can_be_first
  walk_at "w"
  refine w_meth ?_
  walk_at "w"
  refine ⟨_, _, rfl, e, look_none (ns := leftNs) rfl (by decide), ?_⟩
  walk_at "w"
  refine s_place F h hs ?_
  walk_at "w"
  cases hp : pl rem s with
  | none =>
    refine ⟨rfl, ?_⟩
    have : fstB A (rem.map (·.1)) s = false := by
      cases z : fstB A (rem.map (·.1)) s with
      | false => rfl
      | true => obtain ⟨k, hk, _⟩ := hB.mp z; rw [hp] at hk; cases hk
    rw [this] at q
    exact q M .refl
  | some k =>
    refine ⟨rfl, ?_⟩
    walk_at "w"
    refine w_lc ?_
    walk_at "w"
    have e' : M x = some (.ins _ _) := e
    refine fld_ok e' F.dependent (lookS (by decide) (lookS (by decide) look1)) ?_
    walk_at "w"
    have h0 := h
    obtain ⟨⟨d', p', tk, e1, f, et, T⟩, sx, nt⟩ := h
    have he : leftO K A row d p t = leftO K A row d' p' t := Option.some.inj (e.symm.trans e1)
    have hd : d = d' := by
      unfold leftO at he
      injection he with _ he
      simp at he
      exact he.1
    subst hd
    obtain ⟨da, ed, hda⟩ := f.dep
    obtain ⟨_, ds, eds, hdl, hmem⟩ := hda s hs
    refine dget_str ed (valD_map _ hs) ?_
    walk_at "w"
    refine ⟨⟨_, eds⟩, ?_⟩
    have hin : ∀ b ∈ ds, b ∈ A.signs := fun b hb => by
      rcases (hmem b).mp hb with z | z
      · rw [z]; exact hs
      · exact z.1
    refine lc_pure ds .str (fun b => !decide (b = s)) (fun b => optN (pl rem b)) (fun i M' e2 _ => itL_is (e2 _ _ eds) i) hdl ?_ ?_
    · intro i b M2 hb e2 KT KF kt kf
      walk_at "w"
      refine ne_str ?_
      walk_at "w"
      cases hc : !decide (b = s)
      · walk_at "w"
        exact kf hc _ e2
      · walk_at "w"
        refine w_meth ?_
        walk_at "w"
        refine ⟨_, _, rfl, e2 _ _ e, look_none (ns := leftNs) rfl (by decide), ?_⟩
        walk_at "w"
        exact s_place F (h0.ext e2) (hin b (List.mem_of_getElem? hb)) (kt hc _ e2)
    · intro M2 p2 e2 hp2
      walk_at "w"
      refine w_lc ?_
      walk_at "w"
      refine ⟨⟨_, put_same⟩, ?_⟩
      refine lc_pure ((ds.filter fun b => !decide (b = s)).map fun b => pl rem b) optN (fun _ => true) (fun o => .bl (bigger k o)) (fun i M' e3 _ => by rw [itL_is (e3 _ _ put_same) i, List.map_map]; rfl) (by rw [List.length_map]; exact Nat.le_trans (List.length_filter_le _ _) hdl) ?_ ?_
      · intro i o M3 ho e3 KT KF kt kf
        walk_at "w"
        refine w_yes ?_
        walk_at "w"
        cases o with
        | none =>
          refine ⟨rfl, ?_⟩
          walk_at "w"
          exact kt rfl _ e3
        | some j =>
          refine ⟨rfl, ?_⟩
          walk_at "w"
          refine gt_int ?_
          have e4 : decide ((k : Int) < (j : Int)) = bigger k (some j) := by
            unfold bigger
            rw [Bool.eq_iff_iff]; simp
          rw [e4]
          exact kt rfl _ e3
      · intro M3 p3 e3 hp3
        walk_at "w"
        refine ⟨((ds.filter fun b => !decide (b = s)).map fun b => bigger k (pl rem b)), by rw [put_same, List.filter_eq_self.mpr (fun _ _ => rfl), List.map_map, List.map_map]; rfl, ?_⟩
        have e4 : (((ds.filter fun b => !decide (b = s)).map fun b => bigger k (pl rem b)).all id) = fstB A (rem.map (·.1)) s := by
          rw [Bool.eq_iff_iff, hB, List.all_eq_true]
          constructor
          · intro z
            refine ⟨k, hp, fun b hb hf hn j hj => ?_⟩
            have := z _ (List.mem_map_of_mem (f := fun b => bigger k (pl rem b)) (List.mem_filter.mpr ⟨(hmem b).mpr (.inr ⟨hb, hf⟩), by simpa using hn⟩))
            simp only [id_eq, hj, bigger, decide_eq_true_eq] at this
            exact this
          · rintro ⟨k', hk', z⟩ y hy
            rw [hp] at hk'
            cases hk'
            obtain ⟨b, hb, rfl⟩ := List.mem_map.mp hy
            obtain ⟨hb1, hb2⟩ := List.mem_filter.mp hb
            have hn : b ≠ s := by simpa using hb2
            rcases (hmem b).mp hb1 with g | g
            · exact absurd g hn
            · show bigger k (pl rem b) = true
              cases hj : pl rem b with
              | none => rfl
              | some j => exact decide_eq_true (z b g.1 g.2 hn j hj)
        rw [e4]
        exact q _ ((e2.alloc hp2 _).trans (e3.alloc hp3 _))
theorem s_firsts (F : LF K) (h : LeftAt K S M x t A row rem) (g : GoodA A) (hr : ∀ s ∈ row, s ∈ A.signs) (q : ∀ M' l, Ext M M' → M' l = some (.lst ((A.signs.filter fun s => fstB A (rem.map (·.1)) s).map .str)) → Q (.ref l) M') : sp_Left_firsts K [.ref x] M Q noX := by
  obtain ⟨d, p, e⟩ := h.o
  have e' : M x = some (.ins _ _) := e
  refine go_Left_firsts ?_
  delta t_Left_firsts
  walk_at "w"
  refine w_lc ?_
  walk_at "w"
  refine fld_ok e' F.signs (lookS (by decide) look1) ?_
  walk_at "w"
  refine lc_pure A.signs .str (fun s => fstB A (rem.map (·.1)) s) .str (fun i M' e2 _ => rfl) (Nat.le_trans g.short (by size_fits)) ?_ ?_
  · intro i b M2 hb e2 KT KF kt kf
    walk_at "w"
    refine w_meth ?_
    walk_at "w"
    refine ⟨_, _, rfl, e2 _ _ e, look_none (ns := leftNs) rfl (by decide), ?_⟩
    walk_at "w"
    refine s_can_be_first F (h.ext e2) hr (List.mem_of_getElem? hb) fun M3 e3 => ?_
    walk_at "w"
    cases hc : fstB A (rem.map (·.1)) b
    · walk_at "w"
      exact kf hc _ (e2.trans e3)
    · walk_at "w"
      exact kt hc _ (e2.trans e3)
  · intro M2 p2 e2 hp2
    exact q _ _ (e2.alloc hp2 _) put_same
theorem s_take (F : LF K) (g : GoodA A) (h : LeftAt K S M x t A row rem) {s : Str} (hs : s ∈ A.signs) (hin : s ∈ rem.map (·.1)) (q : ∀ M', (∀ a o, a ≠ t → M a = some o → M' a = some o) → LeftAt K S M' x t A row (tkOne rem s) → Q .non M') : sp_Left_take K [.ref x, .str s] M Q noX := by
  obtain ⟨⟨d, p, tk, e, f, et, T⟩, sx, nt⟩ := h
  have e' : M x = some (.ins _ _) := e
  refine go_Left_take ?_
  delta t_Left_take
  unfold dDAug
  walk_at "w"
  refine fld_ok e' F.taken (lookS (by decide) (lookS (by decide) (lookS (by decide) (lookS (by decide) look1)))) ?_
  walk_at "w"
  refine ⟨t, _, rfl, by rw [← valD_map (fun s => D.int (tk s : Nat)) hs]; exact .k et rfl, ?_⟩
  walk_at "w"
  refine (show intOp0 _ _ _ _ _ from ?_)
  refine ⟨_, .k et rfl (by rw [List.length_map]; exact Nat.lt_of_le_of_lt g.short (by size_fits)), ?_⟩
  have e5 : putD (A.signs.map fun s => ((.inr s : Key), D.int (tk s : Nat))) (.inr s) (.int ((tk s : Int) + 1)) = A.signs.map fun b => ((.inr b : Key), D.int ((if b = s then tk b + 1 else tk b : Nat) : Int)) := by
    rw [putD_map _ _ hs]
    refine List.map_congr_left fun b hb => ?_
    by_cases z : b = s
    · subst z; simp
    · rw [if_neg z, if_neg z]
  have keep : ∀ a o, a ≠ t → M a = some o → put M t (.dK (putD (A.signs.map fun s => ((.inr s : Key), D.int (tk s : Nat))) (.inr s) (.int ((tk s : Int) + 1)))) a = some o := fun a o ha ea => by rw [put_ne ha]; exact ea
  refine q _ keep ⟨⟨d, p, _, keep _ _ (fun z => nt (z ▸ sx)) e, f.mono fun a o sa ea => keep _ _ (fun z => nt (z ▸ sa)) ea, ?_, T.take hin⟩, sx, nt⟩
  rw [put_same, e5]; rfl
end
end Dt

set_option Elab.async false
set_option autoImplicit false
set_option linter.all false
set_option maxRecDepth 100000
set_option maxHeartbeats 400000
namespace Dt
open PySem PySem.Spec PyProof.Rows L2 LamX RZ PySem.P
local macro_rules | `(tactic| walk_at "w1") => `(tactic| with_reducible refine StepW.go ?_)
local macro_rules | `(tactic| walk_at "w") => `(tactic| ((repeat walk_at "w1"); try (with_reducible conv => whnf)))
local macro_rules | `(tactic| walk_at "m") => `(tactic| first | with_reducible assumption | with_reducible exact put_same | (with_reducible apply Ext.get; (with_reducible assumption); walk_at "m") | (with_reducible apply Ext.get; (with_reducible apply Ext.new); (with_reducible assumption); walk_at "m"))
local macro_rules | `(tactic| walk_at "x") => `(tactic| first | with_reducible assumption | with_reducible exact Ext.refl | (with_reducible refine Ext.alloc ?_ (by with_reducible assumption) _; walk_at "x") | (with_reducible refine Ext.trans ?_ (by with_reducible assumption); walk_at "x"))
local macro_rules | `(tactic| walk_at "lk") => `(tactic| first | with_reducible exact look1 | ((with_reducible apply lookS); (with_unfolding_all decide); walk_at "lk"))
local macro_rules | `(tactic| walk_at "g1") => `(tactic| (first
  | with_reducible refine StepW.go ?_
  | with_reducible refine StepG.go ?_
  | with_reducible refine w_isTup ?_
  | ((with_reducible refine w_sz ?sz ?_); (case sz => size_fits))
  | ((with_reducible refine w_len ?sz ?_); (case sz => rfl))
  | ((with_reducible refine w_obj (by walk_at "m") ?ob2 ?_); (case ob2 => walk_at "ln"))
  | (with_reducible refine w_lenL (by walk_at "m") ?_) | (with_reducible refine w_seqL (by walk_at "m") ?_) | (with_reducible refine tup_list (by walk_at "m") ?_)
  | (with_reducible refine w_isLst (by walk_at "m") ?_) | (with_reducible refine w_slL (by walk_at "m") ?_)
  | ((with_reducible refine fld_ok (by walk_at "m") ?cl (by walk_at "lk") ?_); (case cl => walk_at "cl"))
  | (with_reducible refine w_lstL (by walk_at "m") ?_) | (with_reducible refine w_dic (by walk_at "m") ?_)
  ))
local macro_rules | `(tactic| walk_at "g") => `(tactic| ((repeat walk_at "g1"); try (with_reducible conv => whnf)))
local macro_rules | `(tactic| walk_at "ln") => `(tactic| first | exact look_none (ns := ["row", "signs", "dependent", "places", "taken"]) rfl (by decide) | exact look_none (ns := ["alphabet", "due", "its_left", "signs", "parting"]) rfl (by decide) | exact look_none (ns := ["alphabet", "its_lag", "parting"]) rfl (by decide))
local macro_rules | `(tactic| walk_at "cl") => `(tactic| first | exact CF.get (by with_reducible assumption) (by decide))
section
variable {K : Bd} {M M' : DM} {Q : DQ} {A : Alph} {S : Addr → Prop} {x d p t : Addr} {row : List Str} {tk : Str → Nat} {rem : Rem}
theorem nodup_take {α : Type} {xs : List α} (nd : xs.Nodup) {i : Nat} {x : α} (h : xs[i]? = some x) : x ∉ xs.take i := by
  intro hm
  obtain ⟨j, hj, e⟩ := List.mem_iff_getElem.mp hm
  rw [List.length_take] at hj
  rw [List.getElem_take] at e
  obtain ⟨hi, e2⟩ := List.getElem?_eq_some_iff.mp h
  have := (List.getElem_inj nd).mp (e.trans e2.symm)
  omega
/-- a dict made over signs that are not twice there -/
theorem dc_keys {J : ItD} {g : TGD} {tt : TTD} {tk tv : TED} {vs : List Nat} {σ : Std} (xs : List Str) (nd : xs.Nodup) (V : Str → D → DM → Prop) (mono : ∀ s v M1 M2, V s v M1 → Ext M1 M2 → V s v M2)
    (hJ : ∀ i M', Ext M M' → i ≤ xs.length → J i M' = some (xs.map D.str)[i]?) (hz : xs.length ≤ sizeLine)
    (step : ∀ (s : Str) (M' : DM), s ∈ xs → Ext M M' → ∀ (KT : D → D → DM → Prop) (KF : DM → Prop), (∀ v M2, Ext M' M2 → V s v M2 → KT (.str s) v M2) →
      g (.str s) (wipeS σ vs) M' (fun σ2 M2 => tt σ2 M2 (qKp (fun M3 => tk σ2 M3 (fun y M4 => tv σ2 M4 (fun z M5 => KT y z M5) noX) noX) KF) noX) noX)
    (done : ∀ M' p (f : Str → D), Ext M M' → M' p = none → (∀ s ∈ xs, V s (f s) M') → Q (.ref p) (put M' p (.dK (xs.map fun s => (.inr s, f s))))) : ∃ n, dcN J g tt tk tv vs σ Q n 0 M [] := by
  refine dc_inv (xs.map .str) (fun i acc M' => Ext M M' ∧ ∃ f : Str → D, acc = (xs.take i).map (fun s => (.inr s, f s)) ∧ ∀ s ∈ xs.take i, V s (f s) M') (fun i acc M' h hi => hJ i M' h.1 (by simpa using hi)) ⟨.refl, fun _ => .non, by simp, by simp⟩ (by simpa using hz) (fun i acc M' h => ?_) (fun i d acc M' hd h KT KF kt kf => ?_) (fun acc M' p h hp => ?_)
  · obtain ⟨_, f, rfl, _⟩ := h
    rw [List.length_map, List.length_take]; exact Nat.min_le_left _ _
  · obtain ⟨e, f, rfl, hf⟩ := h
    rw [List.getElem?_map] at hd
    cases hx : xs[i]? with
    | none => rw [hx] at hd; cases hd
    | some s =>
      rw [hx] at hd; cases hd
      have hs := nodup_take nd hx
      refine step s M' (List.mem_of_getElem? hx) e _ KF fun v M2 e2 hv => kt (.str s) v (.inr s) M2 rfl ⟨e.trans e2, fun b => if b = s then v else f b, ?_, fun b hb => ?_⟩
      · rw [take_succ_get hx, List.map_append, putD_new]
        · congr 1
          · refine List.map_congr_left fun b hb => ?_
            have : b ≠ s := fun z => hs (z ▸ hb)
            simp [this]
          · simp
        · rw [List.map_map]
          intro hm
          obtain ⟨b, hb, eb⟩ := List.mem_map.mp hm
          simp only [Function.comp, Sum.inr.injEq] at eb
          exact hs (eb ▸ hb)
      · rw [take_succ_get hx] at hb
        rcases List.mem_append.mp hb with hb | hb
        · have h2 : b ≠ s := fun z => hs (z ▸ hb)
          simp only [if_neg h2]
          exact mono _ _ _ _ (hf b hb) e2
        · have h2 : b = s := by simpa using hb
          subst h2
          simp only [if_true]
          exact hv
  · obtain ⟨e, f, rfl, hf⟩ := h
    rw [List.length_map, List.take_length] at *
    exact done M' p f e hp hf
def adr : D → Addr
  | .ref a => a
  | _ => 0
def depl (s : Str) (cs : List (Str × Str)) : List Str := s :: cs.filterMap fun c => if c.1 = s then some c.2 else if c.2 = s then some c.1 else none
theorem depl_snoc (s : Str) (cs : List (Str × Str)) (c : Str × Str) : depl s (cs ++ [c]) = if c.1 = s then depl s cs ++ [c.2] else if c.2 = s then depl s cs ++ [c.1] else depl s cs := by
  unfold depl
  rw [List.filterMap_append]
  by_cases h : c.1 = s
  · simp [h]
  · by_cases h2 : c.2 = s
    · simp [h, h2]
    · simp [h, h2]
theorem depl_length (s : Str) (cs : List (Str × Str)) : (depl s cs).length ≤ cs.length + 1 := by
  unfold depl
  rw [List.length_cons]
  exact Nat.succ_le_succ (List.length_filterMap_le _ _)
theorem mem_pairs {α : Type} : ∀ {xs : List α} {a b : α}, (a, b) ∈ pairs xs → a ∈ xs ∧ b ∈ xs
  | [], _, _, h => nomatch h
  | x :: xs, a, b, h => by
    unfold pairs at h
    rcases List.mem_append.mp h with h | h
    · obtain ⟨c, hc, e⟩ := List.mem_map.mp h
      cases e
      exact ⟨List.mem_cons_self, List.mem_cons_of_mem _ hc⟩
    · obtain ⟨h1, h2⟩ := mem_pairs h
      exact ⟨List.mem_cons_of_mem _ h1, List.mem_cons_of_mem _ h2⟩
theorem pairs_sorted : ∀ {xs : List Str}, xs.Pairwise sLt → ∀ {a b : Str}, (a, b) ∈ pairs xs ↔ a ∈ xs ∧ b ∈ xs ∧ sLt a b
  | [], _, _, _ => ⟨fun h => (nomatch h), fun h => (nomatch h.1)⟩
  | x :: xs, hs, a, b => by
    obtain ⟨h1, h2⟩ := List.pairwise_cons.mp hs
    unfold pairs
    rw [List.mem_append, pairs_sorted h2]
    constructor
    · rintro (h | ⟨ha, hb, hl⟩)
      · obtain ⟨c, hc, e⟩ := List.mem_map.mp h
        cases e
        exact ⟨List.mem_cons_self, List.mem_cons_of_mem _ hc, h1 _ hc⟩
      · exact ⟨List.mem_cons_of_mem _ ha, List.mem_cons_of_mem _ hb, hl⟩
    · rintro ⟨ha, hb, hl⟩
      rcases List.mem_cons.mp hb with e | hb2
      · subst e
        rcases List.mem_cons.mp ha with e2 | ha2
        · subst e2; exact absurd hl (slt_irrefl _)
        · exact absurd hl (slt_asymm (h1 _ ha2))
      · rcases List.mem_cons.mp ha with e2 | ha2
        · subst e2; exact .inl (List.mem_map.mpr ⟨b, hb2, rfl⟩)
        · exact .inr ⟨ha2, hb2, hl⟩
theorem mem_dcs {A : Alph} (g : GoodA A) {a b : Str} : (a, b) ∈ dcs A ↔ a ∈ A.signs ∧ b ∈ A.signs ∧ sLt a b ∧ fr A a b = false := by
  unfold dcs
  rw [List.mem_filter, pairs_sorted g.sorted]
  constructor
  · rintro ⟨⟨ha, hb, hl⟩, hf⟩
    refine ⟨ha, hb, hl, ?_⟩
    unfold fr
    rw [minS_of hl, maxS_of hl]
    simpa using hf
  · rintro ⟨ha, hb, hl, hf⟩
    refine ⟨⟨ha, hb, hl⟩, ?_⟩
    unfold fr at hf
    rw [minS_of hl, maxS_of hl] at hf
    simpa using hf
theorem mem_depl {A : Alph} (g : GoodA A) {s : Str} (hs : s ∈ A.signs) (b : Str) : b ∈ depl s (dcs A) ↔ b = s ∨ (b ∈ A.signs ∧ fr A s b = false) := by
  unfold depl
  rw [List.mem_cons, List.mem_filterMap]
  constructor
  · rintro (h | ⟨c, hc, e⟩)
    · exact .inl h
    · obtain ⟨h1, h2, h3, h4⟩ := (mem_dcs g).mp (show (c.1, c.2) ∈ dcs A from hc)
      by_cases z : c.1 = s
      · rw [if_pos z] at e; cases e
        exact .inr ⟨h2, by rw [← z]; exact h4⟩
      · rw [if_neg z] at e
        by_cases z2 : c.2 = s
        · rw [if_pos z2] at e; cases e
          exact .inr ⟨h1, by rw [fr_comm, ← z2]; exact h4⟩
        · rw [if_neg z2] at e; cases e
  · rintro (h | ⟨hb, hf⟩)
    · exact .inl h
    · by_cases e : b = s
      · exact .inl e
      · refine .inr ?_
        rcases slt_tri e with h | h
        · exact ⟨(b, s), (mem_dcs g).mpr ⟨hb, hs, h, by rw [fr_comm]; exact hf⟩, by simp [e]⟩
        · exact ⟨(s, b), (mem_dcs g).mpr ⟨hs, hb, h, hf⟩, by simp⟩
theorem dcs_length {A : Alph} (g : GoodA A) : (dcs A).length ≤ 10000 :=
  Nat.le_trans (List.length_filter_le _ _) (Nat.le_trans (pairs_length _) (Nat.mul_le_mul g.short g.short))
theorem places_length (row : List Str) (s : Str) : (places row s).length ≤ row.length := by
  unfold places
  rw [List.length_map]
  exact Nat.le_trans (List.length_filter_le _ _) (by simp)
end
end Dt

set_option Elab.async false
set_option autoImplicit false
set_option linter.all false
set_option maxRecDepth 100000
set_option maxHeartbeats 400000
namespace Dt
open PySem PySem.Spec PyProof.Rows L2 LamX RZ PySem.P
local macro_rules | `(tactic| walk_at "w1") => `(tactic| with_reducible refine StepW.go ?_)
local macro_rules | `(tactic| walk_at "w") => `(tactic| ((repeat walk_at "w1"); try (with_reducible conv => whnf)))
local macro_rules | `(tactic| walk_at "m") => `(tactic| first | with_reducible assumption | with_reducible exact put_same | (with_reducible apply Ext.get; (with_reducible assumption); walk_at "m") | (with_reducible apply Ext.get; (with_reducible apply Ext.new); (with_reducible assumption); walk_at "m"))
local macro_rules | `(tactic| walk_at "x") => `(tactic| first | with_reducible assumption | with_reducible exact Ext.refl | (with_reducible refine Ext.alloc ?_ (by with_reducible assumption) _; walk_at "x") | (with_reducible refine Ext.trans ?_ (by with_reducible assumption); walk_at "x"))
local macro_rules | `(tactic| walk_at "lk") => `(tactic| first | with_reducible exact look1 | ((with_reducible apply lookS); (with_unfolding_all decide); walk_at "lk"))
local macro_rules | `(tactic| walk_at "g1") => `(tactic| (first
  | with_reducible refine StepW.go ?_
  | with_reducible refine StepG.go ?_
  | with_reducible refine w_isTup ?_
  | ((with_reducible refine w_sz ?sz ?_); (case sz => size_fits))
  | ((with_reducible refine w_len ?sz ?_); (case sz => rfl))
  | ((with_reducible refine w_obj (by walk_at "m") ?ob2 ?_); (case ob2 => walk_at "ln"))
  | (with_reducible refine w_lenL (by walk_at "m") ?_) | (with_reducible refine w_seqL (by walk_at "m") ?_) | (with_reducible refine tup_list (by walk_at "m") ?_)
  | (with_reducible refine w_isLst (by walk_at "m") ?_) | (with_reducible refine w_slL (by walk_at "m") ?_)
  | ((with_reducible refine fld_ok (by walk_at "m") ?cl (by walk_at "lk") ?_); (case cl => walk_at "cl"))
  | (with_reducible refine w_lstL (by walk_at "m") ?_) | (with_reducible refine w_dic (by walk_at "m") ?_)
  ))
local macro_rules | `(tactic| walk_at "g") => `(tactic| ((repeat walk_at "g1"); try (with_reducible conv => whnf)))
local macro_rules | `(tactic| walk_at "ln") => `(tactic| first | exact look_none (ns := ["row", "signs", "dependent", "places", "taken"]) rfl (by decide) | exact look_none (ns := ["alphabet", "due", "its_left", "signs", "parting"]) rfl (by decide) | exact look_none (ns := ["alphabet", "its_lag", "parting"]) rfl (by decide))
local macro_rules | `(tactic| walk_at "cl") => `(tactic| first | exact CF.get (by with_reducible assumption) (by decide))
section
variable {K : Bd} {M M' : DM} {Q : DQ} {A : Alph} {S : Addr → Prop} {x d p t : Addr} {row : List Str} {tk : Str → Nat} {rem : Rem}
theorem fldS_ok {De : DEnds} {σ : Std} {f : Str} {C : Addr} {v : D} {fs fs' : List (Str × D)} {a : Addr} (cl : Cls K C ∧ NoAttr K C f) (e : M a = some (.ins C fs)) (hf : putFD f v fs = fs') (hl : fs.length < 1000) (q : De.nx σ (put M a (.ins C fs'))) :
    ∃ b C' gs, D.ref a = .ref b ∧ M b = some (.ins C' gs) ∧ Cls K C' ∧ NoAttr K C' f ∧ gs.length < 1000 ∧ De.nx σ (put M b (.ins C' (putFD f v gs))) := ⟨a, C, fs, rfl, e, cl.1, cl.2, hl, by rw [hf]; exact q⟩
theorem numD_get' {α : Type} {ds : List α} {f : α → D} {i : Nat} {d : D} (h : (numD (ds.map f))[i]? = some d) : ∃ x, ds[i]? = some x ∧ d = .pair [.int (i : Nat), f x] := by
  obtain ⟨y, hy, rfl⟩ := numD_get h
  rw [List.getElem?_map] at hy
  cases hx : ds[i]? with
  | none => rw [hx] at hy; cases hy
  | some x => rw [hx] at hy; cases hy; exact ⟨x, rfl, rfl⟩
/-- where a sign stands: the comprehension over the numbered row -/
theorem places_take {row : List Str} {i : Nat} {s b : Str} (h : row[i]? = some b) : (((row.take (i + 1)).zipIdx.filter fun p => decide (p.1 = s)).map (·.2)) = (((row.take i).zipIdx.filter fun p => decide (p.1 = s)).map (·.2)) ++ (if b = s then [i] else []) := by
  have hi := (List.getElem?_eq_some_iff.mp h).1
  rw [take_succ_get h, List.zipIdx_append, List.filter_append, List.map_append, List.length_take, Nat.min_eq_left (Nat.le_of_lt hi)]
  congr 1
  by_cases e : b = s <;> simp [e]
theorem dep_loop (g : GoodA A) {da : Str → Addr} {x d : Addr} {rw : D} {De : DEnds} (hd : M d = some (.dK (A.signs.map fun s => (.inr s, .ref (da s))))) (hda : ∀ s ∈ A.signs, M (da s) = some (.lst [.str s]))
    (q : ∀ M' u v, (∀ a o, (∀ s ∈ A.signs, a ≠ da s) → M a = some o → M' a = some o) → M' d = some (.dK (A.signs.map fun s => (.inr s, .ref (da s)))) → (∀ s ∈ A.signs, M' (da s) = some (.lst ((depl s (dcs A)).map .str))) → De.nx [some (.ref x), some (aD A), some rw, some (.ref d), u, v, none, none, none] M') :
    dFor (diSeq (dCall (sp_dependent_couples K) (dCons (dVar 1) dNil))) (gUn 2 (gConsD (gNm 4) (gConsD (gNm 5) gNilD))) (dSeq (dDrop (dBM isLst appD (dOp dgetD (dVar 3) (dVar 4)) (dCons (dVar 5) dNil))) (dDrop (dBM isLst appD (dOp dgetD (dVar 3) (dVar 5)) (dCons (dVar 4) dNil)))) De [some (.ref x), some (aD A), some rw, some (.ref d), none, none, none, none, none] M := by
  refine w_for ?_
  walk_at "w"
  refine s_dependent_couples g fun M2 e2 => ?_
  walk_at "w"
  refine for_inv ((dcs A).map Enc.d) (fun i σ' M' => (∃ u v, σ' = [some (.ref x), some (aD A), some rw, some (.ref d), u, v, none, none, none]) ∧ (∀ a o, (∀ s ∈ A.signs, a ≠ da s) → M a = some o → M' a = some o) ∧ M' d = some (.dK (A.signs.map fun s => (.inr s, .ref (da s)))) ∧ ∀ s ∈ A.signs, M' (da s) = some (.lst ((depl s ((dcs A).take i)).map .str))) (fun _ _ _ _ _ => rfl) ⟨⟨_, _, rfl⟩, fun a o _ e => e2 _ _ e, e2 _ _ hd, fun s hs => e2 _ _ (hda s hs)⟩ ?_ ?_
  · rintro i c σ' M' hc ⟨⟨u, v, rfl⟩, h1, h2, h3⟩ Kt kt
    rw [List.getElem?_map] at hc
    cases hx : (dcs A)[i]? with
    | none => rw [hx] at hc; cases hc
    | some ab =>
      rw [hx] at hc; cases hc
      obtain ⟨a, b⟩ := ab
      obtain ⟨ha, hb, hlt, hf⟩ := (mem_dcs g).mp (List.mem_of_getElem? hx)
      have hab := slt_ne hlt
      have inj : ∀ s ∈ A.signs, ∀ s' ∈ A.signs, da s = da s' → s = s' := fun s hs s' hs' e => by
        have h := h3 s hs
        rw [e, h3 s' hs'] at h
        simp [depl] at h
        exact h.1.symm
      have len : ∀ s, ((depl s ((dcs A).take i)).map D.str).length < sizeLine := fun s => by
        rw [List.length_map]
        have := depl_length s ((dcs A).take i)
        have h5 := dcs_length g
        rw [List.length_take] at this
        have : (depl s ((dcs A).take i)).length ≤ 10001 := by omega
        exact Nat.lt_of_le_of_lt this (by size_fits)
      have dne : ∀ s ∈ A.signs, d ≠ da s := fun s hs e => by
        have h := h3 s hs
        rw [← e, h2] at h; cases h
      walk_at "w"
      refine ⟨rfl, ?_⟩
      walk_at "w"
      refine dget_str h2 (valD_map _ ha) ?_
      walk_at "w"
      refine ⟨⟨_, _, rfl, h3 a ha⟩, ?_⟩
      walk_at "w"
      refine w_app (h3 a ha) (len a) ?_
      walk_at "w"
      refine dget_str (by rw [put_ne (dne a ha)]; exact h2) (valD_map _ hb) ?_
      walk_at "w"
      have hb3 : put M' (da a) (.lst ((depl a ((dcs A).take i)).map D.str ++ [D.str b])) (da b) = some (.lst ((depl b ((dcs A).take i)).map .str)) := by
        rw [put_ne (fun e => hab (inj _ hb _ ha e).symm)]; exact h3 b hb
      refine ⟨⟨_, _, rfl, hb3⟩, ?_⟩
      walk_at "w"
      refine w_app hb3 (len b) ?_
      walk_at "w"
      refine kt _ _ ⟨⟨_, _, rfl⟩, fun z o hz e => ?_, ?_, fun s hs => ?_⟩
      · rw [put_ne (hz b hb), put_ne (hz a ha)]; exact h1 z o hz e
      · rw [put_ne (dne b hb), put_ne (dne a ha)]; exact h2
      · rw [take_succ_get hx, depl_snoc]
        by_cases ea : a = s
        · subst ea
          rw [if_pos rfl, put_ne (fun e => hab (inj _ ha _ hb e)), put_same]
          simp
          rfl
        · rw [if_neg ea]
          by_cases eb : b = s
          · subst eb
            rw [if_pos rfl, put_same]
            simp
            rfl
          · rw [if_neg eb, put_ne (fun e => eb (inj _ hs _ hb e).symm), put_ne (fun e => ea (inj _ hs _ ha e).symm)]
            exact h3 s hs
  · rintro σ' M' ⟨⟨u, v, rfl⟩, h1, h2, h3⟩
    rw [List.length_map, List.take_length] at h3
    exact q _ _ _ h1 h2 h3
theorem s_Left_init (F : LF K) (g : GoodA A) (hl : row.length ≤ 10000) (hx : M x = some (.ins (He.ga K.K "Left") []))
    (q : ∀ M' t S, (∀ a, S a → (a = x ∨ M a = none) ∧ M' a ≠ none) → M t = none → (∀ a o, a ≠ x → M a = some o → M' a = some o) → LeftAt K S M' x t A row row.zipIdx → Q .non M') : sp_Left___init__ K [.ref x, aD A, Enc.d row] M Q noX := by
  have hz : A.signs.length ≤ sizeLine := Nat.le_trans g.short (by size_fits)
  refine go_Left___init__ ?_
  delta t_Left___init__
  walk_at "w"
  refine w_fldS ?_
  walk_at "w"
  refine fldS_ok F.row hx (fs' := [("row", Enc.d row)]) rfl (by decide) ?_
  walk_at "w"
  refine w_fldS ?_
  walk_at "w"
  refine ix_tup (n := 0) rfl ?_
  walk_at "w"
  refine fldS_ok F.signs put_same (fs' := [("row", Enc.d row), ("signs", .tup (A.signs.map .str))]) rfl (by show 1 < 1000; decide) ?_
  rw [put_put]
  have k1 : ∀ a o, a ≠ x → M a = some o → put M x (.ins (He.ga K.K "Left") [("row", Enc.d row), ("signs", .tup (A.signs.map .str))]) a = some o := fun a o ha e => by rw [put_ne ha]; exact e
  have k1n : ∀ a, put M x (.ins (He.ga K.K "Left") [("row", Enc.d row), ("signs", .tup (A.signs.map .str))]) a = none → M a = none ∧ a ≠ x := fun a ha => by
    by_cases e : a = x
    · subst e; rw [put_same] at ha; cases ha
    · rw [put_ne e] at ha; exact ⟨ha, e⟩
  have hx1 : put M x (.ins (He.ga K.K "Left") [("row", Enc.d row), ("signs", .tup (A.signs.map .str))]) x = some _ := put_same
  revert hx1 k1 k1n
  generalize put M x (.ins (He.ga K.K "Left") [("row", Enc.d row), ("signs", .tup (A.signs.map .str))]) = M1
  intro k1 k1n hx1
  walk_at "w"
  refine w_dc ?_
  walk_at "w"
  refine fld_ok hx1 F.signs (lookS (by decide) look1) ?_
  walk_at "w"
  refine dc_keys A.signs g.nodup (fun s v M' => ∃ a, v = .ref a ∧ M1 a = none ∧ M' a = some (.lst [.str s])) (fun s v M1 M2 ⟨a, e1, e2, e3⟩ e => ⟨a, e1, e2, e _ _ e3⟩) (fun i M' _ _ => rfl) hz ?_ ?_
  · intro s M2 hs e2 KT KF kt
    walk_at "w"
    refine w_yes ?_
    walk_at "w"
    refine w_lst ?_
    walk_at "w"
    refine ⟨by size_fits, fun p hp => ?_⟩
    refine kt _ _ (Ext.new hp _) ⟨p, rfl, ?_, put_same⟩
    cases z : M1 p with
    | none => rfl
    | some o => rw [e2 _ _ z] at hp; cases hp
  · intro M2 d f e2 hd hf
    walk_at "w"
    have hf1 : ∀ s ∈ A.signs, f s = .ref (adr (f s)) ∧ M1 (adr (f s)) = none ∧ M2 (adr (f s)) = some (.lst [.str s]) := fun s hs => by
      obtain ⟨a, e, h1, h2⟩ := hf s hs
      rw [e]; exact ⟨rfl, h1, h2⟩
    have hmap : (A.signs.map fun s => ((.inr s : Key), f s)) = A.signs.map fun s => ((.inr s : Key), D.ref (adr (f s))) := List.map_congr_left fun s hs => by rw [← (hf1 s hs).1]
    rw [hmap]
    have hda : ∀ s ∈ A.signs, M1 (adr (f s)) = none ∧ M2 (adr (f s)) = some (.lst [.str s]) := fun s hs => (hf1 s hs).2
    clear hf1 hmap hf
    refine dep_loop (M := put M2 d (.dK (A.signs.map fun s => ((.inr s : Key), D.ref (adr (f s)))))) (da := fun s => adr (f s)) g put_same (fun s hs => by rw [put_ne (ne_of_new (hda s hs).2 hd)]; exact (hda s hs).2) fun M3 u v h1 h2 h3 => ?_
    have k3 : ∀ a o, M1 a = some o → M3 a = some o := fun a o e => h1 a o (fun s hs z => by rw [z, (hda s hs).1] at e; cases e) (by rw [put_ne (ne_of_new (e2 _ _ e) hd)]; exact e2 _ _ e)
    have hd1 : M1 d = none := by
      cases z : M1 d with
      | none => rfl
      | some o => rw [e2 _ _ z] at hd; cases hd
    walk_at "w"
    refine w_fldS ?_
    walk_at "w"
    refine fldS_ok F.dependent (k3 _ _ hx1) (fs' := [("row", Enc.d row), ("signs", .tup (A.signs.map .str)), ("dependent", .ref d)]) rfl (by show 2 < 1000; decide) ?_
    have hx4 := put_same (M := M3) (a := x) (o := .ins (He.ga K.K "Left") [("row", Enc.d row), ("signs", .tup (A.signs.map .str)), ("dependent", .ref d)])
    have k4 : ∀ a o, a ≠ x → M3 a = some o → put M3 x (.ins (He.ga K.K "Left") [("row", Enc.d row), ("signs", .tup (A.signs.map .str)), ("dependent", .ref d)]) a = some o := fun a o ha e => by rw [put_ne ha]; exact e
    revert hx4 k4
    generalize put M3 x (.ins (He.ga K.K "Left") [("row", Enc.d row), ("signs", .tup (A.signs.map .str)), ("dependent", .ref d)]) = M4
    intro hx4 k4
    have hdx : d ≠ x := fun z => by rw [z, hx1] at hd1; cases hd1
    have hdax : ∀ s ∈ A.signs, adr (f s) ≠ x := fun s hs z => by
      have := (hda s hs).1
      rw [z, hx1] at this; cases this
    walk_at "w"
    refine w_fldS ?_
    walk_at "w"
    refine w_dc ?_
    walk_at "w"
    refine fld_ok hx4 F.signs (lookS (by decide) look1) ?_
    walk_at "w"
    refine dc_keys A.signs g.nodup (fun s v M' => ∃ a, v = .ref a ∧ M4 a = none ∧ M' a = some (.lst ((places row s).map fun n : Nat => D.int (n : Int)))) (fun s v M1 M2 ⟨a, e1, e2, e3⟩ e => ⟨a, e1, e2, e _ _ e3⟩) (fun i M' _ _ => rfl) hz ?_ ?_
    · intro s M5 hs e5 KT KF kt
      walk_at "w"
      refine w_yes ?_
      walk_at "w"
      refine w_lc ?_
      walk_at "w"
      have hzl : ∀ i, ((((row.take i).zipIdx.filter fun p => decide (p.1 = s)).map (·.2)).map fun n : Nat => D.int (n : Int)).length ≤ i := fun i => by
        rw [List.length_map, List.length_map]
        refine Nat.le_trans (List.length_filter_le _ _) ?_
        rw [List.length_zipIdx, List.length_take]
        exact Nat.min_le_left _ _
      refine lc_inv (numD (row.map .str)) (fun i acc M' => Ext M5 M' ∧ acc = (((row.take i).zipIdx.filter fun p => decide (p.1 = s)).map (·.2)).map fun n : Nat => D.int (n : Int)) (fun i acc M' _ _ => itE_at rfl) ⟨.refl, rfl⟩ (by rw [numD_length, List.length_map]; exact Nat.le_trans hl (by size_fits)) (fun i acc M' h => by rw [h.2]; exact hzl i) ?_ ?_
      · rintro i c acc M6 hc ⟨e6, rfl⟩ KT2 KF2 kt2 kf2
        obtain ⟨b, hb, rfl⟩ := numD_get' hc
        walk_at "w"
        refine ⟨rfl, ?_⟩
        walk_at "w"
        refine eq_str ?_
        walk_at "w"
        cases hbs : decide (b = s)
        · walk_at "w"
          exact kf2 _ ⟨e6, by rw [places_take hb, if_neg (of_decide_eq_false hbs), List.append_nil]⟩
        · walk_at "w"
          exact kt2 _ _ ⟨e6, by rw [places_take hb, if_pos (of_decide_eq_true hbs), List.map_append]; rfl⟩
      · rintro acc M6 p6 ⟨e6, rfl⟩ hp6
        refine kt _ _ (e6.alloc hp6 _) ⟨p6, rfl, ?_, ?_⟩
        · cases z : M4 p6 with
          | none => rfl
          | some o => rw [e6 _ _ (e5 _ _ z)] at hp6; cases hp6
        · rw [put_same, numD_length, List.length_map, List.take_length]; rfl
    · intro M5 p fp e5 hp hfp
      have hf1 : ∀ s ∈ A.signs, fp s = .ref (adr (fp s)) ∧ M4 (adr (fp s)) = none ∧ M5 (adr (fp s)) = some (.lst ((places row s).map fun n : Nat => D.int (n : Int))) := fun s hs => by
        obtain ⟨a, e, h1, h2⟩ := hfp s hs
        rw [e]; exact ⟨rfl, h1, h2⟩
      have hmap : (A.signs.map fun s => ((.inr s : Key), fp s)) = A.signs.map fun s => ((.inr s : Key), D.ref (adr (fp s))) := List.map_congr_left fun s hs => by rw [← (hf1 s hs).1]
      rw [hmap]
      have hpa : ∀ s ∈ A.signs, M4 (adr (fp s)) = none ∧ M5 (adr (fp s)) = some (.lst ((places row s).map fun n : Nat => D.int (n : Int))) := fun s hs => (hf1 s hs).2
      clear hf1 hmap hfp
      walk_at "w"
      have e6 : Ext M4 (put M5 p (.dK (A.signs.map fun s => ((.inr s : Key), D.ref (adr (fp s)))))) := e5.alloc hp _
      refine fldS_ok F.places (e6 _ _ hx4) (fs' := [("row", Enc.d row), ("signs", .tup (A.signs.map .str)), ("dependent", .ref d), ("places", .ref p)]) rfl (by show 3 < 1000; decide) ?_
      have hpx : p ≠ x := fun z => by rw [z, e5 _ _ hx4] at hp; cases hp
      have hp4 : M4 p = none := by
        cases z : M4 p with
        | none => rfl
        | some o => rw [e5 _ _ z] at hp; cases hp
      have hx7 := put_same (M := put M5 p (.dK (A.signs.map fun s => ((.inr s : Key), D.ref (adr (fp s)))))) (a := x) (o := .ins (He.ga K.K "Left") [("row", Enc.d row), ("signs", .tup (A.signs.map .str)), ("dependent", .ref d), ("places", .ref p)])
      have k7 : ∀ a o, a ≠ x → put M5 p (.dK (A.signs.map fun s => ((.inr s : Key), D.ref (adr (fp s))))) a = some o → put (put M5 p (.dK (A.signs.map fun s => ((.inr s : Key), D.ref (adr (fp s)))))) x (.ins (He.ga K.K "Left") [("row", Enc.d row), ("signs", .tup (A.signs.map .str)), ("dependent", .ref d), ("places", .ref p)]) a = some o := fun a o ha e => by rw [put_ne ha]; exact e
      revert hx7 k7
      generalize put (put M5 p (.dK (A.signs.map fun s => ((.inr s : Key), D.ref (adr (fp s)))))) x (.ins (He.ga K.K "Left") [("row", Enc.d row), ("signs", .tup (A.signs.map .str)), ("dependent", .ref d), ("places", .ref p)]) = M7
      intro hx7 k7
      walk_at "w"
      refine w_fldS ?_
      walk_at "w"
      refine w_dc ?_
      walk_at "w"
      refine fld_ok hx7 F.signs (lookS (by decide) look1) ?_
      walk_at "w"
      refine dc_keys A.signs g.nodup (fun s v M' => v = .int 0) (fun s v M1 M2 e1 e => e1) (fun i M' _ _ => rfl) hz ?_ ?_
      · intro s M8 hs e8 KT KF kt
        walk_at "w"
        refine w_yes ?_
        walk_at "w"
        exact kt _ _ .refl rfl
      · intro M8 t ft e8 ht hft
        have hmap : (A.signs.map fun s => ((.inr s : Key), ft s)) = A.signs.map fun s => ((.inr s : Key), D.int ((fun _ => 0 : Str → Nat) s : Nat)) := List.map_congr_left fun s hs => by rw [hft s hs]; rfl
        rw [hmap]
        walk_at "w"
        have e9 := e8.alloc ht (tkO A fun _ => 0)
        refine fldS_ok F.taken (e9 _ _ hx7) (fs' := [("row", Enc.d row), ("signs", .tup (A.signs.map .str)), ("dependent", .ref d), ("places", .ref p), ("taken", .ref t)]) rfl (by show 4 < 1000; decide) ?_
        walk_at "w"
        have htx : t ≠ x := fun z => by rw [z, e8 _ _ hx7] at ht; cases ht
        have kk : ∀ a o, a ≠ x → M7 a = some o → put (put M8 t (tkO A fun _ => 0)) x (leftO K A row d p t) a = some o := fun a o ha e => by rw [put_ne ha]; exact e9 _ _ e
        have k34 : ∀ a o, a ≠ x → M4 a = some o → put (put M8 t (tkO A fun _ => 0)) x (leftO K A row d p t) a = some o := fun a o ha e => kk a o ha (k7 a o ha (e6 _ _ e))
        have all : ∀ a o, a ≠ x → M a = some o → put (put M8 t (tkO A fun _ => 0)) x (leftO K A row d p t) a = some o := fun a o ha e => k34 a o ha (k4 a o ha (k3 a o (k1 a o ha e)))
        have new : ∀ a, a ≠ x → (M4 a = none ∨ M1 a = none) → M a = none := fun a ha h => by
          cases z : M a with
          | none => rfl
          | some o =>
            have h1 := k1 a o ha z
            rcases h with h | h
            · rw [k4 a o ha (k3 a o h1)] at h; cases h
            · rw [h1] at h; cases h
        have ht7 : M7 t = none := by
          cases z : M7 t with
          | none => rfl
          | some o => rw [e8 _ _ z] at ht; cases ht
        have old7 : ∀ a o, a ≠ x → M3 a = some o → M7 a = some o := fun a o ha e => k7 a o ha (e6 _ _ (k4 a o ha e))
        have tne : ∀ a, M7 a ≠ none → a ≠ t := fun a h z => h (by rw [z]; exact ht7)
        have h3d : M3 d = some (.dK (A.signs.map fun s => ((.inr s : Key), D.ref (adr (f s))))) := h2
        have hp7 : M7 p = some (.dK (A.signs.map fun s => ((.inr s : Key), D.ref (adr (fp s))))) := k7 p _ hpx put_same
        have hpax : ∀ s ∈ A.signs, adr (fp s) ≠ x := fun s hs z => by
          have := (hpa s hs).1
          rw [z, hx4] at this; cases this
        have hpa7 : ∀ s ∈ A.signs, M7 (adr (fp s)) = some (.lst ((places row s).map fun n : Nat => D.int (n : Int))) := fun s hs => k7 _ _ (hpax s hs) (by rw [put_ne (ne_of_new (hpa s hs).2 hp)]; exact (hpa s hs).2)
        have sm : ∀ a o, put (put M8 t (tkO A fun _ => 0)) x (leftO K A row d p t) a = some o → put (put M8 t (tkO A fun _ => 0)) x (leftO K A row d p t) a ≠ none := fun a o e z => by rw [e] at z; cases z
        have fd := kk d _ hdx (old7 d _ hdx h3d)
        have fda := fun s hs => kk _ _ (hdax s hs) (old7 _ _ (hdax s hs) (h3 s hs))
        have fp' := kk p _ hpx hp7
        have fpa := fun s hs => kk _ _ (hpax s hs) (hpa7 s hs)
        refine q _ t (fun a => (a = x ∨ M a = none) ∧ a ≠ t ∧ put (put M8 t (tkO A fun _ => 0)) x (leftO K A row d p t) a ≠ none) (fun a h => ⟨h.1, h.2.2⟩) ?_ all ⟨⟨d, p, fun _ => 0, put_same, ⟨⟨.inr (new d hdx (.inr hd1)), tne d (by rw [old7 d _ hdx h3d]; exact fun z => nomatch z), sm _ _ fd⟩, ⟨.inr (new p hpx (.inl hp4)), tne p (by rw [hp7]; exact fun z => nomatch z), sm _ _ fp'⟩, ⟨fun s => adr (f s), fd, fun s hs => ⟨⟨.inr (new _ (hdax s hs) (.inr (hda s hs).1)), tne (adr (f s)) (by rw [old7 _ _ (hdax s hs) (h3 s hs)]; exact fun z => nomatch z), sm _ _ (fda s hs)⟩, depl s (dcs A), fda s hs, ?_, mem_depl g hs⟩⟩, ⟨fun s => adr (fp s), fp', fun s hs => ⟨⟨.inr (new _ (hpax s hs) (.inl (hpa s hs).1)), tne (adr (fp s)) (by rw [hpa7 s hs]; exact fun z => nomatch z), sm _ _ (fpa s hs)⟩, fpa s hs⟩⟩⟩, by rw [put_ne htx, put_same]; rfl, Took.start A row⟩, ⟨.inl rfl, fun z => htx z.symm, sm _ _ put_same⟩, fun z => z.2.1 rfl⟩
        · refine new t htx (.inl ?_)
          cases z : M4 t with
          | none => rfl
          | some o => rw [k7 t o htx (e6 _ _ z)] at ht7; cases ht7
        · exact Nat.le_trans (depl_length _ _) (Nat.le_trans (Nat.succ_le_succ (dcs_length g)) (by size_fits))
end
end Dt

set_option Elab.async false
set_option autoImplicit false
set_option linter.all false
set_option maxRecDepth 100000
set_option maxHeartbeats 400000
namespace Dt
open PySem PySem.Spec PyProof.Rows L2 LamX RZ PySem.P
local macro_rules | `(tactic| walk_at "w1") => `(tactic| with_reducible refine StepW.go ?_)
local macro_rules | `(tactic| walk_at "w") => `(tactic| ((repeat walk_at "w1"); try (with_reducible conv => whnf)))
local macro_rules | `(tactic| walk_at "m") => `(tactic| first | with_reducible assumption | with_reducible exact put_same | (with_reducible apply Ext.get; (with_reducible assumption); walk_at "m") | (with_reducible apply Ext.get; (with_reducible apply Ext.new); (with_reducible assumption); walk_at "m"))
local macro_rules | `(tactic| walk_at "x") => `(tactic| first | with_reducible assumption | with_reducible exact Ext.refl | (with_reducible refine Ext.alloc ?_ (by with_reducible assumption) _; walk_at "x") | (with_reducible refine Ext.trans ?_ (by with_reducible assumption); walk_at "x"))
local macro_rules | `(tactic| walk_at "lk") => `(tactic| first | with_reducible exact look1 | ((with_reducible apply lookS); (with_unfolding_all decide); walk_at "lk"))
local macro_rules | `(tactic| walk_at "g1") => `(tactic| (first
  | with_reducible refine StepW.go ?_
  | with_reducible refine StepG.go ?_
  | with_reducible refine w_isTup ?_
  | ((with_reducible refine w_sz ?sz ?_); (case sz => size_fits))
  | ((with_reducible refine w_len ?sz ?_); (case sz => rfl))
  | ((with_reducible refine w_obj (by walk_at "m") ?ob2 ?_); (case ob2 => walk_at "ln"))
  | (with_reducible refine w_lenL (by walk_at "m") ?_) | (with_reducible refine w_seqL (by walk_at "m") ?_) | (with_reducible refine tup_list (by walk_at "m") ?_)
  | (with_reducible refine w_isLst (by walk_at "m") ?_) | (with_reducible refine w_slL (by walk_at "m") ?_)
  | ((with_reducible refine fld_ok (by walk_at "m") ?cl (by walk_at "lk") ?_); (case cl => walk_at "cl"))
  | (with_reducible refine w_lstL (by walk_at "m") ?_) | (with_reducible refine w_dic (by walk_at "m") ?_)
  ))
local macro_rules | `(tactic| walk_at "g") => `(tactic| ((repeat walk_at "g1"); try (with_reducible conv => whnf)))
local macro_rules | `(tactic| walk_at "ln") => `(tactic| first | exact look_none (ns := ["row", "signs", "dependent", "places", "taken"]) rfl (by decide) | exact look_none (ns := ["alphabet", "due", "its_left", "signs", "parting"]) rfl (by decide) | exact look_none (ns := ["alphabet", "its_lag", "parting"]) rfl (by decide))
local macro_rules | `(tactic| walk_at "cl") => `(tactic| first | exact CF.get (by with_reducible assumption) (by decide))
section
variable {K : Bd} {M M' : DM} {Q : DQ} {A : Alph} {S : Addr → Prop} {x d p t : Addr} {row : List Str} {tk : Str → Nat} {rem : Rem}
/-! ### what is left, as a row -/
theorem places_mem {row : List Str} {s : Str} {n : Nat} : n ∈ places row s ↔ row[n]? = some s := by
  unfold places
  rw [List.mem_map]
  constructor
  · rintro ⟨⟨a, k⟩, h, rfl⟩
    obtain ⟨h1, h2⟩ := List.mem_filter.mp h
    have := List.mem_zipIdx_iff_getElem?.mp h1
    simp only [decide_eq_true_eq] at h2
    subst h2
    exact this
  · intro h
    exact ⟨(s, n), List.mem_filter.mpr ⟨List.mem_zipIdx_iff_getElem?.mpr h, by simp⟩, rfl⟩
theorem places_sorted (row : List Str) (s : Str) : (places row s).Pairwise (· < ·) := by
  unfold places
  exact List.Pairwise.map _ (fun a b h => h) ((zip_sorted row 0).sublist List.filter_sublist)
/-- a number of a place is gone, or its sign is left -/
theorem Took.left_iff (T : Took A row tk rem) {s : Str} {n : Nat} (h : row[n]? = some s) : (s, n) ∈ rem ↔ n ∉ (places row s).take (tk s) := by
  have e := T.at_ s
  have hm : (s, n) ∈ rem ↔ n ∈ (places row s).drop (tk s) := by
    rw [← e, List.mem_map]
    constructor
    · intro z; exact ⟨(s, n), List.mem_filter.mpr ⟨z, by simp⟩, rfl⟩
    · rintro ⟨⟨a, k⟩, z, rfl⟩
      obtain ⟨z1, z2⟩ := List.mem_filter.mp z
      simp only [decide_eq_true_eq] at z2
      subst z2; exact z1
  rw [hm]
  have hn : n ∈ places row s := places_mem.mpr h
  have nd : (places row s).Nodup := (places_sorted row s).imp (fun h => Nat.ne_of_lt h)
  rw [← List.take_append_drop (tk s) (places row s)] at hn nd
  obtain ⟨_, _, dj⟩ := List.nodup_append.mp nd
  rcases List.mem_append.mp hn with z | z
  · exact ⟨fun z2 => absurd rfl (dj _ z _ z2), fun z2 => absurd z z2⟩
  · exact ⟨fun _ z2 => absurd rfl (dj _ z2 _ z), fun _ => z⟩
theorem sub_filter {α : Type} [DecidableEq α] : ∀ {xs ys : List α}, ys.Nodup → xs.Sublist ys → ys.filter (fun y => decide (y ∈ xs)) = xs
  | xs, [], _, h => by cases h; rfl
  | xs, y :: ys, nd, h => by
    obtain ⟨h1, h2⟩ := List.nodup_cons.mp nd
    cases h with
    | cons _ h =>
      have : y ∉ xs := fun z => h1 (h.subset z)
      rw [List.filter_cons_of_neg (by simpa using this)]
      exact sub_filter h2 h
    | @cons_cons zs _ _ h =>
      rw [List.filter_cons_of_pos (by simp)]
      congr 1
      refine Eq.trans (List.filter_congr fun z hz => ?_) (sub_filter h2 h)
      have : z ≠ y := fun e => h1 (e ▸ hz)
      simp [this]
theorem Took.left (T : Took A row tk rem) : ((row.zipIdx.filter fun p => !decide (p.2 ∈ (places row p.1).take (tk p.1))).map (·.1)) = rem.map (·.1) := by
  have nd : row.zipIdx.Nodup := (zip_sorted row 0).imp fun h e => by rw [e] at h; exact absurd h (Nat.lt_irrefl _)
  have e2 : (row.zipIdx.filter fun p => !decide (p.2 ∈ (places row p.1).take (tk p.1))) = rem := by
    refine Eq.trans (List.filter_congr fun p hp => ?_) (sub_filter nd T.sub)
    obtain ⟨s, n⟩ := p
    have := T.left_iff (List.mem_zipIdx_iff_getElem?.mp hp)
    rw [Bool.eq_iff_iff]
    simp only [Bool.not_eq_true', decide_eq_false_iff_not, decide_eq_true_eq]
    exact this.symm
  rw [e2]
theorem valD_isSome {κ : Type} [DecidableEq κ] (kvs : List (κ × D)) (k : κ) : (valD kvs k).isSome = true ↔ k ∈ kvs.map (·.1) := by
  unfold valD
  rw [Option.isSome_map, List.find?_isSome, List.mem_map]
  constructor
  · rintro ⟨x, hx, e⟩; exact ⟨x, hx, by simpa using e⟩
  · rintro ⟨x, hx, e⟩; exact ⟨x, hx, by simpa using e⟩
theorem putD_keys {κ : Type} [DecidableEq κ] (kvs : List (κ × D)) (k : κ) (v : D) (j : κ) : j ∈ (putD kvs k v).map (·.1) ↔ j = k ∨ j ∈ kvs.map (·.1) := by
  unfold putD
  cases h : kvs.any fun kv => decide (kv.1 = k) with
  | true =>
    simp only [List.map_map]
    have e : (fun x : κ × D => x.1) ∘ (fun kv : κ × D => if kv.1 = k then (kv.1, v) else kv) = fun x => x.1 := by
      funext x; simp only [Function.comp]; split <;> rfl
    rw [e]
    constructor
    · exact .inr
    · rintro (rfl | h2)
      · obtain ⟨x, hx, e⟩ := List.any_eq_true.mp h
        exact List.mem_map.mpr ⟨x, hx, by simpa using e⟩
      · exact h2
  | false => simp [or_comm]
theorem putD_length {κ : Type} [DecidableEq κ] (kvs : List (κ × D)) (k : κ) (v : D) : (putD kvs k v).length ≤ kvs.length + 1 := by
  unfold putD
  split <;> simp
theorem din_ok {neg : Bool} {a : Addr} {kvs : List (Key × D)} {n : Int} {b : Bool} (e : M a = some (.dK kvs)) (hb : b = true ↔ (.inl n : Key) ∈ kvs.map (·.1)) (q : Q (.bl (if neg then !b else b)) M) : dinD neg (.int n) (.ref a) M Q := by
  refine ⟨a, _, rfl, .k e rfl, ?_⟩
  have : (valD kvs (.inl n)).isSome = b := by rw [Bool.eq_iff_iff, valD_isSome, hb]
  rw [this]; exact q
theorem numD_map {α : Type} (xs : List α) (f : α → D) : numD (xs.map f) = xs.zipIdx.map fun p => D.pair [.int (p.2 : Nat), f p.1] := by
  unfold numD
  rw [List.zipIdx_map, List.map_map]; rfl
theorem s_left (F : LF K) (g : GoodA A) (h : LeftAt K S M x t A row rem) (hl : row.length ≤ 10000) (hr : ∀ s ∈ row, s ∈ A.signs) (q : ∀ M', Ext M M' → Q (Enc.d (rem.map (·.1))) M') : sp_Left_left K [.ref x] M Q noX := by
  have hz : A.signs.length ≤ sizeLine := Nat.le_trans g.short (by size_fits)
  obtain ⟨⟨d, p, tk, e, f, et, T⟩, sx, nt⟩ := h
  have e' : M x = some (.ins _ _) := e
  obtain ⟨pa, ep, hpa⟩ := f.pla
  have htl : ∀ s n, ((places row s).take n).length ≤ 10000 := fun s n => by
    rw [List.length_take]
    exact Nat.le_trans (Nat.min_le_right _ _) (Nat.le_trans (places_length row s) hl)
  refine go_Left_left ?_
  delta t_Left_left
  walk_at "w"
  refine w_dc2 ?_
  walk_at "w"
  refine fld_ok e' F.signs (lookS (by decide) look1) ?_
  walk_at "w"
  refine dc2_inv (A.signs.map .str) (fun i acc M' => Ext M M' ∧ (∀ k, k ∈ acc.map (·.1) ↔ ∃ s ∈ A.signs.take i, ∃ n ∈ (places row s).take (tk s), k = .inl (n : Int)) ∧ acc.length ≤ i * 10000) (fun i acc M' _ _ => rfl) ⟨.refl, by simp, by simp⟩ ?_ ?_
  · rintro i c acc M2 hc ⟨e2, hk, hlen⟩ C cC
    rw [List.getElem?_map] at hc
    cases hx : A.signs[i]? with
    | none => rw [hx] at hc; cases hc
    | some s =>
      rw [hx] at hc; cases hc
      have hs := List.mem_of_getElem? hx
      have hi := (List.getElem?_eq_some_iff.mp hx).1
      have hsh := g.short
      walk_at "w"
      refine w_yes ?_
      walk_at "w"
      refine fld_ok (e2 _ _ e') F.places (lookS (by decide) (lookS (by decide) (lookS (by decide) look1))) ?_
      walk_at "w"
      refine dget_str (e2 _ _ ep) (valD_map _ hs) ?_
      walk_at "w"
      refine fld_ok (e2 _ _ e') F.taken (lookS (by decide) (lookS (by decide) (lookS (by decide) (lookS (by decide) look1)))) ?_
      walk_at "w"
      refine dget_str (e2 _ _ et) (valD_map _ hs) ?_
      walk_at "w"
      refine w_slL (e2 _ _ (hpa s hs).2) fun l hl2 => ?_
      rw [cut_to, ← List.map_take]
      walk_at "w"
      refine ⟨⟨_, put_same⟩, ?_⟩
      have e3 := e2.alloc hl2 (.lst (((places row s).take (tk s)).map fun n : Nat => D.int (n : Int)))
      refine dc2In_inv (((places row s).take (tk s)).map fun n : Nat => D.int (n : Int)) (fun j acc' M' => Ext (put M2 l (.lst (((places row s).take (tk s)).map fun n : Nat => D.int (n : Int)))) M' ∧ (∀ k, k ∈ acc'.map (·.1) ↔ (∃ n ∈ ((places row s).take (tk s)).take j, k = .inl (n : Int)) ∨ k ∈ acc.map (·.1)) ∧ acc'.length ≤ i * 10000 + j) (fun j acc' M' h _ => itL_is (h.1 _ _ put_same) j) ⟨.refl, by simp, hlen⟩ ?_ ?_ ?_
      · rintro j acc' M' ⟨_, _, h3⟩ hj
        rw [List.length_map] at hj
        have := htl s (tk s)
        have : acc'.length ≤ 2000000 := by omega
        exact Nat.lt_of_le_of_lt this (by size_fits)
      · rintro j c acc' M' hc ⟨e4, hk4, hlen4⟩ KT KF kt kf
        rw [List.getElem?_map] at hc
        cases hn : ((places row s).take (tk s))[j]? with
        | none => rw [hn] at hc; cases hc
        | some n =>
          rw [hn] at hc; cases hc
          walk_at "w"
          refine w_yes ?_
          walk_at "w"
          refine kt _ _ (.inl (n : Int)) _ rfl ⟨e4, fun k => ?_, ?_⟩
          · rw [putD_keys, hk4, take_succ_get hn]
            constructor
            · rintro (h | ⟨m, hm, rfl⟩ | h)
              · exact .inl ⟨n, by simp, h⟩
              · exact .inl ⟨m, List.mem_append_left _ hm, rfl⟩
              · exact .inr h
            · rintro (⟨m, hm, rfl⟩ | h)
              · rcases List.mem_append.mp hm with z | z
                · exact .inr (.inl ⟨m, z, rfl⟩)
                · have : m = n := by simpa using z
                  rw [this]; exact .inl rfl
              · exact .inr (.inr h)
          · have := putD_length acc' (.inl (n : Int) : Key) (.bl true)
            omega
      · rintro acc' M' ⟨e4, hk4, hlen4⟩
        rw [List.length_map] at hk4 hlen4
        refine cC _ _ ⟨e3.trans e4, fun k => ?_, ?_⟩
        · rw [hk4, List.take_length, hk, take_succ_get hx]
          constructor
          · rintro (⟨n, hn, rfl⟩ | ⟨s', hs', r⟩)
            · exact ⟨s, by simp, n, hn, rfl⟩
            · exact ⟨s', List.mem_append_left _ hs', r⟩
          · rintro ⟨s', hs', r⟩
            rcases List.mem_append.mp hs' with z | z
            · exact .inr ⟨s', z, r⟩
            · have : s' = s := by simpa using z
              subst this; exact .inl r
        · have := htl s (tk s)
          omega
  · rintro acc M2 go ⟨e2, hk, hlen⟩ hgo
    rw [List.length_map, List.take_length] at hk
    have e3 := e2.alloc hgo (.dK acc)
    walk_at "w"
    refine w_lc ?_
    walk_at "w"
    refine fld_ok (e3 _ _ e') F.row look1 ?_
    walk_at "w"
    refine lc_pure row.zipIdx (fun p => D.pair [.int (p.2 : Nat), .str p.1]) (fun p => !decide (p.2 ∈ (places row p.1).take (tk p.1))) (fun p => .str p.1) (fun i M' _ _ => by rw [← numD_map]; exact itE_at rfl) (by rw [List.length_zipIdx]; exact Nat.le_trans hl (by size_fits)) ?_ ?_
    · rintro i ⟨s, n⟩ M3 hn e4 KT KF kt kf
      have hns : row[n]? = some s := List.mem_zipIdx_iff_getElem?.mp (List.mem_of_getElem? hn)
      walk_at "w"
      refine ⟨rfl, ?_⟩
      walk_at "w"
      refine din_ok (b := decide (n ∈ (places row s).take (tk s))) (e4 _ _ put_same) ?_ ?_
      · rw [decide_eq_true_eq, hk]
        constructor
        · intro z
          exact ⟨s, hr s (List.mem_of_getElem? hns), n, z, rfl⟩
        · rintro ⟨s', _, m, hm, z⟩
          have : n = m := by have := Sum.inl.inj z; omega
          subst this
          have h2 := places_mem.mp (List.mem_of_mem_take hm)
          rw [hns] at h2
          cases h2
          exact hm
      · walk_at "w"
        cases hc : !decide (n ∈ (places row s).take (tk s))
        · simp only [if_true, hc]
          walk_at "w"
          exact kf hc _ e4
        · simp only [if_true, hc]
          walk_at "w"
          exact kt hc _ e4
    · intro M3 l e4 hl3
      walk_at "w"
      refine tup_list put_same ?_
      have e5 : ((row.zipIdx.filter fun p => !decide (p.2 ∈ (places row p.1).take (tk p.1))).map fun p => D.str p.1) = (rem.map (·.1)).map D.str := by
        rw [← T.left, List.map_map]; rfl
      rw [e5]
      exact q _ (e3.trans (e4.alloc hl3 _))
end
end Dt

set_option Elab.async false
set_option autoImplicit false
set_option linter.all false
set_option maxRecDepth 100000
set_option maxHeartbeats 400000
namespace Dt
open PySem PySem.Spec PyProof.Rows L2 LamX RZ PySem.P
local macro_rules | `(tactic| walk_at "w1") => `(tactic| with_reducible refine StepW.go ?_)
local macro_rules | `(tactic| walk_at "w") => `(tactic| ((repeat walk_at "w1"); try (with_reducible conv => whnf)))
local macro_rules | `(tactic| walk_at "m") => `(tactic| first | with_reducible assumption | with_reducible exact put_same | (with_reducible apply Ext.get; (with_reducible assumption); walk_at "m") | (with_reducible apply Ext.get; (with_reducible apply Ext.new); (with_reducible assumption); walk_at "m"))
local macro_rules | `(tactic| walk_at "x") => `(tactic| first | with_reducible assumption | with_reducible exact Ext.refl | (with_reducible refine Ext.alloc ?_ (by with_reducible assumption) _; walk_at "x") | (with_reducible refine Ext.trans ?_ (by with_reducible assumption); walk_at "x"))
local macro_rules | `(tactic| walk_at "lk") => `(tactic| first | with_reducible exact look1 | ((with_reducible apply lookS); (with_unfolding_all decide); walk_at "lk"))
local macro_rules | `(tactic| walk_at "g1") => `(tactic| (first
  | with_reducible refine StepW.go ?_
  | with_reducible refine StepG.go ?_
  | with_reducible refine w_isTup ?_
  | ((with_reducible refine w_sz ?sz ?_); (case sz => size_fits))
  | ((with_reducible refine w_len ?sz ?_); (case sz => rfl))
  | ((with_reducible refine w_obj (by walk_at "m") ?ob2 ?_); (case ob2 => walk_at "ln"))
  | (with_reducible refine w_lenL (by walk_at "m") ?_) | (with_reducible refine w_seqL (by walk_at "m") ?_) | (with_reducible refine tup_list (by walk_at "m") ?_)
  | (with_reducible refine w_isLst (by walk_at "m") ?_) | (with_reducible refine w_slL (by walk_at "m") ?_)
  | ((with_reducible refine fld_ok (by walk_at "m") ?cl (by walk_at "lk") ?_); (case cl => walk_at "cl"))
  | (with_reducible refine w_lstL (by walk_at "m") ?_) | (with_reducible refine w_dic (by walk_at "m") ?_)
  ))
local macro_rules | `(tactic| walk_at "g") => `(tactic| ((repeat walk_at "g1"); try (with_reducible conv => whnf)))
local macro_rules | `(tactic| walk_at "ln") => `(tactic| first | exact look_none (ns := ["row", "signs", "dependent", "places", "taken"]) rfl (by decide) | exact look_none (ns := ["alphabet", "due", "its_left", "signs", "parting"]) rfl (by decide) | exact look_none (ns := ["alphabet", "its_lag", "parting"]) rfl (by decide))
local macro_rules | `(tactic| walk_at "cl") => `(tactic| first | exact CF.get (by with_reducible assumption) (by decide))
section
variable {K : Bd} {M M' : DM} {Q : DQ} {A : Alph} {S : Addr → Prop} {x d p t : Addr} {row : List Str} {tk : Str → Nat} {rem : Rem}
/-- a Left that is made -/
theorem left_new {R : Addr → DM → Prop} (F : LF K) (g : GoodA A) (hl : row.length ≤ 10000)
    (q : ∀ M' x t S, Ext M M' → M t = none → (∀ a, S a → M a = none ∧ M' a ≠ none) → LeftAt K S M' x t A row row.zipIdx → R x M') :
    ∀ x, M x = none → sp_Left___init__ K [.ref x, aD A, Enc.d row] (put M x (.ins (He.ga K.K "Left") [])) (fun v M2 => v = .non ∧ R x M2) noX := by
  intro x hx
  refine s_Left_init F g hl put_same fun M' t S hS ht hk L => ⟨rfl, ?_⟩
  have n : ∀ a, put M x (.ins (He.ga K.K "Left") []) a = none → M a = none := fun a h => by
    by_cases e : a = x
    · rw [e]; exact hx
    · rw [put_ne e] at h; exact h
  refine q M' x t S (fun a o e => ?_) (n t ht) (fun a h => ⟨?_, (hS a h).2⟩) L
  · have e2 : a ≠ x := ne_of_new e hx
    exact hk a o e2 (by rw [put_ne e2]; exact e)
  · rcases (hS a h).1 with z | z
    · rw [z]; exact hx
    · exact n a z
def firsts (A : Alph) (r : List Str) : List Str := A.signs.filter fun s => fstB A r s
def nfN (A : Alph) : Nat → List Str → List Str
  | 0, _ => []
  | n + 1, r => match (firsts A r)[0]? with
    | none => []
    | some s => s :: nfN A n (r.erase s)
/-- the least row that is one with r -/
def nf (A : Alph) (r : List Str) : List Str := nfN A r.length r
theorem fstB_head (A : Alph) (s : Str) (r : List Str) : fstB A (s :: r) s = true := by unfold fstB; rw [if_pos rfl]
theorem fstB_mem {A : Alph} : ∀ {r : List Str} {s : Str}, fstB A r s = true → s ∈ r
  | [], _, h => nomatch h
  | t :: r, s, h => by
    unfold fstB at h
    by_cases e : t = s
    · rw [e]; exact List.mem_cons_self
    · rw [if_neg e, Bool.and_eq_true] at h
      exact List.mem_cons_of_mem _ (fstB_mem h.2)
theorem firsts_some {A : Alph} {r : List Str} (hr : ∀ s ∈ r, s ∈ A.signs) (h : r ≠ []) : ∃ s, (firsts A r)[0]? = some s ∧ s ∈ A.signs ∧ fstB A r s = true := by
  cases r with
  | nil => exact absurd rfl h
  | cons a r =>
    have hm : a ∈ firsts A (a :: r) := List.mem_filter.mpr ⟨hr a List.mem_cons_self, fstB_head A a r⟩
    cases e : firsts A (a :: r) with
    | nil => rw [e] at hm; cases hm
    | cons s l =>
      have hs : s ∈ firsts A (a :: r) := by rw [e]; exact List.mem_cons_self
      obtain ⟨h1, h2⟩ := List.mem_filter.mp hs
      exact ⟨s, rfl, h1, h2⟩
theorem nfN_some {A : Alph} {n : Nat} {r : List Str} {s : Str} (h : (firsts A r)[0]? = some s) : nfN A (n + 1) r = s :: nfN A n (r.erase s) := by rw [nfN, h]
theorem nfN_length {A : Alph} : ∀ (n : Nat) (r : List Str), (∀ s ∈ r, s ∈ A.signs) → r.length = n → (nfN A n r).length = n
  | 0, _, _, _ => rfl
  | n + 1, r, hr, hl => by
    obtain ⟨s, h1, h2, h3⟩ := firsts_some hr (fun e => by rw [e] at hl; cases hl)
    unfold nfN
    rw [h1]
    simp only [List.length_cons]
    rw [nfN_length n (r.erase s) (fun b hb => hr b (List.mem_of_mem_erase hb)) (by rw [List.length_erase_of_mem (fstB_mem h3)]; omega)]
theorem s_normal (F : LF K) (g : GoodA A) (hl : row.length ≤ 10000) (hr : ∀ s ∈ row, s ∈ A.signs) (q : ∀ M', Ext M M' → Q (Enc.d (nf A row)) M') : sp_normal K [aD A, Enc.d row] M Q noX := by
  refine go_normal ?_
  delta t_normal
  walk_at "w"
  refine w_make ?_
  walk_at "w"
  refine left_new F g hl fun M1 x t S e1 ht hS L => ?_
  walk_at "w"
  refine w_lst ?_
  walk_at "w"
  refine ⟨by size_fits, fun l hl1 => ?_⟩
  walk_at "w"
  refine w_for ?_
  walk_at "w"
  refine w_lenT ?_
  walk_at "w"
  rw [List.length_map]
  refine ⟨⟨by omega, by omega⟩, ?_⟩
  have nSl : ∀ a, S a → a ≠ l := fun a sa z => (hS a sa).2 (by rw [z]; exact hl1)
  have ntl : t ≠ l := by
    obtain ⟨⟨d, p, tk, e, f, et, T⟩, sx, nt⟩ := L
    exact ne_of_new et hl1
  have nMl : ∀ a o, M a = some o → a ≠ l ∧ a ≠ t := fun a o e => ⟨ne_of_new (e1 _ _ e) hl1, ne_of_new e ht⟩
  refine for_inv ((List.range row.length).map fun k : Nat => D.int (0 + (k : Int))) (fun i σ' M' => ∃ tv sv rem found, σ' = [some (aD A), some (Enc.d row), tv, some (.ref x), some (.ref l), sv] ∧ Ext M M' ∧ LeftAt K S M' x t A row rem ∧ M' l = some (.lst (found.map D.str)) ∧ found.length = i ∧ rem.length + i = row.length ∧ found ++ nfN A rem.length (rem.map (·.1)) = nf A row) (fun i σ' M' _ hi => by
    rw [List.length_map, List.length_range] at hi
    exact itR_at 0 _ i M' (by simpa using hi)) ⟨_, _, row.zipIdx, [], rfl, e1.alloc hl1 _, L.ext (Ext.new hl1 _), put_same, rfl, by simp, by simp [nf]⟩ ?_ ?_
  · rintro i c σ' M' hc ⟨tv, sv, rem, found, rfl, e, L', hf, hfl, hrl, hnf⟩ Kt kt
    have hi : i < row.length := by
      have := (List.getElem?_eq_some_iff.mp hc).1
      simpa using this
    have hin := L'.in hr
    obtain ⟨s, hs1, hs2, hs3⟩ := firsts_some (A := A) (r := rem.map (·.1)) (fun b hb => by obtain ⟨p, hp, rfl⟩ := List.mem_map.mp hb; exact hin p hp) (fun z => by
      have : rem.length = 0 := by rw [← List.length_map (f := fun p : Str × Nat => p.1), z]; rfl
      omega)
    obtain ⟨d, p, ex⟩ := L'.o
    walk_at "w"
    refine w_meth ?_
    walk_at "w"
    refine ⟨_, _, rfl, ex, look_none (ns := leftNs) rfl (by decide), ?_⟩
    walk_at "w"
    refine s_firsts F L' g hr fun M2 fl e2 hfl2 => ?_
    walk_at "w"
    refine ix_lst (n := 0) hfl2 (by rw [List.getElem?_map]; unfold firsts at hs1; rw [hs1]; rfl) ?_
    walk_at "w"
    refine w_meth ?_
    walk_at "w"
    refine ⟨_, _, rfl, e2 _ _ ex, look_none (ns := leftNs) rfl (by decide), ?_⟩
    walk_at "w"
    refine s_take F g (L'.ext e2) hs2 (fstB_mem hs3) fun M3 k3 L3 => ?_
    walk_at "w"
    have hf3 : M3 l = some (.lst (found.map D.str)) := k3 _ _ (Ne.symm ntl) (e2 _ _ hf)
    refine ⟨⟨_, _, rfl, hf3⟩, ?_⟩
    walk_at "w"
    refine w_app hf3 (by rw [List.length_map]; exact Nat.lt_of_le_of_lt (by omega : found.length ≤ 10000) (by size_fits)) ?_
    walk_at "w"
    have hlen : (tkOne rem s).length + 1 = rem.length := by
      have h5 := congrArg List.length (tkOne_map rem s)
      rw [List.length_map, List.length_erase_of_mem (fstB_mem hs3), List.length_map] at h5
      omega
    refine kt _ _ ⟨_, _, tkOne rem s, found ++ [s], rfl, fun a o h => ?_, L3.mono (fun a o sa h => by rw [put_ne (nSl a sa)]; exact h) (fun o h => by rw [put_ne ntl]; exact h), by rw [put_same]; simp, by simp [hfl], by omega, ?_⟩
    · rw [put_ne (nMl a o h).1]
      exact k3 _ _ (nMl a o h).2 (e2 _ _ (e _ _ h))
    · rw [← hnf, ← hlen, tkOne_map, List.append_assoc]
      rw [nfN_some hs1]; rfl
  · rintro σ' M' ⟨tv, sv, rem, found, rfl, e, L', hf, hfl, hrl, hnf⟩
    rw [List.length_map, List.length_range] at hrl
    walk_at "w"
    refine tup_list hf ?_
    have : rem.length = 0 := by omega
    rw [this] at hnf
    simp only [nfN, List.append_nil] at hnf
    rw [hnf]
    exact q _ e
end
end Dt

set_option Elab.async false
set_option autoImplicit false
set_option linter.all false
set_option maxRecDepth 100000
set_option maxHeartbeats 400000
namespace Dt
open PySem PySem.Spec PyProof.Rows L2 LamX RZ PySem.P
local macro_rules | `(tactic| walk_at "w1") => `(tactic| with_reducible refine StepW.go ?_)
local macro_rules | `(tactic| walk_at "w") => `(tactic| ((repeat walk_at "w1"); try (with_reducible conv => whnf)))
local macro_rules | `(tactic| walk_at "m") => `(tactic| first | with_reducible assumption | with_reducible exact put_same | (with_reducible apply Ext.get; (with_reducible assumption); walk_at "m") | (with_reducible apply Ext.get; (with_reducible apply Ext.new); (with_reducible assumption); walk_at "m"))
local macro_rules | `(tactic| walk_at "x") => `(tactic| first | with_reducible assumption | with_reducible exact Ext.refl | (with_reducible refine Ext.alloc ?_ (by with_reducible assumption) _; walk_at "x") | (with_reducible refine Ext.trans ?_ (by with_reducible assumption); walk_at "x"))
local macro_rules | `(tactic| walk_at "lk") => `(tactic| first | with_reducible exact look1 | ((with_reducible apply lookS); (with_unfolding_all decide); walk_at "lk"))
local macro_rules | `(tactic| walk_at "g1") => `(tactic| (first
  | with_reducible refine StepW.go ?_
  | with_reducible refine StepG.go ?_
  | with_reducible refine w_isTup ?_
  | ((with_reducible refine w_sz ?sz ?_); (case sz => size_fits))
  | ((with_reducible refine w_len ?sz ?_); (case sz => rfl))
  | ((with_reducible refine w_obj (by walk_at "m") ?ob2 ?_); (case ob2 => walk_at "ln"))
  | (with_reducible refine w_lenL (by walk_at "m") ?_) | (with_reducible refine w_seqL (by walk_at "m") ?_) | (with_reducible refine tup_list (by walk_at "m") ?_)
  | (with_reducible refine w_isLst (by walk_at "m") ?_) | (with_reducible refine w_slL (by walk_at "m") ?_)
  | ((with_reducible refine fld_ok (by walk_at "m") ?cl (by walk_at "lk") ?_); (case cl => walk_at "cl"))
  | (with_reducible refine w_lstL (by walk_at "m") ?_) | (with_reducible refine w_dic (by walk_at "m") ?_)
  ))
local macro_rules | `(tactic| walk_at "g") => `(tactic| ((repeat walk_at "g1"); try (with_reducible conv => whnf)))
local macro_rules | `(tactic| walk_at "ln") => `(tactic| first | exact look_none (ns := ["row", "signs", "dependent", "places", "taken"]) rfl (by decide) | exact look_none (ns := ["alphabet", "due", "its_left", "signs", "parting"]) rfl (by decide) | exact look_none (ns := ["alphabet", "its_lag", "parting"]) rfl (by decide))
local macro_rules | `(tactic| walk_at "cl") => `(tactic| first | exact CF.get (by with_reducible assumption) (by decide))
section
variable {K : Bd} {M M' : DM} {Q : DQ} {A : Alph} {S : Addr → Prop} {x d p t : Addr} {row : List Str} {tk : Str → Nat} {rem : Rem}
/-- what is left of a row behind g -/
def lo (A : Alph) : List Str → List Str → Option (List Str)
  | [], r => some r
  | s :: g, r => if fstB A r s = true then lo A g (r.erase s) else none
def optR : Option (List Str) → D
  | none => .non
  | some r => Enc.d r
theorem lo_snoc {A : Alph} : ∀ (g : List Str) (s : Str) (r : List Str), lo A (g ++ [s]) r = (lo A g r).bind fun r' => if fstB A r' s = true then some (r'.erase s) else none
  | [], s, r => rfl
  | a :: g, s, r => by
    simp only [List.cons_append, lo]
    by_cases h : fstB A r a = true
    · rw [if_pos h, if_pos h, lo_snoc g s _]
    · rw [if_neg h, if_neg h]; rfl
theorem lo_cut {A : Alph} : ∀ (g h r : List Str), lo A (g ++ h) r = (lo A g r).bind fun r' => lo A h r'
  | [], h, r => rfl
  | a :: g, h, r => by
    simp only [List.cons_append, lo]
    by_cases e : fstB A r a = true
    · rw [if_pos e, if_pos e, lo_cut g h _]
    · rw [if_neg e, if_neg e]; rfl
theorem lo_sub {A : Alph} : ∀ (g r r' : List Str), lo A g r = some r' → r'.Sublist r
  | [], r, r', h => by cases h; exact .refl _
  | a :: g, r, r', h => by
    simp only [lo] at h
    by_cases e : fstB A r a = true
    · rw [if_pos e] at h
      exact (lo_sub g _ _ h).trans List.erase_sublist
    · rw [if_neg e] at h; cases h
theorem s_left_of (F : LF K) (g : GoodA A) {gg : List Str} (hl : row.length ≤ 10000) (hg : ∀ s ∈ gg, s ∈ A.signs) (hr : ∀ s ∈ row, s ∈ A.signs) (q : ∀ M', Ext M M' → Q (optR ((lo A gg row).map (nf A))) M') : sp_left_of K [aD A, Enc.d gg, Enc.d row] M Q noX := by
  refine go_left_of ?_
  delta t_left_of
  walk_at "w"
  refine w_make ?_
  walk_at "w"
  refine left_new F g hl fun M1 x t S e1 ht hS L => ?_
  walk_at "w"
  refine w_for ?_
  walk_at "w"
  refine for_inv (gg.map .str) (fun i σ' M' => ∃ sv rem, σ' = [some (aD A), some (Enc.d gg), some (Enc.d row), some (.ref x), sv] ∧ Ext M M' ∧ LeftAt K S M' x t A row rem ∧ lo A (gg.drop i) (rem.map (·.1)) = lo A gg row) (fun i σ' M' _ hi => rfl) ⟨_, row.zipIdx, rfl, e1, L, by simp⟩ ?_ ?_
  · rintro i c σ' M' hc ⟨sv, rem, rfl, e, L', he⟩ Kt kt
    rw [List.getElem?_map] at hc
    cases hx : gg[i]? with
    | none => rw [hx] at hc; cases hc
    | some s =>
      rw [hx] at hc; cases hc
      have hs := hg s (List.mem_of_getElem? hx)
      rw [drop_get hx] at he
      obtain ⟨d, p, ex⟩ := L'.o
      walk_at "w"
      refine w_meth ?_
      walk_at "w"
      refine ⟨_, _, rfl, ex, look_none (ns := leftNs) rfl (by decide), ?_⟩
      walk_at "w"
      refine s_can_be_first F L' hr hs fun M2 e2 => ?_
      walk_at "w"
      simp only [lo] at he
      cases hb : fstB A (rem.map (·.1)) s
      · rw [hb] at he
        simp only [Bool.false_eq_true, if_false] at he
        walk_at "w"
        rw [← he] at q
        exact q _ (e.trans e2)
      · rw [hb] at he
        simp only [if_true] at he
        rw [show (!true) = false from rfl]
        walk_at "w"
        refine w_meth ?_
        walk_at "w"
        refine ⟨_, _, rfl, e2 _ _ ex, look_none (ns := leftNs) rfl (by decide), ?_⟩
        walk_at "w"
        refine s_take F g (L'.ext e2) hs (fstB_mem hb) fun M3 k3 L3 => ?_
        walk_at "w"
        exact kt _ _ ⟨_, tkOne rem s, rfl, fun a o h => k3 _ _ (ne_of_new h ht) (e2 _ _ (e _ _ h)), L3, by rw [tkOne_map]; exact he⟩
  · rintro σ' M' ⟨sv, rem, rfl, e, L', he⟩
    rw [List.length_map, List.drop_length] at he
    simp only [lo] at he
    rw [← he] at q
    obtain ⟨d, p, ex⟩ := L'.o
    walk_at "w"
    refine w_meth ?_
    walk_at "w"
    refine ⟨_, _, rfl, ex, look_none (ns := leftNs) rfl (by decide), ?_⟩
    walk_at "w"
    refine s_left F g L' hl hr fun M2 e2 => ?_
    walk_at "w"
    have hsub := lo_sub gg row _ he.symm
    exact s_normal F g (Nat.le_trans hsub.length_le hl) (fun s hs => hr s (hsub.subset hs)) fun M3 e3 => q _ (e.trans (e2.trans e3))
end
end Dt

set_option Elab.async false
set_option autoImplicit false
set_option linter.all false
set_option maxRecDepth 100000
set_option maxHeartbeats 400000
namespace Dt
open PySem PySem.Spec PyProof.Rows L2 LamX RZ PySem.P
local macro_rules | `(tactic| walk_at "w1") => `(tactic| with_reducible refine StepW.go ?_)
local macro_rules | `(tactic| walk_at "w") => `(tactic| ((repeat walk_at "w1"); try (with_reducible conv => whnf)))
local macro_rules | `(tactic| walk_at "m") => `(tactic| first | with_reducible assumption | with_reducible exact put_same | (with_reducible apply Ext.get; (with_reducible assumption); walk_at "m") | (with_reducible apply Ext.get; (with_reducible apply Ext.new); (with_reducible assumption); walk_at "m"))
local macro_rules | `(tactic| walk_at "x") => `(tactic| first | with_reducible assumption | with_reducible exact Ext.refl | (with_reducible refine Ext.alloc ?_ (by with_reducible assumption) _; walk_at "x") | (with_reducible refine Ext.trans ?_ (by with_reducible assumption); walk_at "x"))
local macro_rules | `(tactic| walk_at "lk") => `(tactic| first | with_reducible exact look1 | ((with_reducible apply lookS); (with_unfolding_all decide); walk_at "lk"))
local macro_rules | `(tactic| walk_at "g1") => `(tactic| (first
  | with_reducible refine StepW.go ?_
  | with_reducible refine StepG.go ?_
  | with_reducible refine w_isTup ?_
  | ((with_reducible refine w_sz ?sz ?_); (case sz => size_fits))
  | ((with_reducible refine w_len ?sz ?_); (case sz => rfl))
  | ((with_reducible refine w_obj (by walk_at "m") ?ob2 ?_); (case ob2 => walk_at "ln"))
  | (with_reducible refine w_lenL (by walk_at "m") ?_) | (with_reducible refine w_seqL (by walk_at "m") ?_) | (with_reducible refine tup_list (by walk_at "m") ?_)
  | (with_reducible refine w_isLst (by walk_at "m") ?_) | (with_reducible refine w_slL (by walk_at "m") ?_)
  | ((with_reducible refine fld_ok (by walk_at "m") ?cl (by walk_at "lk") ?_); (case cl => walk_at "cl"))
  | (with_reducible refine w_lstL (by walk_at "m") ?_) | (with_reducible refine w_dic (by walk_at "m") ?_)
  ))
local macro_rules | `(tactic| walk_at "g") => `(tactic| ((repeat walk_at "g1"); try (with_reducible conv => whnf)))
local macro_rules | `(tactic| walk_at "ln") => `(tactic| first | exact look_none (ns := ["row", "signs", "dependent", "places", "taken"]) rfl (by decide) | exact look_none (ns := ["alphabet", "due", "its_left", "signs", "parting"]) rfl (by decide) | exact look_none (ns := ["alphabet", "its_lag", "parting"]) rfl (by decide))
local macro_rules | `(tactic| walk_at "cl") => `(tactic| first | exact CF.get (by with_reducible assumption) (by decide))
section
variable {K : Bd} {M M' : DM} {Q : DQ} {A : Alph} {S : Addr → Prop} {x d p t : Addr} {row : List Str} {tk : Str → Nat} {rem : Rem}
abbrev sg (r : Rem) : List Str := r.map (·.1)
def boths (A : Alph) (x y : List Str) : List Str := (firsts A x).filter fun s => fstB A y s
/-- found, what is left of both -/
def cmN (A : Alph) : Nat → List Str → List Str → List Str × List Str × List Str
  | 0, x, y => ([], x, y)
  | n + 1, x, y => match (boths A x y)[0]? with
    | none => ([], x, y)
    | some s => let r := cmN A n (x.erase s) (y.erase s); (s :: r.1, r.2)
/-- a greatest common beginning, step by step -/
def cm (A : Alph) (x y : List Str) : List Str × List Str × List Str := cmN A x.length x y
theorem cmN_some {n : Nat} {x y : List Str} {s : Str} (h : (boths A x y)[0]? = some s) : cmN A (n + 1) x y = (s :: (cmN A n (x.erase s) (y.erase s)).1, (cmN A n (x.erase s) (y.erase s)).2) := by rw [cmN, h]
theorem cmN_none {n : Nat} {x y : List Str} (h : (boths A x y)[0]? = none) : cmN A n x y = ([], x, y) := by
  cases n with
  | zero => rfl
  | succ n => rw [cmN, h]
theorem boths_some {x y : List Str} {s : Str} (h : (boths A x y)[0]? = some s) : s ∈ A.signs ∧ fstB A x s = true ∧ fstB A y s = true := by
  have h1 := List.mem_of_getElem? h
  obtain ⟨h2, h3⟩ := List.mem_filter.mp h1
  obtain ⟨h4, h5⟩ := List.mem_filter.mp h2
  exact ⟨h4, h5, h3⟩
theorem boths_nil {x y : List Str} (h : boths A x y = []) (hx : ∀ s ∈ x, s ∈ A.signs) (s : Str) : ¬ (fstB A x s = true ∧ fstB A y s = true) := by
  rintro ⟨h1, h2⟩
  have : s ∈ boths A x y := List.mem_filter.mpr ⟨List.mem_filter.mpr ⟨hx s (fstB_mem h1), h1⟩, h2⟩
  rw [h] at this; cases this
theorem tkOne_length {rem : Rem} {s : Str} (h : fstB A (rem.map (·.1)) s = true) : (tkOne rem s).length + 1 = rem.length := by
  have h5 := congrArg List.length (tkOne_map rem s)
  have h6 := fstB_mem h
  have h7 := List.length_pos_of_mem h6
  rw [List.length_map, List.length_erase_of_mem h6, List.length_map] at h5
  rw [List.length_map] at h7
  omega
theorem LeftAt.tN (L : LeftAt K S M x t A row rem) : ∃ o, M t = some o := by
  obtain ⟨⟨d, p, tk, e, f, et, T⟩, sx, nt⟩ := L
  exact ⟨_, et⟩
theorem s_common (F : LF K) (g : GoodA A) {xs ys : List Str} (hlx : xs.length ≤ 10000) (hly : ys.length ≤ 10000) (hx : ∀ s ∈ xs, s ∈ A.signs) (hy : ∀ s ∈ ys, s ∈ A.signs) (q : ∀ M', Ext M M' → Q (Enc.d (nf A (cm A xs ys).1)) M') : sp_common K [aD A, Enc.d xs, Enc.d ys] M Q noX := by
  refine go_common ?_
  delta t_common
  walk_at "g"
  refine left_new F g hlx fun M1 x1 t1 S1 e1 ht1 hS1 L1 => ?_
  walk_at "g"
  refine left_new F g hly fun M2 x2 t2 S2 e2 ht2 hS2 L2 => ?_
  walk_at "g"
  intro l hl
  walk_at "g"
  obtain ⟨o1, m1⟩ := L1.tN
  obtain ⟨o2, m2⟩ := L2.tN
  have hl2 : ∀ a, M2 a ≠ none → a ≠ l := fun a h z => h (by rw [z]; exact hl)
  have up : ∀ a, M1 a ≠ none → M2 a ≠ none := fun a h => by
    cases z : M1 a with
    | none => exact absurd z h
    | some o => rw [e2 _ _ z]; exact fun z => nomatch z
  have t12 : t1 ≠ t2 := fun z => by rw [z, ht2] at m1; cases m1
  have s1t2 : ∀ a, S1 a → a ≠ t2 := fun a sa z => (hS1 a sa).2 (by rw [z]; exact ht2)
  have s2t1 : ∀ a, S2 a → a ≠ t1 := fun a sa z => by
    have := (hS2 a sa).1
    rw [z, m1] at this; cases this
  have s1l : ∀ a, S1 a → a ≠ l := fun a sa => hl2 a (up a (hS1 a sa).2)
  have s2l : ∀ a, S2 a → a ≠ l := fun a sa => hl2 a (hS2 a sa).2
  have lt1 : l ≠ t1 := fun z => hl2 _ (by rw [e2 _ _ m1]; exact fun z => nomatch z) z.symm
  have lt2 : l ≠ t2 := fun z => hl2 _ (by rw [m2]; exact fun z => nomatch z) z.symm
  have nM : ∀ a o, M a = some o → a ≠ t1 ∧ a ≠ t2 ∧ a ≠ l := fun a o e => ⟨ne_of_new e ht1, ne_of_new (e1 _ _ e) ht2, ne_of_new (e2 _ _ (e1 _ _ e)) hl⟩
  refine wh_inv (fun m σ' M' => ∃ bv sv r1 r2 found, σ' = [some (aD A), some (Enc.d xs), some (Enc.d ys), some (.ref x1), some (.ref x2), some (.ref l), bv, sv] ∧ Ext M M' ∧ LeftAt K S1 M' x1 t1 A xs r1 ∧ LeftAt K S2 M' x2 t2 A ys r2 ∧ M' l = some (.lst (found.map D.str)) ∧ r1.length = m ∧ found.length + m = xs.length ∧ found ++ (cmN A m (r1.map (·.1)) (r2.map (·.1))).1 = (cm A xs ys).1 ∧ (∀ s ∈ found, s ∈ A.signs)) xs.length ⟨_, _, xs.zipIdx, ys.zipIdx, [], rfl, by walk_at "x", (L1.ext e2).ext (Ext.new hl _), L2.ext (Ext.new hl _), put_same, by simp, by simp, by simp [cm], by simp⟩ ?_
  rintro m σ' M' ⟨bv, sv, r1, r2, found, rfl, e, L1', L2', hf, hm, hfl, hcm, hfs⟩ Kt kt
  obtain ⟨d1, p1, ex1⟩ := L1'.o
  obtain ⟨d2, p2, ex2⟩ := L2'.o
  walk_at "g"
  refine s_firsts F L1' g hx fun M3 fl e3 hfl3 => ?_
  walk_at "g"
  refine lc_pure (firsts A (sg r1)) .str (fun s => fstB A (sg r2) s) .str (fun i M' e4 _ => itL_is (e4 _ _ hfl3) i) (Nat.le_trans (List.length_filter_le _ _) (Nat.le_trans g.short (by size_fits))) ?_ ?_
  · intro i s M4 hs e4 KT KF kt kf
    have hsA := (List.mem_filter.mp (List.mem_of_getElem? hs)).1
    walk_at "g"
    refine s_can_be_first F ((L2'.ext e3).ext e4) hy hsA fun M5 e5 => ?_
    walk_at "g"
    cases hc : fstB A (sg r2) s
    · walk_at "g"
      exact kf hc _ (e4.trans e5)
    · walk_at "g"
      exact kt hc _ (e4.trans e5)
  · intro M4 b e4 hb
    walk_at "g"
    intro n hn
    generalize hM6 : put (put M4 b _) n _ = M6
    have hb1 : M6 b = some (.lst ((boths A (sg r1) (sg r2)).map D.str)) := by
      rw [← hM6, put_ne (ne_of_new put_same hn)]; exact put_same
    have hn1 : M6 n = some (.lst []) := by rw [← hM6]; exact put_same
    have e6 : Ext M' M6 := by
      rw [← hM6]
      exact ((e3.trans e4).alloc hb _).alloc hn _
    have bt1 : b ≠ t1 := fun z => by
      obtain ⟨o, h⟩ := L1'.tN
      rw [z, e4 _ _ (e3 _ _ h)] at hb; cases hb
    have bt2 : b ≠ t2 := fun z => by
      obtain ⟨o, h⟩ := L2'.tN
      rw [z, e4 _ _ (e3 _ _ h)] at hb; cases hb
    clear hM6 hb hn e4
    cases hbo : boths A (sg r1) (sg r2) with
    | nil =>
      rw [hbo] at hb1
      refine eq_encL (α := Str) (xs := []) (ys := []) (c := true) hb1 hn1 (by simp) (by decide) ?_
      walk_at "g"
      rw [cmN_none (by rw [hbo]; rfl), List.append_nil] at hcm
      rw [← hcm] at q
      exact s_normal F g (by omega) hfs fun M7 e7 => q _ ((e.trans e6).trans e7)
    | cons s bs =>
      rw [hbo] at hb1
      have hb0 : (boths A (sg r1) (sg r2))[0]? = some s := by rw [hbo]; rfl
      obtain ⟨hs, hs1, hs2⟩ := boths_some hb0
      refine eq_encL (α := Str) (xs := s :: bs) (ys := []) (c := false) hb1 hn1 (by simp) (by decide) ?_
      walk_at "g"
      refine ix_lst (n := 0) hb1 rfl ?_
      walk_at "g"
      refine s_take F g (L1'.ext e6) hs (fstB_mem hs1) fun M7 k7 L7 => ?_
      have L8 := (L2'.ext e6).mono (M' := M7) (fun a o sa h => k7 a o (s2t1 a sa) h) (fun o h => k7 _ _ (Ne.symm t12) h)
      obtain ⟨d3, p3, ex3⟩ := L8.o
      walk_at "g"
      refine ix_lst (n := 0) (k7 _ _ bt1 hb1) rfl ?_
      walk_at "g"
      refine s_take F g L8 hs (fstB_mem hs2) fun M9 k9 L9 => ?_
      have hf9 := k9 _ _ lt2 (k7 _ _ lt1 (e6 _ _ hf))
      walk_at "g"
      refine ix_lst (n := 0) (k9 _ _ bt2 (k7 _ _ bt1 hb1)) rfl ?_
      walk_at "g"
      refine w_app hf9 (by rw [List.length_map]; exact Nat.lt_of_le_of_lt (by omega : found.length ≤ 10000) (by size_fits)) ?_
      walk_at "g"
      have hl1 := tkOne_length hs1
      refine kt (m - 1) _ _ (by omega) ⟨_, _, tkOne r1 s, tkOne r2 s, found ++ [s], rfl, fun a o h => ?_, (L7.mono (fun a o sa h => k9 a o (s1t2 a sa) h) (fun o h => k9 _ _ t12 h)).mono (fun a o sa h => by rw [put_ne (s1l a sa)]; exact h) (fun o h => by rw [put_ne (Ne.symm lt1)]; exact h), L9.mono (fun a o sa h => by rw [put_ne (s2l a sa)]; exact h) (fun o h => by rw [put_ne (Ne.symm lt2)]; exact h), by rw [put_same]; simp, by omega, by simp; omega, ?_, ?_⟩
      · obtain ⟨h1, h2, h3⟩ := nM a o h
        rw [put_ne h3]
        exact k9 _ _ h2 (k7 _ _ h1 (e6 _ _ (e _ _ h)))
      · rw [← hcm, tkOne_map, tkOne_map, show m = m - 1 + 1 by omega, cmN_some hb0, List.append_assoc]
        rfl
      · intro z hz
        rcases List.mem_append.mp hz with h | h
        · exact hfs z h
        · rw [List.mem_singleton.mp h]; exact hs
end
end Dt

set_option Elab.async false
set_option autoImplicit false
set_option linter.all false
set_option maxRecDepth 100000
set_option maxHeartbeats 400000
namespace Dt
open PySem PySem.Spec PyProof.Rows L2 LamX RZ PySem.P
local macro_rules | `(tactic| walk_at "w1") => `(tactic| with_reducible refine StepW.go ?_)
local macro_rules | `(tactic| walk_at "w") => `(tactic| ((repeat walk_at "w1"); try (with_reducible conv => whnf)))
local macro_rules | `(tactic| walk_at "m") => `(tactic| first | with_reducible assumption | with_reducible exact put_same | (with_reducible apply Ext.get; (with_reducible assumption); walk_at "m") | (with_reducible apply Ext.get; (with_reducible apply Ext.new); (with_reducible assumption); walk_at "m"))
local macro_rules | `(tactic| walk_at "x") => `(tactic| first | with_reducible assumption | with_reducible exact Ext.refl | (with_reducible refine Ext.alloc ?_ (by with_reducible assumption) _; walk_at "x") | (with_reducible refine Ext.trans ?_ (by with_reducible assumption); walk_at "x"))
local macro_rules | `(tactic| walk_at "lk") => `(tactic| first | with_reducible exact look1 | ((with_reducible apply lookS); (with_unfolding_all decide); walk_at "lk"))
local macro_rules | `(tactic| walk_at "g1") => `(tactic| (first
  | with_reducible refine StepW.go ?_
  | with_reducible refine StepG.go ?_
  | with_reducible refine w_isTup ?_
  | ((with_reducible refine w_sz ?sz ?_); (case sz => size_fits))
  | ((with_reducible refine w_len ?sz ?_); (case sz => rfl))
  | ((with_reducible refine w_obj (by walk_at "m") ?ob2 ?_); (case ob2 => walk_at "ln"))
  | (with_reducible refine w_lenL (by walk_at "m") ?_) | (with_reducible refine w_seqL (by walk_at "m") ?_) | (with_reducible refine tup_list (by walk_at "m") ?_)
  | (with_reducible refine w_isLst (by walk_at "m") ?_) | (with_reducible refine w_slL (by walk_at "m") ?_)
  | ((with_reducible refine fld_ok (by walk_at "m") ?cl (by walk_at "lk") ?_); (case cl => walk_at "cl"))
  | (with_reducible refine w_lstL (by walk_at "m") ?_) | (with_reducible refine w_dic (by walk_at "m") ?_)
  ))
local macro_rules | `(tactic| walk_at "g") => `(tactic| ((repeat walk_at "g1"); try (with_reducible conv => whnf)))
local macro_rules | `(tactic| walk_at "ln") => `(tactic| first | exact look_none (ns := ["row", "signs", "dependent", "places", "taken"]) rfl (by decide) | exact look_none (ns := ["alphabet", "due", "its_left", "signs", "parting"]) rfl (by decide) | exact look_none (ns := ["alphabet", "its_lag", "parting"]) rfl (by decide))
local macro_rules | `(tactic| walk_at "cl") => `(tactic| first | exact CF.get (by with_reducible assumption) (by decide))
section
variable {A : Alph} {x y r r' : List Str} {s : Str}
theorem fstB_eq : fstB A r s = Tr.fst (fr A) r s := by
  induction r with
  | nil => rfl
  | cons t r ih => simp only [fstB, Tr.fst, ih]
theorem lo_eq : ∀ {g r : List Str}, lo A g r = Tr.lo (fr A) g r
  | [], r => rfl
  | s :: g, r => by simp only [lo, Tr.lo, fstB_eq, lo_eq]
abbrev Tq (A : Alph) (r r' : List Str) : Prop := Tr.Tq (fr A) r r'
theorem fr_fs (g : GoodA A) : ∀ a, fr A a a = false := fr_self g
theorem fr_fc : ∀ a b, fr A a b = fr A b a := fr_comm A
abbrev InA (A : Alph) (r : List Str) : Prop := ∀ s ∈ r, s ∈ A.signs
theorem InA.erase (h : InA A r) : InA A (r.erase s) := fun a ha => h a (List.mem_of_mem_erase ha)
theorem InA.app (h : InA A r) (h' : InA A r') : InA A (r ++ r') := fun a ha => (List.mem_append.mp ha).elim (h a) (h' a)
theorem Tq.inA (g : GoodA A) (h : Tq A r r') (hr : InA A r) : InA A r' := fun a ha => hr a ((Tr.Tq.mem (fr_fs g) h).mpr ha)
theorem firsts_congr (g : GoodA A) (h : Tq A r r') : firsts A r = firsts A r' := by
  unfold firsts
  refine List.filter_congr fun s _ => ?_
  rw [fstB_eq, fstB_eq, Tr.Tq.fst_eq (fr_fs g) h]
theorem nfN_tq (g : GoodA A) : ∀ (n : Nat) (r : List Str), InA A r → r.length = n → Tq A r (nfN A n r)
  | 0, r, _, hl => by
    have : r = [] := List.length_eq_zero_iff.mp hl
    subst this; exact Tr.Tq.refl
  | n + 1, r, hr, hl => by
    obtain ⟨s, h1, h2, h3⟩ := firsts_some hr (fun e => by rw [e] at hl; cases hl)
    rw [nfN_some h1]
    have ih := nfN_tq g n (r.erase s) hr.erase (by rw [List.length_erase_of_mem (fstB_mem h3)]; omega)
    exact (Tr.fst_Tq fr_fc (by rw [← fstB_eq]; exact h3)).trans (Tr.Tq.cons ih)
theorem nf_tq (g : GoodA A) (hr : InA A r) : Tq A r (nf A r) := nfN_tq g _ r hr rfl
theorem nfN_congr (g : GoodA A) : ∀ (n : Nat) (r r' : List Str), Tq A r r' → nfN A n r = nfN A n r'
  | 0, _, _, _ => rfl
  | n + 1, r, r', h => by
    have e := firsts_congr g h
    unfold nfN
    rw [← e]
    cases h1 : (firsts A r)[0]? with
    | none => rfl
    | some s =>
      have hm := List.mem_of_getElem? h1
      have h3 := (List.mem_filter.mp hm).2
      rw [fstB_eq] at h3
      simp only []
      rw [nfN_congr g n _ _ (Tr.Tq.erase (fr_fs g) fr_fc h h3)]
theorem nf_congr (g : GoodA A) (h : Tq A r r') : nf A r = nf A r' := by
  unfold nf
  rw [Tr.Tq.length (fr_fs g) h]
  exact nfN_congr g _ r r' h
theorem nf_in (g : GoodA A) (hr : InA A r) : InA A (nf A r) := (nf_tq g hr).inA g hr
theorem nf_length (hr : InA A r) : (nf A r).length = r.length := nfN_length _ _ hr rfl
theorem nf_nf (g : GoodA A) (hr : InA A r) : nf A (nf A r) = nf A r := (nf_congr g (nf_tq g hr)).symm
theorem nf_iff (g : GoodA A) (hr : InA A r) (hr' : InA A r') : nf A r = nf A r' ↔ Tq A r r' :=
  ⟨fun h => (nf_tq g hr).trans (by rw [h]; exact (nf_tq g hr').symm), nf_congr g⟩
theorem nf_nil_iff (hr : InA A r) : nf A r = [] ↔ r = [] := by
  rw [← List.length_eq_zero_iff, nf_length hr, List.length_eq_zero_iff]
/-! ### the greatest common beginning, taken step by step -/
structure CmOk (A : Alph) (x y : List Str) (c : List Str × List Str × List Str) : Prop where
  one : Tq A (c.1 ++ c.2.1) x
  other : Tq A (c.1 ++ c.2.2) y
  apart : Tr.Apart (fr A) c.2.1 c.2.2
  len : c.1.length + c.2.1.length = x.length ∧ c.1.length + c.2.2.length = y.length
theorem cmN_ok (g : GoodA A) : ∀ (n : Nat) (x y : List Str), InA A x → x.length = n → CmOk A x y (cmN A n x y)
  | 0, x, y, _, hl => by
    have : x = [] := List.length_eq_zero_iff.mp hl
    subst this
    exact ⟨Tr.Tq.refl, Tr.Tq.refl, fun s h => by simp [cmN, Tr.fst] at h, by simp [cmN], by simp [cmN]⟩
  | n + 1, x, y, hx, hl => by
    cases hb : boths A x y with
    | nil =>
      rw [cmN_none (by rw [hb]; rfl)]
      exact ⟨Tr.Tq.refl, Tr.Tq.refl, fun s h => boths_nil hb hx s (by rw [fstB_eq, fstB_eq]; exact h), by simp, by simp⟩
    | cons s l =>
      have hb0 : (boths A x y)[0]? = some s := by rw [hb]; rfl
      obtain ⟨hs, hs1, hs2⟩ := boths_some hb0
      rw [cmN_some hb0]
      have hm1 := fstB_mem hs1
      have hm2 := fstB_mem hs2
      have l1 := List.length_erase_of_mem hm1
      have l2 := List.length_erase_of_mem hm2
      have p2 := List.length_pos_of_mem hm2
      have ih := cmN_ok g n (x.erase s) (y.erase s) hx.erase (by omega)
      refine ⟨?_, ?_, ih.apart, ?_, ?_⟩
      · exact (Tr.Tq.cons ih.one).trans (Tr.fst_Tq fr_fc (by rw [← fstB_eq]; exact hs1)).symm
      · exact (Tr.Tq.cons ih.other).trans (Tr.fst_Tq fr_fc (by rw [← fstB_eq]; exact hs2)).symm
      · have := ih.len.1
        simp only [List.length_cons]; omega
      · have := ih.len.2
        simp only [List.length_cons]; omega
theorem cm_ok (g : GoodA A) (hx : InA A x) : CmOk A x y (cm A x y) := cmN_ok g _ x y hx rfl
theorem CmOk.one_only (g : GoodA A) {c c' : List Str × List Str × List Str} {x' y' : List Str} (h : CmOk A x y c) (h' : CmOk A x' y' c') (e1 : Tq A x x') (e2 : Tq A y y') : Tq A c.1 c'.1 ∧ Tq A c.2.1 c'.2.1 ∧ Tq A c.2.2 c'.2.2 :=
  Tr.common_one (fr_fs g) fr_fc h'.apart h.apart (h.one.trans (e1.trans h'.one.symm)) (h.other.trans (e2.trans h'.other.symm))
/-- the lag, normal forms -/
def lagL (A : Alph) (x y : List Str) : List Str × List Str := (nf A (cm A x y).2.1, nf A (cm A x y).2.2)
/-- what is left behind the normal form of a common beginning -/
theorem lo_nf (g : GoodA A) {h z : List Str} (hh : InA A h) (e : Tq A (h ++ z) x) : (lo A (nf A h) x).map (nf A) = some (nf A z) := by
  rw [lo_eq]
  obtain ⟨w, h1, h2⟩ := Tr.lo_of (fr_fs g) fr_fc (show Tr.Tq (fr A) (nf A h ++ z) x from (Tr.Tq.app (nf_tq g hh).symm .refl).trans e)
  rw [h1]
  exact congrArg some (nf_congr g h2).symm
theorem CmOk.in1 (g : GoodA A) {c : List Str × List Str × List Str} (h : CmOk A x y c) (hx : InA A x) : InA A c.1 ∧ InA A c.2.1 := by
  have := Tq.inA g h.one.symm hx
  exact ⟨fun a ha => this a (List.mem_append_left _ ha), fun a ha => this a (List.mem_append_right _ ha)⟩
theorem CmOk.in2 (g : GoodA A) {c : List Str × List Str × List Str} (h : CmOk A x y c) (hy : InA A y) : InA A c.2.2 := by
  have := Tq.inA g h.other.symm hy
  exact fun a ha => this a (List.mem_append_right _ ha)
theorem lag_length (g : GoodA A) (hx : InA A x) (hy : InA A y) : (lagL A x y).1.length ≤ x.length ∧ (lagL A x y).2.length ≤ y.length := by
  have c := cm_ok (y := y) g hx
  unfold lagL
  simp only []
  rw [nf_length (c.in1 g hx).2, nf_length (c.in2 g hy)]
  have := c.len
  omega
theorem lag_in (g : GoodA A) (hx : InA A x) (hy : InA A y) : InA A (lagL A x y).1 ∧ InA A (lagL A x y).2 := by
  have c := cm_ok (y := y) g hx
  exact ⟨nf_in g (c.in1 g hx).2, nf_in g (c.in2 g hy)⟩
/-- what is behind both sides of the lag may be put behind the rows -/
theorem lag_behind (g : GoodA A) {u v : List Str} (hx : InA A x) (hy : InA A y) (hu : InA A u) (hv : InA A v) : lagL A ((lagL A x y).1 ++ u) ((lagL A x y).2 ++ v) = lagL A (x ++ u) (y ++ v) := by
  have c := cm_ok (y := y) g hx
  have e1 := nf_tq g (c.in1 g hx).2
  have e2 := nf_tq g (c.in2 g hy)
  obtain ⟨i1, i2⟩ := lag_in g hx hy
  have d := cm_ok (A := A) (x := (lagL A x y).1 ++ u) (y := (lagL A x y).2 ++ v) g (i1.app hu)
  have w := cm_ok (A := A) (x := x ++ u) (y := y ++ v) g (hx.app hu)
  have q1 : Tq A ((cm A x y).1 ++ (cm A ((lagL A x y).1 ++ u) ((lagL A x y).2 ++ v)).1 ++ (cm A ((lagL A x y).1 ++ u) ((lagL A x y).2 ++ v)).2.1) (x ++ u) := by
    rw [List.append_assoc]
    refine (Tr.Tq.app .refl d.one).trans ?_
    rw [← List.append_assoc]
    exact Tr.Tq.app ((Tr.Tq.app .refl e1.symm).trans c.one) .refl
  have q2 : Tq A ((cm A x y).1 ++ (cm A ((lagL A x y).1 ++ u) ((lagL A x y).2 ++ v)).1 ++ (cm A ((lagL A x y).1 ++ u) ((lagL A x y).2 ++ v)).2.2) (y ++ v) := by
    rw [List.append_assoc]
    refine (Tr.Tq.app .refl d.other).trans ?_
    rw [← List.append_assoc]
    exact Tr.Tq.app ((Tr.Tq.app .refl e2.symm).trans c.other) .refl
  obtain ⟨_, h1, h2⟩ := Tr.common_one (fr_fs g) fr_fc w.apart d.apart (q1.trans w.one.symm) (q2.trans w.other.symm)
  show (nf A _, nf A _) = (nf A _, nf A _)
  rw [nf_congr g h1, nf_congr g h2]
end
section
variable {K : Bd} {M M' : DM} {Q : DQ} {A : Alph}
theorem s_lag (F : LF K) (g : GoodA A) {xs ys : List Str} (hlx : xs.length ≤ 10000) (hly : ys.length ≤ 10000) (hx : InA A xs) (hy : InA A ys) (q : ∀ M', Ext M M' → Q (Enc.d (lagL A xs ys)) M') : sp_lag K [aD A, Enc.d xs, Enc.d ys] M Q noX := by
  have c := cm_ok (y := ys) g hx
  have hg := (c.in1 g hx).1
  refine go_lag ?_
  delta t_lag
  walk_at "g"
  refine s_common F g hlx hly hx hy fun M1 e1 => ?_
  walk_at "g"
  refine s_left_of F g hlx (nf_in g hg) hx fun M2 e2 => ?_
  rw [lo_nf g hg c.one]
  walk_at "g"
  refine s_left_of F g hly (nf_in g hg) hy fun M3 e3 => ?_
  rw [lo_nf g hg c.other]
  walk_at "g"
  exact q _ ((e1.trans e2).trans e3)
theorem s_behind (F : LF K) (g : GoodA A) {l1 l2 xs ys : List Str} (hlx : l1.length + xs.length ≤ 10000) (hly : l2.length + ys.length ≤ 10000) (h1 : InA A l1) (h2 : InA A l2) (hx : InA A xs) (hy : InA A ys) (q : ∀ M', Ext M M' → Q (Enc.d (lagL A (l1 ++ xs) (l2 ++ ys))) M') : sp_behind K [aD A, Enc.d (l1, l2), Enc.d xs, Enc.d ys] M Q noX := by
  refine go_behind ?_
  delta t_behind
  walk_at "g"
  refine ix_tup (n := 0) rfl ?_
  walk_at "g"
  refine add_tup ?_ ?_
  · rw [List.length_map, List.length_map]; exact Nat.le_trans hlx (by size_fits)
  rw [← List.map_append]
  walk_at "g"
  refine ix_tup (n := 1) rfl ?_
  walk_at "g"
  refine add_tup ?_ ?_
  · rw [List.length_map, List.length_map]; exact Nat.le_trans hly (by size_fits)
  rw [← List.map_append]
  walk_at "g"
  exact s_lag F g (by rw [List.length_append]; exact hlx) (by rw [List.length_append]; exact hly) (h1.app hx) (h2.app hy) q
end
end Dt

set_option Elab.async false
set_option autoImplicit false
set_option linter.all false
set_option maxRecDepth 100000
set_option maxHeartbeats 400000
namespace Dt
open PySem PySem.Spec PyProof.Rows L2 LamX RZ PySem.P
local macro_rules | `(tactic| walk_at "w1") => `(tactic| with_reducible refine StepW.go ?_)
local macro_rules | `(tactic| walk_at "w") => `(tactic| ((repeat walk_at "w1"); try (with_reducible conv => whnf)))
local macro_rules | `(tactic| walk_at "m") => `(tactic| first | with_reducible assumption | with_reducible exact put_same | (with_reducible apply Ext.get; (with_reducible assumption); walk_at "m") | (with_reducible apply Ext.get; (with_reducible apply Ext.new); (with_reducible assumption); walk_at "m"))
local macro_rules | `(tactic| walk_at "x") => `(tactic| first | with_reducible assumption | with_reducible exact Ext.refl | (with_reducible refine Ext.alloc ?_ (by with_reducible assumption) _; walk_at "x") | (with_reducible refine Ext.trans ?_ (by with_reducible assumption); walk_at "x"))
local macro_rules | `(tactic| walk_at "lk") => `(tactic| first | with_reducible exact look1 | ((with_reducible apply lookS); (with_unfolding_all decide); walk_at "lk"))
local macro_rules | `(tactic| walk_at "h1") => `(tactic| (first
  | with_reducible refine StepW.go ?_
  | with_reducible refine StepG.go ?_
  | with_reducible refine w_isTup ?_
  | ((with_reducible refine w_sz ?sz ?_); (case sz => size_fits))
  | ((with_reducible refine w_len ?sz ?_); (case sz => rfl))
  | ((with_reducible refine w_obj (by walk_at "m") ?ob2 ?_); (case ob2 => walk_at "ln"))
  | (with_reducible refine w_lenL (by walk_at "m") ?_) | (with_reducible refine w_seqL (by walk_at "m") ?_) | (with_reducible refine tup_list (by walk_at "m") ?_)
  | (with_reducible refine w_isLst (by walk_at "m") ?_) | (with_reducible refine w_slL (by walk_at "m") ?_)
  | ((with_reducible refine fld_ok (by walk_at "m") ?cl (by walk_at "lk") ?_); (case cl => walk_at "cl"))
  | (with_reducible refine w_lstL (by walk_at "m") ?_) | (with_reducible refine w_dic (by walk_at "m") ?_)
  ))
local macro_rules | `(tactic| walk_at "g1") => `(tactic| first | walk_at "h1" | with_reducible refine StepP.go ?_)
local macro_rules | `(tactic| walk_at "h") => `(tactic| ((repeat walk_at "h1"); try (with_reducible conv => whnf)))
local macro_rules | `(tactic| walk_at "g") => `(tactic| ((repeat walk_at "g1"); try (with_reducible conv => whnf)))
local macro_rules | `(tactic| walk_at "ln") => `(tactic| first | exact look_none (ns := ["row", "signs", "dependent", "places", "taken"]) rfl (by decide) | exact look_none (ns := ["alphabet", "due", "its_left", "signs", "parting"]) rfl (by decide) | exact look_none (ns := ["alphabet", "its_lag", "parting"]) rfl (by decide))
local macro_rules | `(tactic| walk_at "cl") => `(tactic| first | exact CF.get (by with_reducible assumption) (by decide) | exact LF.row (by with_reducible assumption) | exact LF.signs (by with_reducible assumption) | exact LF.dependent (by with_reducible assumption) | exact LF.places (by with_reducible assumption) | exact LF.taken (by with_reducible assumption))
abbrev monNs : List Str := ["alphabet", "due", "its_left", "signs", "parting"]
abbrev watNs : List Str := ["alphabet", "its_lag", "parting"]
theorem LF.of {K : Bd} (h : CF K "Left" leftNs) : LF K := ⟨h.get (by decide), h.get (by decide), h.get (by decide), h.get (by decide), h.get (by decide)⟩
/-- by what a row parts -/
inductive PT where
  | more (s : Str) | couple (a b : Str) (i : Int)
@[reducible] def ptL : PT → List D
  | .more s => [.str "more", .str s]
  | .couple a b i => [.str "couple", .str a, .str b, .int i]
@[reducible] def ptD : Option PT → D
  | none => .non
  | some p => .tup (ptL p)
section
variable {K : Bd} {M M' : DM} {Q : DQ} {A : Alph} {S : Addr → Prop} {x d p t m l : Addr} {due came : List Str} {tk : Str → Nat} {rem : Rem} {part : Option PT}
@[reducible] def monO (K : Bd) (A : Alph) (due : List Str) (x l : Addr) (part : D) : DO := .ins (He.ga K.K "Monitor") [("alphabet", aD A), ("due", Enc.d due), ("its_left", .ref x), ("signs", .ref l), ("parting", part)]
/-- a Monitor: m itself, its Left at x with what is taken at t, its signs at l -/
structure MonAt (K : Bd) (S : Addr → Prop) (M : DM) (m x t l : Addr) (A : Alph) (due : List Str) (rem : Rem) (came : List Str) (part : Option PT) : Prop where
  o : M m = some (monO K A due x l (ptD part))
  left : LeftAt K S M x t A due rem
  lst : M l = some (.lst (came.map .str))
  nm : ¬ S m
  nl : ¬ S l
  lo : lo A came due = some (sg rem)
theorem MonAt.mt (h : MonAt K S M m x t l A due rem came part) : m ≠ t := by
  obtain ⟨⟨d, p, tk, e, f, et, T⟩, sx, nt⟩ := h.left
  intro z; have := h.o; rw [z, et] at this; cases this
theorem MonAt.lt (h : MonAt K S M m x t l A due rem came part) : l ≠ t := by
  obtain ⟨⟨d, p, tk, e, f, et, T⟩, sx, nt⟩ := h.left
  intro z; have := h.lst; rw [z, et] at this; cases this
theorem MonAt.ml (h : MonAt K S M m x t l A due rem came part) : m ≠ l := by
  intro z; have := h.o; rw [z, h.lst] at this; cases this
theorem MonAt.mono (h : MonAt K S M m x t l A due rem came part) (k : ∀ a o, (S a ∨ a = m ∨ a = t ∨ a = l) → M a = some o → M' a = some o) : MonAt K S M' m x t l A due rem came part :=
  ⟨k _ _ (.inr (.inl rfl)) h.o, h.left.mono (fun a o sa e => k a o (.inl sa) e) (fun o e => k _ _ (.inr (.inr (.inl rfl))) e), k _ _ (.inr (.inr (.inr rfl))) h.lst, h.nm, h.nl, h.lo⟩
theorem MonAt.ext (h : MonAt K S M m x t l A due rem came part) (k : Ext M M') : MonAt K S M' m x t l A due rem came part := h.mono fun a o _ e => k a o e
/-- all stays but what stands at these -/
def Fr (F : Addr → Prop) (M M' : DM) : Prop := ∀ a o, ¬ F a → M a = some o → M' a = some o
theorem s_Mon_init (F : LF K) (G : CF K "Monitor" monNs) (g : GoodA A) (hl : due.length ≤ 10000) (hx : M m = some (.ins (He.ga K.K "Monitor") []))
    (q : ∀ M' x t l S, (∀ a o, a ≠ m → M a = some o → M' a = some o) → (∀ a, S a ∨ a = t ∨ a = l → M a = none ∧ M' a ≠ none) → MonAt K S M' m x t l A due due.zipIdx [] none → Q .non M') : sp_Monitor___init__ K [.ref m, aD A, Enc.d due] M Q noX := by
  refine go_Monitor___init__ ?_
  delta t_Monitor___init__
  walk_at "g"
  refine st_ok (G.get (by decide)) hx (fs' := [("alphabet", aD A)]) rfl (by simp) ?_
  walk_at "g"
  refine st_ok (G.get (by decide)) put_same (fs' := [("alphabet", aD A), ("due", Enc.d due)]) rfl (by simp) ?_
  rw [put_put]
  have k1 : ∀ a o, a ≠ m → M a = some o → put M m (.ins (He.ga K.K "Monitor") [("alphabet", aD A), ("due", Enc.d due)]) a = some o := fun a o ha e => by rw [put_ne ha]; exact e
  have hm1 : put M m (.ins (He.ga K.K "Monitor") [("alphabet", aD A), ("due", Enc.d due)]) m = some (.ins (He.ga K.K "Monitor") [("alphabet", aD A), ("due", Enc.d due)]) := put_same
  have n1 : ∀ a, put M m (.ins (He.ga K.K "Monitor") [("alphabet", aD A), ("due", Enc.d due)]) a = none → M a = none := fun a h => by
    by_cases e : a = m
    · rw [e, put_same] at h; cases h
    · rw [put_ne e] at h; exact h
  revert hm1 k1 n1
  generalize put M m (.ins (He.ga K.K "Monitor") [("alphabet", aD A), ("due", Enc.d due)]) = M1
  intro k1 hm1 n1
  walk_at "g"
  refine left_new F g hl fun M2 x t S e2 ht hS L => ?_
  walk_at "g"
  refine st_ok (G.get (by decide)) (e2 _ _ hm1) (fs' := [("alphabet", aD A), ("due", Enc.d due), ("its_left", .ref x)]) rfl (by simp) ?_
  walk_at "g"
  intro l hl3
  walk_at "g"
  have ml : m ≠ l := ne_of_new put_same hl3
  have em3 : put (put M2 m (.ins (He.ga K.K "Monitor") [("alphabet", aD A), ("due", Enc.d due), ("its_left", .ref x)])) l (.lst []) m = some (.ins (He.ga K.K "Monitor") [("alphabet", aD A), ("due", Enc.d due), ("its_left", .ref x)]) := by rw [put_ne ml]; exact put_same
  refine st_ok (G.get (by decide)) em3 (fs' := [("alphabet", aD A), ("due", Enc.d due), ("its_left", .ref x), ("signs", .ref l)]) rfl (by simp) ?_
  walk_at "g"
  refine st_ok (G.get (by decide)) put_same (fs' := [("alphabet", aD A), ("due", Enc.d due), ("its_left", .ref x), ("signs", .ref l), ("parting", .non)]) rfl (by simp) ?_
  rw [put_put]
  have hl2 : M2 l = none := by rw [put_ne (Ne.symm ml)] at hl3; exact hl3
  have sm : ∀ a, S a → a ≠ m := fun a sa z => by have := (hS a sa).1; rw [z, hm1] at this; cases this
  have tm : t ≠ m := fun z => by rw [z, hm1] at ht; cases ht
  have sl : ∀ a, S a → a ≠ l := fun a sa z => (hS a sa).2 (by rw [z]; exact hl2)
  obtain ⟨ot, et⟩ := L.tN
  have tl : t ≠ l := ne_of_new et hl2
  have k : ∀ a o, a ≠ m → M2 a = some o → put (put (put M2 m (.ins (He.ga K.K "Monitor") [("alphabet", aD A), ("due", Enc.d due), ("its_left", .ref x)])) l (.lst [])) m (monO K A due x l .non) a = some o := fun a o ha e => by
    rw [put_ne ha, put_ne (ne_of_new e hl2), put_ne ha]; exact e
  refine q _ x t l S (fun a o ha e => k a o ha (e2 _ _ (k1 a o ha e))) (fun a h => ?_) ⟨put_same, L.mono (fun a o sa e => k a o (sm a sa) e) (fun o e => k _ _ tm e), by rw [put_ne (Ne.symm ml), put_same]; rfl, fun z => sm _ z rfl, fun z => sl _ z rfl, by simp [lo]⟩
  · rcases h with h | rfl | rfl
    · refine ⟨n1 a (hS a h).1, fun z => ?_⟩
      cases e : M2 a with
      | none => exact (hS a h).2 e
      | some o => rw [k a o (sm a h) e] at z; cases z
    · exact ⟨n1 _ ht, fun z => by rw [k _ _ tm et] at z; cases z⟩
    · refine ⟨n1 _ ?_, fun z => by rw [put_ne (Ne.symm ml), put_same] at z; cases z⟩
      cases e : M1 a with
      | none => rfl
      | some o => rw [e2 _ _ e] at hl2; cases hl2
/-- a Monitor that is made -/
theorem mon_new {R : Addr → DM → Prop} (F : LF K) (G : CF K "Monitor" monNs) (g : GoodA A) (hl : due.length ≤ 10000)
    (q : ∀ M' m x t l S, Ext M M' → (∀ a, S a ∨ a = m ∨ a = t ∨ a = l → M a = none ∧ M' a ≠ none) → MonAt K S M' m x t l A due due.zipIdx [] none → R m M') :
    ∀ m, M m = none → sp_Monitor___init__ K [.ref m, aD A, Enc.d due] (put M m (.ins (He.ga K.K "Monitor") [])) (fun v M2 => v = .non ∧ R m M2) noX := by
  intro m hm
  refine s_Mon_init F G g hl put_same fun M' x t l S k hS L => ⟨rfl, ?_⟩
  have n : ∀ a, put M m (.ins (He.ga K.K "Monitor") []) a = none → M a = none := fun a h => by
    by_cases e : a = m
    · rw [e]; exact hm
    · rw [put_ne e] at h; exact h
  refine q M' m x t l S (fun a o e => ?_) (fun a h => ?_) L
  · have e2 : a ≠ m := ne_of_new e hm
    exact k a o e2 (by rw [put_ne e2]; exact e)
  · rcases h with h | rfl | h
    · exact ⟨n a (hS a (.inl h)).1, (hS a (.inl h)).2⟩
    · exact ⟨hm, fun z => by rw [L.o] at z; cases z⟩
    · exact ⟨n a (hS a (.inr h)).1, (hS a (.inr h)).2⟩
theorem s_Mon_left (F : LF K) (G : CF K "Monitor" monNs) (g : GoodA A) (hl : due.length ≤ 10000) (hr : InA A due) (h : MonAt K S M m x t l A due rem came part) (q : ∀ M', Ext M M' → Q (if part.isSome then .non else Enc.d (nf A (sg rem))) M') : sp_Monitor_left K [.ref m] M Q noX := by
  have ho := h.o
  obtain ⟨d, p, ex⟩ := h.left.o
  have hin : InA A (sg rem) := fun s hs => by obtain ⟨p, hp, rfl⟩ := List.mem_map.mp hs; exact h.left.in hr p hp
  refine go_Monitor_left ?_
  delta t_Monitor_left
  cases part with
  | none =>
    walk_at "g"
    refine s_left F g h.left hl hr fun M1 e1 => ?_
    walk_at "g"
    refine s_normal F g ?_ hin fun M2 e2 => q _ (e1.trans e2)
    have := lo_sub came due _ h.lo
    exact Nat.le_trans this.length_le hl
  | some p =>
    walk_at "g"
    exact q _ .refl
theorem s_Mon_done (F : LF K) (G : CF K "Monitor" monNs) (g : GoodA A) (hl : due.length ≤ 10000) (hr : InA A due) (h : MonAt K S M m x t l A due rem came part) (q : ∀ M', Ext M M' → Q (.bl (decide (part = none ∧ sg rem = []))) M') : sp_Monitor_is_done K [.ref m] M Q noX := by
  have ho := h.o
  obtain ⟨d, p, ex⟩ := h.left.o
  refine go_Monitor_is_done ?_
  delta t_Monitor_is_done
  cases part with
  | none =>
    walk_at "g"
    refine s_left F g h.left hl hr fun M1 e1 => ?_
    walk_at "g"
    refine eq_enc (α := List Str) (a := sg rem) (b := []) decide_eq_true_iff (by decide) ?_
    have e : decide (sg rem = []) = decide ((none : Option PT) = none ∧ sg rem = []) := by simp
    rw [e]
    exact q _ e1
  | some p =>
    walk_at "g"
    have e : false = decide ((some p : Option PT) = none ∧ sg rem = []) := by simp
    rw [e]
    exact q _ .refl
theorem s_Mon_came (G : CF K "Monitor" monNs) (h : MonAt K S M m x t l A due rem came part) (q : Q (Enc.d came) M) : sp_Monitor_came K [.ref m] M Q noX := by
  have ho := h.o
  have hl := h.lst
  refine go_Monitor_came ?_
  delta t_Monitor_came
  walk_at "g"
  exact q
/-! ### put -/
def pmore (s : Str) : Option PT := some (.more s)
/-- a couple by which a row, s its last sign, parts from what is due -/
def cpl (A : Alph) (due row : List Str) (s : Str) (c : Str × Str) : Bool := decide (s ∈ [c.1, c.2]) && !decide (row.filter (fun s => decide (s ∈ [c.1, c.2])) = (due.filter (fun s => decide (s ∈ [c.1, c.2]))).take (row.filter (fun s => decide (s ∈ [c.1, c.2]))).length)
def toldP (A : Alph) (due came : List Str) (s : Str) : Option PT :=
  if due.count s < (came ++ [s]).count s then some (.more s)
  else ((dcs A).find? (cpl A due (came ++ [s]) s)).map fun c => .couple c.1 c.2 (((came ++ [s]).filter (fun s => decide (s ∈ [c.1, c.2]))).length - 1)
theorem find_at {α : Type} {xs : List α} {p : α → Bool} {i : Nat} {x : α} (h : xs[i]? = some x) (hp : p x = true) (ha : ∀ y ∈ xs.take i, p y = false) : xs.find? p = some x := by
  have e : xs = xs.take i ++ x :: xs.drop (i + 1) := by rw [← drop_get h, List.take_append_drop]
  rw [e, List.find?_append]
  have : (xs.take i).find? p = none := List.find?_eq_none.mpr fun y hy => by rw [ha y hy]; simp
  rw [this, List.find?_cons_of_pos hp]; rfl
theorem lo_count (g : GoodA A) {g' r z : List Str} (h : lo A g' r = some z) (s : Str) : r.count s = g'.count s + z.count s := by
  rw [lo_eq] at h
  have := Tr.Tq.count (fr_fs g) (Tr.lo_some fr_fc h) s
  rw [List.count_append] at this
  exact this.symm
theorem s_Mon_told (F : LF K) (G : CF K "Monitor" monNs) (g : GoodA A) (hl : due.length ≤ 10000) (h : MonAt K S M m x t l A due rem came none) {s : Str} (hs : s ∈ A.signs) (q : ∀ M', Ext M M' → Q (ptD (toldP A due came s)) M') : sp_Monitor_told K [.ref m, .str s] M Q noX := by
  have ho := h.o
  have hls := h.lst
  obtain ⟨d, p, ex⟩ := h.left.o
  have hcl : came.length ≤ 10000 := by
    have h1 := Tr.Tq.length (fr_fs g) (Tr.lo_some fr_fc (show Tr.lo (fr A) came due = some (sg rem) from by rw [← lo_eq]; exact h.lo))
    rw [List.length_append] at h1; omega
  have hct := lo_count g h.lo s
  refine go_Monitor_told ?_
  delta t_Monitor_told
  walk_at "g"
  refine s_place F h.left hs ?_
  cases hp : pl rem s with
  | none =>
    have : due.count s < (came ++ [s]).count s := by
      rw [List.count_append, hct, List.count_eq_zero_of_not_mem (pl_none.mp hp)]; simp
    walk_at "g"
    unfold toldP at q
    rw [if_pos this] at q
    exact q _ .refl
  | some n =>
    have hm : s ∈ sg rem := List.mem_map_of_mem (f := fun p : Str × Nat => p.1) (pl_mem hp)
    have : ¬ due.count s < (came ++ [s]).count s := by
      have := List.count_pos_iff.mpr hm
      rw [List.count_append, hct]; simp; omega
    unfold toldP at q
    rw [if_neg this] at q
    walk_at "g"
    refine add_tup ?_ ?_
    · rw [List.length_map]; exact Nat.le_trans (Nat.add_le_add_right hcl 1) (by size_fits)
    rw [show (came.map D.str ++ [D.str s]) = (came ++ [s]).map Enc.d from by rw [List.map_append]; rfl]
    walk_at "g"
    have hz : (came ++ [s]).length ≤ sizeLine := by rw [List.length_append]; exact Nat.le_trans (Nat.add_le_add_right hcl 1) (by size_fits)
    refine s_dependent_couples g fun M1 e1 => ?_
    walk_at "g"
    refine for_inv ((dcs A).map Enc.d) (fun i σ' M' => (∃ u v y z, σ' = [some (.ref m), some (.str s), some (Enc.d (came ++ [s])), u, v, y, z]) ∧ Ext M M' ∧ ∀ c ∈ (dcs A).take i, cpl A due (came ++ [s]) s c = false) (fun _ _ _ _ _ => rfl) ⟨⟨_, _, _, _, rfl⟩, e1, by simp⟩ ?_ ?_
    · rintro i c σ' M' hc ⟨⟨u, v, y, z, rfl⟩, e, hall⟩ Kt kt
      rw [List.getElem?_map] at hc
      cases hx : (dcs A)[i]? with
      | none => rw [hx] at hc; cases hc
      | some ab =>
        rw [hx] at hc; cases hc
        obtain ⟨a, b⟩ := ab
        walk_at "g"
        refine s_cut hz fun M2 e2 => ?_
        walk_at "g"
        refine s_cut (Nat.le_trans hl (by size_fits)) fun M3 e3 => ?_
        walk_at "g"
        refine mem_enc (α := Str) (xs := [a, b]) (b := decide (s ∈ [a, b])) decide_eq_true_iff (by decide) ?_
        have hcp : cpl A due (came ++ [s]) s (a, b) = (decide (s ∈ [a, b]) && !decide ((came ++ [s]).filter (fun s => decide (s ∈ [a, b])) = (due.filter (fun s => decide (s ∈ [a, b]))).take ((came ++ [s]).filter (fun s => decide (s ∈ [a, b]))).length)) := rfl
        have next : cpl A due (came ++ [s]) s (a, b) = false → ∀ σ2, (∃ u v y z, σ2 = [some (D.ref m), some (.str s), some (Enc.d (came ++ [s])), u, v, y, z]) → Kt σ2 M3 := fun hc σ2 hσ => kt _ _ ⟨hσ, e.trans (e2.trans e3), fun c' hc' => by
          rw [take_succ_get hx] at hc'
          rcases List.mem_append.mp hc' with h | h
          · exact hall c' h
          · rw [List.mem_singleton.mp h]; exact hc⟩
        cases h1 : decide (s ∈ [a, b])
        · rw [h1] at hcp
          walk_at "g"
          exact next hcp _ ⟨_, _, _, _, rfl⟩
        · rw [h1] at hcp
          walk_at "g"
          rw [cut_to, ← List.map_take]
          refine ne_enc (α := List Str) decide_eq_true_iff (by decide) ?_
          rw [show (true && !decide ((came ++ [s]).filter (fun s => decide (s ∈ [a, b])) = (due.filter (fun s => decide (s ∈ [a, b]))).take ((came ++ [s]).filter (fun s => decide (s ∈ [a, b]))).length)) = !decide ((came ++ [s]).filter (fun s => decide (s ∈ [a, b])) = (due.filter (fun s => decide (s ∈ [a, b]))).take ((came ++ [s]).filter (fun s => decide (s ∈ [a, b]))).length) from rfl] at hcp
          cases h2 : decide ((came ++ [s]).filter (fun s => decide (s ∈ [a, b])) = (due.filter (fun s => decide (s ∈ [a, b]))).take ((came ++ [s]).filter (fun s => decide (s ∈ [a, b]))).length)
          · rw [h2] at hcp
            walk_at "g"
            rw [find_at hx hcp hall] at q
            exact q _ (e.trans (e2.trans e3))
          · rw [h2] at hcp
            walk_at "g"
            exact next hcp _ ⟨_, _, _, _, rfl⟩
    · rintro σ' M' ⟨⟨u, v, y, z, rfl⟩, e, hall⟩
      rw [List.length_map, List.take_length] at hall
      walk_at "g"
      have : (dcs A).find? (cpl A due (came ++ [s]) s) = none := List.find?_eq_none.mpr fun y hy => by rw [hall y hy]; simp
      rw [this] at q
      exact q _ e
end
end Dt

set_option Elab.async false
set_option autoImplicit false
set_option linter.all false
set_option maxRecDepth 100000
set_option maxHeartbeats 400000
namespace Dt
open PySem PySem.Spec PyProof.Rows L2 LamX RZ PySem.P
local macro_rules | `(tactic| walk_at "w1") => `(tactic| with_reducible refine StepW.go ?_)
local macro_rules | `(tactic| walk_at "w") => `(tactic| ((repeat walk_at "w1"); try (with_reducible conv => whnf)))
local macro_rules | `(tactic| walk_at "m") => `(tactic| first | with_reducible assumption | with_reducible exact put_same | (with_reducible apply Ext.get; (with_reducible assumption); walk_at "m") | (with_reducible apply Ext.get; (with_reducible apply Ext.new); (with_reducible assumption); walk_at "m"))
local macro_rules | `(tactic| walk_at "x") => `(tactic| first | with_reducible assumption | with_reducible exact Ext.refl | (with_reducible refine Ext.alloc ?_ (by with_reducible assumption) _; walk_at "x") | (with_reducible refine Ext.trans ?_ (by with_reducible assumption); walk_at "x"))
local macro_rules | `(tactic| walk_at "lk") => `(tactic| first | with_reducible exact look1 | ((with_reducible apply lookS); (with_unfolding_all decide); walk_at "lk"))
local macro_rules | `(tactic| walk_at "h1") => `(tactic| (first
  | with_reducible refine StepW.go ?_
  | with_reducible refine StepG.go ?_
  | with_reducible refine w_isTup ?_
  | ((with_reducible refine w_sz ?sz ?_); (case sz => size_fits))
  | ((with_reducible refine w_len ?sz ?_); (case sz => rfl))
  | ((with_reducible refine w_obj (by walk_at "m") ?ob2 ?_); (case ob2 => walk_at "ln"))
  | (with_reducible refine w_lenL (by walk_at "m") ?_) | (with_reducible refine w_seqL (by walk_at "m") ?_) | (with_reducible refine tup_list (by walk_at "m") ?_)
  | (with_reducible refine w_isLst (by walk_at "m") ?_) | (with_reducible refine w_slL (by walk_at "m") ?_)
  | ((with_reducible refine fld_ok (by walk_at "m") ?cl (by walk_at "lk") ?_); (case cl => walk_at "cl"))
  | (with_reducible refine w_lstL (by walk_at "m") ?_) | (with_reducible refine w_dic (by walk_at "m") ?_)
  ))
local macro_rules | `(tactic| walk_at "g1") => `(tactic| first | walk_at "h1" | with_reducible refine StepP.go ?_)
local macro_rules | `(tactic| walk_at "h") => `(tactic| ((repeat walk_at "h1"); try (with_reducible conv => whnf)))
local macro_rules | `(tactic| walk_at "g") => `(tactic| ((repeat walk_at "g1"); try (with_reducible conv => whnf)))
local macro_rules | `(tactic| walk_at "ln") => `(tactic| first | exact look_none (ns := ["row", "signs", "dependent", "places", "taken"]) rfl (by decide) | exact look_none (ns := ["alphabet", "due", "its_left", "signs", "parting"]) rfl (by decide) | exact look_none (ns := ["alphabet", "its_lag", "parting"]) rfl (by decide))
local macro_rules | `(tactic| walk_at "cl") => `(tactic| first | exact CF.get (by with_reducible assumption) (by decide) | exact LF.row (by with_reducible assumption) | exact LF.signs (by with_reducible assumption) | exact LF.dependent (by with_reducible assumption) | exact LF.places (by with_reducible assumption) | exact LF.taken (by with_reducible assumption))
section
variable {K : Bd} {M M' : DM} {Q : DQ} {A : Alph} {S : Addr → Prop} {x d p t m l : Addr} {due came row : List Str} {tk : Str → Nat} {rem : Rem} {part : Option PT}
theorem ne_of {S : Addr → Prop} {a b : Addr} (h : ¬ S b) (sa : S a) : a ≠ b := fun z => h (z ▸ sa)
/-- one sign more -/
def monStep (A : Alph) (due : List Str) (st : List Str × Option PT) (s : Str) : List Str × Option PT :=
  if st.2.isSome then st else if (lo A (st.1 ++ [s]) due).isSome then (st.1 ++ [s], none) else (st.1, toldP A due st.1 s)
theorem s_Mon_put (F : LF K) (G : CF K "Monitor" monNs) (g : GoodA A) (hl : due.length ≤ 10000) (hr : InA A due) (h : MonAt K S M m x t l A due rem came part) {s : Str} (hs : s ∈ A.signs)
    (q : ∀ M' rem', (∀ a o, a ≠ m → a ≠ t → a ≠ l → M a = some o → M' a = some o) → MonAt K S M' m x t l A due rem' (monStep A due (came, part) s).1 (monStep A due (came, part) s).2 → Q (ptD (monStep A due (came, part) s).2) M') : sp_Monitor_put K [.ref m, .str s] M Q noX := by
  have ho := h.o
  have hls := h.lst
  obtain ⟨d, p, ex⟩ := h.left.o
  have hlo : (lo A (came ++ [s]) due).isSome = fstB A (sg rem) s := by
    rw [lo_snoc, h.lo]
    show (if fstB A (sg rem) s = true then _ else _ : Option (List Str)).isSome = _
    cases fstB A (sg rem) s <;> rfl
  refine go_Monitor_put ?_
  delta t_Monitor_put
  walk_at "g"
  refine s_check_sign hs ?_
  cases part with
  | some p =>
    have e : monStep A due (came, some p) s = (came, some p) := rfl
    rw [e] at q
    walk_at "g"
    exact q M rem (fun a o _ _ _ e => e) h
  | none =>
    walk_at "g"
    refine s_can_be_first F h.left hr hs fun M1 e1 => ?_
    cases hb : fstB A (sg rem) s
    · have e : monStep A due (came, none) s = (came, toldP A due came s) := by
        unfold monStep
        rw [hlo, hb]; rfl
      rw [e] at q
      have h1 := h.ext e1
      have ho1 := h1.o
      walk_at "g"
      refine s_Mon_told F G g hl h1 hs fun M2 e2 => ?_
      have h2 := h1.ext e2
      have ho2 := h2.o
      walk_at "g"
      refine st_ok (G.get (by decide)) ho2 (fs' := [("alphabet", aD A), ("due", Enc.d due), ("its_left", .ref x), ("signs", .ref l), ("parting", ptD (toldP A due came s))]) rfl (by simp) ?_
      have hm : put M2 m (.ins (He.ga K.K "Monitor") [("alphabet", aD A), ("due", Enc.d due), ("its_left", .ref x), ("signs", .ref l), ("parting", ptD (toldP A due came s))]) m = some (monO K A due x l (ptD (toldP A due came s))) := put_same
      walk_at "g"
      exact q _ rem (fun a o ha _ _ e => by rw [put_ne ha]; exact e2 _ _ (e1 _ _ e)) ⟨hm, h2.left.mono (fun a o sa e => by rw [put_ne (ne_of h.nm sa)]; exact e) (fun o e => by rw [put_ne (Ne.symm h.mt)]; exact e), by rw [put_ne (Ne.symm h.ml)]; exact h2.lst, h.nm, h.nl, h.lo⟩
    · have e : monStep A due (came, none) s = (came ++ [s], none) := by
        unfold monStep
        rw [hlo, hb]; rfl
      rw [e] at q
      have h1 := h.ext e1
      have ho1 := h1.o
      have hcl : came.length ≤ 10000 := by
        have h1 := Tr.Tq.length (fr_fs g) (Tr.lo_some fr_fc (show Tr.lo (fr A) came due = some (sg rem) from by rw [← lo_eq]; exact h.lo))
        rw [List.length_append] at h1; omega
      walk_at "g"
      refine s_take F g h1.left hs (fstB_mem hb) fun M2 k2 L2 => ?_
      have ho2 := k2 _ _ h.mt ho1
      have hl2 := k2 _ _ h.lt h1.lst
      walk_at "g"
      refine w_app hl2 (by rw [List.length_map]; exact Nat.lt_of_le_of_lt hcl (by size_fits)) ?_
      have ho3 : put M2 l (.lst (came.map D.str ++ [D.str s])) m = some (monO K A due x l (ptD none)) := by rw [put_ne h.ml]; exact ho2
      walk_at "g"
      refine q _ (tkOne rem s) (fun a o hm ht hl e => by rw [put_ne hl]; exact k2 _ _ ht (e1 _ _ e)) ⟨ho3, L2.mono (fun a o sa e => by rw [put_ne (ne_of h.nl sa)]; exact e) (fun o e => by rw [put_ne (Ne.symm h.lt)]; exact e), by rw [put_same]; simp, h.nm, h.nl, ?_⟩
      rw [lo_snoc, h.lo]
      show (if fstB A (sg rem) s = true then _ else _ : Option (List Str)) = _
      rw [hb, if_pos rfl]
      exact congrArg some (tkOne_map rem s).symm
theorem LeftFix.put (h : LeftFix S M A row d p) {C : Addr} {fs : List (Str × D)} (hx : M x = some (.ins C fs)) (o : DO) : LeftFix S (put M x o) A row d p := by
  have k : ∀ a u, (∀ C fs, u ≠ .ins C fs) → M a = some u → Dt.put M x o a = some u := fun a u hu e => by
    rw [put_ne (fun z => by rw [z, hx] at e; exact hu _ _ (Option.some.inj e).symm)]; exact e
  obtain ⟨sd, sp, ⟨da, e1, h1⟩, ⟨pa, e2, h2⟩⟩ := h
  exact ⟨sd, sp, ⟨da, k _ _ (fun _ _ z => nomatch z) e1, fun s hs => ⟨(h1 s hs).1, let ⟨ds, e, r⟩ := (h1 s hs).2; ⟨ds, k _ _ (fun _ _ z => nomatch z) e, r⟩⟩⟩, ⟨pa, k _ _ (fun _ _ z => nomatch z) e2, fun s hs => ⟨(h2 s hs).1, k _ _ (fun _ _ z => nomatch z) (h2 s hs).2⟩⟩⟩
theorem s_Mon_twin (F : LF K) (G : CF K "Monitor" monNs) (g : GoodA A) (hl : due.length ≤ 10000) (h : MonAt K S M m x t l A due rem came part)
    (q : ∀ M' m' x' t' l' S', Ext M M' → MonAt K S' M' m' x' t' l' A due rem came part → Q (.ref m') M') : sp_Monitor_twin K [.ref m] M Q noX := by
  have ho := h.o
  refine go_Monitor_twin ?_
  delta t_Monitor_twin
  walk_at "g"
  refine mon_new F G g hl fun M1 m1 x1 t1 l1 S1 e1 hS h1 => ?_
  have ho1 := h1.o
  have h' := h.ext e1
  have ho' := h'.o
  obtain ⟨⟨d, p, tk, ex, f, et, T⟩, sx, nt⟩ := h'.left
  have fresh : ∀ a o, M a = some o → a ≠ m1 ∧ a ≠ x1 ∧ a ≠ t1 ∧ a ≠ l1 := fun a o e => by
    refine ⟨?_, ?_, ?_, ?_⟩
    · exact ne_of_new e (hS m1 (.inr (.inl rfl))).1
    · exact ne_of_new e (hS x1 (.inl h1.left.sx)).1
    · exact ne_of_new e (hS t1 (.inr (.inr (.inl rfl)))).1
    · exact ne_of_new e (hS l1 (.inr (.inr (.inr rfl)))).1
  have mm1 := (fresh _ _ ho).1
  have xm : M x ≠ none := by
    obtain ⟨d, p, e⟩ := h.left.o
    rw [e]; exact fun z => nomatch z
  obtain ⟨⟨d1, p1, tk1, ex1, f1, et1, T1⟩, sx1, nt1⟩ := h1.left
  walk_at "g"
  have et' : M1 t = some (.dK _) := et
  refine w_dic et' fun t2 ht2 => ?_
  have et2 : put M1 t2 (.dK (A.signs.map fun s => (.inr s, .int (tk s : Nat)))) t2 = some (tkO A tk) := put_same
  have e2 := Ext.new ht2 (.dK (A.signs.map fun s => ((.inr s : Key), D.int (tk s : Nat))))
  revert et2 e2
  generalize put M1 t2 (.dK (A.signs.map fun s => ((.inr s : Key), D.int (tk s : Nat)))) = M2
  intro et2 e2
  have ex2 := e2 _ _ ex1
  walk_at "g"
  refine st_ok F.taken ex2 (fs' := [("row", Enc.d due), ("signs", .tup (A.signs.map .str)), ("dependent", .ref d1), ("places", .ref p1), ("taken", .ref t2)]) rfl (by simp) ?_
  have x1m1 : x1 ≠ m1 := fun z => by
    rw [z, ho1] at ex1
    have := (DO.ins.inj (Option.some.inj ex1)).2
    simp at this
  have hx3 : put M2 x1 (leftO K A due d1 p1 t2) x1 = some (leftO K A due d1 p1 t2) := put_same
  have k3 : ∀ a o, a ≠ x1 → M2 a = some o → put M2 x1 (leftO K A due d1 p1 t2) a = some o := fun a o ha e => by rw [put_ne ha]; exact e
  have f3 := (f1.mono fun a o _ e => e2 a o e).put ex2 (leftO K A due d1 p1 t2)
  revert hx3 k3 f3
  generalize put M2 x1 (leftO K A due d1 p1 t2) = M3
  intro hx3 k3 f3
  have sm3 : ∀ a o, M a = some o → M3 a = some o := fun a o e => k3 _ _ (fresh a o e).2.1 (e2 _ _ (e1 _ _ e))
  have ho3 := sm3 _ _ ho
  have hl3 := sm3 _ _ h.lst
  have hm3 := k3 _ _ (Ne.symm x1m1) (e2 _ _ ho1)
  walk_at "g"
  intro l3 hl3n
  walk_at "g"
  have hm4 := (Ext.new hl3n (.lst (came.map D.str))) _ _ hm3
  refine st_okG (G.get (by decide)) hm4 (fs' := [("alphabet", aD A), ("due", Enc.d due), ("its_left", .ref x1), ("signs", .ref l3), ("parting", .non)]) rfl (by simp) ?_
  walk_at "g"
  refine st_ok (G.get (by decide)) put_same (fs' := [("alphabet", aD A), ("due", Enc.d due), ("its_left", .ref x1), ("signs", .ref l3), ("parting", ptD part)]) rfl (by simp) ?_
  rw [put_put]
  have t2n : t2 ≠ x1 := fun z => by rw [z, ex2] at et2; cases et2
  have et3 := k3 _ _ t2n et2
  have m1l : m1 ≠ l3 := ne_of_new hm3 hl3n
  have k5 : ∀ a o, a ≠ m1 → M3 a = some o → put (put M3 l3 (.lst (came.map D.str))) m1 (monO K A due x1 l3 (ptD part)) a = some o := fun a o ha e => by rw [put_ne ha, put_ne (ne_of_new e hl3n)]; exact e
  have sm1 : ∀ a, S1 a → a ≠ m1 := fun a sa z => h1.nm (z ▸ sa)
  have sl3 : ∀ a, S1 a → a ≠ l3 := fun a sa z => by
    have h5 := (hS a (.inl sa)).2
    cases e : M1 a with
    | none => exact h5 e
    | some o =>
      by_cases hx : a = x1
      · rw [← z, hx, hx3] at hl3n; cases hl3n
      · rw [← z, k3 _ _ hx (e2 _ _ e)] at hl3n; cases hl3n
  have nt2 : ¬ S1 t2 := fun z => by
    have h5 := (hS t2 (.inl z)).2
    exact h5 ht2
  walk_at "g"
  refine q _ m1 x1 t2 l3 S1 (fun a o e => k5 _ _ (fresh a o e).1 (sm3 a o e)) ⟨put_same, ⟨⟨d1, p1, tk, k5 _ _ x1m1 hx3, f3.mono fun a o sa e => k5 _ _ (sm1 a sa) e, k5 _ _ (fun z => by rw [z, e2 _ _ ho1] at et2; cases et2) et3, T⟩, sx1, nt2⟩, by rw [put_ne (Ne.symm m1l), put_same], h1.nm, fun z => sl3 _ z rfl, h.lo⟩
end
end Dt

set_option Elab.async false
set_option autoImplicit false
set_option linter.all false
set_option maxRecDepth 100000
set_option maxHeartbeats 400000
namespace Dt
open PySem PySem.Spec PyProof.Rows L2 LamX RZ PySem.P
local macro_rules | `(tactic| walk_at "w1") => `(tactic| with_reducible refine StepW.go ?_)
local macro_rules | `(tactic| walk_at "w") => `(tactic| ((repeat walk_at "w1"); try (with_reducible conv => whnf)))
local macro_rules | `(tactic| walk_at "m") => `(tactic| first | with_reducible assumption | with_reducible exact put_same | (with_reducible apply Ext.get; (with_reducible assumption); walk_at "m") | (with_reducible apply Ext.get; (with_reducible apply Ext.new); (with_reducible assumption); walk_at "m"))
local macro_rules | `(tactic| walk_at "x") => `(tactic| first | with_reducible assumption | with_reducible exact Ext.refl | (with_reducible refine Ext.alloc ?_ (by with_reducible assumption) _; walk_at "x") | (with_reducible refine Ext.trans ?_ (by with_reducible assumption); walk_at "x"))
local macro_rules | `(tactic| walk_at "lk") => `(tactic| first | with_reducible exact look1 | ((with_reducible apply lookS); (with_unfolding_all decide); walk_at "lk"))
local macro_rules | `(tactic| walk_at "h1") => `(tactic| (first
  | with_reducible refine StepW.go ?_
  | with_reducible refine StepG.go ?_
  | with_reducible refine w_isTup ?_
  | ((with_reducible refine w_sz ?sz ?_); (case sz => size_fits))
  | ((with_reducible refine w_len ?sz ?_); (case sz => rfl))
  | ((with_reducible refine w_obj (by walk_at "m") ?ob2 ?_); (case ob2 => walk_at "ln"))
  | (with_reducible refine w_lenL (by walk_at "m") ?_) | (with_reducible refine w_seqL (by walk_at "m") ?_) | (with_reducible refine tup_list (by walk_at "m") ?_)
  | (with_reducible refine w_isLst (by walk_at "m") ?_) | (with_reducible refine w_slL (by walk_at "m") ?_)
  | ((with_reducible refine fld_ok (by walk_at "m") ?cl (by walk_at "lk") ?_); (case cl => walk_at "cl"))
  | (with_reducible refine w_lstL (by walk_at "m") ?_) | (with_reducible refine w_dic (by walk_at "m") ?_)
  ))
local macro_rules | `(tactic| walk_at "g1") => `(tactic| first | walk_at "h1" | with_reducible refine StepP.go ?_)
local macro_rules | `(tactic| walk_at "h") => `(tactic| ((repeat walk_at "h1"); try (with_reducible conv => whnf)))
local macro_rules | `(tactic| walk_at "g") => `(tactic| ((repeat walk_at "g1"); try (with_reducible conv => whnf)))
local macro_rules | `(tactic| walk_at "ln") => `(tactic| first | exact look_none (ns := ["row", "signs", "dependent", "places", "taken"]) rfl (by decide) | exact look_none (ns := ["alphabet", "due", "its_left", "signs", "parting"]) rfl (by decide) | exact look_none (ns := ["alphabet", "its_lag", "parting"]) rfl (by decide))
local macro_rules | `(tactic| walk_at "cl") => `(tactic| first | exact CF.get (by with_reducible assumption) (by decide) | exact LF.row (by with_reducible assumption) | exact LF.signs (by with_reducible assumption) | exact LF.dependent (by with_reducible assumption) | exact LF.places (by with_reducible assumption) | exact LF.taken (by with_reducible assumption))
section
variable {K : Bd} {M M' : DM} {Q : DQ} {A : Alph} {w : Addr} {part : Option (Str × Str)} {lg : List Str × List Str}
/-- all couples of two rows that are not free, in order -/
def metL (A : Alph) (x y : List Str) : List (Str × Str) := x.flatMap fun a => (y.filter fun b => !fr A a b).map fun b => (minS a b, maxS a b)
/-- the least of some couples -/
def minC : List (Str × Str) → Option (Str × Str)
  | [] => none
  | c :: cs => some (cs.foldl (fun m d => if PySem.W.dataLt (Enc.p d) (Enc.p m) then d else m) c)
def metP (A : Alph) (lg : List Str × List Str) : Option (Str × Str) := minC (metL A lg.1 lg.2)
theorem enc_inj {α : Type} [Enc α] {a b : α} (h : Enc.p a = Enc.p b) : a = b := (Enc.eqv a b).mp (by rw [h]; exact (Enc.eqv b b).mpr rfl)
theorem minD_enc (c : Str × Str) (cs : List (Str × Str)) : PySem.W.minD (Enc.p c) (cs.map Enc.p) = Enc.p (cs.foldl (fun m d => if PySem.W.dataLt (Enc.p d) (Enc.p m) then d else m) c) := by
  unfold PySem.W.minD
  induction cs generalizing c with
  | nil => rfl
  | cons d cs ih =>
    simp only [List.map_cons, List.foldl_cons]
    rw [← ih]
    congr 1
    split <;> rfl
theorem w_minC {a : Addr} {c : Str × Str} {cs : List (Str × Str)} (e : M a = some (.lst ((c :: cs).map Enc.d))) (q : ∀ m, minC (c :: cs) = some m → Q (Enc.d m) M) : minLD [.ref a] M Q := by
  refine ⟨(c :: cs).map Enc.d, Enc.p c, cs.map Enc.p, e, pyOfs_map M 20 (by decide) (c :: cs), ⟨fun x hx y hy => ?_, fun x hx => ?_⟩, fun i d hd hp => ?_⟩
  · rw [← List.map_cons] at hx hy
    obtain ⟨u, _, rfl⟩ := List.mem_map.mp hx
    obtain ⟨v, _, rfl⟩ := List.mem_map.mp hy
    rfl
  · rw [← List.map_cons] at hx
    obtain ⟨u, _, rfl⟩ := List.mem_map.mp hx
    exact fun z => nomatch z
  · rw [← List.map_cons, List.getElem?_map] at hp
    rw [List.getElem?_map] at hd
    cases hx : (c :: cs)[i]? with
    | none => rw [hx] at hd; cases hd
    | some u =>
      rw [hx] at hd hp
      cases hd
      have h2 : Enc.p u = PySem.W.minD (Enc.p c) (cs.map Enc.p) := Option.some.inj hp
      rw [minD_enc] at h2
      rw [enc_inj h2]
      exact q _ rfl
@[reducible] def wpD : Option (Str × Str) → D
  | none => .non
  | some p => .tup [.str "couple", .str p.1, .str p.2]
@[reducible] def watO (K : Bd) (A : Alph) (lg : List Str × List Str) (part : Option (Str × Str)) : DO := .ins (He.ga K.K "Watch") [("alphabet", aD A), ("its_lag", Enc.d lg), ("parting", wpD part)]
theorem wat_new {R : Addr → DM → Prop} (G : CF K "Watch" watNs) (q : ∀ M' w, Ext M M' → M w = none → M' w = some (watO K A ([], []) none) → R w M') :
    ∀ w, M w = none → sp_Watch___init__ K [.ref w, aD A] (put M w (.ins (He.ga K.K "Watch") [])) (fun v M2 => v = .non ∧ R w M2) noX := by
  intro w hw
  refine go_Watch___init__ ?_
  delta t_Watch___init__
  walk_at "g"
  refine st_ok (G.get (by decide)) put_same (fs' := [("alphabet", aD A)]) rfl (by simp) ?_
  walk_at "g"
  refine st_ok (G.get (by decide)) put_same (fs' := [("alphabet", aD A), ("its_lag", Enc.d (([], []) : List Str × List Str))]) rfl (by simp) ?_
  walk_at "g"
  refine st_ok (P := fun M => D.non = .non ∧ R w M) (G.get (by decide)) put_same (fs' := [("alphabet", aD A), ("its_lag", Enc.d (([], []) : List Str × List Str)), ("parting", .non)]) rfl (by simp) ?_
  rw [put_put, put_put, put_put]
  exact ⟨rfl, q _ w (Ext.new hw _) hw put_same⟩
theorem s_Watch_told (G : CF K "Watch" watNs) (g : GoodA A) (hw : M w = some (watO K A lg part)) (h1 : InA A lg.1) (h2 : InA A lg.2) (hl : lg.1.length * lg.2.length ≤ 1000000) (hl2 : lg.2.length ≤ 1000000) (q : ∀ M', Ext M M' → Q (wpD (metP A lg)) M') : sp_Watch_told K [.ref w] M Q noX := by
  obtain ⟨xs, ys⟩ := lg
  refine go_Watch_told ?_
  delta t_Watch_told
  walk_at "g"
  refine lc2_inv (xs.map .str) (fun i acc M' => Ext M M' ∧ acc = (metL A (xs.take i) ys).map Enc.d) (fun i acc M' _ _ => rfl) ⟨.refl, rfl⟩ ?_ ?_
  · rintro i d acc M2 hd ⟨e2, rfl⟩ C cC
    rw [List.getElem?_map] at hd
    cases hx : xs[i]? with
    | none => rw [hx] at hd; cases hd
    | some a =>
      rw [hx] at hd; cases hd
      have ha := h1 a (List.mem_of_getElem? hx)
      have hi := (List.getElem?_eq_some_iff.mp hx).1
      have hlen : ∀ n ws, (metL A (xs.take n) ws).length ≤ n * ws.length := by
        intro n ws
        unfold metL
        rw [List.length_flatMap]
        have : ∀ zs : List Str, ((zs.map fun a => ((ws.filter fun b => !fr A a b).map fun b => (minS a b, maxS a b)).length)).sum ≤ zs.length * ws.length := by
          intro zs
          induction zs with
          | nil => simp
          | cons z zs ih =>
            simp only [List.map_cons, List.sum_cons, List.length_cons, List.length_map]
            have := List.length_filter_le (fun b => !fr A z b) ws
            rw [Nat.add_mul]
            simp only [List.length_map] at ih
            omega
        exact Nat.le_trans (this _) (Nat.mul_le_mul_right _ (by rw [List.length_take]; exact Nat.min_le_left _ _))
      walk_at "g"
      refine lc2In_inv (ys.map .str) (fun k acc M' => Ext M M' ∧ acc = (metL A (xs.take i) ys ++ ((ys.take k).filter fun b => !fr A a b).map fun b => (minS a b, maxS a b)).map Enc.d) (fun k acc M' _ _ => rfl) ⟨e2, by simp⟩ (fun k acc M' h hk => ?_) ?_ ?_
      · rw [h.2, List.length_map, List.length_append, List.length_map]
        have h3 := hlen i ys
        have h4 := List.length_filter_le (fun b => !fr A a b) (ys.take k)
        rw [List.length_take] at h4
        have h5 : i * ys.length ≤ xs.length * ys.length := Nat.mul_le_mul_right _ (Nat.le_of_lt hi)
        refine Nat.lt_of_le_of_lt (?_ : _ ≤ 2000000) (by size_fits)
        simp only [] at hl hl2
        omega
      · rintro k d acc M3 hd ⟨e3, rfl⟩ KT KF kt kf
        rw [List.getElem?_map] at hd
        cases hy : ys[k]? with
        | none => rw [hy] at hd; cases hd
        | some b =>
          rw [hy] at hd; cases hd
          have hb := h2 b (List.mem_of_getElem? hy)
          walk_at "g"
          have fin : ∀ c : Bool, c = !fr A a b → (c = true → KT (Enc.d (minS a b, maxS a b)) M3) ∧ (c = false → KF M3) := fun c hc => by
            constructor
            · intro z
              rw [z] at hc
              refine kt _ _ ⟨e3, ?_⟩
              rw [take_succ_get hy, List.filter_append, List.filter_cons_of_pos (by rw [← hc])]
              simp
            · intro z
              rw [z] at hc
              refine kf _ ⟨e3, ?_⟩
              rw [take_succ_get hy, List.filter_append, List.filter_cons_of_neg (by rw [← hc]; simp)]
              simp
          cases hab : decide (a = b)
          · walk_at "g"
            refine s_are_independent ha hb ?_
            walk_at "g"
            cases hf : fr A a b
            · walk_at "g"
              exact (fin true (by rw [hf]; rfl)).1 rfl
            · walk_at "g"
              exact (fin false (by rw [hf]; rfl)).2 rfl
          · have e : a = b := of_decide_eq_true hab
            have hf : fr A a b = false := by rw [e]; exact fr_self g b
            walk_at "g"
            exact (fin true (by rw [hf]; rfl)).1 rfl
      · rintro acc M3 ⟨e3, rfl⟩
        refine cC _ _ ⟨e3, ?_⟩
        rw [List.length_map, List.take_length, take_succ_get hx]
        simp [metL]
  · rintro acc M2 cp ⟨e2, rfl⟩ hcp
    rw [List.length_map, List.take_length]
    walk_at "g"
    intro n hn
    generalize hM4 : put (put M2 cp _) n _ = M4
    have hc4 : M4 cp = some (.lst ((metL A xs ys).map Enc.d)) := by rw [← hM4, put_ne (ne_of_new put_same hn)]; exact put_same
    have hn4 : M4 n = some (.lst []) := by rw [← hM4]; exact put_same
    have e4 : Ext M M4 := by
      rw [← hM4]
      exact (e2.alloc hcp _).alloc hn _
    clear hM4 hn
    unfold metP at q
    cases hm : metL A xs ys with
    | nil =>
      rw [hm] at hc4
      refine eq_encL (α := Str × Str) (xs := []) (ys := []) (c := true) hc4 hn4 (by simp) (by decide) ?_
      walk_at "g"
      rw [hm] at q
      exact q _ e4
    | cons c cs =>
      rw [hm] at hc4
      refine eq_encL (α := Str × Str) (xs := c :: cs) (ys := []) (c := false) hc4 hn4 (by simp) (by decide) ?_
      walk_at "g"
      refine w_minC hc4 fun mc hmc => ?_
      walk_at "g"
      refine ix_tup (n := 0) rfl ?_
      walk_at "g"
      refine ix_tup (n := 1) rfl ?_
      walk_at "g"
      rw [hm, hmc] at q
      exact q _ e4
end
end Dt

set_option Elab.async false
set_option autoImplicit false
set_option linter.all false
set_option maxRecDepth 100000
set_option maxHeartbeats 400000
namespace Dt
open PySem PySem.Spec PyProof.Rows L2 LamX RZ PySem.P
local macro_rules | `(tactic| walk_at "w1") => `(tactic| with_reducible refine StepW.go ?_)
local macro_rules | `(tactic| walk_at "w") => `(tactic| ((repeat walk_at "w1"); try (with_reducible conv => whnf)))
local macro_rules | `(tactic| walk_at "m") => `(tactic| first | with_reducible assumption | with_reducible exact put_same | (with_reducible apply Ext.get; (with_reducible assumption); walk_at "m") | (with_reducible apply Ext.get; (with_reducible apply Ext.new); (with_reducible assumption); walk_at "m"))
local macro_rules | `(tactic| walk_at "x") => `(tactic| first | with_reducible assumption | with_reducible exact Ext.refl | (with_reducible refine Ext.alloc ?_ (by with_reducible assumption) _; walk_at "x") | (with_reducible refine Ext.trans ?_ (by with_reducible assumption); walk_at "x"))
local macro_rules | `(tactic| walk_at "lk") => `(tactic| first | with_reducible exact look1 | ((with_reducible apply lookS); (with_unfolding_all decide); walk_at "lk"))
local macro_rules | `(tactic| walk_at "h1") => `(tactic| (first
  | with_reducible refine StepW.go ?_
  | with_reducible refine StepG.go ?_
  | with_reducible refine w_isTup ?_
  | ((with_reducible refine w_sz ?sz ?_); (case sz => size_fits))
  | ((with_reducible refine w_len ?sz ?_); (case sz => rfl))
  | ((with_reducible refine w_obj (by walk_at "m") ?ob2 ?_); (case ob2 => walk_at "ln"))
  | (with_reducible refine w_lenL (by walk_at "m") ?_) | (with_reducible refine w_seqL (by walk_at "m") ?_) | (with_reducible refine tup_list (by walk_at "m") ?_)
  | (with_reducible refine w_isLst (by walk_at "m") ?_) | (with_reducible refine w_slL (by walk_at "m") ?_)
  | ((with_reducible refine fld_ok (by walk_at "m") ?cl (by walk_at "lk") ?_); (case cl => walk_at "cl"))
  | (with_reducible refine w_lstL (by walk_at "m") ?_) | (with_reducible refine w_dic (by walk_at "m") ?_)
  ))
local macro_rules | `(tactic| walk_at "g1") => `(tactic| first | walk_at "h1" | with_reducible refine StepP.go ?_)
local macro_rules | `(tactic| walk_at "h") => `(tactic| ((repeat walk_at "h1"); try (with_reducible conv => whnf)))
local macro_rules | `(tactic| walk_at "g") => `(tactic| ((repeat walk_at "g1"); try (with_reducible conv => whnf)))
local macro_rules | `(tactic| walk_at "ln") => `(tactic| first | exact look_none (ns := ["row", "signs", "dependent", "places", "taken"]) rfl (by decide) | exact look_none (ns := ["alphabet", "due", "its_left", "signs", "parting"]) rfl (by decide) | exact look_none (ns := ["alphabet", "its_lag", "parting"]) rfl (by decide))
local macro_rules | `(tactic| walk_at "cl") => `(tactic| first | exact CF.get (by with_reducible assumption) (by decide) | exact LF.row (by with_reducible assumption) | exact LF.signs (by with_reducible assumption) | exact LF.dependent (by with_reducible assumption) | exact LF.places (by with_reducible assumption) | exact LF.taken (by with_reducible assumption))
section
variable {K : Bd} {M M' : DM} {Q : DQ} {A : Alph} {w : Addr} {part : Option (Str × Str)} {lg : List Str × List Str}
/-- one sign more on a road -/
def watStep (A : Alph) (st : (List Str × List Str) × Option (Str × Str)) (c : Int × Str) : (List Str × List Str) × Option (Str × Str) :=
  if st.2.isSome then st else
    let l := if c.1 = 0 then lagL A (st.1.1 ++ [c.2]) st.1.2 else lagL A st.1.1 (st.1.2 ++ [c.2])
    (l, metP A l)
theorem in_one {s : Str} (hs : s ∈ A.signs) : InA A [s] := fun a ha => by rw [List.mem_singleton.mp ha]; exact hs
theorem in_nil : InA A [] := fun a ha => nomatch ha
theorem s_Watch_put (F : LF K) (G : CF K "Watch" watNs) (g : GoodA A) (hw : M w = some (watO K A lg part)) (h1 : InA A lg.1) (h2 : InA A lg.2) (hl1 : lg.1.length < 1000) (hl2 : lg.2.length < 1000) {s : Str} (hs : s ∈ A.signs) {i : Int} (hi : i = 0 ∨ i = 1)
    (q : ∀ M', (∀ a o, a ≠ w → M a = some o → M' a = some o) → M' w = some (watO K A (watStep A (lg, part) (i, s)).1 (watStep A (lg, part) (i, s)).2) → Q (wpD (watStep A (lg, part) (i, s)).2) M') : sp_Watch_put K [.ref w, .int i, .str s] M Q noX := by
  refine go_Watch_put ?_
  delta t_Watch_put
  walk_at "g"
  refine s_check_sign hs ?_
  walk_at "g"
  refine s_is_index ?_
  have e0 : decide (0 ≤ i) = true := by rcases hi with rfl | rfl <;> rfl
  have e1 : decide (1 < i) = false := by rcases hi with rfl | rfl <;> rfl
  rw [e0]
  walk_at "g"
  rw [e1]
  cases part with
  | some p =>
    have e : watStep A (lg, some p) (i, s) = (lg, some p) := rfl
    rw [e] at q
    walk_at "g"
    exact q M (fun _ _ _ e => e) hw
  | none =>
    walk_at "g"
    have step : ∀ (l : List Str × List Str) (M2 : DM), Ext M M2 → watStep A (lg, none) (i, s) = (l, metP A l) → InA A l.1 → InA A l.2 → l.1.length ≤ 1000 → l.2.length ≤ 1000 → M2 w = some (watO K A lg none) → ∀ R : DQ, (∀ M', (∀ a o, a ≠ w → M a = some o → M' a = some o) → M' w = some (watO K A l none) → R (wpD (metP A l)) M') → sp_Watch_told K [.ref w] (put M2 w (watO K A l none)) R noX := fun l M2 e2 _ i1 i2 l1 l2 hw2 R r => by
      refine s_Watch_told G g put_same i1 i2 (Nat.le_trans (Nat.mul_le_mul l1 l2) (by decide)) (by omega) fun M3 e3 => r _ (fun a o ha e => e3 _ _ (by rw [put_ne ha]; exact e2 _ _ e)) (e3 _ _ put_same)
    cases hz : decide (i = 0)
    · have hi1 : ¬ i = 0 := of_decide_eq_false hz
      have es : watStep A (lg, none) (i, s) = (lagL A lg.1 (lg.2 ++ [s]), metP A (lagL A lg.1 (lg.2 ++ [s]))) := by unfold watStep; simp [hi1]
      have hlen := lag_length g h1 (h2.app (in_one hs))
      have hin := lag_in g h1 (h2.app (in_one hs))
      rw [List.length_append] at hlen
      rw [es] at q
      walk_at "g"
      refine ix_tup (n := 0) rfl ?_
      walk_at "g"
      refine ix_tup (n := 1) rfl ?_
      refine s_behind F g (xs := []) (ys := [s]) (by simp; omega) (by simp; omega) h1 h2 in_nil (in_one hs) fun M2 e2 => ?_
      rw [List.append_nil]
      have hw2 := e2 _ _ hw
      walk_at "g"
      refine st_ok (G.get (by decide)) hw2 (fs' := [("alphabet", aD A), ("its_lag", Enc.d (lagL A lg.1 (lg.2 ++ [s]))), ("parting", .non)]) rfl (by simp) ?_
      have hw3 : put M2 w (.ins (He.ga K.K "Watch") [("alphabet", aD A), ("its_lag", Enc.d (lagL A lg.1 (lg.2 ++ [s]))), ("parting", .non)]) w = some (watO K A (lagL A lg.1 (lg.2 ++ [s])) none) := put_same
      walk_at "g"
      refine step _ M2 e2 es hin.1 hin.2 (by omega) (by simp at hlen; omega) hw2 _ fun M4 k4 hw4 => ?_
      walk_at "g"
      refine st_ok (G.get (by decide)) hw4 (fs' := [("alphabet", aD A), ("its_lag", Enc.d (lagL A lg.1 (lg.2 ++ [s]))), ("parting", wpD (metP A (lagL A lg.1 (lg.2 ++ [s]))))]) rfl (by simp) ?_
      have hw5 : put M4 w (.ins (He.ga K.K "Watch") [("alphabet", aD A), ("its_lag", Enc.d (lagL A lg.1 (lg.2 ++ [s]))), ("parting", wpD (metP A (lagL A lg.1 (lg.2 ++ [s]))))]) w = some (watO K A (lagL A lg.1 (lg.2 ++ [s])) (metP A (lagL A lg.1 (lg.2 ++ [s])))) := put_same
      walk_at "g"
      exact q _ (fun a o ha e => by rw [put_ne ha]; exact k4 _ _ ha e) hw5
    · have hi1 : i = 0 := of_decide_eq_true hz
      have es : watStep A (lg, none) (i, s) = (lagL A (lg.1 ++ [s]) lg.2, metP A (lagL A (lg.1 ++ [s]) lg.2)) := by unfold watStep; simp [hi1]
      have hlen := lag_length g (h1.app (in_one hs)) h2
      have hin := lag_in g (h1.app (in_one hs)) h2
      rw [List.length_append] at hlen
      rw [es] at q
      walk_at "g"
      refine ix_tup (n := 0) rfl ?_
      walk_at "g"
      refine ix_tup (n := 1) rfl ?_
      refine s_behind F g (xs := [s]) (ys := []) (by simp; omega) (by simp; omega) h1 h2 (in_one hs) in_nil fun M2 e2 => ?_
      rw [List.append_nil]
      have hw2 := e2 _ _ hw
      walk_at "g"
      refine st_ok (G.get (by decide)) hw2 (fs' := [("alphabet", aD A), ("its_lag", Enc.d (lagL A (lg.1 ++ [s]) lg.2)), ("parting", .non)]) rfl (by simp) ?_
      have hw3 : put M2 w (.ins (He.ga K.K "Watch") [("alphabet", aD A), ("its_lag", Enc.d (lagL A (lg.1 ++ [s]) lg.2)), ("parting", .non)]) w = some (watO K A (lagL A (lg.1 ++ [s]) lg.2) none) := put_same
      walk_at "g"
      refine step _ M2 e2 es hin.1 hin.2 (by simp at hlen; omega) (by omega) hw2 _ fun M4 k4 hw4 => ?_
      walk_at "g"
      refine st_ok (G.get (by decide)) hw4 (fs' := [("alphabet", aD A), ("its_lag", Enc.d (lagL A (lg.1 ++ [s]) lg.2)), ("parting", wpD (metP A (lagL A (lg.1 ++ [s]) lg.2)))]) rfl (by simp) ?_
      have hw5 : put M4 w (.ins (He.ga K.K "Watch") [("alphabet", aD A), ("its_lag", Enc.d (lagL A (lg.1 ++ [s]) lg.2)), ("parting", wpD (metP A (lagL A (lg.1 ++ [s]) lg.2)))]) w = some (watO K A (lagL A (lg.1 ++ [s]) lg.2) (metP A (lagL A (lg.1 ++ [s]) lg.2))) := put_same
      walk_at "g"
      exact q _ (fun a o ha e => by rw [put_ne ha]; exact k4 _ _ ha e) hw5
theorem s_Watch_lag (G : CF K "Watch" watNs) (hw : M w = some (watO K A lg part)) (q : Q (Enc.d lg) M) : sp_Watch_lag K [.ref w] M Q noX := by
  refine go_Watch_lag ?_
  delta t_Watch_lag
  walk_at "g"
  exact q
theorem s_Watch_even (G : CF K "Watch" watNs) (hw : M w = some (watO K A lg part)) (q : Q (.bl (decide (lg = ([], [])))) M) : sp_Watch_are_even K [.ref w] M Q noX := by
  refine go_Watch_are_even ?_
  delta t_Watch_are_even
  walk_at "g"
  exact eq_enc (α := List Str × List Str) (a := lg) (b := ([], [])) decide_eq_true_iff (by decide) q
theorem s_Watch_twin (G : CF K "Watch" watNs) (hw : M w = some (watO K A lg part)) (q : ∀ M' w', Ext M M' → M' w' = some (watO K A lg part) → Q (.ref w') M') : sp_Watch_twin K [.ref w] M Q noX := by
  refine go_Watch_twin ?_
  delta t_Watch_twin
  walk_at "g"
  refine wat_new G fun M1 w1 e1 hn1 hw1 => ?_
  have hw' := e1 _ _ hw
  walk_at "g"
  refine st_okG (G.get (by decide)) hw1 (fs' := [("alphabet", aD A), ("its_lag", Enc.d lg), ("parting", .non)]) rfl (by simp) ?_
  walk_at "g"
  refine st_okG (G.get (by decide)) put_same (fs' := [("alphabet", aD A), ("its_lag", Enc.d lg), ("parting", wpD part)]) rfl (by simp) ?_
  walk_at "g"
  rw [put_put]
  exact q _ w1 (fun a o e => by rw [put_ne (ne_of_new e hn1)]; exact e1 _ _ e) put_same
end
end Dt

set_option Elab.async false
set_option autoImplicit false
set_option linter.all false
set_option maxRecDepth 100000
set_option maxHeartbeats 400000
namespace Dt
open PySem PySem.Spec PyProof.Rows L2 LamX RZ PySem.P
local macro_rules | `(tactic| walk_at "w1") => `(tactic| with_reducible refine StepW.go ?_)
local macro_rules | `(tactic| walk_at "w") => `(tactic| ((repeat walk_at "w1"); try (with_reducible conv => whnf)))
local macro_rules | `(tactic| walk_at "m") => `(tactic| first | with_reducible assumption | with_reducible exact put_same | (with_reducible apply Ext.get; (with_reducible assumption); walk_at "m") | (with_reducible apply Ext.get; (with_reducible apply Ext.new); (with_reducible assumption); walk_at "m"))
local macro_rules | `(tactic| walk_at "x") => `(tactic| first | with_reducible assumption | with_reducible exact Ext.refl | (with_reducible refine Ext.alloc ?_ (by with_reducible assumption) _; walk_at "x") | (with_reducible refine Ext.trans ?_ (by with_reducible assumption); walk_at "x"))
local macro_rules | `(tactic| walk_at "lk") => `(tactic| first | with_reducible exact look1 | ((with_reducible apply lookS); (with_unfolding_all decide); walk_at "lk"))
local macro_rules | `(tactic| walk_at "h1") => `(tactic| (first
  | with_reducible refine StepW.go ?_
  | with_reducible refine StepG.go ?_
  | with_reducible refine w_isTup ?_
  | ((with_reducible refine w_sz ?sz ?_); (case sz => size_fits))
  | ((with_reducible refine w_len ?sz ?_); (case sz => rfl))
  | ((with_reducible refine w_obj (by walk_at "m") ?ob2 ?_); (case ob2 => walk_at "ln"))
  | (with_reducible refine w_lenL (by walk_at "m") ?_) | (with_reducible refine w_seqL (by walk_at "m") ?_) | (with_reducible refine tup_list (by walk_at "m") ?_)
  | (with_reducible refine w_isLst (by walk_at "m") ?_) | (with_reducible refine w_slL (by walk_at "m") ?_)
  | ((with_reducible refine fld_ok (by walk_at "m") ?cl (by walk_at "lk") ?_); (case cl => walk_at "cl"))
  | (with_reducible refine w_lstL (by walk_at "m") ?_) | (with_reducible refine w_dic (by walk_at "m") ?_)
  ))
local macro_rules | `(tactic| walk_at "g1") => `(tactic| first | walk_at "h1" | with_reducible refine StepP.go ?_)
local macro_rules | `(tactic| walk_at "h") => `(tactic| ((repeat walk_at "h1"); try (with_reducible conv => whnf)))
local macro_rules | `(tactic| walk_at "g") => `(tactic| ((repeat walk_at "g1"); try (with_reducible conv => whnf)))
local macro_rules | `(tactic| walk_at "ln") => `(tactic| first | exact look_none (ns := ["row", "signs", "dependent", "places", "taken"]) rfl (by decide) | exact look_none (ns := ["alphabet", "due", "its_left", "signs", "parting"]) rfl (by decide) | exact look_none (ns := ["alphabet", "its_lag", "parting"]) rfl (by decide))
local macro_rules | `(tactic| walk_at "cl") => `(tactic| first | exact CF.get (by with_reducible assumption) (by decide) | exact LF.row (by with_reducible assumption) | exact LF.signs (by with_reducible assumption) | exact LF.dependent (by with_reducible assumption) | exact LF.places (by with_reducible assumption) | exact LF.taken (by with_reducible assumption))
section
variable {K : Bd} {M M' : DM} {Q : DQ} {A : Alph} {due row : List Str}
def lookM (A : Alph) (due : List Str) : Nat → List Str × Option PT → List Str → Nat × Option PT
  | i, _, [] => (i, none)
  | i, st, s :: r => if (monStep A due st s).2.isSome then (i, (monStep A due st s).2) else lookM A due (i + 1) (monStep A due st s) r
def lookW (A : Alph) : Nat → (List Str × List Str) × Option (Str × Str) → List (Int × Str) → Nat × Option (Str × Str)
  | i, _, [] => (i, none)
  | i, st, s :: r => if (watStep A st s).2.isSome then (i, (watStep A st s).2) else lookW A (i + 1) (watStep A st s) r
theorem lookM_cons {i : Nat} {st : List Str × Option PT} {s : Str} {r : List Str} : lookM A due i st (s :: r) = if (monStep A due st s).2.isSome then (i, (monStep A due st s).2) else lookM A due (i + 1) (monStep A due st s) r := rfl
theorem lookW_cons {i : Nat} {st : (List Str × List Str) × Option (Str × Str)} {s : Int × Str} {r : List (Int × Str)} : lookW A i st (s :: r) = if (watStep A st s).2.isSome then (i, (watStep A st s).2) else lookW A (i + 1) (watStep A st s) r := rfl
theorem lookM_nil {i : Nat} {st : List Str × Option PT} : lookM A due i st [] = (i, none) := rfl
theorem lookW_nil {i : Nat} {st : (List Str × List Str) × Option (Str × Str)} : lookW A i st [] = (i, none) := rfl
theorem s_looked_at (F : LF K) (G : CF K "Monitor" monNs) (g : GoodA A) (hl : due.length ≤ 10000) (hr : InA A due) (hrow : InA A row) (q : ∀ M', Ext M M' → Q (.tup [.int (lookM A due 0 ([], none) row).1, ptD (lookM A due 0 ([], none) row).2]) M') : sp_looked_at K [aD A, Enc.d due, Enc.d row] M Q noX := by
  refine go_looked_at ?_
  delta t_looked_at
  walk_at "g"
  refine mon_new F G g hl fun M1 m x t l S e1 hS h1 => ?_
  walk_at "g"
  have nm : ∀ a o, M a = some o → a ≠ m ∧ a ≠ t ∧ a ≠ l := fun a o e => by
    refine ⟨ne_of_new e (hS m (.inr (.inl rfl))).1, ne_of_new e (hS t (.inr (.inr (.inl rfl)))).1, ne_of_new e (hS l (.inr (.inr (.inr rfl)))).1⟩
  refine for_inv (numD (row.map .str)) (fun i σ' M' => (∃ u v y, σ' = [some (aD A), some (Enc.d due), some (Enc.d row), some (.ref m), u, v, y]) ∧ Ext M M' ∧ ∃ rem came, MonAt K S M' m x t l A due rem came none ∧ lookM A due i (came, none) (row.drop i) = lookM A due 0 ([], none) row) (fun i σ' M' _ _ => itE_at rfl) ⟨⟨_, _, _, rfl⟩, e1, _, _, h1, rfl⟩ ?_ ?_
  · rintro i c σ' M2 hc ⟨⟨u, v, y, rfl⟩, e2, rem, came, h2, hlook⟩ Kt kt
    obtain ⟨s, hx, rfl⟩ := numD_get' hc
    have hs := hrow s (List.mem_of_getElem? hx)
    rw [drop_get hx] at hlook
    have ho2 := h2.o
    walk_at "g"
    refine s_Mon_put F G g hl hr h2 hs fun M3 rem' k3 h3 => ?_
    have e3 : Ext M M3 := fun a o e => k3 _ _ (nm a o e).1 (nm a o e).2.1 (nm a o e).2.2 (e2 _ _ e)
    rw [lookM_cons] at hlook
    cases hp : (monStep A due (came, none) s).2 with
    | none =>
      rw [hp] at h3 hlook
      walk_at "g"
      refine kt _ _ ⟨⟨_, _, _, rfl⟩, e3, rem', _, h3, ?_⟩
      rw [← hlook, if_neg (by simp)]
      congr 1
      exact Prod.ext rfl hp.symm
    | some p =>
      rw [hp, if_pos (show (some p).isSome = true from rfl)] at hlook
      walk_at "g"
      rw [← hlook] at q
      exact q _ e3
  · rintro σ' M2 ⟨⟨u, v, y, rfl⟩, e2, rem, came, h2, hlook⟩
    rw [numD_length, List.length_map, List.drop_length] at hlook
    rw [lookM_nil] at hlook
    walk_at "g"
    rw [← hlook] at q
    exact q _ e2
theorem s_looked_at_both (F : LF K) (G : CF K "Watch" watNs) (g : GoodA A) {steps : List (Int × Str)} (hlen : steps.length < 1000) (hst : ∀ c ∈ steps, (c.1 = 0 ∨ c.1 = 1) ∧ c.2 ∈ A.signs) (q : ∀ M', Ext M M' → Q (.tup [.int (lookW A 0 (([], []), none) steps).1, wpD (lookW A 0 (([], []), none) steps).2]) M') : sp_looked_at_both K [aD A, Enc.d steps] M Q noX := by
  refine go_looked_at_both ?_
  delta t_looked_at_both
  walk_at "g"
  refine wat_new G fun M1 w e1 hn h1 => ?_
  walk_at "g"
  refine for_inv (numD (steps.map Enc.d)) (fun i σ' M' => (∃ u v y z, σ' = [some (aD A), some (Enc.d steps), some (.ref w), u, v, y, z]) ∧ Ext M M' ∧ ∃ lg, M' w = some (watO K A lg none) ∧ InA A lg.1 ∧ InA A lg.2 ∧ lg.1.length ≤ i ∧ lg.2.length ≤ i ∧ lookW A i (lg, none) (steps.drop i) = lookW A 0 (([], []), none) steps) (fun i σ' M' _ _ => itE_at rfl) ⟨⟨_, _, _, _, rfl⟩, e1, _, h1, in_nil, in_nil, Nat.le_refl _, Nat.le_refl _, rfl⟩ ?_ ?_
  · rintro i c σ' M2 hc ⟨⟨u, v, y, z, rfl⟩, e2, lg, h2, i1, i2, l1, l2, hlook⟩ Kt kt
    obtain ⟨⟨sd, s⟩, hx, rfl⟩ := numD_get' hc
    obtain ⟨hsd, hs⟩ := hst _ (List.mem_of_getElem? hx)
    have hi := (List.getElem?_eq_some_iff.mp hx).1
    rw [drop_get hx] at hlook
    walk_at "g"
    refine s_Watch_put F G g h2 i1 i2 (by omega) (by omega) hs hsd fun M3 k3 h3 => ?_
    have e3 : Ext M M3 := fun a o e => k3 _ _ (ne_of_new e hn) (e2 _ _ e)
    rw [lookW_cons] at hlook
    cases hp : (watStep A (lg, none) (sd, s)).2 with
    | none =>
      rw [hp] at h3 hlook
      walk_at "g"
      have hb : InA A (watStep A (lg, none) (sd, s)).1.1 ∧ InA A (watStep A (lg, none) (sd, s)).1.2 ∧ (watStep A (lg, none) (sd, s)).1.1.length ≤ i + 1 ∧ (watStep A (lg, none) (sd, s)).1.2.length ≤ i + 1 := by
        unfold watStep
        simp only [Option.isSome_none, Bool.false_eq_true, if_false]
        by_cases h0 : sd = 0
        · have q1 := lag_in g (i1.app (in_one hs)) i2
          have q2 := lag_length g (i1.app (in_one hs)) i2
          rw [List.length_append] at q2
          simp only [List.length_singleton] at q2
          rw [if_pos h0]
          exact ⟨q1.1, q1.2, by omega, by omega⟩
        · have q1 := lag_in g i1 (i2.app (in_one hs))
          have q2 := lag_length g i1 (i2.app (in_one hs))
          rw [List.length_append] at q2
          simp only [List.length_singleton] at q2
          rw [if_neg h0]
          exact ⟨q1.1, q1.2, by omega, by omega⟩
      refine kt _ _ ⟨⟨_, _, _, _, rfl⟩, e3, _, h3, hb.1, hb.2.1, hb.2.2.1, hb.2.2.2, ?_⟩
      rw [← hlook, if_neg (by simp)]
      congr 1
      exact Prod.ext rfl hp.symm
    | some p =>
      rw [hp, if_pos (show (some p).isSome = true from rfl)] at hlook
      walk_at "g"
      rw [← hlook] at q
      exact q _ e3
  · rintro σ' M2 ⟨⟨u, v, y, z, rfl⟩, e2, lg, h2, i1, i2, l1, l2, hlook⟩
    rw [numD_length, List.length_map, List.drop_length] at hlook
    rw [lookW_nil] at hlook
    walk_at "g"
    rw [← hlook] at q
    exact q _ e2
end
end Dt

set_option Elab.async false
set_option autoImplicit false
set_option linter.all false
set_option maxRecDepth 100000
set_option maxHeartbeats 400000
namespace Dt
open PySem PySem.Spec PyProof.Rows L2 LamX RZ PySem.P
local macro_rules | `(tactic| walk_at "w1") => `(tactic| with_reducible refine StepW.go ?_)
local macro_rules | `(tactic| walk_at "w") => `(tactic| ((repeat walk_at "w1"); try (with_reducible conv => whnf)))
local macro_rules | `(tactic| walk_at "m") => `(tactic| first | with_reducible assumption | with_reducible exact put_same | (with_reducible apply Ext.get; (with_reducible assumption); walk_at "m") | (with_reducible apply Ext.get; (with_reducible apply Ext.new); (with_reducible assumption); walk_at "m"))
local macro_rules | `(tactic| walk_at "x") => `(tactic| first | with_reducible assumption | with_reducible exact Ext.refl | (with_reducible refine Ext.alloc ?_ (by with_reducible assumption) _; walk_at "x") | (with_reducible refine Ext.trans ?_ (by with_reducible assumption); walk_at "x"))
local macro_rules | `(tactic| walk_at "lk") => `(tactic| first | with_reducible exact look1 | ((with_reducible apply lookS); (with_unfolding_all decide); walk_at "lk"))
local macro_rules | `(tactic| walk_at "h1") => `(tactic| (first
  | with_reducible refine StepW.go ?_
  | with_reducible refine StepG.go ?_
  | with_reducible refine w_isTup ?_
  | ((with_reducible refine w_sz ?sz ?_); (case sz => size_fits))
  | ((with_reducible refine w_len ?sz ?_); (case sz => rfl))
  | ((with_reducible refine w_obj (by walk_at "m") ?ob2 ?_); (case ob2 => walk_at "ln"))
  | (with_reducible refine w_lenL (by walk_at "m") ?_) | (with_reducible refine w_seqL (by walk_at "m") ?_) | (with_reducible refine tup_list (by walk_at "m") ?_)
  | (with_reducible refine w_isLst (by walk_at "m") ?_) | (with_reducible refine w_slL (by walk_at "m") ?_)
  | ((with_reducible refine fld_ok (by walk_at "m") ?cl (by walk_at "lk") ?_); (case cl => walk_at "cl"))
  | (with_reducible refine w_lstL (by walk_at "m") ?_) | (with_reducible refine w_dic (by walk_at "m") ?_)
  ))
local macro_rules | `(tactic| walk_at "g1") => `(tactic| first | walk_at "h1" | with_reducible refine StepP.go ?_)
local macro_rules | `(tactic| walk_at "h") => `(tactic| ((repeat walk_at "h1"); try (with_reducible conv => whnf)))
local macro_rules | `(tactic| walk_at "g") => `(tactic| ((repeat walk_at "g1"); try (with_reducible conv => whnf)))
local macro_rules | `(tactic| walk_at "ln") => `(tactic| first | exact look_none (ns := ["row", "signs", "dependent", "places", "taken"]) rfl (by decide) | exact look_none (ns := ["alphabet", "due", "its_left", "signs", "parting"]) rfl (by decide) | exact look_none (ns := ["alphabet", "its_lag", "parting"]) rfl (by decide))
local macro_rules | `(tactic| walk_at "cl") => `(tactic| first | exact CF.get (by with_reducible assumption) (by decide) | exact LF.row (by with_reducible assumption) | exact LF.signs (by with_reducible assumption) | exact LF.dependent (by with_reducible assumption) | exact LF.places (by with_reducible assumption) | exact LF.taken (by with_reducible assumption))
section
variable {K : Bd} {M M' : DM} {Q : DQ} {A : Alph} {b c : Addr} {cells : List Int}
theorem w_mulR {i j : Int} (h : -(2 ^ 64) < j ∧ j < 2 ^ 64) (q : Q (.int (i * j)) M) : mulI (.int i) (.int j) M Q := ⟨.inr h, q⟩
theorem w_mulL {i j : Int} (h : -(2 ^ 64) < i ∧ i < 2 ^ 64) (q : Q (.int (i * j)) M) : mulI (.int i) (.int j) M Q := ⟨.inl h, q⟩
theorem w_mod {i j : Int} (h : 0 < j) (q : Q (.int (i % j)) M) : modD (.int i) (.int j) M Q := ⟨h, q⟩
theorem w_fdiv {i j : Int} (h : 0 < j ∧ j < 1073741824) (q : Q (.int (i / j)) M) : fdivD (.int i) (.int j) M Q := ⟨h, q⟩
theorem w_pow {i j : Int} (h : CPow i j) (q : Q (.int (i ^ j.toNat)) M) : powD (.int i) (.int j) M Q := ⟨h, q⟩
theorem set_lst {a : Addr} {xs : List D} {n : Nat} {v : D} {N : DM → Prop} (e : M a = some (.lst xs)) (h : n < xs.length) (q : N (put M a (.lst (xs.set n v)))) : setLD M (.ref a) (.int (n : Nat)) v N := by
  refine ⟨xs, n, e, ?_, q⟩
  unfold ixN
  rw [if_pos (by omega), if_pos (by omega)]; rfl
theorem ix_lst' {a : Addr} {xs : List D} {n : Nat} {x : D} (e : M a = some (.lst xs)) (h : xs[n]? = some x) {P : Prop} (q : P) : (∃ b ys, D.ref a = .ref b ∧ M b = some (.lst ys)) ∧ P := ⟨⟨a, xs, rfl, e⟩, q⟩
theorem add_lst {a b : Addr} {xs ys : List D} (e1 : M a = some (.lst xs)) (e2 : M b = some (.lst ys)) (h : xs.length + ys.length ≤ sizeLine) (q : ∀ p, M p = none → Q (.ref p) (put M p (.lst (xs ++ ys)))) : addD (.ref a) (.ref b) M Q := ⟨xs, ys, e1, e2, h, q⟩
theorem cutD_map {α β : Type} (f : α → β) (xs : List α) (l u : Option Int) : cutD (xs.map f) l u = (cutD xs l u).map f := by
  unfold cutD
  rw [List.length_map, List.map_take, List.map_drop]
theorem cutD_len {α : Type} (xs : List α) (l u : Option Int) : (cutD xs l u).length ≤ xs.length := by
  unfold cutD
  rw [List.length_take, List.length_drop]
  omega
theorem cutD_mem {α : Type} {xs : List α} {l u : Option Int} {x : α} (h : x ∈ cutD xs l u) : x ∈ xs := List.mem_of_mem_drop (List.mem_of_mem_take h)
/-- the bag of drawn numbers -/
structure BagAt (M : DM) (b c : Addr) : Prop where
  ex : ∃ (x y z : Int) (cells : List Int), M b = some (.lst [.int x, .int y, .int z, .ref c]) ∧ M c = some (.lst (cells.map .int)) ∧ 0 ≤ x ∧ 0 ≤ y ∧ y < 2147483648 ∧ cells.length ≤ 63 ∧ ∀ v ∈ cells, (0 : Int) ≤ v
theorem BagAt.ne (h : BagAt M b c) : b ≠ c := by
  obtain ⟨x, y, z, cells, e1, e2, _, _, _, hl, _⟩ := h.ex
  intro e
  rw [e, e2] at e1
  have h1 := DO.lst.inj (Option.some.inj e1)
  cases cells with
  | nil => cases h1
  | cons v1 r => cases r with
    | nil => cases h1
    | cons v2 r => cases r with
      | nil => cases h1
      | cons v3 r => cases r with
        | nil => cases h1
        | cons v4 r => simp at h1
theorem BagAt.mono (h : BagAt M b c) (k : ∀ a o, (a = b ∨ a = c) → M a = some o → M' a = some o) : BagAt M' b c := by
  obtain ⟨x, y, z, cells, e1, e2, r⟩ := h.ex
  exact ⟨x, y, z, cells, k _ _ (.inl rfl) e1, k _ _ (.inr rfl) e2, r⟩
theorem BagAt.ext (h : BagAt M b c) (k : Ext M M') : BagAt M' b c := h.mono fun a o _ e => k a o e
/-- all stays but what stands at b -/
def Bx (b : Addr) (M M' : DM) : Prop := ∀ a o, a ≠ b → M a = some o → M' a = some o
theorem Bx.refl : Bx b M M := fun _ _ _ h => h
theorem Bx.trans {M1 M2 : DM} (h : Bx b M M1) (k : Bx b M1 M2) : Bx b M M2 := fun a o n e => k a o n (h a o n e)
theorem Ext.bx (h : Ext M M') : Bx b M M' := fun a o _ e => h a o e
theorem s_law_bag {script : List Int} (q : ∀ M' b c, Ext M M' → BagAt M' b c → Q (.ref b) M') : sp__law_bag K [.scr (script.map .int)] M Q noX := by
  refine go__law_bag ?_
  delta t__law_bag
  walk_at "g"
  refine w_slZ fun p hp => ?_
  rw [show (63 : Int) = ((63 : Nat) : Int) from rfl, cut_to, ← List.map_take]
  walk_at "g"
  refine lc_pure (script.take 63) .int (fun _ => true) (fun v => .int (if v < 0 then -v else v)) (fun i M' e _ => itL_is (e _ _ put_same) i) (by rw [List.length_take]; exact Nat.le_trans (Nat.min_le_left _ _) (by size_fits)) ?_ ?_
  · intro i v M2 hv e2 KT KF kt kf
    walk_at "g"
    exact kt rfl _ e2
  · intro M2 c e2 hc
    walk_at "g"
    intro b hb
    have e3 := (Ext.new hp (.lst ((script.take 63).map D.int))).trans e2
    refine q _ b c ((e3.alloc hc _).alloc hb _) ⟨0, 1234567891, 0, (script.take 63).map fun v => if v < 0 then -v else v, put_same, ?_, by decide, by decide, by decide, by rw [List.length_map, List.length_take]; exact Nat.min_le_left _ _, fun v hv => ?_⟩
    · rw [put_ne (ne_of_new put_same hb), put_same, List.filter_eq_self.mpr (fun _ _ => rfl), List.map_map]; rfl
    · obtain ⟨u, _, rfl⟩ := List.mem_map.mp hv
      split <;> omega
theorem s_law_take (h : BagAt M b c) {many : Nat} (hm : 0 < many) (hm2 : many < 1000000000) (q : ∀ M' (v : Nat), v < many → Bx b M M' → BagAt M' b c → Q (.int (v : Nat)) M') : sp__law_take K [.ref b, .int (many : Nat)] M Q noX := by
  obtain ⟨x, y, z, cells, e1, e2, hx, hy, hy2, hl, hc⟩ := h.ex
  have hbc := h.ne
  refine go__law_take ?_
  delta t__law_take
  -- the second half: what stands in the bag is known
  have back : ∀ (M1 : DM) (s4 s5 : Option D) (x y z : Int), M1 b = some (.lst [.int x, .int y, .int z, .ref c]) → M1 c = some (.lst (cells.map .int)) → 0 ≤ x → 0 ≤ y → y < 2147483648 → Bx b M M1 →
      dSeq (dIfS (dB (dOp gtD (dOp ixD (dVar 0) (dC (.int 0))) (dC (.int 0)))) (dSeq (dAsg (dOp modD (dCB intD (dCons (dOp ixD (dVar 0) (dC (.int 0))) dNil)) (dVar 1)) (gNm 6)) (dSeq (dAsg (dOp fdivD (dCB intD (dCons (dOp ixD (dVar 0) (dC (.int 0))) dNil)) (dVar 1)) (gIx (dVar 0) (dC (.int 0)))) (dRet (dVar 6)))) dNext) (dSeq (dAsg (dOp modD (dCB intD (dCons (dOp mulI (dOp addD (dOp ixD (dVar 0) (dC (.int 1))) (dC (.int 1))) (dC (.int 39373))) dNil)) (dC (.int 1000000007))) (gNm 2)) (dSeq (dAsg (dOp modD (dCB intD (dCons (dOp mulI (dOp modD (dCB intD (dCons (dOp mulI (dVar 2) (dVar 2)) dNil)) (dC (.int 998244353))) (dC (.int 30011))) dNil)) (dC (.int 998244353))) (gNm 3)) (dRet (dOp modD (dCB intD (dCons (dOp fdivD (dVar 3) (dC (.int 7))) dNil)) (dVar 1))))) (dEnd Q noX) [some (.ref b), some (.int (many : Nat)), none, none, s4, s5, none] M1 := by
    intro M1 s4 s5 x y z e1 e2 hx hy hy2 k
    walk_at "g"
    refine ix_lst (n := 0) e1 rfl ?_
    walk_at "g"
    have hmp : (0 : Int) < (many : Int) := by omega
    have fin : ∀ (u : Int) (M2 : DM), Bx b M M2 → BagAt M2 b c → Q (.int (u % (many : Int))) M2 := fun u M2 k2 hb => by
      have h1 := Int.emod_nonneg u (show (many : Int) ≠ 0 by omega)
      have h2 := Int.emod_lt_of_pos u hmp
      have := q M2 (u % (many : Int)).toNat (by omega) k2 hb
      rw [Int.toNat_of_nonneg h1] at this
      exact this
    cases hx0 : decide ((0 : Int) < x)
    · walk_at "g"
      refine ix_lst (n := 1) e1 rfl ?_
      walk_at "g"
      refine w_mulR (by decide) ?_
      walk_at "g"
      refine w_mod (by decide) ?_
      walk_at "g"
      refine w_mulL ⟨?_, ?_⟩ ?_
      · have := Int.emod_nonneg ((y + 1) * 39373) (show (1000000007 : Int) ≠ 0 by decide)
        omega
      · have := Int.emod_lt_of_pos ((y + 1) * 39373) (show (0 : Int) < 1000000007 by decide)
        omega
      walk_at "g"
      refine w_mod (by decide) ?_
      walk_at "g"
      refine w_mulR (by decide) ?_
      walk_at "g"
      refine w_mod (by decide) ?_
      walk_at "g"
      refine w_fdiv (by decide) ?_
      walk_at "g"
      refine w_mod hmp ?_
      exact fin _ _ k ⟨x, y, z, cells, e1, e2, hx, hy, hy2, hl, hc⟩
    · walk_at "g"
      refine ix_lst (n := 0) e1 rfl ?_
      walk_at "g"
      refine w_mod hmp ?_
      walk_at "g"
      refine ix_lst (n := 0) e1 rfl ?_
      walk_at "g"
      refine w_fdiv ⟨hmp, by omega⟩ ?_
      walk_at "g"
      refine set_lst (n := 0) e1 (by simp) ?_
      walk_at "g"
      refine fin _ _ (fun a o ha e => by rw [put_ne ha]; exact k a o ha e) ⟨x / (many : Int), y, z, cells, by rw [put_same]; rfl, by rw [put_ne (Ne.symm hbc)]; exact e2, Int.ediv_nonneg hx (by omega), hy, hy2, hl, hc⟩
  walk_at "g"
  refine ix_lst (n := 0) e1 rfl ?_
  walk_at "g"
  cases hx0 : decide (x = 0)
  · walk_at "w1"
    walk_at "w1"
    walk_at "w1"
    exact back M none none x y z e1 e2 hx hy hy2 Bx.refl
  · walk_at "g"
    refine ix_lst (n := 3) e1 rfl ?_
    walk_at "g"
    refine ix_lst (n := 2) e1 rfl ?_
    walk_at "g"
    intro p hp
    walk_at "g"
    intro n hn
    have k1 : Ext M (put (put M p (.lst (cutD (cells.map D.int) (some z) none))) n (.lst [.int 0])) := by walk_at "x"
    have hp1 : put (put M p (.lst (cutD (cells.map D.int) (some z) none))) n (.lst [.int 0]) p = some (.lst (cutD (cells.map D.int) (some z) none)) := by rw [put_ne (ne_of_new put_same hn)]; exact put_same
    have hn1 : put (put M p (.lst (cutD (cells.map D.int) (some z) none))) n (.lst [.int 0]) n = some (.lst [.int 0]) := put_same
    revert k1 hp1 hn1
    generalize put (put M p (.lst (cutD (cells.map D.int) (some z) none))) n (.lst [.int 0]) = M2
    intro k1 hp1 hn1
    have hcl := cutD_len cells (some z) none
    refine add_lst hp1 hn1 (by rw [cutD_map, List.length_map]; exact Nat.le_trans (show _ + 1 ≤ 64 by omega) (by size_fits)) fun r hr => ?_
    obtain ⟨v, hv, hv0⟩ : ∃ v : Int, (cutD (cells.map D.int) (some z) none ++ [D.int 0])[0]? = some (.int v) ∧ 0 ≤ v := by
      rw [cutD_map]
      cases h : cutD cells (some z) none with
      | nil => exact ⟨0, rfl, Int.le_refl _⟩
      | cons v l =>
        refine ⟨v, rfl, hc v ?_⟩
        have : v ∈ cutD cells (some z) none := by rw [h]; exact List.mem_cons_self
        exact cutD_mem this
    have k2 := k1.trans (Ext.new hr (.lst (cutD (cells.map D.int) (some z) none ++ [D.int 0])))
    walk_at "g"
    refine ix_lst (n := 0) put_same hv ?_
    revert k2
    generalize put M2 r (.lst (cutD (cells.map D.int) (some z) none ++ [D.int 0])) = M3
    intro k2
    have e3 := k2 _ _ e1
    have e4 := k2 _ _ e2
    walk_at "g"
    refine ix_lst' (n := 0) e3 rfl ?_
    refine ix_lst (n := 2) e3 rfl ?_
    walk_at "g"
    refine set_lst (n := 2) e3 (by simp) ?_
    have b3 : put M3 b (.lst ([D.int x, .int y, .int z, .ref c].set 2 (.int (z + 1)))) b = some (.lst [D.int x, .int y, .int (z + 1), .ref c]) := put_same
    have c3 : put M3 b (.lst ([D.int x, .int y, .int z, .ref c].set 2 (.int (z + 1)))) c = some (.lst (cells.map .int)) := by rw [put_ne (Ne.symm hbc)]; exact e4
    have k3 : Bx b M (put M3 b (.lst ([D.int x, .int y, .int z, .ref c].set 2 (.int (z + 1))))) := fun a o ha e => by rw [put_ne ha]; exact k2 _ _ e
    revert b3 c3 k3
    generalize put M3 b (.lst ([D.int x, .int y, .int z, .ref c].set 2 (.int (z + 1)))) = M4
    intro b3 c3 k3
    walk_at "g"
    refine w_pow ⟨by decide, by decide, by decide⟩ ?_
    walk_at "g"
    -- behind the test
    have rest : ∀ (M5 : DM) (x : Int), M5 b = some (.lst [D.int x, .int y, .int (z + 1), .ref c]) → M5 c = some (.lst (cells.map .int)) → 0 ≤ x → Bx b M M5 → ∀ n0 : Std → DM → Prop, (∀ M6 s5 y', M6 b = some (.lst [D.int x, .int y', .int (z + 1), .ref c]) → M6 c = some (.lst (cells.map .int)) → 0 ≤ y' → y' < 2147483648 → Bx b M M6 → n0 [some (.ref b), some (.int (many : Nat)), none, none, some (.int v), s5, none] M6) →
        dSeq (dAsg (dOp addD (dOp addD (dOp mulI (dOp ixD (dVar 0) (dC (.int 1))) (dC (.int 48271))) (dOp modD (dCB intD (dCons (dVar 4) dNil)) (dC (.int 2147483647)))) (dOp mulI (dC (.int 7919)) (dOp ixD (dVar 0) (dC (.int 2))))) (gNm 5)) (dAsg (dOp modD (dCB intD (dCons (dVar 5) dNil)) (dC (.int 2147483647))) (gIx (dVar 0) (dC (.int 1)))) ⟨n0, Q, fun _ _ => False, fun _ _ => False, fun _ => noX⟩ [some (.ref b), some (.int (many : Nat)), none, none, some (.int v), none, none] M5 := by
      intro M5 x b5 c5 hx5 k5 n0 hn0
      walk_at "g"
      refine ix_lst (n := 1) b5 rfl ?_
      walk_at "g"
      refine w_mulR (by decide) ?_
      walk_at "g"
      refine w_mod (by decide) ?_
      walk_at "g"
      refine ix_lst (n := 2) b5 rfl ?_
      refine w_mulL (by decide) ?_
      walk_at "g"
      refine w_mod (by decide) ?_
      walk_at "g"
      refine set_lst (n := 1) b5 (by simp) ?_
      have hm1 := Int.emod_nonneg (y * 48271 + v % 2147483647 + 7919 * (z + 1)) (show (2147483647 : Int) ≠ 0 by decide)
      have hm2 := Int.emod_lt_of_pos (y * 48271 + v % 2147483647 + 7919 * (z + 1)) (show (0 : Int) < 2147483647 by decide)
      refine hn0 _ _ _ put_same (by rw [put_ne (Ne.symm hbc)]; exact c5) hm1 (by omega) (fun a o ha e => by rw [put_ne ha]; exact k5 a o ha e)
    cases hbig : decide ((10 : Int) ^ (18 : Int).toNat ≤ v)
    · walk_at "w1"
      walk_at "w1"
      refine rest M4 x b3 c3 hx k3 _ fun M6 s5 y' h1 h2 h3 h4 h5 => ?_
      exact back M6 _ s5 x y' (z + 1) h1 h2 hx h3 h4 h5
    · walk_at "g"
      refine set_lst (n := 0) b3 (by simp) ?_
      refine rest _ v put_same (by rw [put_ne (Ne.symm hbc)]; exact c3) hv0 (fun a o ha e => by rw [put_ne ha]; exact k3 a o ha e) _ fun M6 s5 y' h1 h2 h3 h4 h5 => ?_
      exact back M6 _ s5 v y' (z + 1) h1 h2 hv0 h3 h4 h5
theorem s_law_some (h : BagAt M b c) {α : Type} [Enc α] {xs : List α} (h0 : xs ≠ []) (hl : xs.length < 1000000000) (q : ∀ M' x, x ∈ xs → Bx b M M' → BagAt M' b c → Q (Enc.d x) M') : sp__law_some K [.ref b, Enc.d xs] M Q noX := by
  refine go__law_some ?_
  delta t__law_some
  walk_at "g"
  refine s_law_take h (many := xs.length) (List.length_pos_iff.mpr h0) hl fun M1 v hv k1 h1 => ?_
  refine ix_tup (n := v) (x := Enc.d xs[v]) (by rw [List.getElem?_map, List.getElem?_eq_getElem hv]; rfl) ?_
  exact q _ _ (List.getElem_mem hv) k1 h1
theorem s_law_someL (h : BagAt M b c) {α : Type} [Enc α] {xs : List α} {a : Addr} (e : M a = some (.lst (xs.map Enc.d))) (hab : a ≠ b) (h0 : xs ≠ []) (hl : xs.length < 1000000000) (q : ∀ M' x, x ∈ xs → Bx b M M' → BagAt M' b c → Q (Enc.d x) M') : sp__law_some K [.ref b, .ref a] M Q noX := by
  refine go__law_some ?_
  delta t__law_some
  walk_at "g"
  rw [List.length_map]
  refine s_law_take h (many := xs.length) (List.length_pos_iff.mpr h0) hl fun M1 v hv k1 h1 => ?_
  refine ix_lst (n := v) (x := Enc.d xs[v]) (k1 _ _ hab e) (by rw [List.getElem?_map, List.getElem?_eq_getElem hv]; rfl) ?_
  exact q _ _ (List.getElem_mem hv) k1 h1
end
end Dt

set_option Elab.async false
set_option autoImplicit false
set_option linter.all false
set_option maxRecDepth 100000
set_option maxHeartbeats 400000
namespace Dt
open PySem PySem.Spec PyProof.Rows L2 LamX RZ PySem.P
local macro_rules | `(tactic| walk_at "w1") => `(tactic| with_reducible refine StepW.go ?_)
local macro_rules | `(tactic| walk_at "w") => `(tactic| ((repeat walk_at "w1"); try (with_reducible conv => whnf)))
local macro_rules | `(tactic| walk_at "m") => `(tactic| first | with_reducible assumption | with_reducible exact put_same | (with_reducible apply Ext.get; (with_reducible assumption); walk_at "m") | (with_reducible apply Ext.get; (with_reducible apply Ext.new); (with_reducible assumption); walk_at "m"))
local macro_rules | `(tactic| walk_at "x") => `(tactic| first | with_reducible assumption | with_reducible exact Ext.refl | (with_reducible refine Ext.alloc ?_ (by with_reducible assumption) _; walk_at "x") | (with_reducible refine Ext.trans ?_ (by with_reducible assumption); walk_at "x"))
local macro_rules | `(tactic| walk_at "lk") => `(tactic| first | with_reducible exact look1 | ((with_reducible apply lookS); (with_unfolding_all decide); walk_at "lk"))
local macro_rules | `(tactic| walk_at "h1") => `(tactic| (first
  | with_reducible refine StepW.go ?_
  | with_reducible refine StepG.go ?_
  | with_reducible refine w_isTup ?_
  | ((with_reducible refine w_sz ?sz ?_); (case sz => size_fits))
  | ((with_reducible refine w_len ?sz ?_); (case sz => rfl))
  | ((with_reducible refine w_obj (by walk_at "m") ?ob2 ?_); (case ob2 => walk_at "ln"))
  | (with_reducible refine w_lenL (by walk_at "m") ?_) | (with_reducible refine w_seqL (by walk_at "m") ?_) | (with_reducible refine tup_list (by walk_at "m") ?_)
  | (with_reducible refine w_isLst (by walk_at "m") ?_) | (with_reducible refine w_slL (by walk_at "m") ?_)
  | ((with_reducible refine fld_ok (by walk_at "m") ?cl (by walk_at "lk") ?_); (case cl => walk_at "cl"))
  | (with_reducible refine w_lstL (by walk_at "m") ?_) | (with_reducible refine w_dic (by walk_at "m") ?_)
  ))
local macro_rules | `(tactic| walk_at "g1") => `(tactic| first | walk_at "h1" | with_reducible refine StepP.go ?_)
local macro_rules | `(tactic| walk_at "h") => `(tactic| ((repeat walk_at "h1"); try (with_reducible conv => whnf)))
local macro_rules | `(tactic| walk_at "g") => `(tactic| ((repeat walk_at "g1"); try (with_reducible conv => whnf)))
local macro_rules | `(tactic| walk_at "ln") => `(tactic| first | exact look_none (ns := ["row", "signs", "dependent", "places", "taken"]) rfl (by decide) | exact look_none (ns := ["alphabet", "due", "its_left", "signs", "parting"]) rfl (by decide) | exact look_none (ns := ["alphabet", "its_lag", "parting"]) rfl (by decide))
local macro_rules | `(tactic| walk_at "cl") => `(tactic| first | exact CF.get (by with_reducible assumption) (by decide) | exact LF.row (by with_reducible assumption) | exact LF.signs (by with_reducible assumption) | exact LF.dependent (by with_reducible assumption) | exact LF.places (by with_reducible assumption) | exact LF.taken (by with_reducible assumption))
section
variable {α : Type} [Enc α]
theorem zip_two {β γ : Type} (f : α → β) (g : α → γ) : ∀ xs : List α, (xs.map f).zip (xs.map g) = xs.map fun x => (f x, g x)
  | [] => rfl
  | x :: xs => by simp only [List.map_cons, List.zip_cons_cons, zip_two f g xs]
theorem srt_enc (xs : List α) : srt (xs.map Enc.d) (xs.map Enc.p) = (xs.mergeSort (PySem.W.dataLe false Enc.p)).map Enc.d := by
  unfold srt
  rw [zip_two, ← List.map_mergeSort (f := fun x : α => (Enc.d x, Enc.p x)) (r := PySem.W.dataLe false Enc.p) (fun a _ b _ => rfl), List.map_map]
  rfl
end
theorem sle_str (a b : Str) : PySem.W.dataLe false (Enc.p (α := Str)) a b = true ↔ ¬ sLt b a := by
  have : PySem.W.dataLe false (fun b : Str => PyData.str b) a b = decide (a.cps.toList ≤ b.cps.toList) := by rw [PySem.W.dataLe_str (β := Str) (fun b => b)]
  rw [show PySem.W.dataLe false (Enc.p (α := Str)) a b = decide (a.cps.toList ≤ b.cps.toList) from this, decide_eq_true_iff]
  unfold sLt
  exact List.not_lt.symm
theorem sort_strs {xs ys : List Str} (hp : xs.Perm ys) (hs : ys.Pairwise sLt) : xs.mergeSort (PySem.W.dataLe false Enc.p) = ys := by
  refine List.Perm.eq_of_pairwise (le := fun a b => ¬ sLt b a) (fun a b _ _ h1 h2 => ?_) ?_ ?_ ((List.mergeSort_perm xs _).trans hp)
  · by_cases e : a = b
    · exact e
    · rcases slt_tri e with h | h
      · exact absurd h h2
      · exact absurd h h1
  · have := List.pairwise_mergeSort (le := PySem.W.dataLe false (Enc.p (α := Str))) (fun a b c h1 h2 => ?_) (fun a b => ?_) xs
    · exact this.imp fun {a b} h => (sle_str a b).mp h
    · rw [sle_str] at h1 h2 ⊢
      intro h
      rcases Classical.em (a = b) with e | e
      · rw [e] at h; exact h2 h
      · rcases slt_tri e with h3 | h3
        · exact h2 (slt_trans h h3)
        · exact h1 h3
    · rw [Bool.or_eq_true, sle_str, sle_str]
      by_cases h : sLt b a
      · exact .inr (slt_asymm h)
      · exact .inl h
  · exact hs.imp fun h => slt_asymm h
theorem canSort_strs (xs : List Str) : CanSort (xs.map (Enc.p (α := Str))) := by
  refine ⟨fun d hd e he => ?_, fun p hp => ?_, .inl (.inr fun d hd => ?_)⟩
  · obtain ⟨u, _, rfl⟩ := List.mem_map.mp hd
    obtain ⟨v, _, rfl⟩ := List.mem_map.mp he
    rfl
  · obtain ⟨u, _, rfl⟩ := List.mem_map.mp hp
    exact fun z => nomatch z
  · obtain ⟨u, _, rfl⟩ := List.mem_map.mp hd
    exact ⟨fun z => (nomatch z), fun _ z => nomatch z⟩
section
variable {K : Bd} {M M' : DM} {Q : DQ} {A : Alph} {row : List Str}
theorem w_sortStr {a : Addr} {xs ys : List Str} (e : M a = some (.lst (xs.map .str))) (hp : xs.Perm ys) (hs : ys.Pairwise sLt) (q : ∀ p, M p = none → Q (.ref p) (put M p (.lst (ys.map .str)))) : sortD [.ref a] M Q := by
  refine .inl ⟨xs.map .str, xs.map Enc.p, e, pyOfs_map M 20 (by decide) xs, canSort_strs xs, fun p hp' => ?_⟩
  have e2 : srt (xs.map D.str) (xs.map (Enc.p (α := Str))) = ys.map D.str := by
    have := srt_enc xs
    rw [sort_strs hp hs] at this
    exact this
  rw [e2]
  exact q p hp'
theorem s_law_is_free {a b : Str} (q : Q (.bl (fr A a b)) M) : sp__law_is_free K [aD A, .str a, .str b] M Q noX := by
  refine go__law_is_free ?_
  delta t__law_is_free
  walk_at "g"
  refine ix_tup (n := 1) rfl ?_
  exact mem_enc (α := Str × Str) (a := (minS a b, maxS a b)) decide_eq_true_iff (by decide) q
theorem s_law_cut {r : List Str} {a b : Str} (hr : r.length ≤ sizeLine) (q : ∀ M', Ext M M' → Q (Enc.d (r.filter fun s => decide (s ∈ [a, b]))) M') : sp__law_cut K [Enc.d r, .tup [.str a, .str b]] M Q noX := by
  refine go__law_cut ?_
  delta t__law_cut
  walk_at "g"
  refine lc_pure r .str (fun s => decide (s ∈ [a, b])) .str (fun i M' _ _ => rfl) hr ?_ ?_
  · intro i x M' hx e KT KF kt kf
    walk_at "g"
    refine mem_enc (α := Str) (xs := [a, b]) (b := decide (x ∈ [a, b])) decide_eq_true_iff (by decide) ?_
    cases h : decide (x ∈ [a, b])
    · walk_at "g"
      exact kf h _ e
    · walk_at "g"
      exact kt h _ e
  · intro M' p e hp
    walk_at "g"
    exact q _ (e.alloc hp _)
/-- the signs that can stand first, as they are come to -/
def ahead (A : Alph) (row : List Str) : List Str := (List.range row.length).filterMap fun k => match row[k]? with
  | some a => if (row.take k).all (fun b => fr A a b) then some a else none
  | none => none
theorem fstB_all (g : GoodA A) : ∀ {r : List Str} {s : Str}, fstB A r s = true ↔ ∃ k, r[k]? = some s ∧ (r.take k).all (fun b => fr A s b) = true
  | [], s => by simp [fstB]
  | t :: r, s => by
    unfold fstB
    by_cases e : t = s
    · rw [if_pos e]
      exact ⟨fun _ => ⟨0, by simp [e], rfl⟩, fun _ => rfl⟩
    · rw [if_neg e, Bool.and_eq_true, fstB_all g]
      constructor
      · rintro ⟨hf, k, h1, h2⟩
        exact ⟨k + 1, by simpa using h1, by simp only [List.take_succ_cons, List.all_cons, h2, Bool.and_true]; rw [fr_comm]; exact hf⟩
      · rintro ⟨k, h1, h2⟩
        cases k with
        | zero => simp at h1; exact absurd h1 e
        | succ k =>
          simp only [List.take_succ_cons, List.all_cons, Bool.and_eq_true] at h2
          exact ⟨by rw [fr_comm]; exact h2.1, k, by simpa using h1, h2.2⟩
theorem s_law_firsts (g : GoodA A) (hl : row.length ≤ 10000) (hr : InA A row) (q : ∀ M' l, Ext M M' → M l = none → M' l = some (.lst ((firsts A row).map .str)) → Q (.ref l) M') : sp__law_firsts K [aD A, Enc.d row] M Q noX := by
  refine go__law_firsts ?_
  delta t__law_firsts
  walk_at "g"
  intro l hl1
  walk_at "g"
  refine for_inv (numD (row.map .str)) (fun i σ' M' => (∃ u v y, σ' = [some (aD A), some (Enc.d row), some (.ref l), u, v, y]) ∧ Ext M M' ∧ ∃ found : List Str, M' l = some (.lst (found.map .str)) ∧ found.Nodup ∧ found.length ≤ i ∧ ∀ s, s ∈ found ↔ ∃ k, k < i ∧ row[k]? = some s ∧ (row.take k).all (fun b => fr A s b) = true) (fun i σ' M' _ _ => itE_at rfl) ⟨⟨_, _, _, rfl⟩, by walk_at "x", [], put_same, .nil, Nat.le_refl _, by simp⟩ ?_ ?_
  · rintro i c σ' M2 hc ⟨⟨u, v, y, rfl⟩, e2, found, hf, hnd, hlen, hmem⟩ Kt kt
    obtain ⟨s, hx, rfl⟩ := numD_get' hc
    have hi := (List.getElem?_eq_some_iff.mp hx).1
    walk_at "g"
    refine nmem_encL (α := Str) (xs := found) (b := decide (s ∈ found)) hf decide_eq_true_iff (by decide) ?_
    cases hin : decide (s ∈ found)
    · walk_at "g"
      rw [cut_to, ← List.map_take]
      refine lc_pure (row.take i) .str (fun b => !fr A s b) .str (fun _ _ _ _ => rfl) (by rw [List.length_take]; exact Nat.le_trans (Nat.min_le_right _ _) (Nat.le_trans hl (by size_fits))) ?_ ?_
      · intro j b M3 hb e3 KT KF kt2 kf2
        walk_at "g"
        refine s_law_is_free ?_
        walk_at "g"
        cases hfb : fr A s b
        · walk_at "g"
          exact kt2 (by rw [hfb]; rfl) _ e3
        · walk_at "g"
          exact kf2 (by rw [hfb]; rfl) _ e3
      · intro M3 p e3 hp
        walk_at "g"
        intro n hn
        have hp1 : put (put M3 p (.lst (((row.take i).filter fun b => !fr A s b).map .str))) n (.lst []) p = some (.lst (((row.take i).filter fun b => !fr A s b).map .str)) := by rw [put_ne (ne_of_new put_same hn)]; exact put_same
        have hn1 : put (put M3 p (.lst (((row.take i).filter fun b => !fr A s b).map .str))) n (.lst []) n = some (.lst []) := put_same
        have e4 : Ext M2 (put (put M3 p (.lst (((row.take i).filter fun b => !fr A s b).map .str))) n (.lst [])) := (e3.alloc hp _).alloc hn _
        revert hp1 hn1 e4
        generalize put (put M3 p (.lst (((row.take i).filter fun b => !fr A s b).map .str))) n (.lst []) = M4
        intro hp1 hn1 e4
        have hall : (row.take i).all (fun b => fr A s b) = true ↔ (row.take i).filter (fun b => !fr A s b) = [] := by
          rw [List.filter_eq_nil_iff, List.all_eq_true]
          exact ⟨fun h b hb => by rw [h b hb]; simp, fun h b hb => by simpa using h b hb⟩
        refine eq_encL (α := Str) (ys := []) (c := (row.take i).all (fun b => fr A s b)) hp1 hn1 hall (by decide) ?_
        cases ha : (row.take i).all (fun b => fr A s b)
        · walk_at "g"
          refine kt _ _ ⟨⟨_, _, _, rfl⟩, e2.trans e4, found, e4 _ _ hf, hnd, by omega, fun z => ?_⟩
          rw [hmem]
          constructor
          · rintro ⟨k, hk, r⟩; exact ⟨k, by omega, r⟩
          · rintro ⟨k, hk, h1, h2⟩
            refine ⟨k, ?_, h1, h2⟩
            by_cases e : k = i
            · subst e
              rw [hx] at h1
              cases h1
              rw [ha] at h2; cases h2
            · omega
        · walk_at "g"
          refine w_app (e4 _ _ hf) (by rw [List.length_map]; exact Nat.lt_of_le_of_lt (by omega : found.length ≤ 10000) (by size_fits)) ?_
          walk_at "g"
          have hns : s ∉ found := of_decide_eq_false hin
          refine kt _ _ ⟨⟨_, _, _, rfl⟩, fun a o e => ?_, found ++ [s], by rw [put_same, List.map_append]; rfl, ?_, by rw [List.length_append]; simp; omega, fun z => ?_⟩
          · have h5 : a ≠ l := ne_of_new e hl1
            rw [put_ne h5]; exact e4 _ _ (e2 _ _ e)
          · exact List.nodup_append.mpr ⟨hnd, by simp, fun a ha b hb => by rw [List.mem_singleton.mp hb]; exact fun z => hns (z ▸ ha)⟩
          · rw [List.mem_append, List.mem_singleton, hmem]
            constructor
            · rintro (⟨k, hk, r⟩ | rfl)
              · exact ⟨k, by omega, r⟩
              · exact ⟨i, by omega, hx, ha⟩
            · rintro ⟨k, hk, h1, h2⟩
              by_cases e : k = i
              · subst e
                rw [hx] at h1; cases h1; exact .inr rfl
              · exact .inl ⟨k, by omega, h1, h2⟩
    · have hs := of_decide_eq_true hin
      walk_at "g"
      refine kt _ _ ⟨⟨_, _, _, rfl⟩, e2, found, hf, hnd, by omega, fun z => ?_⟩
      rw [hmem]
      constructor
      · rintro ⟨k, hk, r⟩; exact ⟨k, by omega, r⟩
      · rintro ⟨k, hk, h1, h2⟩
        by_cases e : k = i
        · subst e
          rw [hx] at h1; cases h1
          exact (hmem s).mp hs
        · exact ⟨k, by omega, h1, h2⟩
  · rintro σ' M2 ⟨⟨u, v, y, rfl⟩, e2, found, hf, hnd, hlen, hmem⟩
    rw [numD_length, List.length_map] at hmem
    walk_at "g"
    have hperm : found.Perm (firsts A row) := by
      refine (List.perm_ext_iff_of_nodup hnd ?_).mpr fun s => ?_
      · exact g.nodup.filter _
      · rw [hmem]
        unfold firsts
        rw [List.mem_filter, fstB_all g]
        constructor
        · rintro ⟨k, hk, h1, h2⟩; exact ⟨hr s (List.mem_of_getElem? h1), k, h1, h2⟩
        · rintro ⟨_, k, h1, h2⟩; exact ⟨k, (List.getElem?_eq_some_iff.mp h1).1, h1, h2⟩
    refine w_sortStr hf hperm (g.sorted.filter _) fun p hp => ?_
    refine q _ p (e2.alloc hp _) ?_ put_same
    cases z : M p with
    | none => rfl
    | some o => rw [e2 _ _ z] at hp; cases hp
end
end Dt

set_option Elab.async false
set_option autoImplicit false
set_option linter.all false
set_option maxRecDepth 100000
set_option maxHeartbeats 400000
namespace Dt
open PySem PySem.Spec PyProof.Rows L2 LamX RZ PySem.P
local macro_rules | `(tactic| walk_at "w1") => `(tactic| with_reducible refine StepW.go ?_)
local macro_rules | `(tactic| walk_at "w") => `(tactic| ((repeat walk_at "w1"); try (with_reducible conv => whnf)))
local macro_rules | `(tactic| walk_at "m") => `(tactic| first | with_reducible assumption | with_reducible exact put_same | (with_reducible apply Ext.get; (with_reducible assumption); walk_at "m") | (with_reducible apply Ext.get; (with_reducible apply Ext.new); (with_reducible assumption); walk_at "m"))
local macro_rules | `(tactic| walk_at "x") => `(tactic| first | with_reducible assumption | with_reducible exact Ext.refl | (with_reducible refine Ext.alloc ?_ (by with_reducible assumption) _; walk_at "x") | (with_reducible refine Ext.trans ?_ (by with_reducible assumption); walk_at "x"))
local macro_rules | `(tactic| walk_at "lk") => `(tactic| first | with_reducible exact look1 | ((with_reducible apply lookS); (with_unfolding_all decide); walk_at "lk"))
local macro_rules | `(tactic| walk_at "h1") => `(tactic| (first
  | with_reducible refine StepW.go ?_
  | with_reducible refine StepG.go ?_
  | with_reducible refine w_isTup ?_
  | ((with_reducible refine w_sz ?sz ?_); (case sz => size_fits))
  | ((with_reducible refine w_len ?sz ?_); (case sz => rfl))
  | ((with_reducible refine w_obj (by walk_at "m") ?ob2 ?_); (case ob2 => walk_at "ln"))
  | (with_reducible refine w_lenL (by walk_at "m") ?_) | (with_reducible refine w_seqL (by walk_at "m") ?_) | (with_reducible refine tup_list (by walk_at "m") ?_)
  | (with_reducible refine w_isLst (by walk_at "m") ?_) | (with_reducible refine w_slL (by walk_at "m") ?_)
  | ((with_reducible refine fld_ok (by walk_at "m") ?cl (by walk_at "lk") ?_); (case cl => walk_at "cl"))
  | (with_reducible refine w_lstL (by walk_at "m") ?_) | (with_reducible refine w_dic (by walk_at "m") ?_)
  ))
local macro_rules | `(tactic| walk_at "g1") => `(tactic| first | walk_at "h1" | with_reducible refine StepP.go ?_)
local macro_rules | `(tactic| walk_at "h") => `(tactic| ((repeat walk_at "h1"); try (with_reducible conv => whnf)))
local macro_rules | `(tactic| walk_at "g") => `(tactic| ((repeat walk_at "g1"); try (with_reducible conv => whnf)))
local macro_rules | `(tactic| walk_at "ln") => `(tactic| first | exact look_none (ns := ["row", "signs", "dependent", "places", "taken"]) rfl (by decide) | exact look_none (ns := ["alphabet", "due", "its_left", "signs", "parting"]) rfl (by decide) | exact look_none (ns := ["alphabet", "its_lag", "parting"]) rfl (by decide))
local macro_rules | `(tactic| walk_at "cl") => `(tactic| first | exact CF.get (by with_reducible assumption) (by decide) | exact LF.row (by with_reducible assumption) | exact LF.signs (by with_reducible assumption) | exact LF.dependent (by with_reducible assumption) | exact LF.places (by with_reducible assumption) | exact LF.taken (by with_reducible assumption))
/-! ### repr(found) == repr(due) and found == due, of equal values -/
/-- a value that can be shown, of weight n at most -/
structure Fit (p : PyData) (n : Nat) : Prop where
  short : p.leavesShort 13 = true
  show_ : p.showable = true
  w : p.weight ≤ n
structure Fits (ps : List PyData) (n : Nat) : Prop where
  short : PyData.leavesShortAll 13 ps = true
  show_ : PyData.showableAll ps = true
  w : PyData.weightAll ps ≤ n
theorem Fit.mono {p : PyData} {n m : Nat} (h : Fit p n) (k : n ≤ m) : Fit p m := ⟨h.short, h.show_, Nat.le_trans h.w k⟩
theorem fit_non : Fit .none 0 := ⟨rfl, rfl, by simp [PyData.weight]⟩
theorem fit_bool {b : Bool} : Fit (.bool b) 0 := ⟨rfl, rfl, by simp [PyData.weight]⟩
theorem fit_int {i : Int} (h : i.natAbs < 10 ^ 12) : Fit (.int i) 41 := by
  have hlog : i.natAbs.log2 < 40 := by
    by_cases z : i.natAbs = 0
    · rw [z]; decide
    · exact (Nat.log2_lt z).mpr (Nat.lt_of_lt_of_le h (by decide))
  refine ⟨?_, ?_, ?_⟩
  · simp only [PyData.leavesShort]
    exact decide_eq_true (PyData.shown_int_le h)
  · simp only [PyData.showable]
    exact decide_eq_true (by omega)
  · simp only [PyData.weight]
    split <;> omega
/-- a short text -/
def ShS (s : Str) : Prop := s.cps.size ≤ 8 ∧ ∀ c ∈ s.cps.toList, c < 16 ^ 8
theorem fit_str {s : Str} (h : ShS s) : Fit (.str s) 8 := by
  refine ⟨?_, rfl, ?_⟩
  · simp only [PyData.leavesShort, List.all_eq_true, decide_eq_true_eq]
    exact h.2
  · simp only [PyData.weight]; exact h.1
theorem fits_nil : Fits [] 0 := ⟨rfl, rfl, by simp [PyData.weightAll]⟩
theorem fits_cons {p : PyData} {ps : List PyData} {n m : Nat} (h : Fit p n) (k : Fits ps m) : Fits (p :: ps) (n + 1 + m) := by
  refine ⟨?_, ?_, ?_⟩
  · simp only [PyData.leavesShortAll, h.short, k.short, Bool.and_self]
  · simp only [PyData.showableAll, h.show_, k.show_, Bool.and_self]
  · simp only [PyData.weightAll]
    have := h.w
    have := k.w
    omega
theorem fit_tup {ps : List PyData} {n : Nat} (h : Fits ps n) : Fit (.tuple ps) n := by
  refine ⟨?_, ?_, ?_⟩
  · simp only [PyData.leavesShort]; exact h.short
  · simp only [PyData.showable]; exact h.show_
  · simp only [PyData.weight]; exact h.w
theorem fit_lst {ps : List PyData} {n : Nat} (h : Fits ps n) : Fit (.list ps) n := by
  refine ⟨?_, ?_, ?_⟩
  · simp only [PyData.leavesShort]; exact h.short
  · simp only [PyData.showable]; exact h.show_
  · simp only [PyData.weight]; exact h.w
theorem fits_map {α : Type} (f : α → PyData) {k : Nat} : ∀ {xs : List α}, (∀ x ∈ xs, Fit (f x) k) → Fits (xs.map f) (xs.length * (k + 1))
  | [], _ => by simpa using fits_nil
  | x :: xs, h => by
    have h1 := fits_cons (h x List.mem_cons_self) (fits_map f fun y hy => h y (List.mem_cons_of_mem _ hy))
    rw [List.map_cons, List.length_cons, Nat.add_mul, Nat.one_mul, Nat.add_comm]
    exact h1
theorem Fits.mono {ps : List PyData} {n m : Nat} (h : Fits ps n) (k : n ≤ m) : Fits ps m := ⟨h.short, h.show_, Nat.le_trans h.w k⟩
theorem fit_row {r : List Str} {n : Nat} (h : ∀ s ∈ r, ShS s) (hl : r.length ≤ n) : Fit (Enc.p r) (n * 9) := (fit_tup (fits_map PyData.str fun s hs => fit_str (h s hs))).mono (Nat.mul_le_mul_right 9 hl)
theorem plain_eqv_self {M : DM} {n : Nat} {d : D} {p : PyData} (h : PyOf M n d p) : PyData.eqv p p = true := eqv_self p h.shape.1
where
  eqv_self : ∀ p : PyData, p.plain = true → PyData.eqv p p = true
    | .none, _ => by simp [PyData.eqv]
    | .bool b, _ => by simp [PyData.eqv]
    | .int i, _ => by simp [PyData.eqv]
    | .str x, _ => by simp [PyData.eqv]
    | .list xs, h => by simp only [PyData.plain] at h; simp only [PyData.eqv]; exact eqvs_self xs h
    | .tuple xs, h => by simp only [PyData.plain] at h; simp only [PyData.eqv]; exact eqvs_self xs h
    | .dict _, h => by simp [PyData.plain] at h
  eqvs_self : ∀ ps : List PyData, PyData.plainAll ps = true → PyData.eqvAll ps ps = true
    | [], _ => by simp [PyData.eqvAll]
    | p :: ps, h => by
      simp only [PyData.plainAll, Bool.and_eq_true] at h
      simp only [PyData.eqvAll, eqv_self p h.1, eqvs_self ps h.2, Bool.and_self]
section
variable {K : Bd} {M M' : DM} {Q : DQ} {A : Alph} {row : List Str}
theorem s_law_alike {d e : D} {p : PyData} {n : Nat} (h1 : PyOf M 20 d p) (h2 : PyOf M 20 e p) (f : Fit p n) (hn : n ≤ 2 ^ 20) (q : Q (.bl true) M) : sp__law_alike K [d, e] M Q noX := by
  have hz : p.shown.length ≤ sizeLine := PyData.shown_fits (B := 13) (by decide) (by decide) f.short (Nat.le_trans f.w hn)
  refine go__law_alike ?_
  delta t__law_alike
  walk_at "g"
  refine ⟨p, h1, f.show_, hz, ?_⟩
  walk_at "g"
  refine ⟨p, h2, f.show_, hz, ?_⟩
  walk_at "g"
  rw [decide_eq_true rfl]
  walk_at "g"
  refine ⟨p, p, h1, h2, ?_⟩
  simp only [plain_eqv_self h1]
  exact q
theorem idx_map {α β : Type} [DecidableEq α] [DecidableEq β] (f : α → β) (inj : ∀ a b, f a = f b → a = b) (a : α) : ∀ xs : List α, (xs.map f).idxOf (f a) = xs.idxOf a
  | [] => rfl
  | x :: xs => by
    rw [List.map_cons, List.idxOf_cons, List.idxOf_cons, idx_map f inj a xs]
    by_cases h : x = a
    · subst h; simp
    · rw [show (f x == f a) = false from beq_eq_false_iff_ne.mpr (fun z => h (inj _ _ z)), show (x == a) = false from beq_eq_false_iff_ne.mpr h]
theorem keyNs_strs : ∀ r : List Str, keyNs (r.map D.str) = some (r.map NestedKey.text)
  | [] => rfl
  | s :: r => by
    rw [List.map_cons, keyNs, keyNs_strs r]
    rfl
theorem take_drop_erase {a : Str} : ∀ {r : List Str}, a ∈ r → r.take (r.idxOf a) ++ r.drop (r.idxOf a + 1) = r.erase a
  | [], h => nomatch h
  | x :: r, h => by
    by_cases e : x = a
    · subst e; simp
    · have hm : a ∈ r := by
        cases h with
        | head => exact absurd rfl e
        | tail _ h => exact h
      rw [List.idxOf_cons, show (x == a) = false from beq_eq_false_iff_ne.mpr e, List.erase_cons_tail (by simpa using e), ← take_drop_erase hm]
      rfl
theorem s_law_without (hl : row.length ≤ 10000) {a : Str} (ha : a ∈ row) (q : Q (Enc.d (row.erase a)) M) : sp__law_without K [Enc.d row, .str a] M Q noX := by
  refine go__law_without ?_
  delta t__law_without
  walk_at "g"
  refine ⟨⟨_, rfl⟩, ?_⟩
  walk_at "g"
  refine ⟨row.map D.str, row.map .text, .text a, rfl, keyNs_strs row, rfl, by simp [NestedKey.depth], List.mem_map_of_mem ha, ?_⟩
  have hidx : (row.map NestedKey.text).idxOf (.text a) = row.idxOf a := idx_map _ (fun _ _ h => NestedKey.text.inj h) a row
  rw [hidx]
  walk_at "g"
  rw [cut_to, show ((row.idxOf a : Nat) : Int) + 1 = ((row.idxOf a + 1 : Nat) : Int) from by omega, cut_from]
  refine add_tup ?_ ?_
  · rw [List.length_take, List.length_drop, List.length_map]
    exact Nat.le_trans (show _ ≤ 20000 by omega) (by size_fits)
  rw [← List.map_take, ← List.map_drop, ← List.map_append, take_drop_erase ha]
  walk_at "g"
  exact q
theorem s_law_normal (g : GoodA A) (hl : row.length ≤ 10000) (hr : InA A row) (q : ∀ M', Ext M M' → Q (Enc.d (nf A row)) M') : sp__law_normal K [aD A, Enc.d row] M Q noX := by
  refine go__law_normal ?_
  delta t__law_normal
  walk_at "g"
  refine wh_inv (fun m σ' M' => ∃ (r found : List Str) (v : Option D), σ' = [some (aD A), some (Enc.d r), some (Enc.d found), v] ∧ Ext M M' ∧ r.length = m ∧ InA A r ∧ found.length + m ≤ 10000 ∧ found ++ nfN A m r = nf A row) row.length ⟨row, [], _, rfl, .refl, rfl, hr, by simpa using hl, by simp [nf]⟩ ?_
  rintro m σ' M2 ⟨r, found, v, rfl, e2, hm, hin, hlen, hnf⟩ Kt kt
  walk_at "g"
  refine ne_enc (α := List Str) (a := r) (b := []) decide_eq_true_iff (by decide) ?_
  cases hz : decide (r = [])
  · have hne : r ≠ [] := of_decide_eq_false hz
    obtain ⟨s, hs1, hs2, hs3⟩ := firsts_some hin hne
    walk_at "g"
    refine s_law_firsts g (by omega) hin fun M3 l e3 hl3 hf3 => ?_
    walk_at "g"
    refine ix_lst (n := 0) hf3 (by rw [List.getElem?_map, hs1]; rfl) ?_
    walk_at "g"
    refine add_tup ?_ ?_
    · rw [List.length_map]; exact Nat.le_trans (show found.length + 1 ≤ 20000 by omega) (by size_fits)
    rw [show (found.map Enc.d ++ [D.str s]) = (found ++ [s]).map Enc.d from by rw [List.map_append]; rfl]
    walk_at "g"
    have hms := fstB_mem hs3
    refine s_law_without (by omega) hms ?_
    walk_at "g"
    have hel := List.length_erase_of_mem hms
    have hpos := List.length_pos_of_mem hms
    refine kt (m - 1) _ _ (by omega) ⟨r.erase s, found ++ [s], _, rfl, e2.trans e3, by omega, hin.erase, by rw [List.length_append]; simp; omega, ?_⟩
    rw [← hnf, show m = m - 1 + 1 by omega, nfN_some hs1, List.append_assoc]
    rfl
  · have hne : r = [] := of_decide_eq_true hz
    subst hne
    have : m = 0 := by simpa using hm.symm
    subst this
    simp only [nfN, List.append_nil] at hnf
    walk_at "g"
    rw [hnf]
    exact q _ e2
end
end Dt

set_option Elab.async false
set_option autoImplicit false
set_option linter.all false
set_option maxRecDepth 100000
set_option maxHeartbeats 8000000
namespace Dt
open PySem PySem.Spec PyProof.Rows L2 LamX RZ PySem.P
local macro_rules | `(tactic| walk_at "w1") => `(tactic| with_reducible refine StepW.go ?_)
local macro_rules | `(tactic| walk_at "w") => `(tactic| ((repeat walk_at "w1"); try (with_reducible conv => whnf)))
local macro_rules | `(tactic| walk_at "m") => `(tactic| first | with_reducible assumption | with_reducible exact put_same | (with_reducible apply Ext.get; (with_reducible assumption); walk_at "m") | (with_reducible apply Ext.get; (with_reducible apply Ext.new); (with_reducible assumption); walk_at "m"))
local macro_rules | `(tactic| walk_at "x") => `(tactic| first | with_reducible assumption | with_reducible exact Ext.refl | (with_reducible refine Ext.alloc ?_ (by with_reducible assumption) _; walk_at "x") | (with_reducible refine Ext.trans ?_ (by with_reducible assumption); walk_at "x"))
local macro_rules | `(tactic| walk_at "lk") => `(tactic| first | with_reducible exact look1 | ((with_reducible apply lookS); (with_unfolding_all decide); walk_at "lk"))
local macro_rules | `(tactic| walk_at "h1") => `(tactic| (first
  | with_reducible refine StepW.go ?_
  | with_reducible refine StepG.go ?_
  | with_reducible refine w_isTup ?_
  | ((with_reducible refine w_sz ?sz ?_); (case sz => size_fits))
  | ((with_reducible refine w_len ?sz ?_); (case sz => rfl))
  | ((with_reducible refine w_obj (by walk_at "m") ?ob2 ?_); (case ob2 => walk_at "ln"))
  | (with_reducible refine w_lenL (by walk_at "m") ?_) | (with_reducible refine w_seqL (by walk_at "m") ?_) | (with_reducible refine tup_list (by walk_at "m") ?_)
  | (with_reducible refine w_isLst (by walk_at "m") ?_) | (with_reducible refine w_slL (by walk_at "m") ?_)
  | ((with_reducible refine fld_ok (by walk_at "m") ?cl (by walk_at "lk") ?_); (case cl => walk_at "cl"))
  | (with_reducible refine w_lstL (by walk_at "m") ?_) | (with_reducible refine w_dic (by walk_at "m") ?_)
  ))
local macro_rules | `(tactic| walk_at "g1") => `(tactic| first | walk_at "h1" | with_reducible refine StepP.go ?_)
local macro_rules | `(tactic| walk_at "h") => `(tactic| ((repeat walk_at "h1"); try (with_reducible conv => whnf)))
local macro_rules | `(tactic| walk_at "g") => `(tactic| ((repeat walk_at "g1"); try (with_reducible conv => whnf)))
local macro_rules | `(tactic| walk_at "ln") => `(tactic| first | exact look_none (ns := ["row", "signs", "dependent", "places", "taken"]) rfl (by decide) | exact look_none (ns := ["alphabet", "due", "its_left", "signs", "parting"]) rfl (by decide) | exact look_none (ns := ["alphabet", "its_lag", "parting"]) rfl (by decide))
local macro_rules | `(tactic| walk_at "cl") => `(tactic| first | exact CF.get (by with_reducible assumption) (by decide) | exact LF.row (by with_reducible assumption) | exact LF.signs (by with_reducible assumption) | exact LF.dependent (by with_reducible assumption) | exact LF.places (by with_reducible assumption) | exact LF.taken (by with_reducible assumption))
section
variable {K : Bd} {M M' : DM} {Q : DQ} {E : DX} {A : Alph} {row : List Str} {b c : Addr}
theorem none_of {M M1 : DM} (e : Ext M M1) {p : Addr} (h : M1 p = none) : M p = none := by
  cases z : M p with
  | none => rfl
  | some o => rw [e _ _ z] at h; cases h
theorem bx_none {M M1 : DM} (e : Bx b M M1) {p : Addr} (hb : p ≠ b) (h : M1 p = none) : M p = none := by
  cases z : M p with
  | none => rfl
  | some o => rw [e _ _ hb z] at h; cases h
theorem lc_both (g : GoodA A) {x y : List Str} (hly : y.length ≤ 10000) (hy : InA A y) {l : Addr} (hf : M l = some (.lst ((firsts A x).map .str))) {s1 s3 s4 s5 : Option D} (q : ∀ M' p, Ext M M' → M' p = some (.lst ((boths A x y).map .str)) → Q (.ref p) M') :
    ∃ n, lcN (itL l) (gNm 5) (dB (dOp (memD false) (dVar 5) (dCall (sp__law_firsts K) (dCons (dVar 0) (dCons (dVar 2) dNil))))) (dVar 5) [5] [some (aD A), s1, some (Enc.d y), s3, s4, s5] Q n 0 M [] := by
  refine lc_pure (firsts A x) .str (fun s => fstB A y s) .str (fun i M' e4 _ => itL_is (e4 _ _ hf) i) (Nat.le_trans (List.length_filter_le _ _) (Nat.le_trans g.short (by size_fits))) ?_ ?_
  · intro i s M4 hs e4 KT KF kt kf
    have hsA := (List.mem_filter.mp (List.mem_of_getElem? hs)).1
    walk_at "g"
    refine s_law_firsts g hly hy fun M5 l5 e5 _ hf5 => ?_
    have hb : fstB A y s = true ↔ s ∈ firsts A y := by
      unfold firsts
      rw [List.mem_filter]
      exact ⟨fun h => ⟨hsA, h⟩, fun h => h.2⟩
    refine mem_encL (α := Str) (xs := firsts A y) (b := fstB A y s) hf5 hb (by decide) ?_
    cases hc : fstB A y s
    · walk_at "g"
      exact kf hc _ (e4.trans e5)
    · walk_at "g"
      exact kt hc _ (e4.trans e5)
  · intro M4 p e4 hp
    exact q _ p (e4.alloc hp _) put_same
theorem s_law_lag (g : GoodA A) {x y : List Str} (hlx : x.length ≤ 5000) (hly : y.length ≤ 5000) (hx : InA A x) (hy : InA A y) (q : ∀ M', Ext M M' → Q (.tup [Enc.d (nf A (cm A x y).1), Enc.d (nf A (cm A x y).2.1), Enc.d (nf A (cm A x y).2.2)]) M') : sp__law_lag K [aD A, Enc.d x, Enc.d y] M Q noX := by
  have c := cm_ok (y := y) g hx
  have hc1 := c.in1 g hx
  have hc2 := c.in2 g hy
  have hcl := c.len
  refine go__law_lag ?_
  delta t__law_lag
  walk_at "w1"
  walk_at "w1"
  walk_at "w1"
  walk_at "g"
  refine s_law_firsts g (by omega) hx fun M1 l e1 hl1 hf => ?_
  walk_at "g"
  refine lc_both g (by omega) hy hf fun M4 p e4 hp => ?_
  walk_at "g"
  refine wh_inv (fun m σ' M' => ∃ (x' y' found : List Str) (p : Addr) (v : Option D), σ' = [some (aD A), some (Enc.d x'), some (Enc.d y'), some (Enc.d found), some (.ref p), v] ∧ Ext M M' ∧ M' p = some (.lst ((boths A x' y').map .str)) ∧ x'.length = m ∧ y'.length ≤ 5000 ∧ InA A x' ∧ InA A y' ∧ found.length + m = x.length ∧ InA A found ∧ (found ++ (cmN A m x' y').1, (cmN A m x' y').2) = cm A x y) x.length ⟨x, y, [], p, _, rfl, e1.trans e4, hp, rfl, hly, hx, hy, by simp, in_nil, rfl⟩ ?_
  rintro m σ' M2 ⟨x', y', found, p, v, rfl, e2, hp2, hm, hy5, hx', hy', hfl, hfi, hcm⟩ Kt kt
  walk_at "g"
  intro n hn
  have hp3 : put M2 n (.lst []) p = some (.lst ((boths A x' y').map Enc.d)) := by rw [put_ne (ne_of_new hp2 hn)]; exact hp2
  have hn3 : put M2 n (.lst []) n = some (.lst []) := put_same
  have e3 := e2.alloc hn (.lst [])
  revert hp3 hn3 e3
  generalize put M2 n (.lst []) = M3
  intro hp3 hn3 e3
  cases hbo : boths A x' y' with
  | nil =>
    rw [hbo] at hp3
    refine ne_encL (α := Str) (xs := []) (ys := []) (c := true) hp3 hn3 (by simp) (by decide) ?_
    rw [cmN_none (by rw [hbo]; rfl), List.append_nil] at hcm
    rw [← hcm] at q
    walk_at "g"
    refine s_law_normal g (by omega) hfi fun M5 e5 => ?_
    walk_at "g"
    refine s_law_normal g (by omega) hx' fun M6 e6 => ?_
    walk_at "g"
    refine s_law_normal g (by omega) hy' fun M7 e7 => ?_
    walk_at "g"
    exact q _ (e3.trans (e5.trans (e6.trans e7)))
  | cons s bs =>
    rw [hbo] at hp3
    have hb0 : (boths A x' y')[0]? = some s := by rw [hbo]; rfl
    obtain ⟨hs, hs1, hs2⟩ := boths_some hb0
    have hm1 := fstB_mem hs1
    have hm2 := fstB_mem hs2
    have l1 := List.length_erase_of_mem hm1
    have l2 := List.length_erase_of_mem hm2
    have p1 := List.length_pos_of_mem hm1
    refine ne_encL (α := Str) (xs := s :: bs) (ys := []) (c := false) hp3 hn3 (by simp) (by decide) ?_
    walk_at "g"
    refine ix_lst (n := 0) hp3 rfl ?_
    walk_at "g"
    refine add_tup ?_ ?_
    · rw [List.length_map]; exact Nat.le_trans (show found.length + 1 ≤ 20000 by omega) (by size_fits)
    rw [show (found.map Enc.d ++ [Enc.d s]) = (found ++ [s]).map Enc.d from by rw [List.map_append]; rfl]
    walk_at "g"
    refine ix_lst (n := 0) hp3 rfl ?_
    walk_at "g"
    refine s_law_without (by omega) hm1 ?_
    walk_at "g"
    refine ix_lst (n := 0) hp3 rfl ?_
    walk_at "g"
    refine s_law_without (by omega) hm2 ?_
    walk_at "g"
    refine s_law_firsts g (by omega) hx'.erase fun M4 l4 e4 hl4 hf4 => ?_
    walk_at "g"
    refine lc_both g (by omega) hy'.erase hf4 fun M5 p5 e5 h5 => ?_
    walk_at "g"
    refine kt (m - 1) _ _ (by omega) ⟨x'.erase s, y'.erase s, found ++ [s], p5, _, rfl, e3.trans (e4.trans e5), h5, by omega, by omega, hx'.erase, hy'.erase, by rw [List.length_append]; simp; omega, hfi.app (in_one hs), ?_⟩
    rw [← hcm, show m = m - 1 + 1 by omega, cmN_some hb0, List.append_assoc]
    rfl
end
end Dt

set_option Elab.async false
set_option autoImplicit false
set_option linter.all false
set_option maxRecDepth 100000
set_option maxHeartbeats 8000000
namespace Dt
open PySem PySem.Spec PyProof.Rows L2 LamX RZ PySem.P
local macro_rules | `(tactic| walk_at "w1") => `(tactic| with_reducible refine StepW.go ?_)
local macro_rules | `(tactic| walk_at "w") => `(tactic| ((repeat walk_at "w1"); try (with_reducible conv => whnf)))
local macro_rules | `(tactic| walk_at "m") => `(tactic| first | with_reducible assumption | with_reducible exact put_same | (with_reducible apply Ext.get; (with_reducible assumption); walk_at "m") | (with_reducible apply Ext.get; (with_reducible apply Ext.new); (with_reducible assumption); walk_at "m"))
local macro_rules | `(tactic| walk_at "x") => `(tactic| first | with_reducible assumption | with_reducible exact Ext.refl | (with_reducible refine Ext.alloc ?_ (by with_reducible assumption) _; walk_at "x") | (with_reducible refine Ext.trans ?_ (by with_reducible assumption); walk_at "x"))
local macro_rules | `(tactic| walk_at "lk") => `(tactic| first | with_reducible exact look1 | ((with_reducible apply lookS); (with_unfolding_all decide); walk_at "lk"))
local macro_rules | `(tactic| walk_at "h1") => `(tactic| (first
  | with_reducible refine StepW.go ?_
  | with_reducible refine StepG.go ?_
  | with_reducible refine w_isTup ?_
  | ((with_reducible refine w_sz ?sz ?_); (case sz => size_fits))
  | ((with_reducible refine w_len ?sz ?_); (case sz => rfl))
  | ((with_reducible refine w_obj (by walk_at "m") ?ob2 ?_); (case ob2 => walk_at "ln"))
  | (with_reducible refine w_lenL (by walk_at "m") ?_) | (with_reducible refine w_seqL (by walk_at "m") ?_) | (with_reducible refine tup_list (by walk_at "m") ?_)
  | (with_reducible refine w_isLst (by walk_at "m") ?_) | (with_reducible refine w_slL (by walk_at "m") ?_)
  | ((with_reducible refine fld_ok (by walk_at "m") ?cl (by walk_at "lk") ?_); (case cl => walk_at "cl"))
  | (with_reducible refine w_lstL (by walk_at "m") ?_) | (with_reducible refine w_dic (by walk_at "m") ?_)
  ))
local macro_rules | `(tactic| walk_at "g1") => `(tactic| first | walk_at "h1" | with_reducible refine StepP.go ?_)
local macro_rules | `(tactic| walk_at "h") => `(tactic| ((repeat walk_at "h1"); try (with_reducible conv => whnf)))
local macro_rules | `(tactic| walk_at "g") => `(tactic| ((repeat walk_at "g1"); try (with_reducible conv => whnf)))
local macro_rules | `(tactic| walk_at "ln") => `(tactic| first | exact look_none (ns := ["row", "signs", "dependent", "places", "taken"]) rfl (by decide) | exact look_none (ns := ["alphabet", "due", "its_left", "signs", "parting"]) rfl (by decide) | exact look_none (ns := ["alphabet", "its_lag", "parting"]) rfl (by decide))
local macro_rules | `(tactic| walk_at "cl") => `(tactic| first | exact CF.get (by with_reducible assumption) (by decide) | exact LF.row (by with_reducible assumption) | exact LF.signs (by with_reducible assumption) | exact LF.dependent (by with_reducible assumption) | exact LF.places (by with_reducible assumption) | exact LF.taken (by with_reducible assumption))
section
variable {K : Bd} {M M' : DM} {Q : DQ} {E : DX} {A : Alph} {row : List Str} {b c : Addr}
theorem s_law_left_of (g : GoodA A) {gg : List Str} (hl : row.length ≤ 10000) (hg : InA A gg) (hr : InA A row) (q : ∀ M', Ext M M' → Q (optR ((lo A gg row).map (nf A))) M') : sp__law_left_of K [aD A, Enc.d gg, Enc.d row] M Q noX := by
  refine go__law_left_of ?_
  delta t__law_left_of
  walk_at "g"
  refine for_inv (gg.map .str) (fun i σ' M' => ∃ (r : List Str) (v : Option D), σ' = [some (aD A), some (Enc.d gg), some (Enc.d r), v] ∧ Ext M M' ∧ InA A r ∧ r.length ≤ 10000 ∧ lo A (gg.drop i) r = lo A gg row) (fun i σ' M' _ hi => rfl) ⟨row, _, rfl, .refl, hr, hl, rfl⟩ ?_ ?_
  · rintro i d σ' M2 hd ⟨r, v, rfl, e2, hin, hlr, hlo⟩ Kt kt
    rw [List.getElem?_map] at hd
    cases hx : gg[i]? with
    | none => rw [hx] at hd; cases hd
    | some s =>
      rw [hx] at hd; cases hd
      have hsA := hg s (List.mem_of_getElem? hx)
      rw [drop_get hx] at hlo
      simp only [lo] at hlo
      walk_at "g"
      refine s_law_firsts g hlr hin fun M3 l e3 _ hf => ?_
      have hb : fstB A r s = true ↔ s ∈ firsts A r := by
        unfold firsts
        rw [List.mem_filter]
        exact ⟨fun h => ⟨hsA, h⟩, fun h => h.2⟩
      refine nmem_encL (α := Str) (xs := firsts A r) (b := fstB A r s) hf hb (by decide) ?_
      cases hc : fstB A r s
      · rw [hc] at hlo
        simp only [Bool.false_eq_true, if_false] at hlo
        rw [← hlo] at q
        walk_at "g"
        exact q _ (e2.trans e3)
      · rw [hc] at hlo
        simp only [if_true] at hlo
        have hm := fstB_mem hc
        have hel := List.length_erase_of_mem hm
        walk_at "g"
        refine s_law_without hlr hm ?_
        walk_at "g"
        exact kt _ _ ⟨r.erase s, _, rfl, e2.trans e3, hin.erase, by omega, hlo⟩
  · rintro σ' M2 ⟨r, v, rfl, e2, hin, hlr, hlo⟩
    rw [List.length_map, List.drop_length] at hlo
    simp only [lo] at hlo
    rw [← hlo] at q
    walk_at "g"
    exact s_law_normal g hlr hin fun M3 e3 => q _ (e2.trans e3)
theorem s_law_row (h : BagAt M b c) {signs : List Str} (h0 : signs ≠ []) (hl : signs.length ≤ 1000) {most : Nat} (hm : most ≤ 1000) (q : ∀ M' (r : List Str), (∀ s ∈ r, s ∈ signs) → r.length ≤ most → Bx b M M' → BagAt M' b c → Q (Enc.d r) M') : sp__law_row K [.ref b, Enc.d signs, .int (most : Nat)] M Q noX := by
  refine go__law_row ?_
  delta t__law_row
  walk_at "g"
  rw [show ((most : Nat) : Int) + 1 = ((most + 1 : Nat) : Int) from by omega]
  refine s_law_take h (by omega) (by omega) fun M1 v hv k1 h1 => ?_
  walk_at "g"
  refine ⟨⟨by omega, by omega⟩, ?_⟩
  refine lc_inv ((List.range v).map fun k : Nat => D.int (0 + (k : Int))) (fun i acc M' => Bx b M M' ∧ BagAt M' b c ∧ ∃ r : List Str, acc = r.map .str ∧ r.length = i ∧ ∀ s ∈ r, s ∈ signs) (fun i acc M' _ hi => by
    rw [List.length_map, List.length_range] at hi
    exact itR_at 0 _ i M' (by simpa using hi)) ⟨k1, h1, [], rfl, rfl, by simp⟩ (by rw [List.length_map, List.length_range]; exact Nat.le_trans (show v ≤ 2000 by omega) (by size_fits)) (fun i acc M' h => by obtain ⟨_, _, r, rfl, rfl, _⟩ := h; simp) ?_ ?_
  · rintro i d acc M2 hd ⟨k2, h2, r, rfl, hri, hrs⟩ KT KF kt kf
    rw [List.getElem?_map] at hd
    cases hx : (List.range v)[i]? with
    | none => rw [hx] at hd; cases hd
    | some j =>
      rw [hx] at hd; cases hd
      walk_at "g"
      refine s_law_some (α := Str) h2 h0 (by omega) fun M3 s hs k3 h3 => ?_
      refine kt _ _ ⟨k2.trans k3, h3, r ++ [s], by rw [List.map_append]; rfl, by rw [List.length_append]; simp; omega, fun z hz => ?_⟩
      rcases List.mem_append.mp hz with z1 | z1
      · exact hrs z z1
      · rw [List.mem_singleton.mp z1]; exact hs
  · rintro acc M2 p ⟨k2, h2, r, rfl, hri, hrs⟩ hp
    rw [List.length_map, List.length_range] at hri
    walk_at "g"
    exact q _ r hrs (by omega) (k2.trans (Ext.new hp _).bx) (h2.ext (Ext.new hp _))
theorem s_law_alphabet (h : BagAt M b c) {xs : List Str} (hs : xs.Pairwise sLt) (hl : xs.length ≤ 10) (q : ∀ M' A, A.signs = xs → GoodA A → Bx b M M' → BagAt M' b c → Q (aD A) M') : sp__law_alphabet K [.ref b, Enc.d xs] M Q noX := by
  refine go__law_alphabet ?_
  delta t__law_alphabet
  walk_at "g"
  intro l hl1
  have hlb : l ≠ b := fun z => by
    obtain ⟨x, y, z', cells, e1, _⟩ := h.ex
    rw [z, e1] at hl1; cases hl1
  walk_at "g"
  refine for_inv (numD (xs.map .str)) (fun i σ' M' => (∃ u v, σ' = [some (.ref b), some (Enc.d xs), some (.ref l), u, v, none]) ∧ (∀ a o, a ≠ b → a ≠ l → M a = some o → M' a = some o) ∧ BagAt M' b c ∧ ∃ cs : List (Str × Str), M' l = some (.lst (cs.map Enc.d)) ∧ (∀ p ∈ cs, sLt p.1 p.2) ∧ cs.length ≤ i * 10) (fun i σ' M' _ _ => itE_at rfl) ⟨⟨_, _, rfl⟩, fun a o _ hal e => by rw [put_ne hal]; exact e, h.ext (Ext.new hl1 _), [], put_same, by simp, by simp⟩ ?_ ?_
  · rintro i d σ' M2 hd ⟨⟨u, v, rfl⟩, k2, h2, cs, hcs, hlt, hlen⟩ Kt kt
    obtain ⟨a, hx, rfl⟩ := numD_get' hd
    have hi := (List.getElem?_eq_some_iff.mp hx).1
    walk_at "g"
    rw [show ((i : Int) + 1) = ((i + 1 : Nat) : Int) from by omega, cut_from, ← List.map_drop]
    have hdl : (xs.drop (i + 1)).length ≤ 10 := by rw [List.length_drop]; omega
    refine lc_inv ((xs.drop (i + 1)).map .str) (fun j acc M' => Bx b M2 M' ∧ BagAt M' b c ∧ ∃ ps : List (Str × Str), acc = ps.map Enc.d ∧ (∀ p ∈ ps, sLt p.1 p.2) ∧ ps.length ≤ j) (fun i acc M' _ hi => rfl) ⟨Bx.refl, h2, [], rfl, by simp, by simp⟩ (by rw [List.length_map]; exact Nat.le_trans hdl (by size_fits)) (fun i acc M' h => by obtain ⟨_, _, ps, rfl, _, h3⟩ := h; simpa using h3) ?_ ?_
    · rintro j d acc M3 hd3 ⟨k3, h3, ps, rfl, hps, hpl⟩ KT KF kt2 kf2
      rw [List.getElem?_map] at hd3
      cases hy : (xs.drop (i + 1))[j]? with
      | none => rw [hy] at hd3; cases hd3
      | some e =>
        rw [hy] at hd3; cases hd3
        have hae : sLt a e := by
          rw [List.getElem?_drop] at hy
          exact List.pairwise_iff_getElem.mp hs i (i + 1 + j) hi (List.getElem?_eq_some_iff.mp hy).1 (by omega) |> fun z => by
            rw [(List.getElem?_eq_some_iff.mp hx).2, (List.getElem?_eq_some_iff.mp hy).2] at z
            exact z
        walk_at "g"
        refine s_law_take h3 (many := 5) (by decide) (by decide) fun M4 v hv k4 h4 => ?_
        walk_at "g"
        cases hv3 : decide ((v : Int) < 3)
        · walk_at "g"
          exact kf2 _ ⟨k3.trans k4, h4, ps, rfl, hps, by omega⟩
        · walk_at "g"
          refine kt2 _ _ ⟨k3.trans k4, h4, ps ++ [(a, e)], by rw [List.map_append]; rfl, fun p hp => ?_, by rw [List.length_append]; simp; omega⟩
          rcases List.mem_append.mp hp with z | z
          · exact hps p z
          · rw [List.mem_singleton.mp z]; exact hae
    · rintro acc M3 p ⟨k3, h3, ps, rfl, hps, hpl⟩ hp
      rw [List.length_map] at hpl
      have e3 := Ext.new hp (.lst (ps.map Enc.d))
      have hl4 := e3 _ _ (k3 _ _ hlb hcs)
      walk_at "g"
      refine ⟨l, cs.map Enc.d, ps.map Enc.d, rfl, hl4, put_same, by rw [List.length_map, List.length_map]; exact Nat.le_trans (show _ ≤ 200 by omega) (by size_fits), ?_⟩
      walk_at "g"
      refine kt _ _ ⟨⟨_, _, rfl⟩, fun a' o hab hal e => by rw [put_ne hal]; exact e3 _ _ (k3 _ _ hab (k2 _ _ hab hal e)), (h3.ext e3).mono (fun a' o ha e => ?_), cs ++ ps, by rw [put_same, List.map_append], fun p hp => ?_, by rw [List.length_append]; omega⟩
      · have : a' ≠ l := by
          rcases ha with rfl | rfl
          · exact Ne.symm hlb
          · intro z
            obtain ⟨x, y, z', cells, e1, e2, _⟩ := h.ex
            rw [z, hl1] at e2; cases e2
        rw [put_ne this]; exact e
      · rcases List.mem_append.mp hp with z | z
        · exact hlt p z
        · exact hps p z
  · rintro σ' M2 ⟨⟨u, v, rfl⟩, k2, h2, cs, hcs, hlt, hlen⟩
    walk_at "g"
    refine q M2 ⟨xs, cs⟩ rfl ⟨hs, by show xs.length ≤ 100; omega, hlt⟩ (fun a o hab e => k2 _ _ hab (ne_of_new e hl1) e) h2
end
end Dt

set_option Elab.async false
set_option autoImplicit false
set_option linter.all false
set_option maxRecDepth 100000
set_option maxHeartbeats 8000000
namespace Dt
open PySem PySem.Spec PyProof.Rows L2 LamX RZ PySem.P
local macro_rules | `(tactic| walk_at "w1") => `(tactic| with_reducible refine StepW.go ?_)
local macro_rules | `(tactic| walk_at "w") => `(tactic| ((repeat walk_at "w1"); try (with_reducible conv => whnf)))
local macro_rules | `(tactic| walk_at "m") => `(tactic| first | with_reducible assumption | with_reducible exact put_same | (with_reducible apply Ext.get; (with_reducible assumption); walk_at "m") | (with_reducible apply Ext.get; (with_reducible apply Ext.new); (with_reducible assumption); walk_at "m"))
local macro_rules | `(tactic| walk_at "x") => `(tactic| first | with_reducible assumption | with_reducible exact Ext.refl | (with_reducible refine Ext.alloc ?_ (by with_reducible assumption) _; walk_at "x") | (with_reducible refine Ext.trans ?_ (by with_reducible assumption); walk_at "x"))
local macro_rules | `(tactic| walk_at "lk") => `(tactic| first | with_reducible exact look1 | ((with_reducible apply lookS); (with_unfolding_all decide); walk_at "lk"))
local macro_rules | `(tactic| walk_at "h1") => `(tactic| (first
  | with_reducible refine StepW.go ?_
  | with_reducible refine StepG.go ?_
  | with_reducible refine w_isTup ?_
  | ((with_reducible refine w_sz ?sz ?_); (case sz => size_fits))
  | ((with_reducible refine w_len ?sz ?_); (case sz => rfl))
  | ((with_reducible refine w_obj (by walk_at "m") ?ob2 ?_); (case ob2 => walk_at "ln"))
  | (with_reducible refine w_lenL (by walk_at "m") ?_) | (with_reducible refine w_seqL (by walk_at "m") ?_) | (with_reducible refine tup_list (by walk_at "m") ?_)
  | (with_reducible refine w_isLst (by walk_at "m") ?_) | (with_reducible refine w_slL (by walk_at "m") ?_)
  | ((with_reducible refine fld_ok (by walk_at "m") ?cl (by walk_at "lk") ?_); (case cl => walk_at "cl"))
  | (with_reducible refine w_lstL (by walk_at "m") ?_) | (with_reducible refine w_dic (by walk_at "m") ?_)
  ))
local macro_rules | `(tactic| walk_at "g1") => `(tactic| first | walk_at "h1" | with_reducible refine StepP.go ?_)
local macro_rules | `(tactic| walk_at "h") => `(tactic| ((repeat walk_at "h1"); try (with_reducible conv => whnf)))
local macro_rules | `(tactic| walk_at "g") => `(tactic| ((repeat walk_at "g1"); try (with_reducible conv => whnf)))
local macro_rules | `(tactic| walk_at "ln") => `(tactic| first | exact look_none (ns := ["row", "signs", "dependent", "places", "taken"]) rfl (by decide) | exact look_none (ns := ["alphabet", "due", "its_left", "signs", "parting"]) rfl (by decide) | exact look_none (ns := ["alphabet", "its_lag", "parting"]) rfl (by decide))
local macro_rules | `(tactic| walk_at "cl") => `(tactic| first | exact CF.get (by with_reducible assumption) (by decide) | exact LF.row (by with_reducible assumption) | exact LF.signs (by with_reducible assumption) | exact LF.dependent (by with_reducible assumption) | exact LF.places (by with_reducible assumption) | exact LF.taken (by with_reducible assumption))
section
variable {K : Bd} {M M' : DM} {Q : DQ} {E : DX} {A : Alph} {row : List Str} {b c : Addr}
theorem find_app {α : Type} {xs pre post : List α} {x : α} {p : α → Bool} (e : xs = pre ++ x :: post) (hx : p x = true) (hp : ∀ y ∈ pre, p y = false) : xs.find? p = some x := by
  rw [e, List.find?_append, List.find?_eq_none.mpr (fun y hy => by rw [hp y hy]; simp), List.find?_cons_of_pos hx]; rfl
theorem fr_pair (g : GoodA A) {a b : Str} (h : sLt a b) : fr A a b = decide ((a, b) ∈ A.free) := by unfold fr; rw [minS_of h, maxS_of h]
theorem countP_str (s : Str) : ∀ r : List Str, (r.map (Enc.p (α := Str))).countP (fun z => PyData.eqv z (Enc.p s)) = r.count s
  | [] => rfl
  | t :: r => by
    rw [List.map_cons, List.countP_cons, List.count_cons, countP_str s r]
    congr 1
theorem w_cnt {r : List Str} {s : Str} (q : Q (.int ((r.count s : Nat) : Int)) M) : tcntD (.tup (r.map .str)) [.str s] M Q := by
  refine ⟨r.map .str, r.map Enc.p, Enc.p s, rfl, pyOfs_map M 20 (by decide) r, .str, ?_⟩
  rw [countP_str]; exact q
/-- the test of one couple -/
def cplN (A : Alph) (due row : List Str) (s : Str) (c : Str × Str) : Bool := !decide (c ∈ A.free) && cpl A due row s c
theorem told_pairs (due came : List Str) (s : Str) : (dcs A).find? (cpl A due (came ++ [s]) s) = (pairs A.signs).find? (cplN A due (came ++ [s]) s) := by
  unfold dcs
  rw [List.find?_filter]
  congr 1
  funext c
  unfold cplN
  cases decide (c ∈ A.free) <;> simp
theorem pairs_cut {xs : List Str} {i : Nat} {x : Str} (h : xs[i]? = some x) : pairs (xs.drop i) = ((xs.drop (i + 1)).map fun b => (x, b)) ++ pairs (xs.drop (i + 1)) := by
  rw [drop_get h]; rfl
theorem s_law_parting (g : GoodA A) {due came : List Str} {s : Str} (hs : s ∈ A.signs) (hl : due.length ≤ 5000) (hlc : came.length ≤ 5000) (q : ∀ M', Ext M M' → Q (ptD (toldP A due came s)) M') : sp__law_parting K [aD A, Enc.d due, Enc.d came, .str s] M Q noX := by
  have hz : (came ++ [s]).length ≤ sizeLine := by rw [List.length_append]; exact Nat.le_trans (show came.length + 1 ≤ 10000 by omega) (by size_fits)
  have hzd : due.length ≤ sizeLine := Nat.le_trans hl (by size_fits)
  have hsl : A.signs.length ≤ sizeLine := Nat.le_trans g.short (by size_fits)
  refine go__law_parting ?_
  delta t__law_parting
  walk_at "g"
  refine add_tup ?_ ?_
  · rw [List.length_append] at hz; rw [List.length_map]; exact hz
  rw [show (came.map Enc.d ++ [D.str s]) = (came ++ [s]).map D.str from by rw [List.map_append]; rfl]
  walk_at "g"
  refine w_cnt ?_
  walk_at "g"
  refine ⟨⟨_, rfl⟩, ?_⟩
  walk_at "g"
  refine w_cnt ?_
  walk_at "g"
  unfold toldP at q
  have hci : decide (((due.count s : Nat) : Int) < (((came ++ [s]).count s : Nat) : Int)) = decide (due.count s < (came ++ [s]).count s) := by
    rw [Bool.eq_iff_iff]; simp only [decide_eq_true_eq]; omega
  rw [hci]
  cases hcn : decide (due.count s < (came ++ [s]).count s)
  · have hcn' := of_decide_eq_false hcn
    rw [if_neg hcn', told_pairs] at q
    walk_at "g"
    refine ix_tup (n := 0) rfl ?_
    walk_at "g"
    refine for_inv (numD (A.signs.map .str)) (fun i σ' M' => (∃ u v y z w, σ' = [some (aD A), some (Enc.d due), some (Enc.d came), some (.str s), some (Enc.d (came ++ [s])), u, v, y, z, w]) ∧ Ext M M' ∧ ∃ dn, (∀ c ∈ dn, cplN A due (came ++ [s]) s c = false) ∧ dn ++ pairs (A.signs.drop i) = pairs A.signs) (fun i σ' M' _ _ => itE_at rfl) ⟨⟨_, _, _, _, _, rfl⟩, .refl, [], by simp, rfl⟩ ?_ ?_
    · rintro i d σ' M2 hd ⟨⟨u, v, y, z, w, rfl⟩, e2, dn, hdn, hcat⟩ Kt kt
      obtain ⟨a, hx, rfl⟩ := numD_get' hd
      have hi := (List.getElem?_eq_some_iff.mp hx).1
      rw [pairs_cut hx] at hcat
      walk_at "g"
      refine ix_tup (n := 0) rfl ?_
      walk_at "g"
      rw [show ((i : Int) + 1) = ((i + 1 : Nat) : Int) from by omega, cut_from, ← List.map_drop]
      refine for_inv ((A.signs.drop (i + 1)).map .str) (fun j σ' M' => (∃ y z w, σ' = [some (aD A), some (Enc.d due), some (Enc.d came), some (.str s), some (Enc.d (came ++ [s])), some (.int (i : Nat)), some (.str a), y, z, w]) ∧ Ext M M' ∧ ∀ e ∈ (A.signs.drop (i + 1)).take j, cplN A due (came ++ [s]) s (a, e) = false) (fun j σ' M' _ _ => rfl) ⟨⟨_, _, _, rfl⟩, e2, by simp⟩ ?_ ?_
      · rintro j d σ' M3 hd3 ⟨⟨y, z, w, rfl⟩, e3, hpre⟩ Kt2 kt2
        rw [List.getElem?_map] at hd3
        cases hy : (A.signs.drop (i + 1))[j]? with
        | none => rw [hy] at hd3; cases hd3
        | some e =>
          rw [hy] at hd3; cases hd3
          have hlt : sLt a e := by
            rw [List.getElem?_drop] at hy
            have z := List.pairwise_iff_getElem.mp g.sorted i (i + 1 + j) hi (List.getElem?_eq_some_iff.mp hy).1 (by omega)
            rw [(List.getElem?_eq_some_iff.mp hx).2, (List.getElem?_eq_some_iff.mp hy).2] at z
            exact z
          have hne : cplN A due (came ++ [s]) s (a, e) = (!fr A a e && (decide (s ∈ [a, e]) && !decide ((came ++ [s]).filter (fun s => decide (s ∈ [a, e])) = (due.filter (fun s => decide (s ∈ [a, e]))).take ((came ++ [s]).filter (fun s => decide (s ∈ [a, e]))).length))) := by
            unfold cplN cpl
            rw [fr_pair g hlt]
          have next : ∀ M4, Ext M3 M4 → cplN A due (came ++ [s]) s (a, e) = false → ∀ σ2, (∃ y z w, σ2 = [some (aD A), some (Enc.d due), some (Enc.d came), some (D.str s), some (Enc.d (came ++ [s])), some (.int (i : Nat)), some (.str a), y, z, w]) → Kt2 σ2 M4 := fun M4 e4 hc σ2 hσ => kt2 _ _ ⟨hσ, e3.trans e4, fun c' hc' => by
            rw [take_succ_get hy] at hc'
            rcases List.mem_append.mp hc' with h | h
            · exact hpre c' h
            · rw [List.mem_singleton.mp h]; exact hc⟩
          walk_at "g"
          refine mem_enc (α := Str) (xs := [a, e]) (b := decide (s ∈ [a, e])) decide_eq_true_iff (by decide) ?_
          cases h1 : decide (s ∈ [a, e])
          · rw [h1] at hne
            walk_at "g"
            exact next _ .refl (by rw [hne]; simp) _ ⟨_, _, _, rfl⟩
          · rw [h1] at hne
            walk_at "g"
            refine s_law_is_free ?_
            walk_at "g"
            cases hf : fr A a e
            · rw [hf] at hne
              walk_at "g"
              refine s_law_cut hz fun M4 e4 => ?_
              walk_at "g"
              refine s_law_cut hzd fun M5 e5 => ?_
              walk_at "g"
              rw [cut_to, ← List.map_take]
              refine ne_enc (α := List Str) decide_eq_true_iff (by decide) ?_
              cases h2 : decide ((came ++ [s]).filter (fun s => decide (s ∈ [a, e])) = (due.filter (fun s => decide (s ∈ [a, e]))).take ((came ++ [s]).filter (fun s => decide (s ∈ [a, e]))).length)
              · rw [h2] at hne
                have hcpl : cplN A due (came ++ [s]) s (a, e) = true := by rw [hne]; rfl
                walk_at "g"
                have hfind : (pairs A.signs).find? (cplN A due (came ++ [s]) s) = some (a, e) := by
                  refine find_app (pre := dn ++ ((A.signs.drop (i + 1)).take j).map fun b => (a, b)) (post := ((A.signs.drop (i + 1)).drop (j + 1)).map (fun b => (a, b)) ++ pairs (A.signs.drop (i + 1))) ?_ hcpl ?_
                  · rw [← hcat]
                    have : (A.signs.drop (i + 1)).map (fun b => (a, b)) = ((A.signs.drop (i + 1)).take j).map (fun b => (a, b)) ++ (a, e) :: ((A.signs.drop (i + 1)).drop (j + 1)).map (fun b => (a, b)) := by
                      have h5 := congrArg (List.map fun b => (a, b)) (List.take_append_drop j (A.signs.drop (i + 1))).symm
                      rw [drop_get hy, List.map_append, List.map_cons] at h5
                      exact h5
                    rw [this]
                    simp only [List.append_assoc, List.cons_append]
                  · intro y hy2
                    rcases List.mem_append.mp hy2 with h | h
                    · exact hdn y h
                    · obtain ⟨e', he', rfl⟩ := List.mem_map.mp h
                      exact hpre e' he'
                rw [hfind] at q
                exact q _ (e3.trans (e4.trans e5))
              · rw [h2] at hne
                walk_at "g"
                exact next _ (e4.trans e5) (by rw [hne]; rfl) _ ⟨_, _, _, rfl⟩
            · rw [hf] at hne
              walk_at "g"
              exact next _ .refl (by rw [hne]; simp) _ ⟨_, _, _, rfl⟩
      · rintro σ' M3 ⟨⟨y, z, w, rfl⟩, e3, hpre⟩
        rw [List.length_map, List.take_length] at hpre
        walk_at "g"
        refine kt _ _ ⟨⟨_, _, _, _, _, rfl⟩, e3, dn ++ (A.signs.drop (i + 1)).map (fun b => (a, b)), fun c hc => ?_, by rw [List.append_assoc]; exact hcat⟩
        rcases List.mem_append.mp hc with h | h
        · exact hdn c h
        · obtain ⟨e', he', rfl⟩ := List.mem_map.mp h
          exact hpre e' he'
    · rintro σ' M2 ⟨⟨u, v, y, z, w, rfl⟩, e2, dn, hdn, hcat⟩
      rw [numD_length, List.length_map, List.drop_length] at hcat
      simp only [pairs, List.append_nil] at hcat
      subst hcat
      walk_at "g"
      rw [List.find?_eq_none.mpr (fun y hy => by rw [hdn y hy]; simp)] at q
      exact q _ e2
  · rw [if_pos (of_decide_eq_true hcn)] at q
    walk_at "g"
    exact q _ .refl
theorem s_law_met (g : GoodA A) {x y : List Str} (hlx : x.length ≤ 1000) (hly : y.length ≤ 1000) (q : ∀ M', Ext M M' → Q (wpD (metP A (x, y))) M') : sp__law_met K [aD A, Enc.d x, Enc.d y] M Q noX := by
  refine go__law_met ?_
  delta t__law_met
  walk_at "g"
  intro l hl1
  walk_at "g"
  have hbound : ∀ n, (metL A (x.take n) y).length ≤ n * y.length := by
    intro n
    unfold metL
    rw [List.length_flatMap]
    have : ∀ zs : List Str, ((zs.map fun a => ((y.filter fun b => !fr A a b).map fun b => (minS a b, maxS a b)).length)).sum ≤ zs.length * y.length := by
      intro zs
      induction zs with
      | nil => simp
      | cons z zs ih =>
        simp only [List.map_cons, List.sum_cons, List.length_cons, List.length_map]
        have := List.length_filter_le (fun b => !fr A z b) y
        rw [Nat.add_mul]
        simp only [List.length_map] at ih
        omega
    exact Nat.le_trans (this _) (Nat.mul_le_mul_right _ (by rw [List.length_take]; exact Nat.min_le_left _ _))
  refine for_inv (x.map .str) (fun i σ' M' => (∃ u v, σ' = [some (aD A), some (Enc.d x), some (Enc.d y), some (.ref l), u, v]) ∧ Ext M M' ∧ M' l = some (.lst ((metL A (x.take i) y).map Enc.d))) (fun i σ' M' _ _ => rfl) ⟨⟨_, _, rfl⟩, by walk_at "x", put_same⟩ ?_ ?_
  · rintro i d σ' M2 hd ⟨⟨u, v, rfl⟩, e2, hm⟩ Kt kt
    rw [List.getElem?_map] at hd
    cases hx : x[i]? with
    | none => rw [hx] at hd; cases hd
    | some a =>
      rw [hx] at hd; cases hd
      have hi := (List.getElem?_eq_some_iff.mp hx).1
      walk_at "g"
      refine lc_pure y .str (fun b => !fr A a b) (fun b => Enc.d (minS a b, maxS a b)) (fun _ _ _ _ => rfl) (Nat.le_trans hly (by size_fits)) ?_ ?_
      · intro j e M3 he e3 KT KF kt2 kf2
        walk_at "g"
        refine s_law_is_free ?_
        walk_at "g"
        cases hf : fr A a e
        · walk_at "g"
          exact kt2 (by rw [hf]; rfl) _ e3
        · walk_at "g"
          exact kf2 (by rw [hf]; rfl) _ e3
      · intro M3 p e3 hp
        have e4 := Ext.new hp (.lst (((y.filter fun b => !fr A a b).map fun b => Enc.d (minS a b, maxS a b))))
        have hm4 := e4 _ _ (e3 _ _ hm)
        have h5 := hbound i
        have h6 := List.length_filter_le (fun b => !fr A a b) y
        have h7 : i * y.length ≤ 1000 * 1000 := Nat.mul_le_mul (by omega) hly
        walk_at "g"
        refine ⟨l, _, _, rfl, hm4, put_same, by rw [List.length_map, List.length_map]; exact Nat.le_trans (show _ ≤ 2000000 by omega) (by size_fits), ?_⟩
        walk_at "g"
        refine kt _ _ ⟨⟨_, _, rfl⟩, fun a' o e => ?_, ?_⟩
        · rw [put_ne (ne_of_new e hl1)]
          exact e4 _ _ (e3 _ _ (e2 _ _ e))
        · rw [put_same, take_succ_get hx]
          simp [metL]
  · rintro σ' M2 ⟨⟨u, v, rfl⟩, e2, hm⟩
    rw [List.length_map, List.take_length] at hm
    walk_at "g"
    intro n hn
    have hm3 : put M2 n (.lst []) l = some (.lst ((metL A x y).map Enc.d)) := by rw [put_ne (ne_of_new hm hn)]; exact hm
    have hn3 : put M2 n (.lst []) n = some (.lst []) := put_same
    have e3 := e2.alloc hn (.lst [])
    revert hm3 hn3 e3
    generalize put M2 n (.lst []) = M3
    intro hm3 hn3 e3
    unfold metP at q
    simp only [] at q
    cases hml : metL A x y with
    | nil =>
      rw [hml] at hm3 q
      refine eq_encL (α := Str × Str) (xs := []) (ys := []) (c := true) hm3 hn3 (by simp) (by decide) ?_
      walk_at "g"
      exact q _ e3
    | cons c cs =>
      rw [hml] at hm3 q
      refine eq_encL (α := Str × Str) (xs := c :: cs) (ys := []) (c := false) hm3 hn3 (by simp) (by decide) ?_
      walk_at "g"
      refine w_minC hm3 fun mc hmc => ?_
      rw [hmc] at q
      refine add_tup (by size_fits) ?_
      exact q _ e3
end
end Dt

set_option Elab.async false
set_option autoImplicit false
set_option linter.all false
set_option maxRecDepth 100000
set_option maxHeartbeats 8000000
namespace Dt
open PySem PySem.Spec PyProof.Rows L2 LamX RZ PySem.P
local macro_rules | `(tactic| walk_at "w1") => `(tactic| with_reducible refine StepW.go ?_)
local macro_rules | `(tactic| walk_at "w") => `(tactic| ((repeat walk_at "w1"); try (with_reducible conv => whnf)))
local macro_rules | `(tactic| walk_at "m") => `(tactic| first | with_reducible assumption | with_reducible exact put_same | (with_reducible apply Ext.get; (with_reducible assumption); walk_at "m") | (with_reducible apply Ext.get; (with_reducible apply Ext.new); (with_reducible assumption); walk_at "m"))
local macro_rules | `(tactic| walk_at "x") => `(tactic| first | with_reducible assumption | with_reducible exact Ext.refl | (with_reducible refine Ext.alloc ?_ (by with_reducible assumption) _; walk_at "x") | (with_reducible refine Ext.trans ?_ (by with_reducible assumption); walk_at "x"))
local macro_rules | `(tactic| walk_at "lk") => `(tactic| first | with_reducible exact look1 | ((with_reducible apply lookS); (with_unfolding_all decide); walk_at "lk"))
local macro_rules | `(tactic| walk_at "h1") => `(tactic| (first
  | with_reducible refine StepW.go ?_
  | with_reducible refine StepG.go ?_
  | with_reducible refine w_isTup ?_
  | ((with_reducible refine w_sz ?sz ?_); (case sz => size_fits))
  | ((with_reducible refine w_len ?sz ?_); (case sz => rfl))
  | ((with_reducible refine w_obj (by walk_at "m") ?ob2 ?_); (case ob2 => walk_at "ln"))
  | (with_reducible refine w_lenL (by walk_at "m") ?_) | (with_reducible refine w_seqL (by walk_at "m") ?_) | (with_reducible refine tup_list (by walk_at "m") ?_)
  | (with_reducible refine w_isLst (by walk_at "m") ?_) | (with_reducible refine w_slL (by walk_at "m") ?_)
  | ((with_reducible refine fld_ok (by walk_at "m") ?cl (by walk_at "lk") ?_); (case cl => walk_at "cl"))
  | (with_reducible refine w_lstL (by walk_at "m") ?_) | (with_reducible refine w_dic (by walk_at "m") ?_)
  ))
local macro_rules | `(tactic| walk_at "g1") => `(tactic| first | walk_at "h1" | with_reducible refine StepP.go ?_)
local macro_rules | `(tactic| walk_at "h") => `(tactic| ((repeat walk_at "h1"); try (with_reducible conv => whnf)))
local macro_rules | `(tactic| walk_at "g") => `(tactic| ((repeat walk_at "g1"); try (with_reducible conv => whnf)))
local macro_rules | `(tactic| walk_at "ln") => `(tactic| first | exact look_none (ns := ["row", "signs", "dependent", "places", "taken"]) rfl (by decide) | exact look_none (ns := ["alphabet", "due", "its_left", "signs", "parting"]) rfl (by decide) | exact look_none (ns := ["alphabet", "its_lag", "parting"]) rfl (by decide))
local macro_rules | `(tactic| walk_at "cl") => `(tactic| first | exact CF.get (by with_reducible assumption) (by decide) | exact LF.row (by with_reducible assumption) | exact LF.signs (by with_reducible assumption) | exact LF.dependent (by with_reducible assumption) | exact LF.places (by with_reducible assumption) | exact LF.taken (by with_reducible assumption))
section
variable {K : Bd} {M M' : DM} {Q : DQ} {E : DX} {A : Alph} {row : List Str} {b c : Addr}
/-- a row as a key -/
def nk (r : List Str) : NestedKey := .tup (r.map .text)
theorem nk_inj {r s : List Str} (h : nk r = nk s) : r = s := by
  have := NestedKey.tup.inj h
  exact List.map_injective (fun a b e => NestedKey.text.inj e) this
where
  List.map_injective {α β : Type} {f : α → β} (hf : ∀ a b, f a = f b → a = b) : ∀ {xs ys : List α}, xs.map f = ys.map f → xs = ys
    | [], [], _ => rfl
    | [], _ :: _, h => by simp at h
    | _ :: _, [], h => by simp at h
    | x :: xs, y :: ys, h => by
      simp only [List.map_cons, List.cons.injEq] at h
      rw [hf _ _ h.1, List.map_injective hf h.2]
theorem keyN_row (r : List Str) : keyN (.tup (r.map .str)) = some (nk r) := by
  rw [keyN, keyNs_strs]; rfl
theorem depth_text (r : List Str) : (nk r).depth ≤ 8 := by
  unfold nk
  simp only [NestedKey.depth]
  have : NestedKey.depthAll (r.map .text) ≤ 1 := by
    induction r with
    | nil => simp [NestedKey.depthAll]
    | cons s r ih => simp only [List.map_cons, NestedKey.depthAll, NestedKey.depth]; omega
  omega
theorem nkD_row (r : List Str) : nkD (nk r) = Enc.d r := (keyN_eq (keyN_row r)).symm
theorem nkP_row (r : List Str) : nkP (nk r) = Enc.p r := by
  unfold nk
  rw [nkP]
  show PyData.tuple _ = PyData.tuple _
  congr 1
  induction r with
  | nil => rfl
  | cons s r ih => rw [List.map_cons, nkPs, ih]; rfl
/-- a dict of rows -/
def rowsO (rows : List (List Str)) : DO := .dT (rows.map fun r => (nk r, D.bl true))
theorem rows_val (rows : List (List Str)) (r : List Str) : (valD (rows.map fun r => (nk r, D.bl true)) (nk r)).isSome = decide (r ∈ rows) := by
  rw [Bool.eq_iff_iff, valD_isSome, decide_eq_true_iff, List.map_map, List.mem_map]
  constructor
  · rintro ⟨s, hs, e⟩
    rw [← nk_inj e]; exact hs
  · intro h; exact ⟨r, h, rfl⟩
theorem rows_put {rows : List (List Str)} {r : List Str} (h : r ∉ rows) : putD (rows.map fun r => (nk r, D.bl true)) (nk r) (.bl true) = (rows ++ [r]).map fun r => (nk r, D.bl true) := by
  rw [putD_new, List.map_append]; rfl
  rw [List.map_map, List.mem_map]
  rintro ⟨s, hs, e⟩
  rw [nk_inj e] at hs
  exact h hs
theorem w_dinR {a : Addr} {rows : List (List Str)} {r : List Str} (e : M a = some (rowsO rows)) (q : Q (.bl (!decide (r ∈ rows))) M) : dinD true (Enc.d r) (.ref a) M Q :=
  ⟨a, _, rfl, .t e (keyN_row r) (depth_text r), by rw [rows_val]; exact q⟩
theorem alike_strs : ∀ u v : List Str, PySem.W.alikeAll (u.map PyData.str) (v.map PyData.str) = true
  | [], [] => rfl
  | [], _ :: _ => rfl
  | _ :: _, [] => rfl
  | x :: u, y :: v => by rw [List.map_cons, List.map_cons, PySem.W.alikeAll, alike_strs u v]; rfl
theorem canSort_rows {rows : List (List Str)} (h : (∀ r ∈ rows, r ≠ []) ∨ rows.length < 2) : CanSort (rows.map (Enc.p (α := List Str))) := by
  refine ⟨fun d hd e he => ?_, fun p hp => ?_, ?_⟩
  · obtain ⟨u, _, rfl⟩ := List.mem_map.mp hd
    obtain ⟨v, _, rfl⟩ := List.mem_map.mp he
    exact alike_strs u v
  · obtain ⟨u, _, rfl⟩ := List.mem_map.mp hp
    exact fun z => nomatch z
  · rcases h with h | h
    · refine .inl (.inl fun d hd => ?_)
      obtain ⟨u, hu, rfl⟩ := List.mem_map.mp hd
      cases u with
      | nil => exact absurd rfl (h _ hu)
      | cons x u => exact ⟨_, _, rfl⟩
    · exact .inr (by rw [List.length_map]; exact h)
theorem w_sortRows {a : Addr} {rows : List (List Str)} (e : M a = some (rowsO rows)) (h : (∀ r ∈ rows, r ≠ []) ∨ rows.length < 2) (q : ∀ p (rs : List (List Str)), rs.Perm rows → M p = none → Q (.ref p) (put M p (.lst (rs.map Enc.d)))) : sortD [.ref a] M Q := by
  have e1 : keysP (rows.map fun r => (nk r, D.bl true)) = rows.map Enc.p := by
    rw [show keysP (rows.map fun r => (nk r, D.bl true)) = (rows.map fun r => (nk r, D.bl true)).map fun x => nkP x.1 from rfl, List.map_map]
    exact List.map_congr_left fun r _ => nkP_row r
  have e2 : ((rows.map fun r => (nk r, D.bl true)).map fun p => nkD p.1) = rows.map Enc.d := by
    rw [List.map_map]
    exact List.map_congr_left fun r _ => nkD_row r
  refine .inr ⟨_, e, by rw [e1]; exact canSort_rows h, fun p hp => ?_⟩
  rw [e1, e2, srt_enc]
  exact q p _ (List.mergeSort_perm _ _) hp
theorem swap_length {here : List Str} {k : Nat} {x y : Str} (h1 : here[k]? = some x) (h2 : here[k + 1]? = some y) : (here.take k ++ [y, x] ++ here.drop (k + 2)).length = here.length := by
  have h3 := (List.getElem?_eq_some_iff.mp h2).1
  rw [List.length_append, List.length_append, List.length_take, List.length_drop]
  simp only [List.length_cons, List.length_nil]
  omega
theorem s_law_class (g : GoodA A) (hl : row.length ≤ 1000) (hr : InA A row) {most : Nat} (hm1 : 1 ≤ most) (hm : most ≤ 100000) (q : ∀ M' d, Ext M M' → (d = .str "many" ∨ ∃ (p : Addr) (rows : List (List Str)), d = .ref p ∧ M p = none ∧ M' p = some (.lst (rows.map Enc.d)) ∧ rows ≠ [] ∧ rows.length ≤ most ∧ ∀ r ∈ rows, InA A r ∧ r.length = row.length) → Q d M') : sp__law_class K [aD A, Enc.d row, .int (most : Nat)] M Q noX := by
  refine go__law_class ?_
  delta t__law_class
  walk_at "w1"
  walk_at "w1"
  walk_at "w1"
  unfold dOneT
  walk_at "g"
  refine ⟨row.map .str, nk row, rfl, keyN_row row, depth_text row, fun f hf => ?_⟩
  walk_at "g"
  intro l hl1
  have hfl : f ≠ l := ne_of_new put_same hl1
  walk_at "g"
  refine wh_inv (fun m σ' M' => (∃ u v y, σ' = [some (aD A), some (Enc.d row), some (.int (most : Nat)), some (.ref f), some (.ref l), u, v, y]) ∧ Ext M M' ∧ ∃ (rows line : List (List Str)), M' f = some (rowsO rows) ∧ M' l = some (.lst (line.map Enc.d)) ∧ rows.Nodup ∧ rows ≠ [] ∧ rows.length ≤ most ∧ (∀ r ∈ rows, InA A r ∧ r.length = row.length) ∧ (∀ r ∈ line, InA A r ∧ r.length = row.length) ∧ line.length ≤ most ∧ line.length + 2 * (most - rows.length) ≤ m ∧ line.length ≤ rows.length) (1 + 2 * most) ⟨⟨_, _, _, rfl⟩, by walk_at "x", [row], [row], by rw [put_ne hfl]; exact put_same, put_same, by simp, by simp, by simpa using hm1, fun r h' => by rw [List.mem_singleton.mp h']; exact ⟨hr, rfl⟩, fun r h' => by rw [List.mem_singleton.mp h']; exact ⟨hr, rfl⟩, by simpa using hm1, by simp; omega, by simp⟩ ?_
  rintro m σ' M2 ⟨⟨u, v, y, rfl⟩, e2, rows, line, hrf, hll, hnd, hne, hlen, hall, hline, hlm, hmeas, hlr⟩ Kt kt
  walk_at "g"
  intro n hn
  have hrf3 : put M2 n (.lst []) f = some (rowsO rows) := by rw [put_ne (ne_of_new hrf hn)]; exact hrf
  have hll3 : put M2 n (.lst []) l = some (.lst (line.map Enc.d)) := by rw [put_ne (ne_of_new hll hn)]; exact hll
  have hn3 : put M2 n (.lst []) n = some (.lst []) := put_same
  have e3 := e2.alloc hn (.lst [])
  revert hrf3 hll3 hn3 e3
  generalize put M2 n (.lst []) = M3
  intro hrf3 hll3 hn3 e3
  refine ne_encL (α := List Str) (xs := line) (ys := []) (c := decide (line = [])) hll3 hn3 (by simp) (by decide) ?_
  cases hz : decide (line = [])
  · have hlne : line ≠ [] := of_decide_eq_false hz
    obtain ⟨ls, here, rfl⟩ : ∃ ls here, line = ls ++ [here] := ⟨line.dropLast, line.getLast hlne, (List.dropLast_concat_getLast hlne).symm⟩
    obtain ⟨hin, hlh⟩ := hline here (by simp)
    have hfl2 : f ≠ l := fun z => by rw [z, hll3] at hrf3; cases hrf3
    rw [List.map_append] at hll3
    walk_at "g"
    refine ⟨l, ls.map Enc.d, Enc.d here, rfl, hll3, ?_⟩
    have hrf4 : put M3 l (.lst (ls.map Enc.d)) f = some (rowsO rows) := by rw [put_ne hfl2]; exact hrf3
    have hll4 : put M3 l (.lst (ls.map Enc.d)) l = some (.lst (ls.map Enc.d)) := put_same
    have e4 : Ext M (put M3 l (.lst (ls.map Enc.d))) := fun a o e => by
      have h1 := ne_of_new ((Ext.new hf (.dT [(nk row, D.bl true)])) _ _ e) hl1
      rw [put_ne h1]; exact e3 _ _ e
    revert hrf4 hll4 e4
    generalize put M3 l (.lst (ls.map Enc.d)) = M4
    intro hrf4 hll4 e4
    walk_at "g"
    refine ⟨⟨by omega, by omega⟩, ?_⟩
    have hj : ((here.length : Int) - 1).toNat = here.length - 1 := by omega
    rw [hj]
    have hls : ls.length + 1 + 2 * (most - rows.length) ≤ m := by
      rw [List.length_append] at hmeas; simpa using hmeas
    have hlsr : ls.length + 1 ≤ rows.length := by rw [List.length_append] at hlr; simpa using hlr
    refine for_inv ((List.range (here.length - 1)).map fun k : Nat => D.int (0 + (k : Int))) (fun i σ' M' => (∃ v y, σ' = [some (aD A), some (Enc.d row), some (.int (most : Nat)), some (.ref f), some (.ref l), some (Enc.d here), v, y]) ∧ Ext M M' ∧ ∃ (rows line : List (List Str)), M' f = some (rowsO rows) ∧ M' l = some (.lst (line.map Enc.d)) ∧ rows.Nodup ∧ rows ≠ [] ∧ rows.length ≤ most ∧ (∀ r ∈ rows, InA A r ∧ r.length = row.length) ∧ (∀ r ∈ line, InA A r ∧ r.length = row.length) ∧ line.length + 1 + 2 * (most - rows.length) ≤ m ∧ line.length + 1 ≤ rows.length) (fun i σ' M' _ hi => by
      rw [List.length_map, List.length_range] at hi
      exact itR_at 0 _ i M' (by simpa using hi)) ⟨⟨_, _, rfl⟩, e4, rows, ls, hrf4, hll4, hnd, hne, hlen, hall, fun r hr => hline r (List.mem_append_left _ hr), hls, hlsr⟩ ?_ ?_
    · clear hrf4 hll4 hnd hne hlen hall hls hlsr hmeas hlr hrf hll hrf3 hll3 e4 hlm hline hlne hz
      rintro i d σ' M5 hd ⟨⟨v, y, rfl⟩, e5, rows, line, hrf5, hll5, hnd, hne, hlen, hall, hline, hmeas, hlr⟩ Kt2 kt2
      rw [List.getElem?_map] at hd
      cases hx : (List.range (here.length - 1))[i]? with
      | none => rw [hx] at hd; cases hd
      | some j =>
        rw [hx] at hd; cases hd
        have hij : i < here.length - 1 ∧ j = i := by
          obtain ⟨h1, h2⟩ := List.getElem?_eq_some_iff.mp hx
          rw [List.length_range] at h1
          rw [List.getElem_range] at h2
          exact ⟨h1, h2.symm⟩
        obtain ⟨hi, rfl⟩ := hij
        have hg1 : here[j]? = some (here[j]'(by omega)) := List.getElem?_eq_getElem (by omega)
        have hg2 : here[j + 1]? = some (here[j + 1]'(by omega)) := List.getElem?_eq_getElem (by omega)
        generalize here[j]'(by omega) = x at hg1
        generalize here[j + 1]'(by omega) = y' at hg2
        have hix1 : (here.map (Enc.d (α := Str)))[j]? = some (.str x) := by rw [List.getElem?_map, hg1]; rfl
        have hix2 : (here.map (Enc.d (α := Str)))[j + 1]? = some (.str y') := by rw [List.getElem?_map, hg2]; rfl
        have ez : (0 : Int) + (j : Int) = ((j : Nat) : Int) := by omega
        have ez1 : ((j : Nat) : Int) + 1 = ((j + 1 : Nat) : Int) := by omega
        have ez2 : ((j : Nat) : Int) + 2 = ((j + 2 : Nat) : Int) := by omega
        have step : ∀ σ2, (∃ v y, σ2 = [some (aD A), some (Enc.d row), some (.int (most : Nat)), some (.ref f), some (.ref l), some (Enc.d here), v, y]) → Kt2 σ2 M5 := fun σ2 hσ => kt2 _ _ ⟨hσ, e5, rows, line, hrf5, hll5, hnd, hne, hlen, hall, hline, hmeas, hlr⟩
        show gNm 6 (.int (0 + (j : Int))) _ _ _ _
        rw [ez]
        walk_at "g"
        refine ix_tup (n := j) hix1 ?_
        walk_at "g"
        rw [ez1]
        refine ix_tup (n := j + 1) hix2 ?_
        walk_at "g"
        refine s_law_is_free ?_
        walk_at "g"
        cases hfr : fr A x y'
        · walk_at "g"
          exact step _ ⟨_, _, rfl⟩
        · walk_at "g"
          rw [ez1]
          refine ix_tup (n := j + 1) hix2 ?_
          walk_at "g"
          refine ix_tup (n := j) hix1 ?_
          walk_at "g"
          rw [cut_to, ← List.map_take]
          refine add_tup ?_ ?_
          · rw [List.length_map, List.length_take]
            exact Nat.le_trans (show min j here.length + 2 ≤ 2000 by omega) (by size_fits)
          walk_at "g"
          rw [ez2, cut_from, ← List.map_drop]
          refine add_tup ?_ ?_
          · rw [List.length_append, List.length_map, List.length_map, List.length_take, List.length_drop]
            exact Nat.le_trans (show min j here.length + 2 + (here.length - (j + 2)) ≤ 5000 by omega) (by size_fits)
          rw [show ((here.take j).map (Enc.d (α := Str)) ++ [D.str y', D.str x] ++ (here.drop (j + 2)).map Enc.d) = (here.take j ++ [y', x] ++ here.drop (j + 2)).map Enc.d from by rw [List.map_append, List.map_append]; rfl]
          have hsl := swap_length hg1 hg2
          have hsi : InA A (here.take j ++ [y', x] ++ here.drop (j + 2)) := by
            intro s hs
            rcases List.mem_append.mp hs with h | h
            · rcases List.mem_append.mp h with h | h
              · exact hin s (List.mem_of_mem_take h)
              · simp only [List.mem_cons, List.not_mem_nil, or_false] at h
                rcases h with rfl | rfl
                · exact hin _ (List.mem_of_getElem? hg2)
                · exact hin _ (List.mem_of_getElem? hg1)
            · exact hin s (List.mem_of_mem_drop h)
          generalize here.take j ++ [y', x] ++ here.drop (j + 2) = other at hsl hsi
          walk_at "g"
          refine w_dinR (r := other) hrf5 ?_
          cases hmem : decide (other ∈ rows)
          · have hnm := of_decide_eq_false hmem
            walk_at "g"
            refine .inr ⟨_, hrf5, ?_⟩
            rw [List.length_map]
            walk_at "g"
            cases hge : decide ((most : Int) ≤ ((rows.length : Nat) : Int))
            · have hlt : rows.length < most := by have := of_decide_eq_false hge; omega
              walk_at "g"
              refine ⟨f, _, rfl, .t hrf5 (keyN_row other) (depth_text other) (by rw [List.length_map]; exact Nat.lt_of_le_of_lt (show rows.length ≤ 100000 by omega) (by size_fits)), ?_⟩
              rw [rows_put hnm]
              have hfl5 : l ≠ f := fun z => by rw [z, hrf5] at hll5; cases hll5
              have hll6 : put M5 f (.dT ((rows ++ [other]).map fun r => (nk r, D.bl true))) l = some (.lst (line.map Enc.d)) := by rw [put_ne hfl5]; exact hll5
              walk_at "g"
              refine w_app hll6 (by rw [List.length_map]; exact Nat.lt_of_le_of_lt (show line.length ≤ 100000 by omega) (by size_fits)) ?_
              walk_at "g"
              refine kt2 _ _ ⟨⟨_, _, rfl⟩, fun a o e => ?_, rows ++ [other], line ++ [other], ?_, by rw [put_same, List.map_append]; rfl, ?_, by simp, by rw [List.length_append]; simp only [List.length_singleton]; omega, fun r hr => ?_, fun r hr => ?_, by rw [List.length_append, List.length_append]; simp only [List.length_singleton]; omega, by rw [List.length_append, List.length_append]; simp only [List.length_singleton]; omega⟩
              · have h1 : a ≠ f := ne_of_new e hf
                have h2 : a ≠ l := ne_of_new ((Ext.new hf (.dT [(nk row, D.bl true)])) _ _ e) hl1
                rw [put_ne h2, put_ne h1]; exact e5 _ _ e
              · rw [put_ne (Ne.symm hfl5), put_same]; rfl
              · exact List.nodup_append.mpr ⟨hnd, by simp, fun a ha b hb => by rw [List.mem_singleton.mp hb]; exact fun z => hnm (z ▸ ha)⟩
              · rcases List.mem_append.mp hr with h | h
                · exact hall r h
                · rw [List.mem_singleton.mp h]; exact ⟨hsi, hsl.trans hlh⟩
              · rcases List.mem_append.mp hr with h | h
                · exact hline r h
                · rw [List.mem_singleton.mp h]; exact ⟨hsi, hsl.trans hlh⟩
            · walk_at "g"
              exact q _ _ e5 (.inl rfl)
          · walk_at "g"
            exact step _ ⟨_, _, rfl⟩
    · rintro σ' M5 ⟨⟨v, y, rfl⟩, e5, rows, line, hrf5, hll5, hnd, hne, hlen, hall, hline, hmeas, hlr⟩
      walk_at "g"
      exact kt (m - 1) _ _ (by omega) ⟨⟨_, _, _, rfl⟩, e5, rows, line, hrf5, hll5, hnd, hne, hlen, hall, hline, by omega, by omega, by omega⟩
  · walk_at "g"
    refine w_sortRows hrf3 ?_ fun p rs hp hpn => ?_
    · by_cases h0 : row.length = 0
      · right
        have hone : ∀ r ∈ rows, r = [] := fun r hr => List.length_eq_zero_iff.mp ((hall r hr).2.trans h0)
        cases rows with
        | nil => simp
        | cons r1 rs1 =>
          cases rs1 with
          | nil => simp
          | cons r2 rs2 =>
            have h1 := hone r1 (by simp)
            have h2 := hone r2 (by simp)
            subst h1
            subst h2
            simp at hnd
      · left
        intro r hr e
        rw [e] at hr
        have := (hall [] hr).2
        simp at this
        omega
    · refine q _ _ (e3.alloc hpn _) (.inr ⟨p, rs, rfl, none_of e3 hpn, put_same, fun e => ?_, by rw [hp.length_eq]; exact hlen, fun r hr => hall r (hp.mem_iff.mp hr)⟩)
      rw [e] at hp
      exact hne (List.Perm.nil_eq hp).symm
end
end Dt

set_option Elab.async false
set_option autoImplicit false
set_option linter.all false
set_option maxRecDepth 100000
set_option maxHeartbeats 8000000
namespace Dt
open PySem PySem.Spec PyProof.Rows L2 LamX RZ PySem.P
local macro_rules | `(tactic| walk_at "w1") => `(tactic| with_reducible refine StepW.go ?_)
local macro_rules | `(tactic| walk_at "w") => `(tactic| ((repeat walk_at "w1"); try (with_reducible conv => whnf)))
local macro_rules | `(tactic| walk_at "m") => `(tactic| first | with_reducible assumption | with_reducible exact put_same | (with_reducible apply Ext.get; (with_reducible assumption); walk_at "m") | (with_reducible apply Ext.get; (with_reducible apply Ext.new); (with_reducible assumption); walk_at "m"))
local macro_rules | `(tactic| walk_at "x") => `(tactic| first | with_reducible assumption | with_reducible exact Ext.refl | (with_reducible refine Ext.alloc ?_ (by with_reducible assumption) _; walk_at "x") | (with_reducible refine Ext.trans ?_ (by with_reducible assumption); walk_at "x"))
local macro_rules | `(tactic| walk_at "lk") => `(tactic| first | with_reducible exact look1 | ((with_reducible apply lookS); (with_unfolding_all decide); walk_at "lk"))
local macro_rules | `(tactic| walk_at "h1") => `(tactic| (first
  | with_reducible refine StepW.go ?_
  | with_reducible refine StepG.go ?_
  | with_reducible refine w_isTup ?_
  | ((with_reducible refine w_sz ?sz ?_); (case sz => size_fits))
  | ((with_reducible refine w_len ?sz ?_); (case sz => rfl))
  | ((with_reducible refine w_obj (by walk_at "m") ?ob2 ?_); (case ob2 => walk_at "ln"))
  | (with_reducible refine w_lenL (by walk_at "m") ?_) | (with_reducible refine w_seqL (by walk_at "m") ?_) | (with_reducible refine tup_list (by walk_at "m") ?_)
  | (with_reducible refine w_isLst (by walk_at "m") ?_) | (with_reducible refine w_slL (by walk_at "m") ?_)
  | ((with_reducible refine fld_ok (by walk_at "m") ?cl (by walk_at "lk") ?_); (case cl => walk_at "cl"))
  | (with_reducible refine w_lstL (by walk_at "m") ?_) | (with_reducible refine w_dic (by walk_at "m") ?_)
  ))
local macro_rules | `(tactic| walk_at "g1") => `(tactic| first | walk_at "h1" | with_reducible refine StepP.go ?_)
local macro_rules | `(tactic| walk_at "h") => `(tactic| ((repeat walk_at "h1"); try (with_reducible conv => whnf)))
local macro_rules | `(tactic| walk_at "g") => `(tactic| ((repeat walk_at "g1"); try (with_reducible conv => whnf)))
local macro_rules | `(tactic| walk_at "ln") => `(tactic| first | exact look_none (ns := ["row", "signs", "dependent", "places", "taken"]) rfl (by decide) | exact look_none (ns := ["alphabet", "due", "its_left", "signs", "parting"]) rfl (by decide) | exact look_none (ns := ["alphabet", "its_lag", "parting"]) rfl (by decide))
local macro_rules | `(tactic| walk_at "cl") => `(tactic| first | exact CF.get (by with_reducible assumption) (by decide) | exact LF.row (by with_reducible assumption) | exact LF.signs (by with_reducible assumption) | exact LF.dependent (by with_reducible assumption) | exact LF.places (by with_reducible assumption) | exact LF.taken (by with_reducible assumption))
section
variable {K : Bd} {M M' : DM} {Q : DQ} {E : DX} {A : Alph} {row due came : List Str} {b c : Addr}
/-- what cannot come next parts -/
theorem told_some (g : GoodA A) {r : List Str} (h : lo A came due = some r) (hr : InA A r) {s : Str} (hs : s ∈ A.signs) (hf : fstB A r s = false) : ∃ p, toldP A due came s = some p := by
  unfold toldP
  by_cases hc : due.count s < (came ++ [s]).count s
  · exact ⟨_, if_pos hc⟩
  rw [if_neg hc]
  have hcnt := lo_count g h s
  have hsr : s ∈ r := by
    rw [List.count_append] at hc
    have : ([s] : List Str).count s = 1 := by simp
    exact List.count_pos_iff.mp (by omega)
  -- the first place of s
  obtain ⟨pre, post, rfl, hpre⟩ : ∃ pre post, r = pre ++ s :: post ∧ s ∉ pre := by
    clear h hr hf hcnt
    induction r with
    | nil => cases hsr
    | cons t r ih =>
      by_cases e : t = s
      · exact ⟨[], r, by rw [e]; rfl, by simp⟩
      · obtain ⟨pre, post, rfl, hp⟩ := ih (by
          cases hsr with
          | head => exact absurd rfl e
          | tail _ h => exact h)
        exact ⟨t :: pre, post, rfl, by simp [Ne.symm e, hp]⟩
  obtain ⟨d, hd, hfd⟩ : ∃ d ∈ pre, fr A d s = false := by
    rw [fstB_eq] at hf
    refine Classical.byContradiction fun hn => ?_
    have : Tr.fst (fr A) (pre ++ s :: post) s = true := Tr.fst_iff.mpr ⟨pre, post, rfl, hpre, fun t ht => by
      cases z : fr A t s with
      | true => rfl
      | false => exact absurd ⟨t, ht, z⟩ hn⟩
    rw [this] at hf; cases hf
  have hds : d ≠ s := fun z => hpre (z ▸ hd)
  have hdA : d ∈ A.signs := hr d (by simp [hd])
  have key : ∀ x y : Str, (x = d ∧ y = s ∨ x = s ∧ y = d) → sLt x y → ∃ p, ((dcs A).find? (cpl A due (came ++ [s]) s)).map (fun c => PT.couple c.1 c.2 (((came ++ [s]).filter (fun s => decide (s ∈ [c.1, c.2]))).length - 1)) = some p := by
    intro x y hxy hlt
    have hfxy : fr A x y = false := by
      rcases hxy with ⟨rfl, rfl⟩ | ⟨rfl, rfl⟩
      · exact hfd
      · rw [fr_comm]; exact hfd
    have hm : (x, y) ∈ dcs A := (mem_dcs g).mpr ⟨by rcases hxy with ⟨rfl, rfl⟩ | ⟨rfl, rfl⟩ <;> assumption, by rcases hxy with ⟨rfl, rfl⟩ | ⟨rfl, rfl⟩ <;> assumption, hlt, hfxy⟩
    have hcp : cpl A due (came ++ [s]) s (x, y) = true := by
      unfold cpl
      simp only []
      have hsxy : s ∈ [x, y] := by rcases hxy with ⟨rfl, rfl⟩ | ⟨rfl, rfl⟩ <;> simp
      have hdxy : d ∈ [x, y] := by rcases hxy with ⟨rfl, rfl⟩ | ⟨rfl, rfl⟩ <;> simp
      rw [decide_eq_true hsxy, Bool.true_and, Bool.not_eq_true', decide_eq_false_iff_not]
      have ht : Tr.cut x y (came ++ (pre ++ s :: post)) = Tr.cut x y due := Tr.lo_some fr_fc (show Tr.lo (fr A) came due = some (pre ++ s :: post) from by rw [← lo_eq]; exact h) x y hfxy
      have e1 : (due.filter fun s => decide (s ∈ [x, y])) = Tr.cut x y came ++ (Tr.cut x y pre ++ Tr.cut x y (s :: post)) := by
        rw [show (due.filter fun s => decide (s ∈ [x, y])) = Tr.cut x y due from rfl, ← ht, Tr.cut_app, Tr.cut_app]
      have e2 : ((came ++ [s]).filter fun s => decide (s ∈ [x, y])) = Tr.cut x y came ++ [s] := by
        rw [List.filter_append]
        congr 1
        exact List.filter_cons_of_pos (by simpa using hsxy)
      rw [e1, e2]
      have hdc : d ∈ Tr.cut x y pre := List.mem_filter.mpr ⟨hd, by simpa using hdxy⟩
      cases hcut : Tr.cut x y pre with
      | nil => rw [hcut] at hdc; cases hdc
      | cons u us =>
        have hu : u ∈ pre := (List.mem_filter.mp (show u ∈ Tr.cut x y pre by rw [hcut]; simp)).1
        intro hz
        rw [List.length_append, List.length_singleton, List.take_append, List.take_of_length_le (by omega)] at hz
        have h2 := List.append_cancel_left hz
        rw [show (Tr.cut x y came).length + 1 - (Tr.cut x y came).length = 1 by omega] at h2
        simp at h2
        rw [h2] at hpre
        exact hpre hu
    cases hfind : (dcs A).find? (cpl A due (came ++ [s]) s) with
    | none => exact absurd hcp (by rw [List.find?_eq_none] at hfind; exact hfind _ hm)
    | some c => exact ⟨_, rfl⟩
  rcases slt_tri hds with h1 | h1
  · exact key d s (.inl ⟨rfl, rfl⟩) h1
  · exact key s d (.inr ⟨rfl, rfl⟩) h1
/-- the law's own step is the monitor's -/
theorem mon_step (g : GoodA A) {part : Option PT} (h : ∃ r, lo A came due = some r ∧ InA A r) {s : Str} (hs : s ∈ A.signs) :
    monStep A due (came, part) s = (match part with
      | some p => (came, some p)
      | none => match lo A (came ++ [s]) due with
        | some _ => (came ++ [s], none)
        | none => (came, toldP A due came s)) := by
  unfold monStep
  cases part with
  | some p => rfl
  | none =>
    simp only [Option.isSome_none, Bool.false_eq_true, if_false]
    cases lo A (came ++ [s]) due <;> rfl
end
end Dt

set_option Elab.async false
set_option autoImplicit false
set_option linter.all false
set_option maxRecDepth 100000
set_option maxHeartbeats 8000000
namespace Dt
open PySem PySem.Spec PyProof.Rows L2 LamX RZ PySem.P
local macro_rules | `(tactic| walk_at "w1") => `(tactic| with_reducible refine StepW.go ?_)
local macro_rules | `(tactic| walk_at "w") => `(tactic| ((repeat walk_at "w1"); try (with_reducible conv => whnf)))
local macro_rules | `(tactic| walk_at "m") => `(tactic| first | with_reducible assumption | with_reducible exact put_same | (with_reducible apply Ext.get; (with_reducible assumption); walk_at "m") | (with_reducible apply Ext.get; (with_reducible apply Ext.new); (with_reducible assumption); walk_at "m"))
local macro_rules | `(tactic| walk_at "x") => `(tactic| first | with_reducible assumption | with_reducible exact Ext.refl | (with_reducible refine Ext.alloc ?_ (by with_reducible assumption) _; walk_at "x") | (with_reducible refine Ext.trans ?_ (by with_reducible assumption); walk_at "x"))
local macro_rules | `(tactic| walk_at "lk") => `(tactic| first | with_reducible exact look1 | ((with_reducible apply lookS); (with_unfolding_all decide); walk_at "lk"))
local macro_rules | `(tactic| walk_at "h1") => `(tactic| (first
  | with_reducible refine StepW.go ?_
  | with_reducible refine StepG.go ?_
  | with_reducible refine w_isTup ?_
  | ((with_reducible refine w_sz ?sz ?_); (case sz => size_fits))
  | ((with_reducible refine w_len ?sz ?_); (case sz => rfl))
  | ((with_reducible refine w_obj (by walk_at "m") ?ob2 ?_); (case ob2 => walk_at "ln"))
  | (with_reducible refine w_lenL (by walk_at "m") ?_) | (with_reducible refine w_seqL (by walk_at "m") ?_) | (with_reducible refine tup_list (by walk_at "m") ?_)
  | (with_reducible refine w_isLst (by walk_at "m") ?_) | (with_reducible refine w_slL (by walk_at "m") ?_)
  | ((with_reducible refine fld_ok (by walk_at "m") ?cl (by walk_at "lk") ?_); (case cl => walk_at "cl"))
  | (with_reducible refine w_lstL (by walk_at "m") ?_) | (with_reducible refine w_dic (by walk_at "m") ?_)
  ))
local macro_rules | `(tactic| walk_at "g1") => `(tactic| first | walk_at "h1" | with_reducible refine StepP.go ?_)
local macro_rules | `(tactic| walk_at "h") => `(tactic| ((repeat walk_at "h1"); try (with_reducible conv => whnf)))
local macro_rules | `(tactic| walk_at "g") => `(tactic| ((repeat walk_at "g1"); try (with_reducible conv => whnf)))
local macro_rules | `(tactic| walk_at "ln") => `(tactic| first | exact look_none (ns := ["row", "signs", "dependent", "places", "taken"]) rfl (by decide) | exact look_none (ns := ["alphabet", "due", "its_left", "signs", "parting"]) rfl (by decide) | exact look_none (ns := ["alphabet", "its_lag", "parting"]) rfl (by decide))
local macro_rules | `(tactic| walk_at "cl") => `(tactic| first | exact CF.get (by with_reducible assumption) (by decide) | exact LF.row (by with_reducible assumption) | exact LF.signs (by with_reducible assumption) | exact LF.dependent (by with_reducible assumption) | exact LF.places (by with_reducible assumption) | exact LF.taken (by with_reducible assumption))
section
variable {K : Bd} {M M' : DM} {Q : DQ} {E : DX} {A : Alph} {row due came : List Str} {b c m x t l m2 x2 t2 l2 rw : Addr} {S S2 : Addr → Prop} {rem : Rem} {part : Option PT} {en eb ec : Std → DM → Prop} {ex : Std → DX}
@[reducible] def leftV (A : Alph) (part : Option PT) (r : List Str) : D := if part.isSome then .non else Enc.d (nf A r)
def leftP (A : Alph) (part : Option PT) (r : List Str) : PyData := if part.isSome then .none else Enc.p (nf A r)
theorem leftV_of {n : Nat} (hn : 1 ≤ n) (part : Option PT) (r : List Str) : PyOf M n (leftV A part r) (leftP A part r) := by
  unfold leftV leftP
  cases part with
  | none => exact Enc.of M n (nf A r) hn
  | some p => exact .non
theorem leftP_fit {part : Option PT} {r : List Str} (h : ∀ s ∈ r, ShS s) (g : GoodA A) (hr : InA A r) (hl : r.length ≤ 10000) : Fit (leftP A part r) 90000 := by
  unfold leftP
  cases part with
  | none =>
    refine (fit_row (r := nf A r) (n := 10000) (fun s hs => h s ((Tr.Tq.mem (fr_fs g) (nf_tq g hr)).mpr hs)) (by rw [nf_length hr]; exact hl)).mono (by decide)
  | some p => exact fit_non.mono (by decide)
theorem law_its (F : LF K) (G : CF K "Monitor" monNs) (g : GoodA A) (sh : ∀ s ∈ A.signs, ShS s) (hl : due.length ≤ 1000) (hr : InA A due) (h : MonAt K S M m x t l A due rem came part) (h2 : MonAt K S2 M m2 x2 t2 l2 A due rem came part) (hci : InA A came) (hcl : came.length ≤ 1000)
    {s0 s1 s2 s4 s5 s6 s7 s8 s11 s12 s13 s16 s17 s18 s19 s20 s21 s22 s23 : Option D}
    (q : ∀ M' s16, Ext M M' → en [s0, s1, s2, some (aD A), s4, s5, s6, s7, s8, some (.ref m), some (Enc.d came), s11, s12, s13, some (leftV A part (sg rem)), some (.ref m2), s16, s17, s18, s19, s20, s21, s22, s23] M') :
    t_law_l17 K ⟨en, Q, eb, ec, ex⟩ [s0, s1, s2, some (aD A), s4, s5, s6, s7, s8, some (.ref m), some (Enc.d came), s11, s12, s13, some (leftV A part (sg rem)), some (.ref m2), s16, s17, s18, s19, s20, s21, s22, s23] M := by
  have hin : InA A (sg rem) := fun s hs => by obtain ⟨p, hp, rfl⟩ := List.mem_map.mp hs; exact h.left.in hr p hp
  have hlen : (sg rem).length ≤ 1000 := Nat.le_trans (lo_sub came due _ h.lo).length_le hl
  have both : ∀ (M1 : DM) (S : Addr → Prop) (m x t l : Addr), MonAt K S M1 m x t l A due rem came part → Ext M M1 → ∀ (R : Std → DM → Prop) (D0 : DX) (s15 : Option D), (∀ M', Ext M M' → R [s0, s1, s2, some (aD A), s4, s5, s6, s7, s8, s15, some (Enc.d came), s11, s12, s13, some (leftV A part (sg rem)), some (.ref m2), some (.ref m), s17, s18, s19, s20, s21, s22, s23] M') →
      dIfS (dNot (dB (dCall (sp__law_alike K) (dCons (dLst (dCons (dMeth (He.ga K.K "Monitor") "left" (sp_Monitor_left K) (dVar 16) dNil) (dCons (dMeth (He.ga K.K "Monitor") "is_done" (sp_Monitor_is_done K) (dVar 16) dNil) (dCons (dMeth (He.ga K.K "Monitor") "came" (sp_Monitor_came K) (dVar 16) dNil) dNil)))) (dCons (dLst (dCons (dVar 14) (dCons (dOp eqD (dVar 14) (dTup dNil)) (dCons (dVar 10) dNil)))) dNil))))) (dRet (dC (.bl false))) dNext ⟨R, Q, en, R, ex⟩ [s0, s1, s2, some (aD A), s4, s5, s6, s7, s8, s15, some (Enc.d came), s11, s12, s13, some (leftV A part (sg rem)), some (.ref m2), some (.ref m), s17, s18, s19, s20, s21, s22, s23] M1 := by
    intro M1 S m x t l h1 e1 R D0 s15 r
    have ho := h1.o
    walk_at "g"
    refine s_Mon_left F G g (by omega) hr h1 fun M2 e2 => ?_
    have h2 := h1.ext e2
    have ho2 := h2.o
    walk_at "g"
    refine s_Mon_done F G g (by omega) hr h2 fun M3 e3 => ?_
    have h3 := h2.ext e3
    have ho3 := h3.o
    walk_at "g"
    refine s_Mon_came G h3 ?_
    walk_at "g"
    intro p hp
    walk_at "g"
    have hd : ∀ (M4 : DM) (Q4 : DQ), Q4 (.bl (decide (part = none ∧ sg rem = []))) M4 → eqD (leftV A part (sg rem)) (.tup []) M4 Q4 := fun M4 Q4 q4 => by
      unfold leftV
      cases part with
      | none =>
        refine eq_enc (α := List Str) (a := nf A (sg rem)) (b := []) (c := decide ((none : Option PT) = none ∧ sg rem = [])) ?_ (by decide) q4
        rw [decide_eq_true_iff, nf_nil_iff hin]
        simp
      | some p =>
        have e : decide ((some p : Option PT) = none ∧ sg rem = []) = false := by simp
        rw [e] at q4
        exact ⟨.none, .tuple [], .non, .tup .nil, q4⟩
    refine hd _ _ ?_
    walk_at "g"
    intro p2 hp2
    have e5 : Ext M (put (put M3 p (.lst [leftV A part (sg rem), .bl (decide (part = none ∧ sg rem = [])), Enc.d came])) p2 (.lst [leftV A part (sg rem), .bl (decide (part = none ∧ sg rem = [])), Enc.d came])) := ((e1.trans (e2.trans e3)).alloc hp _).alloc hp2 _
    have hp5 : put (put M3 p (.lst [leftV A part (sg rem), .bl (decide (part = none ∧ sg rem = [])), Enc.d came])) p2 (.lst [leftV A part (sg rem), .bl (decide (part = none ∧ sg rem = [])), Enc.d came]) p = some (.lst [leftV A part (sg rem), .bl (decide (part = none ∧ sg rem = [])), Enc.d came]) := by rw [put_ne (ne_of_new put_same hp2)]; exact put_same
    have hp6 : put (put M3 p (.lst [leftV A part (sg rem), .bl (decide (part = none ∧ sg rem = [])), Enc.d came])) p2 (.lst [leftV A part (sg rem), .bl (decide (part = none ∧ sg rem = [])), Enc.d came]) p2 = some (.lst [leftV A part (sg rem), .bl (decide (part = none ∧ sg rem = [])), Enc.d came]) := put_same
    revert e5 hp5 hp6
    generalize put (put M3 p (.lst [leftV A part (sg rem), .bl (decide (part = none ∧ sg rem = [])), Enc.d came])) p2 (.lst [leftV A part (sg rem), .bl (decide (part = none ∧ sg rem = [])), Enc.d came]) = M5
    intro e5 hp5 hp6
    have hpy : PyOfs M5 19 [leftV A part (sg rem), .bl (decide (part = none ∧ sg rem = [])), Enc.d came] [leftP A part (sg rem), .bool (decide (part = none ∧ sg rem = [])), Enc.p came] := .cons (leftV_of (by decide) part _) (.cons .bl (.cons (Enc.of M5 19 came (by decide)) .nil))
    have hfit := fit_lst (fits_cons (leftP_fit (A := A) (part := part) (fun s hs => sh s (hin s hs)) g hin (by omega)) (fits_cons (fit_bool (b := decide (part = none ∧ sg rem = []))) (fits_cons (fit_row (n := 1000) (fun s hs => sh s (hci s hs)) hcl) fits_nil)))
    refine s_law_alike (.lst hp5 hpy) (.lst hp6 hpy) hfit (by decide) ?_
    walk_at "g"
    exact r _ e5
  delta t_law_l17
  walk_at "g"
  refine for_inv [.ref m, .ref m2] (fun i σ' M' => (∃ s16, σ' = [s0, s1, s2, some (aD A), s4, s5, s6, s7, s8, some (.ref m), some (Enc.d came), s11, s12, s13, some (leftV A part (sg rem)), some (.ref m2), s16, s17, s18, s19, s20, s21, s22, s23]) ∧ Ext M M') (fun _ _ _ _ _ => rfl) ⟨⟨_, rfl⟩, .refl⟩ ?_ ?_
  · rintro i d σ' M1 hd ⟨⟨s16, rfl⟩, e1⟩ Kt kt
    have hd2 : d = .ref m ∨ d = .ref m2 := by
      match i, hd with
      | 0, hd => simp at hd; exact .inl hd.symm
      | 1, hd => simp at hd; exact .inr hd.symm
      | i + 2, hd => simp at hd
    rcases hd2 with rfl | rfl
    · walk_at "w1"
      exact both M1 S m x t l (h.ext e1) e1 Kt noX (some (.ref m)) fun M' e' => kt _ _ ⟨⟨_, rfl⟩, e'⟩
    · walk_at "w1"
      exact both M1 S2 m2 x2 t2 l2 (h2.ext e1) e1 Kt noX (some (.ref m)) fun M' e' => kt _ _ ⟨⟨_, rfl⟩, e'⟩
  · rintro σ' M1 ⟨⟨s16, rfl⟩, e1⟩
    exact q _ _ e1
end
end Dt

set_option Elab.async false
set_option autoImplicit false
set_option linter.all false
set_option maxRecDepth 100000
set_option maxHeartbeats 8000000
namespace Dt
open PySem PySem.Spec PyProof.Rows L2 LamX RZ PySem.P
local macro_rules | `(tactic| walk_at "w1") => `(tactic| with_reducible refine StepW.go ?_)
local macro_rules | `(tactic| walk_at "w") => `(tactic| ((repeat walk_at "w1"); try (with_reducible conv => whnf)))
local macro_rules | `(tactic| walk_at "m") => `(tactic| first | with_reducible assumption | with_reducible exact put_same | (with_reducible apply Ext.get; (with_reducible assumption); walk_at "m") | (with_reducible apply Ext.get; (with_reducible apply Ext.new); (with_reducible assumption); walk_at "m"))
local macro_rules | `(tactic| walk_at "x") => `(tactic| first | with_reducible assumption | with_reducible exact Ext.refl | (with_reducible refine Ext.alloc ?_ (by with_reducible assumption) _; walk_at "x") | (with_reducible refine Ext.trans ?_ (by with_reducible assumption); walk_at "x"))
local macro_rules | `(tactic| walk_at "lk") => `(tactic| first | with_reducible exact look1 | ((with_reducible apply lookS); (with_unfolding_all decide); walk_at "lk"))
local macro_rules | `(tactic| walk_at "h1") => `(tactic| (first
  | with_reducible refine StepW.go ?_
  | with_reducible refine StepG.go ?_
  | with_reducible refine w_isTup ?_
  | ((with_reducible refine w_sz ?sz ?_); (case sz => size_fits))
  | ((with_reducible refine w_len ?sz ?_); (case sz => rfl))
  | ((with_reducible refine w_obj (by walk_at "m") ?ob2 ?_); (case ob2 => walk_at "ln"))
  | (with_reducible refine w_lenL (by walk_at "m") ?_) | (with_reducible refine w_seqL (by walk_at "m") ?_) | (with_reducible refine tup_list (by walk_at "m") ?_)
  | (with_reducible refine w_isLst (by walk_at "m") ?_) | (with_reducible refine w_slL (by walk_at "m") ?_)
  | ((with_reducible refine fld_ok (by walk_at "m") ?cl (by walk_at "lk") ?_); (case cl => walk_at "cl"))
  | (with_reducible refine w_lstL (by walk_at "m") ?_) | (with_reducible refine w_dic (by walk_at "m") ?_)
  ))
local macro_rules | `(tactic| walk_at "g1") => `(tactic| first | walk_at "h1" | with_reducible refine StepP.go ?_)
local macro_rules | `(tactic| walk_at "h") => `(tactic| ((repeat walk_at "h1"); try (with_reducible conv => whnf)))
local macro_rules | `(tactic| walk_at "g") => `(tactic| ((repeat walk_at "g1"); try (with_reducible conv => whnf)))
local macro_rules | `(tactic| walk_at "ln") => `(tactic| first | exact look_none (ns := ["row", "signs", "dependent", "places", "taken"]) rfl (by decide) | exact look_none (ns := ["alphabet", "due", "its_left", "signs", "parting"]) rfl (by decide) | exact look_none (ns := ["alphabet", "its_lag", "parting"]) rfl (by decide))
local macro_rules | `(tactic| walk_at "cl") => `(tactic| first | exact CF.get (by with_reducible assumption) (by decide) | exact LF.row (by with_reducible assumption) | exact LF.signs (by with_reducible assumption) | exact LF.dependent (by with_reducible assumption) | exact LF.places (by with_reducible assumption) | exact LF.taken (by with_reducible assumption))
section
variable {K : Bd} {M M' : DM} {Q : DQ} {E : DX} {A : Alph} {row due came : List Str} {b c m x t l m2 x2 t2 l2 rw : Addr} {S S2 : Addr → Prop} {rem : Rem} {part : Option PT} {en eb ec : Std → DM → Prop} {ex : Std → DX}
theorem ptD_of {M : DM} {n : Nat} (hn : 1 ≤ n) : ∀ part : Option PT, ∃ p, PyOf M n (ptD part) p ∧ ∀ (A : Alph) (due came : List Str) (s : Str), (∀ s ∈ A.signs, ShS s) → s ∈ A.signs → came.length ≤ 1000 → (part = none ∨ part = toldP A due came s) → Fit p 100
  | none => ⟨.none, .non, fun _ _ _ _ _ _ _ _ => fit_non.mono (by decide)⟩
  | some (.more s) => by
    cases n with
    | zero => omega
    | succ n =>
      refine ⟨.tuple [.str "more", .str s], .tup (.cons .str (.cons .str .nil)), fun A due came s' hsh hs' _ h => ?_⟩
      have hss : s = s' := by
        rcases h with h | h
        · cases h
        · unfold toldP at h
          split at h
          · cases h; rfl
          · cases hf : (dcs A).find? (cpl A due (came ++ [s']) s') with
            | none => rw [hf] at h; cases h
            | some c => rw [hf] at h; cases h
      subst hss
      exact (fit_tup (fits_cons (fit_str (s := "more") ⟨by decide, by decide⟩) (fits_cons (fit_str (hsh _ hs')) fits_nil))).mono (by decide)
  | some (.couple a b i) => by
    cases n with
    | zero => omega
    | succ n =>
      refine ⟨.tuple [.str "couple", .str a, .str b, .int i], .tup (.cons .str (.cons .str (.cons .str (.cons .int .nil)))), fun A due came s' hsh hs' hcl h => ?_⟩
      have hab : a ∈ A.signs ∧ b ∈ A.signs ∧ i.natAbs < 10 ^ 12 := by
        rcases h with h | h
        · cases h
        · unfold toldP at h
          split at h
          · cases h
          · cases hf : (dcs A).find? (cpl A due (came ++ [s']) s') with
            | none => rw [hf] at h; cases h
            | some c =>
              rw [hf] at h
              cases h
              have hm := List.mem_of_find?_eq_some hf
              have hm2 : c ∈ pairs A.signs := (List.mem_filter.mp hm).1
              have h3 := mem_pairs (show (c.1, c.2) ∈ pairs A.signs from hm2)
              refine ⟨h3.1, h3.2, ?_⟩
              have h4 := List.length_filter_le (fun s => decide (s ∈ [c.1, c.2])) (came ++ [s'])
              rw [List.length_append] at h4
              simp only [List.length_singleton] at h4
              have : (1002 : Nat) < 10 ^ 12 := by decide
              omega
      exact (fit_tup (fits_cons (fit_str (s := "couple") ⟨by decide, by decide⟩) (fits_cons (fit_str (hsh _ hab.1)) (fits_cons (fit_str (hsh _ hab.2.1)) (fits_cons (fit_int hab.2.2) fits_nil))))).mono (by decide)
/-- what a Monitor has told is short -/
def PtFit (part : Option PT) : Prop := ∀ (M : DM) (n : Nat), 1 ≤ n → ∃ p, PyOf M n (ptD part) p ∧ Fit p 100
theorem ptFit_told {s : Str} (sh : ∀ s ∈ A.signs, ShS s) (hs : s ∈ A.signs) (hc : came.length ≤ 1000) : PtFit (toldP A due came s) := fun M n hn => by
  obtain ⟨p, h1, h2⟩ := ptD_of (M := M) hn (toldP A due came s)
  exact ⟨p, h1, h2 A due came s sh hs hc (.inr rfl)⟩
theorem ptFit_none : PtFit none := fun M n hn => ⟨.none, .non, fit_non.mono (by decide)⟩
theorem law_mon (F : LF K) (G : CF K "Monitor" monNs) (g : GoodA A) (sh : ∀ s ∈ A.signs, ShS s) (hl : due.length ≤ 900) (hr : InA A due) (hrow : InA A row) (hrl : row.length ≤ 900) (h : MonAt K S M m x t l A due due.zipIdx [] none) (hrw : M rw = some (.lst (row.map .str))) (hrm : rw ≠ m) (hrt : rw ≠ t) (hrl2 : rw ≠ l)
    {s0 s1 s2 s5 s7 s8 s13 s14 s15 s16 s17 s18 s19 s20 s21 s22 s23 : Option D}
    (q : ∀ M' came part first s7 s13 s14 s15 s16, (∀ a o, a ≠ m → a ≠ t → a ≠ l → M a = some o → M' a = some o) → lookM A due 0 ([], none) row = (first, part) → PtFit part → en [s0, s1, s2, some (aD A), some (Enc.d due), s5, some (.ref rw), s7, s8, some (.ref m), came, some (ptD part), some (.int (first : Nat)), s13, s14, s15, s16, s17, s18, s19, s20, s21, s22, s23] M') :
    t_law_l24 K ⟨en, Q, eb, ec, ex⟩ [s0, s1, s2, some (aD A), some (Enc.d due), s5, some (.ref rw), s7, s8, some (.ref m), some (.tup []), some .non, some (.int (row.length : Nat)), s13, s14, s15, s16, s17, s18, s19, s20, s21, s22, s23] M := by
  delta t_law_l24
  walk_at "g"
  refine for_inv (numD (row.map .str)) (fun i σ' M' => (∃ came part first s7 s13 s14 s15 s16 rem, σ' = [s0, s1, s2, some (aD A), some (Enc.d due), s5, some (.ref rw), s7, s8, some (.ref m), some (Enc.d came), some (ptD part), some (.int (first : Nat)), s13, s14, s15, s16, s17, s18, s19, s20, s21, s22, s23] ∧ MonAt K S M' m x t l A due rem came part ∧ InA A came ∧ came.length ≤ i ∧ PtFit part ∧ ((part = none ∧ first = row.length ∧ lookM A due i (came, none) (row.drop i) = lookM A due 0 ([], none) row) ∨ (part ≠ none ∧ lookM A due 0 ([], none) row = (first, part)))) ∧ (∀ a o, a ≠ m → a ≠ t → a ≠ l → M a = some o → M' a = some o)) (fun i σ' M' h _ => itE_at (itL_is (h.2 _ _ hrm hrt hrl2 hrw) i)) ⟨⟨[], none, row.length, _, _, _, _, _, _, rfl, h, in_nil, Nat.le_refl _, ptFit_none, .inl ⟨rfl, rfl, rfl⟩⟩, fun _ _ _ _ _ e => e⟩ ?_ ?_
  · rintro i d σ' M1 hd ⟨⟨came, part, first, s7, s13, s14, s15, s16, rem, rfl, h1, hci, hcl, hpf, hlook⟩, k1⟩ Kt kt
    obtain ⟨s, hx, rfl⟩ := numD_get' hd
    have hs := hrow s (List.mem_of_getElem? hx)
    have hi := (List.getElem?_eq_some_iff.mp hx).1
    have hin1 : InA A (sg rem) := fun z hz => by obtain ⟨p, hp, rfl⟩ := List.mem_map.mp hz; exact h1.left.in hr p hp
    -- from the law's new state on
    have go : ∀ (M2 : DM) (came' : List Str) (part' : Option PT) (first' : Nat), Ext M1 M2 → monStep A due (came, part) s = (came', part') → InA A came' → came'.length ≤ i + 1 → PtFit part' → ((part' = none ∧ first' = row.length ∧ lookM A due (i + 1) (came', none) (row.drop (i + 1)) = lookM A due 0 ([], none) row) ∨ (part' ≠ none ∧ lookM A due 0 ([], none) row = (first', part'))) →
        t_law_p21 K ⟨Kt, Q, en, Kt, ex⟩ [s0, s1, s2, some (aD A), some (Enc.d due), s5, some (.ref rw), some (.int (i : Nat)), s8, some (.ref m), some (Enc.d came'), some (ptD part'), some (.int (first' : Nat)), some (.str s), s14, s15, s16, s17, s18, s19, s20, s21, s22, s23] M2 := by
      intro M2 came' part' first' e2 hst hci' hcl' hpf' hlk
      have h2 := h1.ext e2
      have ho2 := h2.o
      walk_at "g"
      refine s_Mon_put F G g (by omega) hr h2 hs fun M3 rem' k3 h3 => ?_
      rw [hst] at h3 ⊢
      simp only [] at h3 ⊢
      have hin3 : InA A (sg rem') := fun z hz => by obtain ⟨p, hp, rfl⟩ := List.mem_map.mp hz; exact h3.left.in hr p hp
      have hlen3 : (sg rem').length ≤ 900 := Nat.le_trans (lo_sub came' due _ h3.lo).length_le hl
      walk_at "g"
      obtain ⟨pp, hpp, hpfit⟩ := hpf' M3 20 (by decide)
      refine s_law_alike hpp hpp hpfit (by decide) ?_
      have ho3 := h3.o
      walk_at "g"
      have fin : ∀ (M4 : DM), Ext M3 M4 → ∀ (R : DQ), (∀ M5 m5 x5 t5 l5 S5, Ext M4 M5 → MonAt K S5 M5 m5 x5 t5 l5 A due rem' came' part' → t_law_l17 K ⟨Kt, Q, en, Kt, ex⟩ [s0, s1, s2, some (aD A), some (Enc.d due), s5, some (.ref rw), some (.int (i : Nat)), s8, some (.ref m), some (Enc.d came'), some (ptD part'), some (.int (first' : Nat)), some (.str s), some (leftV A part' (sg rem')), some (.ref m5), s16, s17, s18, s19, s20, s21, s22, s23] M5 → R (.ref m5) M5) → sp_Monitor_twin K [.ref m] M4 R noX := by
        intro M4 e4 R r
        have h4 := h3.ext e4
        refine s_Mon_twin F G g (by omega) h4 fun M5 m5 x5 t5 l5 S5 e5 h5 => r M5 m5 x5 t5 l5 S5 e5 h5 ?_
        refine law_its F G g sh (by omega) hr (h4.ext e5) h5 hci' (by omega) fun M6 s16 e6 => ?_
        refine kt _ _ ⟨⟨came', part', first', _, _, _, _, _, rem', rfl, (h4.ext e5).ext e6, hci', hcl', hpf', hlk⟩, fun a o am at' al e => e6 _ _ (e5 _ _ (e4 _ _ (k3 _ _ am at' al (e2 _ _ (k1 _ _ am at' al e)))))⟩
      cases part' with
      | some p =>
        walk_at "g"
        refine fin M3 .refl _ fun M5 m5 x5 t5 l5 S5 e5 h5 hfin => ?_
        walk_at "g"
        exact hfin
      | none =>
        walk_at "g"
        refine s_law_left_of g (by omega) hci' hr fun M4 e4 => ?_
        rw [h3.lo]
        have ho4 := e4 _ _ ho3
        walk_at "g"
        refine fin M4 e4 _ fun M5 m5 x5 t5 l5 S5 e5 h5 hfin => ?_
        walk_at "g"
        exact hfin
    cases part with
    | some p =>
      have hst : monStep A due (came, some p) s = (came, some p) := rfl
      have hlk : lookM A due 0 ([], none) row = (first, some p) := by
        rcases hlook with ⟨h, _⟩ | ⟨_, h⟩
        · cases h
        · exact h
      walk_at "g"
      refine add_tup ?_ ?_
      · rw [List.length_map]; exact Nat.le_trans (show came.length + 0 ≤ 2000 by omega) (by size_fits)
      rw [List.append_nil]
      walk_at "w1"
      exact go M1 came (some p) first .refl hst hci (by omega) hpf (.inr ⟨(fun z => nomatch z), hlk⟩)
    | none =>
      obtain ⟨hf, hk⟩ : first = row.length ∧ lookM A due i (came, none) (row.drop i) = lookM A due 0 ([], none) row := by
        rcases hlook with ⟨_, h1, h2⟩ | ⟨h, _⟩
        · exact ⟨h1, h2⟩
        · exact absurd rfl h
      have hms := mon_step (came := came) (due := due) g (part := none) ⟨_, h1.lo, hin1⟩ hs
      simp only [] at hms
      rw [drop_get hx, lookM_cons] at hk
      walk_at "g"
      refine add_tup ?_ ?_
      · rw [List.length_map]; exact Nat.le_trans (show came.length + 1 ≤ 2000 by omega) (by size_fits)
      rw [show (came.map Enc.d ++ [D.str s]) = (came ++ [s]).map Enc.d from by rw [List.map_append]; rfl]
      walk_at "g"
      refine s_law_left_of g (by omega) (hci.app (in_one hs)) hr fun M2 e2 => ?_
      cases hlo : lo A (came ++ [s]) due with
      | some r =>
        rw [hlo] at hms
        simp only [] at hms
        rw [hms] at hk
        simp only [Option.isSome_none, Bool.false_eq_true, if_false] at hk
        refine w_isNT (xs := (nf A r).map .str) ?_
        walk_at "g"
        refine add_tup ?_ ?_
        · rw [List.length_map]; exact Nat.le_trans (show came.length + 1 ≤ 2000 by omega) (by size_fits)
        rw [show (came.map Enc.d ++ [D.str s]) = (came ++ [s]).map Enc.d from by rw [List.map_append]; rfl]
        walk_at "w1"
        exact go M2 (came ++ [s]) none first e2 hms (hci.app (in_one hs)) (by rw [List.length_append]; simp only [List.length_singleton]; omega) ptFit_none (.inl ⟨rfl, hf, hk⟩)
      | none =>
        rw [hlo] at hms
        simp only [] at hms
        have hfst : fstB A (sg rem) s = false := by
          cases z : fstB A (sg rem) s with
          | false => rfl
          | true =>
            rw [lo_snoc, h1.lo] at hlo
            simp [z] at hlo
        obtain ⟨p, hp⟩ := told_some g h1.lo hin1 hs hfst
        rw [hms, hp] at hk
        simp only [Option.isSome_some, if_true] at hk
        refine w_isNN ?_
        walk_at "g"
        refine s_law_parting g hs (by omega) (by omega) fun M3 e3 => ?_
        rw [hp]
        rw [hp] at hms
        have hpf3 : PtFit (some p) := by rw [← hp]; exact ptFit_told sh hs (by omega)
        walk_at "g"
        refine add_tup ?_ ?_
        · rw [List.length_map]; exact Nat.le_trans (show came.length + 0 ≤ 2000 by omega) (by size_fits)
        rw [List.append_nil]
        walk_at "w1"
        exact go M3 came (some p) i (e2.trans e3) hms hci (by omega) hpf3 (.inr ⟨(fun z => nomatch z), hk.symm⟩)
  · rintro σ' M1 ⟨⟨came, part, first, s7, s13, s14, s15, s16, rem, rfl, h1, hci, hcl, hpf, hlook⟩, k1⟩
    rw [numD_length, List.length_map, List.drop_length] at hlook
    refine q M1 _ part first _ _ _ _ _ k1 ?_ hpf
    rcases hlook with ⟨hp, hf, hk⟩ | ⟨hp, hk⟩
    · rw [← hk, hp, hf]; rfl
    · exact hk
end
end Dt

set_option Elab.async false
set_option autoImplicit false
set_option linter.all false
set_option maxRecDepth 100000
set_option maxHeartbeats 8000000
namespace Dt
open PySem PySem.Spec PyProof.Rows L2 LamX RZ PySem.P
local macro_rules | `(tactic| walk_at "w1") => `(tactic| with_reducible refine StepW.go ?_)
local macro_rules | `(tactic| walk_at "w") => `(tactic| ((repeat walk_at "w1"); try (with_reducible conv => whnf)))
local macro_rules | `(tactic| walk_at "m") => `(tactic| first | with_reducible assumption | with_reducible exact put_same | (with_reducible apply Ext.get; (with_reducible assumption); walk_at "m") | (with_reducible apply Ext.get; (with_reducible apply Ext.new); (with_reducible assumption); walk_at "m"))
local macro_rules | `(tactic| walk_at "x") => `(tactic| first | with_reducible assumption | with_reducible exact Ext.refl | (with_reducible refine Ext.alloc ?_ (by with_reducible assumption) _; walk_at "x") | (with_reducible refine Ext.trans ?_ (by with_reducible assumption); walk_at "x"))
local macro_rules | `(tactic| walk_at "lk") => `(tactic| first | with_reducible exact look1 | ((with_reducible apply lookS); (with_unfolding_all decide); walk_at "lk"))
local macro_rules | `(tactic| walk_at "h1") => `(tactic| (first
  | with_reducible refine StepW.go ?_
  | with_reducible refine StepG.go ?_
  | with_reducible refine w_isTup ?_
  | ((with_reducible refine w_sz ?sz ?_); (case sz => size_fits))
  | ((with_reducible refine w_len ?sz ?_); (case sz => rfl))
  | ((with_reducible refine w_obj (by walk_at "m") ?ob2 ?_); (case ob2 => walk_at "ln"))
  | (with_reducible refine w_lenL (by walk_at "m") ?_) | (with_reducible refine w_seqL (by walk_at "m") ?_) | (with_reducible refine tup_list (by walk_at "m") ?_)
  | (with_reducible refine w_isLst (by walk_at "m") ?_) | (with_reducible refine w_slL (by walk_at "m") ?_)
  | ((with_reducible refine fld_ok (by walk_at "m") ?cl (by walk_at "lk") ?_); (case cl => walk_at "cl"))
  | (with_reducible refine w_lstL (by walk_at "m") ?_) | (with_reducible refine w_dic (by walk_at "m") ?_)
  ))
local macro_rules | `(tactic| walk_at "g1") => `(tactic| first | walk_at "h1" | with_reducible refine StepP.go ?_)
local macro_rules | `(tactic| walk_at "h") => `(tactic| ((repeat walk_at "h1"); try (with_reducible conv => whnf)))
local macro_rules | `(tactic| walk_at "g") => `(tactic| ((repeat walk_at "g1"); try (with_reducible conv => whnf)))
local macro_rules | `(tactic| walk_at "ln") => `(tactic| first | exact look_none (ns := ["row", "signs", "dependent", "places", "taken"]) rfl (by decide) | exact look_none (ns := ["alphabet", "due", "its_left", "signs", "parting"]) rfl (by decide) | exact look_none (ns := ["alphabet", "its_lag", "parting"]) rfl (by decide))
local macro_rules | `(tactic| walk_at "cl") => `(tactic| first | exact CF.get (by with_reducible assumption) (by decide) | exact LF.row (by with_reducible assumption) | exact LF.signs (by with_reducible assumption) | exact LF.dependent (by with_reducible assumption) | exact LF.places (by with_reducible assumption) | exact LF.taken (by with_reducible assumption))
section
variable {K : Bd} {M M' : DM} {Q : DQ} {E : DX} {A : Alph} {b c w ro st : Addr} {en eb ec : Std → DM → Prop} {ex : Std → DX}
abbrev wat0 : (List Str × List Str) × Option (Str × Str) := (([], []), none)
def watRun (A : Alph) (steps : List (Int × Str)) := steps.foldl (watStep A) wat0
theorem watRun_snoc (steps : List (Int × Str)) (c : Int × Str) : watRun A (steps ++ [c]) = watStep A (watRun A steps) c := by
  unfold watRun; rw [List.foldl_append]; rfl
theorem watStep_some {st : (List Str × List Str) × Option (Str × Str)} {c : Int × Str} (h : st.2.isSome) : watStep A st c = st := by unfold watStep; rw [if_pos h]
theorem lookW_snoc : ∀ (xs : List (Int × Str)) (i : Nat) (st : (List Str × List Str) × Option (Str × Str)) (c : Int × Str), lookW A i st (xs ++ [c]) = if (lookW A i st xs).2.isSome then lookW A i st xs else
      if (watStep A (xs.foldl (watStep A) st) c).2.isSome then (i + xs.length, (watStep A (xs.foldl (watStep A) st) c).2) else (i + xs.length + 1, none)
  | [], i, st, c => by
    rw [List.nil_append, lookW_cons, lookW_nil, lookW_nil]; rfl
  | x :: xs, i, st, c => by
    rw [List.cons_append, lookW_cons, lookW_cons, lookW_snoc xs (i + 1) _ c]
    cases h : (watStep A st x).2 with
    | some p => simp
    | none =>
      simp only [Option.isSome_none, Bool.false_eq_true, if_false, List.foldl_cons, List.length_cons]
      rw [show i + 1 + xs.length = i + (xs.length + 1) by omega]
      rfl
theorem look_run : ∀ (xs : List (Int × Str)) (i : Nat) (st : (List Str × List Str) × Option (Str × Str)), st.2 = none → (lookW A i st xs).2 = (xs.foldl (watStep A) st).2
  | [], i, st, h => by rw [lookW_nil, List.foldl_nil, h]
  | x :: xs, i, st, h => by
    rw [lookW_cons, List.foldl_cons]
    cases hx : (watStep A st x).2 with
    | none =>
      simp only [Option.isSome_none, Bool.false_eq_true, if_false]
      exact look_run xs (i + 1) _ hx
    | some p =>
      simp only [Option.isSome_some, if_true]
      have : ∀ ys : List (Int × Str), ys.foldl (watStep A) (watStep A st x) = watStep A st x := by
        intro ys
        induction ys with
        | nil => rfl
        | cons y ys ih => rw [List.foldl_cons, watStep_some (by rw [hx]; rfl), ih]
      rw [this, hx]
/-- a parting couple is of the alphabet -/
theorem minC_mem {cs : List (Str × Str)} {c : Str × Str} (h : minC cs = some c) : c ∈ cs := by
  cases cs with
  | nil => cases h
  | cons x xs =>
    have h2 := Option.some.inj h
    subst h2
    have : ∀ (ys : List (Str × Str)) (z : Str × Str), (ys.foldl (fun m d => if PySem.W.dataLt (Enc.p d) (Enc.p m) then d else m) z) ∈ z :: ys := by
      intro ys
      induction ys with
      | nil => intro z; exact List.mem_cons_self
      | cons y ys ih =>
        intro z
        rw [List.foldl_cons]
        have := ih (if PySem.W.dataLt (Enc.p y) (Enc.p z) then y else z)
        rcases List.mem_cons.mp this with h | h
        · rw [h]; split <;> simp
        · exact List.mem_cons_of_mem _ (List.mem_cons_of_mem _ h)
    exact this xs x
def WtFit (part : Option (Str × Str)) : Prop := ∀ (M : DM) (n : Nat), 1 ≤ n → ∃ p, PyOf M n (wpD part) p ∧ Fit p 100
theorem wtFit_none : WtFit none := fun M n hn => ⟨.none, .non, fit_non.mono (by decide)⟩
theorem wtFit_met (sh : ∀ s ∈ A.signs, ShS s) {lg : List Str × List Str} (h1 : InA A lg.1) (h2 : InA A lg.2) : WtFit (metP A lg) := fun M n hn => by
  unfold metP
  cases h : minC (metL A lg.1 lg.2) with
  | none => exact ⟨.none, .non, fit_non.mono (by decide)⟩
  | some p =>
    cases n with
    | zero => omega
    | succ n =>
      have hm := minC_mem h
      unfold metL at hm
      obtain ⟨a, ha, hm⟩ := List.mem_flatMap.mp hm
      obtain ⟨e, he, rfl⟩ := List.mem_map.mp hm
      have he2 := (List.mem_filter.mp he).1
      have m1 : ShS (minS a e) := by unfold minS; split; exact sh _ (h2 _ he2); exact sh _ (h1 _ ha)
      have m2 : ShS (maxS a e) := by unfold maxS; split; exact sh _ (h2 _ he2); exact sh _ (h1 _ ha)
      exact ⟨.tuple [.str "couple", .str (minS a e), .str (maxS a e)], .tup (.cons .str (.cons .str (.cons .str .nil))), (fit_tup (fits_cons (fit_str (s := "couple") ⟨by decide, by decide⟩) (fits_cons (fit_str m1) (fits_cons (fit_str m2) fits_nil)))).mono (by decide)⟩
theorem lag_nil : lagL A [] [] = ([], []) := rfl
theorem fit_two {x y : List Str} {n : Nat} (h1 : ∀ s ∈ x, ShS s) (h2 : ∀ s ∈ y, ShS s) (l1 : x.length ≤ n) (l2 : y.length ≤ n) : Fit (Enc.p (x, y)) (n * 9 + 1 + (n * 9 + 1 + 0)) :=
  fit_tup (fits_cons (fit_row h1 l1) (fits_cons (fit_row h2 l2) fits_nil))
/-- what the law keeps of two roads -/
structure Two (K : Bd) (M : DM) (A : Alph) (b c w ro st : Addr) (r0 r1 : List Str) (steps : List (Int × Str)) : Prop where
  bag : BagAt M b c
  wat : M w = some (watO K A (watRun A steps).1 (watRun A steps).2)
  roads : M ro = some (.lst [Enc.d r0, Enc.d r1])
  stp : M st = some (.lst (steps.map Enc.d))
structure Apart5 (b c w ro st : Addr) : Prop where
  wro : w ≠ ro
  wst : w ≠ st
  rost : ro ≠ st
  bw : b ≠ w
  bro : b ≠ ro
  bst : b ≠ st
  cw : c ≠ w
  cro : c ≠ ro
  cst : c ≠ st
theorem law_wat (F : LF K) (G : CF K "Watch" watNs) (g : GoodA A) (sh : ∀ s ∈ A.signs, ShS s) (hne : A.signs ≠ []) (ap : Apart5 b c w ro st) (h : Two K M A b c w ro st [] [] [])
    {s0 s2 s4 s5 s6 s7 s8 s9 s10 s12 s13 s14 s15 s16 s21 s22 s23 : Option D}
    (q : ∀ M' r0 r1 steps att s7 s13 s14 s21 s22 s23, Two K M' A b c w ro st r0 r1 steps → steps.length = 8 → (∀ x ∈ steps, (x.1 = 0 ∨ x.1 = 1) ∧ x.2 ∈ A.signs) → WtFit (watRun A steps).2 → ((watRun A steps).2 = none ∨ att = D.int (lookW A 0 wat0 steps).1) → ((watRun A steps).2 = none → (lookW A 0 wat0 steps).1 = steps.length) → (lookW A 0 wat0 steps).1 ≤ 8 →
      en [s0, some (.ref b), s2, some (aD A), s4, s5, s6, s7, s8, s9, s10, some (wpD (watRun A steps).2), s12, s13, s14, s15, s16, some (.ref w), some (.ref ro), some (.ref st), some att, s21, s22, s23] M') :
    t_law_l13 K ⟨en, Q, eb, ec, ex⟩ [s0, some (.ref b), s2, some (aD A), s4, s5, s6, s7, s8, s9, s10, some .non, s12, s13, s14, s15, s16, some (.ref w), some (.ref ro), some (.ref st), some .non, s21, s22, s23] M := by
  delta t_law_l13
  walk_at "g"
  refine ⟨⟨by decide, by decide⟩, ?_⟩
  refine for_inv ((List.range 8).map fun k : Nat => D.int (0 + (k : Int))) (fun i σ' M' => ∃ r0 r1 steps att s7 s13 s14 s21 s22 s23, σ' = [s0, some (.ref b), s2, some (aD A), s4, s5, s6, s7, s8, s9, s10, some (wpD (watRun A steps).2), s12, s13, s14, s15, s16, some (.ref w), some (.ref ro), some (.ref st), some att, s21, s22, s23] ∧ Two K M' A b c w ro st r0 r1 steps ∧ steps.length = i ∧ (∀ x ∈ steps, (x.1 = 0 ∨ x.1 = 1) ∧ x.2 ∈ A.signs) ∧ InA A r0 ∧ InA A r1 ∧ r0.length ≤ i ∧ r1.length ≤ i ∧ (watRun A steps).1 = lagL A r0 r1 ∧ WtFit (watRun A steps).2 ∧ ((watRun A steps).2 = none ∨ (att = D.int (lookW A 0 wat0 steps).1 ∧ s14 = some (Enc.d (watRun A steps).1.1) ∧ s23 = some (Enc.d (watRun A steps).1.2))) ∧ ((watRun A steps).2 = none → (lookW A 0 wat0 steps).1 = steps.length) ∧ (lookW A 0 wat0 steps).1 ≤ i) (fun i σ' M' _ hi => itR_at 0 8 i M' (by simpa using hi)) ⟨[], [], [], _, _, _, _, _, _, _, rfl, h, rfl, by simp, in_nil, in_nil, Nat.le_refl _, Nat.le_refl _, rfl, wtFit_none, .inl rfl, fun _ => rfl, Nat.le_refl _⟩ ?_ ?_
  · rintro i d σ' M1 hd ⟨r0, r1, steps, att, s7, s13, s14, s21, s22, s23, rfl, h1, hsl, hsv, i0, i1, l0, l1, hlag, hfit, hat, hnn, hle⟩ Kt kt
    have hi8 : i < 8 := by
      have := (List.getElem?_eq_some_iff.mp hd).1
      simpa using this
    rw [List.getElem?_map, List.getElem?_range hi8] at hd
    cases hd
    walk_at "g"
    refine s_law_take h1.bag (many := 2) (by decide) (by decide) fun M2 v hv k2 hb2 => ?_
    walk_at "g"
    refine ix_tup (n := 0) rfl ?_
    refine s_law_some (α := Str) (xs := A.signs) hb2 hne (Nat.lt_of_le_of_lt g.short (by decide)) fun M3 s hs k3 hb3 => ?_
    have h3 : Two K M3 A b c w ro st r0 r1 steps := ⟨hb3, k3 _ _ (Ne.symm ap.bw) (k2 _ _ (Ne.symm ap.bw) h1.wat), k3 _ _ (Ne.symm ap.bro) (k2 _ _ (Ne.symm ap.bro) h1.roads), k3 _ _ (Ne.symm ap.bst) (k2 _ _ (Ne.symm ap.bst) h1.stp)⟩
    have hst3 := h3.stp
    walk_at "g"
    refine w_app hst3 (by rw [List.length_map, hsl]; exact Nat.lt_of_le_of_lt (show i ≤ 10 by omega) (by size_fits)) ?_
    have hv2 : (v : Int) = 0 ∨ (v : Int) = 1 := by omega
    -- the list of steps is longer
    have hst4 : put M3 st (.lst (steps.map Enc.d ++ [.tup [.int (v : Nat), Enc.d s]])) st = some (.lst ((steps ++ [((v : Int), s)]).map Enc.d)) := by rw [put_same, List.map_append]; rfl
    have hw4 : put M3 st (.lst (steps.map Enc.d ++ [.tup [.int (v : Nat), Enc.d s]])) w = some (watO K A (watRun A steps).1 (watRun A steps).2) := by rw [put_ne ap.wst]; exact h3.wat
    have hr4 : put M3 st (.lst (steps.map Enc.d ++ [.tup [.int (v : Nat), Enc.d s]])) ro = some (.lst [Enc.d r0, Enc.d r1]) := by rw [put_ne ap.rost]; exact h3.roads
    have hb4 : BagAt (put M3 st (.lst (steps.map Enc.d ++ [.tup [.int (v : Nat), Enc.d s]]))) b c := hb3.mono fun a o ha e => by
      rcases ha with rfl | rfl
      · rw [put_ne ap.bst]; exact e
      · rw [put_ne ap.cst]; exact e
    revert hst4 hw4 hr4 hb4
    generalize put M3 st (.lst (steps.map Enc.d ++ [.tup [.int (v : Nat), Enc.d s]])) = M4
    intro hst4 hw4 hr4 hb4
    have hsv' : ∀ x ∈ steps ++ [((v : Int), s)], (x.1 = 0 ∨ x.1 = 1) ∧ x.2 ∈ A.signs := fun x hx => by
      rcases List.mem_append.mp hx with h | h
      · exact hsv x h
      · rw [List.mem_singleton.mp h]; exact ⟨hv2, hs⟩
    have hrun := watRun_snoc (A := A) steps ((v : Int), s)
    have hlook := lookW_snoc (A := A) steps 0 wat0 ((v : Int), s)
    have hlr := look_run (A := A) steps 0 wat0 rfl
    rw [show steps.foldl (watStep A) wat0 = watRun A steps from rfl] at hlook hlr
    rw [← hrun] at hlook
    -- behind the law's own look at both roads
    have go : ∀ (M5 : DM) (r0' r1' : List Str) (att' : D) (s22' : Option D), BagAt M5 b c → M5 w = some (watO K A (watRun A steps).1 (watRun A steps).2) → M5 ro = some (.lst [Enc.d r0', Enc.d r1']) → M5 st = some (.lst ((steps ++ [((v : Int), s)]).map Enc.d)) → InA A r0' → InA A r1' → r0'.length ≤ i + 1 → r1'.length ≤ i + 1 → (watRun A (steps ++ [((v : Int), s)])).1 = lagL A r0' r1' → WtFit (watRun A (steps ++ [((v : Int), s)])).2 → ((watRun A (steps ++ [((v : Int), s)])).2 = none ∨ att' = D.int (lookW A 0 wat0 (steps ++ [((v : Int), s)])).1) →
        t_law_p5 K ⟨Kt, Q, en, Kt, ex⟩ [s0, some (.ref b), s2, some (aD A), s4, s5, s6, some (.int (0 + (i : Int))), s8, s9, s10, some (wpD (watRun A (steps ++ [((v : Int), s)])).2), s12, some (.str s), some (Enc.d (lagL A r0' r1').1), s15, s16, some (.ref w), some (.ref ro), some (.ref st), some att', some (.int (v : Nat)), s22', some (Enc.d (lagL A r0' r1').2)] M5 := by
      intro M5 r0' r1' att' s22' hb5 hw5 hr5 hst5 i0' i1' l0' l1' hlag' hfit' hat'
      have hlin := lag_in g i0' i1'
      have hll := lag_length g i0' i1'
      walk_at "g"
      have hlin0 := lag_in g i0 i1
      have hll0 := lag_length g i0 i1
      refine s_Watch_put F G g hw5 (by rw [hlag]; exact hlin0.1) (by rw [hlag]; exact hlin0.2) (by rw [hlag]; omega) (by rw [hlag]; omega) hs hv2 fun M6 k6 hw6 => ?_
      have eta : ((watRun A steps).1, (watRun A steps).2) = watRun A steps := rfl
      rw [eta, ← hrun] at hw6 ⊢
      rw [hlag'] at hw6
      walk_at "g"
      refine s_Watch_lag G hw6 ?_
      walk_at "g"
      intro p hp
      walk_at "g"
      intro p2 hp2
      have e7 : Ext M6 (put (put M6 p (.lst [wpD (watRun A (steps ++ [((v : Int), s)])).2, Enc.d (lagL A r0' r1')])) p2 (.lst [wpD (watRun A (steps ++ [((v : Int), s)])).2, .tup [Enc.d (lagL A r0' r1').1, Enc.d (lagL A r0' r1').2]])) := (Ext.new hp _).alloc hp2 _
      have hp7 : put (put M6 p (.lst [wpD (watRun A (steps ++ [((v : Int), s)])).2, Enc.d (lagL A r0' r1')])) p2 (.lst [wpD (watRun A (steps ++ [((v : Int), s)])).2, .tup [Enc.d (lagL A r0' r1').1, Enc.d (lagL A r0' r1').2]]) p = some (.lst [wpD (watRun A (steps ++ [((v : Int), s)])).2, Enc.d (lagL A r0' r1')]) := by rw [put_ne (ne_of_new put_same hp2)]; exact put_same
      have hp8 : put (put M6 p (.lst [wpD (watRun A (steps ++ [((v : Int), s)])).2, Enc.d (lagL A r0' r1')])) p2 (.lst [wpD (watRun A (steps ++ [((v : Int), s)])).2, .tup [Enc.d (lagL A r0' r1').1, Enc.d (lagL A r0' r1').2]]) p2 = some (.lst [wpD (watRun A (steps ++ [((v : Int), s)])).2, Enc.d (lagL A r0' r1')]) := put_same
      revert e7 hp7 hp8
      generalize put (put M6 p (.lst [wpD (watRun A (steps ++ [((v : Int), s)])).2, Enc.d (lagL A r0' r1')])) p2 (.lst [wpD (watRun A (steps ++ [((v : Int), s)])).2, .tup [Enc.d (lagL A r0' r1').1, Enc.d (lagL A r0' r1').2]]) = M7
      intro e7 hp7 hp8
      obtain ⟨pp, hpp, hpf⟩ := hfit' M7 19 (by decide)
      have hlf : Fit (Enc.p (lagL A r0' r1')) 2000 := (fit_two (x := (lagL A r0' r1').1) (y := (lagL A r0' r1').2) (n := 100) (fun s hs => sh s (hlin.1 s hs)) (fun s hs => sh s (hlin.2 s hs)) (by omega) (by omega)).mono (by decide)
      have hlo : PyOf M7 19 (Enc.d (lagL A r0' r1')) (Enc.p (lagL A r0' r1')) := Enc.of M7 19 (lagL A r0' r1') (by decide)
      refine s_law_alike (.lst hp7 (.cons hpp (.cons hlo .nil))) (.lst hp8 (.cons hpp (.cons hlo .nil))) (fit_lst (fits_cons hpf (fits_cons hlf fits_nil))) (by decide) ?_
      have hw7 := e7 _ _ hw6
      walk_at "g"
      refine s_Watch_even G hw7 ?_
      walk_at "g"
      refine s_Watch_twin G hw7 fun M8 w8 e8 hw8 => ?_
      walk_at "g"
      refine s_Watch_lag G hw8 ?_
      walk_at "g"
      intro p3 hp3
      walk_at "g"
      refine eq_enc (α := List Str × List Str) (a := lagL A r0' r1') (b := ([], [])) decide_eq_true_iff (by decide) ?_
      walk_at "g"
      intro p4 hp4
      have e9 : Ext M8 (put (put M8 p3 (.lst [.bl (decide (lagL A r0' r1' = ([], []))), Enc.d (lagL A r0' r1')])) p4 (.lst [.bl (decide (lagL A r0' r1' = ([], []))), .tup [Enc.d (lagL A r0' r1').1, Enc.d (lagL A r0' r1').2]])) := (Ext.new hp3 _).alloc hp4 _
      have hp9 : put (put M8 p3 (.lst [.bl (decide (lagL A r0' r1' = ([], []))), Enc.d (lagL A r0' r1')])) p4 (.lst [.bl (decide (lagL A r0' r1' = ([], []))), .tup [Enc.d (lagL A r0' r1').1, Enc.d (lagL A r0' r1').2]]) p3 = some (.lst [.bl (decide (lagL A r0' r1' = ([], []))), Enc.d (lagL A r0' r1')]) := by rw [put_ne (ne_of_new put_same hp4)]; exact put_same
      have hp10 : put (put M8 p3 (.lst [.bl (decide (lagL A r0' r1' = ([], []))), Enc.d (lagL A r0' r1')])) p4 (.lst [.bl (decide (lagL A r0' r1' = ([], []))), .tup [Enc.d (lagL A r0' r1').1, Enc.d (lagL A r0' r1').2]]) p4 = some (.lst [.bl (decide (lagL A r0' r1' = ([], []))), Enc.d (lagL A r0' r1')]) := put_same
      revert e9 hp9 hp10
      generalize put (put M8 p3 (.lst [.bl (decide (lagL A r0' r1' = ([], []))), Enc.d (lagL A r0' r1')])) p4 (.lst [.bl (decide (lagL A r0' r1' = ([], []))), .tup [Enc.d (lagL A r0' r1').1, Enc.d (lagL A r0' r1').2]]) = M9
      intro e9 hp9 hp10
      have hlo9 : PyOf M9 19 (Enc.d (lagL A r0' r1')) (Enc.p (lagL A r0' r1')) := Enc.of M9 19 (lagL A r0' r1') (by decide)
      refine s_law_alike (.lst hp9 (.cons .bl (.cons hlo9 .nil))) (.lst hp10 (.cons .bl (.cons hlo9 .nil))) (fit_lst (fits_cons (fit_bool (b := decide (lagL A r0' r1' = ([], [])))) (fits_cons hlf fits_nil))) (by decide) ?_
      walk_at "g"
      have e69 : Ext M6 M9 := e7.trans (e8.trans e9)
      have keep : ∀ a o, a ≠ w → M5 a = some o → M9 a = some o := fun a o ha e => e69 _ _ (k6 _ _ ha e)
      refine kt _ _ ⟨r0', r1', steps ++ [((v : Int), s)], att', _, _, _, _, _, _, rfl, ⟨hb5.mono fun a o ha e => keep a o (by rcases ha with rfl | rfl; exact ap.bw; exact ap.cw) e, by rw [hlag']; exact e69 _ _ hw6, keep _ _ (Ne.symm ap.wro) hr5, keep _ _ (Ne.symm ap.wst) hst5⟩, by rw [List.length_append, hsl]; rfl, hsv', i0', i1', by omega, by omega, hlag', hfit', ?_, fun hz => ?_, ?_⟩
      · rcases hat' with h | h
        · exact .inl h
        · exact .inr ⟨h, by rw [hlag'], by rw [hlag']⟩
      · rw [hlook, hz]
        cases hp : (lookW A 0 wat0 steps).2 with
        | none => simp
        | some p =>
          rw [hlr] at hp
          rw [hrun, watStep_some (by rw [hp]; rfl), hp] at hz
          cases hz
      · rw [hlook]
        split
        · omega
        · split
          · simp only []; omega
          · simp only []; omega
    cases hp : (watRun A steps).2 with
    | some p =>
      have hrun2 : watRun A (steps ++ [((v : Int), s)]) = watRun A steps := by rw [hrun, watStep_some (by rw [hp]; rfl)]
      obtain ⟨hatt, h14, h23⟩ : att = D.int (lookW A 0 wat0 steps).1 ∧ s14 = some (Enc.d (watRun A steps).1.1) ∧ s23 = some (Enc.d (watRun A steps).1.2) := by
        rcases hat with h | h
        · rw [hp] at h; cases h
        · exact h
      have hlk2 : lookW A 0 wat0 (steps ++ [((v : Int), s)]) = lookW A 0 wat0 steps := by
        rw [hlook, hlr, hp]; rfl
      walk_at "w"
      walk_at "g1"
      walk_at "h"
      have hgo := go M4 r0 r1 att s22 hb4 hw4 hr4 hst4 i0 i1 (by omega) (by omega) (by rw [hrun2]; exact hlag) (by rw [hrun2]; exact hfit) (.inr (by rw [hlk2]; exact hatt))
      rw [hrun2, hp] at hgo
      rw [h14, h23, hlag]
      exact hgo
    | none =>
      have hn1 := hnn hp
      have hrun3 : (watRun A steps) = (lagL A r0 r1, none) := Prod.ext hlag hp
      have fin : ∀ (v0 : Nat) (r0' r1' : List Str), v = v0 → v0 < 2 → InA A r0' → InA A r1' → r0'.length ≤ i + 1 → r1'.length ≤ i + 1 → watRun A (steps ++ [((v : Int), s)]) = (lagL A r0' r1', metP A (lagL A r0' r1')) → ∀ (M5 : DM) (s14' s23' : Option D), BagAt M5 b c → M5 w = some (watO K A (watRun A steps).1 (watRun A steps).2) → M5 ro = some (.lst [Enc.d r0', Enc.d r1']) → M5 st = some (.lst ((steps ++ [((v : Int), s)]).map Enc.d)) → 
          t_law_p8 K ⟨fun σ' M' => t_law_p5 K ⟨Kt, Q, en, Kt, ex⟩ σ' M', Q, en, Kt, ex⟩ [s0, some (.ref b), s2, some (aD A), s4, s5, s6, some (.int (0 + (i : Int))), s8, s9, s10, some .non, s12, some (.str s), s14', s15, s16, some (.ref w), some (.ref ro), some (.ref st), some att, some (.int (v : Nat)), s22, s23'] M5 := by
        intro v0 r0' r1' _ _ i0' i1' l0' l1' hr' M5 s14' s23' hb5 hw5 hr5 hst5
        have hlin := lag_in g i0' i1'
        have hll := lag_length g i0' i1'
        walk_at "g"
        refine ix_lst (n := 0) hr5 rfl ?_
        walk_at "g"
        refine ix_lst (n := 1) hr5 rfl ?_
        walk_at "g"
        refine s_law_lag g (by omega) (by omega) i0' i1' fun M6 e6 => ?_
        walk_at "g"
        refine s_law_met g (x := (lagL A r0' r1').1) (y := (lagL A r0' r1').2) (by omega) (by omega) fun M7 e7 => ?_
        have e57 := e6.trans e7
        have h2 : (watRun A (steps ++ [((v : Int), s)])).2 = metP A (lagL A r0' r1') := by rw [hr']
        have hx1 : (watRun A (steps ++ [((v : Int), s)])).1 = lagL A r0' r1' := by rw [hr']
        have hgo := fun att' => go M7 r0' r1' att' (some (Enc.d (nf A (cm A r0' r1').1))) (hb5.ext e57) (e57 _ _ hw5) (e57 _ _ hr5) (e57 _ _ hst5) i0' i1' l0' l1' hx1 (by rw [h2]; exact wtFit_met sh hlin.1 hlin.2)
        rw [h2] at hgo
        rw [hlr, hp] at hlook
        simp only [Option.isSome_none, Bool.false_eq_true, if_false] at hlook
        rw [h2] at hlook
        walk_at "h"
        walk_at "g1"
        cases hm : metP A (lagL A r0' r1') with
        | none =>
          rw [hm] at hgo
          walk_at "h"
          exact hgo .non (.inl rfl)
        | some pc =>
          rw [hm] at hgo hlook
          simp only [Option.isSome_some, if_true] at hlook
          walk_at "h"
          refine hgo _ (.inr ?_)
          rw [hlook, hsl]
          show D.int (0 + (i : Int)) = D.int ((0 + i : Nat) : Int)
          rw [show ((0 + i : Nat) : Int) = 0 + (i : Int) by omega]
      obtain rfl | rfl : v = 0 ∨ v = 1 := by omega
      · have hr' : watRun A (steps ++ [(((0 : Nat) : Int), s)]) = (lagL A (r0 ++ [s]) r1, metP A (lagL A (r0 ++ [s]) r1)) := by
          rw [hrun, hrun3]
          unfold watStep
          simp only [Option.isSome_none, Bool.false_eq_true, if_false]
          have := lag_behind g i0 i1 (in_one hs) in_nil
          rw [List.append_nil, List.append_nil] at this
          rw [if_pos (show ((0 : Nat) : Int) = 0 from rfl), this]
        walk_at "w"
        walk_at "g1"
        walk_at "g"
        refine ix_lst (n := 0) hr4 rfl ?_
        walk_at "g"
        refine add_tup ?_ ?_
        · rw [List.length_map]; exact Nat.le_trans (show r0.length + 1 ≤ 100 by omega) (by size_fits)
        walk_at "g"
        refine set_lst (n := 0) hr4 (by simp) ?_
        walk_at "h"
        refine fin 0 (r0 ++ [s]) r1 rfl (by decide) (i0.app (in_one hs)) i1 (by rw [List.length_append]; simp only [List.length_singleton]; omega) (by omega) hr' _ _ _ (hb4.mono fun a o ha e => ?_) (by rw [put_ne ap.wro]; exact hw4) ?_ (by rw [put_ne (Ne.symm ap.rost)]; exact hst4)
        · rcases ha with rfl | rfl
          · rw [put_ne ap.bro]; exact e
          · rw [put_ne ap.cro]; exact e
        · rw [put_same]
          show some (DO.lst [D.tup (r0.map Enc.d ++ [D.str s]), Enc.d r1]) = _
          rw [show (r0.map Enc.d ++ [D.str s]) = (r0 ++ [s]).map Enc.d from by rw [List.map_append]; rfl]
          rfl
      · have hr' : watRun A (steps ++ [(((1 : Nat) : Int), s)]) = (lagL A r0 (r1 ++ [s]), metP A (lagL A r0 (r1 ++ [s]))) := by
          rw [hrun, hrun3]
          unfold watStep
          simp only [Option.isSome_none, Bool.false_eq_true, if_false]
          have := lag_behind g i0 i1 in_nil (in_one hs)
          rw [List.append_nil, List.append_nil] at this
          rw [if_neg (show ¬ ((1 : Nat) : Int) = 0 by decide), this]
        walk_at "w"
        walk_at "g1"
        walk_at "g"
        refine ix_lst (n := 1) hr4 rfl ?_
        walk_at "g"
        refine add_tup ?_ ?_
        · rw [List.length_map]; exact Nat.le_trans (show r1.length + 1 ≤ 100 by omega) (by size_fits)
        walk_at "g"
        refine set_lst (n := 1) hr4 (by simp) ?_
        walk_at "h"
        refine fin 1 r0 (r1 ++ [s]) rfl (by decide) i0 (i1.app (in_one hs)) (by omega) (by rw [List.length_append]; simp only [List.length_singleton]; omega) hr' _ _ _ (hb4.mono fun a o ha e => ?_) (by rw [put_ne ap.wro]; exact hw4) ?_ (by rw [put_ne (Ne.symm ap.rost)]; exact hst4)
        · rcases ha with rfl | rfl
          · rw [put_ne ap.bro]; exact e
          · rw [put_ne ap.cro]; exact e
        · rw [put_same]
          show some (DO.lst [Enc.d r0, D.tup (r1.map Enc.d ++ [D.str s])]) = _
          rw [show (r1.map Enc.d ++ [D.str s]) = (r1 ++ [s]).map Enc.d from by rw [List.map_append]; rfl]
          rfl
  · rintro σ' M1 ⟨r0, r1, steps, att, s7, s13, s14, s21, s22, s23, rfl, h1, hsl, hsv, i0, i1, l0, l1, hlag, hfit, hat, hnn, hle⟩
    rw [List.length_map, List.length_range] at hsl hle
    exact q M1 r0 r1 steps att _ _ _ _ _ _ h1 hsl hsv hfit (hat.imp id fun h => h.1) hnn hle
end
end Dt

set_option Elab.async false
set_option autoImplicit false
set_option linter.all false
set_option maxRecDepth 100000
set_option maxHeartbeats 8000000
namespace Dt
open PySem PySem.Spec PyProof.Rows L2 LamX RZ PySem.P
local macro_rules | `(tactic| walk_at "w1") => `(tactic| with_reducible refine StepW.go ?_)
local macro_rules | `(tactic| walk_at "w") => `(tactic| ((repeat walk_at "w1"); try (with_reducible conv => whnf)))
local macro_rules | `(tactic| walk_at "m") => `(tactic| first | with_reducible assumption | with_reducible exact put_same | (with_reducible apply Ext.get; (with_reducible assumption); walk_at "m") | (with_reducible apply Ext.get; (with_reducible apply Ext.new); (with_reducible assumption); walk_at "m"))
local macro_rules | `(tactic| walk_at "x") => `(tactic| first | with_reducible assumption | with_reducible exact Ext.refl | (with_reducible refine Ext.alloc ?_ (by with_reducible assumption) _; walk_at "x") | (with_reducible refine Ext.trans ?_ (by with_reducible assumption); walk_at "x"))
local macro_rules | `(tactic| walk_at "lk") => `(tactic| first | with_reducible exact look1 | ((with_reducible apply lookS); (with_unfolding_all decide); walk_at "lk"))
local macro_rules | `(tactic| walk_at "h1") => `(tactic| (first
  | with_reducible refine StepW.go ?_
  | with_reducible refine StepG.go ?_
  | with_reducible refine w_isTup ?_
  | ((with_reducible refine w_sz ?sz ?_); (case sz => size_fits))
  | ((with_reducible refine w_len ?sz ?_); (case sz => rfl))
  | ((with_reducible refine w_obj (by walk_at "m") ?ob2 ?_); (case ob2 => walk_at "ln"))
  | (with_reducible refine w_lenL (by walk_at "m") ?_) | (with_reducible refine w_seqL (by walk_at "m") ?_) | (with_reducible refine tup_list (by walk_at "m") ?_)
  | (with_reducible refine w_isLst (by walk_at "m") ?_) | (with_reducible refine w_slL (by walk_at "m") ?_)
  | ((with_reducible refine fld_ok (by walk_at "m") ?cl (by walk_at "lk") ?_); (case cl => walk_at "cl"))
  | (with_reducible refine w_lstL (by walk_at "m") ?_) | (with_reducible refine w_dic (by walk_at "m") ?_)
  ))
local macro_rules | `(tactic| walk_at "g1") => `(tactic| first | walk_at "h1" | with_reducible refine StepP.go ?_)
local macro_rules | `(tactic| walk_at "h") => `(tactic| ((repeat walk_at "h1"); try (with_reducible conv => whnf)))
local macro_rules | `(tactic| walk_at "g") => `(tactic| ((repeat walk_at "g1"); try (with_reducible conv => whnf)))
local macro_rules | `(tactic| walk_at "ln") => `(tactic| first | exact look_none (ns := ["row", "signs", "dependent", "places", "taken"]) rfl (by decide) | exact look_none (ns := ["alphabet", "due", "its_left", "signs", "parting"]) rfl (by decide) | exact look_none (ns := ["alphabet", "its_lag", "parting"]) rfl (by decide))
local macro_rules | `(tactic| walk_at "cl") => `(tactic| first | exact CF.get (by with_reducible assumption) (by decide) | exact LF.row (by with_reducible assumption) | exact LF.signs (by with_reducible assumption) | exact LF.dependent (by with_reducible assumption) | exact LF.places (by with_reducible assumption) | exact LF.taken (by with_reducible assumption))
section
variable {K : Bd} {M M' : DM} {Q : DQ} {E : DX} {A : Alph} {b c : Addr}
abbrev abcd : List Str := ["a", "b", "c", "d"]
theorem abcd_sorted : abcd.Pairwise sLt := by
  unfold sLt
  decide
theorem abcd_short : ∀ s ∈ abcd, ShS s := by
  unfold ShS
  decide
theorem lookM_le {due : List Str} : ∀ (r : List Str) (i : Nat) (st : List Str × Option PT), (lookM A due i st r).1 ≤ i + r.length
  | [], i, st => by rw [lookM_nil]; exact Nat.le_add_right _ _
  | s :: r, i, st => by
    rw [lookM_cons]
    split
    · exact Nat.le_add_right _ _
    · have := lookM_le (due := due) r (i + 1) (monStep A due st s)
      rw [List.length_cons]; omega
theorem BagAt.atB (h : BagAt M b c) : ∃ o, M b = some o := by
  obtain ⟨x, y, z, cells, e1, _⟩ := h.ex
  exact ⟨_, e1⟩
theorem BagAt.atC (h : BagAt M b c) : ∃ o, M c = some o := by
  obtain ⟨x, y, z, cells, _, e2, _⟩ := h.ex
  exact ⟨_, e2⟩
theorem s_law (F : LF K) (G1 : CF K "Monitor" monNs) (G2 : CF K "Watch" watNs) {script : List Int} (q : ∀ M', Q (.bl true) M') : sp_law K [.scr (script.map .int)] M Q noX := by
  refine go_law ?_
  delta t_law
  walk_at "h"
  refine s_law_bag fun M0 b c e0 hb0 => ?_
  walk_at "g"
  delta t_law_l32
  walk_at "g"
  refine ⟨⟨by decide, by decide⟩, ?_⟩
  refine for_inv ((List.range 6).map fun k : Nat => D.int (0 + (k : Int))) (fun i σ' M' => ∃ s2 s3 s4 s5 s6 s7 s8 s9 s10 s11 s12 s13 s14 s15 s16 s17 s18 s19 s20 s21 s22 s23, σ' = [some (.scr (script.map .int)), some (.ref b), s2, s3, s4, s5, s6, s7, s8, s9, s10, s11, s12, s13, s14, s15, s16, s17, s18, s19, s20, s21, s22, s23] ∧ BagAt M' b c) (fun i σ' M' _ hi => itR_at 0 6 i M' (by simpa using hi)) ⟨_, _, _, _, _, _, _, _, _, _, _, _, _, _, _, _, _, _, _, _, _, _, rfl, hb0⟩ ?_ ?_
  · rintro i d σ' M1 hd ⟨s2, s3, s4, s5, s6, s7, s8, s9, s10, s11, s12, s13, s14, s15, s16, s17, s18, s19, s20, s21, s22, s23, rfl, hb1⟩ Kt kt
    walk_at "g"
    refine s_law_take hb1 (many := 3) (by decide) (by decide) fun M2 v hv k2 hb2 => ?_
    walk_at "g"
    rw [show (2 : Int) + (v : Int) = ((2 + v : Nat) : Int) by omega, cut_to]
    rw [show ([D.str "a", D.str "b", D.str "c", D.str "d"] : List D).take (2 + v) = (abcd.take (2 + v)).map Enc.d from by rw [List.map_take]; rfl]
    refine s_law_alphabet hb2 (xs := abcd.take (2 + v)) (abcd_sorted.sublist (List.take_sublist _ _)) (Nat.le_trans (List.length_take_le _ _) (by omega)) fun M3 A hA g k3 hb3 => ?_
    have sh : ∀ s ∈ A.signs, ShS s := fun s hs => abcd_short s (List.mem_of_mem_take (by rw [← hA]; exact hs))
    have hne : A.signs ≠ [] := by
      rw [hA]
      intro z
      have := congrArg List.length z
      rw [List.length_take] at this
      simp at this
    clear hA
    walk_at "g"
    refine ix_tup (n := 0) rfl ?_
    walk_at "g"
    refine s_law_row (signs := A.signs) (most := 6) hb3 hne (Nat.le_trans g.short (by decide)) (by decide) fun M4 due hdue hdl k4 hb4 => ?_
    walk_at "g"
    refine s_law_class g (by omega) hdue (most := 300) (by decide) (by decide) fun M5 every e5 hev => ?_
    have hb5 := hb4.ext e5
    -- from the list of signs that come on
    have rest : ∀ (row : List Str) (rw_ : Addr) (M6 : DM) (s7 s8 s9 s10 s11 s12 s13 s14 s15 s16 s17 s18 s19 s20 s21 s22 s23 : Option D), M6 rw_ = some (.lst (row.map .str)) → rw_ ≠ b → rw_ ≠ c → InA A row → row.length ≤ 7 → BagAt M6 b c →
        t_law_p26 K ⟨Kt, Q, fun σ' M' => t_law_p1 K (dEnd Q noX) σ' M', Kt, fun _ => noX⟩ [some (.scr (script.map .int)), some (.ref b), some d, some (aD A), some (Enc.d due), some every, some (.ref rw_), s7, s8, s9, s10, s11, s12, s13, s14, s15, s16, s17, s18, s19, s20, s21, s22, s23] M6 := by
      intro row rw_ M6 s7 s8 s9 s10 s11 s12 s13 s14 s15 s16 s17 s18 s19 s20 s21 s22 s23 hrw hrb hrc hri hrl hb6
      walk_at "g"
      refine mon_new F G1 g (by omega) fun M7 m x t l S e7 hS h7 => ?_
      have hrw7 := e7 _ _ hrw
      walk_at "g"
      have old : ∀ a o, M6 a = some o → a ≠ m ∧ a ≠ t ∧ a ≠ l := fun a o e => by
        refine ⟨ne_of_new e (hS m (.inr (.inl rfl))).1, ne_of_new e (hS t (.inr (.inr (.inl rfl)))).1, ne_of_new e (hS l (.inr (.inr (.inr rfl)))).1⟩
      rw [List.length_map]
      refine law_mon F G1 g sh (by omega) hdue hri (by omega) h7 hrw7 (old _ _ hrw).1 (old _ _ hrw).2.1 (old _ _ hrw).2.2 fun M8 came part first s7 s13 s14 s15 s16 k8 hlook hpf => ?_
      have e68 : Ext M6 M8 := fun a o e => k8 _ _ (old a o e).1 (old a o e).2.1 (old a o e).2.2 (e7 _ _ e)
      have hrw8 := e68 _ _ hrw
      walk_at "g"
      refine s_looked_at F G1 g (by omega) hdue hri fun M9 e9 => ?_
      rw [hlook]
      walk_at "g"
      have hint : ∀ n : Nat, n ≤ 8 → ((n : Nat) : Int).natAbs < 10 ^ 12 := fun n hn => by
        have : (9 : Nat) < 10 ^ 12 := by decide
        omega
      have hfirst : first ≤ 7 := by
        have := lookM_le (A := A) (due := due) row 0 ([], none)
        rw [hlook] at this
        simp only [] at this
        omega
      obtain ⟨pp, hpp, hpfit⟩ := hpf M9 19 (by decide)
      refine s_law_alike (.tup (.cons .int (.cons hpp .nil))) (.tup (.cons .int (.cons hpp .nil))) (fit_tup (fits_cons (fit_int (hint _ (by omega))) (fits_cons hpfit fits_nil))) (by decide) ?_
      walk_at "g"
      refine wat_new G2 fun M10 w e10 hwn hw => ?_
      walk_at "g"
      intro ro hro
      walk_at "g"
      intro st hst
      have e610 : Ext M6 M10 := e68.trans (e9.trans e10)
      have hb10 := hb6.ext e610
      have hb9 := hb6.ext (e68.trans e9)
      obtain ⟨ob, hbb⟩ := hb9.atB
      obtain ⟨oc, hcc⟩ := hb9.atC
      obtain ⟨ob', hbb'⟩ := hb10.atB
      obtain ⟨oc', hcc'⟩ := hb10.atC
      have hwro : w ≠ ro := ne_of_new hw hro
      have e11 := Ext.new hro (.lst [D.tup [], D.tup []])
      have hwst : w ≠ st := ne_of_new (e11 _ _ hw) hst
      have hrost : ro ≠ st := ne_of_new put_same hst
      have e12 := e11.trans (Ext.new hst (.lst []))
      walk_at "g"
      refine law_wat F G2 g sh hne ⟨hwro, hwst, hrost, ne_of_new hbb hwn, ne_of_new hbb' hro, ne_of_new (e11 _ _ hbb') hst, ne_of_new hcc hwn, ne_of_new hcc' hro, ne_of_new (e11 _ _ hcc') hst⟩ ⟨hb10.ext e12, e12 _ _ hw, by rw [put_ne hrost]; exact put_same, put_same⟩ fun M13 r0 r1 steps att s7 s13 s14 s21 s22 s23 h13 hsl hsv hwf hat hnn hle => ?_
      have hstp := h13.stp
      have hlr := look_run (A := A) steps 0 wat0 rfl
      rw [show steps.foldl (watStep A) wat0 = watRun A steps from rfl] at hlr
      have fin : ∀ M14 : DM, Ext M13 M14 → ∀ σ', (∃ s2 s3 s4 s5 s6 s7 s8 s9 s10 s11 s12 s13 s14 s15 s16 s17 s18 s19 s20 s21 s22 s23, σ' = [some (.scr (script.map .int)), some (.ref b), s2, s3, s4, s5, s6, s7, s8, s9, s10, s11, s12, s13, s14, s15, s16, s17, s18, s19, s20, s21, s22, s23]) → Kt σ' M14 := fun M14 e14 σ' ⟨s2, s3, s4, s5, s6, s7, s8, s9, s10, s11, s12, s13, s14, s15, s16, s17, s18, s19, s20, s21, s22, s23, hσ⟩ => kt _ _ ⟨s2, s3, s4, s5, s6, s7, s8, s9, s10, s11, s12, s13, s14, s15, s16, s17, s18, s19, s20, s21, s22, s23, hσ, h13.bag.ext e14⟩
      cases hp : (watRun A steps).2 with
      | none =>
        walk_at "g"
        refine s_looked_at_both F G2 g (steps := steps) (by omega) hsv fun M14 e14 => ?_
        have hstp14 := e14 _ _ hstp
        rw [show lookW A 0 (([], []), none) steps = (steps.length, none) from Prod.ext (hnn hp) (hlr.trans hp)]
        walk_at "g"
        rw [List.length_map]
        refine s_law_alike (p := .tuple [.int (steps.length : Nat), .none]) (.tup (.cons .int (.cons .non .nil))) (.tup (.cons .int (.cons .non .nil))) (fit_tup (fits_cons (fit_int (hint _ (by omega))) (fits_cons fit_non fits_nil))) (by decide) ?_
        walk_at "g"
        exact fin M14 e14 _ ⟨_, _, _, _, _, _, _, _, _, _, _, _, _, _, _, _, _, _, _, _, _, _, rfl⟩
      | some pc =>
        have hatt : att = D.int (lookW A 0 wat0 steps).1 := by
          rcases hat with h | h
          · rw [hp] at h; cases h
          · exact h
        subst hatt
        rw [hp] at hwf
        walk_at "g"
        refine s_looked_at_both F G2 g (steps := steps) (by omega) hsv fun M14 e14 => ?_
        rw [show (lookW A 0 (([], []), none) steps).2 = some pc from hlr.trans hp]
        walk_at "g"
        obtain ⟨pp, hpp, hpfit⟩ := hwf M14 19 (by decide)
        refine s_law_alike (p := .tuple [.int ((lookW A 0 wat0 steps).1 : Nat), pp]) (.tup (.cons .int (.cons hpp .nil))) (.tup (.cons .int (.cons hpp .nil))) (fit_tup (fits_cons (fit_int (hint _ hle)) (fits_cons hpfit fits_nil))) (by decide) ?_
        walk_at "g"
        exact fin M14 e14 _ ⟨_, _, _, _, _, _, _, _, _, _, _, _, _, _, _, _, _, _, _, _, _, _, rfl⟩
    -- the list is made
    have more : ∀ (r : List Str) (rw_ : Addr) (M6 : DM), M6 rw_ = some (.lst (r.map .str)) → rw_ ≠ b → rw_ ≠ c → InA A r → r.length ≤ 6 → BagAt M6 b c →
        t_law_p27 K ⟨Kt, Q, fun σ' M' => t_law_p1 K (dEnd Q noX) σ' M', Kt, fun _ => noX⟩ [some (.scr (script.map .int)), some (.ref b), some d, some (aD A), some (Enc.d due), some every, some (.ref rw_), s7, s8, s9, s10, s11, s12, s13, s14, s15, s16, s17, s18, s19, s20, s21, s22, s23] M6 := by
      intro r rw_ M6 hrw hrb hrc hri hrl hb6
      walk_at "g"
      refine s_law_take hb6 (many := 2) (by decide) (by decide) fun M7 v hv k7 hb7 => ?_
      have hrw7 := k7 _ _ hrb hrw
      walk_at "g"
      cases hz : decide ((v : Int) = 0)
      · walk_at "h"
        exact rest r rw_ M7 _ _ _ _ _ _ _ _ _ _ _ _ _ _ _ _ _ hrw7 hrb hrc hri (by omega) hb7
      · walk_at "g"
        rw [List.length_map, show ((r.length : Nat) : Int) + 1 = ((r.length + 1 : Nat) : Int) by omega]
        refine s_law_take hb7 (many := r.length + 1) (by omega) (by omega) fun M8 j hj k8 hb8 => ?_
        walk_at "g"
        refine ix_tup (n := 0) rfl ?_
        walk_at "g"
        refine s_law_some (α := Str) (xs := A.signs) hb8 hne (Nat.lt_of_le_of_lt g.short (by decide)) fun M9 s hs k9 hb9 => ?_
        have hrw9 := k9 _ _ hrb (k8 _ _ hrb hrw7)
        walk_at "g"
        refine ⟨rw_, r.map .str, rfl, hrw9, by rw [List.length_map]; exact Nat.lt_of_le_of_lt (show r.length ≤ 100 by omega) (by size_fits), by omega, by omega, ?_⟩
        have hrw10 : put M9 rw_ (.lst ((r.map D.str).take (j : Int).toNat ++ [Enc.d s] ++ (r.map D.str).drop (j : Int).toNat)) rw_ = some (.lst ((r.take j ++ [s] ++ r.drop j).map D.str)) := by
          rw [put_same, Int.toNat_natCast, List.map_append, List.map_append, List.map_take, List.map_drop]; rfl
        have hb10 : BagAt (put M9 rw_ (.lst ((r.map D.str).take (j : Int).toNat ++ [Enc.d s] ++ (r.map D.str).drop (j : Int).toNat))) b c := hb9.mono fun a o ha e => by
          rcases ha with rfl | rfl
          · rw [put_ne (Ne.symm hrb)]; exact e
          · rw [put_ne (Ne.symm hrc)]; exact e
        walk_at "h"
        refine rest _ rw_ _ _ _ _ _ _ _ _ _ _ _ _ _ _ _ _ _ _ hrw10 hrb hrc (fun z hz => ?_) ?_ hb10
        · rcases List.mem_append.mp hz with h | h
          · rcases List.mem_append.mp h with h | h
            · exact hri z (List.mem_of_mem_take h)
            · rw [List.mem_singleton.mp h]; exact hs
          · exact hri z (List.mem_of_mem_drop h)
        · rw [List.length_append, List.length_append, List.length_take, List.length_drop]
          simp only [List.length_singleton]
          omega
    have fresh : ∀ (M6 : DM) (p : Addr), BagAt M6 b c → M6 p = none → p ≠ b ∧ p ≠ c := fun M6 p hb hp => by
      obtain ⟨ob, hbb⟩ := hb.atB
      obtain ⟨oc, hcc⟩ := hb.atC
      exact ⟨Ne.symm (ne_of_new hbb hp), Ne.symm (ne_of_new hcc hp)⟩
    rcases hev with rfl | ⟨p, rows, rfl, hp4, hp5, hrne, hrlen, hrall⟩
    · walk_at "g"
      rw [show decide (("many" : Str) = "many") = true from decide_eq_true rfl]
      walk_at "h"
      intro p hp
      walk_at "h"
      obtain ⟨f1, f2⟩ := fresh _ _ hb5 hp
      exact more due p _ put_same f1 f2 hdue hdl (hb5.ext (Ext.new hp _))
    · obtain ⟨f1, f2⟩ := fresh _ _ hb4 hp4
      walk_at "g"
      refine ⟨.list (rows.map Enc.p), .str "many", .lst hp5 (pyOfs_map M5 19 (by decide) rows), .str, ?_⟩
      simp only []
      rw [show (!PyData.eqv (.list (rows.map Enc.p)) (.str "many")) = true from by simp [PyData.eqv]]
      walk_at "h"
      refine s_law_someL (α := List Str) hb5 hp5 f1 hrne (by omega) fun M6 r hr k6 hb6 => ?_
      obtain ⟨hri, hrl⟩ := hrall r hr
      walk_at "h"
      intro p2 hp2
      walk_at "h"
      obtain ⟨f3, f4⟩ := fresh _ _ hb6 hp2
      exact more r p2 _ put_same f3 f4 hri (by omega) (hb6.ext (Ext.new hp2 _))
  · rintro σ' M1 ⟨s2, s3, s4, s5, s6, s7, s8, s9, s10, s11, s12, s13, s14, s15, s16, s17, s18, s19, s20, s21, s22, s23, rfl, hb1⟩
    walk_at "g"
    exact q _
end
end Dt

set_option Elab.async false
set_option autoImplicit false
set_option linter.all false
set_option maxRecDepth 100000
set_option maxHeartbeats 400000
namespace Dt
open PySem PySem.Spec PyProof.Rows L2 LamX RZ PySem.P
local macro_rules | `(tactic| walk_at "w1") => `(tactic| with_reducible refine StepW.go ?_)
local macro_rules | `(tactic| walk_at "w") => `(tactic| ((repeat walk_at "w1"); try (with_reducible conv => whnf)))
local macro_rules | `(tactic| walk_at "m") => `(tactic| first | with_reducible assumption | with_reducible exact put_same | (with_reducible apply Ext.get; (with_reducible assumption); walk_at "m") | (with_reducible apply Ext.get; (with_reducible apply Ext.new); (with_reducible assumption); walk_at "m"))
local macro_rules | `(tactic| walk_at "x") => `(tactic| first | with_reducible assumption | with_reducible exact Ext.refl | (with_reducible refine Ext.alloc ?_ (by with_reducible assumption) _; walk_at "x") | (with_reducible refine Ext.trans ?_ (by with_reducible assumption); walk_at "x"))
local macro_rules | `(tactic| walk_at "lk") => `(tactic| first | with_reducible exact look1 | ((with_reducible apply lookS); (with_unfolding_all decide); walk_at "lk"))
local macro_rules | `(tactic| walk_at "h1") => `(tactic| (first
  | with_reducible refine StepW.go ?_
  | with_reducible refine StepG.go ?_
  | with_reducible refine w_isTup ?_
  | ((with_reducible refine w_sz ?sz ?_); (case sz => size_fits))
  | ((with_reducible refine w_len ?sz ?_); (case sz => rfl))
  | ((with_reducible refine w_obj (by walk_at "m") ?ob2 ?_); (case ob2 => walk_at "ln"))
  | (with_reducible refine w_lenL (by walk_at "m") ?_) | (with_reducible refine w_seqL (by walk_at "m") ?_) | (with_reducible refine tup_list (by walk_at "m") ?_)
  | (with_reducible refine w_isLst (by walk_at "m") ?_) | (with_reducible refine w_slL (by walk_at "m") ?_)
  | ((with_reducible refine fld_ok (by walk_at "m") ?cl (by walk_at "lk") ?_); (case cl => walk_at "cl"))
  | (with_reducible refine w_lstL (by walk_at "m") ?_) | (with_reducible refine w_dic (by walk_at "m") ?_)
  ))
local macro_rules | `(tactic| walk_at "g1") => `(tactic| first | walk_at "h1" | with_reducible refine StepP.go ?_)
local macro_rules | `(tactic| walk_at "h") => `(tactic| ((repeat walk_at "h1"); try (with_reducible conv => whnf)))
local macro_rules | `(tactic| walk_at "g") => `(tactic| ((repeat walk_at "g1"); try (with_reducible conv => whnf)))
local macro_rules | `(tactic| walk_at "ln") => `(tactic| first | exact look_none (ns := ["row", "signs", "dependent", "places", "taken"]) rfl (by decide) | exact look_none (ns := ["alphabet", "due", "its_left", "signs", "parting"]) rfl (by decide) | exact look_none (ns := ["alphabet", "its_lag", "parting"]) rfl (by decide))
local macro_rules | `(tactic| walk_at "cl") => `(tactic| first | exact CF.get (by with_reducible assumption) (by decide) | exact LF.row (by with_reducible assumption) | exact LF.signs (by with_reducible assumption) | exact LF.dependent (by with_reducible assumption) | exact LF.places (by with_reducible assumption) | exact LF.taken (by with_reducible assumption))
section
variable {P : Program} {w : World} {K : PySem.W.Frag}
theorem dvs_ints {B : Bd} {H : Hp} : ∀ ns : List Int, DVs B H (ns.map .int) (ns.map V.int)
  | [] => .nil
  | n :: ns => .cons .int (dvs_ints ns)
theorem sqz_of {H : Hp} {a : Addr} {xs : List V} (hO : Only H) (hS : SqL K H a xs) : SqZ K H a xs := by
  rcases hS with (h | ⟨o, h⟩) | h
  · rcases hO a with z | ⟨o, ys, z⟩
    · rw [z] at h; cases h
    · rw [z] at h; cases h
  · exact .inl ⟨o, h⟩
  · exact .inr h
theorem law_true (f : CF ⟨K, P, w⟩ "Left" leftNs ∧ CF ⟨K, P, w⟩ "Monitor" monNs ∧ CF ⟨K, P, w⟩ "Watch" watNs) {H : Hp} {a : Addr} {ns : List Int} (hO : Only H) (hS : SqL K H a (ns.map V.int)) :
    lSp ⟨K, P, w⟩ (sp_law ⟨K, P, w⟩) [.ref a] H (fun v _ => v = .bl true) (fun _ _ _ => False) :=
  ⟨[.scr (ns.map .int)], fun _ => none, fun d _ => d = .bl true, .cons (.scr (sqz_of hO hS) (dvs_ints ns)) .nil, (fun _ _ z => nomatch z), s_law (LF.of f.1) f.2.1 f.2.2 (fun _ => rfl), fun d v M' H' dv R k e => by
    subst e; cases dv; rfl⟩
end
end Dt

set_option Elab.async false
set_option autoImplicit false
set_option linter.all false
set_option maxRecDepth 100000
set_option maxHeartbeats 0
namespace Hd
open PySem PySem.Spec PyProof.Rows L2
def top (i : Nat) : Stmt := PySem.Challenge.pw_anyarrive_k61_whole_monitors.main.body.getD i (.Pass ⟨0, 0, 0, 0⟩)
def names0 : List PySem.Str := ["_wall", "ArriveError", "Nothing", "is_number", "is_index", "check_sign", "are_independent", "dependent_couples", "cut", "Left", "normal", "left_of", "common", "lag", "behind", "Monitor", "Watch", "looked_at", "looked_at_both", "_law_bag", "_law_take", "_law_some", "_law_alike", "_law_alphabet", "_law_is_free", "_law_cut", "_law_firsts", "_law_without", "_law_normal", "_law_lag"]
def names1 : List PySem.Str := ["_law_left_of", "_law_class", "_law_row", "_law_parting", "_law_met"]
def names : List PySem.Str := names0 ++ names1
abbrev s0 : Stmt := top 5
def d0 : He.FnD := ⟨("is_number", none), "is_number", "is_number", defArgs s0, defBody s0, defScope s0⟩
abbrev s1 : Stmt := top 6
def d1 : He.FnD := ⟨("is_index", none), "is_index", "is_index", defArgs s1, defBody s1, defScope s1⟩
abbrev s2 : Stmt := top 8
def d2 : He.FnD := ⟨("check_sign", none), "check_sign", "check_sign", defArgs s2, defBody s2, defScope s2⟩
abbrev s3 : Stmt := top 9
def d3 : He.FnD := ⟨("are_independent", none), "are_independent", "are_independent", defArgs s3, defBody s3, defScope s3⟩
abbrev s4 : Stmt := top 10
def d4 : He.FnD := ⟨("dependent_couples", none), "dependent_couples", "dependent_couples", defArgs s4, defBody s4, defScope s4⟩
abbrev s5 : Stmt := top 11
def d5 : He.FnD := ⟨("cut", none), "cut", "cut", defArgs s5, defBody s5, defScope s5⟩
abbrev s6 : Stmt := inClass (top 13) 0
def d6 : He.FnD := ⟨("Left", some "__init__"), "__init__", "Left.__init__", defArgs s6, defBody s6, defScope s6⟩
abbrev s7 : Stmt := inClass (top 13) 1
def d7 : He.FnD := ⟨("Left", some "place"), "place", "Left.place", defArgs s7, defBody s7, defScope s7⟩
abbrev s8 : Stmt := inClass (top 13) 2
def d8 : He.FnD := ⟨("Left", some "can_be_first"), "can_be_first", "Left.can_be_first", defArgs s8, defBody s8, defScope s8⟩
abbrev s9 : Stmt := inClass (top 13) 3
def d9 : He.FnD := ⟨("Left", some "firsts"), "firsts", "Left.firsts", defArgs s9, defBody s9, defScope s9⟩
abbrev s10 : Stmt := inClass (top 13) 4
def d10 : He.FnD := ⟨("Left", some "take"), "take", "Left.take", defArgs s10, defBody s10, defScope s10⟩
abbrev s11 : Stmt := inClass (top 13) 5
def d11 : He.FnD := ⟨("Left", some "left"), "left", "Left.left", defArgs s11, defBody s11, defScope s11⟩
abbrev s12 : Stmt := top 14
def d12 : He.FnD := ⟨("normal", none), "normal", "normal", defArgs s12, defBody s12, defScope s12⟩
abbrev s13 : Stmt := top 16
def d13 : He.FnD := ⟨("left_of", none), "left_of", "left_of", defArgs s13, defBody s13, defScope s13⟩
abbrev s14 : Stmt := top 17
def d14 : He.FnD := ⟨("common", none), "common", "common", defArgs s14, defBody s14, defScope s14⟩
abbrev s15 : Stmt := top 19
def d15 : He.FnD := ⟨("lag", none), "lag", "lag", defArgs s15, defBody s15, defScope s15⟩
abbrev s16 : Stmt := top 20
def d16 : He.FnD := ⟨("behind", none), "behind", "behind", defArgs s16, defBody s16, defScope s16⟩
abbrev s17 : Stmt := inClass (top 22) 0
def d17 : He.FnD := ⟨("Monitor", some "__init__"), "__init__", "Monitor.__init__", defArgs s17, defBody s17, defScope s17⟩
abbrev s18 : Stmt := inClass (top 22) 1
def d18 : He.FnD := ⟨("Monitor", some "put"), "put", "Monitor.put", defArgs s18, defBody s18, defScope s18⟩
abbrev s19 : Stmt := inClass (top 22) 2
def d19 : He.FnD := ⟨("Monitor", some "told"), "told", "Monitor.told", defArgs s19, defBody s19, defScope s19⟩
abbrev s20 : Stmt := inClass (top 22) 3
def d20 : He.FnD := ⟨("Monitor", some "left"), "left", "Monitor.left", defArgs s20, defBody s20, defScope s20⟩
abbrev s21 : Stmt := inClass (top 22) 4
def d21 : He.FnD := ⟨("Monitor", some "is_done"), "is_done", "Monitor.is_done", defArgs s21, defBody s21, defScope s21⟩
abbrev s22 : Stmt := inClass (top 22) 5
def d22 : He.FnD := ⟨("Monitor", some "came"), "came", "Monitor.came", defArgs s22, defBody s22, defScope s22⟩
abbrev s23 : Stmt := inClass (top 22) 6
def d23 : He.FnD := ⟨("Monitor", some "twin"), "twin", "Monitor.twin", defArgs s23, defBody s23, defScope s23⟩
abbrev s24 : Stmt := inClass (top 23) 0
def d24 : He.FnD := ⟨("Watch", some "__init__"), "__init__", "Watch.__init__", defArgs s24, defBody s24, defScope s24⟩
abbrev s25 : Stmt := inClass (top 23) 1
def d25 : He.FnD := ⟨("Watch", some "put"), "put", "Watch.put", defArgs s25, defBody s25, defScope s25⟩
abbrev s26 : Stmt := inClass (top 23) 2
def d26 : He.FnD := ⟨("Watch", some "told"), "told", "Watch.told", defArgs s26, defBody s26, defScope s26⟩
abbrev s27 : Stmt := inClass (top 23) 3
def d27 : He.FnD := ⟨("Watch", some "lag"), "lag", "Watch.lag", defArgs s27, defBody s27, defScope s27⟩
abbrev s28 : Stmt := inClass (top 23) 4
def d28 : He.FnD := ⟨("Watch", some "are_even"), "are_even", "Watch.are_even", defArgs s28, defBody s28, defScope s28⟩
abbrev s29 : Stmt := inClass (top 23) 5
def d29 : He.FnD := ⟨("Watch", some "twin"), "twin", "Watch.twin", defArgs s29, defBody s29, defScope s29⟩
abbrev s30 : Stmt := top 25
def d30 : He.FnD := ⟨("looked_at", none), "looked_at", "looked_at", defArgs s30, defBody s30, defScope s30⟩
abbrev s31 : Stmt := top 26
def d31 : He.FnD := ⟨("looked_at_both", none), "looked_at_both", "looked_at_both", defArgs s31, defBody s31, defScope s31⟩
abbrev s32 : Stmt := top 28
def d32 : He.FnD := ⟨("_law_bag", none), "_law_bag", "_law_bag", defArgs s32, defBody s32, defScope s32⟩
abbrev s33 : Stmt := top 29
def d33 : He.FnD := ⟨("_law_take", none), "_law_take", "_law_take", defArgs s33, defBody s33, defScope s33⟩
abbrev s34 : Stmt := top 30
def d34 : He.FnD := ⟨("_law_some", none), "_law_some", "_law_some", defArgs s34, defBody s34, defScope s34⟩
abbrev s35 : Stmt := top 31
def d35 : He.FnD := ⟨("_law_alike", none), "_law_alike", "_law_alike", defArgs s35, defBody s35, defScope s35⟩
abbrev s36 : Stmt := top 32
def d36 : He.FnD := ⟨("_law_alphabet", none), "_law_alphabet", "_law_alphabet", defArgs s36, defBody s36, defScope s36⟩
abbrev s37 : Stmt := top 33
def d37 : He.FnD := ⟨("_law_is_free", none), "_law_is_free", "_law_is_free", defArgs s37, defBody s37, defScope s37⟩
abbrev s38 : Stmt := top 34
def d38 : He.FnD := ⟨("_law_cut", none), "_law_cut", "_law_cut", defArgs s38, defBody s38, defScope s38⟩
abbrev s39 : Stmt := top 35
def d39 : He.FnD := ⟨("_law_firsts", none), "_law_firsts", "_law_firsts", defArgs s39, defBody s39, defScope s39⟩
abbrev s40 : Stmt := top 36
def d40 : He.FnD := ⟨("_law_without", none), "_law_without", "_law_without", defArgs s40, defBody s40, defScope s40⟩
abbrev s41 : Stmt := top 37
def d41 : He.FnD := ⟨("_law_normal", none), "_law_normal", "_law_normal", defArgs s41, defBody s41, defScope s41⟩
abbrev s42 : Stmt := top 38
def d42 : He.FnD := ⟨("_law_lag", none), "_law_lag", "_law_lag", defArgs s42, defBody s42, defScope s42⟩
abbrev s43 : Stmt := top 39
def d43 : He.FnD := ⟨("_law_left_of", none), "_law_left_of", "_law_left_of", defArgs s43, defBody s43, defScope s43⟩
abbrev s44 : Stmt := top 40
def d44 : He.FnD := ⟨("_law_class", none), "_law_class", "_law_class", defArgs s44, defBody s44, defScope s44⟩
abbrev s45 : Stmt := top 41
def d45 : He.FnD := ⟨("_law_row", none), "_law_row", "_law_row", defArgs s45, defBody s45, defScope s45⟩
abbrev s46 : Stmt := top 42
def d46 : He.FnD := ⟨("_law_parting", none), "_law_parting", "_law_parting", defArgs s46, defBody s46, defScope s46⟩
abbrev s47 : Stmt := top 43
def d47 : He.FnD := ⟨("_law_met", none), "_law_met", "_law_met", defArgs s47, defBody s47, defScope s47⟩
abbrev s48 : Stmt := top 44
def d48 : He.FnD := ⟨("law", none), "law", "law", defArgs s48, defBody s48, defScope s48⟩
def fn : List He.FnD := [d0, d1, d2, d3, d4, d5, d6, d7, d8, d9, d10, d11, d12, d13, d14, d15, d16, d17, d18, d19, d20, d21, d22, d23, d24, d25, d26, d27, d28, d29, d30, d31, d32, d33, d34, d35, d36, d37, d38, d39, d40, d41, d42, d43, d44, d45, d46, d47, d48]
def fa0 : List He.Fa := [.free "isinstance", .free "bool", .free "int", .glo "is_number", .free "str", .free "max", .free "min", .glo "check_sign", .free "tuple", .free "enumerate", .glo "dependent_couples", .free "len", .free "all", .cls "Left", .meth "Left" "place", .meth "Left" "can_be_first", .free "range", .meth "Left" "take", .meth "Left" "firsts", .mkr "Left", .glo "Left", .meth "Left" "left", .glo "normal", .glo "left_of", .glo "common", .glo "lag", .cls "Monitor", .meth "Monitor" "told", .glo "cut", .free "list"]
def fa1 : List He.Fa := [.free "dict", .mkr "Monitor", .glo "Monitor", .cls "Watch", .meth "Watch" "told", .glo "behind", .glo "is_index", .glo "are_independent", .mkr "Watch", .glo "Watch", .meth "Monitor" "put", .meth "Watch" "put", .free "abs", .glo "_law_take", .free "repr", .free "sorted", .glo "_law_is_free", .glo "_law_without", .glo "_law_firsts", .glo "_law_normal", .glo "_law_some", .glo "_law_cut", .glo "looked_at_both", .glo "_law_alike", .meth "Watch" "twin", .meth "Watch" "lag", .meth "Watch" "are_even", .glo "_law_met", .glo "_law_lag", .glo "looked_at"]
def fa2 : List He.Fa := [.meth "Monitor" "came", .meth "Monitor" "is_done", .meth "Monitor" "left", .meth "Monitor" "twin", .glo "_law_left_of", .glo "_law_parting", .glo "_law_class", .glo "_law_row", .glo "_law_alphabet", .glo "_law_bag", .keep "is_number", .keep "is_index", .keep "check_sign", .keep "are_independent", .keep "dependent_couples", .keep "cut", .meth "Left" "__init__", .keep "normal", .keep "left_of", .keep "common", .keep "lag", .keep "behind", .meth "Monitor" "__init__", .meth "Watch" "__init__", .keep "looked_at", .keep "looked_at_both", .keep "_law_bag", .keep "_law_take", .keep "_law_some", .keep "_law_alike"]
def fa3 : List He.Fa := [.keep "_law_alphabet", .keep "_law_is_free", .keep "_law_cut", .keep "_law_firsts", .keep "_law_without", .keep "_law_normal", .keep "_law_lag", .keep "_law_left_of", .keep "_law_class", .keep "_law_row", .keep "_law_parting", .keep "_law_met", .keep "law", .noat "Left" "row", .noat "Left" "signs", .noat "Left" "dependent", .noat "Left" "places", .noat "Left" "taken", .noat "Monitor" "alphabet", .noat "Monitor" "due", .noat "Monitor" "its_left", .noat "Monitor" "signs", .noat "Monitor" "parting", .noat "Watch" "alphabet", .noat "Watch" "its_lag", .noat "Watch" "parting", .glo "law"]
def fa : List He.Fa := fa0 ++ fa1 ++ fa2 ++ fa3
abbrev R : PySem.W.OpenRow := PySem.W.OpenLaw.row PySem.Challenge.rw_anyarrive_k61_whole_monitors
abbrev hk : PySem.W.Hook := He.hookE 4 fa fn
def ob (s : PySem.W.SharedT) : He.Al := He.obsG 4 fa fn (HandSHeadRun.getT s)
theorem ob_eq (s : PySem.W.SharedT) : ob s = hk.obs s.abs := He.obsG_eq (HandSHeadRun.getT_eq s)
theorem run (w : World) : HandSHeadRun.RunEq R (PySem.W.view R.prog [44]) hk ob 3000 names w := by
  intro os
  kernel_rfl
end Hd

set_option Elab.async false
set_option autoImplicit false
set_option linter.all false
set_option maxRecDepth 100000
set_option maxHeartbeats 0
namespace Dt
open PySem PySem.Spec PyProof.Rows L2 LamX RZ PySem.P
abbrev Pg : Program := PySem.Challenge.rw_anyarrive_k61_whole_monitors.prog
section
variable {w : World} {K : PySem.W.Frag} {mg : Str → Option Value} {base : Heap} (KX : K.In base) (G : base.Ns mainGlobals mg) (c : He.SaysE Hd.fa Hd.fn K)
include KX G c
theorem ok_is_number  : FnE Pg w K mg base 1 (He.ga K "is_number") ["thing"] (sp_is_number ⟨K, Pg, w⟩) := by
  obtain ⟨oc, od, osl, kV, doc, pm, an, cdv, ct, lk, hcd⟩ := c.def_ 0
  refine fnE_of (x := "is_number") (qual := "is_number") (st := Hd.s0) (f := (He.ga K "is_number")) (N := N_is_number) (t := t_is_number ⟨K, Pg, w⟩) lk hcd (He.keep_ok (c.fact 70)) ⟨rfl, rfl, rfl, by decide +kernel, rfl, by decide +kernel, by decide +kernel⟩ (fun _ _ _ h => h.1) (fun us hl => match us, hl with | [_], _ => rfl) ?_ (fun _ _ _ h => h.2)
  intro cdv A outer s H E hr
  have hu := hr.units
  delta t_is_number
  exact (ds_one (ds_ret (de_and (de_isi (T := "") isi_int_ok (by rfl) (He.free_ok KX G (c.fact 0)) (by rfl) (He.free_ok KX G (c.fact 2)) boot_int (de_var (pv 0)) (fun h => pe_callB call_isi (by rfl) (He.free_ok KX G (c.fact 0)) boot_isinstance h) (fun h k => pa_cons h (pa_cons k pa_nil))) (de_one (de_not (de_isi (T := "") isi_bool_ok (by rfl) (He.free_ok KX G (c.fact 0)) (by rfl) (He.free_ok KX G (c.fact 1)) boot_bool (de_var (pv 0)) (fun h => pe_callB call_isi (by rfl) (He.free_ok KX G (c.fact 0)) boot_isinstance h) (fun h k => pa_cons h (pa_cons k pa_nil))))))))
theorem ok_is_index (h_is_number : FnE Pg w K mg base 1 (He.ga K "is_number") ["thing"] (sp_is_number ⟨K, Pg, w⟩)) : FnE Pg w K mg base 2 (He.ga K "is_index") ["thing"] (sp_is_index ⟨K, Pg, w⟩) := by
  obtain ⟨fd_is_number, F_is_number, b_is_number, kp_is_number⟩ := h_is_number
  obtain ⟨oc, od, osl, kV, doc, pm, an, cdv, ct, lk, hcd⟩ := c.def_ 1
  refine fnE_of (x := "is_index") (qual := "is_index") (st := Hd.s1) (f := (He.ga K "is_index")) (N := N_is_index) (t := t_is_index ⟨K, Pg, w⟩) lk hcd (He.keep_ok (c.fact 71)) ⟨rfl, rfl, rfl, by decide +kernel, rfl, by decide +kernel, by decide +kernel⟩ (fun _ _ _ h => h.1) (fun us hl => match us, hl with | [_], _ => rfl) ?_ (fun _ _ _ h => h.2)
  intro cdv A outer s H E hr
  have hu := hr.units
  delta t_is_index
  exact (ds_one (ds_ret (de_and (de_call F_is_number (hr.mono (by decide)) (by rfl) (He.glo_ok KX G (c.fact 3)) kp_is_number b_is_number (da_cons (de_var (pv 0)) da_nil)) (de_one (de_cmp (op_geD hu) o_cmp (de_var (pv 0)) de_int)))))
theorem ok_check_sign  : FnE Pg w K mg base 1 (He.ga K "check_sign") ["alphabet", "sign"] (sp_check_sign ⟨K, Pg, w⟩) := by
  obtain ⟨oc, od, osl, kV, doc, pm, an, cdv, ct, lk, hcd⟩ := c.def_ 2
  refine fnE_of (x := "check_sign") (qual := "check_sign") (st := Hd.s2) (f := (He.ga K "check_sign")) (N := N_check_sign) (t := t_check_sign ⟨K, Pg, w⟩) lk hcd (He.keep_ok (c.fact 72)) ⟨rfl, rfl, rfl, by decide +kernel, rfl, by decide +kernel, by decide +kernel⟩ (fun _ _ _ h => h.1) (fun us hl => match us, hl with | [_, _], _ => rfl) ?_ (fun _ _ _ h => h.2)
  intro cdv A outer s H E hr
  have hu := hr.units
  delta t_check_sign
  exact (ds_one (ds_if (PW.pt (dw_or (dt_not (dt_val (de_isi (T := "") isi_str_ok (by rfl) (He.free_ok KX G (c.fact 0)) (by rfl) (He.free_ok KX G (c.fact 4)) boot_str (de_var (pv 1)) (fun h => pe_callB call_isi (by rfl) (He.free_ok KX G (c.fact 0)) boot_isinstance h) (fun h k => pa_cons h (pa_cons k pa_nil))))) (dw_or1 (dt_cmp (op_nmemD hu) o_mem (de_var (pv 1)) (de_ix (de_var (pv 0)) de_int))))) (ds_one ds_never) ds_nil))
theorem ok_are_independent (h_check_sign : FnE Pg w K mg base 1 (He.ga K "check_sign") ["alphabet", "sign"] (sp_check_sign ⟨K, Pg, w⟩)) : FnE Pg w K mg base 2 (He.ga K "are_independent") ["alphabet", "a", "b"] (sp_are_independent ⟨K, Pg, w⟩) := by
  obtain ⟨fd_check_sign, F_check_sign, b_check_sign, kp_check_sign⟩ := h_check_sign
  obtain ⟨oc, od, osl, kV, doc, pm, an, cdv, ct, lk, hcd⟩ := c.def_ 3
  refine fnE_of (x := "are_independent") (qual := "are_independent") (st := Hd.s3) (f := (He.ga K "are_independent")) (N := N_are_independent) (t := t_are_independent ⟨K, Pg, w⟩) lk hcd (He.keep_ok (c.fact 73)) ⟨rfl, rfl, rfl, by decide +kernel, rfl, by decide +kernel, by decide +kernel⟩ (fun _ _ _ h => h.1) (fun us hl => match us, hl with | [_, _, _], _ => rfl) ?_ (fun _ _ _ h => h.2)
  intro cdv A outer s H E hr
  have hu := hr.units
  delta t_are_independent
  exact (ds_cons (ds_expr (de_call F_check_sign (hr.mono (by decide)) (by rfl) (He.glo_ok KX G (c.fact 7)) kp_check_sign b_check_sign (da_cons (de_var (pv 0)) (da_cons (de_var (pv 1)) da_nil)))) (ds_cons (ds_expr (de_call F_check_sign (hr.mono (by decide)) (by rfl) (He.glo_ok KX G (c.fact 7)) kp_check_sign b_check_sign (da_cons (de_var (pv 0)) (da_cons (de_var (pv 2)) da_nil)))) (ds_one (ds_ret (de_cmp (op_memD hu) o_mem (de_tup (da_cons (de_cb (pe_callB (call_min2A rfl) (by rfl) (He.free_ok KX G (c.fact 6)) boot_min (da_cons (de_var (pv 1)) (da_cons (de_var (pv 2)) da_nil))) c_min2) (da_cons (de_cb (pe_callB (call_max2A rfl) (by rfl) (He.free_ok KX G (c.fact 5)) boot_max (da_cons (de_var (pv 1)) (da_cons (de_var (pv 2)) da_nil))) c_max2) da_nil))) (de_ix (de_var (pv 0)) de_int))))))
theorem ok_dependent_couples  : FnE Pg w K mg base 1 (He.ga K "dependent_couples") ["alphabet"] (sp_dependent_couples ⟨K, Pg, w⟩) := by
  obtain ⟨oc, od, osl, kV, doc, pm, an, cdv, ct, lk, hcd⟩ := c.def_ 4
  refine fnE_of (x := "dependent_couples") (qual := "dependent_couples") (st := Hd.s4) (f := (He.ga K "dependent_couples")) (N := N_dependent_couples) (t := t_dependent_couples ⟨K, Pg, w⟩) lk hcd (He.keep_ok (c.fact 74)) ⟨rfl, rfl, rfl, by decide +kernel, rfl, by decide +kernel, by decide +kernel⟩ (fun _ _ _ h => h.1) (fun us hl => match us, hl with | [_], _ => rfl) ?_ (fun _ _ _ h => h.2)
  intro cdv A outer s H E hr
  have hu := hr.units
  delta t_dependent_couples
  exact (ds_cons (ds_set (ps_set (i := 1) nd_dependent_couples rfl (Or.inr rfl) (de_ix (de_var (pv 0)) de_int))) (ds_cons (ds_setLc2 (ps_setLc2 (i := 2) rfl nd_dependent_couples rfl rfl (sw_true rfl rfl rfl (by decide +kernel)) (di_enum (pi_enumA (by rfl) (He.free_ok KX G (c.fact 9)) (da_cons (de_var (pv 1)) da_nil))) (blkOk_by (own := [("at", 4), ("a", 5), ("b", 3)]) (by kernel_rfl)) (by decide) (fun _ _ _ _ _ => (dg_un rfl (dgs_cons (dg_name (pg_name (i := 4) nd_dependent_couples rfl (Or.inl rfl)) (by decide)) (dgs_cons (dg_name (pg_name (i := 5) nd_dependent_couples rfl (Or.inl rfl)) (by decide)) dgs_nil)))) (fun _ _ _ _ _ => dts_nil) (fun _ _ _ _ _ => (di_seq (de_sl (de_var (pv 1)) (do_some (de_op op_addA o_add (de_var (pv 4)) de_int)) do_no))) (fun _ _ _ _ _ => (dg_name (pg_name (i := 3) nd_dependent_couples rfl (Or.inl rfl)) (by decide))) (fun _ _ _ _ _ => dts_nil) (fun _ _ _ _ _ => (de_tup (da_cons (de_var (pv 5)) (da_cons (de_var (pv 3)) da_nil)))))) (ds_one (ds_ret (de_cb (pe_callTy call_tupleF (by rfl) (He.free_ok KX G (c.fact 8)) boot_tuple (da_cons (de_lc (pe_lc rfl nd_dependent_couples (di_seq (de_var (pv 2))) (blkOk_by (own := [("couple", 6)]) (by kernel_rfl)) (fun _ _ _ _ _ => (dg_name (pg_name (i := 6) nd_dependent_couples rfl (Or.inl rfl)) (by decide))) (fun _ _ _ _ _ => (dts_one (dt_cmp (op_nmemD hu) o_mem (de_var (pv 6)) (de_ix (de_var (pv 0)) de_int)))) (fun _ _ _ _ _ => (de_var (pv 6))))) da_nil)) c_tup)))))
theorem ok_cut  : FnE Pg w K mg base 1 (He.ga K "cut") ["row", "a", "b"] (sp_cut ⟨K, Pg, w⟩) := by
  obtain ⟨oc, od, osl, kV, doc, pm, an, cdv, ct, lk, hcd⟩ := c.def_ 5
  refine fnE_of (x := "cut") (qual := "cut") (st := Hd.s5) (f := (He.ga K "cut")) (N := N_cut) (t := t_cut ⟨K, Pg, w⟩) lk hcd (He.keep_ok (c.fact 75)) ⟨rfl, rfl, rfl, by decide +kernel, rfl, by decide +kernel, by decide +kernel⟩ (fun _ _ _ h => h.1) (fun us hl => match us, hl with | [_, _, _], _ => rfl) ?_ (fun _ _ _ h => h.2)
  intro cdv A outer s H E hr
  have hu := hr.units
  delta t_cut
  exact (ds_one (ds_ret (de_cb (pe_callTy call_tupleF (by rfl) (He.free_ok KX G (c.fact 8)) boot_tuple (da_cons (de_lc (pe_lc rfl nd_cut (di_seq (de_var (pv 0))) (blkOk_by (own := [("sign", 3)]) (by kernel_rfl)) (fun _ _ _ _ _ => (dg_name (pg_name (i := 3) nd_cut rfl (Or.inl rfl)) (by decide))) (fun _ _ _ _ _ => (dts_one (dt_cmp (op_memD hu) o_mem (de_var (pv 3)) (de_tup (da_cons (de_var (pv 1)) (da_cons (de_var (pv 2)) da_nil)))))) (fun _ _ _ _ _ => (de_var (pv 3))))) da_nil)) c_tup)))
theorem ok_Left___init__ (h_dependent_couples : FnE Pg w K mg base 1 (He.ga K "dependent_couples") ["alphabet"] (sp_dependent_couples ⟨K, Pg, w⟩)) : FnE Pg w K mg base 2 (He.ma K (He.ga K "Left") "__init__") ["self", "alphabet", "row"] (sp_Left___init__ ⟨K, Pg, w⟩) := by
  obtain ⟨fd_dependent_couples, F_dependent_couples, b_dependent_couples, kp_dependent_couples⟩ := h_dependent_couples
  obtain ⟨oc, od, osl, kV, doc, pm, an, cdv, ct, lk, hcd⟩ := c.def_ 6
  refine fnE_of (x := "__init__") (qual := "Left.__init__") (st := Hd.s6) (f := (He.ma K (He.ga K "Left") "__init__")) (N := N_Left___init__) (t := t_Left___init__ ⟨K, Pg, w⟩) lk hcd (He.meth_ok (c.fact 76)).kp ⟨rfl, rfl, rfl, by decide +kernel, rfl, by decide +kernel, by decide +kernel⟩ (fun _ _ _ h => h.1) (fun us hl => match us, hl with | [_, _, _], _ => rfl) ?_ (fun _ _ _ h => h.2)
  intro cdv A outer s H E hr
  have hu := hr.units
  delta t_Left___init__
  exact (ds_cons (ds_fld (de_var (pv 0)) (de_var (pv 2))) (ds_cons (ds_fld (de_var (pv 0)) (de_ix (de_var (pv 1)) de_int)) (ds_cons (ds_setDc (ps_setDc (i := 3) rfl nd_Left___init__ rfl rfl (sw_dict rfl rfl rfl (by decide +kernel)) (di_seq (de_fld (de_var (pv 0)))) (blkOk_by (own := [("sign", 6)]) (by kernel_rfl)) (fun _ _ _ _ _ => (dg_name (pg_name (i := 6) nd_Left___init__ rfl (Or.inl rfl)) (by decide))) (fun _ _ _ _ _ => dts_nil) (fun _ _ _ _ _ => (de_var (pv 6))) (fun _ _ _ _ _ => (de_lst (da_cons (de_var (pv 6)) da_nil))))) (ds_cons (ds_for (vs := [4, 5]) PassesOwn.never rfl (di_seq (de_call F_dependent_couples (hr.mono (by decide)) (by rfl) (He.glo_ok KX G (c.fact 10)) kp_dependent_couples b_dependent_couples (da_cons (de_var (pv 1)) da_nil))) (dg_un rfl (dgs_cons (dg_name (pg_name (i := 4) nd_Left___init__ rfl (Or.inl rfl)) (by decide)) (dgs_cons (dg_name (pg_name (i := 5) nd_Left___init__ rfl (Or.inl rfl)) (by decide)) dgs_nil))) (ds_cons (ds_expr (de_bm (pe_bm F.plainAttrs_list F.slot_list_append F.type_list_append mt_append (de_dget hu (de_var (pv 3)) (de_var (pv 4)) (fun _ _ => rfl)) (da_cons (de_var (pv 5)) da_nil)) tyd_lst m_app)) (ds_one (ds_expr (de_bm (pe_bm F.plainAttrs_list F.slot_list_append F.type_list_append mt_append (de_dget hu (de_var (pv 3)) (de_var (pv 5)) (fun _ _ => rfl)) (da_cons (de_var (pv 4)) da_nil)) tyd_lst m_app))))) (ds_cons (ds_fld (de_var (pv 0)) (de_var (pv 3))) (ds_cons (ds_fld (de_var (pv 0)) (de_dc (pe_dc rfl nd_Left___init__ (di_seq (de_fld (de_var (pv 0)))) (blkOk_by (own := [("sign", 6)]) (by kernel_rfl)) (fun _ _ _ _ _ => (dg_name (pg_name (i := 6) nd_Left___init__ rfl (Or.inr rfl)) (by decide))) (fun _ _ _ _ _ => dts_nil) (fun _ _ _ _ _ => (de_var (pv 6))) (fun _ _ _ _ _ => (de_lc (pe_lc rfl nd_Left___init__ (di_enum (pi_enumA (by rfl) (He.free_ok KX G (c.fact 9)) (da_cons (de_var (pv 2)) da_nil))) (blkOk_by (own := [("at", 7), ("one", 8)]) (by kernel_rfl)) (fun _ _ _ _ _ => (dg_un rfl (dgs_cons (dg_name (pg_name (i := 7) nd_Left___init__ rfl (Or.inl rfl)) (by decide)) (dgs_cons (dg_name (pg_name (i := 8) nd_Left___init__ rfl (Or.inl rfl)) (by decide)) dgs_nil)))) (fun _ _ _ _ _ => (dts_one (dt_cmp (op_eqP hu) o_eqp (de_var (pv 8)) (de_var (pv 6))))) (fun _ _ _ _ _ => (de_var (pv 7))))))))) (ds_one (ds_fld (de_var (pv 0)) (de_dc (pe_dc rfl nd_Left___init__ (di_seq (de_fld (de_var (pv 0)))) (blkOk_by (own := [("sign", 6)]) (by kernel_rfl)) (fun _ _ _ _ _ => (dg_name (pg_name (i := 6) nd_Left___init__ rfl (Or.inl rfl)) (by decide))) (fun _ _ _ _ _ => dts_nil) (fun _ _ _ _ _ => (de_var (pv 6))) (fun _ _ _ _ _ => de_int)))))))))))
theorem ok_Left_place  : FnE Pg w K mg base 1 (He.ma K (He.ga K "Left") "place") ["self", "sign"] (sp_Left_place ⟨K, Pg, w⟩) := by
  obtain ⟨oc, od, osl, kV, doc, pm, an, cdv, ct, lk, hcd⟩ := c.def_ 7
  refine fnE_of (x := "place") (qual := "Left.place") (st := Hd.s7) (f := (He.ma K (He.ga K "Left") "place")) (N := N_Left_place) (t := t_Left_place ⟨K, Pg, w⟩) lk hcd (He.meth_ok (c.fact 14)).kp ⟨rfl, rfl, rfl, by decide +kernel, rfl, by decide +kernel, by decide +kernel⟩ (fun _ _ _ h => h.1) (fun us hl => match us, hl with | [_, _], _ => rfl) ?_ (fun _ _ _ h => h.2)
  intro cdv A outer s H E hr
  have hu := hr.units
  delta t_Left_place
  exact (ds_cons (ds_set (ps_set (i := 2) nd_Left_place rfl (Or.inl rfl) (de_dget hu (de_fld (de_var (pv 0))) (de_var (pv 1)) (fun _ _ => rfl)))) (ds_one (ds_ret (de_ifExp (dt_cmp (op_ltD hu) o_cmp (de_var (pv 2)) (de_cb (pe_callB call_lenA (by rfl) (He.free_ok KX G (c.fact 11)) boot_len (da_cons (de_dget hu (de_fld (de_var (pv 0))) (de_var (pv 1)) (fun _ _ => rfl)) da_nil)) c_len)) (de_ix (de_dget hu (de_fld (de_var (pv 0))) (de_var (pv 1)) (fun _ _ => rfl)) (de_var (pv 2))) de_non))))
theorem ok_Left_can_be_first (h_Left_place : FnE Pg w K mg base 1 (He.ma K (He.ga K "Left") "place") ["self", "sign"] (sp_Left_place ⟨K, Pg, w⟩)) : FnE Pg w K mg base 2 (He.ma K (He.ga K "Left") "can_be_first") ["self", "sign"] (sp_Left_can_be_first ⟨K, Pg, w⟩) := by
  obtain ⟨fd_Left_place, F_Left_place, b_Left_place, kp_Left_place⟩ := h_Left_place
  obtain ⟨oc, od, osl, kV, doc, pm, an, cdv, ct, lk, hcd⟩ := c.def_ 8
  refine fnE_of (x := "can_be_first") (qual := "Left.can_be_first") (st := Hd.s8) (f := (He.ma K (He.ga K "Left") "can_be_first")) (N := N_Left_can_be_first) (t := t_Left_can_be_first ⟨K, Pg, w⟩) lk hcd (He.meth_ok (c.fact 15)).kp ⟨rfl, rfl, rfl, by decide +kernel, rfl, by decide +kernel, by decide +kernel⟩ (fun _ _ _ h => h.1) (fun us hl => match us, hl with | [_, _], _ => rfl) ?_ (fun _ _ _ h => h.2)
  intro cdv A outer s H E hr
  have hu := hr.units
  delta t_Left_can_be_first
  exact (ds_cons (ds_set (ps_set (i := 2) nd_Left_can_be_first rfl (Or.inr rfl) (de_meth (pe_meth (de_var (pv 0)) (He.cls_ok (c.fact 13)) (He.meth_ok (c.fact 14)) F_Left_place (hr.mono (by decide)) b_Left_place .nil pass0 (da_cons (de_var (pv 1)) da_nil))))) (ds_cons (ds_if (dt_cmp op_isN o_isN (de_var (pv 2)) de_non) (ds_one (ds_ret de_bl)) ds_nil) (ds_cons (ds_setLc (ps_setLc (i := 3) rfl nd_Left_can_be_first rfl rfl (sw_true rfl rfl rfl (by decide +kernel)) (di_seq (de_dget hu (de_fld (de_var (pv 0))) (de_var (pv 1)) (fun _ _ => rfl))) (blkOk_by (own := [("other", 4)]) (by kernel_rfl)) (fun _ _ _ _ _ => (dg_name (pg_name (i := 4) nd_Left_can_be_first rfl (Or.inl rfl)) (by decide))) (fun _ _ _ _ _ => (dts_one (dt_cmp (op_neP hu) o_eqp (de_var (pv 4)) (de_var (pv 1))))) (fun _ _ _ _ _ => (de_meth (pe_meth (de_var (pv 0)) (He.cls_ok (c.fact 13)) (He.meth_ok (c.fact 14)) F_Left_place (hr.mono (by decide)) b_Left_place .nil pass0 (da_cons (de_var (pv 4)) da_nil)))))) (ds_one (ds_ret (de_cb (pe_callB (cr_all rfl) (by rfl) (He.free_ok KX G (c.fact 12)) boot_all (da_cons (de_lc (pe_lc rfl nd_Left_can_be_first (di_seq (de_var (pv 3))) (blkOk_by (own := [("there", 5)]) (by kernel_rfl)) (fun _ _ _ _ _ => (dg_name (pg_name (i := 5) nd_Left_can_be_first rfl (Or.inl rfl)) (by decide))) (fun _ _ _ _ _ => dts_nil) (fun _ _ _ _ _ => (de_or (de_cmp op_isN o_isN (de_var (pv 5)) de_non) (de_one (de_cmp (op_gtD hu) o_cmp (de_var (pv 5)) (de_var (pv 2)))))))) da_nil)) c_all))))))
theorem ok_Left_firsts (h_Left_can_be_first : FnE Pg w K mg base 2 (He.ma K (He.ga K "Left") "can_be_first") ["self", "sign"] (sp_Left_can_be_first ⟨K, Pg, w⟩)) : FnE Pg w K mg base 3 (He.ma K (He.ga K "Left") "firsts") ["self"] (sp_Left_firsts ⟨K, Pg, w⟩) := by
  obtain ⟨fd_Left_can_be_first, F_Left_can_be_first, b_Left_can_be_first, kp_Left_can_be_first⟩ := h_Left_can_be_first
  obtain ⟨oc, od, osl, kV, doc, pm, an, cdv, ct, lk, hcd⟩ := c.def_ 9
  refine fnE_of (x := "firsts") (qual := "Left.firsts") (st := Hd.s9) (f := (He.ma K (He.ga K "Left") "firsts")) (N := N_Left_firsts) (t := t_Left_firsts ⟨K, Pg, w⟩) lk hcd (He.meth_ok (c.fact 18)).kp ⟨rfl, rfl, rfl, by decide +kernel, rfl, by decide +kernel, by decide +kernel⟩ (fun _ _ _ h => h.1) (fun us hl => match us, hl with | [_], _ => rfl) ?_ (fun _ _ _ h => h.2)
  intro cdv A outer s H E hr
  have hu := hr.units
  delta t_Left_firsts
  exact (ds_one (ds_ret (de_lc (pe_lc rfl nd_Left_firsts (di_seq (de_fld (de_var (pv 0)))) (blkOk_by (own := [("sign", 1)]) (by kernel_rfl)) (fun _ _ _ _ _ => (dg_name (pg_name (i := 1) nd_Left_firsts rfl (Or.inl rfl)) (by decide))) (fun _ _ _ _ _ => (dts_one (dt_val (de_meth (pe_meth (de_var (pv 0)) (He.cls_ok (c.fact 13)) (He.meth_ok (c.fact 15)) F_Left_can_be_first (hr.mono (by decide)) b_Left_can_be_first .nil pass0 (da_cons (de_var (pv 1)) da_nil)))))) (fun _ _ _ _ _ => (de_var (pv 1)))))))
theorem ok_Left_take  : FnE Pg w K mg base 1 (He.ma K (He.ga K "Left") "take") ["self", "sign"] (sp_Left_take ⟨K, Pg, w⟩) := by
  obtain ⟨oc, od, osl, kV, doc, pm, an, cdv, ct, lk, hcd⟩ := c.def_ 10
  refine fnE_of (x := "take") (qual := "Left.take") (st := Hd.s10) (f := (He.ma K (He.ga K "Left") "take")) (N := N_Left_take) (t := t_Left_take ⟨K, Pg, w⟩) lk hcd (He.meth_ok (c.fact 17)).kp ⟨rfl, rfl, rfl, by decide +kernel, rfl, by decide +kernel, by decide +kernel⟩ (fun _ _ _ h => h.1) (fun us hl => match us, hl with | [_, _], _ => rfl) ?_ (fun _ _ _ h => h.2)
  intro cdv A outer s H E hr
  have hu := hr.units
  delta t_Left_take
  exact (ds_one (ds_daug o_int0 hu (de_fld (de_var (pv 0))) (de_var (pv 1)) de_int (in_of iop_add)))
theorem ok_Left_left  : FnE Pg w K mg base 1 (He.ma K (He.ga K "Left") "left") ["self"] (sp_Left_left ⟨K, Pg, w⟩) := by
  obtain ⟨oc, od, osl, kV, doc, pm, an, cdv, ct, lk, hcd⟩ := c.def_ 11
  refine fnE_of (x := "left") (qual := "Left.left") (st := Hd.s11) (f := (He.ma K (He.ga K "Left") "left")) (N := N_Left_left) (t := t_Left_left ⟨K, Pg, w⟩) lk hcd (He.meth_ok (c.fact 21)).kp ⟨rfl, rfl, rfl, by decide +kernel, rfl, by decide +kernel, by decide +kernel⟩ (fun _ _ _ h => h.1) (fun us hl => match us, hl with | [_], _ => rfl) ?_ (fun _ _ _ h => h.2)
  intro cdv A outer s H E hr
  have hu := hr.units
  delta t_Left_left
  exact (ds_cons (ds_set (ps_set (i := 1) nd_Left_left rfl (Or.inr rfl) (de_dc2 (pe_dc2 rfl nd_Left_left (di_seq (de_fld (de_var (pv 0)))) (blkOk_by (own := [("sign", 2), ("at", 3)]) (by kernel_rfl)) (by decide) (fun _ _ _ _ _ => (dg_name (pg_name (i := 2) nd_Left_left rfl (Or.inl rfl)) (by decide))) (fun _ _ _ _ _ => dts_nil) (fun _ _ _ _ _ => (di_seq (de_sl (de_dget hu (de_fld (de_var (pv 0))) (de_var (pv 2)) (fun _ _ => rfl)) do_no (do_some (de_dget hu (de_fld (de_var (pv 0))) (de_var (pv 2)) (fun _ _ => rfl)))))) (fun _ _ _ _ _ => (dg_name (pg_name (i := 3) nd_Left_left rfl (Or.inl rfl)) (by decide))) (fun _ _ _ _ _ => dts_nil) (fun _ _ _ _ _ => (de_var (pv 3))) (fun _ _ _ _ _ => de_bl))))) (ds_one (ds_ret (de_cb (pe_callTy call_tupleF (by rfl) (He.free_ok KX G (c.fact 8)) boot_tuple (da_cons (de_lc (pe_lc rfl nd_Left_left (di_enum (pi_enumA (by rfl) (He.free_ok KX G (c.fact 9)) (da_cons (de_fld (de_var (pv 0))) da_nil))) (blkOk_by (own := [("at", 3), ("sign", 2)]) (by kernel_rfl)) (fun _ _ _ _ _ => (dg_un rfl (dgs_cons (dg_name (pg_name (i := 3) nd_Left_left rfl (Or.inl rfl)) (by decide)) (dgs_cons (dg_name (pg_name (i := 2) nd_Left_left rfl (Or.inl rfl)) (by decide)) dgs_nil)))) (fun _ _ _ _ _ => (dts_one (dt_dnin hu (de_var (pv 3)) (de_var (pv 1))))) (fun _ _ _ _ _ => (de_var (pv 2))))) da_nil)) c_tup))))
theorem ok_normal (h_Left___init__ : FnE Pg w K mg base 2 (He.ma K (He.ga K "Left") "__init__") ["self", "alphabet", "row"] (sp_Left___init__ ⟨K, Pg, w⟩)) (h_Left_firsts : FnE Pg w K mg base 3 (He.ma K (He.ga K "Left") "firsts") ["self"] (sp_Left_firsts ⟨K, Pg, w⟩)) (h_Left_take : FnE Pg w K mg base 1 (He.ma K (He.ga K "Left") "take") ["self", "sign"] (sp_Left_take ⟨K, Pg, w⟩)) : FnE Pg w K mg base 4 (He.ga K "normal") ["alphabet", "row"] (sp_normal ⟨K, Pg, w⟩) := by
  obtain ⟨fd_Left___init__, F_Left___init__, b_Left___init__, kp_Left___init__⟩ := h_Left___init__
  obtain ⟨fd_Left_firsts, F_Left_firsts, b_Left_firsts, kp_Left_firsts⟩ := h_Left_firsts
  obtain ⟨fd_Left_take, F_Left_take, b_Left_take, kp_Left_take⟩ := h_Left_take
  obtain ⟨oc, od, osl, kV, doc, pm, an, cdv, ct, lk, hcd⟩ := c.def_ 12
  refine fnE_of (x := "normal") (qual := "normal") (st := Hd.s12) (f := (He.ga K "normal")) (N := N_normal) (t := t_normal ⟨K, Pg, w⟩) lk hcd (He.keep_ok (c.fact 77)) ⟨rfl, rfl, rfl, by decide +kernel, rfl, by decide +kernel, by decide +kernel⟩ (fun _ _ _ h => h.1) (fun us hl => match us, hl with | [_, _], _ => rfl) ?_ (fun _ _ _ h => h.2)
  intro cdv A outer s H E hr
  have hu := hr.units
  delta t_normal
  exact (ds_cons (ds_par (ps_par (i := 3) (j := 4) rfl nd_normal rfl rfl (by decide) rfl rfl (da_cons (de_make (pe_make (He.mkr_ok (c.fact 19)) F_Left___init__ (hr.mono (by decide)) (by rfl) (He.glo_ok KX G (c.fact 20)) b_Left___init__ .nil pass0 (da_cons (de_var (pv 0)) (da_cons (de_var (pv 1)) da_nil)))) (da_cons (de_lst da_nil) da_nil)) (by first | rfl | decide +kernel))) (ds_cons (ds_for (vs := [2]) PassesOwn.never rfl (di_rng1 (pi_range1 (by rfl) (He.free_ok KX G (c.fact 16)) (da_cons (de_cb (pe_callB call_lenA (by rfl) (He.free_ok KX G (c.fact 11)) boot_len (da_cons (de_var (pv 1)) da_nil)) c_len) da_nil))) (dg_name (pg_name (i := 2) nd_normal rfl (Or.inl rfl)) (by decide)) (ds_cons (ds_set (ps_set (i := 5) nd_normal rfl (Or.inl rfl) (de_ix (de_meth0 (pe_meth0 (de_var (pv 3)) (He.cls_ok (c.fact 13)) (He.meth_ok (c.fact 18)) F_Left_firsts (hr.mono (by decide)) b_Left_firsts .nil pass0)) de_int))) (ds_cons (ds_expr (de_meth (pe_meth (de_var (pv 3)) (He.cls_ok (c.fact 13)) (He.meth_ok (c.fact 17)) F_Left_take (hr.mono (by decide)) b_Left_take .nil pass0 (da_cons (de_var (pv 5)) da_nil)))) (ds_one (ds_expr (de_bm (pe_bm F.plainAttrs_list F.slot_list_append F.type_list_append mt_append (de_var (pv 4)) (da_cons (de_var (pv 5)) da_nil)) tyd_lst m_app)))))) (ds_one (ds_ret (de_cb (pe_callTy call_tupleF (by rfl) (He.free_ok KX G (c.fact 8)) boot_tuple (da_cons (de_var (pv 4)) da_nil)) c_tup)))))
theorem ok_left_of (h_Left___init__ : FnE Pg w K mg base 2 (He.ma K (He.ga K "Left") "__init__") ["self", "alphabet", "row"] (sp_Left___init__ ⟨K, Pg, w⟩)) (h_Left_can_be_first : FnE Pg w K mg base 2 (He.ma K (He.ga K "Left") "can_be_first") ["self", "sign"] (sp_Left_can_be_first ⟨K, Pg, w⟩)) (h_Left_left : FnE Pg w K mg base 1 (He.ma K (He.ga K "Left") "left") ["self"] (sp_Left_left ⟨K, Pg, w⟩)) (h_Left_take : FnE Pg w K mg base 1 (He.ma K (He.ga K "Left") "take") ["self", "sign"] (sp_Left_take ⟨K, Pg, w⟩)) (h_normal : FnE Pg w K mg base 4 (He.ga K "normal") ["alphabet", "row"] (sp_normal ⟨K, Pg, w⟩)) : FnE Pg w K mg base 5 (He.ga K "left_of") ["alphabet", "g", "x"] (sp_left_of ⟨K, Pg, w⟩) := by
  obtain ⟨fd_Left___init__, F_Left___init__, b_Left___init__, kp_Left___init__⟩ := h_Left___init__
  obtain ⟨fd_Left_can_be_first, F_Left_can_be_first, b_Left_can_be_first, kp_Left_can_be_first⟩ := h_Left_can_be_first
  obtain ⟨fd_Left_left, F_Left_left, b_Left_left, kp_Left_left⟩ := h_Left_left
  obtain ⟨fd_Left_take, F_Left_take, b_Left_take, kp_Left_take⟩ := h_Left_take
  obtain ⟨fd_normal, F_normal, b_normal, kp_normal⟩ := h_normal
  obtain ⟨oc, od, osl, kV, doc, pm, an, cdv, ct, lk, hcd⟩ := c.def_ 13
  refine fnE_of (x := "left_of") (qual := "left_of") (st := Hd.s13) (f := (He.ga K "left_of")) (N := N_left_of) (t := t_left_of ⟨K, Pg, w⟩) lk hcd (He.keep_ok (c.fact 78)) ⟨rfl, rfl, rfl, by decide +kernel, rfl, by decide +kernel, by decide +kernel⟩ (fun _ _ _ h => h.1) (fun us hl => match us, hl with | [_, _, _], _ => rfl) ?_ (fun _ _ _ h => h.2)
  intro cdv A outer s H E hr
  have hu := hr.units
  delta t_left_of
  exact (ds_cons (ds_set (ps_set (i := 3) nd_left_of rfl (Or.inl rfl) (de_make (pe_make (He.mkr_ok (c.fact 19)) F_Left___init__ (hr.mono (by decide)) (by rfl) (He.glo_ok KX G (c.fact 20)) b_Left___init__ .nil pass0 (da_cons (de_var (pv 0)) (da_cons (de_var (pv 2)) da_nil)))))) (ds_cons (ds_for (vs := [4]) PassesOwn.never rfl (di_seq (de_var (pv 1))) (dg_name (pg_name (i := 4) nd_left_of rfl (Or.inl rfl)) (by decide)) (ds_cons (ds_if (dt_not (dt_val (de_meth (pe_meth (de_var (pv 3)) (He.cls_ok (c.fact 13)) (He.meth_ok (c.fact 15)) F_Left_can_be_first (hr.mono (by decide)) b_Left_can_be_first .nil pass0 (da_cons (de_var (pv 4)) da_nil))))) (ds_one (ds_ret de_non)) ds_nil) (ds_one (ds_expr (de_meth (pe_meth (de_var (pv 3)) (He.cls_ok (c.fact 13)) (He.meth_ok (c.fact 17)) F_Left_take (hr.mono (by decide)) b_Left_take .nil pass0 (da_cons (de_var (pv 4)) da_nil))))))) (ds_one (ds_ret (de_call F_normal (hr.mono (by decide)) (by rfl) (He.glo_ok KX G (c.fact 22)) kp_normal b_normal (da_cons (de_var (pv 0)) (da_cons (de_meth0 (pe_meth0 (de_var (pv 3)) (He.cls_ok (c.fact 13)) (He.meth_ok (c.fact 21)) F_Left_left (hr.mono (by decide)) b_Left_left .nil pass0)) da_nil)))))))
theorem ok_common (h_Left___init__ : FnE Pg w K mg base 2 (He.ma K (He.ga K "Left") "__init__") ["self", "alphabet", "row"] (sp_Left___init__ ⟨K, Pg, w⟩)) (h_Left_can_be_first : FnE Pg w K mg base 2 (He.ma K (He.ga K "Left") "can_be_first") ["self", "sign"] (sp_Left_can_be_first ⟨K, Pg, w⟩)) (h_Left_firsts : FnE Pg w K mg base 3 (He.ma K (He.ga K "Left") "firsts") ["self"] (sp_Left_firsts ⟨K, Pg, w⟩)) (h_Left_take : FnE Pg w K mg base 1 (He.ma K (He.ga K "Left") "take") ["self", "sign"] (sp_Left_take ⟨K, Pg, w⟩)) (h_normal : FnE Pg w K mg base 4 (He.ga K "normal") ["alphabet", "row"] (sp_normal ⟨K, Pg, w⟩)) : FnE Pg w K mg base 5 (He.ga K "common") ["alphabet", "x", "y"] (sp_common ⟨K, Pg, w⟩) := by
  obtain ⟨fd_Left___init__, F_Left___init__, b_Left___init__, kp_Left___init__⟩ := h_Left___init__
  obtain ⟨fd_Left_can_be_first, F_Left_can_be_first, b_Left_can_be_first, kp_Left_can_be_first⟩ := h_Left_can_be_first
  obtain ⟨fd_Left_firsts, F_Left_firsts, b_Left_firsts, kp_Left_firsts⟩ := h_Left_firsts
  obtain ⟨fd_Left_take, F_Left_take, b_Left_take, kp_Left_take⟩ := h_Left_take
  obtain ⟨fd_normal, F_normal, b_normal, kp_normal⟩ := h_normal
  obtain ⟨oc, od, osl, kV, doc, pm, an, cdv, ct, lk, hcd⟩ := c.def_ 14
  refine fnE_of (x := "common") (qual := "common") (st := Hd.s14) (f := (He.ga K "common")) (N := N_common) (t := t_common ⟨K, Pg, w⟩) lk hcd (He.keep_ok (c.fact 79)) ⟨rfl, rfl, rfl, by decide +kernel, rfl, by decide +kernel, by decide +kernel⟩ (fun _ _ _ h => h.1) (fun us hl => match us, hl with | [_, _, _], _ => rfl) ?_ (fun _ _ _ h => h.2)
  intro cdv A outer s H E hr
  have hu := hr.units
  delta t_common
  exact (ds_cons (ds_asg (vs := [3, 4, 5]) (de_tup (da_cons (de_make (pe_make (He.mkr_ok (c.fact 19)) F_Left___init__ (hr.mono (by decide)) (by rfl) (He.glo_ok KX G (c.fact 20)) b_Left___init__ .nil pass0 (da_cons (de_var (pv 0)) (da_cons (de_var (pv 1)) da_nil)))) (da_cons (de_make (pe_make (He.mkr_ok (c.fact 19)) F_Left___init__ (hr.mono (by decide)) (by rfl) (He.glo_ok KX G (c.fact 20)) b_Left___init__ .nil pass0 (da_cons (de_var (pv 0)) (da_cons (de_var (pv 2)) da_nil)))) (da_cons (de_lst da_nil) da_nil)))) (dg_un rfl (dgs_cons (dg_name (pg_name (i := 3) nd_common rfl (Or.inl rfl)) (by decide)) (dgs_cons (dg_name (pg_name (i := 4) nd_common rfl (Or.inr rfl)) (by decide)) (dgs_cons (dg_name (pg_name (i := 5) nd_common rfl (Or.inl rfl)) (by decide)) dgs_nil))))) (ds_one (ds_while PassesOwn.never (dt_val de_bl) (ds_cons (ds_setLc (ps_setLc (i := 6) rfl nd_common rfl rfl (sw_true rfl rfl rfl (by decide +kernel)) (di_seq (de_meth0 (pe_meth0 (de_var (pv 3)) (He.cls_ok (c.fact 13)) (He.meth_ok (c.fact 18)) F_Left_firsts (hr.mono (by decide)) b_Left_firsts .nil pass0))) (blkOk_by (own := [("sign", 7)]) (by kernel_rfl)) (fun _ _ _ _ _ => (dg_name (pg_name (i := 7) nd_common rfl (Or.inl rfl)) (by decide))) (fun _ _ _ _ _ => (dts_one (dt_val (de_meth (pe_meth (de_var (pv 4)) (He.cls_ok (c.fact 13)) (He.meth_ok (c.fact 15)) F_Left_can_be_first (hr.mono (by decide)) b_Left_can_be_first .nil pass0 (da_cons (de_var (pv 7)) da_nil)))))) (fun _ _ _ _ _ => (de_var (pv 7))))) (ds_cons (ds_if (dt_cmp (op_eqP hu) o_eqp (de_var (pv 6)) (de_lst da_nil)) (ds_one (ds_ret (de_call F_normal (hr.mono (by decide)) (by rfl) (He.glo_ok KX G (c.fact 22)) kp_normal b_normal (da_cons (de_var (pv 0)) (da_cons (de_cb (pe_callTy call_tupleF (by rfl) (He.free_ok KX G (c.fact 8)) boot_tuple (da_cons (de_var (pv 5)) da_nil)) c_tup) da_nil))))) ds_nil) (ds_cons (ds_expr (de_meth (pe_meth (de_var (pv 3)) (He.cls_ok (c.fact 13)) (He.meth_ok (c.fact 17)) F_Left_take (hr.mono (by decide)) b_Left_take .nil pass0 (da_cons (de_ix (de_var (pv 6)) de_int) da_nil)))) (ds_cons (ds_expr (de_meth (pe_meth (de_var (pv 4)) (He.cls_ok (c.fact 13)) (He.meth_ok (c.fact 17)) F_Left_take (hr.mono (by decide)) b_Left_take .nil pass0 (da_cons (de_ix (de_var (pv 6)) de_int) da_nil)))) (ds_one (ds_expr (de_bm (pe_bm F.plainAttrs_list F.slot_list_append F.type_list_append mt_append (de_var (pv 5)) (da_cons (de_ix (de_var (pv 6)) de_int) da_nil)) tyd_lst m_app))))))))))
theorem ok_lag (h_common : FnE Pg w K mg base 5 (He.ga K "common") ["alphabet", "x", "y"] (sp_common ⟨K, Pg, w⟩)) (h_left_of : FnE Pg w K mg base 5 (He.ga K "left_of") ["alphabet", "g", "x"] (sp_left_of ⟨K, Pg, w⟩)) : FnE Pg w K mg base 6 (He.ga K "lag") ["alphabet", "one", "other"] (sp_lag ⟨K, Pg, w⟩) := by
  obtain ⟨fd_common, F_common, b_common, kp_common⟩ := h_common
  obtain ⟨fd_left_of, F_left_of, b_left_of, kp_left_of⟩ := h_left_of
  obtain ⟨oc, od, osl, kV, doc, pm, an, cdv, ct, lk, hcd⟩ := c.def_ 15
  refine fnE_of (x := "lag") (qual := "lag") (st := Hd.s15) (f := (He.ga K "lag")) (N := N_lag) (t := t_lag ⟨K, Pg, w⟩) lk hcd (He.keep_ok (c.fact 80)) ⟨rfl, rfl, rfl, by decide +kernel, rfl, by decide +kernel, by decide +kernel⟩ (fun _ _ _ h => h.1) (fun us hl => match us, hl with | [_, _, _], _ => rfl) ?_ (fun _ _ _ h => h.2)
  intro cdv A outer s H E hr
  have hu := hr.units
  delta t_lag
  exact (ds_cons (ds_set (ps_set (i := 3) nd_lag rfl (Or.inl rfl) (de_call F_common (hr.mono (by decide)) (by rfl) (He.glo_ok KX G (c.fact 24)) kp_common b_common (da_cons (de_var (pv 0)) (da_cons (de_var (pv 1)) (da_cons (de_var (pv 2)) da_nil)))))) (ds_one (ds_ret (de_tup (da_cons (de_call F_left_of (hr.mono (by decide)) (by rfl) (He.glo_ok KX G (c.fact 23)) kp_left_of b_left_of (da_cons (de_var (pv 0)) (da_cons (de_var (pv 3)) (da_cons (de_var (pv 1)) da_nil)))) (da_cons (de_call F_left_of (hr.mono (by decide)) (by rfl) (He.glo_ok KX G (c.fact 23)) kp_left_of b_left_of (da_cons (de_var (pv 0)) (da_cons (de_var (pv 3)) (da_cons (de_var (pv 2)) da_nil)))) da_nil))))))
theorem ok_behind (h_lag : FnE Pg w K mg base 6 (He.ga K "lag") ["alphabet", "one", "other"] (sp_lag ⟨K, Pg, w⟩)) : FnE Pg w K mg base 7 (He.ga K "behind") ["alphabet", "told", "one", "other"] (sp_behind ⟨K, Pg, w⟩) := by
  obtain ⟨fd_lag, F_lag, b_lag, kp_lag⟩ := h_lag
  obtain ⟨oc, od, osl, kV, doc, pm, an, cdv, ct, lk, hcd⟩ := c.def_ 16
  refine fnE_of (x := "behind") (qual := "behind") (st := Hd.s16) (f := (He.ga K "behind")) (N := N_behind) (t := t_behind ⟨K, Pg, w⟩) lk hcd (He.keep_ok (c.fact 81)) ⟨rfl, rfl, rfl, by decide +kernel, rfl, by decide +kernel, by decide +kernel⟩ (fun _ _ _ h => h.1) (fun us hl => match us, hl with | [_, _, _, _], _ => rfl) ?_ (fun _ _ _ h => h.2)
  intro cdv A outer s H E hr
  have hu := hr.units
  delta t_behind
  exact (ds_one (ds_ret (de_call F_lag (hr.mono (by decide)) (by rfl) (He.glo_ok KX G (c.fact 25)) kp_lag b_lag (da_cons (de_var (pv 0)) (da_cons (de_op op_addA o_add (de_ix (de_var (pv 1)) de_int) (de_var (pv 2))) (da_cons (de_op op_addA o_add (de_ix (de_var (pv 1)) de_int) (de_var (pv 3))) da_nil))))))
theorem ok_Monitor___init__ (h_Left___init__ : FnE Pg w K mg base 2 (He.ma K (He.ga K "Left") "__init__") ["self", "alphabet", "row"] (sp_Left___init__ ⟨K, Pg, w⟩)) : FnE Pg w K mg base 4 (He.ma K (He.ga K "Monitor") "__init__") ["self", "alphabet", "due"] (sp_Monitor___init__ ⟨K, Pg, w⟩) := by
  obtain ⟨fd_Left___init__, F_Left___init__, b_Left___init__, kp_Left___init__⟩ := h_Left___init__
  obtain ⟨oc, od, osl, kV, doc, pm, an, cdv, ct, lk, hcd⟩ := c.def_ 17
  refine fnE_of (x := "__init__") (qual := "Monitor.__init__") (st := Hd.s17) (f := (He.ma K (He.ga K "Monitor") "__init__")) (N := N_Monitor___init__) (t := t_Monitor___init__ ⟨K, Pg, w⟩) lk hcd (He.meth_ok (c.fact 82)).kp ⟨rfl, rfl, rfl, by decide +kernel, rfl, by decide +kernel, by decide +kernel⟩ (fun _ _ _ h => h.1) (fun us hl => match us, hl with | [_, _, _], _ => rfl) ?_ (fun _ _ _ h => h.2)
  intro cdv A outer s H E hr
  have hu := hr.units
  delta t_Monitor___init__
  exact (ds_cons (ds_fld (de_var (pv 0)) (de_var (pv 1))) (ds_cons (ds_fld (de_var (pv 0)) (de_var (pv 2))) (ds_cons (ds_fld (de_var (pv 0)) (de_make (pe_make (He.mkr_ok (c.fact 19)) F_Left___init__ (hr.mono (by decide)) (by rfl) (He.glo_ok KX G (c.fact 20)) b_Left___init__ .nil pass0 (da_cons (de_var (pv 1)) (da_cons (de_var (pv 2)) da_nil))))) (ds_cons (ds_fld (de_var (pv 0)) (de_lst da_nil)) (ds_one (ds_fld (de_var (pv 0)) de_non))))))
theorem ok_Monitor_told (h_Left_place : FnE Pg w K mg base 1 (He.ma K (He.ga K "Left") "place") ["self", "sign"] (sp_Left_place ⟨K, Pg, w⟩)) (h_cut : FnE Pg w K mg base 1 (He.ga K "cut") ["row", "a", "b"] (sp_cut ⟨K, Pg, w⟩)) (h_dependent_couples : FnE Pg w K mg base 1 (He.ga K "dependent_couples") ["alphabet"] (sp_dependent_couples ⟨K, Pg, w⟩)) : FnE Pg w K mg base 2 (He.ma K (He.ga K "Monitor") "told") ["self", "sign"] (sp_Monitor_told ⟨K, Pg, w⟩) := by
  obtain ⟨fd_Left_place, F_Left_place, b_Left_place, kp_Left_place⟩ := h_Left_place
  obtain ⟨fd_cut, F_cut, b_cut, kp_cut⟩ := h_cut
  obtain ⟨fd_dependent_couples, F_dependent_couples, b_dependent_couples, kp_dependent_couples⟩ := h_dependent_couples
  obtain ⟨oc, od, osl, kV, doc, pm, an, cdv, ct, lk, hcd⟩ := c.def_ 19
  refine fnE_of (x := "told") (qual := "Monitor.told") (st := Hd.s19) (f := (He.ma K (He.ga K "Monitor") "told")) (N := N_Monitor_told) (t := t_Monitor_told ⟨K, Pg, w⟩) lk hcd (He.meth_ok (c.fact 27)).kp ⟨rfl, rfl, rfl, by decide +kernel, rfl, by decide +kernel, by decide +kernel⟩ (fun _ _ _ h => h.1) (fun us hl => match us, hl with | [_, _], _ => rfl) ?_ (fun _ _ _ h => h.2)
  intro cdv A outer s H E hr
  have hu := hr.units
  delta t_Monitor_told
  exact (ds_cons (ds_if (dt_cmp op_isN o_isN (de_meth (pe_meth (de_fld (de_var (pv 0))) (He.cls_ok (c.fact 13)) (He.meth_ok (c.fact 14)) F_Left_place (hr.mono (by decide)) b_Left_place .nil pass0 (da_cons (de_var (pv 1)) da_nil))) de_non) (ds_one (ds_ret (de_tup (da_cons de_str (da_cons (de_var (pv 1)) da_nil))))) ds_nil) (ds_cons (ds_set (ps_set (i := 2) nd_Monitor_told rfl (Or.inl rfl) (de_op op_addA o_add (de_cb (pe_callTy call_tupleF (by rfl) (He.free_ok KX G (c.fact 8)) boot_tuple (da_cons (de_fld (de_var (pv 0))) da_nil)) c_tup) (de_tup (da_cons (de_var (pv 1)) da_nil))))) (ds_cons (ds_for (vs := [3, 4]) PassesOwn.never rfl (di_seq (de_call F_dependent_couples (hr.mono (by decide)) (by rfl) (He.glo_ok KX G (c.fact 10)) kp_dependent_couples b_dependent_couples (da_cons (de_fld (de_var (pv 0))) da_nil))) (dg_un rfl (dgs_cons (dg_name (pg_name (i := 3) nd_Monitor_told rfl (Or.inl rfl)) (by decide)) (dgs_cons (dg_name (pg_name (i := 4) nd_Monitor_told rfl (Or.inl rfl)) (by decide)) dgs_nil))) (ds_cons (ds_par (ps_par (i := 5) (j := 6) rfl nd_Monitor_told rfl rfl (by decide) rfl rfl (da_cons (de_call F_cut (hr.mono (by decide)) (by rfl) (He.glo_ok KX G (c.fact 28)) kp_cut b_cut (da_cons (de_var (pv 2)) (da_cons (de_var (pv 3)) (da_cons (de_var (pv 4)) da_nil)))) (da_cons (de_call F_cut (hr.mono (by decide)) (by rfl) (He.glo_ok KX G (c.fact 28)) kp_cut b_cut (da_cons (de_fld (de_var (pv 0))) (da_cons (de_var (pv 3)) (da_cons (de_var (pv 4)) da_nil)))) da_nil)) (by first | rfl | decide +kernel))) (ds_one (ds_if (PW.pt (dw_and (dt_cmp (op_memD hu) o_mem (de_var (pv 1)) (de_tup (da_cons (de_var (pv 3)) (da_cons (de_var (pv 4)) da_nil)))) (dw_and1 (dt_cmp (op_neP hu) o_eqp (de_var (pv 5)) (de_sl (de_var (pv 6)) do_no (do_some (de_cb (pe_callB call_lenA (by rfl) (He.free_ok KX G (c.fact 11)) boot_len (da_cons (de_var (pv 5)) da_nil)) c_len))))))) (ds_one (ds_ret (de_tup (da_cons de_str (da_cons (de_var (pv 3)) (da_cons (de_var (pv 4)) (da_cons (de_op op_sub o_int0 (de_cb (pe_callB call_lenA (by rfl) (He.free_ok KX G (c.fact 11)) boot_len (da_cons (de_var (pv 5)) da_nil)) c_len) de_int) da_nil))))))) ds_nil)))) (ds_one (ds_ret de_non)))))
theorem ok_Monitor_put (h_Left_can_be_first : FnE Pg w K mg base 2 (He.ma K (He.ga K "Left") "can_be_first") ["self", "sign"] (sp_Left_can_be_first ⟨K, Pg, w⟩)) (h_Left_take : FnE Pg w K mg base 1 (He.ma K (He.ga K "Left") "take") ["self", "sign"] (sp_Left_take ⟨K, Pg, w⟩)) (h_Monitor_told : FnE Pg w K mg base 2 (He.ma K (He.ga K "Monitor") "told") ["self", "sign"] (sp_Monitor_told ⟨K, Pg, w⟩)) (h_check_sign : FnE Pg w K mg base 1 (He.ga K "check_sign") ["alphabet", "sign"] (sp_check_sign ⟨K, Pg, w⟩)) : FnE Pg w K mg base 3 (He.ma K (He.ga K "Monitor") "put") ["self", "sign"] (sp_Monitor_put ⟨K, Pg, w⟩) := by
  obtain ⟨fd_Left_can_be_first, F_Left_can_be_first, b_Left_can_be_first, kp_Left_can_be_first⟩ := h_Left_can_be_first
  obtain ⟨fd_Left_take, F_Left_take, b_Left_take, kp_Left_take⟩ := h_Left_take
  obtain ⟨fd_Monitor_told, F_Monitor_told, b_Monitor_told, kp_Monitor_told⟩ := h_Monitor_told
  obtain ⟨fd_check_sign, F_check_sign, b_check_sign, kp_check_sign⟩ := h_check_sign
  obtain ⟨oc, od, osl, kV, doc, pm, an, cdv, ct, lk, hcd⟩ := c.def_ 18
  refine fnE_of (x := "put") (qual := "Monitor.put") (st := Hd.s18) (f := (He.ma K (He.ga K "Monitor") "put")) (N := N_Monitor_put) (t := t_Monitor_put ⟨K, Pg, w⟩) lk hcd (He.meth_ok (c.fact 40)).kp ⟨rfl, rfl, rfl, by decide +kernel, rfl, by decide +kernel, by decide +kernel⟩ (fun _ _ _ h => h.1) (fun us hl => match us, hl with | [_, _], _ => rfl) ?_ (fun _ _ _ h => h.2)
  intro cdv A outer s H E hr
  have hu := hr.units
  delta t_Monitor_put
  exact (ds_cons (ds_expr (de_call F_check_sign (hr.mono (by decide)) (by rfl) (He.glo_ok KX G (c.fact 7)) kp_check_sign b_check_sign (da_cons (de_fld (de_var (pv 0))) (da_cons (de_var (pv 1)) da_nil)))) (ds_cons (ds_if (dt_cmp op_isN o_isN (de_fld (de_var (pv 0))) de_non) (ds_one (ds_if (dt_val (de_meth (pe_meth (de_fld (de_var (pv 0))) (He.cls_ok (c.fact 13)) (He.meth_ok (c.fact 15)) F_Left_can_be_first (hr.mono (by decide)) b_Left_can_be_first .nil pass0 (da_cons (de_var (pv 1)) da_nil)))) (ds_cons (ds_expr (de_meth (pe_meth (de_fld (de_var (pv 0))) (He.cls_ok (c.fact 13)) (He.meth_ok (c.fact 17)) F_Left_take (hr.mono (by decide)) b_Left_take .nil pass0 (da_cons (de_var (pv 1)) da_nil)))) (ds_one (ds_expr (de_bm (pe_bm F.plainAttrs_list F.slot_list_append F.type_list_append mt_append (de_fld (de_var (pv 0))) (da_cons (de_var (pv 1)) da_nil)) tyd_lst m_app)))) (ds_one (ds_fld (de_var (pv 0)) (de_meth (pe_meth (de_var (pv 0)) (He.cls_ok (c.fact 26)) (He.meth_ok (c.fact 27)) F_Monitor_told (hr.mono (by decide)) b_Monitor_told .nil pass0 (da_cons (de_var (pv 1)) da_nil))))))) ds_nil) (ds_one (ds_ret (de_fld (de_var (pv 0)))))))
theorem ok_Monitor_left (h_Left_left : FnE Pg w K mg base 1 (He.ma K (He.ga K "Left") "left") ["self"] (sp_Left_left ⟨K, Pg, w⟩)) (h_normal : FnE Pg w K mg base 4 (He.ga K "normal") ["alphabet", "row"] (sp_normal ⟨K, Pg, w⟩)) : FnE Pg w K mg base 5 (He.ma K (He.ga K "Monitor") "left") ["self"] (sp_Monitor_left ⟨K, Pg, w⟩) := by
  obtain ⟨fd_Left_left, F_Left_left, b_Left_left, kp_Left_left⟩ := h_Left_left
  obtain ⟨fd_normal, F_normal, b_normal, kp_normal⟩ := h_normal
  obtain ⟨oc, od, osl, kV, doc, pm, an, cdv, ct, lk, hcd⟩ := c.def_ 20
  refine fnE_of (x := "left") (qual := "Monitor.left") (st := Hd.s20) (f := (He.ma K (He.ga K "Monitor") "left")) (N := N_Monitor_left) (t := t_Monitor_left ⟨K, Pg, w⟩) lk hcd (He.meth_ok (c.fact 62)).kp ⟨rfl, rfl, rfl, by decide +kernel, rfl, by decide +kernel, by decide +kernel⟩ (fun _ _ _ h => h.1) (fun us hl => match us, hl with | [_], _ => rfl) ?_ (fun _ _ _ h => h.2)
  intro cdv A outer s H E hr
  have hu := hr.units
  delta t_Monitor_left
  exact (ds_one (ds_ret (de_ifExp (dt_cmp op_notN o_notN (de_fld (de_var (pv 0))) de_non) de_non (de_call F_normal (hr.mono (by decide)) (by rfl) (He.glo_ok KX G (c.fact 22)) kp_normal b_normal (da_cons (de_fld (de_var (pv 0))) (da_cons (de_meth0 (pe_meth0 (de_fld (de_var (pv 0))) (He.cls_ok (c.fact 13)) (He.meth_ok (c.fact 21)) F_Left_left (hr.mono (by decide)) b_Left_left .nil pass0)) da_nil))))))
theorem ok_Monitor_is_done (h_Left_left : FnE Pg w K mg base 1 (He.ma K (He.ga K "Left") "left") ["self"] (sp_Left_left ⟨K, Pg, w⟩)) : FnE Pg w K mg base 2 (He.ma K (He.ga K "Monitor") "is_done") ["self"] (sp_Monitor_is_done ⟨K, Pg, w⟩) := by
  obtain ⟨fd_Left_left, F_Left_left, b_Left_left, kp_Left_left⟩ := h_Left_left
  obtain ⟨oc, od, osl, kV, doc, pm, an, cdv, ct, lk, hcd⟩ := c.def_ 21
  refine fnE_of (x := "is_done") (qual := "Monitor.is_done") (st := Hd.s21) (f := (He.ma K (He.ga K "Monitor") "is_done")) (N := N_Monitor_is_done) (t := t_Monitor_is_done ⟨K, Pg, w⟩) lk hcd (He.meth_ok (c.fact 61)).kp ⟨rfl, rfl, rfl, by decide +kernel, rfl, by decide +kernel, by decide +kernel⟩ (fun _ _ _ h => h.1) (fun us hl => match us, hl with | [_], _ => rfl) ?_ (fun _ _ _ h => h.2)
  intro cdv A outer s H E hr
  have hu := hr.units
  delta t_Monitor_is_done
  exact (ds_one (ds_ret (de_and (de_cmp op_isN o_isN (de_fld (de_var (pv 0))) de_non) (de_one (de_cmp (op_eqP hu) o_eqp (de_meth0 (pe_meth0 (de_fld (de_var (pv 0))) (He.cls_ok (c.fact 13)) (He.meth_ok (c.fact 21)) F_Left_left (hr.mono (by decide)) b_Left_left .nil pass0)) (de_tup da_nil))))))
theorem ok_Monitor_came  : FnE Pg w K mg base 1 (He.ma K (He.ga K "Monitor") "came") ["self"] (sp_Monitor_came ⟨K, Pg, w⟩) := by
  obtain ⟨oc, od, osl, kV, doc, pm, an, cdv, ct, lk, hcd⟩ := c.def_ 22
  refine fnE_of (x := "came") (qual := "Monitor.came") (st := Hd.s22) (f := (He.ma K (He.ga K "Monitor") "came")) (N := N_Monitor_came) (t := t_Monitor_came ⟨K, Pg, w⟩) lk hcd (He.meth_ok (c.fact 60)).kp ⟨rfl, rfl, rfl, by decide +kernel, rfl, by decide +kernel, by decide +kernel⟩ (fun _ _ _ h => h.1) (fun us hl => match us, hl with | [_], _ => rfl) ?_ (fun _ _ _ h => h.2)
  intro cdv A outer s H E hr
  have hu := hr.units
  delta t_Monitor_came
  exact (ds_one (ds_ret (de_cb (pe_callTy call_tupleF (by rfl) (He.free_ok KX G (c.fact 8)) boot_tuple (da_cons (de_fld (de_var (pv 0))) da_nil)) c_tup)))
theorem ok_Monitor_twin (h_Monitor___init__ : FnE Pg w K mg base 4 (He.ma K (He.ga K "Monitor") "__init__") ["self", "alphabet", "due"] (sp_Monitor___init__ ⟨K, Pg, w⟩)) : FnE Pg w K mg base 6 (He.ma K (He.ga K "Monitor") "twin") ["self"] (sp_Monitor_twin ⟨K, Pg, w⟩) := by
  obtain ⟨fd_Monitor___init__, F_Monitor___init__, b_Monitor___init__, kp_Monitor___init__⟩ := h_Monitor___init__
  obtain ⟨oc, od, osl, kV, doc, pm, an, cdv, ct, lk, hcd⟩ := c.def_ 23
  refine fnE_of (x := "twin") (qual := "Monitor.twin") (st := Hd.s23) (f := (He.ma K (He.ga K "Monitor") "twin")) (N := N_Monitor_twin) (t := t_Monitor_twin ⟨K, Pg, w⟩) lk hcd (He.meth_ok (c.fact 63)).kp ⟨rfl, rfl, rfl, by decide +kernel, rfl, by decide +kernel, by decide +kernel⟩ (fun _ _ _ h => h.1) (fun us hl => match us, hl with | [_], _ => rfl) ?_ (fun _ _ _ h => h.2)
  intro cdv A outer s H E hr
  have hu := hr.units
  delta t_Monitor_twin
  exact (ds_cons (ds_set (ps_set (i := 1) nd_Monitor_twin rfl (Or.inl rfl) (de_make (pe_make (He.mkr_ok (c.fact 31)) F_Monitor___init__ (hr.mono (by decide)) (by rfl) (He.glo_ok KX G (c.fact 32)) b_Monitor___init__ .nil pass0 (da_cons (de_fld (de_var (pv 0))) (da_cons (de_fld (de_var (pv 0))) da_nil)))))) (ds_cons (ds_fld (de_fld (de_var (pv 1))) (de_cb (pe_callTy call_dictD (by rfl) (He.free_ok KX G (c.fact 30)) boot_dict (da_cons (de_fld (de_fld (de_var (pv 0)))) da_nil)) c_dic)) (ds_cons (ds_asg (vs := []) (de_tup (da_cons (de_cb (pe_callTy call_list_of (by rfl) (He.free_ok KX G (c.fact 29)) boot_list (da_cons (de_fld (de_var (pv 0))) da_nil)) c_lst) (da_cons (de_fld (de_var (pv 0))) da_nil))) (dg_un rfl (dgs_cons (dg_fld (de_var (pv 1))) (dgs_cons (dg_fld (de_var (pv 1))) dgs_nil)))) (ds_one (ds_ret (de_var (pv 1)))))))
theorem ok_Watch___init__  : FnE Pg w K mg base 1 (He.ma K (He.ga K "Watch") "__init__") ["self", "alphabet"] (sp_Watch___init__ ⟨K, Pg, w⟩) := by
  obtain ⟨oc, od, osl, kV, doc, pm, an, cdv, ct, lk, hcd⟩ := c.def_ 24
  refine fnE_of (x := "__init__") (qual := "Watch.__init__") (st := Hd.s24) (f := (He.ma K (He.ga K "Watch") "__init__")) (N := N_Watch___init__) (t := t_Watch___init__ ⟨K, Pg, w⟩) lk hcd (He.meth_ok (c.fact 83)).kp ⟨rfl, rfl, rfl, by decide +kernel, rfl, by decide +kernel, by decide +kernel⟩ (fun _ _ _ h => h.1) (fun us hl => match us, hl with | [_, _], _ => rfl) ?_ (fun _ _ _ h => h.2)
  intro cdv A outer s H E hr
  have hu := hr.units
  delta t_Watch___init__
  exact (ds_cons (ds_fld (de_var (pv 0)) (de_var (pv 1))) (ds_cons (ds_fld (de_var (pv 0)) (de_tup (da_cons (de_tup da_nil) (da_cons (de_tup da_nil) da_nil)))) (ds_one (ds_fld (de_var (pv 0)) de_non))))
theorem ok_Watch_told (h_are_independent : FnE Pg w K mg base 2 (He.ga K "are_independent") ["alphabet", "a", "b"] (sp_are_independent ⟨K, Pg, w⟩)) : FnE Pg w K mg base 3 (He.ma K (He.ga K "Watch") "told") ["self"] (sp_Watch_told ⟨K, Pg, w⟩) := by
  obtain ⟨fd_are_independent, F_are_independent, b_are_independent, kp_are_independent⟩ := h_are_independent
  obtain ⟨oc, od, osl, kV, doc, pm, an, cdv, ct, lk, hcd⟩ := c.def_ 26
  refine fnE_of (x := "told") (qual := "Watch.told") (st := Hd.s26) (f := (He.ma K (He.ga K "Watch") "told")) (N := N_Watch_told) (t := t_Watch_told ⟨K, Pg, w⟩) lk hcd (He.meth_ok (c.fact 34)).kp ⟨rfl, rfl, rfl, by decide +kernel, rfl, by decide +kernel, by decide +kernel⟩ (fun _ _ _ h => h.1) (fun us hl => match us, hl with | [_], _ => rfl) ?_ (fun _ _ _ h => h.2)
  intro cdv A outer s H E hr
  have hu := hr.units
  delta t_Watch_told
  exact (ds_cons (ds_asg (vs := [3, 4]) (de_fld (de_var (pv 0))) (dg_un rfl (dgs_cons (dg_name (pg_name (i := 3) nd_Watch_told rfl (Or.inl rfl)) (by decide)) (dgs_cons (dg_name (pg_name (i := 4) nd_Watch_told rfl (Or.inr rfl)) (by decide)) dgs_nil)))) (ds_cons (ds_setLc2 (ps_setLc2 (i := 1) rfl nd_Watch_told rfl rfl (sw_true rfl rfl rfl (by decide +kernel)) (di_seq (de_var (pv 3))) (blkOk_by (own := [("one", 5), ("other", 6)]) (by kernel_rfl)) (by decide) (fun _ _ _ _ _ => (dg_name (pg_name (i := 5) nd_Watch_told rfl (Or.inl rfl)) (by decide))) (fun _ _ _ _ _ => dts_nil) (fun _ _ _ _ _ => (di_seq (de_var (pv 4)))) (fun _ _ _ _ _ => (dg_name (pg_name (i := 6) nd_Watch_told rfl (Or.inl rfl)) (by decide))) (fun _ _ _ _ _ => (dts_one (PW.pt (dw_or (dt_cmp (op_eqP hu) o_eqp (de_var (pv 5)) (de_var (pv 6))) (dw_or1 (dt_not (dt_val (de_call F_are_independent (hr.mono (by decide)) (by rfl) (He.glo_ok KX G (c.fact 37)) kp_are_independent b_are_independent (da_cons (de_fld (de_var (pv 0))) (da_cons (de_var (pv 5)) (da_cons (de_var (pv 6)) da_nil))))))))))) (fun _ _ _ _ _ => (de_tup (da_cons (de_cb (pe_callB (call_min2A rfl) (by rfl) (He.free_ok KX G (c.fact 6)) boot_min (da_cons (de_var (pv 5)) (da_cons (de_var (pv 6)) da_nil))) c_min2) (da_cons (de_cb (pe_callB (call_max2A rfl) (by rfl) (He.free_ok KX G (c.fact 5)) boot_max (da_cons (de_var (pv 5)) (da_cons (de_var (pv 6)) da_nil))) c_max2) da_nil)))))) (ds_cons (ds_if (dt_cmp (op_eqP hu) o_eqp (de_var (pv 1)) (de_lst da_nil)) (ds_one (ds_ret de_non)) ds_nil) (ds_cons (ds_set (ps_set (i := 2) nd_Watch_told rfl (Or.inl rfl) (de_cb (pe_callB (call_minD rfl hu) (by rfl) (He.free_ok KX G (c.fact 6)) boot_min (da_cons (de_var (pv 1)) da_nil)) c_minD))) (ds_one (ds_ret (de_tup (da_cons de_str (da_cons (de_ix (de_var (pv 2)) de_int) (da_cons (de_ix (de_var (pv 2)) de_int) da_nil))))))))))
theorem ok_Watch_put (h_Watch_told : FnE Pg w K mg base 3 (He.ma K (He.ga K "Watch") "told") ["self"] (sp_Watch_told ⟨K, Pg, w⟩)) (h_behind : FnE Pg w K mg base 7 (He.ga K "behind") ["alphabet", "told", "one", "other"] (sp_behind ⟨K, Pg, w⟩)) (h_check_sign : FnE Pg w K mg base 1 (He.ga K "check_sign") ["alphabet", "sign"] (sp_check_sign ⟨K, Pg, w⟩)) (h_is_index : FnE Pg w K mg base 2 (He.ga K "is_index") ["thing"] (sp_is_index ⟨K, Pg, w⟩)) : FnE Pg w K mg base 8 (He.ma K (He.ga K "Watch") "put") ["self", "side", "sign"] (sp_Watch_put ⟨K, Pg, w⟩) := by
  obtain ⟨fd_Watch_told, F_Watch_told, b_Watch_told, kp_Watch_told⟩ := h_Watch_told
  obtain ⟨fd_behind, F_behind, b_behind, kp_behind⟩ := h_behind
  obtain ⟨fd_check_sign, F_check_sign, b_check_sign, kp_check_sign⟩ := h_check_sign
  obtain ⟨fd_is_index, F_is_index, b_is_index, kp_is_index⟩ := h_is_index
  obtain ⟨oc, od, osl, kV, doc, pm, an, cdv, ct, lk, hcd⟩ := c.def_ 25
  refine fnE_of (x := "put") (qual := "Watch.put") (st := Hd.s25) (f := (He.ma K (He.ga K "Watch") "put")) (N := N_Watch_put) (t := t_Watch_put ⟨K, Pg, w⟩) lk hcd (He.meth_ok (c.fact 41)).kp ⟨rfl, rfl, rfl, by decide +kernel, rfl, by decide +kernel, by decide +kernel⟩ (fun _ _ _ h => h.1) (fun us hl => match us, hl with | [_, _, _], _ => rfl) ?_ (fun _ _ _ h => h.2)
  intro cdv A outer s H E hr
  have hu := hr.units
  delta t_Watch_put
  exact (ds_cons (ds_expr (de_call F_check_sign (hr.mono (by decide)) (by rfl) (He.glo_ok KX G (c.fact 7)) kp_check_sign b_check_sign (da_cons (de_fld (de_var (pv 0))) (da_cons (de_var (pv 2)) da_nil)))) (ds_cons (ds_if (PW.pt (dw_or (dt_not (dt_val (de_call F_is_index (hr.mono (by decide)) (by rfl) (He.glo_ok KX G (c.fact 36)) kp_is_index b_is_index (da_cons (de_var (pv 1)) da_nil)))) (dw_or1 (dt_cmp (op_gtD hu) o_cmp (de_var (pv 1)) de_int)))) (ds_one ds_never) ds_nil) (ds_cons (ds_if (dt_cmp op_isN o_isN (de_fld (de_var (pv 0))) de_non) (ds_cons (ds_set (ps_set (i := 3) nd_Watch_put rfl (Or.inl rfl) (de_ifExp (dt_cmp (op_eqP hu) o_eqp (de_var (pv 1)) de_int) (de_tup (da_cons (de_tup (da_cons (de_var (pv 2)) da_nil)) (da_cons (de_tup da_nil) da_nil))) (de_tup (da_cons (de_tup da_nil) (da_cons (de_tup (da_cons (de_var (pv 2)) da_nil)) da_nil)))))) (ds_cons (ds_fld (de_var (pv 0)) (de_call F_behind (hr.mono (by decide)) (by rfl) (He.glo_ok KX G (c.fact 35)) kp_behind b_behind (da_cons (de_fld (de_var (pv 0))) (da_cons (de_fld (de_var (pv 0))) (da_cons (de_ix (de_var (pv 3)) de_int) (da_cons (de_ix (de_var (pv 3)) de_int) da_nil)))))) (ds_one (ds_fld (de_var (pv 0)) (de_meth0 (pe_meth0 (de_var (pv 0)) (He.cls_ok (c.fact 33)) (He.meth_ok (c.fact 34)) F_Watch_told (hr.mono (by decide)) b_Watch_told .nil pass0)))))) ds_nil) (ds_one (ds_ret (de_fld (de_var (pv 0))))))))
theorem ok_Watch_lag  : FnE Pg w K mg base 1 (He.ma K (He.ga K "Watch") "lag") ["self"] (sp_Watch_lag ⟨K, Pg, w⟩) := by
  obtain ⟨oc, od, osl, kV, doc, pm, an, cdv, ct, lk, hcd⟩ := c.def_ 27
  refine fnE_of (x := "lag") (qual := "Watch.lag") (st := Hd.s27) (f := (He.ma K (He.ga K "Watch") "lag")) (N := N_Watch_lag) (t := t_Watch_lag ⟨K, Pg, w⟩) lk hcd (He.meth_ok (c.fact 55)).kp ⟨rfl, rfl, rfl, by decide +kernel, rfl, by decide +kernel, by decide +kernel⟩ (fun _ _ _ h => h.1) (fun us hl => match us, hl with | [_], _ => rfl) ?_ (fun _ _ _ h => h.2)
  intro cdv A outer s H E hr
  have hu := hr.units
  delta t_Watch_lag
  exact (ds_one (ds_ret (de_fld (de_var (pv 0)))))
theorem ok_Watch_are_even  : FnE Pg w K mg base 1 (He.ma K (He.ga K "Watch") "are_even") ["self"] (sp_Watch_are_even ⟨K, Pg, w⟩) := by
  obtain ⟨oc, od, osl, kV, doc, pm, an, cdv, ct, lk, hcd⟩ := c.def_ 28
  refine fnE_of (x := "are_even") (qual := "Watch.are_even") (st := Hd.s28) (f := (He.ma K (He.ga K "Watch") "are_even")) (N := N_Watch_are_even) (t := t_Watch_are_even ⟨K, Pg, w⟩) lk hcd (He.meth_ok (c.fact 56)).kp ⟨rfl, rfl, rfl, by decide +kernel, rfl, by decide +kernel, by decide +kernel⟩ (fun _ _ _ h => h.1) (fun us hl => match us, hl with | [_], _ => rfl) ?_ (fun _ _ _ h => h.2)
  intro cdv A outer s H E hr
  have hu := hr.units
  delta t_Watch_are_even
  exact (ds_one (ds_ret (de_cmp (op_eqP hu) o_eqp (de_fld (de_var (pv 0))) (de_tup (da_cons (de_tup da_nil) (da_cons (de_tup da_nil) da_nil))))))
theorem ok_Watch_twin (h_Watch___init__ : FnE Pg w K mg base 1 (He.ma K (He.ga K "Watch") "__init__") ["self", "alphabet"] (sp_Watch___init__ ⟨K, Pg, w⟩)) : FnE Pg w K mg base 3 (He.ma K (He.ga K "Watch") "twin") ["self"] (sp_Watch_twin ⟨K, Pg, w⟩) := by
  obtain ⟨fd_Watch___init__, F_Watch___init__, b_Watch___init__, kp_Watch___init__⟩ := h_Watch___init__
  obtain ⟨oc, od, osl, kV, doc, pm, an, cdv, ct, lk, hcd⟩ := c.def_ 29
  refine fnE_of (x := "twin") (qual := "Watch.twin") (st := Hd.s29) (f := (He.ma K (He.ga K "Watch") "twin")) (N := N_Watch_twin) (t := t_Watch_twin ⟨K, Pg, w⟩) lk hcd (He.meth_ok (c.fact 54)).kp ⟨rfl, rfl, rfl, by decide +kernel, rfl, by decide +kernel, by decide +kernel⟩ (fun _ _ _ h => h.1) (fun us hl => match us, hl with | [_], _ => rfl) ?_ (fun _ _ _ h => h.2)
  intro cdv A outer s H E hr
  have hu := hr.units
  delta t_Watch_twin
  exact (ds_cons (ds_set (ps_set (i := 1) nd_Watch_twin rfl (Or.inl rfl) (de_make (pe_make (He.mkr_ok (c.fact 38)) F_Watch___init__ (hr.mono (by decide)) (by rfl) (He.glo_ok KX G (c.fact 39)) b_Watch___init__ .nil pass0 (da_cons (de_fld (de_var (pv 0))) da_nil))))) (ds_cons (ds_asg (vs := []) (de_tup (da_cons (de_fld (de_var (pv 0))) (da_cons (de_fld (de_var (pv 0))) da_nil))) (dg_un rfl (dgs_cons (dg_fld (de_var (pv 1))) (dgs_cons (dg_fld (de_var (pv 1))) dgs_nil)))) (ds_one (ds_ret (de_var (pv 1))))))
theorem ok_looked_at (h_Monitor___init__ : FnE Pg w K mg base 4 (He.ma K (He.ga K "Monitor") "__init__") ["self", "alphabet", "due"] (sp_Monitor___init__ ⟨K, Pg, w⟩)) (h_Monitor_put : FnE Pg w K mg base 3 (He.ma K (He.ga K "Monitor") "put") ["self", "sign"] (sp_Monitor_put ⟨K, Pg, w⟩)) : FnE Pg w K mg base 6 (He.ga K "looked_at") ["alphabet", "due", "row"] (sp_looked_at ⟨K, Pg, w⟩) := by
  obtain ⟨fd_Monitor___init__, F_Monitor___init__, b_Monitor___init__, kp_Monitor___init__⟩ := h_Monitor___init__
  obtain ⟨fd_Monitor_put, F_Monitor_put, b_Monitor_put, kp_Monitor_put⟩ := h_Monitor_put
  obtain ⟨oc, od, osl, kV, doc, pm, an, cdv, ct, lk, hcd⟩ := c.def_ 30
  refine fnE_of (x := "looked_at") (qual := "looked_at") (st := Hd.s30) (f := (He.ga K "looked_at")) (N := N_looked_at) (t := t_looked_at ⟨K, Pg, w⟩) lk hcd (He.keep_ok (c.fact 84)) ⟨rfl, rfl, rfl, by decide +kernel, rfl, by decide +kernel, by decide +kernel⟩ (fun _ _ _ h => h.1) (fun us hl => match us, hl with | [_, _, _], _ => rfl) ?_ (fun _ _ _ h => h.2)
  intro cdv A outer s H E hr
  have hu := hr.units
  delta t_looked_at
  exact (ds_cons (ds_set (ps_set (i := 3) nd_looked_at rfl (Or.inl rfl) (de_make (pe_make (He.mkr_ok (c.fact 31)) F_Monitor___init__ (hr.mono (by decide)) (by rfl) (He.glo_ok KX G (c.fact 32)) b_Monitor___init__ .nil pass0 (da_cons (de_var (pv 0)) (da_cons (de_var (pv 1)) da_nil)))))) (ds_cons (ds_for (vs := [4, 5]) PassesOwn.never rfl (di_enum (pi_enumA (by rfl) (He.free_ok KX G (c.fact 9)) (da_cons (de_var (pv 2)) da_nil))) (dg_un rfl (dgs_cons (dg_name (pg_name (i := 4) nd_looked_at rfl (Or.inl rfl)) (by decide)) (dgs_cons (dg_name (pg_name (i := 5) nd_looked_at rfl (Or.inl rfl)) (by decide)) dgs_nil))) (ds_cons (ds_set (ps_set (i := 6) nd_looked_at rfl (Or.inl rfl) (de_meth (pe_meth (de_var (pv 3)) (He.cls_ok (c.fact 26)) (He.meth_ok (c.fact 40)) F_Monitor_put (hr.mono (by decide)) b_Monitor_put .nil pass0 (da_cons (de_var (pv 5)) da_nil))))) (ds_one (ds_if (dt_cmp op_notN o_notN (de_var (pv 6)) de_non) (ds_one (ds_ret (de_tup (da_cons (de_var (pv 4)) (da_cons (de_var (pv 6)) da_nil))))) ds_nil)))) (ds_one (ds_ret (de_tup (da_cons (de_cb (pe_callB call_lenA (by rfl) (He.free_ok KX G (c.fact 11)) boot_len (da_cons (de_var (pv 2)) da_nil)) c_len) (da_cons de_non da_nil)))))))
theorem ok_looked_at_both (h_Watch___init__ : FnE Pg w K mg base 1 (He.ma K (He.ga K "Watch") "__init__") ["self", "alphabet"] (sp_Watch___init__ ⟨K, Pg, w⟩)) (h_Watch_put : FnE Pg w K mg base 8 (He.ma K (He.ga K "Watch") "put") ["self", "side", "sign"] (sp_Watch_put ⟨K, Pg, w⟩)) : FnE Pg w K mg base 9 (He.ga K "looked_at_both") ["alphabet", "steps"] (sp_looked_at_both ⟨K, Pg, w⟩) := by
  obtain ⟨fd_Watch___init__, F_Watch___init__, b_Watch___init__, kp_Watch___init__⟩ := h_Watch___init__
  obtain ⟨fd_Watch_put, F_Watch_put, b_Watch_put, kp_Watch_put⟩ := h_Watch_put
  obtain ⟨oc, od, osl, kV, doc, pm, an, cdv, ct, lk, hcd⟩ := c.def_ 31
  refine fnE_of (x := "looked_at_both") (qual := "looked_at_both") (st := Hd.s31) (f := (He.ga K "looked_at_both")) (N := N_looked_at_both) (t := t_looked_at_both ⟨K, Pg, w⟩) lk hcd (He.keep_ok (c.fact 85)) ⟨rfl, rfl, rfl, by decide +kernel, rfl, by decide +kernel, by decide +kernel⟩ (fun _ _ _ h => h.1) (fun us hl => match us, hl with | [_, _], _ => rfl) ?_ (fun _ _ _ h => h.2)
  intro cdv A outer s H E hr
  have hu := hr.units
  delta t_looked_at_both
  exact (ds_cons (ds_set (ps_set (i := 2) nd_looked_at_both rfl (Or.inl rfl) (de_make (pe_make (He.mkr_ok (c.fact 38)) F_Watch___init__ (hr.mono (by decide)) (by rfl) (He.glo_ok KX G (c.fact 39)) b_Watch___init__ .nil pass0 (da_cons (de_var (pv 0)) da_nil))))) (ds_cons (ds_for (vs := [3, 5, 6]) PassesOwn.never rfl (di_enum (pi_enumA (by rfl) (He.free_ok KX G (c.fact 9)) (da_cons (de_var (pv 1)) da_nil))) (dg_un rfl (dgs_cons (dg_name (pg_name (i := 3) nd_looked_at_both rfl (Or.inl rfl)) (by decide)) (dgs_cons (dg_un rfl (dgs_cons (dg_name (pg_name (i := 5) nd_looked_at_both rfl (Or.inl rfl)) (by decide)) (dgs_cons (dg_name (pg_name (i := 6) nd_looked_at_both rfl (Or.inl rfl)) (by decide)) dgs_nil))) dgs_nil))) (ds_cons (ds_set (ps_set (i := 4) nd_looked_at_both rfl (Or.inl rfl) (de_meth (pe_meth (de_var (pv 2)) (He.cls_ok (c.fact 33)) (He.meth_ok (c.fact 41)) F_Watch_put (hr.mono (by decide)) b_Watch_put .nil pass0 (da_cons (de_var (pv 5)) (da_cons (de_var (pv 6)) da_nil)))))) (ds_one (ds_if (dt_cmp op_notN o_notN (de_var (pv 4)) de_non) (ds_one (ds_ret (de_tup (da_cons (de_var (pv 3)) (da_cons (de_var (pv 4)) da_nil))))) ds_nil)))) (ds_one (ds_ret (de_tup (da_cons (de_cb (pe_callB call_lenA (by rfl) (He.free_ok KX G (c.fact 11)) boot_len (da_cons (de_var (pv 1)) da_nil)) c_len) (da_cons de_non da_nil)))))))
theorem ok__law_bag  : FnE Pg w K mg base 1 (He.ga K "_law_bag") ["script"] (sp__law_bag ⟨K, Pg, w⟩) := by
  obtain ⟨oc, od, osl, kV, doc, pm, an, cdv, ct, lk, hcd⟩ := c.def_ 32
  refine fnE_of (x := "_law_bag") (qual := "_law_bag") (st := Hd.s32) (f := (He.ga K "_law_bag")) (N := N__law_bag) (t := t__law_bag ⟨K, Pg, w⟩) lk hcd (He.keep_ok (c.fact 86)) ⟨rfl, rfl, rfl, by decide +kernel, rfl, by decide +kernel, by decide +kernel⟩ (fun _ _ _ h => h.1) (fun us hl => match us, hl with | [_], _ => rfl) ?_ (fun _ _ _ h => h.2)
  intro cdv A outer s H E hr
  have hu := hr.units
  delta t__law_bag
  exact (ds_one (ds_ret (de_lst (da_cons de_int (da_cons de_int (da_cons de_int (da_cons (de_lc (pe_lc rfl nd__law_bag (di_seq (de_sl (de_var (pv 0)) do_no (do_some de_int))) (blkOk_by (own := [("cell", 1)]) (by kernel_rfl)) (fun _ _ _ _ _ => (dg_name (pg_name (i := 1) nd__law_bag rfl (Or.inl rfl)) (by decide))) (fun _ _ _ _ _ => dts_nil) (fun _ _ _ _ _ => (de_cb (pe_callB call_abs (by rfl) (He.free_ok KX G (c.fact 42)) boot_abs (da_cons (de_var (pv 1)) da_nil)) c_abs)))) da_nil)))))))
theorem ok__law_take  : FnE Pg w K mg base 1 (He.ga K "_law_take") ["bag", "many"] (sp__law_take ⟨K, Pg, w⟩) := by
  obtain ⟨oc, od, osl, kV, doc, pm, an, cdv, ct, lk, hcd⟩ := c.def_ 33
  refine fnE_of (x := "_law_take") (qual := "_law_take") (st := Hd.s33) (f := (He.ga K "_law_take")) (N := N__law_take) (t := t__law_take ⟨K, Pg, w⟩) lk hcd (He.keep_ok (c.fact 87)) ⟨rfl, rfl, rfl, by decide +kernel, rfl, by decide +kernel, by decide +kernel⟩ (fun _ _ _ h => h.1) (fun us hl => match us, hl with | [_, _], _ => rfl) ?_ (fun _ _ _ h => h.2)
  intro cdv A outer s H E hr
  have hu := hr.units
  delta t__law_take
  exact (ds_cons (ds_if (dt_cmp (op_eqP hu) o_eqp (de_ix (de_var (pv 0)) de_int) de_int) (ds_cons (ds_set (ps_set (i := 4) nd__law_take rfl (Or.inl rfl) (de_ix (de_op op_addA o_add (de_sl (de_ix (de_var (pv 0)) de_int) (do_some (de_ix (de_var (pv 0)) de_int)) do_no) (de_lst (da_cons de_int da_nil))) de_int))) (ds_cons (ds_ixaug o_int0 (de_var (pv 0)) de_int de_int (op_pip iop_add) (fun h1 h2 h3 h4 => ps_augS h1 h2 get_list h3 h4 set_list)) (ds_cons (ds_if (dt_cmp (op_geD hu) o_cmp (de_var (pv 4)) (de_op op_pow o_int de_int de_int)) (ds_one (ds_asg (vs := []) (de_var (pv 4)) (dg_ix (de_var (pv 0)) de_int (fun h k => pg_sub h k set_list)))) ds_nil) (ds_cons (ds_set (ps_set (i := 5) nd__law_take rfl (Or.inl rfl) (de_op op_addA o_add (de_op op_addA o_add (de_op op_mul o_int (de_ix (de_var (pv 0)) de_int) de_int) (de_op op_mod o_int (de_cb (pe_callTy call_int1 (by rfl) (He.free_ok KX G (c.fact 2)) boot_int (da_cons (de_var (pv 4)) da_nil)) c_int) de_int)) (de_op op_mul o_int de_int (de_ix (de_var (pv 0)) de_int))))) (ds_one (ds_asg (vs := []) (de_op op_mod o_int (de_cb (pe_callTy call_int1 (by rfl) (He.free_ok KX G (c.fact 2)) boot_int (da_cons (de_var (pv 5)) da_nil)) c_int) de_int) (dg_ix (de_var (pv 0)) de_int (fun h k => pg_sub h k set_list)))))))) ds_nil) (ds_cons (ds_if (dt_cmp (op_gtD hu) o_cmp (de_ix (de_var (pv 0)) de_int) de_int) (ds_cons (ds_set (ps_set (i := 6) nd__law_take rfl (Or.inl rfl) (de_op op_mod o_int (de_cb (pe_callTy call_int1 (by rfl) (He.free_ok KX G (c.fact 2)) boot_int (da_cons (de_ix (de_var (pv 0)) de_int) da_nil)) c_int) (de_var (pv 1))))) (ds_cons (ds_asg (vs := []) (de_op op_fdiv o_int (de_cb (pe_callTy call_int1 (by rfl) (He.free_ok KX G (c.fact 2)) boot_int (da_cons (de_ix (de_var (pv 0)) de_int) da_nil)) c_int) (de_var (pv 1))) (dg_ix (de_var (pv 0)) de_int (fun h k => pg_sub h k set_list))) (ds_one (ds_ret (de_var (pv 6)))))) ds_nil) (ds_cons (ds_set (ps_set (i := 2) nd__law_take rfl (Or.inl rfl) (de_op op_mod o_int (de_cb (pe_callTy call_int1 (by rfl) (He.free_ok KX G (c.fact 2)) boot_int (da_cons (de_op op_mul o_int (de_op op_addA o_add (de_ix (de_var (pv 0)) de_int) de_int) de_int) da_nil)) c_int) de_int))) (ds_cons (ds_set (ps_set (i := 3) nd__law_take rfl (Or.inl rfl) (de_op op_mod o_int (de_cb (pe_callTy call_int1 (by rfl) (He.free_ok KX G (c.fact 2)) boot_int (da_cons (de_op op_mul o_int (de_op op_mod o_int (de_cb (pe_callTy call_int1 (by rfl) (He.free_ok KX G (c.fact 2)) boot_int (da_cons (de_op op_mul o_int (de_var (pv 2)) (de_var (pv 2))) da_nil)) c_int) de_int) de_int) da_nil)) c_int) de_int))) (ds_one (ds_ret (de_op op_mod o_int (de_cb (pe_callTy call_int1 (by rfl) (He.free_ok KX G (c.fact 2)) boot_int (da_cons (de_op op_fdiv o_int (de_var (pv 3)) de_int) da_nil)) c_int) (de_var (pv 1)))))))))
theorem ok__law_some (h__law_take : FnE Pg w K mg base 1 (He.ga K "_law_take") ["bag", "many"] (sp__law_take ⟨K, Pg, w⟩)) : FnE Pg w K mg base 2 (He.ga K "_law_some") ["bag", "things"] (sp__law_some ⟨K, Pg, w⟩) := by
  obtain ⟨fd__law_take, F__law_take, b__law_take, kp__law_take⟩ := h__law_take
  obtain ⟨oc, od, osl, kV, doc, pm, an, cdv, ct, lk, hcd⟩ := c.def_ 34
  refine fnE_of (x := "_law_some") (qual := "_law_some") (st := Hd.s34) (f := (He.ga K "_law_some")) (N := N__law_some) (t := t__law_some ⟨K, Pg, w⟩) lk hcd (He.keep_ok (c.fact 88)) ⟨rfl, rfl, rfl, by decide +kernel, rfl, by decide +kernel, by decide +kernel⟩ (fun _ _ _ h => h.1) (fun us hl => match us, hl with | [_, _], _ => rfl) ?_ (fun _ _ _ h => h.2)
  intro cdv A outer s H E hr
  have hu := hr.units
  delta t__law_some
  exact (ds_one (ds_ret (de_ix (de_var (pv 1)) (de_call F__law_take (hr.mono (by decide)) (by rfl) (He.glo_ok KX G (c.fact 43)) kp__law_take b__law_take (da_cons (de_var (pv 0)) (da_cons (de_cb (pe_callB call_lenA (by rfl) (He.free_ok KX G (c.fact 11)) boot_len (da_cons (de_var (pv 1)) da_nil)) c_len) da_nil))))))
theorem ok__law_alike  : FnT Pg w K mg base 1 (He.ga K "_law_alike") ["found", "due"] (sp__law_alike ⟨K, Pg, w⟩) := by
  obtain ⟨oc, od, osl, kV, doc, pm, an, cdv, ct, lk, hcd⟩ := c.def_ 35
  refine fnT_of (x := "_law_alike") (qual := "_law_alike") (st := Hd.s35) (f := (He.ga K "_law_alike")) (N := N__law_alike) (t := t__law_alike ⟨K, Pg, w⟩) lk hcd (He.keep_ok (c.fact 89)) ⟨rfl, rfl, rfl, by decide +kernel, rfl, by decide +kernel, by decide +kernel⟩ (fun _ _ _ h => h.1) (fun us hl => match us, hl with | [_, _], _ => rfl) ?_ (fun _ _ _ h => h.2)
  intro cdv A outer s H E st hr
  have hu := hr.units
  delta t__law_alike
  exact (ds_one (ds_ret (de_and (de_cmp (op_eqP hu) o_eqp (de_cb (pe_callB (call_reprP st hu) (by rfl) (He.free_ok KX G (c.fact 44)) boot_repr (da_cons (de_var (pv 0)) da_nil)) c_repr) (de_cb (pe_callB (call_reprP st hu) (by rfl) (He.free_ok KX G (c.fact 44)) boot_repr (da_cons (de_var (pv 1)) da_nil)) c_repr)) (de_one (de_cmp (op_eqP hu) o_eqp (de_var (pv 0)) (de_var (pv 1)))))))
theorem ok__law_alphabet (h__law_take : FnE Pg w K mg base 1 (He.ga K "_law_take") ["bag", "many"] (sp__law_take ⟨K, Pg, w⟩)) : FnE Pg w K mg base 2 (He.ga K "_law_alphabet") ["bag", "signs"] (sp__law_alphabet ⟨K, Pg, w⟩) := by
  obtain ⟨fd__law_take, F__law_take, b__law_take, kp__law_take⟩ := h__law_take
  obtain ⟨oc, od, osl, kV, doc, pm, an, cdv, ct, lk, hcd⟩ := c.def_ 36
  refine fnE_of (x := "_law_alphabet") (qual := "_law_alphabet") (st := Hd.s36) (f := (He.ga K "_law_alphabet")) (N := N__law_alphabet) (t := t__law_alphabet ⟨K, Pg, w⟩) lk hcd (He.keep_ok (c.fact 90)) ⟨rfl, rfl, rfl, by decide +kernel, rfl, by decide +kernel, by decide +kernel⟩ (fun _ _ _ h => h.1) (fun us hl => match us, hl with | [_, _], _ => rfl) ?_ (fun _ _ _ h => h.2)
  intro cdv A outer s H E hr
  have hu := hr.units
  delta t__law_alphabet
  exact (ds_cons (ds_set (ps_set (i := 2) nd__law_alphabet rfl (Or.inl rfl) (de_lst da_nil))) (ds_cons (ds_for (vs := [3, 4]) PassesOwn.never rfl (di_enum (pi_enumA (by rfl) (He.free_ok KX G (c.fact 9)) (da_cons (de_var (pv 1)) da_nil))) (dg_un rfl (dgs_cons (dg_name (pg_name (i := 3) nd__law_alphabet rfl (Or.inl rfl)) (by decide)) (dgs_cons (dg_name (pg_name (i := 4) nd__law_alphabet rfl (Or.inr rfl)) (by decide)) dgs_nil))) (ds_one (ds_expr (de_bm (pe_bm F.plainAttrs_list F.slot_list_extend F.type_list_extend mt_extend (de_var (pv 2)) (da_cons (de_lc (pe_lc rfl nd__law_alphabet (di_seq (de_sl (de_var (pv 1)) (do_some (de_op op_addA o_add (de_var (pv 3)) de_int)) do_no)) (blkOk_by (own := [("b", 5)]) (by kernel_rfl)) (fun _ _ _ _ _ => (dg_name (pg_name (i := 5) nd__law_alphabet rfl (Or.inl rfl)) (by decide))) (fun _ _ _ _ _ => (dts_one (dt_cmp (op_ltD hu) o_cmp (de_call F__law_take (hr.mono (by decide)) (by rfl) (He.glo_ok KX G (c.fact 43)) kp__law_take b__law_take (da_cons (de_var (pv 0)) (da_cons de_int da_nil))) de_int))) (fun _ _ _ _ _ => (de_tup (da_cons (de_var (pv 4)) (da_cons (de_var (pv 5)) da_nil)))))) da_nil)) tyd_lst m_ext)))) (ds_one (ds_ret (de_tup (da_cons (de_cb (pe_callTy call_tupleF (by rfl) (He.free_ok KX G (c.fact 8)) boot_tuple (da_cons (de_var (pv 1)) da_nil)) c_tup) (da_cons (de_cb (pe_callTy call_tupleF (by rfl) (He.free_ok KX G (c.fact 8)) boot_tuple (da_cons (de_var (pv 2)) da_nil)) c_tup) da_nil)))))))
theorem ok__law_is_free  : FnE Pg w K mg base 1 (He.ga K "_law_is_free") ["alphabet", "a", "b"] (sp__law_is_free ⟨K, Pg, w⟩) := by
  obtain ⟨oc, od, osl, kV, doc, pm, an, cdv, ct, lk, hcd⟩ := c.def_ 37
  refine fnE_of (x := "_law_is_free") (qual := "_law_is_free") (st := Hd.s37) (f := (He.ga K "_law_is_free")) (N := N__law_is_free) (t := t__law_is_free ⟨K, Pg, w⟩) lk hcd (He.keep_ok (c.fact 91)) ⟨rfl, rfl, rfl, by decide +kernel, rfl, by decide +kernel, by decide +kernel⟩ (fun _ _ _ h => h.1) (fun us hl => match us, hl with | [_, _, _], _ => rfl) ?_ (fun _ _ _ h => h.2)
  intro cdv A outer s H E hr
  have hu := hr.units
  delta t__law_is_free
  exact (ds_one (ds_ret (de_cmp (op_memD hu) o_mem (de_tup (da_cons (de_cb (pe_callB (call_min2A rfl) (by rfl) (He.free_ok KX G (c.fact 6)) boot_min (da_cons (de_var (pv 1)) (da_cons (de_var (pv 2)) da_nil))) c_min2) (da_cons (de_cb (pe_callB (call_max2A rfl) (by rfl) (He.free_ok KX G (c.fact 5)) boot_max (da_cons (de_var (pv 1)) (da_cons (de_var (pv 2)) da_nil))) c_max2) da_nil))) (de_ix (de_var (pv 0)) de_int))))
theorem ok__law_cut  : FnE Pg w K mg base 1 (He.ga K "_law_cut") ["row", "signs"] (sp__law_cut ⟨K, Pg, w⟩) := by
  obtain ⟨oc, od, osl, kV, doc, pm, an, cdv, ct, lk, hcd⟩ := c.def_ 38
  refine fnE_of (x := "_law_cut") (qual := "_law_cut") (st := Hd.s38) (f := (He.ga K "_law_cut")) (N := N__law_cut) (t := t__law_cut ⟨K, Pg, w⟩) lk hcd (He.keep_ok (c.fact 92)) ⟨rfl, rfl, rfl, by decide +kernel, rfl, by decide +kernel, by decide +kernel⟩ (fun _ _ _ h => h.1) (fun us hl => match us, hl with | [_, _], _ => rfl) ?_ (fun _ _ _ h => h.2)
  intro cdv A outer s H E hr
  have hu := hr.units
  delta t__law_cut
  exact (ds_one (ds_ret (de_cb (pe_callTy call_tupleF (by rfl) (He.free_ok KX G (c.fact 8)) boot_tuple (da_cons (de_lc (pe_lc rfl nd__law_cut (di_seq (de_var (pv 0))) (blkOk_by (own := [("a", 2)]) (by kernel_rfl)) (fun _ _ _ _ _ => (dg_name (pg_name (i := 2) nd__law_cut rfl (Or.inl rfl)) (by decide))) (fun _ _ _ _ _ => (dts_one (dt_cmp (op_memD hu) o_mem (de_var (pv 2)) (de_var (pv 1))))) (fun _ _ _ _ _ => (de_var (pv 2))))) da_nil)) c_tup)))
theorem ok__law_firsts (h__law_is_free : FnE Pg w K mg base 1 (He.ga K "_law_is_free") ["alphabet", "a", "b"] (sp__law_is_free ⟨K, Pg, w⟩)) : FnE Pg w K mg base 2 (He.ga K "_law_firsts") ["alphabet", "row"] (sp__law_firsts ⟨K, Pg, w⟩) := by
  obtain ⟨fd__law_is_free, F__law_is_free, b__law_is_free, kp__law_is_free⟩ := h__law_is_free
  obtain ⟨oc, od, osl, kV, doc, pm, an, cdv, ct, lk, hcd⟩ := c.def_ 39
  refine fnE_of (x := "_law_firsts") (qual := "_law_firsts") (st := Hd.s39) (f := (He.ga K "_law_firsts")) (N := N__law_firsts) (t := t__law_firsts ⟨K, Pg, w⟩) lk hcd (He.keep_ok (c.fact 93)) ⟨rfl, rfl, rfl, by decide +kernel, rfl, by decide +kernel, by decide +kernel⟩ (fun _ _ _ h => h.1) (fun us hl => match us, hl with | [_, _], _ => rfl) ?_ (fun _ _ _ h => h.2)
  intro cdv A outer s H E hr
  have hu := hr.units
  delta t__law_firsts
  exact (ds_cons (ds_set (ps_set (i := 2) nd__law_firsts rfl (Or.inl rfl) (de_lst da_nil))) (ds_cons (ds_for (vs := [3, 4]) PassesOwn.never rfl (di_enum (pi_enumA (by rfl) (He.free_ok KX G (c.fact 9)) (da_cons (de_var (pv 1)) da_nil))) (dg_un rfl (dgs_cons (dg_name (pg_name (i := 3) nd__law_firsts rfl (Or.inl rfl)) (by decide)) (dgs_cons (dg_name (pg_name (i := 4) nd__law_firsts rfl (Or.inr rfl)) (by decide)) dgs_nil))) (ds_one (ds_if (PW.pt (dw_and (dt_cmp (op_nmemD hu) o_mem (de_var (pv 4)) (de_var (pv 2))) (dw_and1 (dt_cmp (op_eqP hu) o_eqp (de_lc (pe_lc rfl nd__law_firsts (di_seq (de_sl (de_var (pv 1)) do_no (do_some (de_var (pv 3))))) (blkOk_by (own := [("b", 5)]) (by kernel_rfl)) (fun _ _ _ _ _ => (dg_name (pg_name (i := 5) nd__law_firsts rfl (Or.inl rfl)) (by decide))) (fun _ _ _ _ _ => (dts_one (dt_not (dt_val (de_call F__law_is_free (hr.mono (by decide)) (by rfl) (He.glo_ok KX G (c.fact 46)) kp__law_is_free b__law_is_free (da_cons (de_var (pv 0)) (da_cons (de_var (pv 4)) (da_cons (de_var (pv 5)) da_nil)))))))) (fun _ _ _ _ _ => (de_var (pv 5))))) (de_lst da_nil))))) (ds_one (ds_expr (de_bm (pe_bm F.plainAttrs_list F.slot_list_append F.type_list_append mt_append (de_var (pv 2)) (da_cons (de_var (pv 4)) da_nil)) tyd_lst m_app))) ds_nil))) (ds_one (ds_ret (de_cb (pe_callB (call_sortA rfl hu) (by rfl) (He.free_ok KX G (c.fact 45)) boot_sorted (da_cons (de_var (pv 2)) da_nil)) c_sort)))))
theorem ok__law_without  : FnE Pg w K mg base 1 (He.ga K "_law_without") ["row", "a"] (sp__law_without ⟨K, Pg, w⟩) := by
  obtain ⟨oc, od, osl, kV, doc, pm, an, cdv, ct, lk, hcd⟩ := c.def_ 40
  refine fnE_of (x := "_law_without") (qual := "_law_without") (st := Hd.s40) (f := (He.ga K "_law_without")) (N := N__law_without) (t := t__law_without ⟨K, Pg, w⟩) lk hcd (He.keep_ok (c.fact 94)) ⟨rfl, rfl, rfl, by decide +kernel, rfl, by decide +kernel, by decide +kernel⟩ (fun _ _ _ h => h.1) (fun us hl => match us, hl with | [_, _], _ => rfl) ?_ (fun _ _ _ h => h.2)
  intro cdv A outer s H E hr
  have hu := hr.units
  delta t__law_without
  exact (ds_cons (ds_set (ps_set (i := 2) nd__law_without rfl (Or.inl rfl) (de_tm (pe_tm F.slot_tuple_index F.type_tuple_index (mt_tidx hu) (de_var (pv 0)) (da_cons (de_var (pv 1)) da_nil)) m_tidx))) (ds_one (ds_ret (de_op op_addA o_add (de_sl (de_var (pv 0)) do_no (do_some (de_var (pv 2)))) (de_sl (de_var (pv 0)) (do_some (de_op op_addA o_add (de_var (pv 2)) de_int)) do_no)))))
theorem ok__law_normal (h__law_firsts : FnE Pg w K mg base 2 (He.ga K "_law_firsts") ["alphabet", "row"] (sp__law_firsts ⟨K, Pg, w⟩)) (h__law_without : FnE Pg w K mg base 1 (He.ga K "_law_without") ["row", "a"] (sp__law_without ⟨K, Pg, w⟩)) : FnE Pg w K mg base 3 (He.ga K "_law_normal") ["alphabet", "row"] (sp__law_normal ⟨K, Pg, w⟩) := by
  obtain ⟨fd__law_firsts, F__law_firsts, b__law_firsts, kp__law_firsts⟩ := h__law_firsts
  obtain ⟨fd__law_without, F__law_without, b__law_without, kp__law_without⟩ := h__law_without
  obtain ⟨oc, od, osl, kV, doc, pm, an, cdv, ct, lk, hcd⟩ := c.def_ 41
  refine fnE_of (x := "_law_normal") (qual := "_law_normal") (st := Hd.s41) (f := (He.ga K "_law_normal")) (N := N__law_normal) (t := t__law_normal ⟨K, Pg, w⟩) lk hcd (He.keep_ok (c.fact 95)) ⟨rfl, rfl, rfl, by decide +kernel, rfl, by decide +kernel, by decide +kernel⟩ (fun _ _ _ h => h.1) (fun us hl => match us, hl with | [_, _], _ => rfl) ?_ (fun _ _ _ h => h.2)
  intro cdv A outer s H E hr
  have hu := hr.units
  delta t__law_normal
  exact (ds_cons (ds_set (ps_set (i := 2) nd__law_normal rfl (Or.inl rfl) (de_tup da_nil))) (ds_cons (ds_while PassesOwn.never (dt_cmp (op_neP hu) o_eqp (de_var (pv 1)) (de_tup da_nil)) (ds_cons (ds_set (ps_set (i := 3) nd__law_normal rfl (Or.inl rfl) (de_ix (de_call F__law_firsts (hr.mono (by decide)) (by rfl) (He.glo_ok KX G (c.fact 48)) kp__law_firsts b__law_firsts (da_cons (de_var (pv 0)) (da_cons (de_var (pv 1)) da_nil))) de_int))) (ds_one (ds_par (ps_par (i := 2) (j := 1) rfl nd__law_normal rfl rfl (by decide) rfl rfl (da_cons (de_op op_addA o_add (de_var (pv 2)) (de_tup (da_cons (de_var (pv 3)) da_nil))) (da_cons (de_call F__law_without (hr.mono (by decide)) (by rfl) (He.glo_ok KX G (c.fact 47)) kp__law_without b__law_without (da_cons (de_var (pv 1)) (da_cons (de_var (pv 3)) da_nil))) da_nil)) (by first | rfl | decide +kernel)))))) (ds_one (ds_ret (de_var (pv 2))))))
theorem ok__law_lag (h__law_firsts : FnE Pg w K mg base 2 (He.ga K "_law_firsts") ["alphabet", "row"] (sp__law_firsts ⟨K, Pg, w⟩)) (h__law_normal : FnE Pg w K mg base 3 (He.ga K "_law_normal") ["alphabet", "row"] (sp__law_normal ⟨K, Pg, w⟩)) (h__law_without : FnE Pg w K mg base 1 (He.ga K "_law_without") ["row", "a"] (sp__law_without ⟨K, Pg, w⟩)) : FnE Pg w K mg base 4 (He.ga K "_law_lag") ["alphabet", "one", "other"] (sp__law_lag ⟨K, Pg, w⟩) := by
  obtain ⟨fd__law_firsts, F__law_firsts, b__law_firsts, kp__law_firsts⟩ := h__law_firsts
  obtain ⟨fd__law_normal, F__law_normal, b__law_normal, kp__law_normal⟩ := h__law_normal
  obtain ⟨fd__law_without, F__law_without, b__law_without, kp__law_without⟩ := h__law_without
  obtain ⟨oc, od, osl, kV, doc, pm, an, cdv, ct, lk, hcd⟩ := c.def_ 42
  refine fnE_of (x := "_law_lag") (qual := "_law_lag") (st := Hd.s42) (f := (He.ga K "_law_lag")) (N := N__law_lag) (t := t__law_lag ⟨K, Pg, w⟩) lk hcd (He.keep_ok (c.fact 96)) ⟨rfl, rfl, rfl, by decide +kernel, rfl, by decide +kernel, by decide +kernel⟩ (fun _ _ _ h => h.1) (fun us hl => match us, hl with | [_, _, _], _ => rfl) ?_ (fun _ _ _ h => h.2)
  intro cdv A outer s H E hr
  have hu := hr.units
  delta t__law_lag
  exact (ds_cons (ds_par (ps_par (i := 3) (j := 4) rfl nd__law_lag rfl rfl (by decide) rfl rfl (da_cons (de_tup da_nil) (da_cons (de_lc (pe_lc rfl nd__law_lag (di_seq (de_call F__law_firsts (hr.mono (by decide)) (by rfl) (He.glo_ok KX G (c.fact 48)) kp__law_firsts b__law_firsts (da_cons (de_var (pv 0)) (da_cons (de_var (pv 1)) da_nil)))) (blkOk_by (own := [("a", 5)]) (by kernel_rfl)) (fun _ _ _ _ _ => (dg_name (pg_name (i := 5) nd__law_lag rfl (Or.inl rfl)) (by decide))) (fun _ _ _ _ _ => (dts_one (dt_cmp (op_memD hu) o_mem (de_var (pv 5)) (de_call F__law_firsts (hr.mono (by decide)) (by rfl) (He.glo_ok KX G (c.fact 48)) kp__law_firsts b__law_firsts (da_cons (de_var (pv 0)) (da_cons (de_var (pv 2)) da_nil)))))) (fun _ _ _ _ _ => (de_var (pv 5))))) da_nil)) (by first | rfl | decide +kernel))) (ds_cons (ds_while PassesOwn.never (dt_cmp (op_neP hu) o_eqp (de_var (pv 4)) (de_lst da_nil)) (ds_cons (ds_set (ps_set (i := 3) nd__law_lag rfl (Or.inl rfl) (de_op op_addA o_add (de_var (pv 3)) (de_tup (da_cons (de_ix (de_var (pv 4)) de_int) da_nil))))) (ds_cons (ds_asg (vs := [1, 2]) (de_tup (da_cons (de_call F__law_without (hr.mono (by decide)) (by rfl) (He.glo_ok KX G (c.fact 47)) kp__law_without b__law_without (da_cons (de_var (pv 1)) (da_cons (de_ix (de_var (pv 4)) de_int) da_nil))) (da_cons (de_call F__law_without (hr.mono (by decide)) (by rfl) (He.glo_ok KX G (c.fact 47)) kp__law_without b__law_without (da_cons (de_var (pv 2)) (da_cons (de_ix (de_var (pv 4)) de_int) da_nil))) da_nil))) (dg_un rfl (dgs_cons (dg_name (pg_name (i := 1) nd__law_lag rfl (Or.inl rfl)) (by decide)) (dgs_cons (dg_name (pg_name (i := 2) nd__law_lag rfl (Or.inr rfl)) (by decide)) dgs_nil)))) (ds_one (ds_setLc (ps_setLc (i := 4) rfl nd__law_lag rfl rfl (sw_true rfl rfl rfl (by decide +kernel)) (di_seq (de_call F__law_firsts (hr.mono (by decide)) (by rfl) (He.glo_ok KX G (c.fact 48)) kp__law_firsts b__law_firsts (da_cons (de_var (pv 0)) (da_cons (de_var (pv 1)) da_nil)))) (blkOk_by (own := [("a", 5)]) (by kernel_rfl)) (fun _ _ _ _ _ => (dg_name (pg_name (i := 5) nd__law_lag rfl (Or.inl rfl)) (by decide))) (fun _ _ _ _ _ => (dts_one (dt_cmp (op_memD hu) o_mem (de_var (pv 5)) (de_call F__law_firsts (hr.mono (by decide)) (by rfl) (He.glo_ok KX G (c.fact 48)) kp__law_firsts b__law_firsts (da_cons (de_var (pv 0)) (da_cons (de_var (pv 2)) da_nil)))))) (fun _ _ _ _ _ => (de_var (pv 5))))))))) (ds_one (ds_ret (de_tup (da_cons (de_call F__law_normal (hr.mono (by decide)) (by rfl) (He.glo_ok KX G (c.fact 49)) kp__law_normal b__law_normal (da_cons (de_var (pv 0)) (da_cons (de_var (pv 3)) da_nil))) (da_cons (de_call F__law_normal (hr.mono (by decide)) (by rfl) (He.glo_ok KX G (c.fact 49)) kp__law_normal b__law_normal (da_cons (de_var (pv 0)) (da_cons (de_var (pv 1)) da_nil))) (da_cons (de_call F__law_normal (hr.mono (by decide)) (by rfl) (He.glo_ok KX G (c.fact 49)) kp__law_normal b__law_normal (da_cons (de_var (pv 0)) (da_cons (de_var (pv 2)) da_nil))) da_nil))))))))
theorem ok__law_left_of (h__law_firsts : FnE Pg w K mg base 2 (He.ga K "_law_firsts") ["alphabet", "row"] (sp__law_firsts ⟨K, Pg, w⟩)) (h__law_normal : FnE Pg w K mg base 3 (He.ga K "_law_normal") ["alphabet", "row"] (sp__law_normal ⟨K, Pg, w⟩)) (h__law_without : FnE Pg w K mg base 1 (He.ga K "_law_without") ["row", "a"] (sp__law_without ⟨K, Pg, w⟩)) : FnE Pg w K mg base 4 (He.ga K "_law_left_of") ["alphabet", "begin", "row"] (sp__law_left_of ⟨K, Pg, w⟩) := by
  obtain ⟨fd__law_firsts, F__law_firsts, b__law_firsts, kp__law_firsts⟩ := h__law_firsts
  obtain ⟨fd__law_normal, F__law_normal, b__law_normal, kp__law_normal⟩ := h__law_normal
  obtain ⟨fd__law_without, F__law_without, b__law_without, kp__law_without⟩ := h__law_without
  obtain ⟨oc, od, osl, kV, doc, pm, an, cdv, ct, lk, hcd⟩ := c.def_ 43
  refine fnE_of (x := "_law_left_of") (qual := "_law_left_of") (st := Hd.s43) (f := (He.ga K "_law_left_of")) (N := N__law_left_of) (t := t__law_left_of ⟨K, Pg, w⟩) lk hcd (He.keep_ok (c.fact 97)) ⟨rfl, rfl, rfl, by decide +kernel, rfl, by decide +kernel, by decide +kernel⟩ (fun _ _ _ h => h.1) (fun us hl => match us, hl with | [_, _, _], _ => rfl) ?_ (fun _ _ _ h => h.2)
  intro cdv A outer s H E hr
  have hu := hr.units
  delta t__law_left_of
  exact (ds_cons (ds_for (vs := [3]) PassesOwn.never rfl (di_seq (de_var (pv 1))) (dg_name (pg_name (i := 3) nd__law_left_of rfl (Or.inl rfl)) (by decide)) (ds_cons (ds_if (dt_cmp (op_nmemD hu) o_mem (de_var (pv 3)) (de_call F__law_firsts (hr.mono (by decide)) (by rfl) (He.glo_ok KX G (c.fact 48)) kp__law_firsts b__law_firsts (da_cons (de_var (pv 0)) (da_cons (de_var (pv 2)) da_nil)))) (ds_one (ds_ret de_non)) ds_nil) (ds_one (ds_set (ps_set (i := 2) nd__law_left_of rfl (Or.inl rfl) (de_call F__law_without (hr.mono (by decide)) (by rfl) (He.glo_ok KX G (c.fact 47)) kp__law_without b__law_without (da_cons (de_var (pv 2)) (da_cons (de_var (pv 3)) da_nil)))))))) (ds_one (ds_ret (de_call F__law_normal (hr.mono (by decide)) (by rfl) (He.glo_ok KX G (c.fact 49)) kp__law_normal b__law_normal (da_cons (de_var (pv 0)) (da_cons (de_var (pv 2)) da_nil))))))
theorem ok__law_class (h__law_is_free : FnE Pg w K mg base 1 (He.ga K "_law_is_free") ["alphabet", "a", "b"] (sp__law_is_free ⟨K, Pg, w⟩)) : FnE Pg w K mg base 2 (He.ga K "_law_class") ["alphabet", "row", "most"] (sp__law_class ⟨K, Pg, w⟩) := by
  obtain ⟨fd__law_is_free, F__law_is_free, b__law_is_free, kp__law_is_free⟩ := h__law_is_free
  obtain ⟨oc, od, osl, kV, doc, pm, an, cdv, ct, lk, hcd⟩ := c.def_ 44
  refine fnE_of (x := "_law_class") (qual := "_law_class") (st := Hd.s44) (f := (He.ga K "_law_class")) (N := N__law_class) (t := t__law_class ⟨K, Pg, w⟩) lk hcd (He.keep_ok (c.fact 98)) ⟨rfl, rfl, rfl, by decide +kernel, rfl, by decide +kernel, by decide +kernel⟩ (fun _ _ _ h => h.1) (fun us hl => match us, hl with | [_, _, _], _ => rfl) ?_ (fun _ _ _ h => h.2)
  intro cdv A outer s H E hr
  have hu := hr.units
  delta t__law_class
  exact (ds_cons (ds_par (ps_par (i := 3) (j := 4) rfl nd__law_class rfl rfl (by decide) rfl rfl (da_cons (de_oneT hu (de_var (pv 1)) de_bl) (da_cons (de_lst (da_cons (de_var (pv 1)) da_nil)) da_nil)) (by first | rfl | decide +kernel))) (ds_cons (ds_while PassesOwn.never (dt_cmp (op_neP hu) o_eqp (de_var (pv 4)) (de_lst da_nil)) (ds_cons (ds_set (ps_set (i := 5) nd__law_class rfl (Or.inl rfl) (de_bm0 (pe_bm0 F.plainAttrs_list F.slot_list_pop F.type_list_pop mt_pop (de_var (pv 4))) tyd_lst m_pop))) (ds_one (ds_for (vs := [6]) PassesOwn.never rfl (di_rng1 (pi_range1 (by rfl) (He.free_ok KX G (c.fact 16)) (da_cons (de_op op_sub o_int0 (de_cb (pe_callB call_lenA (by rfl) (He.free_ok KX G (c.fact 11)) boot_len (da_cons (de_var (pv 5)) da_nil)) c_len) de_int) da_nil))) (dg_name (pg_name (i := 6) nd__law_class rfl (Or.inl rfl)) (by decide)) (ds_one (ds_if (dt_val (de_call F__law_is_free (hr.mono (by decide)) (by rfl) (He.glo_ok KX G (c.fact 46)) kp__law_is_free b__law_is_free (da_cons (de_var (pv 0)) (da_cons (de_ix (de_var (pv 5)) (de_var (pv 6))) (da_cons (de_ix (de_var (pv 5)) (de_op op_addA o_add (de_var (pv 6)) de_int)) da_nil))))) (ds_cons (ds_set (ps_set (i := 7) nd__law_class rfl (Or.inl rfl) (de_op op_addA o_add (de_op op_addA o_add (de_sl (de_var (pv 5)) do_no (do_some (de_var (pv 6)))) (de_tup (da_cons (de_ix (de_var (pv 5)) (de_op op_addA o_add (de_var (pv 6)) de_int)) (da_cons (de_ix (de_var (pv 5)) (de_var (pv 6))) da_nil)))) (de_sl (de_var (pv 5)) (do_some (de_op op_addA o_add (de_var (pv 6)) de_int)) do_no)))) (ds_one (ds_if (dt_dnin hu (de_var (pv 7)) (de_var (pv 3))) (ds_cons (ds_if (dt_cmp (op_geD hu) o_cmp (de_cb (pe_callB call_lenA (by rfl) (He.free_ok KX G (c.fact 11)) boot_len (da_cons (de_var (pv 3)) da_nil)) c_len) (de_var (pv 2))) (ds_one (ds_ret de_str)) ds_nil) (ds_cons (ds_dput hu (de_var (pv 3)) (de_var (pv 7)) de_bl) (ds_one (ds_expr (de_bm (pe_bm F.plainAttrs_list F.slot_list_append F.type_list_append mt_append (de_var (pv 4)) (da_cons (de_var (pv 7)) da_nil)) tyd_lst m_app))))) ds_nil))) ds_nil)))))) (ds_one (ds_ret (de_cb (pe_callB (call_sortA rfl hu) (by rfl) (He.free_ok KX G (c.fact 45)) boot_sorted (da_cons (de_var (pv 3)) da_nil)) c_sort)))))
theorem ok__law_row (h__law_some : FnE Pg w K mg base 2 (He.ga K "_law_some") ["bag", "things"] (sp__law_some ⟨K, Pg, w⟩)) (h__law_take : FnE Pg w K mg base 1 (He.ga K "_law_take") ["bag", "many"] (sp__law_take ⟨K, Pg, w⟩)) : FnE Pg w K mg base 3 (He.ga K "_law_row") ["bag", "signs", "most"] (sp__law_row ⟨K, Pg, w⟩) := by
  obtain ⟨fd__law_some, F__law_some, b__law_some, kp__law_some⟩ := h__law_some
  obtain ⟨fd__law_take, F__law_take, b__law_take, kp__law_take⟩ := h__law_take
  obtain ⟨oc, od, osl, kV, doc, pm, an, cdv, ct, lk, hcd⟩ := c.def_ 45
  refine fnE_of (x := "_law_row") (qual := "_law_row") (st := Hd.s45) (f := (He.ga K "_law_row")) (N := N__law_row) (t := t__law_row ⟨K, Pg, w⟩) lk hcd (He.keep_ok (c.fact 99)) ⟨rfl, rfl, rfl, by decide +kernel, rfl, by decide +kernel, by decide +kernel⟩ (fun _ _ _ h => h.1) (fun us hl => match us, hl with | [_, _, _], _ => rfl) ?_ (fun _ _ _ h => h.2)
  intro cdv A outer s H E hr
  have hu := hr.units
  delta t__law_row
  exact (ds_one (ds_ret (de_cb (pe_callTy call_tupleF (by rfl) (He.free_ok KX G (c.fact 8)) boot_tuple (da_cons (de_lc (pe_lc rfl nd__law_row (di_rng1 (pi_range1 (by rfl) (He.free_ok KX G (c.fact 16)) (da_cons (de_call F__law_take (hr.mono (by decide)) (by rfl) (He.glo_ok KX G (c.fact 43)) kp__law_take b__law_take (da_cons (de_var (pv 0)) (da_cons (de_op op_addA o_add (de_var (pv 2)) de_int) da_nil))) da_nil))) (blkOk_by (own := [("k", 3)]) (by kernel_rfl)) (fun _ _ _ _ _ => (dg_name (pg_name (i := 3) nd__law_row rfl (Or.inl rfl)) (by decide))) (fun _ _ _ _ _ => dts_nil) (fun _ _ _ _ _ => (de_call F__law_some (hr.mono (by decide)) (by rfl) (He.glo_ok KX G (c.fact 50)) kp__law_some b__law_some (da_cons (de_var (pv 0)) (da_cons (de_var (pv 1)) da_nil)))))) da_nil)) c_tup)))
theorem ok__law_parting (h__law_cut : FnE Pg w K mg base 1 (He.ga K "_law_cut") ["row", "signs"] (sp__law_cut ⟨K, Pg, w⟩)) (h__law_is_free : FnE Pg w K mg base 1 (He.ga K "_law_is_free") ["alphabet", "a", "b"] (sp__law_is_free ⟨K, Pg, w⟩)) : FnE Pg w K mg base 2 (He.ga K "_law_parting") ["alphabet", "due", "came", "sign"] (sp__law_parting ⟨K, Pg, w⟩) := by
  obtain ⟨fd__law_cut, F__law_cut, b__law_cut, kp__law_cut⟩ := h__law_cut
  obtain ⟨fd__law_is_free, F__law_is_free, b__law_is_free, kp__law_is_free⟩ := h__law_is_free
  obtain ⟨oc, od, osl, kV, doc, pm, an, cdv, ct, lk, hcd⟩ := c.def_ 46
  refine fnE_of (x := "_law_parting") (qual := "_law_parting") (st := Hd.s46) (f := (He.ga K "_law_parting")) (N := N__law_parting) (t := t__law_parting ⟨K, Pg, w⟩) lk hcd (He.keep_ok (c.fact 100)) ⟨rfl, rfl, rfl, by decide +kernel, rfl, by decide +kernel, by decide +kernel⟩ (fun _ _ _ h => h.1) (fun us hl => match us, hl with | [_, _, _, _], _ => rfl) ?_ (fun _ _ _ h => h.2)
  intro cdv A outer s H E hr
  have hu := hr.units
  delta t__law_parting
  exact (ds_cons (ds_set (ps_set (i := 4) nd__law_parting rfl (Or.inl rfl) (de_op op_addA o_add (de_var (pv 2)) (de_tup (da_cons (de_var (pv 3)) da_nil))))) (ds_cons (ds_if (dt_cmp (op_gtD hu) o_cmp (de_tm (pe_tm F.slot_tuple_count F.type_tuple_count (mt_tcnt hu) (de_var (pv 4)) (da_cons (de_var (pv 3)) da_nil)) m_tcnt) (de_tm (pe_tm F.slot_tuple_count F.type_tuple_count (mt_tcnt hu) (de_var (pv 1)) (da_cons (de_var (pv 3)) da_nil)) m_tcnt)) (ds_one (ds_ret (de_tup (da_cons de_str (da_cons (de_var (pv 3)) da_nil))))) ds_nil) (ds_cons (ds_for (vs := [5, 6]) PassesOwn.never rfl (di_enum (pi_enumA (by rfl) (He.free_ok KX G (c.fact 9)) (da_cons (de_ix (de_var (pv 0)) de_int) da_nil))) (dg_un rfl (dgs_cons (dg_name (pg_name (i := 5) nd__law_parting rfl (Or.inl rfl)) (by decide)) (dgs_cons (dg_name (pg_name (i := 6) nd__law_parting rfl (Or.inl rfl)) (by decide)) dgs_nil))) (ds_one (ds_for (vs := [7]) PassesOwn.never rfl (di_seq (de_sl (de_ix (de_var (pv 0)) de_int) (do_some (de_op op_addA o_add (de_var (pv 5)) de_int)) do_no)) (dg_name (pg_name (i := 7) nd__law_parting rfl (Or.inl rfl)) (by decide)) (ds_one (ds_if (PW.pt (dw_and (dt_cmp (op_memD hu) o_mem (de_var (pv 3)) (de_tup (da_cons (de_var (pv 6)) (da_cons (de_var (pv 7)) da_nil)))) (dw_and1 (dt_not (dt_val (de_call F__law_is_free (hr.mono (by decide)) (by rfl) (He.glo_ok KX G (c.fact 46)) kp__law_is_free b__law_is_free (da_cons (de_var (pv 0)) (da_cons (de_var (pv 6)) (da_cons (de_var (pv 7)) da_nil))))))))) (ds_cons (ds_par (ps_par (i := 8) (j := 9) rfl nd__law_parting rfl rfl (by decide) rfl rfl (da_cons (de_call F__law_cut (hr.mono (by decide)) (by rfl) (He.glo_ok KX G (c.fact 51)) kp__law_cut b__law_cut (da_cons (de_var (pv 4)) (da_cons (de_tup (da_cons (de_var (pv 6)) (da_cons (de_var (pv 7)) da_nil))) da_nil))) (da_cons (de_call F__law_cut (hr.mono (by decide)) (by rfl) (He.glo_ok KX G (c.fact 51)) kp__law_cut b__law_cut (da_cons (de_var (pv 1)) (da_cons (de_tup (da_cons (de_var (pv 6)) (da_cons (de_var (pv 7)) da_nil))) da_nil))) da_nil)) (by first | rfl | decide +kernel))) (ds_one (ds_if (dt_cmp (op_neP hu) o_eqp (de_var (pv 8)) (de_sl (de_var (pv 9)) do_no (do_some (de_cb (pe_callB call_lenA (by rfl) (He.free_ok KX G (c.fact 11)) boot_len (da_cons (de_var (pv 8)) da_nil)) c_len)))) (ds_one (ds_ret (de_tup (da_cons de_str (da_cons (de_var (pv 6)) (da_cons (de_var (pv 7)) (da_cons (de_op op_sub o_int0 (de_cb (pe_callB call_lenA (by rfl) (He.free_ok KX G (c.fact 11)) boot_len (da_cons (de_var (pv 8)) da_nil)) c_len) de_int) da_nil))))))) ds_nil))) ds_nil))))) (ds_one (ds_ret de_non)))))
theorem ok__law_met (h__law_is_free : FnE Pg w K mg base 1 (He.ga K "_law_is_free") ["alphabet", "a", "b"] (sp__law_is_free ⟨K, Pg, w⟩)) : FnE Pg w K mg base 2 (He.ga K "_law_met") ["alphabet", "one", "other"] (sp__law_met ⟨K, Pg, w⟩) := by
  obtain ⟨fd__law_is_free, F__law_is_free, b__law_is_free, kp__law_is_free⟩ := h__law_is_free
  obtain ⟨oc, od, osl, kV, doc, pm, an, cdv, ct, lk, hcd⟩ := c.def_ 47
  refine fnE_of (x := "_law_met") (qual := "_law_met") (st := Hd.s47) (f := (He.ga K "_law_met")) (N := N__law_met) (t := t__law_met ⟨K, Pg, w⟩) lk hcd (He.keep_ok (c.fact 101)) ⟨rfl, rfl, rfl, by decide +kernel, rfl, by decide +kernel, by decide +kernel⟩ (fun _ _ _ h => h.1) (fun us hl => match us, hl with | [_, _, _], _ => rfl) ?_ (fun _ _ _ h => h.2)
  intro cdv A outer s H E hr
  have hu := hr.units
  delta t__law_met
  exact (ds_cons (ds_set (ps_set (i := 3) nd__law_met rfl (Or.inl rfl) (de_lst da_nil))) (ds_cons (ds_for (vs := [4]) PassesOwn.never rfl (di_seq (de_var (pv 1))) (dg_name (pg_name (i := 4) nd__law_met rfl (Or.inr rfl)) (by decide)) (ds_one (ds_expr (de_bm (pe_bm F.plainAttrs_list F.slot_list_extend F.type_list_extend mt_extend (de_var (pv 3)) (da_cons (de_lc (pe_lc rfl nd__law_met (di_seq (de_var (pv 2))) (blkOk_by (own := [("b", 5)]) (by kernel_rfl)) (fun _ _ _ _ _ => (dg_name (pg_name (i := 5) nd__law_met rfl (Or.inl rfl)) (by decide))) (fun _ _ _ _ _ => (dts_one (dt_not (dt_val (de_call F__law_is_free (hr.mono (by decide)) (by rfl) (He.glo_ok KX G (c.fact 46)) kp__law_is_free b__law_is_free (da_cons (de_var (pv 0)) (da_cons (de_var (pv 4)) (da_cons (de_var (pv 5)) da_nil)))))))) (fun _ _ _ _ _ => (de_tup (da_cons (de_cb (pe_callB (call_min2A rfl) (by rfl) (He.free_ok KX G (c.fact 6)) boot_min (da_cons (de_var (pv 4)) (da_cons (de_var (pv 5)) da_nil))) c_min2) (da_cons (de_cb (pe_callB (call_max2A rfl) (by rfl) (He.free_ok KX G (c.fact 5)) boot_max (da_cons (de_var (pv 4)) (da_cons (de_var (pv 5)) da_nil))) c_max2) da_nil)))))) da_nil)) tyd_lst m_ext)))) (ds_one (ds_ret (de_ifExp (dt_cmp (op_eqP hu) o_eqp (de_var (pv 3)) (de_lst da_nil)) de_non (de_op op_addA o_add (de_tup (da_cons de_str da_nil)) (de_cb (pe_callB (call_minD rfl hu) (by rfl) (He.free_ok KX G (c.fact 6)) boot_min (da_cons (de_var (pv 3)) da_nil)) c_minD)))))))
theorem ok_law (h_Monitor___init__ : FnE Pg w K mg base 4 (He.ma K (He.ga K "Monitor") "__init__") ["self", "alphabet", "due"] (sp_Monitor___init__ ⟨K, Pg, w⟩)) (h_Monitor_came : FnE Pg w K mg base 1 (He.ma K (He.ga K "Monitor") "came") ["self"] (sp_Monitor_came ⟨K, Pg, w⟩)) (h_Monitor_is_done : FnE Pg w K mg base 2 (He.ma K (He.ga K "Monitor") "is_done") ["self"] (sp_Monitor_is_done ⟨K, Pg, w⟩)) (h_Monitor_left : FnE Pg w K mg base 5 (He.ma K (He.ga K "Monitor") "left") ["self"] (sp_Monitor_left ⟨K, Pg, w⟩)) (h_Monitor_put : FnE Pg w K mg base 3 (He.ma K (He.ga K "Monitor") "put") ["self", "sign"] (sp_Monitor_put ⟨K, Pg, w⟩)) (h_Monitor_twin : FnE Pg w K mg base 6 (He.ma K (He.ga K "Monitor") "twin") ["self"] (sp_Monitor_twin ⟨K, Pg, w⟩)) (h_Watch___init__ : FnE Pg w K mg base 1 (He.ma K (He.ga K "Watch") "__init__") ["self", "alphabet"] (sp_Watch___init__ ⟨K, Pg, w⟩)) (h_Watch_are_even : FnE Pg w K mg base 1 (He.ma K (He.ga K "Watch") "are_even") ["self"] (sp_Watch_are_even ⟨K, Pg, w⟩)) (h_Watch_lag : FnE Pg w K mg base 1 (He.ma K (He.ga K "Watch") "lag") ["self"] (sp_Watch_lag ⟨K, Pg, w⟩)) (h_Watch_put : FnE Pg w K mg base 8 (He.ma K (He.ga K "Watch") "put") ["self", "side", "sign"] (sp_Watch_put ⟨K, Pg, w⟩)) (h_Watch_twin : FnE Pg w K mg base 3 (He.ma K (He.ga K "Watch") "twin") ["self"] (sp_Watch_twin ⟨K, Pg, w⟩)) (h__law_alike : FnT Pg w K mg base 1 (He.ga K "_law_alike") ["found", "due"] (sp__law_alike ⟨K, Pg, w⟩)) (h__law_alphabet : FnE Pg w K mg base 2 (He.ga K "_law_alphabet") ["bag", "signs"] (sp__law_alphabet ⟨K, Pg, w⟩)) (h__law_bag : FnE Pg w K mg base 1 (He.ga K "_law_bag") ["script"] (sp__law_bag ⟨K, Pg, w⟩)) (h__law_class : FnE Pg w K mg base 2 (He.ga K "_law_class") ["alphabet", "row", "most"] (sp__law_class ⟨K, Pg, w⟩)) (h__law_lag : FnE Pg w K mg base 4 (He.ga K "_law_lag") ["alphabet", "one", "other"] (sp__law_lag ⟨K, Pg, w⟩)) (h__law_left_of : FnE Pg w K mg base 4 (He.ga K "_law_left_of") ["alphabet", "begin", "row"] (sp__law_left_of ⟨K, Pg, w⟩)) (h__law_met : FnE Pg w K mg base 2 (He.ga K "_law_met") ["alphabet", "one", "other"] (sp__law_met ⟨K, Pg, w⟩)) (h__law_parting : FnE Pg w K mg base 2 (He.ga K "_law_parting") ["alphabet", "due", "came", "sign"] (sp__law_parting ⟨K, Pg, w⟩)) (h__law_row : FnE Pg w K mg base 3 (He.ga K "_law_row") ["bag", "signs", "most"] (sp__law_row ⟨K, Pg, w⟩)) (h__law_some : FnE Pg w K mg base 2 (He.ga K "_law_some") ["bag", "things"] (sp__law_some ⟨K, Pg, w⟩)) (h__law_take : FnE Pg w K mg base 1 (He.ga K "_law_take") ["bag", "many"] (sp__law_take ⟨K, Pg, w⟩)) (h_looked_at : FnE Pg w K mg base 6 (He.ga K "looked_at") ["alphabet", "due", "row"] (sp_looked_at ⟨K, Pg, w⟩)) (h_looked_at_both : FnE Pg w K mg base 9 (He.ga K "looked_at_both") ["alphabet", "steps"] (sp_looked_at_both ⟨K, Pg, w⟩)) : FnT Pg w K mg base 10 (He.ga K "law") ["script"] (sp_law ⟨K, Pg, w⟩) := by
  obtain ⟨fd_Monitor___init__, F_Monitor___init__, b_Monitor___init__, kp_Monitor___init__⟩ := h_Monitor___init__
  obtain ⟨fd_Monitor_came, F_Monitor_came, b_Monitor_came, kp_Monitor_came⟩ := h_Monitor_came
  obtain ⟨fd_Monitor_is_done, F_Monitor_is_done, b_Monitor_is_done, kp_Monitor_is_done⟩ := h_Monitor_is_done
  obtain ⟨fd_Monitor_left, F_Monitor_left, b_Monitor_left, kp_Monitor_left⟩ := h_Monitor_left
  obtain ⟨fd_Monitor_put, F_Monitor_put, b_Monitor_put, kp_Monitor_put⟩ := h_Monitor_put
  obtain ⟨fd_Monitor_twin, F_Monitor_twin, b_Monitor_twin, kp_Monitor_twin⟩ := h_Monitor_twin
  obtain ⟨fd_Watch___init__, F_Watch___init__, b_Watch___init__, kp_Watch___init__⟩ := h_Watch___init__
  obtain ⟨fd_Watch_are_even, F_Watch_are_even, b_Watch_are_even, kp_Watch_are_even⟩ := h_Watch_are_even
  obtain ⟨fd_Watch_lag, F_Watch_lag, b_Watch_lag, kp_Watch_lag⟩ := h_Watch_lag
  obtain ⟨fd_Watch_put, F_Watch_put, b_Watch_put, kp_Watch_put⟩ := h_Watch_put
  obtain ⟨fd_Watch_twin, F_Watch_twin, b_Watch_twin, kp_Watch_twin⟩ := h_Watch_twin
  obtain ⟨fd__law_alike, F__law_alike, b__law_alike, kp__law_alike⟩ := h__law_alike
  obtain ⟨fd__law_alphabet, F__law_alphabet, b__law_alphabet, kp__law_alphabet⟩ := h__law_alphabet
  obtain ⟨fd__law_bag, F__law_bag, b__law_bag, kp__law_bag⟩ := h__law_bag
  obtain ⟨fd__law_class, F__law_class, b__law_class, kp__law_class⟩ := h__law_class
  obtain ⟨fd__law_lag, F__law_lag, b__law_lag, kp__law_lag⟩ := h__law_lag
  obtain ⟨fd__law_left_of, F__law_left_of, b__law_left_of, kp__law_left_of⟩ := h__law_left_of
  obtain ⟨fd__law_met, F__law_met, b__law_met, kp__law_met⟩ := h__law_met
  obtain ⟨fd__law_parting, F__law_parting, b__law_parting, kp__law_parting⟩ := h__law_parting
  obtain ⟨fd__law_row, F__law_row, b__law_row, kp__law_row⟩ := h__law_row
  obtain ⟨fd__law_some, F__law_some, b__law_some, kp__law_some⟩ := h__law_some
  obtain ⟨fd__law_take, F__law_take, b__law_take, kp__law_take⟩ := h__law_take
  obtain ⟨fd_looked_at, F_looked_at, b_looked_at, kp_looked_at⟩ := h_looked_at
  obtain ⟨fd_looked_at_both, F_looked_at_both, b_looked_at_both, kp_looked_at_both⟩ := h_looked_at_both
  obtain ⟨oc, od, osl, kV, doc, pm, an, cdv, ct, lk, hcd⟩ := c.def_ 48
  refine fnT_of (x := "law") (qual := "law") (st := Hd.s48) (f := (He.ga K "law")) (N := N_law) (t := t_law ⟨K, Pg, w⟩) lk hcd (He.keep_ok (c.fact 102)) ⟨rfl, rfl, rfl, by decide +kernel, rfl, by decide +kernel, by decide +kernel⟩ (fun _ _ _ h => h.1) (fun us hl => match us, hl with | [_], _ => rfl) ?_ (fun _ _ _ h => h.2)
  intro cdv A outer s H E st hr
  have hu := hr.units
  delta t_law t_law_p1 t_law_p2 t_law_p3 t_law_p4 t_law_p5 t_law_p6 t_law_p7 t_law_p8 t_law_p9 t_law_p10 t_law_p11 t_law_p12 t_law_l13 t_law_p14 t_law_p15 t_law_p16 t_law_l17 t_law_p18 t_law_p19 t_law_p20 t_law_p21 t_law_p22 t_law_p23 t_law_l24 t_law_p25 t_law_p26 t_law_p27 t_law_p28 t_law_p29 t_law_p30 t_law_p31 t_law_l32 t_law_p33
  exact (ds_cons (ds_set (ps_set (i := 1) nd_law rfl (Or.inl rfl) (de_call F__law_bag (hr.mono (by decide)) (by rfl) (He.glo_ok KX G (c.fact 69)) kp__law_bag b__law_bag (da_cons (de_var (pv 0)) da_nil)))) (ds_cons (ds_for (vs := [2]) PassesOwn.never rfl (di_rng1 (pi_range1 (by rfl) (He.free_ok KX G (c.fact 16)) (da_cons de_int da_nil))) (dg_name (pg_name (i := 2) nd_law rfl (Or.inl rfl)) (by decide)) (ds_cons (ds_set (ps_set (i := 3) nd_law rfl (Or.inl rfl) (de_call F__law_alphabet (hr.mono (by decide)) (by rfl) (He.glo_ok KX G (c.fact 68)) kp__law_alphabet b__law_alphabet (da_cons (de_var (pv 1)) (da_cons (de_sl (de_tup (da_cons de_str (da_cons de_str (da_cons de_str (da_cons de_str da_nil))))) do_no (do_some (de_op op_addA o_add de_int (de_call F__law_take (hr.mono (by decide)) (by rfl) (He.glo_ok KX G (c.fact 43)) kp__law_take b__law_take (da_cons (de_var (pv 1)) (da_cons de_int da_nil)))))) da_nil))))) (ds_cons (ds_set (ps_set (i := 4) nd_law rfl (Or.inl rfl) (de_call F__law_row (hr.mono (by decide)) (by rfl) (He.glo_ok KX G (c.fact 67)) kp__law_row b__law_row (da_cons (de_var (pv 1)) (da_cons (de_ix (de_var (pv 3)) de_int) (da_cons de_int da_nil)))))) (ds_cons (ds_set (ps_set (i := 5) nd_law rfl (Or.inl rfl) (de_call F__law_class (hr.mono (by decide)) (by rfl) (He.glo_ok KX G (c.fact 66)) kp__law_class b__law_class (da_cons (de_var (pv 3)) (da_cons (de_var (pv 4)) (da_cons de_int da_nil)))))) (ds_cons (ds_set (ps_set (i := 6) nd_law rfl (Or.inl rfl) (de_ifExp (dt_cmp (op_neP hu) o_eqp (de_var (pv 5)) de_str) (de_cb (pe_callTy call_list_of (by rfl) (He.free_ok KX G (c.fact 29)) boot_list (da_cons (de_call F__law_some (hr.mono (by decide)) (by rfl) (He.glo_ok KX G (c.fact 50)) kp__law_some b__law_some (da_cons (de_var (pv 1)) (da_cons (de_var (pv 5)) da_nil))) da_nil)) c_lst) (de_cb (pe_callTy call_list_of (by rfl) (He.free_ok KX G (c.fact 29)) boot_list (da_cons (de_var (pv 4)) da_nil)) c_lst)))) (ds_cons (ds_if (dt_cmp (op_eqP hu) o_eqp (de_call F__law_take (hr.mono (by decide)) (by rfl) (He.glo_ok KX G (c.fact 43)) kp__law_take b__law_take (da_cons (de_var (pv 1)) (da_cons de_int da_nil))) de_int) (ds_one (ds_expr (de_bm (pe_bm F.plainAttrs_list F.slot_list_insert F.type_list_insert mt_insert (de_var (pv 6)) (da_cons (de_call F__law_take (hr.mono (by decide)) (by rfl) (He.glo_ok KX G (c.fact 43)) kp__law_take b__law_take (da_cons (de_var (pv 1)) (da_cons (de_op op_addA o_add (de_cb (pe_callB call_lenA (by rfl) (He.free_ok KX G (c.fact 11)) boot_len (da_cons (de_var (pv 6)) da_nil)) c_len) de_int) da_nil))) (da_cons (de_call F__law_some (hr.mono (by decide)) (by rfl) (He.glo_ok KX G (c.fact 50)) kp__law_some b__law_some (da_cons (de_var (pv 1)) (da_cons (de_ix (de_var (pv 3)) de_int) da_nil))) da_nil))) tyd_lst m_ins))) ds_nil) (ds_cons (ds_asg (vs := [9, 10, 11, 12]) (de_tup (da_cons (de_make (pe_make (He.mkr_ok (c.fact 31)) F_Monitor___init__ (hr.mono (by decide)) (by rfl) (He.glo_ok KX G (c.fact 32)) b_Monitor___init__ .nil pass0 (da_cons (de_var (pv 3)) (da_cons (de_var (pv 4)) da_nil)))) (da_cons (de_tup da_nil) (da_cons de_non (da_cons (de_cb (pe_callB call_lenA (by rfl) (He.free_ok KX G (c.fact 11)) boot_len (da_cons (de_var (pv 6)) da_nil)) c_len) da_nil))))) (dg_un rfl (dgs_cons (dg_name (pg_name (i := 9) nd_law rfl (Or.inl rfl)) (by decide)) (dgs_cons (dg_name (pg_name (i := 10) nd_law rfl (Or.inl rfl)) (by decide)) (dgs_cons (dg_name (pg_name (i := 11) nd_law rfl (Or.inl rfl)) (by decide)) (dgs_cons (dg_name (pg_name (i := 12) nd_law rfl (Or.inl rfl)) (by decide)) dgs_nil)))))) (ds_cons (ds_for (vs := [7, 13]) PassesOwn.never rfl (di_enum (pi_enumA (by rfl) (He.free_ok KX G (c.fact 9)) (da_cons (de_var (pv 6)) da_nil))) (dg_un rfl (dgs_cons (dg_name (pg_name (i := 7) nd_law rfl (Or.inl rfl)) (by decide)) (dgs_cons (dg_name (pg_name (i := 13) nd_law rfl (Or.inl rfl)) (by decide)) dgs_nil))) (ds_cons (ds_if (PW.pt (dw_and (dt_cmp op_isN o_isN (de_var (pv 11)) de_non) (dw_and1 (dt_cmp op_isN o_isN (de_call F__law_left_of (hr.mono (by decide)) (by rfl) (He.glo_ok KX G (c.fact 64)) kp__law_left_of b__law_left_of (da_cons (de_var (pv 3)) (da_cons (de_op op_addA o_add (de_var (pv 10)) (de_tup (da_cons (de_var (pv 13)) da_nil))) (da_cons (de_var (pv 4)) da_nil)))) de_non)))) (ds_one (ds_par (ps_par (i := 11) (j := 12) rfl nd_law rfl rfl (by decide) rfl rfl (da_cons (de_call F__law_parting (hr.mono (by decide)) (by rfl) (He.glo_ok KX G (c.fact 65)) kp__law_parting b__law_parting (da_cons (de_var (pv 3)) (da_cons (de_var (pv 4)) (da_cons (de_var (pv 10)) (da_cons (de_var (pv 13)) da_nil))))) (da_cons (de_var (pv 7)) da_nil)) (by first | rfl | decide +kernel)))) ds_nil) (ds_cons (ds_set (ps_set (i := 10) nd_law rfl (Or.inl rfl) (de_op op_addA o_add (de_var (pv 10)) (de_ifExp (dt_cmp op_isN o_isN (de_var (pv 11)) de_non) (de_tup (da_cons (de_var (pv 13)) da_nil)) (de_tup da_nil))))) (ds_cons (ds_if (dt_not (dt_val (de_callT F__law_alike st (hr.mono (by decide)) (by rfl) (He.glo_ok KX G (c.fact 53)) kp__law_alike b__law_alike (da_cons (de_meth (pe_meth (de_var (pv 9)) (He.cls_ok (c.fact 26)) (He.meth_ok (c.fact 40)) F_Monitor_put (hr.mono (by decide)) b_Monitor_put .nil pass0 (da_cons (de_var (pv 13)) da_nil))) (da_cons (de_var (pv 11)) da_nil))))) (ds_one (ds_ret de_bl)) ds_nil) (ds_cons (ds_set (ps_set (i := 14) nd_law rfl (Or.inl rfl) (de_ifExp (dt_cmp op_notN o_notN (de_var (pv 11)) de_non) de_non (de_call F__law_left_of (hr.mono (by decide)) (by rfl) (He.glo_ok KX G (c.fact 64)) kp__law_left_of b__law_left_of (da_cons (de_var (pv 3)) (da_cons (de_var (pv 10)) (da_cons (de_var (pv 4)) da_nil))))))) (ds_cons (ds_set (ps_set (i := 15) nd_law rfl (Or.inl rfl) (de_meth0 (pe_meth0 (de_var (pv 9)) (He.cls_ok (c.fact 26)) (He.meth_ok (c.fact 63)) F_Monitor_twin (hr.mono (by decide)) b_Monitor_twin .nil pass0)))) (ds_one (ds_for (vs := [16]) PassesOwn.never rfl (di_seq (de_tup (da_cons (de_var (pv 9)) (da_cons (de_var (pv 15)) da_nil)))) (dg_name (pg_name (i := 16) nd_law rfl (Or.inl rfl)) (by decide)) (ds_one (ds_if (dt_not (dt_val (de_callT F__law_alike st (hr.mono (by decide)) (by rfl) (He.glo_ok KX G (c.fact 53)) kp__law_alike b__law_alike (da_cons (de_lst (da_cons (de_meth0 (pe_meth0 (de_var (pv 16)) (He.cls_ok (c.fact 26)) (He.meth_ok (c.fact 62)) F_Monitor_left (hr.mono (by decide)) b_Monitor_left .nil pass0)) (da_cons (de_meth0 (pe_meth0 (de_var (pv 16)) (He.cls_ok (c.fact 26)) (He.meth_ok (c.fact 61)) F_Monitor_is_done (hr.mono (by decide)) b_Monitor_is_done .nil pass0)) (da_cons (de_meth0 (pe_meth0 (de_var (pv 16)) (He.cls_ok (c.fact 26)) (He.meth_ok (c.fact 60)) F_Monitor_came (hr.mono (by decide)) b_Monitor_came .nil pass0)) da_nil)))) (da_cons (de_lst (da_cons (de_var (pv 14)) (da_cons (de_cmp (op_eqP hu) o_eqp (de_var (pv 14)) (de_tup da_nil)) (da_cons (de_var (pv 10)) da_nil)))) da_nil))))) (ds_one (ds_ret de_bl)) ds_nil)))))))))) (ds_cons (ds_if (dt_not (dt_val (de_callT F__law_alike st (hr.mono (by decide)) (by rfl) (He.glo_ok KX G (c.fact 53)) kp__law_alike b__law_alike (da_cons (de_call F_looked_at (hr.mono (by decide)) (by rfl) (He.glo_ok KX G (c.fact 59)) kp_looked_at b_looked_at (da_cons (de_var (pv 3)) (da_cons (de_var (pv 4)) (da_cons (de_cb (pe_callTy call_tupleF (by rfl) (He.free_ok KX G (c.fact 8)) boot_tuple (da_cons (de_var (pv 6)) da_nil)) c_tup) da_nil)))) (da_cons (de_tup (da_cons (de_var (pv 12)) (da_cons (de_var (pv 11)) da_nil))) da_nil))))) (ds_one (ds_ret de_bl)) ds_nil) (ds_cons (ds_asg (vs := [17, 18, 11, 19, 20]) (de_tup (da_cons (de_make (pe_make (He.mkr_ok (c.fact 38)) F_Watch___init__ (hr.mono (by decide)) (by rfl) (He.glo_ok KX G (c.fact 39)) b_Watch___init__ .nil pass0 (da_cons (de_var (pv 3)) da_nil))) (da_cons (de_lst (da_cons (de_tup da_nil) (da_cons (de_tup da_nil) da_nil))) (da_cons de_non (da_cons (de_lst da_nil) (da_cons de_non da_nil)))))) (dg_un rfl (dgs_cons (dg_name (pg_name (i := 17) nd_law rfl (Or.inl rfl)) (by decide)) (dgs_cons (dg_name (pg_name (i := 18) nd_law rfl (Or.inl rfl)) (by decide)) (dgs_cons (dg_name (pg_name (i := 11) nd_law rfl (Or.inl rfl)) (by decide)) (dgs_cons (dg_name (pg_name (i := 19) nd_law rfl (Or.inl rfl)) (by decide)) (dgs_cons (dg_name (pg_name (i := 20) nd_law rfl (Or.inl rfl)) (by decide)) dgs_nil))))))) (ds_cons (ds_for (vs := [7]) PassesOwn.never rfl (di_rng1 (pi_range1 (by rfl) (He.free_ok KX G (c.fact 16)) (da_cons de_int da_nil))) (dg_name (pg_name (i := 7) nd_law rfl (Or.inl rfl)) (by decide)) (ds_cons (ds_par (ps_par (i := 21) (j := 13) rfl nd_law rfl rfl (by decide) rfl rfl (da_cons (de_call F__law_take (hr.mono (by decide)) (by rfl) (He.glo_ok KX G (c.fact 43)) kp__law_take b__law_take (da_cons (de_var (pv 1)) (da_cons de_int da_nil))) (da_cons (de_call F__law_some (hr.mono (by decide)) (by rfl) (He.glo_ok KX G (c.fact 50)) kp__law_some b__law_some (da_cons (de_var (pv 1)) (da_cons (de_ix (de_var (pv 3)) de_int) da_nil))) da_nil)) (by first | rfl | decide +kernel))) (ds_cons (ds_expr (de_bm (pe_bm F.plainAttrs_list F.slot_list_append F.type_list_append mt_append (de_var (pv 19)) (da_cons (de_tup (da_cons (de_var (pv 21)) (da_cons (de_var (pv 13)) da_nil))) da_nil)) tyd_lst m_app)) (ds_cons (ds_if (dt_cmp op_isN o_isN (de_var (pv 11)) de_non) (ds_cons (ds_asg (vs := []) (de_op op_addA o_add (de_ix (de_var (pv 18)) (de_var (pv 21))) (de_tup (da_cons (de_var (pv 13)) da_nil))) (dg_ix (de_var (pv 18)) (de_var (pv 21)) (fun h k => pg_sub h k set_list))) (ds_cons (ds_asg (vs := [22, 14, 23]) (de_call F__law_lag (hr.mono (by decide)) (by rfl) (He.glo_ok KX G (c.fact 58)) kp__law_lag b__law_lag (da_cons (de_var (pv 3)) (da_cons (de_ix (de_var (pv 18)) de_int) (da_cons (de_ix (de_var (pv 18)) de_int) da_nil)))) (dg_un rfl (dgs_cons (dg_name (pg_name (i := 22) nd_law rfl (Or.inl rfl)) (by decide)) (dgs_cons (dg_name (pg_name (i := 14) nd_law rfl (Or.inl rfl)) (by decide)) (dgs_cons (dg_name (pg_name (i := 23) nd_law rfl (Or.inl rfl)) (by decide)) dgs_nil))))) (ds_cons (ds_set (ps_set (i := 11) nd_law rfl (Or.inl rfl) (de_call F__law_met (hr.mono (by decide)) (by rfl) (He.glo_ok KX G (c.fact 57)) kp__law_met b__law_met (da_cons (de_var (pv 3)) (da_cons (de_var (pv 14)) (da_cons (de_var (pv 23)) da_nil)))))) (ds_one (ds_set (ps_set (i := 20) nd_law rfl (Or.inl rfl) (de_ifExp (dt_cmp op_notN o_notN (de_var (pv 11)) de_non) (de_var (pv 7)) de_non))))))) ds_nil) (ds_cons (ds_if (dt_not (dt_val (de_callT F__law_alike st (hr.mono (by decide)) (by rfl) (He.glo_ok KX G (c.fact 53)) kp__law_alike b__law_alike (da_cons (de_lst (da_cons (de_meth (pe_meth (de_var (pv 17)) (He.cls_ok (c.fact 33)) (He.meth_ok (c.fact 41)) F_Watch_put (hr.mono (by decide)) b_Watch_put .nil pass0 (da_cons (de_var (pv 21)) (da_cons (de_var (pv 13)) da_nil)))) (da_cons (de_meth0 (pe_meth0 (de_var (pv 17)) (He.cls_ok (c.fact 33)) (He.meth_ok (c.fact 55)) F_Watch_lag (hr.mono (by decide)) b_Watch_lag .nil pass0)) da_nil))) (da_cons (de_lst (da_cons (de_var (pv 11)) (da_cons (de_tup (da_cons (de_var (pv 14)) (da_cons (de_var (pv 23)) da_nil))) da_nil))) da_nil))))) (ds_one (ds_ret de_bl)) ds_nil) (ds_one (ds_if (dt_not (dt_val (de_callT F__law_alike st (hr.mono (by decide)) (by rfl) (He.glo_ok KX G (c.fact 53)) kp__law_alike b__law_alike (da_cons (de_lst (da_cons (de_meth0 (pe_meth0 (de_var (pv 17)) (He.cls_ok (c.fact 33)) (He.meth_ok (c.fact 56)) F_Watch_are_even (hr.mono (by decide)) b_Watch_are_even .nil pass0)) (da_cons (de_meth0 (pe_meth0 (de_meth0 (pe_meth0 (de_var (pv 17)) (He.cls_ok (c.fact 33)) (He.meth_ok (c.fact 54)) F_Watch_twin (hr.mono (by decide)) b_Watch_twin .nil pass0)) (He.cls_ok (c.fact 33)) (He.meth_ok (c.fact 55)) F_Watch_lag (hr.mono (by decide)) b_Watch_lag .nil pass0)) da_nil))) (da_cons (de_lst (da_cons (de_cmp (op_eqP hu) o_eqp (de_tup (da_cons (de_var (pv 14)) (da_cons (de_var (pv 23)) da_nil))) (de_tup (da_cons (de_tup da_nil) (da_cons (de_tup da_nil) da_nil)))) (da_cons (de_tup (da_cons (de_var (pv 14)) (da_cons (de_var (pv 23)) da_nil))) da_nil))) da_nil))))) (ds_one (ds_ret de_bl)) ds_nil))))))) (ds_cons (ds_set (ps_set (i := 8) nd_law rfl (Or.inl rfl) (de_ifExp (dt_cmp op_notN o_notN (de_var (pv 11)) de_non) (de_tup (da_cons (de_var (pv 20)) (da_cons (de_var (pv 11)) da_nil))) (de_tup (da_cons (de_cb (pe_callB call_lenA (by rfl) (He.free_ok KX G (c.fact 11)) boot_len (da_cons (de_var (pv 19)) da_nil)) c_len) (da_cons de_non da_nil)))))) (ds_one (ds_if (dt_not (dt_val (de_callT F__law_alike st (hr.mono (by decide)) (by rfl) (He.glo_ok KX G (c.fact 53)) kp__law_alike b__law_alike (da_cons (de_call F_looked_at_both (hr.mono (by decide)) (by rfl) (He.glo_ok KX G (c.fact 52)) kp_looked_at_both b_looked_at_both (da_cons (de_var (pv 3)) (da_cons (de_cb (pe_callTy call_tupleF (by rfl) (He.free_ok KX G (c.fact 8)) boot_tuple (da_cons (de_var (pv 19)) da_nil)) c_tup) da_nil))) (da_cons (de_var (pv 8)) da_nil))))) (ds_one (ds_ret de_bl)) ds_nil)))))))))))))) (ds_one (ds_ret de_bl))))
end
end Dt

namespace Dt
open PySem PySem.Spec PyProof.Rows L2 LamX RZ PySem.P
theorem CF.nil {K : Bd} {C : String} : CF K C [] := fun _ h => nomatch h
theorem CF.cons {K : Bd} {C : String} {f : Str} {fs : List Str} (h : Cls K (He.ga K.K C) ∧ NoAttr K (He.ga K.K C) f) (t : CF K C fs) : CF K C (f :: fs) := fun g hg => by
  rcases List.mem_cons.mp hg with rfl | hg
  · exact h
  · exact t g hg
theorem facts {w : World} {K : PySem.W.Frag} (c : He.SaysE Hd.fa Hd.fn K) :
    CF ⟨K, Pg, w⟩ "Left" ["row", "signs", "dependent", "places", "taken"] ∧ CF ⟨K, Pg, w⟩ "Monitor" ["alphabet", "due", "its_left", "signs", "parting"] ∧ CF ⟨K, Pg, w⟩ "Watch" ["alphabet", "its_lag", "parting"] := by
  exact ⟨(CF.cons ⟨He.cls_ok (c.fact 13), He.noat_ok (c.fact 103)⟩ (CF.cons ⟨He.cls_ok (c.fact 13), He.noat_ok (c.fact 104)⟩ (CF.cons ⟨He.cls_ok (c.fact 13), He.noat_ok (c.fact 105)⟩ (CF.cons ⟨He.cls_ok (c.fact 13), He.noat_ok (c.fact 106)⟩ (CF.cons ⟨He.cls_ok (c.fact 13), He.noat_ok (c.fact 107)⟩ CF.nil))))),
    (CF.cons ⟨He.cls_ok (c.fact 26), He.noat_ok (c.fact 108)⟩ (CF.cons ⟨He.cls_ok (c.fact 26), He.noat_ok (c.fact 109)⟩ (CF.cons ⟨He.cls_ok (c.fact 26), He.noat_ok (c.fact 110)⟩ (CF.cons ⟨He.cls_ok (c.fact 26), He.noat_ok (c.fact 111)⟩ (CF.cons ⟨He.cls_ok (c.fact 26), He.noat_ok (c.fact 112)⟩ CF.nil))))),
    (CF.cons ⟨He.cls_ok (c.fact 33), He.noat_ok (c.fact 113)⟩ (CF.cons ⟨He.cls_ok (c.fact 33), He.noat_ok (c.fact 114)⟩ (CF.cons ⟨He.cls_ok (c.fact 33), He.noat_ok (c.fact 115)⟩ CF.nil)))⟩
theorem okLaw {w : World} {K : PySem.W.Frag} {mg : Str → Option Value} {base : Heap} (KX : K.In base) (G : base.Ns mainGlobals mg) (c : He.SaysE Hd.fa Hd.fn K) : FnT Pg w K mg base 10 (He.ga K "law") ["script"] (sp_law ⟨K, Pg, w⟩) := by
  have h_is_number := ok_is_number (w := w) KX G c
  have h_is_index := ok_is_index (w := w) KX G c h_is_number
  have h_check_sign := ok_check_sign (w := w) KX G c
  have h_are_independent := ok_are_independent (w := w) KX G c h_check_sign
  have h_dependent_couples := ok_dependent_couples (w := w) KX G c
  have h_cut := ok_cut (w := w) KX G c
  have h_Left___init__ := ok_Left___init__ (w := w) KX G c h_dependent_couples
  have h_Left_place := ok_Left_place (w := w) KX G c
  have h_Left_can_be_first := ok_Left_can_be_first (w := w) KX G c h_Left_place
  have h_Left_firsts := ok_Left_firsts (w := w) KX G c h_Left_can_be_first
  have h_Left_take := ok_Left_take (w := w) KX G c
  have h_Left_left := ok_Left_left (w := w) KX G c
  have h_normal := ok_normal (w := w) KX G c h_Left___init__ h_Left_firsts h_Left_take
  have h_left_of := ok_left_of (w := w) KX G c h_Left___init__ h_Left_can_be_first h_Left_left h_Left_take h_normal
  have h_common := ok_common (w := w) KX G c h_Left___init__ h_Left_can_be_first h_Left_firsts h_Left_take h_normal
  have h_lag := ok_lag (w := w) KX G c h_common h_left_of
  have h_behind := ok_behind (w := w) KX G c h_lag
  have h_Monitor___init__ := ok_Monitor___init__ (w := w) KX G c h_Left___init__
  have h_Monitor_told := ok_Monitor_told (w := w) KX G c h_Left_place h_cut h_dependent_couples
  have h_Monitor_put := ok_Monitor_put (w := w) KX G c h_Left_can_be_first h_Left_take h_Monitor_told h_check_sign
  have h_Monitor_left := ok_Monitor_left (w := w) KX G c h_Left_left h_normal
  have h_Monitor_is_done := ok_Monitor_is_done (w := w) KX G c h_Left_left
  have h_Monitor_came := ok_Monitor_came (w := w) KX G c
  have h_Monitor_twin := ok_Monitor_twin (w := w) KX G c h_Monitor___init__
  have h_Watch___init__ := ok_Watch___init__ (w := w) KX G c
  have h_Watch_told := ok_Watch_told (w := w) KX G c h_are_independent
  have h_Watch_put := ok_Watch_put (w := w) KX G c h_Watch_told h_behind h_check_sign h_is_index
  have h_Watch_lag := ok_Watch_lag (w := w) KX G c
  have h_Watch_are_even := ok_Watch_are_even (w := w) KX G c
  have h_Watch_twin := ok_Watch_twin (w := w) KX G c h_Watch___init__
  have h_looked_at := ok_looked_at (w := w) KX G c h_Monitor___init__ h_Monitor_put
  have h_looked_at_both := ok_looked_at_both (w := w) KX G c h_Watch___init__ h_Watch_put
  have h__law_bag := ok__law_bag (w := w) KX G c
  have h__law_take := ok__law_take (w := w) KX G c
  have h__law_some := ok__law_some (w := w) KX G c h__law_take
  have h__law_alike := ok__law_alike (w := w) KX G c
  have h__law_alphabet := ok__law_alphabet (w := w) KX G c h__law_take
  have h__law_is_free := ok__law_is_free (w := w) KX G c
  have h__law_cut := ok__law_cut (w := w) KX G c
  have h__law_firsts := ok__law_firsts (w := w) KX G c h__law_is_free
  have h__law_without := ok__law_without (w := w) KX G c
  have h__law_normal := ok__law_normal (w := w) KX G c h__law_firsts h__law_without
  have h__law_lag := ok__law_lag (w := w) KX G c h__law_firsts h__law_normal h__law_without
  have h__law_left_of := ok__law_left_of (w := w) KX G c h__law_firsts h__law_normal h__law_without
  have h__law_class := ok__law_class (w := w) KX G c h__law_is_free
  have h__law_row := ok__law_row (w := w) KX G c h__law_some h__law_take
  have h__law_parting := ok__law_parting (w := w) KX G c h__law_cut h__law_is_free
  have h__law_met := ok__law_met (w := w) KX G c h__law_is_free
  have h_law := ok_law (w := w) KX G c h_Monitor___init__ h_Monitor_came h_Monitor_is_done h_Monitor_left h_Monitor_put h_Monitor_twin h_Watch___init__ h_Watch_are_even h_Watch_lag h_Watch_put h_Watch_twin h__law_alike h__law_alphabet h__law_bag h__law_class h__law_lag h__law_left_of h__law_met h__law_parting h__law_row h__law_some h__law_take h_looked_at h_looked_at_both
  exact h_law
end Dt
open PySem PySem.W PySem.Calls PyProof.Rows in
theorem PySem.Challenge.cw_anyarrive_k61_whole_monitors_holds : PySem.Challenge.rw_anyarrive_k61_whole_monitors.Holds := by
  w_on; o_law
  refine HandSHeadRun.head_any (r := OpenLaw.row PySem.Challenge.rw_anyarrive_k61_whole_monitors) (q := view (OpenLaw.row PySem.Challenge.rw_anyarrive_k61_whole_monitors).prog [44]) (H := Hd.hk) (ob := Hd.ob) (M := 3000) (loose := Hd.names) (d := HandSHeadRun.topDef (OpenLaw.row PySem.Challenge.rw_anyarrive_k61_whole_monitors).prog 44) (kwd := []) Hd.ob_eq
    (by kernel_rfl) (fun s => by kernel_rfl) Hd.run (by kernel_rfl) (by kernel_rfl) (by kernel_rfl) (by rfl) (by first | assumption | decide +kernel) (by decide +kernel) ⟨rfl, rfl, rfl, rfl, rfl, by decide +kernel⟩ ?hw ?hc
  case hw => w_witness2
  case hc =>
    refine Dt.walk_still (l := PySem.Challenge.rw_anyarrive_k61_whole_monitors) (n := 63) (k := 10) (x := "script") (CX := L2.CX0) rfl (by decide) (by kernel_rfl) ⟨rfl, by decide, by decide⟩ ?F (fun _ _ _ _ z => z)
    intro w mg fa h Y G hmg0
    obtain ⟨K, KX, c⟩ := Y
    have hmg : mg ("law" : PySem.Str) = some (.ref fa) := by
      have e : (HandSHeadRun.topDef (OpenLaw.row PySem.Challenge.rw_anyarrive_k61_whole_monitors).prog 44).name = ("law" : PySem.Str) := by kernel_rfl
      rw [← e]
      exact hmg0
    have e := hmg.symm.trans (He.glo_ok KX G (c.fact 116 (f := .glo "law") rfl))
    cases e
    refine ⟨K, Dt.lSp ⟨K, Dt.Pg, w⟩ (Dt.sp_law ⟨K, Dt.Pg, w⟩), KX, fun H a ns hl hO hS => ?_, fun base KX2 G2 => ?_⟩
    · exact Dt.law_true (Dt.facts (w := w) c) hO hS
    · obtain ⟨fd, F, b, kp⟩ := Dt.okLaw (w := w) KX2 G2 c
      exact ⟨fd, F, b⟩

import PyProof.Rows.All
import Wide.All
import OpenK.AllK
import Wide.FinOn
import HandS.ForMost
import HandS.ForExc
import HandS.More
import HandS.Lambda
import HandS.TupAny
import HandS.Deep
import KE.KeyNested
import KE.KDictDisplayH
import HandS.HeadHook4
import KE.DataCmp
import KE.SortData
import KE.DataEq
import KE.DatumIndex
import KE.DatumOrd
import KE.DataFind
import HandS.DictComp
import HandS.SetKeys
import HandS.WordsExc
import KE.GoesEnum
import HandS.Zip
import HandS.IsInst
import HandS.TupLen
import KE.DataMinMax
import HandS.Conv
import HandS.HeadEnd
import PyProof.ReprRoads
import KE.KIndexOf
import HandS.HeadHook1
import HandS.Small
import HandS.RaiseMore
import PyProof.ExcBaseAll.ValueError
import HandS.EndBits
import HandS.Set
import HandS.SetFor
import HandS.Strs
import HandS.Head0
import HandS.Head1
import HandS.Head2
import PySem.Challenge.RW_anyarrive_k30_whole_lags_of_two_rows
set_option Elab.async false
set_option autoImplicit false
set_option linter.all false
set_option maxRecDepth 100000
set_option maxHeartbeats 4000000
/-! DA: plain data D, the store DM, how they stand in HandS's V and Hp; readings lifted. -/
namespace Dt
open PySem PySem.Spec PyProof.Rows L2 LamX

/-- the frame of names, the program, the world -/
structure Bd where
  K : PySem.W.Frag
  P : Program
  w : World
instance : CoeOut Bd PySem.W.Frag := ⟨Bd.K⟩
abbrev _root_.L2.Cx.B (X : Cx) : Bd := ⟨X.K, X.prog, X.w⟩

/-- tup: a tuple of the text's own making; pair: one that an iterator hands out; scr: a list that is read alone (the script) -/
inductive D where
  | non | bl (b : Bool) | int (i : Int) | str (x : Str) | tup (xs : List D) | pair (xs : List D) | scr (xs : List D) | ref (a : Addr)
mutual
def nkD : NestedKey → D
  | .none => .non
  | .num i => .int i
  | .text x => .str x
  | .tup ks => .tup (nkDs ks)
def nkDs : List NestedKey → List D
  | [] => []
  | k :: ks => nkD k :: nkDs ks
end
inductive DO where
  | lst (xs : List D)
  | dK (kvs : List (Key × D))
  | dT (kvs : List (NestedKey × D))
  | ins (C : Addr) (fs : List (Str × D))
abbrev DM := Addr → Option DO
def put (M : DM) (a : Addr) (o : DO) : DM := fun b => if b = a then some o else M b
theorem put_same {M : DM} {a : Addr} {o : DO} : put M a o a = some o := by unfold put; rw [if_pos rfl]
theorem put_ne {M : DM} {a b : Addr} {o : DO} (h : b ≠ a) : put M a o b = M b := by unfold put; rw [if_neg h]
theorem put_put {M : DM} {a : Addr} {o u : DO} : put (put M a o) a u = put M a u := by
  funext b; unfold put; split <;> rfl

/-- a list that nobody writes: frozen, or an object of the module -/
def SqZ (K : PySem.W.Frag) (H : Hp) (a : Addr) (xs : List V) : Prop :=
  (∃ o, H a = some (.frz o (.lst xs))) ∨
    ∃ (o : Obj) (its : Array Value) (n : Nat), K.lookup a = some o ∧ o.cls = .type "list" ∧ o.dict = none ∧ o.data = .seq its n ∧ its.size ≤ sizeLine ∧ Vals xs its.toList
theorem SqZ.l {K : PySem.W.Frag} {H : Hp} {a : Addr} {xs : List V} (h : SqZ K H a xs) : SqL K H a xs := by
  rcases h with h | h
  · exact .inl (.inr h)
  · exact .inr h
mutual
inductive DV (K : Bd) (H : Hp) : D → V → Prop
  | non : DV K H .non .non
  | bl {b : Bool} : DV K H (.bl b) (.bl b)
  | int {i : Int} : DV K H (.int i) (.int i)
  | str {x : Str} : DV K H (.str x) (.str x)
  | ref {a : Addr} : DV K H (.ref a) (.ref a)
  | tup {a : Addr} {o : Obj} {ds : List D} {vs : List V} : H a = some (.frz o (.tup vs)) → o.dict = none → DVs K H ds vs → DV K H (.tup ds) (.ref a)
  | pair {a : Addr} {ds : List D} {vs : List V} : H a = some (.tup vs) → DVs K H ds vs → DV K H (.pair ds) (.ref a)
  | scr {a : Addr} {ds : List D} {vs : List V} : SqZ K H a vs → DVs K H ds vs → DV K H (.scr ds) (.ref a)
inductive DVs (K : Bd) (H : Hp) : List D → List V → Prop
  | nil : DVs K H [] []
  | cons {d : D} {v : V} {ds : List D} {vs : List V} : DV K H d v → DVs K H ds vs → DVs K H (d :: ds) (v :: vs)
end

/-- a dict with tuples for keys: the keys, where they stand, the values -/
def tdO (P : Program) (w : World) (a : Addr) (xs : List (NestedKey × Addr × Value)) : HO := .ext fun h => xs.length ≤ sizeLine ∧ (a == sysModules) = false ∧
  ∃ o es ep, h.get? a = some o ∧ o.ExactDict ∧ o.data = .dict es ep ∧ es.toList = xs.map (entryOfKey (nestedKind P w)) ∧ (xs.map (·.1)).Nodup
/-- how they stand in the heap -/
inductive TDR (K : Bd) (H : Hp) : List (NestedKey × D) → List (NestedKey × Addr × Value) → Prop
  | nil : TDR K H [] []
  | cons {k : NestedKey} {d : D} {q : Addr} {v : V} {u : Value} {kvs : List (NestedKey × D)} {xs : List (NestedKey × Addr × Value)} : DV K H (nkD k) (.ref q) → k.depth ≤ 8 → DV K H d v → RelV v u → TDR K H kvs xs → TDR K H ((k, d) :: kvs) ((k, q, u) :: xs)

/-- an object of the store, as it is tracked -/
inductive RelO (K : Bd) (H : Hp) (a : Addr) : DO → HO → Prop
  | lst {ds : List D} {vs : List V} : DVs K H ds vs → RelO K H a (.lst ds) (.lst vs)
  | dK {kvs : List (Key × D)} {kws : List (Key × V)} : kvs.map (·.1) = kws.map (·.1) → DVs K H (kvs.map (·.2)) (kws.map (·.2)) → RelO K H a (.dK kvs) (.dK kws)
  | dT {kvs : List (NestedKey × D)} {xs : List (NestedKey × Addr × Value)} : TDR K H kvs xs → RelO K H a (.dT kvs) (tdO K.P K.w a xs)
  | ins {C dx : Addr} {fs : List (Str × D)} {gs : List (Str × V)} : fs.map (·.1) = gs.map (·.1) → DVs K H (fs.map (·.2)) (gs.map (·.2)) → RelO K H a (.ins C fs) (.ins C dx gs)
/-- the defs that make a lambda somewhere: their tables are known -/
def lamDefs : List He.Defn := [("law", none), ("_law_stock", none), ("_law_are_ordered", none), ("Needs", some "first"), ("all_lots", none), ("read_row", none)]
def isDefB (K : PySem.W.Frag) (p : He.Defn) : Bool := match K.lookup (He.fAd K p) with
  | some ⟨_, _, .func _, _⟩ => true
  | _ => false
def lamQ : He.Defn → Str
  | (x, none) => x ++ ".<locals>." ++ "<lambda>"
  | (x, some m) => x ++ "." ++ m ++ ".<locals>." ++ "<lambda>"
def tbs (K : PySem.W.Frag) : List (Addr × Str) := (lamDefs.filter (isDefB K)).map fun p => ((He.cT K p).2, lamQ p)
structure Rel (K : Bd) (M : DM) (H : Hp) : Prop where
  at_ : ∀ a o, M a = some o → ∃ u, H a = some u ∧ RelO K H a o u
  tab : Tabs (tbs K.K) H
instance {K : Bd} {M : DM} {H : Hp} : CoeFun (Rel K M H) (fun _ => ∀ a o, M a = some o → ∃ u, H a = some u ∧ RelO K H a o u) := ⟨Rel.at_⟩

/-- what is tracked and not in the store stays as it is -/
structure Keep (M : DM) (H : Hp) (M' : DM) (H' : Hp) : Prop where
  hid : ∀ a u, H a = some u → M a = none → (∀ ps, u ≠ .tbl ps) → H' a = some u
  out : ∀ a u, H a = some u → M a = none → (∀ ps, u ≠ .tbl ps) → M' a = none
theorem Keep.refl {M : DM} {H : Hp} : Keep M H M H := ⟨fun _ _ h _ _ => h, fun _ _ h n _ => n⟩
theorem Keep.trans {M M1 M2 : DM} {H H1 H2 : Hp} (a : Keep M H M1 H1) (b : Keep M1 H1 M2 H2) : Keep M H M2 H2 where
  hid := fun p u h n t => b.hid p u (a.hid p u h n t) (a.out p u h n t) t
  out := fun p u h n t => b.out p u (a.hid p u h n t) (a.out p u h n t) t

theorem RelO.ntup {K : Bd} {H : Hp} {a : Addr} {o : DO} {xs : List V} (r : RelO K H a o (.tup xs)) : False := nomatch r
theorem Rel.ntup {K : Bd} {M : DM} {H : Hp} (R : Rel K M H) {a : Addr} {xs : List V} (h : H a = some (.tup xs)) : M a = none := by
  cases e : M a with
  | none => rfl
  | some o => obtain ⟨u, h2, r⟩ := R a o e; rw [h] at h2; cases h2; exact nomatch r
theorem Rel.nfrz {K : Bd} {M : DM} {H : Hp} (R : Rel K M H) {a : Addr} {u : Obj} {x : HO} (h : H a = some (.frz u x)) : M a = none := by
  cases e : M a with
  | none => rfl
  | some o => obtain ⟨u, h2, r⟩ := R a o e; rw [h] at h2; cases h2; exact nomatch r
theorem Rel.ntbl {K : Bd} {M : DM} {H : Hp} (R : Rel K M H) {a : Addr} {ps : Array Value} (h : H a = some (.tbl ps)) : M a = none := by
  cases e : M a with
  | none => rfl
  | some o => obtain ⟨u, h2, r⟩ := R a o e; rw [h] at h2; cases h2; exact nomatch r
theorem code_ne_td {c : Addr} {q : Str} {P : Program} {w : World} {xs : List (NestedKey × Addr × Value)} : CodeO c q ≠ tdO P w c xs := by
  intro h
  have h0 : (⟨Array.replicate (c + 1) { cls := .none, data := .fields #[.none, .str q 0] }, {}⟩ : Heap).get? c = some { cls := .none, data := .fields #[.none, .str q 0] } := by
    unfold Heap.get?
    have e : (Array.replicate (c + 1) ({ cls := .none, data := .fields #[.none, .str q 0] } : Obj))[c]? = some { cls := .none, data := .fields #[.none, .str q 0] } := by
      rw [Array.getElem?_replicate, if_pos (Nat.lt_succ_self c)]
    rw [e]
  have e2 := congrFun (HO.ext.inj h) ⟨Array.replicate (c + 1) { cls := .none, data := .fields #[.none, .str q 0] }, {}⟩
  have t := Eq.mp e2 ⟨_, #[.none, .str q 0], 0, h0, rfl, rfl⟩
  obtain ⟨_, _, o, es, ep, e3, _, hd, _⟩ := t
  rw [h0] at e3
  cases e3
  exact nomatch hd
theorem Rel.ncode {K : Bd} {M : DM} {H : Hp} (R : Rel K M H) {a : Addr} {q : Str} (h : H a = some (CodeO a q)) : M a = none := by
  cases e : M a with
  | none => rfl
  | some o =>
    obtain ⟨u, h2, r⟩ := R a o e
    rw [h] at h2
    cases r with
    | dT _ => exact absurd (Option.some.inj h2) code_ne_td
    | _ => cases h2
theorem Rel.free {K : Bd} {M : DM} {H : Hp} (R : Rel K M H) {a : Addr} (h : H a = none) : M a = none := by
  cases e : M a with
  | none => rfl
  | some o => obtain ⟨u, h2, r⟩ := R a o e; rw [h] at h2; cases h2

/-- tuples that are read stay -/
def Tups (H H' : Hp) : Prop := (∀ a xs, H a = some (.tup xs) → H' a = some (.tup xs)) ∧ (∀ a o u, H a = some (.frz o u) → H' a = some (.frz o u))
theorem Tups.refl {H : Hp} : Tups H H := ⟨fun _ _ h => h, fun _ _ _ h => h⟩
theorem Tups.trans {H H1 H2 : Hp} (a : Tups H H1) (b : Tups H1 H2) : Tups H H2 := ⟨fun p xs h => b.1 p xs (a.1 p xs h), fun p o u h => b.2 p o u (a.2 p o u h)⟩
theorem Keep.tups {K : Bd} {M M' : DM} {H H' : Hp} (k : Keep M H M' H') (R : Rel K M H) : Tups H H' :=
  ⟨fun a xs h => k.hid a _ h (R.ntup h) (fun _ z => nomatch z), fun a o u h => k.hid a _ h (R.nfrz h) (fun _ z => nomatch z)⟩
theorem sqF {K : PySem.W.Frag} {H H' : Hp} {a : Addr} {o : Obj} {vs : List V} (k : Tups H H') (s : H a = some (.frz o (.tup vs))) : SqT K H' a vs := .inl (.inr ⟨o, k.2 _ _ _ s⟩)
theorem Tups.sqZ {K : PySem.W.Frag} {H H' : Hp} (k : Tups H H') {a : Addr} {xs : List V} (h : SqZ K H a xs) : SqZ K H' a xs := by
  rcases h with ⟨o, h⟩ | h
  · exact .inl ⟨o, k.2 _ _ _ h⟩
  · exact .inr h
theorem Tups.sqT {K : Bd} {H H' : Hp} (k : Tups H H') {a : Addr} {xs : List V} (h : SqT K H a xs) : SqT K H' a xs := by
  rcases h with (h | ⟨o, h⟩) | h
  · exact .inl (.inl (k.1 _ _ h))
  · exact .inl (.inr ⟨o, k.2 _ _ _ h⟩)
  · exact .inr h
mutual
theorem DV.mono {K : Bd} {H H' : Hp} (k : Tups H H') : ∀ {d : D} {v : V}, DV K H d v → DV K H' d v
  | _, _, .non => .non
  | _, _, .bl => .bl
  | _, _, .int => .int
  | _, _, .str => .str
  | _, _, .ref => .ref
  | _, _, .tup s n h => .tup (k.2 _ _ _ s) n (DVs.mono k h)
  | _, _, .pair s h => .pair (k.1 _ _ s) (DVs.mono k h)
  | _, _, .scr s h => .scr (k.sqZ s) (DVs.mono k h)
theorem DVs.mono {K : Bd} {H H' : Hp} (k : Tups H H') : ∀ {ds : List D} {vs : List V}, DVs K H ds vs → DVs K H' ds vs
  | _, _, .nil => .nil
  | _, _, .cons h t => .cons (DV.mono k h) (DVs.mono k t)
end
theorem TDR.mono {K : Bd} {H H' : Hp} (k : Tups H H') {kvs : List (NestedKey × D)} {xs : List (NestedKey × Addr × Value)} (r : TDR K H kvs xs) : TDR K H' kvs xs := by
  induction r with
  | nil => exact .nil
  | cons a z b e _ ih => exact .cons (a.mono k) z (b.mono k) e ih
theorem RelO.mono {K : Bd} {H H' : Hp} (k : Tups H H') {a : Addr} {o : DO} {u : HO} (r : RelO K H a o u) : RelO K H' a o u := by
  cases r with
  | lst h => exact .lst (h.mono k)
  | dK e h => exact .dK e (h.mono k)
  | dT h => exact .dT (h.mono k)
  | ins e h => exact .ins e (h.mono k)

/-! ### lists of data -/
section
variable {K : Bd} {H H' : Hp}
theorem DVs.length {ds : List D} {vs : List V} (h : DVs K H ds vs) : ds.length = vs.length := by
  induction ds generalizing vs with
  | nil => cases h; rfl
  | cons d ds ih => cases h with | cons a b => simp [ih b]
theorem DVs.append {ds es : List D} {vs ws : List V} (h : DVs K H ds vs) (g : DVs K H es ws) : DVs K H (ds ++ es) (vs ++ ws) := by
  induction ds generalizing vs with
  | nil => cases h; exact g
  | cons d ds ih => cases h with | cons a b => exact .cons a (ih b)
theorem DVs.get {ds : List D} {vs : List V} (h : DVs K H ds vs) {i : Nat} {d : D} (e : ds[i]? = some d) : ∃ v, vs[i]? = some v ∧ DV K H d v := by
  induction ds generalizing vs i with
  | nil => simp at e
  | cons x ds ih =>
    cases h with
    | cons a b =>
      cases i with
      | zero => simp at e; subst e; exact ⟨_, rfl, a⟩
      | succ i => simpa using ih b (by simpa using e)
theorem DVs.getV {ds : List D} {vs : List V} (h : DVs K H ds vs) {i : Nat} {v : V} (e : vs[i]? = some v) : ∃ d, ds[i]? = some d ∧ DV K H d v := by
  have hi : i < ds.length := by rw [h.length]; exact (List.getElem?_eq_some_iff.mp e).1
  obtain ⟨w, e2, q⟩ := h.get (List.getElem?_eq_getElem hi)
  rw [e] at e2; cases e2
  exact ⟨_, List.getElem?_eq_getElem hi, q⟩
theorem DVs.drop {ds : List D} {vs : List V} (h : DVs K H ds vs) (n : Nat) : DVs K H (ds.drop n) (vs.drop n) := by
  induction n generalizing ds vs with
  | zero => simpa using h
  | succ n ih => cases h with
    | nil => exact .nil
    | cons a b => simpa using ih b
theorem DVs.take {ds : List D} {vs : List V} (h : DVs K H ds vs) (n : Nat) : DVs K H (ds.take n) (vs.take n) := by
  induction n generalizing ds vs with
  | zero => simpa using DVs.nil
  | succ n ih => cases h with
    | nil => exact .nil
    | cons a b => simpa using DVs.cons a (ih b)
theorem DVs.set {ds : List D} {vs : List V} (h : DVs K H ds vs) {d : D} {v : V} (e : DV K H d v) (n : Nat) : DVs K H (ds.set n d) (vs.set n v) := by
  induction n generalizing ds vs with
  | zero => cases h with
    | nil => exact .nil
    | cons a b => exact .cons e b
  | succ n ih => cases h with
    | nil => exact .nil
    | cons a b => exact .cons a (ih b)
theorem DVs.dropLast {ds : List D} {vs : List V} (h : DVs K H ds vs) : DVs K H ds.dropLast vs.dropLast := by
  rw [List.dropLast_eq_take, List.dropLast_eq_take, h.length]; exact h.take _
theorem DVs.reverse {ds : List D} {vs : List V} (h : DVs K H ds vs) : DVs K H ds.reverse vs.reverse := by
  induction ds generalizing vs with
  | nil => cases h; exact .nil
  | cons d ds ih => cases h with | cons a b => simpa using (ih b).append (.cons a .nil)
theorem DVs.one {d : D} {vs : List V} (h : DVs K H [d] vs) : ∃ v, vs = [v] ∧ DV K H d v := by
  cases h with | cons a b => cases b; exact ⟨_, rfl, a⟩
theorem DVs.two {d e : D} {vs : List V} (h : DVs K H [d, e] vs) : ∃ v w, vs = [v, w] ∧ DV K H d v ∧ DV K H e w := by
  cases h with | cons a b => cases b with | cons c d => cases d; exact ⟨_, _, rfl, a, c⟩
theorem DVs.mk1 {d : D} {v : V} (h : DV K H d v) : DVs K H [d] [v] := .cons h .nil
theorem DVs.get_none {ds : List D} {vs : List V} (h : DVs K H ds vs) {i : Nat} (e : ds[i]? = none) : vs[i]? = none := by
  rw [List.getElem?_eq_none_iff] at e ⊢; rw [← h.length]; exact e
end

/-! ### keeping -/
section
variable {K : Bd} {M : DM} {H : Hp}
theorem tabS_of {H' : Hp} {P : Addr} {q : Str} (h1 : ∀ ps, H P = some (.tbl ps) → H' P = some (.tbl ps)) (h2 : ∀ c, H c = some (CodeO c q) → H' c = some (CodeO c q)) (t : TabS H P q) : TabS H' P q := by
  obtain ⟨ps, e, ok, h⟩ := t
  exact ⟨ps, h1 ps e, ok, fun pos cv hc => let ⟨c, e1, e2⟩ := h pos cv hc; ⟨c, e1, h2 c e2⟩⟩
/-- an object of the store is written -/
theorem Keep.write (R : Rel K M H) {a : Addr} {o0 : DO} (h : M a = some o0) (o : DO) (u : HO) : Keep M H (put M a o) (upd H a u) := by
  obtain ⟨u0, hu, r⟩ := R a o0 h
  have ne : ∀ b, M b = none → b ≠ a := fun b n e => by rw [e, h] at n; cases n
  exact ⟨fun b w hb n _ => by rw [upd_ne (ne b n)]; exact hb, fun b w hb n _ => by rw [put_ne (ne b n)]; exact n⟩
theorem Rel.write (R : Rel K M H) {a : Addr} {o0 : DO} (h : M a = some o0) {o : DO} {u : HO} (r : RelO K H a o u) : Rel K (put M a o) (upd H a u) := by
  have k := Keep.write R h o u
  have kt := k.tups R
  have ne : ∀ b, M b = none → b ≠ a := fun b n e => by rw [e, h] at n; cases n
  refine ⟨?_, fun T hT => tabS_of (fun ps e => ?_) (fun c e => ?_) (R.tab T hT)⟩
  rotate_left
  · rw [upd_ne (ne _ (R.ntbl e))]; exact e
  · rw [upd_ne (ne c (R.ncode e))]; exact e
  intro b p e
  by_cases hb : b = a
  · subst hb; rw [put_same] at e; cases e
    exact ⟨u, upd_same, r.mono kt⟩
  · rw [put_ne hb] at e
    obtain ⟨w, hw, rw'⟩ := R b p e
    exact ⟨w, by rw [upd_ne hb]; exact hw, rw'.mono kt⟩
/-- a new object, tracked and in the store -/
theorem Keep.new (R : Rel K M H) {a : Addr} (h : H a = none) (o : DO) (u : HO) : Keep M H (put M a o) (upd H a u) := by
  have ne : ∀ b w, H b = some w → b ≠ a := fun b w e z => by rw [z, h] at e; cases e
  exact ⟨fun b w hb n _ => by rw [upd_ne (ne b w hb)]; exact hb, fun b w hb n _ => by rw [put_ne (ne b w hb)]; exact n⟩
/-- a new object, tracked alone -/
theorem Keep.hidden (R : Rel K M H) {a : Addr} (h : H a = none) (u : HO) : Keep M H M (upd H a u) := by
  have ne : ∀ b w, H b = some w → b ≠ a := fun b w e z => by rw [z, h] at e; cases e
  exact ⟨fun b w hb n _ => by rw [upd_ne (ne b w hb)]; exact hb, fun b w hb n _ => n⟩
theorem tabs_new {T : List (Addr × Str)} {a : Addr} (h : H a = none) (u : HO) (t : Tabs T H) : Tabs T (upd H a u) := t.ext fun b o e => by rw [upd_ne (ne_of_none e h)]; exact e
theorem Rel.new (R : Rel K M H) {a : Addr} (h : H a = none) {o : DO} {u : HO} (r : RelO K H a o u) : Rel K (put M a o) (upd H a u) := by
  have kt := (Keep.new R h o u).tups R
  refine ⟨?_, tabs_new h u R.tab⟩
  intro b p e
  by_cases hb : b = a
  · subst hb; rw [put_same] at e; cases e
    exact ⟨u, upd_same, r.mono kt⟩
  · rw [put_ne hb] at e
    obtain ⟨w, hw, rw'⟩ := R b p e
    exact ⟨w, by rw [upd_ne hb]; exact hw, rw'.mono kt⟩
theorem Rel.hidden (R : Rel K M H) {a : Addr} (h : H a = none) (u : HO) : Rel K M (upd H a u) := by
  have kt := (Keep.hidden R h u).tups R
  refine ⟨?_, tabs_new h u R.tab⟩
  intro b p e
  obtain ⟨w, hw, rw'⟩ := R b p e
  exact ⟨w, by rw [upd_ne (ne_of_none hw h)]; exact hw, rw'.mono kt⟩
theorem tups_new {a : Addr} (h : H a = none) (u : HO) : Tups H (upd H a u) :=
  ⟨fun b xs e => by rw [upd_ne (ne_of_none e h)]; exact e, fun b o w e => by rw [upd_ne (ne_of_none e h)]; exact e⟩
/-- a new tuple's data -/
theorem DV.newtup {a : Addr} (h : H a = none) {o : Obj} (n : o.dict = none) {ds : List D} {vs : List V} (r : DVs K H ds vs) : DV K (upd H a (.frz o (.tup vs))) (.tup ds) (.ref a) :=
  .tup upd_same n (r.mono (tups_new h _))
theorem DV.newpair {a : Addr} (h : H a = none) {ds : List D} {vs : List V} (r : DVs K H ds vs) : DV K (upd H a (.tup vs)) (.pair ds) (.ref a) :=
  .pair upd_same (r.mono (tups_new h _))
theorem DV.sqT {a : Addr} {ds : List D} (h : DV K H (.tup ds) (.ref a)) : ∃ vs, SqT K H a vs ∧ DVs K H ds vs := by
  cases h with | tup s _ r => exact ⟨_, .inl (.inr ⟨_, s⟩), r⟩
end

/-! ### tuples of the text's own making: what stands at the new address is known -/
section
variable {X : Cx}
def tTupF (t : TA) : TE := fun σ H Q => t σ H fun xs H1 => xs.length ≤ sizeLine ∧ ∀ p o, H1 p = none → o.dict = none → Q (.ref p) (upd H1 p (.frz o (.tup xs)))
theorem frz_ok {P : Program} {w : World} {H : Hp} {h : Heap} {a : Addr} {xs : List V} {its : List Value} (z : xs.length ≤ sizeLine) (r : Vals xs its) (e : h.get? a = some { cls := .type "tuple", data := .seq its.toArray }) : ObjOk P w H h a (.frz { cls := .type "tuple", data := .seq its.toArray } (.tup xs)) :=
  ⟨e, z, its, r, ⟨_, e, rfl, _, rfl⟩⟩
theorem pe_tupF {es : List Expr} {t : TA} {pos : Pos} {x1} (h : PA X es t) : PE X (.Tuple es x1 pos) (tTupF t) := by
  refine ⟨fun pins s σ H Q I hq => ?_⟩
  refine wpAny_Tuple_spliced (thn (h.run pos pins s σ H _ I hq) fun us s1 ⟨xs, H1, I1, r, z, q⟩ => ⟨by rw [← r.length]; exact z, ?_⟩)
  have hf : H1 s1.heap.objs.size = none := I1.hok.fresh (Nat.le_refl _)
  refine ⟨.ref s1.heap.objs.size, upd H1 s1.heap.objs.size (.frz { cls := .type "tuple", data := .seq us.toArray } (.tup xs)), I1.laid (t' := s1.toks) (fun b u e => Heap.get?_push_of_some _ e) (Nat.le_refl _) ?_, rfl, q _ _ hf rfl⟩
  exact frz_ok z r (Heap.get?_push_size _ rfl)
def rCatF (K : PySem.W.Frag) : R2 := fun x y H Q => ∃ a b xs ys, x = .ref a ∧ y = .ref b ∧ SqT K H a xs ∧ SqT K H b ys ∧ xs.length + ys.length ≤ sizeLine ∧
  (xs = [] → Q (.ref b) H) ∧ (xs ≠ [] → ys = [] → Q (.ref a) H) ∧ (xs ≠ [] → ys ≠ [] → ∀ p o, H p = none → o.dict = none → Q (.ref p) (upd H p (.frz o (.tup (xs ++ ys)))))
theorem op_catF : OpR X (binaryOp .Add) (rCatF X.K) := by
  intro pins s σ H x y v u Q I rx ry h
  obtain ⟨a, b, xs, ys, rfl, rfl, ha, hb, hz, q0, q1, q2⟩ := h
  cases rx
  cases ry
  obtain ⟨its, r1, p1, _⟩ := I.tuple ha
  obtain ⟨its2, r2, p2, _⟩ := I.tuple hb
  by_cases hx : xs = []
  · subst hx
    cases r1
    exact cat_tup0 p1 p2 ⟨.ref b, H, I, rfl, q0 rfl⟩
  · refine HT.cat_tup p1 p2 (fun z => hx (r1.nil_iff.mp z)) (fun z => ⟨.ref a, H, I, rfl, q1 hx (r2.nil_iff.mp z)⟩) (fun z => ?_) (by rw [← r1.length, ← r2.length]; exact hz)
    refine ⟨.ref s.heap.objs.size, _, I.laid (t' := s.toks) (o := .frz { cls := .type "tuple", data := .seq (its ++ its2).toArray } (.tup (xs ++ ys))) (fun b ob q => Heap.get?_push_of_some _ q) (Nat.le_refl _) ?_, rfl, q2 hx (fun w => z (r2.nil_iff.mpr w)) _ _ (I.hok.fresh (Nat.le_refl _)) rfl⟩
    exact frz_ok (by rw [List.length_append]; exact hz) (r1.append r2) (Heap.get?_push_size _ rfl)
def rSlF (K : PySem.W.Frag) : V → Option Int → Option Int → Hp → VK → Prop := fun x lo hi H Q => ∃ a xs, x = .ref a ∧ SqT K H a xs ∧
  (HT.sIx xs.length 0 lo = 0 ∧ HT.sIx xs.length xs.length hi = xs.length → Q (.ref a) H) ∧ (¬ (HT.sIx xs.length 0 lo = 0 ∧ HT.sIx xs.length xs.length hi = xs.length) → ∀ p o, H p = none → o.dict = none → Q (.ref p) (upd H p (.frz o (.tup (cutV xs lo hi)))))
theorem sl_tupF : SlR X (rSlF X.K) := by
  intro pins s σ H x v vl vu lo hi sl Q I rx hs pl pu h
  obtain ⟨a, xs, rfl, hx, q1, q2⟩ := h
  cases rx
  obtain ⟨its, r, ht, hz⟩ := I.tuple hx
  have hlen : its.toArray.size = xs.length := by rw [List.size_toArray]; exact r.length.symm
  refine ⟨"tuple", _, PyProof.Rows.slot_tuple_getitem.lookup, ht.typeIs, ?_⟩
  by_cases hw : HT.sIx xs.length 0 lo = 0 ∧ HT.sIx xs.length xs.length hi = xs.length
  · exact getItem_tuple_whole ht hs pl pu (by rw [hlen]; exact hw) ⟨.ref a, H, I, rfl, q1 hw⟩
  · refine HT.getItem_tuple_cut ht hs pl pu (by rw [hlen]; exact hw) ?_ (by rw [hlen]; exact hz)
    rw [hlen]
    refine ⟨.ref s.heap.objs.size, _, I.laid (t' := s.toks) (o := .frz { cls := .type "tuple", data := .seq ((its.drop (HT.sIx xs.length 0 lo)).take (HT.sIx xs.length xs.length hi - HT.sIx xs.length 0 lo)).toArray } (.tup (cutV xs lo hi))) (fun b ob q => Heap.get?_push_of_some _ q) (Nat.le_refl _) ?_, rfl, q2 hw _ _ (I.hok.fresh (Nat.le_refl _)) rfl⟩
    exact frz_ok (Nat.le_trans (cutV_length xs lo hi) hz) ((r.drop (HT.sIx xs.length 0 lo)).take (HT.sIx xs.length xs.length hi - HT.sIx xs.length 0 lo)) (Heap.get?_push_size _ rfl)
theorem call_tupleF : CallR X (.type "tuple") (fun xs H Q => ∃ p ys, xs = [.ref p] ∧ ((SqL X.K H p ys ∧ ∀ l o, H l = none → o.dict = none → Q (.ref l) (upd H l (.frz o (.tup ys)))) ∨ (SqT X.K H p ys ∧ Q (.ref p) H))) := by
  intro pins s σ H xs us Q I r h
  obtain ⟨p, ys, rfl, h⟩ := h
  obtain ⟨u, rfl, rx⟩ := vals1 r
  cases rx
  rcases h with ⟨hq, q⟩ | ⟨hq, q⟩
  · obtain ⟨its, r', pl, hz⟩ := I.list hq
    have hlen := r'.length
    refine call_tuple_list pl.isList (fun h' kp => ?_) (by simp only [List.size_toArray] <;> omega)
    have I1 : Inv X pins σ H { s with heap := h' } := I.kept (t' := s.toks) kp
    have I2 : Inv X pins σ (upd H h'.objs.size (.frz { cls := .type "tuple", data := .seq its.toArray } (.tup ys))) { s with heap := h'.push { cls := .type "tuple", data := .seq its.toArray } } :=
      I1.laid (t' := s.toks) (fun b o e => Heap.get?_push_of_some _ e) (Nat.le_refl _) (frz_ok hz r' (Heap.get?_push_size _ rfl))
    exact ⟨.ref h'.objs.size, _, I2, rfl, q _ _ (I1.hok.fresh (Nat.le_refl _)) rfl⟩
  · obtain ⟨its, r', pl, hz⟩ := I.tuple hq
    exact call_tuple_same pl ⟨.ref p, H, I, rfl, q⟩
end
end Dt

set_option Elab.async false
set_option autoImplicit false
set_option linter.all false
set_option maxRecDepth 100000
set_option maxHeartbeats 4000000
/-! DB: lifted readings: expressions. -/
namespace Dt
open PySem PySem.Spec PyProof.Rows L2 LamX

abbrev Std := List (Option D)
abbrev DQ := D → DM → Prop
/-- an exception of a class of the program: its class, its attributes -/
abbrev DX := Addr → List (Str × D) → DM → Prop
abbrev TED := Std → DM → DQ → DX → Prop
abbrev TTD := Std → DM → (Bool → DM → Prop) → DX → Prop
abbrev TAD := Std → DM → (List D → DM → Prop) → DX → Prop

def RelS (K : Bd) (H : Hp) (σd : Std) (σ : L2.St) : Prop := σd.length = σ.length ∧ ∀ (i : Nat) (d : D), σd[i]? = some (some d) → ∃ v, σ[i]? = some (some v) ∧ DV K H d v
theorem RelS.mono {K : Bd} {H H' : Hp} (k : Tups H H') {σd : Std} {σ : L2.St} (S : RelS K H σd σ) : RelS K H' σd σ :=
  ⟨S.1, fun i d e => let ⟨v, e2, h⟩ := S.2 i d e; ⟨v, e2, h.mono k⟩⟩
/-- an exception's own dict -/
def XD (K : Bd) (H : Hp) (d : Option Addr) (fs : List (Str × D)) : Prop :=
  (d = none ∧ fs = []) ∨ ∃ dd gs, d = some dd ∧ H dd = some (.xd gs) ∧ fs.map (·.1) = gs.map (·.1) ∧ DVs K H (fs.map (·.2)) (gs.map (·.2))
def CnX (K : Bd) (M : DM) (H : Hp) (E : DX) (W : XK) : Prop := ∀ C fs d M' H', XD K H' d fs → Rel K M' H' → Keep M H M' H' → E C fs M' → W (.ref C) d H'
theorem CnX.after {K : Bd} {M M1 : DM} {H H1 : Hp} {E : DX} {W : XK} (c : CnX K M H E W) (k : Keep M H M1 H1) : CnX K M1 H1 E W := fun C fs d M' H' x R k2 e => c C fs d M' H' x R (k.trans k2) e
def CnE (K : Bd) (M : DM) (H : Hp) (Qd : DQ) (Q : VK) : Prop := ∀ d v M' H', DV K H' d v → Rel K M' H' → Keep M H M' H' → Qd d M' → Q v H'
theorem CnE.after {K : Bd} {M M1 : DM} {H H1 : Hp} {Qd : DQ} {Q : VK} (c : CnE K M H Qd Q) (k : Keep M H M1 H1) : CnE K M1 H1 Qd Q := fun d v M' H' x R k2 e => c d v M' H' x R (k.trans k2) e
theorem CnE.now {K : Bd} {M : DM} {H : Hp} {Qd : DQ} {Q : VK} (c : CnE K M H Qd Q) (R : Rel K M H) {d : D} {v : V} (h : DV K H d v) (q : Qd d M) : Q v H := c d v M H h R .refl q

def lE (K : Bd) (W : WX) (t : TED) : TE := fun σ H Q => ∃ σd M Qd E, RelS K H σd σ ∧ Rel K M H ∧ t σd M Qd E ∧ CnE K M H Qd Q ∧ CnX K M H E (fun c d h => W c d σ h)
def lT (K : Bd) (W : WX) (t : TTD) : TT := fun σ H Q => ∃ σd M Qd E, RelS K H σd σ ∧ Rel K M H ∧ t σd M Qd E ∧ (∀ b M' H', Rel K M' H' → Keep M H M' H' → Qd b M' → Q b H') ∧ CnX K M H E (fun c d h => W c d σ h)
def lA (K : Bd) (W : WX) (t : TAD) : TA := fun σ H Q => ∃ σd M Qd E, RelS K H σd σ ∧ Rel K M H ∧ t σd M Qd E ∧ (∀ ds vs M' H', DVs K H' ds vs → Rel K M' H' → Keep M H M' H' → Qd ds M' → Q vs H') ∧ CnX K M H E (fun c d h => W c d σ h)

theorem PE.imp {X : Cx} {e : Expr} {t t' : TE} (h : PE X e t) (i : ∀ σ H Q, t' σ H Q → t σ H Q) : PE X e t' := ⟨fun pins s σ H Q I hw => h.run pins s σ H Q I (i _ _ _ hw)⟩
theorem PT.imp {X : Cx} {e : Expr} {t t' : TT} (h : PT X e t) (i : ∀ σ H Q, t' σ H Q → t σ H Q) : PT X e t' := ⟨fun pins s σ H Q I hw => h.run pins s σ H Q I (i _ _ _ hw)⟩
theorem PW.imp {X : Cx} {e : Expr} {t t' : TT} (h : PW X e t) (i : ∀ σ H Q, t' σ H Q → t σ H Q) : PW X e t' := ⟨fun wh pins s σ H Q I hw => h.run wh pins s σ H Q I (i _ _ _ hw)⟩
theorem PA.imp {X : Cx} {es : List Expr} {t t' : TA} (h : PA X es t) (i : ∀ σ H Q, t' σ H Q → t σ H Q) : PA X es t' := ⟨fun pos pins s σ H Q I hw => h.run pos pins s σ H Q I (i _ _ _ hw)⟩
theorem PS.imp {X : Cx} {e : Stmt} {t t' : TS} (h : PS X e t) (i : ∀ D σ H, t' D σ H → t D σ H) : PS X e t' := ⟨fun pins s σ H Q I hw => h.run pins s σ H Q I (i _ _ _ hw)⟩
theorem PSs.imp {X : Cx} {e : List Stmt} {t t' : TS} (h : PSs X e t) (i : ∀ D σ H, t' D σ H → t D σ H) : PSs X e t' := ⟨fun pins s σ H Q I hw => h.run pins s σ H Q I (i _ _ _ hw)⟩

/-! ### slots -/
@[reducible] def slot : Std → Nat → Option D
  | [], _ => none
  | x :: _, 0 => x
  | _ :: r, n + 1 => slot r n
@[reducible] def setS : Std → Nat → D → Std
  | [], _, _ => []
  | _ :: r, 0, d => some d :: r
  | x :: r, n + 1, d => x :: setS r n d
theorem slot_eq : ∀ (σ : Std) (i : Nat) (d : D), slot σ i = some d → σ[i]? = some (some d)
  | x :: r, 0, d, h => by simpa using h
  | x :: r, n + 1, d, h => by simpa using slot_eq r n d h
theorem setS_eq : ∀ (σ : Std) (i : Nat) (d : D), setS σ i d = σ.set i (some d)
  | [], _, _ => rfl
  | x :: r, 0, d => rfl
  | x :: r, n + 1, d => by show x :: setS r n d = x :: r.set n (some d); rw [setS_eq r n d]
theorem RelS.set {K : Bd} {H : Hp} {σd : Std} {σ : L2.St} (S : RelS K H σd σ) {d : D} {v : V} (h : DV K H d v) (i : Nat) : RelS K H (setS σd i d) (σ.set i (some v)) := by
  rw [setS_eq]
  refine ⟨by simpa using S.1, fun j e he => ?_⟩
  by_cases hj : i = j
  · subst hj
    by_cases hi : i < σd.length
    · rw [List.getElem?_set_self hi] at he
      cases he
      exact ⟨v, by rw [List.getElem?_set_self (by rw [← S.1]; exact hi)], h⟩
    · rw [List.getElem?_eq_none (by simpa using Nat.le_of_not_lt hi)] at he; cases he
  · rw [List.getElem?_set_ne hj] at he
    obtain ⟨w, e2, q⟩ := S.2 j e he
    exact ⟨w, by rw [List.getElem?_set_ne hj]; exact e2, q⟩

section
variable {X : Cx} {W : WX}
/-! ### names, constants -/
def dVar (i : Nat) : TED := fun σ M Q _ => match slot σ i with
  | some d => Q d M
  | none => False
def dC (d : D) : TED := fun _ M Q _ => Q d M
theorem de_var {i : Nat} {e : Expr} (h : PE X e (tVar i)) : PE X e (lE X.B W (dVar i)) := PE.imp h fun σ H Q ⟨σd, M, Qd, E, S, R, t, c, cx⟩ => by
  have t' : (match slot σd i with
    | some d => Qd d M
    | none => False) := t
  cases e : slot σd i with
  | none => rw [e] at t'; exact t'.elim
  | some d =>
    rw [e] at t'
    obtain ⟨v, e2, q⟩ := S.2 i d (slot_eq _ _ _ e)
    exact ⟨v, e2, c.now R q t'⟩
theorem de_c {e : Expr} {d : D} {v : V} (h : PE X e (tC v)) (r : ∀ K H, DV K H d v) : PE X e (lE X.B W (dC d)) := PE.imp h fun σ H Q ⟨σd, M, Qd, E, S, R, t, c, cx⟩ => c.now R (r _ _) t
theorem de_int {i j pos} : PE X (.Constant (.int i) j pos) (lE X.B W (dC (.int i))) := de_c pe_int fun _ _ => .int
theorem de_bl {b j pos} : PE X (.Constant (.bool b) j pos) (lE X.B W (dC (.bl b))) := de_c pe_bl fun _ _ => .bl
theorem de_non {j pos} : PE X (.Constant .none j pos) (lE X.B W (dC .non)) := de_c pe_non fun _ _ => .non
theorem de_str {x j pos} : PE X (.Constant (.str x) j pos) (lE X.B W (dC (.str x))) := de_c pe_str fun _ _ => .str

/-! ### argument lists, displays -/
def dNil : TAD := fun _ M Q _ => Q [] M
def dCons (ta : TED) (tr : TAD) : TAD := fun σ M Q E => ta σ M (fun d M1 => tr σ M1 (fun ds M2 => Q (d :: ds) M2) E) E
theorem da_nil : PA X [] (lA X.B W dNil) := PA.imp pa_nil fun σ H Q ⟨σd, M, Qd, E, S, R, t, c, cx⟩ => c [] [] M H .nil R .refl t
theorem da_cons {e : Expr} {es : List Expr} {ta : TED} {tr : TAD} (ha : PE X e (lE X.B W ta)) (hr : PA X es (lA X.B W tr)) (hs : starEach (e :: es) X.env = (false, eval e X.env) :: starEach es X.env := by rfl) : PA X (e :: es) (lA X.B W (dCons ta tr)) :=
  PA.imp (pa_cons ha hr hs) fun σ H Q ⟨σd, M, Qd, E, S, R, t, c, cx⟩ =>
    ⟨σd, M, _, E, S, R, t, fun d v M1 H1 dv R1 k1 q1 => ⟨σd, M1, _, E, S.mono (k1.tups R), R1, q1, fun ds vs M2 H2 dvs R2 k2 q2 => c (d :: ds) (v :: vs) M2 H2 (.cons (dv.mono (k2.tups R1)) dvs) R2 (k1.trans k2) q2, cx.after k1⟩, cx⟩
def dTup (t : TAD) : TED := fun σ M Q E => t σ M (fun ds M1 => ds.length ≤ sizeLine ∧ Q (.tup ds) M1) E
def dLst (t : TAD) : TED := fun σ M Q E => t σ M (fun ds M1 => ds.length ≤ sizeLine ∧ ∀ p, M1 p = none → Q (.ref p) (put M1 p (.lst ds))) E
theorem de_tup {es : List Expr} {k pos} {t : TAD} (h : PA X es (lA X.B W t)) : PE X (.Tuple es k pos) (lE X.B W (dTup t)) :=
  PE.imp (pe_tupF h) fun σ H Q ⟨σd, M, Qd, E, S, R, t, c, cx⟩ => ⟨σd, M, _, E, S, R, t, fun ds vs M1 H1 dvs R1 k1 ⟨hl, q⟩ => ⟨by rw [← dvs.length]; exact hl, fun p o hp hn =>
    c (.tup ds) (.ref p) M1 _ (.newtup hp hn dvs) (R1.hidden hp _) (k1.trans (.hidden R1 hp _)) q⟩, cx⟩
theorem de_lst {es : List Expr} {pos} {t : TAD} (h : PA X es (lA X.B W t)) : PE X (.List es pos) (lE X.B W (dLst t)) :=
  PE.imp (pe_lst h) fun σ H Q ⟨σd, M, Qd, E, S, R, t, c, cx⟩ => ⟨σd, M, _, E, S, R, t, fun ds vs M1 H1 dvs R1 k1 ⟨hl, q⟩ => ⟨by rw [← dvs.length]; exact hl, fun p hp =>
    c (.ref p) (.ref p) _ _ .ref (R1.new hp (.lst dvs)) (k1.trans (.new R1 hp _ _)) (q p (R1.free hp))⟩, cx⟩

/-! ### operators of two values -/
abbrev R2D := D → D → DM → DQ → Prop
def OpD (X : Cx) (r : R2) (rd : R2D) : Prop := ∀ d e x y M H Qd Q, DV X.B H d x → DV X.B H e y → Rel X.B M H → rd d e M Qd → CnE X.B M H Qd Q → r x y H Q
def dOp (rd : R2D) (ta tb : TED) : TED := fun σ M Q E => ta σ M (fun d M1 => tb σ M1 (fun e M2 => rd d e M2 Q) E) E
theorem lift2 {r : R2} {rd : R2D} (hr : OpD X r rd) {ta tb : TED} {σ : L2.St} {H : Hp} {Q : VK} (h : lE X.B W (dOp rd ta tb) σ H Q) : tOp r (lE X.B W ta) (lE X.B W tb) σ H Q := by
  obtain ⟨σd, M, Qd, E, S, R, t, c, cx⟩ := h
  exact ⟨σd, M, _, E, S, R, t, fun d v M1 H1 dv R1 k1 q1 => ⟨σd, M1, _, E, S.mono (k1.tups R), R1, q1, fun e u M2 H2 eu R2 k2 q2 =>
    hr d e v u M2 H2 Qd Q (dv.mono (k2.tups R1)) eu R2 q2 (c.after (k1.trans k2)), cx.after k1⟩, cx⟩
theorem de_op {op : Operator} {r : R2} {rd : R2D} {a b : Expr} {ta tb : TED} {pos : Pos} (ho : OpR X (binaryOp op) r) (hr : OpD X r rd) (ha : PE X a (lE X.B W ta)) (hb : PE X b (lE X.B W tb)) : PE X (.BinOp a op b pos) (lE X.B W (dOp rd ta tb)) :=
  PE.imp (pe_op ho ha hb) fun _ _ _ h => lift2 hr h
theorem de_cmp {op : CmpOp} {r : R2} {rd : R2D} {a b : Expr} {ta tb : TED} {pos : Pos} (ho : OpR X (compareOp op) r) (hr : OpD X r rd) (ha : PE X a (lE X.B W ta)) (hb : PE X b (lE X.B W tb)) (hm : behindInMarks op b = false := by first | exact nomark _ | rfl) : PE X (.Compare a [op] [b] pos) (lE X.B W (dOp rd ta tb)) :=
  PE.imp (pe_cmpR ho ha hb hm) fun _ _ _ h => lift2 hr h
abbrev R1D := D → DM → DQ → Prop
def UnD (X : Cx) (r : V → Hp → VK → Prop) (rd : R1D) : Prop := ∀ d x M H Qd Q, DV X.B H d x → Rel X.B M H → rd d M Qd → CnE X.B M H Qd Q → r x H Q
def dUn (rd : R1D) (ta : TED) : TED := fun σ M Q E => ta σ M (fun d M1 => rd d M1 Q) E
theorem lift1 {r : V → Hp → VK → Prop} {rd : R1D} (hr : UnD X r rd) {ta : TED} {σ : L2.St} {H : Hp} {Q : VK} (h : lE X.B W (dUn rd ta) σ H Q) : lE X.B W ta σ H fun x H1 => r x H1 Q := by
  obtain ⟨σd, M, Qd, E, S, R, t, c, cx⟩ := h
  exact ⟨σd, M, _, E, S, R, t, fun d v M1 H1 dv R1 k1 q1 => hr d v M1 H1 Qd Q dv R1 q1 (c.after k1), cx⟩
/-- a chain of two comparisons -/
def dChain (rd rd' : R2D) (ta tb tc : TED) : TED := fun σ M Q E => ta σ M (fun d M1 => tb σ M1 (fun e M2 => rd d e M2 (fun z M3 => match z with
  | .bl true => tc σ M3 (fun f M4 => rd' e f M4 Q) E
  | .bl false => Q (.bl false) M3
  | _ => False)) E) E
theorem de_chain {op op' : CmpOp} {r r' : R2} {rd rd' : R2D} {a b c : Expr} {ta tb tc : TED} {pos : Pos} (ho : OpR X (compareOp op) r) (hr : OpD X r rd) (ho' : OpR X (compareOp op') r') (hr' : OpD X r' rd') (ha : PE X a (lE X.B W ta)) (hb : PE X b (lE X.B W tb)) (hc : PE X c (lE X.B W tc))
    (h : PE X a (lE X.B W ta) → PE X b (lE X.B W tb) → PE X c (lE X.B W tc) → PE X (.Compare a [op, op'] [b, c] pos) (tChain r r' (lE X.B W ta) (lE X.B W tb) (lE X.B W tc))) : PE X (.Compare a [op, op'] [b, c] pos) (lE X.B W (dChain rd rd' ta tb tc)) :=
  PE.imp (h ha hb hc) fun σ H Q ⟨σd, M, Qd, E, S, R, t, c, cx⟩ => ⟨σd, M, _, E, S, R, t, fun d v M1 H1 dv R1 k1 q1 => ⟨σd, M1, _, E, S.mono (k1.tups R), R1, q1, fun e u M2 H2 eu R2 k2 q2 =>
    hr d e v u M2 H2 _ _ (dv.mono (k2.tups R1)) eu R2 q2 fun z zv M3 H3 zr R3 k3 q3 => by
      cases zr with
      | bl =>
        rename_i k
        refine ⟨k, rfl, ?_⟩
        cases k with
        | false => exact c _ _ M3 H3 .bl R3 ((k1.trans k2).trans k3) q3
        | true =>
          refine ⟨σd, M3, _, E, (S.mono (k1.tups R)).mono ((k2.trans k3).tups R1), R3, q3, fun f w M4 H4 fw R4 k4 q4 => ?_, cx.after ((k1.trans k2).trans k3)⟩
          exact hr' e f u w M4 H4 Qd Q ((eu.mono (k3.tups R2)).mono (k4.tups R3)) fw R4 q4 (c.after (((k1.trans k2).trans k3).trans k4))
      | _ => exact q3.elim, cx.after k1⟩, cx⟩

/-! ### truth -/
/-- a value's truth, where it is one (True, False) -/
def dB (t : TED) : TTD := fun σ M Q E => t σ M (fun d M1 => match d with
  | .bl b => Q b M1
  | _ => False) E
theorem dt_of {e : Expr} {t : TED} {tt : TE} (h : PT X e (fun σ H Q => lE X.B W t σ H fun x H' => ∃ k, x = .bl k ∧ Q k H')) : PT X e (lT X.B W (dB t)) :=
  PT.imp h fun σ H Q ⟨σd, M, Qd, E, S, R, t, c, cx⟩ => ⟨σd, M, _, E, S, R, t, fun d v M1 H1 dv R1 k1 q1 => by
    cases dv with
    | bl => exact ⟨_, rfl, c _ M1 H1 R1 k1 q1⟩
    | _ => exact q1.elim, cx⟩
theorem dt_val {e : Expr} {t : TED} (h : PE X e (lE X.B W t)) (he : ∀ whole, isTrue e X.env whole = (do let v ← whole; standAt e.pos; holding [v] (truthy v)) := by intro _; rfl) : PT X e (lT X.B W (dB t)) := dt_of (tt := lE X.B W t) (pt_val h he)
theorem dt_cmp {op : CmpOp} {r : R2} {rd : R2D} {a b : Expr} {ta tb : TED} {pos : Pos} (ho : OpR X (compareOp op) r) (hr : OpD X r rd) (ha : PE X a (lE X.B W ta)) (hb : PE X b (lE X.B W tb)) (hm : behindInMarks op b = false := by first | exact nomark _ | rfl) : PT X (.Compare a [op] [b] pos) (lT X.B W (dB (dOp rd ta tb))) :=
  dt_of (tt := lE X.B W (dOp rd ta tb)) (PT.imp (pt_cmpR ho ha hb hm) fun σ H Q h => lift2 (Q := fun x H' => ∃ k, x = .bl k ∧ Q k H') hr h)
def dNot (t : TTD) : TTD := fun σ M Q E => t σ M (fun b M1 => Q (!b) M1) E
theorem dt_not {a : Expr} {t : TTD} {pos : Pos} (h : PT X a (lT X.B W t)) : PT X (.UnaryOp .Not a pos) (lT X.B W (dNot t)) :=
  PT.imp (pt_not h) fun σ H Q ⟨σd, M, Qd, E, S, R, t, c, cx⟩ => ⟨σd, M, _, E, S, R, t, fun b M1 H1 R1 k1 q1 => c (!b) M1 H1 R1 k1 q1, cx⟩
def dAnd (t u : TTD) : TTD := fun σ M Q E => t σ M (fun b M1 => match b with
  | true => u σ M1 Q E
  | false => Q false M1) E
def dOr (t u : TTD) : TTD := fun σ M Q E => t σ M (fun b M1 => match b with
  | true => Q true M1
  | false => u σ M1 Q E) E
theorem dw_and1 {a : Expr} {t : TTD} {pos : Pos} (h : PT X a (lT X.B W t)) : PW X (.BoolOp .And [a] pos) (lT X.B W t) := pw_and1 h
theorem dw_or1 {a : Expr} {t : TTD} {pos : Pos} (h : PT X a (lT X.B W t)) : PW X (.BoolOp .Or [a] pos) (lT X.B W t) := pw_or1 h
theorem dw_and {a b : Expr} {r : List Expr} {t u : TTD} {pos : Pos} (h : PT X a (lT X.B W t)) (g : PW X (.BoolOp .And (b :: r) pos) (lT X.B W u)) : PW X (.BoolOp .And (a :: b :: r) pos) (lT X.B W (dAnd t u)) :=
  PW.imp (pw_and h g) fun σ H Q ⟨σd, M, Qd, E, S, R, t, c, cx⟩ => ⟨σd, M, _, E, S, R, t, fun b M1 H1 R1 k1 q1 => by
    cases b with
    | true => exact ⟨σd, M1, Qd, E, S.mono (k1.tups R), R1, q1, fun b M2 H2 R2 k2 q => c b M2 H2 R2 (k1.trans k2) q, cx.after k1⟩
    | false => exact c _ M1 H1 R1 k1 q1, cx⟩
theorem dw_or {a b : Expr} {r : List Expr} {t u : TTD} {pos : Pos} (h : PT X a (lT X.B W t)) (g : PW X (.BoolOp .Or (b :: r) pos) (lT X.B W u)) : PW X (.BoolOp .Or (a :: b :: r) pos) (lT X.B W (dOr t u)) :=
  PW.imp (pw_or h g) fun σ H Q ⟨σd, M, Qd, E, S, R, t, c, cx⟩ => ⟨σd, M, _, E, S, R, t, fun b M1 H1 R1 k1 q1 => by
    cases b with
    | true => exact c _ M1 H1 R1 k1 q1
    | false => exact ⟨σd, M1, Qd, E, S.mono (k1.tups R), R1, q1, fun b M2 H2 R2 k2 q => c b M2 H2 R2 (k1.trans k2) q, cx.after k1⟩, cx⟩
/-- .. as values: all but the last True or False -/
def dAndV (ta tb : TED) : TED := fun σ M Q E => ta σ M (fun d M1 => match d with
  | .bl true => tb σ M1 Q E
  | .bl false => Q (.bl false) M1
  | _ => False) E
def dOrV (ta tb : TED) : TED := fun σ M Q E => ta σ M (fun d M1 => match d with
  | .bl true => Q (.bl true) M1
  | .bl false => tb σ M1 Q E
  | _ => False) E
theorem de_one {op} {a : Expr} {t : TED} {pos : Pos} (h : PE X a (lE X.B W t)) : PE X (.BoolOp op [a] pos) (lE X.B W t) := pe_one h
theorem de_and {a b : Expr} {r : List Expr} {ta tb : TED} {pos : Pos} (ha : PE X a (lE X.B W ta)) (hb : PE X (.BoolOp .And (b :: r) pos) (lE X.B W tb)) : PE X (.BoolOp .And (a :: b :: r) pos) (lE X.B W (dAndV ta tb)) :=
  PE.imp (pe_and ha hb) fun σ H Q ⟨σd, M, Qd, E, S, R, t, c, cx⟩ => ⟨σd, M, _, E, S, R, t, fun d v M1 H1 dv R1 k1 q1 => by
    cases dv with
    | bl =>
      rename_i b
      refine ⟨b, rfl, ?_⟩
      cases b with
      | true => exact ⟨σd, M1, Qd, E, S.mono (k1.tups R), R1, q1, c.after k1, cx.after k1⟩
      | false => exact c _ _ M1 H1 .bl R1 k1 q1
    | _ => exact q1.elim, cx⟩
theorem de_or {a b : Expr} {r : List Expr} {ta tb : TED} {pos : Pos} (ha : PE X a (lE X.B W ta)) (hb : PE X (.BoolOp .Or (b :: r) pos) (lE X.B W tb)) : PE X (.BoolOp .Or (a :: b :: r) pos) (lE X.B W (dOrV ta tb)) :=
  PE.imp (pe_or ha hb) fun σ H Q ⟨σd, M, Qd, E, S, R, t, c, cx⟩ => ⟨σd, M, _, E, S, R, t, fun d v M1 H1 dv R1 k1 q1 => by
    cases dv with
    | bl =>
      rename_i b
      refine ⟨b, rfl, ?_⟩
      cases b with
      | true => exact c _ _ M1 H1 .bl R1 k1 q1
      | false => exact ⟨σd, M1, Qd, E, S.mono (k1.tups R), R1, q1, c.after k1, cx.after k1⟩
    | _ => exact q1.elim, cx⟩
def dNotV (ta : TED) : TED := fun σ M Q E => ta σ M (fun d M1 => match d with
  | .bl b => Q (.bl (!b)) M1
  | _ => False) E
theorem de_not {a : Expr} {ta : TED} {pos : Pos} (ha : PE X a (lE X.B W ta)) : PE X (.UnaryOp .Not a pos) (lE X.B W (dNotV ta)) :=
  PE.imp (pe_not ha) fun σ H Q ⟨σd, M, Qd, E, S, R, t, c, cx⟩ => ⟨σd, M, _, E, S, R, t, fun d v M1 H1 dv R1 k1 q1 => by
    cases dv with
    | bl => exact ⟨_, rfl, c _ _ M1 H1 .bl R1 k1 q1⟩
    | _ => exact q1.elim, cx⟩
def dIf (t : TTD) (ta tb : TED) : TED := fun σ M Q E => t σ M (fun b M1 => match b with
  | true => ta σ M1 Q E
  | false => tb σ M1 Q E) E
theorem de_ifExp {c a b : Expr} {t : TTD} {ta tb : TED} {pos : Pos} (hc : PT X c (lT X.B W t)) (ha : PE X a (lE X.B W ta)) (hb : PE X b (lE X.B W tb)) : PE X (.IfExp c a b pos) (lE X.B W (dIf t ta tb)) :=
  PE.imp (pe_ifExp hc ha hb) fun σ H Q ⟨σd, M, Qd, E, S, R, t, c, cx⟩ => ⟨σd, M, _, E, S, R, t, fun b M1 H1 R1 k1 q1 => by
    cases b with
    | true => exact ⟨σd, M1, Qd, E, S.mono (k1.tups R), R1, q1, c.after k1, cx.after k1⟩
    | false => exact ⟨σd, M1, Qd, E, S.mono (k1.tups R), R1, q1, c.after k1, cx.after k1⟩, cx⟩

/-! ### calls of built-ins -/
abbrev RLD := List D → DM → DQ → Prop
def CaD (X : Cx) (r : List V → Hp → VK → Prop) (rd : RLD) : Prop := ∀ ds vs M H Qd Q, DVs X.B H ds vs → Rel X.B M H → rd ds M Qd → CnE X.B M H Qd Q → r vs H Q
def dCB (rd : RLD) (t : TAD) : TED := fun σ M Q E => t σ M (fun ds M1 => rd ds M1 Q) E
theorem liftL {r : List V → Hp → VK → Prop} {rd : RLD} (hr : CaD X r rd) {ta : TAD} {σ : L2.St} {H : Hp} {Q : VK} (h : lE X.B W (dCB rd ta) σ H Q) : lA X.B W ta σ H fun vs H1 => r vs H1 Q := by
  obtain ⟨σd, M, Qd, E, S, R, t, c, cx⟩ := h
  exact ⟨σd, M, _, E, S, R, t, fun d v M1 H1 dv R1 k1 q1 => hr d v M1 H1 Qd Q dv R1 q1 (c.after k1), cx⟩
theorem de_cb {e : Expr} {r : List V → Hp → VK → Prop} {rd : RLD} {t : TAD} (h : PE X e (tCB r (lA X.B W t))) (hr : CaD X r rd) : PE X e (lE X.B W (dCB rd t)) :=
  PE.imp h fun _ _ _ h => liftL hr h
/-- methods of built-in types: the object, the arguments -/
abbrev RMD := D → List D → DM → DQ → Prop
def MtD (X : Cx) (T : String) (r : V → List V → Hp → VK → Prop) (rd : RMD) : Prop :=
  (∀ d ds x vs M H Qd Q, DV X.B H d x → DVs X.B H ds vs → Rel X.B M H → rd d ds M Qd → CnE X.B M H Qd Q → r x vs H Q)
def TyD (K : Bd) (T : String) (ok : D → DM → Prop) : Prop := ∀ d x M H, DV K H d x → Rel K M H → ok d M → tyV K T x H
def dBM (ok : D → DM → Prop) (rd : RMD) (to : TED) (t : TAD) : TED := fun σ M Q E => to σ M (fun d M1 => ok d M1 ∧ t σ M1 (fun ds M2 => rd d ds M2 Q) E) E
theorem de_bm {e : Expr} {T : String} {ok : D → DM → Prop} {r : V → List V → Hp → VK → Prop} {rd : RMD} {to : TED} {t : TAD} (h : PE X e (tBM X.B T r (lE X.B W to) (lA X.B W t))) (ty : TyD X.B T ok) (hr : MtD X T r rd) : PE X e (lE X.B W (dBM ok rd to t)) :=
  PE.imp h fun σ H Q ⟨σd, M, Qd, E, S, R, t, c, cx⟩ => ⟨σd, M, _, E, S, R, t, fun d v M1 H1 dv R1 k1 ⟨o1, q1⟩ => ⟨ty d v M1 H1 dv R1 o1, σd, M1, _, E, S.mono (k1.tups R), R1, q1, fun ds vs M2 H2 dvs R2 k2 q2 =>
    hr d ds v vs M2 H2 Qd Q (dv.mono (k2.tups R1)) dvs R2 q2 (c.after (k1.trans k2)), cx.after k1⟩, cx⟩
def dBM0 (ok : D → DM → Prop) (rd : RMD) (to : TED) : TED := fun σ M Q E => to σ M (fun d M1 => ok d M1 ∧ rd d [] M1 Q) E
theorem de_bm0 {e : Expr} {T : String} {ok : D → DM → Prop} {r : V → List V → Hp → VK → Prop} {rd : RMD} {to : TED} (h : PE X e (tBM0 X.B T r (lE X.B W to))) (ty : TyD X.B T ok) (hr : MtD X T r rd) : PE X e (lE X.B W (dBM0 ok rd to)) :=
  PE.imp h fun σ H Q ⟨σd, M, Qd, E, S, R, t, c, cx⟩ => ⟨σd, M, _, E, S, R, t, fun d v M1 H1 dv R1 k1 ⟨o1, q1⟩ => ⟨ty d v M1 H1 dv R1 o1, hr d [] v [] M1 H1 Qd Q dv .nil R1 q1 (c.after k1)⟩, cx⟩
end
end Dt

set_option Elab.async false
set_option autoImplicit false
set_option linter.all false
set_option maxRecDepth 100000
set_option maxHeartbeats 4000000
/-! DC: values as PyData; operators. -/
namespace Dt
open PySem PySem.Spec PyProof.Rows L2 LamX

/-! ### a value as PyData, at most so deep -/
mutual
inductive PyOf (M : DM) : Nat → D → PyData → Prop
  | non {n} : PyOf M n .non .none
  | bl {n b} : PyOf M n (.bl b) (.bool b)
  | int {n i} : PyOf M n (.int i) (.int i)
  | str {n x} : PyOf M n (.str x) (.str x)
  | tup {n ds ps} : PyOfs M n ds ps → PyOf M (n + 1) (.tup ds) (.tuple ps)
  | pair {n ds ps} : PyOfs M n ds ps → PyOf M (n + 1) (.pair ds) (.tuple ps)
  | lst {n a ds ps} : M a = some (.lst ds) → PyOfs M n ds ps → PyOf M (n + 1) (.ref a) (.list ps)
inductive PyOfs (M : DM) : Nat → List D → List PyData → Prop
  | nil {n} : PyOfs M n [] []
  | cons {n d p ds ps} : PyOf M n d p → PyOfs M n ds ps → PyOfs M n (d :: ds) (p :: ps)
end
mutual
theorem PyOf.shape {M : DM} : ∀ {n d p}, PyOf M n d p → p.plain = true ∧ p.depth ≤ n
  | _, _, _, .non => ⟨rfl, by simp [PyData.depth]⟩
  | _, _, _, .bl => ⟨rfl, by simp [PyData.depth]⟩
  | _, _, _, .int => ⟨rfl, by simp [PyData.depth]⟩
  | _, _, _, .str => ⟨rfl, by simp [PyData.depth]⟩
  | _, _, _, .tup h => by
    obtain ⟨a, b⟩ := PyOfs.shape h
    refine ⟨by simpa [PyData.plain] using a, ?_⟩
    simp only [PyData.depth]; omega
  | _, _, _, .pair h => by
    obtain ⟨a, b⟩ := PyOfs.shape h
    refine ⟨by simpa [PyData.plain] using a, ?_⟩
    simp only [PyData.depth]; omega
  | _, _, _, .lst _ h => by
    obtain ⟨a, b⟩ := PyOfs.shape h
    refine ⟨by simpa [PyData.plain] using a, ?_⟩
    simp only [PyData.depth]; omega
theorem PyOfs.shape {M : DM} : ∀ {n ds ps}, PyOfs M n ds ps → PyData.plainAll ps = true ∧ PyData.depthAll ps ≤ n
  | _, _, _, .nil => ⟨rfl, by simp [PyData.depthAll]⟩
  | _, _, _, .cons h t => by
    obtain ⟨a, b⟩ := PyOf.shape h
    obtain ⟨c, d⟩ := PyOfs.shape t
    refine ⟨by simp [PyData.plainAll, a, c], ?_⟩
    simp only [PyData.depthAll]; omega
end
mutual
theorem PyOf.dp {K : Bd} {M : DM} {H : Hp} (R : Rel K M H) : ∀ {n d p v}, PyOf M n d p → DV K H d v → Dp K H v p
  | _, _, _, _, .non, .non => .non
  | _, _, _, _, .bl, .bl => .bl _
  | _, _, _, _, .int, .int => .int _
  | _, _, _, _, .str, .str => .str _
  | _, _, _, _, .tup h, .tup s _ hs => .tup (.inl (.inr ⟨_, s⟩)) (PyOfs.dp R h hs)
  | _, _, _, _, .pair h, .pair s hs => .tup (.of s) (PyOfs.dp R h hs)
  | _, _, _, _, .lst e h, .ref => by
    obtain ⟨u, hu, r⟩ := R _ _ e
    cases r with
    | lst hs => exact .lst (.of hu) (PyOfs.dp R h hs)
theorem PyOfs.dp {K : Bd} {M : DM} {H : Hp} (R : Rel K M H) : ∀ {n ds ps vs}, PyOfs M n ds ps → DVs K H ds vs → DpAll K H vs ps
  | _, _, _, _, .nil, .nil => .nil
  | _, _, _, _, .cons h t, .cons a b => .cons (PyOf.dp R h a) (PyOfs.dp R t b)
end

section
variable {X : Cx}
/-! ### == and != -/
/-- data without dicts, not too deep -/
def Flat (d : PyData) : Prop := d.plain = true ∧ d.depth ≤ 40
theorem PyOf.flat {M : DM} {n d p} (h : PyOf M n d p) (hn : n ≤ 40 := by decide) : Flat p := ⟨h.shape.1, Nat.le_trans h.shape.2 hn⟩
def rEqP (K : Bd) (f : PyData → PyData → Bool) : R2 := fun x y H Q => ∃ d e, Dp K H x d ∧ Dp K H y e ∧ Flat d ∧ Flat e ∧ Q (.bl (f d e)) H
theorem room_min {A : Around} {d : PyData} {k : Nat} (h : Flat d) (hu : A.units + 64 < cLine) : A.units + min d.depth k < cLine := by
  have := h.2; omega
theorem op_eqP (hu : X.A.units + 64 < cLine) : OpR X (compareOp .Eq) (rEqP X.B fun d e => PyData.eqv d e) := by
  intro pins s σ H x y v u Q I rx ry ⟨d, e, hd, he, sd, se, q⟩
  obtain ⟨as, r1⟩ := Dp.reads I d x v hd rx
  obtain ⟨bs, r2⟩ := Dp.reads I e y u he ry
  exact SeqAt.eq_plain r1 r2 sd.1 se.1 (room_min sd hu) ⟨.bl _, H, I, rfl, q⟩
theorem op_neP (hu : X.A.units + 64 < cLine) : OpR X (compareOp .NotEq) (rEqP X.B fun d e => !PyData.eqv d e) := by
  intro pins s σ H x y v u Q I rx ry ⟨d, e, hd, he, sd, se, q⟩
  obtain ⟨as, r1⟩ := Dp.reads I d x v hd rx
  obtain ⟨bs, r2⟩ := Dp.reads I e y u he ry
  exact SeqAt.ne_plain r1 r2 sd.1 se.1 (room_min sd hu) ⟨.bl _, H, I, rfl, q⟩
def eqpD (f : PyData → PyData → Bool) : R2D := fun d e M Q => ∃ p q, PyOf M 20 d p ∧ PyOf M 20 e q ∧ Q (.bl (f p q)) M
theorem o_eqp {f : PyData → PyData → Bool} : OpD X (rEqP X.B f) (eqpD f) := fun d e x y M H Qd Q dx ey R ⟨p, q, hp, hq, h⟩ c => ⟨p, q, hp.dp R dx, hq.dp R ey, hp.flat, hq.flat, c.now R .bl h⟩
abbrev eqD : R2D := eqpD fun p q => PyData.eqv p q
abbrev neD : R2D := eqpD fun p q => !PyData.eqv p q
/-! ### < and its like -/
def rCmpD (K : Bd) (f : PyData → PyData → Bool) : R2 := fun x y H Q => ∃ d e, Dp K H x d ∧ Dp K H y e ∧ Flat d ∧ PySem.W.alike d e = true ∧ d ≠ .none ∧ Q (.bl (f d e)) H
theorem room_cmp {A : Around} {d e : PyData} (h : Flat d) (hu : A.units + 64 < cLine) : A.units + min d.depth e.depth < cLine := room_min h hu
theorem op_ltD (hu : X.A.units + 64 < cLine) : OpR X (compareOp .Lt) (rCmpD X.B fun d e => PySem.W.dataLt d e) := by
  intro pins s σ H x y v u Q I rx ry ⟨d, e, hd, he, sd, al, nn, q⟩
  obtain ⟨as, r1⟩ := Dp.reads I d x v hd rx
  obtain ⟨bs, r2⟩ := Dp.reads I e y u he ry
  exact PySem.W.lt_data r1 r2 al nn (room_cmp sd hu) ⟨.bl _, H, I, rfl, q⟩
theorem op_gtD (hu : X.A.units + 64 < cLine) : OpR X (compareOp .Gt) (rCmpD X.B fun d e => PySem.W.dataLt e d) := by
  intro pins s σ H x y v u Q I rx ry ⟨d, e, hd, he, sd, al, nn, q⟩
  obtain ⟨as, r1⟩ := Dp.reads I d x v hd rx
  obtain ⟨bs, r2⟩ := Dp.reads I e y u he ry
  exact PySem.W.gt_data r1 r2 al nn (room_cmp sd hu) ⟨.bl _, H, I, rfl, q⟩
theorem op_leD (hu : X.A.units + 64 < cLine) : OpR X (compareOp .LtE) (rCmpD X.B fun d e => !PySem.W.dataLt e d) := by
  intro pins s σ H x y v u Q I rx ry ⟨d, e, hd, he, sd, al, nn, q⟩
  obtain ⟨as, r1⟩ := Dp.reads I d x v hd rx
  obtain ⟨bs, r2⟩ := Dp.reads I e y u he ry
  exact PySem.W.le_data r1 r2 al nn (room_cmp sd hu) ⟨.bl _, H, I, rfl, q⟩
theorem op_geD (hu : X.A.units + 64 < cLine) : OpR X (compareOp .GtE) (rCmpD X.B fun d e => !PySem.W.dataLt d e) := by
  intro pins s σ H x y v u Q I rx ry ⟨d, e, hd, he, sd, al, nn, q⟩
  obtain ⟨as, r1⟩ := Dp.reads I d x v hd rx
  obtain ⟨bs, r2⟩ := Dp.reads I e y u he ry
  exact PySem.W.ge_data r1 r2 al nn (room_cmp sd hu) ⟨.bl _, H, I, rfl, q⟩
def cmpD (f : PyData → PyData → Bool) : R2D := fun d e M Q => ∃ p q, PyOf M 20 d p ∧ PyOf M 20 e q ∧ PySem.W.alike p q = true ∧ p ≠ .none ∧ Q (.bl (f p q)) M
theorem o_cmp {f : PyData → PyData → Bool} : OpD X (rCmpD X.B f) (cmpD f) := fun d e x y M H Qd Q dx ey R ⟨p, q, hp, hq, al, nn, h⟩ c => ⟨p, q, hp.dp R dx, hq.dp R ey, hp.flat, al, nn, c.now R .bl h⟩
abbrev ltD : R2D := cmpD fun p q => PySem.W.dataLt p q
abbrev gtD : R2D := cmpD fun p q => PySem.W.dataLt q p
abbrev leD : R2D := cmpD fun p q => !PySem.W.dataLt q p
abbrev geD : R2D := cmpD fun p q => !PySem.W.dataLt p q
/-! ### in and not in: lists, tuples -/
def rMemD (K : Bd) (neg : Bool) : R2 := fun x y H Q => ∃ d ds, Dp K H x d ∧ (Dp K H y (.list ds) ∨ Dp K H y (.tuple ds)) ∧ PyData.plainAll ds = true ∧ Flat d ∧
  Q (.bl (if neg then !ds.any fun z => PyData.eqv z d else ds.any fun z => PyData.eqv z d)) H
theorem op_memD (hu : X.A.units + 64 < cLine) : OpR X (compareOp .In) (rMemD X.B false) := by
  intro pins s σ H x y v u Q I rx ry ⟨d, ds, hd, he, sp, sd, q⟩
  have room : X.A.units + 1 + min (PyData.depthAll ds) d.depth < cLine := by have := sd.2; omega
  obtain ⟨as, r1⟩ := Dp.reads I d x v hd rx
  rcases he with he | he
  · obtain ⟨bs, r2⟩ := Dp.reads I (.list ds) y u he ry
    exact SeqAt.in_list_data r2 r1 sp sd.1 room ⟨.bl _, H, I, rfl, q⟩
  · obtain ⟨bs, r2⟩ := Dp.reads I (.tuple ds) y u he ry
    exact SeqAt.in_tuple_data r2 r1 sp sd.1 room ⟨.bl _, H, I, rfl, q⟩
theorem op_nmemD (hu : X.A.units + 64 < cLine) : OpR X (compareOp .NotIn) (rMemD X.B true) := by
  intro pins s σ H x y v u Q I rx ry ⟨d, ds, hd, he, sp, sd, q⟩
  have room : X.A.units + 1 + min (PyData.depthAll ds) d.depth < cLine := by have := sd.2; omega
  obtain ⟨as, r1⟩ := Dp.reads I d x v hd rx
  rcases he with he | he
  · obtain ⟨bs, r2⟩ := Dp.reads I (.list ds) y u he ry
    exact SeqAt.notIn_list_data r2 r1 sp sd.1 room ⟨.bl _, H, I, rfl, q⟩
  · obtain ⟨bs, r2⟩ := Dp.reads I (.tuple ds) y u he ry
    exact SeqAt.notIn_tuple_data r2 r1 sp sd.1 room ⟨.bl _, H, I, rfl, q⟩
/-- a sequence's items -/
def SeqIs (M : DM) (e : D) (xs : List D) : Prop := e = .tup xs ∨ ∃ a, e = .ref a ∧ M a = some (.lst xs)
def memD (neg : Bool) : R2D := fun d e M Q => ∃ p xs ps, SeqIs M e xs ∧ PyOf M 20 d p ∧ PyOfs M 20 xs ps ∧ Q (.bl (if neg then !ps.any fun z => PyData.eqv z p else ps.any fun z => PyData.eqv z p)) M
theorem o_mem {neg : Bool} : OpD X (rMemD X.B neg) (memD neg) := fun d e x y M H Qd Q dx ey R ⟨p, xs, ps, sq, hp, hs, h⟩ c => by
  refine ⟨p, ps, hp.dp R dx, ?_, hs.shape.1, hp.flat, c.now R .bl h⟩
  rcases sq with rfl | ⟨a, rfl, ea⟩
  · have g : PyOf M 21 (.tup xs) (.tuple ps) := .tup hs
    exact .inr (g.dp R ey)
  · have g : PyOf M 21 (.ref a) (.list ps) := .lst ea hs
    exact .inl (g.dp R ey)
/-! ### is None -/
def isN : R2D := fun d e M Q => e = .non ∧ Q (.bl (match d with
  | .non => true
  | _ => false)) M
def notN : R2D := fun d e M Q => e = .non ∧ Q (.bl (match d with
  | .non => false
  | _ => true)) M
theorem o_isN : OpD X (fun x y H Q => y = .non ∧ Q (.bl (decide (x = .non))) H) isN := fun d e x y M H Qd Q dx ey R ⟨he, h⟩ c => by
  subst he; cases ey
  refine ⟨rfl, ?_⟩
  cases dx <;> exact c.now R .bl h
theorem o_notN : OpD X (fun x y H Q => y = .non ∧ Q (.bl (!decide (x = .non))) H) notN := fun d e x y M H Qd Q dx ey R ⟨he, h⟩ c => by
  subst he; cases ey
  refine ⟨rfl, ?_⟩
  cases dx <;> exact c.now R .bl h
/-! ### + - * // % ** -/
def addD : R2D := fun d e M Q => match d, e with
  | .int i, .int j => Q (.int (i + j)) M
  | .str a, .str b => a.length + b.length ≤ sizeLine ∧ Q (.str (a ++ b)) M
  | .tup xs, .tup ys => xs.length + ys.length ≤ sizeLine ∧ Q (.tup (xs ++ ys)) M
  | .ref a, .ref b => ∃ xs ys, M a = some (.lst xs) ∧ M b = some (.lst ys) ∧ xs.length + ys.length ≤ sizeLine ∧ ∀ p, M p = none → Q (.ref p) (put M p (.lst (xs ++ ys)))
  | _, _ => False
def rAddA (K : Bd) : R2 := fun x y H Q => (rI0 (fun i j => .int (i + j)) x y H Q ∨ (∃ i j, x = .str i ∧ y = .str j ∧ i.length + j.length ≤ sizeLine ∧ Q (.str (i ++ j)) H)) ∨ (rCatF K x y H Q ∨ rCat x y H Q)
theorem op_addA : OpR X (binaryOp .Add) (rAddA X.B) := (op_add.or op_add_str).or (op_catF.or op_cat)
theorem o_add : OpD X (rAddA X.B) addD := fun d e x y M H Qd Q dx ey R h c => by
  cases dx with
  | int =>
    cases ey with
    | int => exact .inl (.inl ⟨_, _, rfl, rfl, c.now R .int h⟩)
    | _ => exact h.elim
  | str =>
    cases ey with
    | str => exact .inl (.inr ⟨_, _, rfl, rfl, h.1, c.now R .str h.2⟩)
    | _ => exact h.elim
  | @tup a o1 ds vs s1 n1 h1 =>
    cases ey with
    | @tup b o2 es ws s2 n2 h2 =>
      obtain ⟨hl, hq⟩ := h
      refine .inr (.inl ⟨a, b, vs, ws, rfl, rfl, .inl (.inr ⟨_, s1⟩), .inl (.inr ⟨_, s2⟩), by rw [← h1.length, ← h2.length]; exact hl, fun e => ?_, fun n e => ?_, fun _ _ p o hp hn => ?_⟩)
      · subst e; cases h1
        exact c.now R (.tup s2 n2 h2) hq
      · subst e; cases h2
        rw [List.append_nil] at hq
        exact c.now R (.tup s1 n1 h1) hq
      · exact c _ _ M _ (.newtup hp hn (h1.append h2)) (R.hidden hp _) (.hidden R hp _) hq
    | _ => exact h.elim
  | ref =>
    cases ey with
    | ref =>
      obtain ⟨xs, ys, e1, e2, hl, hq⟩ := h
      obtain ⟨u1, g1, r1⟩ := R _ _ e1
      obtain ⟨u2, g2, r2⟩ := R _ _ e2
      cases r1 with
      | lst h1 =>
        cases r2 with
        | lst h2 =>
          exact .inr (.inr ⟨_, _, _, _, rfl, rfl, g1, g2, by rw [← h1.length, ← h2.length]; exact hl, fun p hp => c _ _ _ _ .ref (R.new hp (.lst (h1.append h2))) (.new R hp _ _) (hq p (R.free hp))⟩)
    | _ => exact h.elim
  | _ => exact h.elim
def intOp (C : Int → Int → Prop) (g : Int → Int → Int) : R2D := fun d e M Q => match d, e with
  | .int i, .int j => C i j ∧ Q (.int (g i j)) M
  | _, _ => False
theorem o_int {C : Int → Int → Prop} {g : Int → Int → Int} : OpD X (rI C fun i j => .int (g i j)) (intOp C g) := fun d e x y M H Qd Q dx ey R h c => by
  cases dx with
  | int =>
    cases ey with
    | int => exact ⟨_, _, rfl, rfl, h.1, c.now R .int h.2⟩
    | _ => exact h.elim
  | _ => exact h.elim
def intOp0 (g : Int → Int → Int) : R2D := fun d e M Q => match d, e with
  | .int i, .int j => Q (.int (g i j)) M
  | _, _ => False
theorem o_int0 {g : Int → Int → Int} : OpD X (rI0 fun i j => .int (g i j)) (intOp0 g) := fun d e x y M H Qd Q dx ey R h c => by
  cases dx with
  | int =>
    cases ey with
    | int => exact ⟨_, _, rfl, rfl, c.now R .int h⟩
    | _ => exact h.elim
  | _ => exact h.elim
abbrev subD : R2D := intOp0 fun i j => i - j
abbrev mulI : R2D := intOp CMul fun i j => i * j
abbrev fdivD : R2D := intOp CDiv fun i j => i / j
abbrev modD : R2D := intOp (fun _ j => 0 < j) fun i j => i % j
abbrev powD : R2D := intOp CPow fun i j => i ^ j.toNat
def negD : R1D := fun d M Q => match d with
  | .int i => Q (.int (-i)) M
  | _ => False
theorem de_neg {W : WX} {a : Expr} {ta : TED} {pos : Pos} (ha : PE X a (lE X.B W ta)) : PE X (.UnaryOp .USub a pos) (lE X.B W (dUn negD ta)) :=
  PE.imp (pe_un un_neg ha) fun σ H Q h => lift1 (r := rU fun i => .int (-i)) (fun d x M H Qd Q dx R h c => by
    cases dx with
    | int => exact ⟨_, rfl, c.now R .int h⟩
    | _ => exact h.elim) h
/-! ### items, slices -/
def ixD : R2D := fun d e M Q => match e with
  | .int i => (match d with
    | .tup xs => ∃ v, atI xs i = some v ∧ Q v M
    | .pair xs => ∃ v, atI xs i = some v ∧ Q v M
    | .ref a => ∃ xs v, M a = some (.lst xs) ∧ atI xs i = some v ∧ Q v M
    | .str z => ∃ c, z.length ≤ sizeLine ∧ atI z.cps.toList i = some c ∧ Q (.str ⟨#[c]⟩) M
    | _ => False)
  | _ => False
theorem DVs.atI {K : Bd} {H : Hp} {ds : List D} {vs : List V} (h : DVs K H ds vs) {i : Int} {d : D} (e : L2.atI ds i = some d) : ∃ v, L2.atI vs i = some v ∧ DV K H d v := by
  unfold L2.atI at e ⊢
  rw [← h.length]
  cases q : ixN ds.length i with
  | none => rw [q] at e; cases e
  | some j =>
    rw [q] at e
    exact h.get e
theorem o_ix : OpD X (rIx X.B) ixD := fun d e x y M H Qd Q dx ey R h c => by
  cases ey with
  | int =>
    cases dx with
    | tup s1 _ h1 =>
      obtain ⟨v, hv, q⟩ := h
      obtain ⟨w, hw, r⟩ := h1.atI hv
      exact .inr (.inl ⟨_, _, _, w, rfl, rfl, .inl (.inr ⟨_, s1⟩), hw, c.now R r q⟩)
    | pair s1 h1 =>
      obtain ⟨v, hv, q⟩ := h
      obtain ⟨w, hw, r⟩ := h1.atI hv
      exact .inr (.inl ⟨_, _, _, w, rfl, rfl, .of s1, hw, c.now R r q⟩)
    | ref =>
      obtain ⟨xs, v, ea, hv, q⟩ := h
      obtain ⟨u, hu, r⟩ := R _ _ ea
      cases r with
      | lst h1 =>
        obtain ⟨w, hw, r⟩ := h1.atI hv
        exact .inl ⟨_, _, _, w, rfl, rfl, .of hu, hw, c.now R r q⟩
    | str =>
      obtain ⟨v, hl, hv, q⟩ := h
      exact .inr (.inr ⟨_, _, v, rfl, rfl, hl, hv, c.now R .str q⟩)
    | _ => exact h.elim
  | _ => exact h.elim
theorem de_ix {W : WX} {a b : Expr} {ta tb : TED} {pos : Pos} (ha : PE X a (lE X.B W ta)) (hb : PE X b (lE X.B W tb)) (hs : PlainIx b := by intro _ _; rfl) : PE X (.Subscript a b pos) (lE X.B W (dOp ixD ta tb)) :=
  PE.imp (pe_ix ix_seq ha hb hs) fun _ _ _ h => lift2 o_ix h
def cutD {α : Type} (xs : List α) (lo hi : Option Int) : List α := (xs.drop (HT.sIx xs.length 0 lo)).take (HT.sIx xs.length xs.length hi - HT.sIx xs.length 0 lo)
theorem DVs.cut {K : Bd} {H : Hp} {ds : List D} {vs : List V} (h : DVs K H ds vs) (lo hi : Option Int) : DVs K H (cutD ds lo hi) (cutV vs lo hi) := by
  unfold cutD cutV
  rw [← h.length]
  exact (h.drop _).take _
theorem cutD_whole {α : Type} {xs : List α} {lo hi : Option Int} (h : HT.sIx xs.length 0 lo = 0 ∧ HT.sIx xs.length xs.length hi = xs.length) : cutD xs lo hi = xs := by
  unfold cutD
  rw [h.1, h.2]
  simp
abbrev RSD := D → Option Int → Option Int → DM → DQ → Prop
def slD : RSD := fun d lo hi M Q => match d with
  | .tup xs => Q (.tup (cutD xs lo hi)) M
  | .scr xs => ∀ p, M p = none → Q (.ref p) (put M p (.lst (cutD xs lo hi)))
  | .ref a => ∃ xs, M a = some (.lst xs) ∧ ∀ p, M p = none → Q (.ref p) (put M p (.lst (cutD xs lo hi)))
  | .str z => z.length ≤ sizeLine ∧ Q (.str (cutS z lo hi)) M
  | _ => False
def rSlAll (K : Bd) : V → Option Int → Option Int → Hp → VK → Prop := fun x lo hi H Q => (rSlL K x lo hi H Q ∨ rSlF K x lo hi H Q) ∨ (∃ z, x = .str z ∧ z.length ≤ sizeLine ∧ Q (.str (cutS z lo hi)) H)
/-- an optional bound -/
abbrev TOD := Std → DM → (Option Int → DM → Prop) → DX → Prop
def dNo : TOD := fun _ M Q _ => Q none M
def dPart (t : TED) : TOD := fun σ M Q E => t σ M (fun d M1 => match d with
  | .int i => Q (some i) M1
  | _ => False) E
def dSl (te : TED) (tl th : TOD) : TED := fun σ M Q E => te σ M (fun d M1 => tl σ M1 (fun lo M2 => th σ M2 (fun hi M3 => slD d lo hi M3 Q) E) E) E
def lO (K : Bd) (W : WX) (t : TOD) : TO := fun σ H Q => ∃ σd M Qd E, RelS K H σd σ ∧ Rel K M H ∧ t σd M Qd E ∧ (∀ b M' H', Rel K M' H' → Keep M H M' H' → Qd b M' → Q b H') ∧ CnX K M H E (fun c d h => W c d σ h)
theorem do_no {W : WX} : PO X none (lO X.B W dNo) := ⟨fun pins s σ H Q I ⟨σd, M, Qd, E, S, R, t, c, cx⟩ => po_none.run pins s σ H Q I (c none M H R .refl t)⟩
theorem do_some {W : WX} {e : Expr} {t : TED} (h : PE X e (lE X.B W t)) : PO X (some e) (lO X.B W (dPart t)) := ⟨fun pins s σ H Q I ⟨σd, M, Qd, E, S, R, t, c, cx⟩ => (po_some h).run pins s σ H Q I
  ⟨σd, M, _, E, S, R, t, fun d v M1 H1 dv R1 k1 q1 => by
    cases dv with
    | int => exact ⟨_, rfl, c _ M1 H1 R1 k1 q1⟩
    | _ => exact q1.elim, cx⟩⟩
end
end Dt

set_option Elab.async false
set_option autoImplicit false
set_option linter.all false
set_option maxRecDepth 100000
set_option maxHeartbeats 4000000
/-! DD: targets, statements, loops, comprehensions. -/
namespace Dt
open PySem PySem.Spec PyProof.Rows L2 LamX

structure DEnds where
  nx : Std → DM → Prop
  rt : DQ
  bk : Std → DM → Prop
  ct : Std → DM → Prop
  ex : Std → DX
abbrev TSD := DEnds → Std → DM → Prop
/-- nothing is wanted of exceptions -/
abbrev noX : DX := fun _ _ _ => False
abbrev w0 : WX := fun _ _ _ _ => False
structure CnS (K : Bd) (W : WX) (M : DM) (H : Hp) (Dd : DEnds) (D : Ends) : Prop where
  nx : ∀ σd' σ' M' H', RelS K H' σd' σ' → Rel K M' H' → Keep M H M' H' → Dd.nx σd' M' → D.nx σ' H'
  rt : CnE K M H Dd.rt D.rt
  bk : ∀ σd' σ' M' H', RelS K H' σd' σ' → Rel K M' H' → Keep M H M' H' → Dd.bk σd' M' → D.bk σ' H'
  ct : ∀ σd' σ' M' H', RelS K H' σd' σ' → Rel K M' H' → Keep M H M' H' → Dd.ct σd' M' → D.ct σ' H'
  ex : ∀ σd' σ' C fs d M' H', RelS K H' σd' σ' → XD K H' d fs → Rel K M' H' → Keep M H M' H' → Dd.ex σd' C fs M' → W (.ref C) d σ' H'
section
variable {K : Bd} {W : WX} {M M1 : DM} {H H1 : Hp} {Dd : DEnds} {D : Ends}
theorem CnS.after (c : CnS K W M H Dd D) (k : Keep M H M1 H1) : CnS K W M1 H1 Dd D where
  nx := fun σd' σ' M' H' S R k2 q => c.nx σd' σ' M' H' S R (k.trans k2) q
  rt := c.rt.after k
  bk := fun σd' σ' M' H' S R k2 q => c.bk σd' σ' M' H' S R (k.trans k2) q
  ct := fun σd' σ' M' H' S R k2 q => c.ct σd' σ' M' H' S R (k.trans k2) q
  ex := fun σd' σ' C fs d M' H' S x R k2 q => c.ex σd' σ' C fs d M' H' S x R (k.trans k2) q
theorem CnS.cx (c : CnS K W M H Dd D) {σd : Std} {σ : L2.St} (S : RelS K H σd σ) (R : Rel K M H) : CnX K M H (Dd.ex σd) (fun c d h => W c d σ h) := fun C fs d M' H' x R' k e => c.ex σd σ C fs d M' H' (S.mono (k.tups R)) x R' k e
end
def lS (K : Bd) (W : WX) (t : TSD) : TS := fun D σ H => ∃ σd M Dd, RelS K H σd σ ∧ Rel K M H ∧ t Dd σd M ∧ CnS K W M H Dd D

/-! ### targets -/
abbrev TGD := D → Std → DM → (Std → DM → Prop) → DX → Prop
abbrev TGsD := List D → Std → DM → (Std → DM → Prop) → DX → Prop
/-- slots off vs stay -/
def Off (vs : List Nat) (σ σ' : L2.St) : Prop := σ'.length = σ.length ∧ ∀ i : Nat, i ∉ vs → σ'[i]? = σ[i]?
theorem Off.refl {vs : List Nat} {σ : L2.St} : Off vs σ σ := ⟨rfl, fun _ _ => rfl⟩
theorem Off.trans {vs : List Nat} {σ σ1 σ2 : L2.St} (a : Off vs σ σ1) (b : Off vs σ1 σ2) : Off vs σ σ2 := ⟨b.1.trans a.1, fun i h => (b.2 i h).trans (a.2 i h)⟩
theorem Off.set {vs : List Nat} {σ : L2.St} {i : Nat} {v : V} (h : i ∈ vs) : Off vs σ (σ.set i (some v)) := ⟨by simp, fun j hj => by
  rw [List.getElem?_set_ne]; intro e; subst e; exact hj h⟩
theorem wipe_at {σ : L2.St} {i : Nat} : ∀ {vs : List Nat}, (wipe σ vs)[i]? = if i ∈ vs then (σ[i]?).map (fun _ => none) else σ[i]?
  | [] => by simp [wipe]
  | v :: vs => by
    unfold wipe
    by_cases hi : v = i
    · subst hi
      by_cases hv : v < σ.length
      · rw [List.getElem?_set_self (by rw [wipe_length]; exact hv)]; simp [hv]
      · rw [List.getElem?_eq_none (by simpa [wipe_length] using hv)]; simp [List.getElem?_eq_none (Nat.le_of_not_lt hv)]
    · rw [List.getElem?_set_ne hi, wipe_at]
      have : (i = v) = False := by simp; exact fun e => hi e.symm
      simp [this]
theorem Off.wipe {vs : List Nat} {σ σ' : L2.St} (o : Off vs σ σ') : wipe σ' vs = wipe σ vs := by
  apply List.ext_getElem?
  intro i
  rw [wipe_at, wipe_at]
  by_cases h : i ∈ vs
  · rw [if_pos h, if_pos h]
    by_cases hl : i < σ.length
    · rw [List.getElem?_eq_getElem hl, List.getElem?_eq_getElem (by rw [o.1]; exact hl)]; rfl
    · rw [List.getElem?_eq_none (Nat.le_of_not_lt hl), List.getElem?_eq_none (by rw [o.1]; exact Nat.le_of_not_lt hl)]
  · rw [if_neg h, if_neg h, o.2 i h]
theorem Off.wiped {vs : List Nat} {σ : L2.St} : Off vs σ (L2.wipe σ vs) := ⟨wipe_length _ _, fun i h => by rw [wipe_at, if_neg h]⟩
def lG (K : Bd) (W : WX) (vs : List Nat) (g : TGD) : TG := fun v σ H Q => ∃ d σd M Qd E, DV K H d v ∧ RelS K H σd σ ∧ Rel K M H ∧ g d σd M Qd E ∧
  (∀ σd' σ' M' H', Off vs σ σ' → RelS K H' σd' σ' → Rel K M' H' → Keep M H M' H' → Qd σd' M' → Q σ' H') ∧ CnX K M H E (fun c d h => W c d σ h)
def lGs (K : Bd) (W : WX) (vs : List Nat) (g : TGsD) : TGs := fun ws σ H Q => ∃ ds σd M Qd E, DVs K H ds ws ∧ RelS K H σd σ ∧ Rel K M H ∧ g ds σd M Qd E ∧
  (∀ σd' σ' M' H', Off vs σ σ' → RelS K H' σd' σ' → Rel K M' H' → Keep M H M' H' → Qd σd' M' → Q σ' H') ∧ CnX K M H E (fun c d h => W c d σ h)
theorem PG.imp {X : Cx} {e : Expr} {t t' : TG} (h : PG X e t) (i : ∀ v σ H Q, t' v σ H Q → t v σ H Q) : PG X e t' := ⟨fun pins s σ H v u Q I r hw => h.run pins s σ H v u Q I r (i _ _ _ _ hw)⟩
theorem PGs.imp {X : Cx} {e : List Expr} {t t' : TGs} (h : PGs X e t) (i : ∀ v σ H Q, t' v σ H Q → t v σ H Q) : PGs X e t' := ⟨fun pins s σ H v u Q I r hw => h.run pins s σ H v u Q I r (i _ _ _ _ hw)⟩
theorem CnX.slots {K : Bd} {M : DM} {H : Hp} {E : DX} {W : XK} (c : CnX K M H E W) : CnX K M H E W := c
section
variable {X : Cx} {W : WX}
def gNm (i : Nat) : TGD := fun d σ M Q _ => Q (setS σ i d) M
theorem dg_name {i : Nat} {e : Expr} {vs : List Nat} (h : PG X e (gName i)) (hi : i ∈ vs) : PG X e (lG X.B W vs (gNm i)) := PG.imp h fun v σ H Q ⟨d, σd, M, Qd, E, dv, S, R, t, c, cx⟩ => c _ _ M H (.set hi) (S.set dv i) R .refl t
def gNilD : TGsD := fun ds σ M Q _ => match ds with
  | [] => Q σ M
  | _ => False
def gConsD (g : TGD) (gs : TGsD) : TGsD := fun ds σ M Q E => match ds with
  | d :: r => g d σ M (fun σ1 M1 => gs r σ1 M1 Q E) E
  | [] => False
theorem dgs_nil {vs : List Nat} : PGs X [] (lGs X.B W vs gNilD) := PGs.imp pgs_nil fun ws σ H Q ⟨ds, σd, M, Qd, E, dv, S, R, t, c, cx⟩ => by
  cases dv with
  | nil => exact ⟨rfl, c _ _ M H .refl S R .refl t⟩
  | cons => exact t.elim
/-- a target whose exceptions are none -/
theorem dgs_cons {e : Expr} {es : List Expr} {vs : List Nat} {g : TGD} {gs : TGsD} (h1 : PG X e (lG X.B w0 vs g)) (h2 : PGs X es (lGs X.B w0 vs gs)) (hs : (assignEach (e :: es) X.env).map (·.2) = assign e X.env :: (assignEach es X.env).map (·.2) := by rfl) : PGs X (e :: es) (lGs X.B w0 vs (gConsD g gs)) :=
  PGs.imp (pgs_cons h1 h2 hs) fun ws σ H Q ⟨ds, σd, M, Qd, E, dv, S, R, t, c, cx⟩ => by
    cases dv with
    | nil => exact t.elim
    | @cons d v ds ws a b => exact ⟨v, ws, rfl, d, σd, M, _, E, a, S, R, t, fun σd1 σ1 M1 H1 o1 S1 R1 k1 q1 => ⟨ds, σd1, M1, Qd, E, b.mono (k1.tups R), S1, R1, q1,
        fun σd2 σ2 M2 H2 o2 S2 R2 k2 q2 => c σd2 σ2 M2 H2 (o1.trans o2) S2 R2 (k1.trans k2) q2, (cx.after k1)⟩, cx⟩
def gUn (n : Nat) (gs : TGsD) : TGD := fun d σ M Q E => match d with
  | .tup xs => xs.length = n ∧ gs xs σ M Q E
  | .pair xs => xs.length = n ∧ gs xs σ M Q E
  | .ref a => ∃ xs, M a = some (.lst xs) ∧ xs.length = n ∧ gs xs σ M Q E
  | _ => False
theorem pg_or {e : Expr} {t u : TG} (h : PG X e t) (g : PG X e u) : PG X e (fun v σ H Q => t v σ H Q ∨ u v σ H Q) := ⟨fun pins s σ H v w Q I r hw => hw.elim (fun q => h.run pins s σ H v w Q I r q) fun q => g.run pins s σ H v w Q I r q⟩
theorem dg_un {es : List Expr} {k : Nat} {pos : Pos} {n : Nat} {vs : List Nat} {gs : TGsD} (hc : X.calm = true) (h : PGs X es (lGs X.B w0 vs gs)) (hn : (assignEach es X.env).length = n := by rfl) (hst : (assignEach es X.env).findIdx? (·.1) = none := by rfl) : PG X (.Tuple es k pos) (lG X.B w0 vs (gUn n gs)) :=
  PG.imp (pg_or (pg_tup hc h hn hst) (pg_lst hc h hn hst)) fun v σ H Q ⟨d, σd, M, Qd, E, dv, S, R, t, c, cx⟩ => by
    cases dv with
    | @tup a o ds ws s1 _ h1 => exact .inl ⟨a, ws, rfl, sqF .refl s1, by rw [← h1.length]; exact t.1, ds, σd, M, Qd, E, h1, S, R, t.2, c, cx⟩
    | @pair a ds ws s1 h1 => exact .inl ⟨a, ws, rfl, .of s1, by rw [← h1.length]; exact t.1, ds, σd, M, Qd, E, h1, S, R, t.2, c, cx⟩
    | ref =>
      obtain ⟨xs, ea, hl, q⟩ := t
      obtain ⟨u, hu, r⟩ := R _ _ ea
      cases r with
      | lst h1 => exact .inr ⟨_, _, rfl, .of hu, by rw [← h1.length]; exact hl, xs, σd, M, Qd, E, h1, S, R, q, c, cx⟩
    | _ => exact t.elim

/-! ### statements -/
def dNext : TSD := fun D σ M => D.nx σ M
def dSeq (t u : TSD) : TSD := fun D σ M => t { D with nx := fun σ' M' => u D σ' M' } σ M
theorem ds_nil : PSs X [] (lS X.B W dNext) := PSs.imp pss_nil fun D σ H ⟨σd, M, Dd, S, R, t, c⟩ => c.nx _ _ M H S R .refl t
theorem ds_cons {st : Stmt} {rest : List Stmt} {t u : TSD} (h1 : PS X st (lS X.B W t)) (h2 : PSs X rest (lS X.B W u)) : PSs X (st :: rest) (lS X.B W (dSeq t u)) :=
  PSs.imp (pss_cons h1 h2) fun D σ H ⟨σd, M, Dd, S, R, t, c⟩ => ⟨σd, M, _, S, R, t, ⟨fun σd1 σ1 M1 H1 S1 R1 k1 q1 => ⟨σd1, M1, Dd, S1, R1, q1, c.after k1⟩, c.rt, c.bk, c.ct, c.ex⟩⟩
theorem ds_one {st : Stmt} {t : TSD} (h1 : PS X st (lS X.B W t)) : PSs X [st] (lS X.B W t) := pss_one h1
theorem ds_pass {pos : Pos} : PS X (.Pass pos) (lS X.B W dNext) := PS.imp ps_pass fun D σ H ⟨σd, M, Dd, S, R, t, c⟩ => c.nx _ _ M H S R .refl t
def dBreak : TSD := fun D σ M => D.bk σ M
def dCont : TSD := fun D σ M => D.ct σ M
theorem ds_break {pos : Pos} : PS X (.Break pos) (lS X.B W dBreak) := PS.imp ps_break fun D σ H ⟨σd, M, Dd, S, R, t, c⟩ => c.bk _ _ M H S R .refl t
theorem ds_continue {pos : Pos} : PS X (.Continue pos) (lS X.B W dCont) := PS.imp ps_continue fun D σ H ⟨σd, M, Dd, S, R, t, c⟩ => c.ct _ _ M H S R .refl t
def dDrop (te : TED) : TSD := fun D σ M => te σ M (fun _ M1 => D.nx σ M1) (D.ex σ)
theorem ds_expr {e : Expr} {te : TED} {pos : Pos} (h : PE X e (lE X.B W te)) (hs : swapsWith e none pos.line X.env = pure false := by rfl) : PS X (.Expr e pos) (lS X.B W (dDrop te)) :=
  PS.imp (ps_expr h hs) fun D σ H ⟨σd, M, Dd, S, R, t, c⟩ => ⟨σd, M, _, _, S, R, t, fun d v M1 H1 dv R1 k1 q => c.nx _ _ M1 H1 (S.mono (k1.tups R)) R1 k1 q, c.cx S R⟩
def dRet (te : TED) : TSD := fun D σ M => te σ M D.rt (D.ex σ)
theorem ds_ret {e : Expr} {te : TED} {pos : Pos} (h : PE X e (lE X.B W te)) : PS X (.Return (some e) pos) (lS X.B W (dRet te)) :=
  PS.imp (ps_ret h) fun D σ H ⟨σd, M, Dd, S, R, t, c⟩ => ⟨σd, M, _, _, S, R, t, c.rt, c.cx S R⟩
def dRetN : TSD := fun D _ M => D.rt .non M
theorem ds_retN {pos : Pos} : PS X (.Return none pos) (lS X.B W dRetN) := PS.imp ps_retN fun D σ H ⟨σd, M, Dd, S, R, t, c⟩ => c.rt.now R .non t
def dIfS (tc : TTD) (t u : TSD) : TSD := fun D σ M => tc σ M (fun b M1 => match b with
  | true => t D σ M1
  | false => u D σ M1) (D.ex σ)
theorem ds_if {c : Expr} {a b : List Stmt} {tc : TTD} {t u : TSD} {pos : Pos} (hc : PT X c (lT X.B W tc)) (ha : PSs X a (lS X.B W t)) (hb : PSs X b (lS X.B W u)) : PS X (.If c a b pos) (lS X.B W (dIfS tc t u)) :=
  PS.imp (ps_if hc ha hb) fun D σ H ⟨σd, M, Dd, S, R, t, c⟩ => ⟨σd, M, _, _, S, R, t, fun b M1 H1 R1 k1 q => by
    cases b with
    | true => exact ⟨σd, M1, Dd, S.mono (k1.tups R), R1, q, c.after k1⟩
    | false => exact ⟨σd, M1, Dd, S.mono (k1.tups R), R1, q, c.after k1⟩, c.cx S R⟩
def dNever : TSD := fun _ _ _ => False
theorem ds_never {st : Stmt} : PS X st (lS X.B W dNever) := PS.imp ps_never fun D σ H ⟨σd, M, Dd, S, R, t, c⟩ => t
theorem dss_never {st : List Stmt} : PSs X st (lS X.B W dNever) := PSs.imp pss_never fun D σ H ⟨σd, M, Dd, S, R, t, c⟩ => t
def dAsg (te : TED) (g : TGD) : TSD := fun D σ M => te σ M (fun d M1 => g d σ M1 (fun σ' M' => D.nx σ' M') (D.ex σ)) (D.ex σ)
theorem lift_asg {te : TED} {g : TGD} {vs : List Nat} {D : Ends} {σ : L2.St} {H : Hp} (h : lS X.B W (dAsg te g) D σ H) : tAsg (lE X.B W te) (lG X.B W vs g) D σ H := by
  obtain ⟨σd, M, Dd, S, R, t, c⟩ := h
  exact ⟨σd, M, _, _, S, R, t, fun d v M1 H1 dv R1 k1 q => ⟨d, σd, M1, _, _, dv, S.mono (k1.tups R), R1, q, fun σd' σ' M' H' _ S' R' k' q' => c.nx _ _ M' H' S' R' (k1.trans k') q', (c.cx S R).after k1⟩, c.cx S R⟩
theorem ds_asg {tg e : Expr} {te : TED} {g : TGD} {vs : List Nat} {pos : Pos} (he : PE X e (lE X.B W te)) (hg : PG X tg (lG X.B W vs g)) (hs : swapsWithSole [tg] e pos.line X.env = pure false := by rfl) (hw : swappedStores [tg] e X.env = pure none := by rfl)
    (h1 : (assignEach [tg] X.env).map (·.2) = [assign tg X.env] := by rfl) : PS X (.Assign [tg] e pos) (lS X.B W (dAsg te g)) := PS.imp (ps_asg he hg hs hw h1) fun _ _ _ h => lift_asg h
/-- a name's store, whatever rule gives it -/
theorem lift_set {te : TED} {i : Nat} {D : Ends} {σ : L2.St} {H : Hp} (h : lS X.B W (dAsg te (gNm i)) D σ H) : tAsg (lE X.B W te) (gName i) D σ H := by
  obtain ⟨σd, M, Dd, S, R, t, c⟩ := h
  exact ⟨σd, M, _, _, S, R, t, fun d v M1 H1 dv R1 k1 q => c.nx _ _ M1 H1 ((S.mono (k1.tups R)).set dv i) R1 k1 q, c.cx S R⟩
theorem ds_set {st : Stmt} {te : TED} {i : Nat} (h : PS X st (tAsg (lE X.B W te) (gName i))) : PS X st (lS X.B W (dAsg te (gNm i))) := PS.imp h fun _ _ _ h => lift_set h
/-- a, b = x, y: names, stored at once -/
def dPar (i j : Nat) (ta : TAD) : TSD := fun D σ M => ta σ M (fun ds M1 => match ds with
  | [d, e] => D.nx (setS (setS σ i d) j e) M1
  | _ => False) (D.ex σ)
theorem ds_par {st : Stmt} {ta : TAD} {i j : Nat} (h : PS X st (tPar i j (lA X.B W ta))) : PS X st (lS X.B W (dPar i j ta)) := PS.imp h fun D σ H ⟨σd, M, Dd, S, R, t, c⟩ =>
  ⟨σd, M, _, _, S, R, t, fun ds vs M1 H1 dvs R1 k1 q => by
    cases dvs with
    | nil => exact q.elim
    | cons a b =>
      cases b with
      | nil => exact q.elim
      | cons a' b' =>
        cases b' with
        | nil => exact ⟨_, _, rfl, c.nx _ _ M1 H1 (((S.mono (k1.tups R)).set a i).set a' j) R1 k1 q⟩
        | cons => exact q.elim, c.cx S R⟩
/-- x op= e of a name -/
def dAug (i : Nat) (rd : R2D) (te : TED) : TSD := fun D σ M => match slot σ i with
  | some d => te σ M (fun e M1 => rd d e M1 (fun z M2 => D.nx (setS σ i z) M2)) (D.ex σ)
  | none => False
theorem ds_aug {st : Stmt} {te : TED} {i : Nat} {r : R2} {rd : R2D} (hr : OpD X r rd) (h : PS X st (tAug i (lE X.B W te) r)) : PS X st (lS X.B W (dAug i rd te)) := PS.imp h fun D σ H ⟨σd, M, Dd, S, R, t, c⟩ => by
  have t' : (match slot σd i with
    | some d => te σd M (fun e M1 => rd d e M1 (fun z M2 => Dd.nx (setS σd i z) M2)) (Dd.ex σd)
    | none => False) := t
  cases e : slot σd i with
  | none => rw [e] at t'; exact t'.elim
  | some d =>
    rw [e] at t'
    obtain ⟨v, e2, q⟩ := S.2 i d (slot_eq _ _ _ e)
    exact ⟨v, e2, σd, M, _, _, S, R, t', fun f w M1 H1 dv R1 k1 q1 => hr d f v w M1 H1 _ _ (q.mono (k1.tups R)) dv R1 q1 fun z zv M2 H2 zr R2 k2 q2 => c.nx _ _ M2 H2 ((S.mono ((k1.trans k2).tups R)).set zr i) R2 (k1.trans k2) q2, c.cx S R⟩

/-! ### while -/
def whN (tc : TTD) (tb : TSD) (D : DEnds) : Nat → Std → DM → Prop
  | 0, _, _ => False
  | n + 1, σ, M => tc σ M (fun b M1 => match b with
    | true => tb { D with nx := whN tc tb D n, ct := whN tc tb D n, bk := D.nx } σ M1
    | false => D.nx σ M1) (D.ex σ)
def dWhile (tc : TTD) (tb : TSD) : TSD := fun D σ M => ∃ n, whN tc tb D n σ M
theorem ds_while {c : Expr} {body : List Stmt} {tc : TTD} {tb : TSD} {pos : Pos} (hp : PassesOwn (model X.prog X.w) X.A X.env X.xe) (hc : PT X c (lT X.B W tc)) (hb : PSs X body (lS X.B W tb)) : PS X (.While c body [] pos) (lS X.B W (dWhile tc tb)) :=
  PS.imp (ps_while hp hc hb) fun D σ H ⟨σd, M, Dd, S, R, ⟨n, t⟩, c⟩ => by
    refine ⟨fun m σ' H' => ∃ σd' M', RelS X.B H' σd' σ' ∧ Rel X.B M' H' ∧ whN tc tb Dd m σd' M' ∧ CnS X.B W M' H' Dd D, ⟨n, σd, M, S, R, t, c⟩, ?_⟩
    rintro m σ H ⟨σd, M, S, R, t, c⟩
    cases m with
    | zero => exact t.elim
    | succ m =>
      refine ⟨σd, M, _, _, S, R, t, fun b M1 H1 R1 k1 q => ?_, c.cx S R⟩
      have c1 := c.after k1
      cases b with
      | false => exact c.nx _ _ M1 H1 (S.mono (k1.tups R)) R1 k1 q
      | true =>
        refine iteT ?_
        refine ⟨fun σ' H' => ∃ σd' M', RelS X.B H' σd' σ' ∧ Rel X.B M' H' ∧ whN tc tb Dd m σd' M' ∧ CnS X.B W M' H' Dd D, fun σ' H' h => ⟨m, Nat.lt_succ_self _, h⟩, σd, M1, _, S.mono (k1.tups R), R1, q, ?_⟩
        exact ⟨fun σd' σ' M' H' S' R' k' q' => ⟨σd', M', S', R', q', c1.after k'⟩, c1.rt, c1.nx, fun σd' σ' M' H' S' R' k' q' => ⟨σd', M', S', R', q', c1.after k'⟩, c1.ex⟩

/-! ### what is walked -/
abbrev ItD := Nat → DM → Option (Option D)
structure ItOk (K : Bd) (H0 : Hp) (Jd : ItD) (J : It) : Prop where
  go : ∀ i M H d, Tups H0 H → Rel K M H → Jd i M = some (some d) → J.go i H
  yld : ∀ i M H d v H', Tups H0 H → Rel K M H → Jd i M = some (some d) → J.yld i H v H' → Rel K M H' ∧ Keep M H M H' ∧ DV K H' d v
  stop : ∀ i M H, Tups H0 H → Rel K M H → Jd i M = some none → J.stop i H
abbrev TID := Std → DM → (ItD → DM → Prop) → DX → Prop
def lI (K : Bd) (W : WX) (wi : TID) : TI := fun σ H Q => ∃ σd M Qd E, RelS K H σd σ ∧ Rel K M H ∧ wi σd M Qd E ∧ (∀ Jd J M' H', ItOk K H' Jd J → Rel K M' H' → Keep M H M' H' → Qd Jd M' → Q J H') ∧ CnX K M H E (fun c d h => W c d σ h)
theorem PI.imp {X : Cx} {tg e : Expr} {t t' : TI} (h : PI X tg e t) (i : ∀ σ H Q, t' σ H Q → t σ H Q) : PI X tg e t' := ⟨fun pins s σ H Q I hw => h.run pins s σ H Q I (i _ _ _ hw)⟩
def itL (a : Addr) : ItD := fun i M => match M a with
  | some (.lst xs) => some xs[i]?
  | _ => none
def itT (ds : List D) : ItD := fun i _ => some ds[i]?
def itR (lo : Int) (n : Nat) : ItD := fun i _ => some (if i < n then some (.int (lo + i)) else none)
theorem itL_ok {K : Bd} {H0 : Hp} (a : Addr) : ItOk K H0 (itL a) (Itl K a) := by
  have at_ : ∀ {i : Nat} {M : DM} {o : Option D}, itL a i M = some o → ∃ xs, M a = some (.lst xs) ∧ o = xs[i]? := by
    intro i M o h
    unfold itL at h
    split at h
    · rename_i xs e
      exact ⟨xs, e, (Option.some.inj h).symm⟩
    · cases h
  refine ⟨fun i M H d _ R h => ?_, fun i M H d v H' _ R h y => ?_, fun i M H _ R h => ?_⟩
  · obtain ⟨xs, e, eo⟩ := at_ h
    obtain ⟨u, hu, r⟩ := R a _ e
    cases r with
    | lst hs =>
      obtain ⟨w, hw, _⟩ := hs.get eo.symm
      exact ⟨_, w, .of hu, hw⟩
  · obtain ⟨xs, e, eo⟩ := at_ h
    obtain ⟨u, hu, r⟩ := R a _ e
    cases r with
    | lst hs =>
      obtain ⟨w, hw, dw⟩ := hs.get eo.symm
      obtain ⟨rfl, fv⟩ := y
      have := fv _ (.of hu)
      rw [hw] at this; cases this
      exact ⟨R, .refl, dw⟩
  · obtain ⟨xs, e, eo⟩ := at_ h
    obtain ⟨u, hu, r⟩ := R a _ e
    cases r with
    | lst hs =>
      refine ⟨_, .of hu, ?_⟩
      rw [← hs.length]
      exact List.getElem?_eq_none_iff.mp eo.symm
theorem itT_ok {K : Bd} {H0 : Hp} {a : Addr} {o : Obj} {ds : List D} {vs : List V} (s : H0 a = some (.frz o (.tup vs))) (hs : DVs K H0 ds vs) : ItOk K H0 (itT ds) (Itt K a) := by
  refine ⟨fun i M H d tp R h => ?_, fun i M H d v H' tp R h y => ?_, fun i M H tp R h => ?_⟩
  · obtain ⟨w, hw, _⟩ := hs.get (Option.some.inj h)
    exact ⟨_, w, sqF tp s, hw⟩
  · obtain ⟨w, hw, dw⟩ := hs.get (Option.some.inj h)
    obtain ⟨rfl, fv⟩ := y
    have := fv _ (sqF tp s)
    rw [hw] at this; cases this
    exact ⟨R, .refl, dw.mono tp⟩
  · refine ⟨_, sqF tp s, ?_⟩
    rw [← hs.length]
    exact List.getElem?_eq_none_iff.mp (Option.some.inj h)
theorem itR_ok {K : Bd} {H0 : Hp} (lo : Int) (n : Nat) : ItOk K H0 (itR lo n) (Itr lo n) := by
  refine ⟨fun i M H d tp R h => ?_, fun i M H d v H' tp R h y => ?_, fun i M H tp R h => ?_⟩
  · have e := Option.some.inj h
    by_cases hi : i < n
    · exact hi
    · rw [if_neg hi] at e; cases e
  · have e := Option.some.inj h
    by_cases hi : i < n
    · rw [if_pos hi] at e; cases e
      obtain ⟨rfl, rfl⟩ := y
      exact ⟨R, .refl, .int⟩
    · rw [if_neg hi] at e; cases e
  · have e := Option.some.inj h
    by_cases hi : i < n
    · rw [if_pos hi] at e; cases e
    · exact Nat.le_of_not_lt hi
/-- a list or a tuple walked -/
def iSeq (K : Bd) (tl : TE) : TI := fun σ H R => tl σ H fun x H1 => ∃ a, x = .ref a ∧ (((∃ xs, SqL K H1 a xs) ∧ R (Itl K a) H1) ∨ ((∃ xs, SqT K H1 a xs) ∧ R (Itt K a) H1))
theorem pi_seq {tg l : Expr} {tl : TE} (hl : PE X l tl) : PI X tg l (iSeq X.B tl) := by
  refine ⟨fun pins s σ H R I h => ?_⟩
  refine thn (hl.run pins s σ H _ I h) fun v s1 ⟨x, H1, I1, r1, a, e, q⟩ => ?_
  subst e
  cases r1
  have fp1 : ∀ b ∈ [s1.heap.objs.size], FpOk X pins H1 b := fun b hb => by
    rw [List.mem_singleton.mp hb]
    exact I1.fpOk (Nat.le_refl _) (I1.hok.fresh (Nat.le_refl _))
  rcases q with ⟨⟨xs, hq⟩, q⟩ | ⟨⟨xs, hq⟩, q⟩
  · obtain ⟨its, _, p, _⟩ := I1.list hq
    exact wpAny_pyIter_list p.isList ⟨_, [_], _, _, H1, rfl, I1.kept (t' := s1.toks) fun b o e => Heap.get?_push_of_some _ e, turn_list a _, ⟨_, Heap.get?_push_size _ rfl, rfl, rfl⟩, fp1, q⟩
  · obtain ⟨its, _, p, _⟩ := I1.tuple hq
    exact wpAny_pyIter_tuple (show s1.heap.IsTuple a its.toArray from p) ⟨_, [_], _, _, H1, rfl, I1.kept (t' := s1.toks) fun b o e => Heap.get?_push_of_some _ e, turn_tuple a _, ⟨_, Heap.get?_push_size _ rfl, rfl, rfl⟩, fp1, q⟩
def diSeq (te : TED) : TID := fun σ M R E => te σ M (fun d M1 => match d with
  | .tup xs => R (itT xs) M1
  | .ref a => (∃ xs, M1 a = some (.lst xs)) ∧ R (itL a) M1
  | _ => False) E
theorem di_seq {tg l : Expr} {te : TED} (h : PE X l (lE X.B W te)) : PI X tg l (lI X.B W (diSeq te)) :=
  PI.imp (pi_seq h) fun σ H Q ⟨σd, M, Qd, E, S, R, t, c, cx⟩ => ⟨σd, M, _, E, S, R, t, fun d v M1 H1 dv R1 k1 q1 => by
    cases dv with
    | tup s1 _ h1 => exact ⟨_, rfl, .inr ⟨⟨_, sqF .refl s1⟩, c _ _ M1 H1 (itT_ok s1 h1) R1 k1 q1⟩⟩
    | ref =>
      obtain ⟨⟨xs, e⟩, q1⟩ := q1
      obtain ⟨u, hu, r⟩ := R1 _ _ e
      cases r with
      | lst hs => exact ⟨_, rfl, .inl ⟨⟨_, .of hu⟩, c _ _ M1 H1 (itL_ok _) R1 k1 q1⟩⟩
    | _ => exact q1.elim, cx⟩
def diRng1 (ta : TAD) : TID := fun σ M R E => ta σ M (fun ds M1 => match ds with
  | [.int j] => (-(2 ^ 62) ≤ j ∧ j < 2 ^ 62) ∧ R (itR 0 j.toNat) M1
  | _ => False) E
theorem di_rng1 {tg e : Expr} {ta : TAD} (h : PI X tg e (iRng1 (lA X.B W ta))) : PI X tg e (lI X.B W (diRng1 ta)) :=
  PI.imp h fun σ H Q ⟨σd, M, Qd, E, S, R, t, c, cx⟩ => ⟨σd, M, _, E, S, R, t, fun ds vs M1 H1 dvs R1 k1 q1 => by
    cases dvs with
    | nil => exact q1.elim
    | cons a b =>
      cases b with
      | nil =>
        cases a with
        | int => exact ⟨_, rfl, q1.1.1, q1.1.2, c _ _ M1 H1 (itR_ok 0 _) R1 k1 q1.2⟩
        | _ => exact q1.elim
      | cons => cases a <;> exact q1.elim, cx⟩
def diRng2 (ta : TAD) : TID := fun σ M R E => ta σ M (fun ds M1 => match ds with
  | [.int i, .int j] => (-(2 ^ 62) ≤ i ∧ i < 2 ^ 62 ∧ -(2 ^ 62) ≤ j ∧ j < 2 ^ 62) ∧ R (itR i (j - i).toNat) M1
  | _ => False) E
theorem di_rng2 {tg e : Expr} {ta : TAD} (h : PI X tg e (iRng2 (lA X.B W ta))) : PI X tg e (lI X.B W (diRng2 ta)) :=
  PI.imp h fun σ H Q ⟨σd, M, Qd, E, S, R, t, c, cx⟩ => ⟨σd, M, _, E, S, R, t, fun ds vs M1 H1 dvs R1 k1 q1 => by
    cases dvs with
    | nil => exact q1.elim
    | cons a b =>
      cases b with
      | nil => cases a <;> exact q1.elim
      | cons a' b' =>
        cases b' with
        | nil =>
          cases a with
          | int => cases a' with
            | int => exact ⟨_, _, rfl, q1.1, c _ _ M1 H1 (itR_ok _ _) R1 k1 q1.2⟩
            | _ => exact q1.elim
          | _ => exact q1.elim
        | cons => cases a <;> first | exact q1.elim | (cases a' <;> exact q1.elim), cx⟩

/-! ### for -/
def forN (J : ItD) (g : TGD) (tb : TSD) (D : DEnds) : Nat → Nat → Std → DM → Prop
  | 0, _, _, _ => False
  | n + 1, i, σ, M => match J i M with
    | some (some d) => g d σ M (fun σ2 M2 => tb { D with nx := forN J g tb D n (i + 1), ct := forN J g tb D n (i + 1), bk := D.nx } σ2 M2) (D.ex σ)
    | some none => D.nx σ M
    | none => False
def dFor (wi : TID) (g : TGD) (tb : TSD) : TSD := fun D σ M => wi σ M (fun J M1 => ∃ n, forN J g tb D n 0 σ M1) (D.ex σ)
theorem ds_for {tg iter : Expr} {body : List Stmt} {wi : TID} {g : TGD} {tb : TSD} {vs : List Nat} {pos : Pos} (hp : PassesOwn (model X.prog X.w) X.A X.env X.xe) (hc : X.calm = true) (hi : PI X tg iter (lI X.B W wi)) (hg : PG X tg (lG X.B W vs g)) (hb : PSs X body (lS X.B W tb))
    (hs : ∀ x, foldedSetIterable iter X.env x = pure x := by intro _; rfl) : PS X (.For tg iter body [] pos) (lS X.B W (dFor wi g tb)) :=
  PS.imp (ps_for hp hc hi hg hb hs) fun D σ H ⟨σd, M, Dd, S, R, t, c⟩ => by
    refine ⟨σd, M, _, _, S, R, t, fun Jd J M1 H1 ok R1 k1 ⟨n, q⟩ => ?_, c.cx S R⟩
    refine ⟨fun i m σ' H' => ∃ σd' M', RelS X.B H' σd' σ' ∧ Rel X.B M' H' ∧ forN Jd g tb Dd m i σd' M' ∧ CnS X.B W M' H' Dd D ∧ Tups H1 H', ⟨n, σd, M1, S.mono (k1.tups R), R1, q, c.after k1, .refl⟩, ?_⟩
    rintro i m σ H ⟨σd, M, S, R, t, c, tp⟩
    cases m with
    | zero => exact t.elim
    | succ m =>
      have t' : (match Jd i M with
        | some (some d) => g d σd M (fun σ2 M2 => tb { Dd with nx := forN Jd g tb Dd m (i + 1), ct := forN Jd g tb Dd m (i + 1), bk := Dd.nx } σ2 M2) (Dd.ex σd)
        | some none => Dd.nx σd M
        | none => False) := t
      cases e : Jd i M with
      | none => rw [e] at t'; exact t'.elim
      | some o =>
        cases o with
        | none =>
          rw [e] at t'
          exact .inl ⟨ok.stop i M H tp R e, c.nx _ _ M H S R .refl t'⟩
        | some d =>
          rw [e] at t'
          refine .inr ⟨ok.go i M H d tp R e, fun σ' H' => ∃ σd' M', RelS X.B H' σd' σ' ∧ Rel X.B M' H' ∧ forN Jd g tb Dd m (i + 1) σd' M' ∧ CnS X.B W M' H' Dd D ∧ Tups H1 H', fun σ' H' h => ⟨m, Nat.lt_succ_self _, h⟩, fun x H' y => ?_⟩
          obtain ⟨R', k', dx⟩ := ok.yld i M H d x H' tp R e y
          have c' := c.after k'
          have S' := S.mono (k'.tups R)
          have tp' := tp.trans (k'.tups R)
          refine ⟨d, σd, M, _, _, dx, S', R', t', fun σd2 σ2 M2 H2 _ S2 R2 k2 q2 => ?_, c'.cx S' R'⟩
          have c2 := c'.after k2
          have tp2 := tp'.trans (k2.tups R')
          exact ⟨σd2, M2, _, S2, R2, q2, ⟨fun σd3 σ3 M3 H3 S3 R3 k3 q3 => ⟨σd3, M3, S3, R3, q3, c2.after k3, tp2.trans (k3.tups R2)⟩, c2.rt, c2.nx, fun σd3 σ3 M3 H3 S3 R3 k3 q3 => ⟨σd3, M3, S3, R3, q3, c2.after k3, tp2.trans (k3.tups R2)⟩, c2.ex⟩⟩
end
end Dt

set_option Elab.async false
set_option autoImplicit false
set_option linter.all false
set_option maxRecDepth 100000
set_option maxHeartbeats 4000000
/-! DE: comprehensions; attributes; dicts; methods of lists; calls of the text's own defs. -/
namespace Dt
open PySem PySem.Spec PyProof.Rows L2 LamX

/-! ### comprehensions -/
@[reducible] def wipeS (σ : Std) : List Nat → Std
  | [] => σ
  | v :: vs => unset (wipeS σ vs) v
where @[reducible] unset : Std → Nat → Std
  | [], _ => []
  | _ :: r, 0 => none :: r
  | x :: r, n + 1 => x :: unset r n
theorem unset_eq : ∀ (σ : Std) (i : Nat), wipeS.unset σ i = σ.set i none
  | [], _ => rfl
  | x :: r, 0 => rfl
  | x :: r, n + 1 => by show x :: wipeS.unset r n = x :: r.set n none; rw [unset_eq r n]
theorem RelS.unset {K : Bd} {H : Hp} {σd : Std} {σ : L2.St} (S : RelS K H σd σ) (i : Nat) : RelS K H (wipeS.unset σd i) (σ.set i none) := by
  rw [unset_eq]
  refine ⟨by simpa using S.1, fun j e he => ?_⟩
  by_cases hj : i = j
  · subst hj
    by_cases hi : i < σd.length
    · rw [List.getElem?_set_self hi] at he; cases he
    · rw [List.getElem?_eq_none (by simpa using Nat.le_of_not_lt hi)] at he; cases he
  · rw [List.getElem?_set_ne hj] at he ⊢
    exact S.2 j e he
theorem RelS.wipe {K : Bd} {H : Hp} {σd : Std} {σ : L2.St} (S : RelS K H σd σ) : ∀ vs : List Nat, RelS K H (wipeS σd vs) (L2.wipe σ vs)
  | [] => S
  | v :: vs => (RelS.wipe S vs).unset v

def lcN (J : ItD) (g : TGD) (tt : TTD) (te : TED) (vs : List Nat) (σ : Std) (Q : DQ) : Nat → Nat → DM → List D → Prop
  | 0, _, _, _ => False
  | n + 1, i, M, acc => match J i M with
    | some (some d) => g d (wipeS σ vs) M (fun σ2 M2 => tt σ2 M2 (fun b M3 => match b with
      | true => te σ2 M3 (fun y M4 => acc.length < sizeLine ∧ lcN J g tt te vs σ Q n (i + 1) M4 (acc ++ [y])) noX
      | false => lcN J g tt te vs σ Q n (i + 1) M3 acc) noX) noX
    | some none => ∀ p, M p = none → Q (.ref p) (put M p (.lst acc))
    | none => False
def dLc (wi : TID) (g : TGD) (tt : TTD) (te : TED) (vs : List Nat) : TED := fun σ M Q E => wi σ M (fun J M1 => ∃ n, lcN J g tt te vs σ Q n 0 M1 []) E
section
variable {X : Cx} {W : WX}
theorem cnx0 {K : Bd} {M : DM} {H : Hp} {W : XK} : CnX K M H noX W := fun _ _ _ _ _ _ _ _ z => z.elim
/-- an object hidden from the store, rewritten -/
theorem Rel.hput {K : Bd} {M : DM} {H : Hp} (R : Rel K M H) {p : Addr} {u0 : HO} (h : H p = some u0) (n : M p = none) (nt : ∀ xs, u0 ≠ .tup xs) (nf : ∀ o xs, u0 ≠ .frz o xs) (nb : ∀ ps, u0 ≠ .tbl ps) (nc : ∀ q, u0 ≠ CodeO p q) (u : HO) : Rel K M (upd H p u) := by
  have kt : Tups H (upd H p u) := ⟨fun a xs e => by
    have : a ≠ p := fun z => by rw [z, h] at e; exact nt xs (Option.some.inj e)
    rw [upd_ne this]; exact e, fun a o xs e => by
    have : a ≠ p := fun z => by rw [z, h] at e; exact nf o _ (Option.some.inj e)
    rw [upd_ne this]; exact e⟩
  refine ⟨?_, fun T hT => tabS_of (fun ps e => ?_) (fun c e => ?_) (R.tab T hT)⟩
  rotate_left
  · rw [upd_ne (show T.1 ≠ p from fun z => by rw [z, h] at e; exact nb ps (Option.some.inj e))]; exact e
  · rw [upd_ne (show c ≠ p from fun z => by rw [z, h] at e; exact nc _ (Option.some.inj e))]; exact e
  intro a o e
  have : a ≠ p := fun z => by rw [z, n] at e; cases e
  obtain ⟨w, hw, r⟩ := R a o e
  exact ⟨w, by rw [upd_ne this]; exact hw, r.mono kt⟩
theorem tups_hput {H : Hp} {p : Addr} {u0 : HO} (h : H p = some u0) (nt : ∀ xs, u0 ≠ .tup xs) (nf : ∀ o xs, u0 ≠ .frz o xs) (u : HO) : Tups H (upd H p u) := ⟨fun a xs e => by
    have : a ≠ p := fun z => by rw [z, h] at e; exact nt xs (Option.some.inj e)
    rw [upd_ne this]; exact e, fun a o xs e => by
    have : a ≠ p := fun z => by rw [z, h] at e; exact nf o _ (Option.some.inj e)
    rw [upd_ne this]; exact e⟩
/-- all that stays while the object at p is made: from (M, H) to (M', H'), p aside -/
structure KeepP (p : Addr) (M : DM) (H : Hp) (M' : DM) (H' : Hp) : Prop where
  hid : ∀ a u, H a = some u → M a = none → (∀ ps, u ≠ .tbl ps) → H' a = some u
  out : ∀ a u, H a = some u → M a = none → (∀ ps, u ≠ .tbl ps) → M' a = none
  pn : H p = none
theorem KeepP.then {p : Addr} {M M1 M2 : DM} {H H1 H2 : Hp} (a : KeepP p M H M1 H1) (b : Keep M1 H1 M2 H2) : KeepP p M H M2 H2 where
  hid := fun c u h n t => b.hid c u (a.hid c u h n t) (a.out c u h n t) t
  out := fun c u h n t => b.out c u (a.hid c u h n t) (a.out c u h n t) t
  pn := a.pn
theorem KeepP.write {p : Addr} {M M1 : DM} {H H1 : Hp} (a : KeepP p M H M1 H1) (u : HO) : KeepP p M H M1 (upd H1 p u) where
  hid := fun c w h n t => by
    have : c ≠ p := fun z => by rw [z, a.pn] at h; cases h
    rw [upd_ne this]; exact a.hid c w h n t
  out := a.out
  pn := a.pn
/-- at the end the object at p comes into the store -/
theorem KeepP.done {p : Addr} {M M1 : DM} {H H1 : Hp} (a : KeepP p M H M1 H1) (o : DO) : Keep M H (put M1 p o) H1 where
  hid := a.hid
  out := fun c u h n t => by
    have : c ≠ p := fun z => by rw [z, a.pn] at h; cases h
    rw [put_ne this]
    exact a.out c u h n t
theorem KeepP.new {M : DM} {H : Hp} {p : Addr} (hp : H p = none) (u : HO) : KeepP p M H M (upd H p u) :=
  ⟨fun a w e _ _ => by rw [upd_ne (ne_of_none e hp)]; exact e, fun a w e n _ => n, hp⟩
theorem Rel.come {K : Bd} {M : DM} {H : Hp} (R : Rel K M H) {p : Addr} {o : DO} {u : HO} (h : H p = some u) (r : RelO K H p o u) : Rel K (put M p o) H := by
  refine ⟨?_, R.tab⟩
  intro a q e
  by_cases ha : a = p
  · subst ha; rw [put_same] at e; cases e; exact ⟨u, h, r⟩
  · rw [put_ne ha] at e; exact R a q e
theorem lst_ne {vs : List V} : (∀ xs, (HO.lst vs) ≠ .tup xs) ∧ (∀ o xs, (HO.lst vs) ≠ .frz o xs) ∧ ((∀ ps, (HO.lst vs) ≠ .tbl ps) ∧ ∀ q c, (HO.lst vs) ≠ CodeO c q) := ⟨(fun _ z => nomatch z), (fun _ _ z => nomatch z), ⟨(fun _ z => nomatch z), (fun _ _ z => nomatch z)⟩⟩
theorem dK_ne {vs : List (Key × V)} : (∀ xs, (HO.dK vs) ≠ .tup xs) ∧ (∀ o xs, (HO.dK vs) ≠ .frz o xs) ∧ ((∀ ps, (HO.dK vs) ≠ .tbl ps) ∧ ∀ q c, (HO.dK vs) ≠ CodeO c q) := ⟨(fun _ z => nomatch z), (fun _ _ z => nomatch z), ⟨(fun _ z => nomatch z), (fun _ _ z => nomatch z)⟩⟩
theorem off_wipe {vs : List Nat} {σ σ2 : L2.St} (o : Off vs (L2.wipe σ vs) σ2) : L2.wipe σ2 vs = L2.wipe σ vs := (Off.trans Off.wiped o).wipe
/-- the lifted reading of a list comprehension -/
theorem lift_lc {wi : TID} {g : TGD} {tt : TTD} {te : TED} {vs : List Nat} {σ : L2.St} {H : Hp} {Q : VK} (h : lE X.B W (dLc wi g tt te vs) σ H Q) : tLc (lI X.B W wi) (lG X.B w0 vs g) (lT X.B w0 tt) (lE X.B w0 te) vs σ H Q := by
  obtain ⟨σd, M, Qd, E, S, R, t, c, cx⟩ := h
  refine ⟨σd, M, _, E, S, R, t, fun Jd J M1 H1 ok R1 k1 ⟨n, q⟩ p hp => ?_, cx⟩
  have c1 := c.after k1
  have S1 := S.mono (k1.tups R)
  -- the invariant
  refine ⟨fun i m H' => ∃ M' acc ws, Rel X.B M' H' ∧ lcN Jd g tt te vs σd Qd m i M' acc ∧ DVs X.B H' acc ws ∧ H' p = some (.lst ws) ∧ M' p = none ∧ KeepP p M1 H1 M' H' ∧ Tups H1 H', ⟨n, M1, [], [], R1.hidden hp _, q, .nil, upd_same, R1.free hp, ?_, tups_new hp _⟩, ?_⟩
  · exact KeepP.new hp _
  rintro i m H' ⟨M', acc, ws, R', t, as, hP, mP, kp, tp⟩
  cases m with
  | zero => exact t.elim
  | succ m =>
    unfold lcN at t
    cases e : Jd i M' with
    | none => rw [e] at t; exact t.elim
    | some o =>
      rw [e] at t
      cases o with
      | none =>
        refine .inl ⟨ok.stop i M' H' tp R' e, c1 _ _ (put M' p (.lst acc)) H' .ref (R'.come hP (.lst as)) (kp.done _) (t p mP)⟩
      | some d =>
        refine .inr ⟨ok.go i M' H' d tp R' e, fun H2 => ∃ M2 acc ws, Rel X.B M2 H2 ∧ lcN Jd g tt te vs σd Qd m (i + 1) M2 acc ∧ DVs X.B H2 acc ws ∧ H2 p = some (.lst ws) ∧ M2 p = none ∧ KeepP p M1 H1 M2 H2 ∧ Tups H1 H2, fun H2 h => ⟨m, Nat.lt_succ_self _, h⟩, fun x H2 y => ?_⟩
        obtain ⟨R2, k2, dx⟩ := ok.yld i M' H' d x H2 tp R' e y
        have tp2 := tp.trans (k2.tups R')
        refine ⟨d, _, M', _, _, dx, (S1.mono tp2).wipe vs, R2, t, fun σd3 σ3 M3 H3 o3 S3 R3 k3 q3 => ⟨off_wipe o3, σd3, M3, _, _, S3, R3, q3, fun b M4 H4 R4 k4 q4 => ?_, cnx0⟩, cnx0⟩
        have k24 := (k2.trans k3).trans k4
        cases b with
        | false =>
          refine iteF ⟨M4, acc, ws, R4, q4, as.mono (k24.tups R'), k24.hid p _ hP mP lst_ne.2.2.1, (k24.out p _ hP mP lst_ne.2.2.1), kp.then k24, tp.trans (k24.tups R')⟩
        | true =>
          refine iteT ⟨σd3, M4, _, _, S3.mono (k4.tups R3), R4, q4, fun z zv M5 H5 zr R5 k5 ⟨hl, q5⟩ => ?_, cnx0⟩
          have k25 := k24.trans k5
          have hP5 := k25.hid p _ hP mP lst_ne.2.2.1
          have mP5 := (k25.out p _ hP mP lst_ne.2.2.1)
          have as5 := as.mono (k25.tups R')
          have tq := tups_hput hP5 lst_ne.1 lst_ne.2.1 (.lst (ws ++ [zv]))
          exact ⟨ws, hP5, by rw [← as.length]; exact hl, M5, acc ++ [z], ws ++ [zv], R5.hput hP5 mP5 lst_ne.1 lst_ne.2.1 lst_ne.2.2.1 (fun q => lst_ne.2.2.2 q _) _, q5, (as5.append (.mk1 zr)).mono tq, upd_same, mP5, (kp.then k25).write _, (tp.trans (k25.tups R')).trans tq⟩
theorem de_lc {e : Expr} {wi : TID} {g : TGD} {tt : TTD} {te : TED} {vs : List Nat} (h : PE X e (tLc (lI X.B W wi) (lG X.B w0 vs g) (lT X.B w0 tt) (lE X.B w0 te) vs)) : PE X e (lE X.B W (dLc wi g tt te vs)) := PE.imp h fun _ _ _ h => lift_lc h
theorem ds_setLc {st : Stmt} {wi : TID} {g : TGD} {tt : TTD} {te : TED} {vs : List Nat} {i : Nat} (h : PS X st (tAsg (tLc (lI X.B W wi) (lG X.B w0 vs g) (lT X.B w0 tt) (lE X.B w0 te) vs) (gName i))) : PS X st (lS X.B W (dAsg (dLc wi g tt te vs) (gNm i))) := PS.imp h fun D σ H h => by
  have q : lE X.B W (dLc wi g tt te vs) σ H (fun x H1 => gName i x σ H1 D.nx) := lift_set h
  exact lift_lc q
def tYesD : TTD := fun _ M Q _ => Q true M
theorem dts_nil : PTs X [] (lT X.B W tYesD) := ⟨fun pins s σ H Q I ⟨σd, M, Qd, E, S, R, t, c, cx⟩ => pts_nil.run pins s σ H Q I (c true M H R .refl t)⟩
theorem dts_one {c : Expr} {t : TTD} (h : PT X c (lT X.B W t)) : PTs X [c] (lT X.B W t) := pts_one h

/-- two clauses -/
def lc2In (J : ItD) (g : TGD) (tt : TTD) (te : TED) (vs : List Nat) (σ : Std) (C : DM → List D → Prop) : Nat → Nat → DM → List D → Prop
  | 0, _, _, _ => False
  | n + 1, i, M, acc => match J i M with
    | some (some d) => g d (wipeS σ vs) M (fun σ2 M2 => tt σ2 M2 (fun b M3 => match b with
      | true => te σ2 M3 (fun y M4 => acc.length < sizeLine ∧ lc2In J g tt te vs σ C n (i + 1) M4 (acc ++ [y])) noX
      | false => lc2In J g tt te vs σ C n (i + 1) M3 acc) noX) noX
    | some none => C M acc
    | none => False
def lc2Out (J : ItD) (g : TGD) (tt : TTD) (wi1 : TID) (g1 : TGD) (tt1 : TTD) (te : TED) (vs vs1 : List Nat) (σ : Std) (Q : DQ) : Nat → Nat → DM → List D → Prop
  | 0, _, _, _ => False
  | n + 1, i, M, acc => match J i M with
    | some (some d) => g d (wipeS σ vs) M (fun σ2 M2 => tt σ2 M2 (fun b M3 => match b with
      | true => wi1 σ2 M3 (fun J1 M4 => ∃ k, lc2In J1 g1 tt1 te vs1 σ2 (fun M5 acc' => lc2Out J g tt wi1 g1 tt1 te vs vs1 σ Q n (i + 1) M5 acc') k 0 M4 acc) noX
      | false => lc2Out J g tt wi1 g1 tt1 te vs vs1 σ Q n (i + 1) M3 acc) noX) noX
    | some none => ∀ p, M p = none → Q (.ref p) (put M p (.lst acc))
    | none => False
def dLc2 (wi : TID) (g : TGD) (tt : TTD) (wi1 : TID) (g1 : TGD) (tt1 : TTD) (te : TED) (vs vs1 : List Nat) : TED := fun σ M Q E => wi σ M (fun J M1 => ∃ n, lc2Out J g tt wi1 g1 tt1 te vs vs1 σ Q n 0 M1 []) E
theorem lift_lc2 {wi : TID} {g : TGD} {tt : TTD} {wi1 : TID} {g1 : TGD} {tt1 : TTD} {te : TED} {vs vs1 : List Nat} {σ : L2.St} {H : Hp} {Q : VK} (h : lE X.B W (dLc2 wi g tt wi1 g1 tt1 te vs vs1) σ H Q) :
    tLc2 (lI X.B W wi) (lG X.B w0 vs g) (lT X.B w0 tt) (lI X.B w0 wi1) (lG X.B w0 vs1 g1) (lT X.B w0 tt1) (lE X.B w0 te) vs vs1 σ H Q := by
  obtain ⟨σd, M, Qd, E, S, R, t, c, cx⟩ := h
  refine ⟨σd, M, _, E, S, R, t, fun Jd J M1 H1 ok R1 k1 ⟨n, q⟩ p hp => ?_, cx⟩
  have c1 := c.after k1
  have S1 := S.mono (k1.tups R)
  refine ⟨fun i m H' => ∃ M' acc ws, Rel X.B M' H' ∧ lc2Out Jd g tt wi1 g1 tt1 te vs vs1 σd Qd m i M' acc ∧ DVs X.B H' acc ws ∧ H' p = some (.lst ws) ∧ M' p = none ∧ KeepP p M1 H1 M' H' ∧ Tups H1 H', ⟨n, M1, [], [], R1.hidden hp _, q, .nil, upd_same, R1.free hp, ?_, tups_new hp _⟩, ?_⟩
  · exact KeepP.new hp _
  rintro i m H' ⟨M', acc, ws, R', t, as, hP, mP, kp, tp⟩
  cases m with
  | zero => exact t.elim
  | succ m =>
    unfold lc2Out at t
    cases e : Jd i M' with
    | none => rw [e] at t; exact t.elim
    | some o =>
      rw [e] at t
      cases o with
      | none => exact .inl ⟨ok.stop i M' H' tp R' e, c1 _ _ (put M' p (.lst acc)) H' .ref (R'.come hP (.lst as)) (kp.done _) (t p mP)⟩
      | some d =>
        refine .inr ⟨ok.go i M' H' d tp R' e, fun H2 => ∃ M2 acc ws, Rel X.B M2 H2 ∧ lc2Out Jd g tt wi1 g1 tt1 te vs vs1 σd Qd m (i + 1) M2 acc ∧ DVs X.B H2 acc ws ∧ H2 p = some (.lst ws) ∧ M2 p = none ∧ KeepP p M1 H1 M2 H2 ∧ Tups H1 H2, fun H2 h => ⟨m, Nat.lt_succ_self _, h⟩, fun x H2 y => ?_⟩
        obtain ⟨R2, k2, dx⟩ := ok.yld i M' H' d x H2 tp R' e y
        have tp2 := tp.trans (k2.tups R')
        refine ⟨d, _, M', _, _, dx, (S1.mono tp2).wipe vs, R2, t, fun σd3 σ3 M3 H3 o3 S3 R3 k3 q3 => ⟨off_wipe o3, σd3, M3, _, _, S3, R3, q3, fun b M4 H4 R4 k4 q4 => ?_, cnx0⟩, cnx0⟩
        have k24 := (k2.trans k3).trans k4
        cases b with
        | false => exact iteF ⟨M4, acc, ws, R4, q4, as.mono (k24.tups R'), k24.hid p _ hP mP lst_ne.2.2.1, (k24.out p _ hP mP lst_ne.2.2.1), kp.then k24, tp.trans (k24.tups R')⟩
        | true =>
          have S4 := S3.mono (k4.tups R3)
          refine iteT ⟨σd3, M4, _, _, S4, R4, q4, fun J1d J1 M5 H5 ok1 R5 k5 ⟨n1, q5⟩ => ?_, cnx0⟩
          have k25 := k24.trans k5
          refine ⟨fun j m1 H6 => ∃ M6 acc ws, Rel X.B M6 H6 ∧ lc2In J1d g1 tt1 te vs1 σd3 (fun M7 acc' => lc2Out Jd g tt wi1 g1 tt1 te vs vs1 σd Qd m (i + 1) M7 acc') m1 j M6 acc ∧ DVs X.B H6 acc ws ∧ H6 p = some (.lst ws) ∧ M6 p = none ∧ KeepP p M1 H1 M6 H6 ∧ Tups H1 H6 ∧ Tups H5 H6,
            ⟨n1, M5, acc, ws, R5, q5, as.mono (k25.tups R'), k25.hid p _ hP mP lst_ne.2.2.1, (k25.out p _ hP mP lst_ne.2.2.1), kp.then k25, tp.trans (k25.tups R'), .refl⟩, ?_⟩
          rintro j m1 H6 ⟨M6, acc6, ws6, R6, t6, as6, hP6, mP6, kp6, tp6, tq6⟩
          cases m1 with
          | zero => exact t6.elim
          | succ m1 =>
            unfold lc2In at t6
            cases e6 : J1d j M6 with
            | none => rw [e6] at t6; exact t6.elim
            | some o6 =>
              rw [e6] at t6
              cases o6 with
              | none => exact .inl ⟨ok1.stop j M6 H6 tq6 R6 e6, M6, acc6, ws6, R6, t6, as6, hP6, mP6, kp6, tp6⟩
              | some d6 =>
                refine .inr ⟨ok1.go j M6 H6 d6 tq6 R6 e6, fun H7 => ∃ M7 acc ws, Rel X.B M7 H7 ∧ lc2In J1d g1 tt1 te vs1 σd3 (fun M7 acc' => lc2Out Jd g tt wi1 g1 tt1 te vs vs1 σd Qd m (i + 1) M7 acc') m1 (j + 1) M7 acc ∧ DVs X.B H7 acc ws ∧ H7 p = some (.lst ws) ∧ M7 p = none ∧ KeepP p M1 H1 M7 H7 ∧ Tups H1 H7 ∧ Tups H5 H7, fun H7 h => ⟨m1, Nat.lt_succ_self _, h⟩, fun x7 H7 y7 => ?_⟩
                obtain ⟨R7, k7, dx7⟩ := ok1.yld j M6 H6 d6 x7 H7 tq6 R6 e6 y7
                have S7 := (S4.mono (k5.tups R4)).mono (tq6.trans (k7.tups R6))
                refine ⟨d6, _, M6, _, _, dx7, S7.wipe vs1, R7, t6, fun σd8 σ8 M8 H8 o8 S8 R8 k8 q8 => ⟨off_wipe o8, σd8, M8, _, _, S8, R8, q8, fun b M9 H9 R9 k9 q9 => ?_, cnx0⟩, cnx0⟩
                have k79 := (k7.trans k8).trans k9
                cases b with
                | false => exact iteF ⟨M9, acc6, ws6, R9, q9, as6.mono (k79.tups R6), k79.hid p _ hP6 mP6 lst_ne.2.2.1, (k79.out p _ hP6 mP6 lst_ne.2.2.1), kp6.then k79, tp6.trans (k79.tups R6), tq6.trans (k79.tups R6)⟩
                | true =>
                  refine iteT ⟨σd8, M9, _, _, S8.mono (k9.tups R8), R9, q9, fun z zv M10 H10 zr R10 k10 ⟨hl, q10⟩ => ?_, cnx0⟩
                  have k710 := k79.trans k10
                  have hP10 := k710.hid p _ hP6 mP6 lst_ne.2.2.1
                  have mP10 := (k710.out p _ hP6 mP6 lst_ne.2.2.1)
                  have tq := tups_hput hP10 lst_ne.1 lst_ne.2.1 (.lst (ws6 ++ [zv]))
                  have tall := (k710.tups R6).trans tq
                  exact ⟨ws6, hP10, by rw [← as6.length]; exact hl, M10, acc6 ++ [z], ws6 ++ [zv], R10.hput hP10 mP10 lst_ne.1 lst_ne.2.1 lst_ne.2.2.1 (fun q => lst_ne.2.2.2 q _) _, q10, ((as6.mono (k710.tups R6)).append (.mk1 zr)).mono tq, upd_same, mP10, (kp6.then k710).write _, tp6.trans tall, tq6.trans tall⟩
theorem de_lc2 {e : Expr} {wi : TID} {g : TGD} {tt : TTD} {wi1 : TID} {g1 : TGD} {tt1 : TTD} {te : TED} {vs vs1 : List Nat} (h : PE X e (tLc2 (lI X.B W wi) (lG X.B w0 vs g) (lT X.B w0 tt) (lI X.B w0 wi1) (lG X.B w0 vs1 g1) (lT X.B w0 tt1) (lE X.B w0 te) vs vs1)) : PE X e (lE X.B W (dLc2 wi g tt wi1 g1 tt1 te vs vs1)) := PE.imp h fun _ _ _ h => lift_lc2 h
theorem ds_setLc2 {st : Stmt} {wi : TID} {g : TGD} {tt : TTD} {wi1 : TID} {g1 : TGD} {tt1 : TTD} {te : TED} {vs vs1 : List Nat} {i : Nat} (h : PS X st (tAsg (tLc2 (lI X.B W wi) (lG X.B w0 vs g) (lT X.B w0 tt) (lI X.B w0 wi1) (lG X.B w0 vs1 g1) (lT X.B w0 tt1) (lE X.B w0 te) vs vs1) (gName i))) : PS X st (lS X.B W (dAsg (dLc2 wi g tt wi1 g1 tt1 te vs vs1) (gNm i))) := PS.imp h fun D σ H h => by
  have q : lE X.B W (dLc2 wi g tt wi1 g1 tt1 te vs vs1) σ H (fun x H1 => gName i x σ H1 D.nx) := lift_set h
  exact lift_lc2 q

/-- what stands at a key -/
def valD {κ : Type} [DecidableEq κ] (kvs : List (κ × D)) (k : κ) : Option D := (kvs.find? fun kv => decide (kv.1 = k)).map (·.2)
def putD {κ : Type} [DecidableEq κ] (kvs : List (κ × D)) (k : κ) (v : D) : List (κ × D) :=
  match kvs.any fun kv => decide (kv.1 = k) with
  | true => kvs.map fun kv => if kv.1 = k then (kv.1, v) else kv
  | false => kvs ++ [(k, v)]
/-! ### dict comprehensions: keys ints and texts -/
/-- a key's value -/
def KeyD : D → Option Key
  | .int i => some (.inl i)
  | .str x => some (.inr x)
  | _ => none
theorem KeyD.dv {K : Bd} {H : Hp} {d : D} {k : Key} {v : V} (h : KeyD d = some k) (r : DV K H d v) : v = kV k := by
  cases r <;> first | (simp only [KeyD, Option.some.injEq] at h; subst h; rfl) | (simp only [KeyD] at h; cases h)
def dcN (J : ItD) (g : TGD) (tt : TTD) (tk tv : TED) (vs : List Nat) (σ : Std) (Q : DQ) : Nat → Nat → DM → List (Key × D) → Prop
  | 0, _, _, _ => False
  | n + 1, i, M, acc => match J i M with
    | some (some d) => g d (wipeS σ vs) M (fun σ2 M2 => tt σ2 M2 (fun b M3 => match b with
      | true => tk σ2 M3 (fun y M4 => tv σ2 M4 (fun z M5 => ∃ k, KeyD y = some k ∧ acc.length < sizeLine ∧ dcN J g tt tk tv vs σ Q n (i + 1) M5 (putD acc k z)) noX) noX
      | false => dcN J g tt tk tv vs σ Q n (i + 1) M3 acc) noX) noX
    | some none => ∀ p, M p = none → Q (.ref p) (put M p (.dK acc))
    | none => False
def dDc (wi : TID) (g : TGD) (tt : TTD) (tk tv : TED) (vs : List Nat) : TED := fun σ M Q E => wi σ M (fun J M1 => ∃ n, dcN J g tt tk tv vs σ Q n 0 M1 []) E
/-- pairs side by side -/
inductive PR {κ : Type} (K : Bd) (H : Hp) : List (κ × D) → List (κ × V) → Prop
  | nil : PR K H [] []
  | cons {k : κ} {d : D} {v : V} {ds : List (κ × D)} {vs : List (κ × V)} : DV K H d v → PR K H ds vs → PR K H ((k, d) :: ds) ((k, v) :: vs)
theorem PR.of {κ : Type} {K : Bd} {H : Hp} : ∀ {ds : List (κ × D)} {vs : List (κ × V)}, ds.map (·.1) = vs.map (·.1) → DVs K H (ds.map (·.2)) (vs.map (·.2)) → PR K H ds vs
  | [], [], _, _ => .nil
  | [], _ :: _, e, _ => by simp at e
  | _ :: _, [], e, _ => by simp at e
  | (k, d) :: ds, (k', v) :: vs, e, h => by
    simp only [List.map_cons, List.cons.injEq] at e
    obtain ⟨rfl, e⟩ := e
    cases h with
    | cons a b => exact .cons a (PR.of e b)
theorem PR.keys {κ : Type} {K : Bd} {H : Hp} {ds : List (κ × D)} {vs : List (κ × V)} (h : PR K H ds vs) : ds.map (·.1) = vs.map (·.1) := by
  induction h with
  | nil => rfl
  | cons _ _ ih => simp [ih]
theorem PR.vals {κ : Type} {K : Bd} {H : Hp} {ds : List (κ × D)} {vs : List (κ × V)} (h : PR K H ds vs) : DVs K H (ds.map (·.2)) (vs.map (·.2)) := by
  induction h with
  | nil => exact .nil
  | cons a _ ih => exact .cons a ih
theorem PR.length {κ : Type} {K : Bd} {H : Hp} {ds : List (κ × D)} {vs : List (κ × V)} (h : PR K H ds vs) : ds.length = vs.length := by
  have := congrArg List.length h.keys
  simpa using this
theorem PR.mono {κ : Type} {K : Bd} {H H' : Hp} (t : Tups H H') {ds : List (κ × D)} {vs : List (κ × V)} (h : PR K H ds vs) : PR K H' ds vs := .of h.keys (h.vals.mono t)
theorem PR.append {κ : Type} {K : Bd} {H : Hp} {ds es : List (κ × D)} {vs ws : List (κ × V)} (h : PR K H ds vs) (g : PR K H es ws) : PR K H (ds ++ es) (vs ++ ws) := by
  induction h with
  | nil => exact g
  | cons a _ ih => exact .cons a ih
theorem PR.any {κ : Type} [DecidableEq κ] {K : Bd} {H : Hp} {ds : List (κ × D)} {vs : List (κ × V)} (h : PR K H ds vs) (k : κ) : (ds.any fun p => decide (p.1 = k)) = vs.any fun p => decide (p.1 = k) := by
  induction h with
  | nil => rfl
  | cons _ _ ih => simp [ih]
end
end Dt

set_option Elab.async false
set_option autoImplicit false
set_option linter.all false
set_option maxRecDepth 100000
set_option maxHeartbeats 4000000
/-! DF: dicts, attributes, lists by their methods, calls. -/
namespace Dt
open PySem PySem.Spec PyProof.Rows L2 LamX

section
variable {κ : Type} [DecidableEq κ] {K : Bd} {H : Hp}
theorem PR.val {ds : List (κ × D)} {vs : List (κ × V)} (h : PR K H ds vs) {k : κ} {d : D} (e : valD ds k = some d) : ∃ v, valV vs k = some v ∧ DV K H d v := by
  induction h with
  | nil => simp [valD] at e
  | @cons k' d' v' ds vs a _ ih =>
    by_cases hk : k' = k
    · subst hk
      simp [valD] at e; subst e
      exact ⟨v', by simp [valV], a⟩
    · simp only [valD, List.find?_cons, hk, decide_false] at e
      obtain ⟨v, e2, q⟩ := ih (by simpa [valD] using e)
      exact ⟨v, by simpa [valV, List.find?_cons, hk] using e2, q⟩
theorem PR.valN {ds : List (κ × D)} {vs : List (κ × V)} (h : PR K H ds vs) {k : κ} (e : valD ds k = none) : valV vs k = none := by
  induction h with
  | nil => rfl
  | @cons k' d' v' ds vs a _ ih =>
    by_cases hk : k' = k
    · subst hk; simp [valD] at e
    · simp only [valD, List.find?_cons, hk, decide_false] at e
      simpa [valV, List.find?_cons, hk] using ih (by simpa [valD] using e)
theorem PR.has {ds : List (κ × D)} {vs : List (κ × V)} (h : PR K H ds vs) (k : κ) : (valV vs k).isSome = (valD ds k).isSome := by
  cases e : valD ds k with
  | none => rw [h.valN e]; rfl
  | some d => obtain ⟨v, e2, _⟩ := h.val e; rw [e2]; rfl
theorem PR.map_put {ds : List (κ × D)} {vs : List (κ × V)} (h : PR K H ds vs) (k : κ) {d : D} {v : V} (a : DV K H d v) : PR K H (ds.map fun kv => if kv.1 = k then (kv.1, d) else kv) (vs.map fun kv => if kv.1 = k then (kv.1, v) else kv) := by
  induction h with
  | nil => exact .nil
  | @cons k' d' v' ds vs a' _ ih =>
    by_cases hk : k' = k
    · simpa [hk] using PR.cons a ih
    · simpa [hk] using PR.cons a' ih
theorem PR.put {ds : List (κ × D)} {vs : List (κ × V)} (h : PR K H ds vs) (k : κ) {d : D} {v : V} (a : DV K H d v) : PR K H (putD ds k d) (putK vs k v) := by
  unfold putD putK
  rw [← h.any k]
  cases ds.any fun kv => decide (kv.1 = k) with
  | true => simpa using h.map_put k a
  | false => simpa using h.append (.cons a .nil)
end

/-- dicts of the store, as they are tracked -/
theorem Rel.dK {K : Bd} {M : DM} {H : Hp} (R : Rel K M H) {a : Addr} {kvs : List (Key × D)} (e : M a = some (.dK kvs)) : ∃ kws, H a = some (.dK kws) ∧ PR K H kvs kws := by
  obtain ⟨u, hu, r⟩ := R a _ e
  cases r with | dK e1 e2 => exact ⟨_, hu, .of e1 e2⟩
theorem Rel.dT {K : Bd} {M : DM} {H : Hp} (R : Rel K M H) {a : Addr} {kvs : List (NestedKey × D)} (e : M a = some (.dT kvs)) : ∃ xs, H a = some (tdO K.P K.w a xs) ∧ TDR K H kvs xs := by
  obtain ⟨u, hu, r⟩ := R a _ e
  cases r with | dT h => exact ⟨_, hu, h⟩
theorem Rel.ins {K : Bd} {M : DM} {H : Hp} (R : Rel K M H) {a C : Addr} {fs : List (Str × D)} (e : M a = some (.ins C fs)) : ∃ dx gs, H a = some (.ins C dx gs) ∧ PR K H fs gs := by
  obtain ⟨u, hu, r⟩ := R a _ e
  cases r with | ins e1 e2 => exact ⟨_, _, hu, .of e1 e2⟩
theorem Rel.lst {K : Bd} {M : DM} {H : Hp} (R : Rel K M H) {a : Addr} {ds : List D} (e : M a = some (.lst ds)) : ∃ vs, H a = some (.lst vs) ∧ DVs K H ds vs := by
  obtain ⟨u, hu, r⟩ := R a _ e
  cases r with | lst h => exact ⟨_, hu, h⟩
theorem RelO.ofK {K : Bd} {H : Hp} {p : Addr} {a : List (Key × D)} {b : List (Key × V)} (h : PR K H a b) : RelO K H p (.dK a) (.dK b) := .dK h.keys h.vals
theorem RelO.ofI {K : Bd} {H : Hp} {p C dx : Addr} {a : List (Str × D)} {b : List (Str × V)} (h : PR K H a b) : RelO K H p (.ins C a) (.ins C dx b) := .ins h.keys h.vals

/-! ### dicts with tuples for keys -/
section
variable {X : Cx} {pins : List (Addr × Obj)} {σ : L2.St} {H : Hp} {s : Shared} {a b : Addr} {xs : List (NestedKey × Addr × Value)} {kvs : List (NestedKey × D)} {k : NestedKey} {A : Around} {E : Value → Shared → Prop}
mutual
theorem dv_nested (I : Inv X pins σ H s) : ∀ (k : NestedKey) (v : V) (u : Value), DV X.B H (nkD k) v → RelV v u → NestedIs s.heap k u
  | .none, v, u, d, r => by
    unfold nkD at d; cases d
    cases (show u = Value.none from r); exact .none
  | .num i, v, u, d, r => by
    unfold nkD at d; cases d
    obtain ⟨t, rfl⟩ := (show ∃ t, u = Value.int i t from r); exact .int i t
  | .text x, v, u, d, r => by
    unfold nkD at d; cases d
    obtain ⟨t, rfl⟩ := (show ∃ t, u = Value.str x t from r); exact .text x t
  | .tup ks, v, u, d, r => by
    unfold nkD at d
    cases d with
    | @tup a o ds vs s1 n hs =>
      obtain rfl : u = Value.ref a := r
      obtain ⟨its, rv, ⟨ob, h1, h2, m, h3⟩, _⟩ := I.tuple (sqF .refl s1)
      exact .tup h1 h2 h3 (by rw [List.toList_toArray]; exact dv_nesteds I ks vs its hs rv)
theorem dv_nesteds (I : Inv X pins σ H s) : ∀ (ks : List NestedKey) (vs : List V) (us : List Value), DVs X.B H (nkDs ks) vs → Vals vs us → NestedAll s.heap ks us
  | [], vs, us, d, r => by
    unfold nkDs at d; cases d; cases r; exact .nil
  | k :: ks, vs, us, d, r => by
    unfold nkDs at d
    cases d with
    | cons a b => cases r with
      | cons c e => exact .cons (dv_nested I k _ _ a c) (dv_nesteds I ks _ _ b e)
end
theorem TDR.keys {K : Bd} {H : Hp} (r : TDR K H kvs xs) : ∀ x ∈ xs, DV K H (nkD x.1) (.ref x.2.1) ∧ x.1.depth ≤ 8 := by
  induction r with
  | nil => intro x hx; cases hx
  | cons a z b e _ ih =>
    intro x hx
    rcases List.mem_cons.mp hx with rfl | hx
    · exact ⟨a, z⟩
    · exact ih x hx
theorem TDR.length {K : Bd} {H : Hp} (r : TDR K H kvs xs) : kvs.length = xs.length := by
  induction r with
  | nil => rfl
  | cons _ _ _ _ _ ih => simp [ih]
theorem TDR.at {K : Bd} {H : Hp} (r : TDR K H kvs xs) (k : NestedKey) : match valD kvs k with
    | some d => ∃ p v, atKey xs k = some p ∧ DV K H d v ∧ RelV v p.2
    | none => atKey xs k = none := by
  induction r with
  | nil => simp [valD, atKey]
  | @cons k' d q v u kvs xs a z b e t ih =>
    by_cases hk : k' = k
    · subst hk
      have e1 : valD ((k', d) :: kvs) k' = some d := by simp [valD]
      have e2 : atKey ((k', q, u) :: xs) k' = some (q, u) := by simp [atKey]
      rw [e1]
      exact ⟨_, v, e2, b, e⟩
    · have e1 : valD ((k', d) :: kvs) k = valD kvs k := by simp [valD, List.find?_cons, hk]
      have e2 : atKey ((k', q, u) :: xs) k = atKey xs k := by simp [atKey, List.find?_cons, hk]
      rw [e1, e2]
      exact ih
theorem TDR.has {K : Bd} {H : Hp} (r : TDR K H kvs xs) (k : NestedKey) : (atKey xs k).isSome = (valD kvs k).isSome := by
  have q := r.at k
  cases e : valD kvs k with
  | none => rw [e] at q; rw [q]; rfl
  | some d => rw [e] at q; obtain ⟨p, v, e2, _⟩ := q; rw [e2]; rfl
theorem TDR.snoc {K : Bd} {H : Hp} (r : TDR K H kvs xs) {q : Addr} {d : D} {v : V} {u : Value} (hk : DV K H (nkD k) (.ref q)) (hd : k.depth ≤ 8) (dv : DV K H d v) (rv : RelV v u) : TDR K H (kvs ++ [(k, d)]) (xs ++ [(k, q, u)]) := by
  induction r with
  | nil => exact .cons hk hd dv rv .nil
  | cons a z b e _ ih => exact .cons a z b e ih
theorem TDR.repl {K : Bd} {H : Hp} (r : TDR K H kvs xs) {d : D} {v : V} {u : Value} (dv : DV K H d v) (rv : RelV v u) : TDR K H (kvs.map fun kv => if kv.1 = k then (kv.1, d) else kv) (xs.map (putAt k u)) := by
  induction r with
  | nil => exact .nil
  | @cons k' d' q v' u' kvs xs a z b e t ih =>
    by_cases hk : k' = k
    · simpa [putAt, hk] using TDR.cons (hk ▸ a) (hk ▸ z) dv rv ih
    · simpa [putAt, hk] using TDR.cons a z b e ih
theorem TDR.put {K : Bd} {H : Hp} (r : TDR K H kvs xs) {q : Addr} {d : D} {v : V} {u : Value} (hk : DV K H (nkD k) (.ref q)) (hd : k.depth ≤ 8) (dv : DV K H d v) (rv : RelV v u) : TDR K H (putD kvs k d) (storedH xs k q u) := by
  have e : (kvs.any fun kv => decide (kv.1 = k)) = (atKey xs k).isSome := by
    rw [r.has k]
    clear r
    induction kvs with
    | nil => rfl
    | cons kv kvs ih =>
      by_cases hk' : kv.1 = k
      · simp [valD, hk']
      · simp only [List.any_cons, hk', decide_false, Bool.false_or]
        rw [ih]
        simp [valD, List.find?_cons, hk']
  unfold putD storedH
  rw [e]
  cases (atKey xs k).isSome with
  | true => simpa using r.repl dv rv
  | false => simpa using r.snoc hk hd dv rv
theorem td_dict (I : Inv X pins σ H s) (h : H a = some (tdO X.prog X.w a xs)) (hk : ∀ x ∈ xs, DV X.B H (nkD x.1) (.ref x.2.1) ∧ x.1.depth ≤ 8) : xs.length ≤ sizeLine ∧ (a == sysModules) = false ∧ s.heap.DictOfH (nestedKind X.prog X.w) a xs := by
  obtain ⟨⟨z, y, o, es, ep, h1, h2, h3, h4, h5⟩, _⟩ := (show ObjOk X.prog X.w H s.heap a (tdO X.prog X.w a xs) from I.hok a _ h)
  exact ⟨z, y, o, es, ep, h1, h2, h3, h4, fun x hx => ⟨dv_nested I x.1 _ _ (hk x hx).1 rfl, (hk x hx).2⟩, h5⟩
theorem td_ok {P : Program} {w : World} {H : Hp} {h : Heap} (z : xs.length ≤ sizeLine) (y : (a == sysModules) = false) (d : h.DictOfH (nestedKind P w) a xs) : ObjOk P w H h a (tdO P w a xs) := by
  obtain ⟨o, es, ep, h1, h2, h3, h4, _, h5⟩ := d
  exact ⟨⟨z, y, o, es, ep, h1, h2, h3, h4, h5⟩, ⟨o, h1⟩, fun g1 g2 ⟨z, y, o, es, ep, h1, r⟩ hk => ⟨z, y, o, es, ep, hk o h1, r⟩⟩
theorem room_k (hu : A.units + 64 < cLine) : (nestedKind X.prog X.w).room A.in1 := by
  show A.units + 1 + 8 < cLine
  omega
/-- what is known of a key beside a dict -/
structure TG (X : Cx) (H : Hp) (a b : Addr) (xs : List (NestedKey × Addr × Value)) (k : NestedKey) : Prop where
  at_ : H a = some (tdO X.prog X.w a xs)
  all : ∀ x ∈ xs, DV X.B H (nkD x.1) (.ref x.2.1) ∧ x.1.depth ≤ 8
  key : DV X.B H (nkD k) (.ref b)
  dep : k.depth ≤ 8
theorem TG.is (g : TG X H a b xs k) (I : Inv X pins σ H s) : (nestedKind X.prog X.w).is s.heap k b := ⟨dv_nested I k _ _ g.key rfl, g.dep⟩
theorem tg_get {p : Addr × Value} {Q : Value → Shared → Prop} (hu : A.units + 64 < cLine) (I : Inv X pins σ H s) (g : TG X H a b xs k) (hp : atKey xs k = some p) (h : ∀ s', Inv X pins σ H s' → Q p.2 s') : wpAny (model X.prog X.w) A (getItem (.ref a) (.ref b)) Q E s := by
  obtain ⟨z, hd, dd⟩ := td_dict I g.at_ g.all
  exact wpAny_getItem_heap (room_k hu) (g.is I) dd hp (h _ (I.tok _))
theorem tg_in {Q : Value → Shared → Prop} (hu : A.units + 64 < cLine) (I : Inv X pins σ H s) (g : TG X H a b xs k) (h : ∀ s', Inv X pins σ H s' → Q (.bool (atKey xs k).isSome) s') : wpAny (model X.prog X.w) A (compareOp .In (.ref b) (.ref a)) Q E s := by
  obtain ⟨z, hd, dd⟩ := td_dict I g.at_ g.all
  exact wpAny_in_heap (room_k hu) (g.is I) hd dd (h _ (I.tok _))
theorem tg_nin {Q : Value → Shared → Prop} (hu : A.units + 64 < cLine) (I : Inv X pins σ H s) (g : TG X H a b xs k) (h : ∀ s', Inv X pins σ H s' → Q (.bool (!(atKey xs k).isSome)) s') : wpAny (model X.prog X.w) A (compareOp .NotIn (.ref b) (.ref a)) Q E s := by
  obtain ⟨z, hd, dd⟩ := td_dict I g.at_ g.all
  exact wpAny_notIn_heap (room_k hu) (g.is I) hd dd (h _ (I.tok _))
theorem stored_len (xs : List (NestedKey × Addr × Value)) (k : NestedKey) (b : Addr) (r : Value) : (storedH xs k b r).length ≤ xs.length + 1 := by
  unfold storedH
  split
  · rw [List.length_map]; exact Nat.le_succ _
  · rw [List.length_append] <;> exact Nat.le_refl _
theorem tg_set {r : Value} {Q : Unit → Shared → Prop} (hu : A.units + 64 < cLine) (I : Inv X pins σ H s) (g : TG X H a b xs k) (hl : xs.length < sizeLine) (h : ∀ s', Inv X pins σ (upd H a (tdO X.prog X.w a (storedH xs k b r))) s' → Q () s') : wpAny (model X.prog X.w) A (setItem (.ref a) (.ref b) r) Q E s := by
  obtain ⟨z, hd, dd⟩ := td_dict I g.at_ g.all
  refine wpAny_setItem_heap (hsz := z) (room_k hu) (g.is I) dd fun h' dd' hs => h _ ?_
  have he : ∃ q, h'.get? a = some q := let ⟨q, _, _, hq, _⟩ := dd'; ⟨q, hq⟩
  exact d_write I (by rw [g.at_]; exact True.intro) hs he (td_ok (Nat.le_trans (stored_len ..) hl) hd dd')
/-- d[y], by values, of both kinds of dicts -/
def xGet (X : Cx) : R2 := fun x y H Q => (∃ a v, x = .ref a ∧ DGet H a y (some v) ∧ Q v H) ∨ ∃ a b xs k p v, x = .ref a ∧ y = .ref b ∧ TG X H a b xs k ∧ atKey xs k = some p ∧ RelV v p.2 ∧ Q v H
def xIn (X : Cx) (neg : Bool) : R2 := fun y x H Q => (∃ a o, x = .ref a ∧ DGet H a y o ∧ Q (.bl (if neg then !o.isSome else o.isSome)) H) ∨ ∃ a b xs k, x = .ref a ∧ y = .ref b ∧ TG X H a b xs k ∧ Q (.bl (if neg then !(atKey xs k).isSome else (atKey xs k).isSome)) H
def xPut (X : Cx) (H : Hp) (a : Addr) (y v : V) (N : Hp → Prop) : Prop := (∃ H', DPut H a y v H' ∧ N H') ∨ ∃ b xs k, y = .ref b ∧ TG X H a b xs k ∧ xs.length < sizeLine ∧ ∀ r, RelV v r → N (upd H a (tdO X.prog X.w a (storedH xs k b r)))
theorem x_get {y v : V} {u : Value} {Q : Value → Shared → Prop} (hu : A.units + 64 < cLine) (I : Inv X pins σ H s) {x : V} {ux : Value} {QV : VK} (g : xGet X x y H QV) (rx : RelV x ux) (ry : RelV y u) (h : ∀ v w' s', Inv X pins σ H s' → RelV v w' → QV v H → Q w' s') :
    s.TypeIs ux "dict" ∧ wpAny (model X.prog X.w) A (getItem ux u) Q E s := by
  rcases g with ⟨a, v, rfl, g, q⟩ | ⟨a, b, xs, k, p, v, rfl, rfl, g, hp, rv, q⟩
  · obtain rfl : ux = Value.ref a := rx
    exact ⟨dict_typeIs I g, d_getItem (by omega) I g ry fun w' s' I' r' => h v w' s' I' r' q⟩
  · obtain rfl : ux = Value.ref a := rx
    obtain rfl : u = Value.ref b := ry
    obtain ⟨_, _, dd⟩ := td_dict I g.at_ g.all
    exact ⟨dd.typeIs, tg_get hu I g hp fun s' I' => h v p.2 s' I' rv q⟩
theorem x_set {y v : V} {u r : Value} {N : Hp → Prop} {Q : Unit → Shared → Prop} (hu : A.units + 64 < cLine) (I : Inv X pins σ H s) (g : xPut X H a y v N) (ry : RelV y u) (rv : RelV v r) (h : ∀ H' s', Inv X pins σ H' s' → N H' → Q () s') : wpAny (model X.prog X.w) A (setItem (.ref a) u r) Q E s := by
  rcases g with ⟨H', g, n⟩ | ⟨b, xs, k, rfl, g, hl, n⟩
  · exact d_setItem (by omega) I g ry rv fun s' I' => h H' s' I' n
  · obtain rfl : u = Value.ref b := ry
    exact tg_set hu I g hl fun s' I' => h _ s' I' (n r rv)
variable {o i value : Expr} {pos pos' tpos : Pos} {td ty tv : TE}
theorem pe_xget (hu : X.A.units + 64 < cLine) (ho : PE X o td) (hi : PE X i ty) (hs : NoSl i) : PE X (.Subscript o i pos) (tOp (xGet X) td ty) := by
  refine ⟨fun pins s σ H Q I h => ?_⟩
  refine subD_of PySem.F.slot_dict_getitem.lookup hs (thn (ho.run pins s σ H _ I h) fun u s1 ⟨x, H1, I1, rx, q1⟩ => thn (hi.run pins s1 σ H1 _ I1 q1) fun iv s2 ⟨y, H2, I2, ry, g⟩ => ?_)
  exact x_get (v := y) hu I2 g rx ry fun v w' s3 I3 rw' q => ⟨v, H2, I3, rw', q⟩
theorem pc_xin (hu : X.A.units + 64 < cLine) (hi : PE X i ty) (ho : PE X o td) : PC X .In i o (tOp (xIn X false) ty td) := by
  refine ⟨fun pins s σ H Q I h => ?_⟩
  refine thn (hi.run pins s σ H _ I h) fun iv s1 ⟨y, H1, I1, ry, q1⟩ => thn (ho.run pins s1 σ H1 _ I1 q1) fun u s2 ⟨x, H2, I2, rx, g⟩ => ?_
  rcases g with ⟨a, ov, rfl, g, q⟩ | ⟨a, b, xs, k, rfl, rfl, g, q⟩
  · obtain rfl : u = Value.ref a := rx
    exact d_in (by omega) I2 g ry fun s3 I3 => ⟨.bl ov.isSome, H2, I3, rfl, q⟩
  · obtain rfl : u = Value.ref a := rx
    obtain rfl : iv = Value.ref b := ry
    exact tg_in hu I2 g fun s3 I3 => ⟨.bl _, H2, I3, rfl, q⟩
theorem pc_xnin (hu : X.A.units + 64 < cLine) (hi : PE X i ty) (ho : PE X o td) : PC X .NotIn i o (tOp (xIn X true) ty td) := by
  refine ⟨fun pins s σ H Q I h => ?_⟩
  refine thn (hi.run pins s σ H _ I h) fun iv s1 ⟨y, H1, I1, ry, q1⟩ => thn (ho.run pins s1 σ H1 _ I1 q1) fun u s2 ⟨x, H2, I2, rx, g⟩ => ?_
  rcases g with ⟨a, ov, rfl, g, q⟩ | ⟨a, b, xs, k, rfl, rfl, g, q⟩
  · obtain rfl : u = Value.ref a := rx
    exact d_notIn (by omega) I2 g ry fun s3 I3 => ⟨.bl (!ov.isSome), H2, I3, rfl, q⟩
  · obtain rfl : u = Value.ref a := rx
    obtain rfl : iv = Value.ref b := ry
    exact tg_nin hu I2 g fun s3 I3 => ⟨.bl _, H2, I3, rfl, q⟩
def sXPut (X : Cx) (td ty tv : TE) : TS := fun D σ H => tv σ H fun v H1 => td σ H1 fun x H2 => ty σ H2 fun y H3 => ∃ a, x = .ref a ∧ xPut X H3 a y v fun H4 => D.nx σ H4
theorem ps_xput (hu : X.A.units + 64 < cLine) (ho : PE X o td) (hi : PE X i ty) (hv : PE X value tv) (hs : swapsWith value (some (.Subscript o i pos')) pos.line X.env = pure false) :
    PS X (.Assign [.Subscript o i pos'] value pos) (sXPut X td ty tv) := by
  refine ⟨fun pins s σ H D I h => ?_⟩
  refine wpAny_Assign_Subscript (thn (hv.run pins s σ H _ I h) fun r s1 ⟨v, H1, I1, rv, q1⟩ => thn (ho.run pins s1 σ H1 _ I1 q1) fun u s2 ⟨x, H2, I2, rx, q2⟩ => thn (hi.run pins s2 σ H2 _ I2 q2) fun iv s3 ⟨y, H3, I3, ry, a, ex, g⟩ => ?_) hs
  subst ex
  obtain rfl : u = Value.ref a := rx
  exact x_set hu I3 g ry rv fun H4 s4 I4 q => ⟨σ, H4, I4, q⟩
def sXAug (X : Cx) (td ty tv : TE) (rd : V → V → Hp → VK → Prop) : TS := fun D σ H => td σ H fun x H1 => ty σ H1 fun y H2 => ∃ a, x = .ref a ∧ xGet X x y H2 fun v H2' =>
  tv σ H2' fun y2 H3 => rd v y2 H3 fun z H4 => xPut X H4 a y z fun H5 => D.nx σ H5
theorem ps_xaug {op : Operator} {rd : V → V → Hp → VK → Prop} (hu : X.A.units + 64 < cLine) (ho : PE X o td) (hi : PE X i ty) (hv : PE X value tv) (hop : InOp X op rd)
    (ha : ∀ ov iv new, augStore i ov iv new = (do holding [new, ov, iv] (setItem ov iv new); release [new, ov, iv] []; pure .next)) : PS X (.AugAssign (.Subscript o i tpos) op value pos) (sXAug X td ty tv rd) := by
  refine ⟨fun pins s σ H D I h => ?_⟩
  refine wpAny_AugAssign_SubscriptAny (thn (ho.run pins s σ H _ I h) fun u s1 ⟨x, H1, I1, rx, q1⟩ => thn (hi.run pins s1 σ H1 _ I1 q1) fun iv s2 ⟨y, H2, I2, ry, a, ex, g⟩ => ?_) ha
  subst ex
  obtain rfl : u = Value.ref a := rx
  refine (x_get (v := y) hu I2 g rfl ry fun v w' s3 I3 rw' q2 => ?_).2
  refine thn (hv.run pins s3 σ H2 _ I3 q2) fun w2 s4 ⟨y2, H3, I4, ry2, q3⟩ => thn (hop pins s4 σ H3 v y2 w' w2 _ I4 rw' ry2 q3) fun w3 s5 ⟨z, H4, I5, rz, g5⟩ => ?_
  exact x_set hu I5 g5 ry rz fun H5 s6 I6 q4 => ⟨σ, H5, I6, q4⟩
end
mutual
/-- a tuple as a key -/
def keyN : D → Option NestedKey
  | .non => some .none
  | .int i => some (.num i)
  | .str x => some (.text x)
  | .tup ds => (keyNs ds).map .tup
  | _ => none
def keyNs : List D → Option (List NestedKey)
  | [] => some []
  | d :: ds => match keyN d, keyNs ds with
    | some k, some ks => some (k :: ks)
    | _, _ => none
end
mutual
theorem keyN_eq : ∀ {d : D} {k : NestedKey}, keyN d = some k → d = nkD k
  | .non, k, h => by simp only [keyN, Option.some.injEq] at h; subst h; rfl
  | .int i, k, h => by simp only [keyN, Option.some.injEq] at h; subst h; rfl
  | .str x, k, h => by simp only [keyN, Option.some.injEq] at h; subst h; rfl
  | .tup ds, k, h => by
    simp only [keyN, Option.map_eq_some_iff] at h
    obtain ⟨ks, h1, rfl⟩ := h
    rw [keyNs_eq h1, nkD]
  | .bl _, k, h => by simp [keyN] at h
  | .ref _, k, h => by simp [keyN] at h
  | .pair _, k, h => by simp [keyN] at h
theorem keyNs_eq : ∀ {ds : List D} {ks : List NestedKey}, keyNs ds = some ks → ds = nkDs ks
  | [], ks, h => by simp only [keyNs, Option.some.injEq] at h; subst h; rfl
  | d :: ds, ks, h => by
    unfold keyNs at h
    split at h
    · rename_i k ks' e1 e2
      simp only [Option.some.injEq] at h
      subst h
      rw [nkDs, keyN_eq e1, keyNs_eq e2]
    · cases h
end
/-- what a dict holds at a key -/
inductive DGetD (M : DM) (a : Addr) : D → Option D → Prop
  | k {kvs : List (Key × D)} {d : D} {k : Key} : M a = some (.dK kvs) → KeyD d = some k → DGetD M a d (valD kvs k)
  | t {kvs : List (NestedKey × D)} {ds : List D} {k : NestedKey} : M a = some (.dT kvs) → keyN (.tup ds) = some k → k.depth ≤ 8 → DGetD M a (.tup ds) (valD kvs k)
/-- a store behind d[k] = v -/
inductive DPutD (M : DM) (a : Addr) : D → D → DM → Prop
  | k {kvs : List (Key × D)} {d v : D} {k : Key} : M a = some (.dK kvs) → KeyD d = some k → kvs.length < sizeLine → DPutD M a d v (put M a (.dK (putD kvs k v)))
  | t {kvs : List (NestedKey × D)} {ds : List D} {v : D} {k : NestedKey} : M a = some (.dT kvs) → keyN (.tup ds) = some k → k.depth ≤ 8 → kvs.length < sizeLine → DPutD M a (.tup ds) v (put M a (.dT (putD kvs k v)))
section
variable {X : Cx} {W : WX}
theorem tg_of {M : DM} {H : Hp} {a : Addr} {ds : List D} {v : V} {kvs : List (NestedKey × D)} {k : NestedKey} (R : Rel X.B M H) (e : M a = some (.dT kvs)) (hk : keyN (.tup ds) = some k) (hd : k.depth ≤ 8) (r : DV X.B H (.tup ds) v) : ∃ b xs, v = .ref b ∧ TG X H a b xs k ∧ TDR X.B H kvs xs := by
  obtain ⟨xs, hu, t⟩ := R.dT e
  rw [keyN_eq hk] at r
  cases v with
  | ref b => exact ⟨b, xs, rfl, ⟨hu, t.keys, r, hd⟩, t⟩
  | _ => rw [← keyN_eq hk] at r; nomatch r
/-- d[k] -/
def dgetD : R2D := fun d e M Q => ∃ a v, d = .ref a ∧ DGetD M a e (some v) ∧ Q v M
theorem o_dget : OpD X (xGet X) dgetD := fun d e x y M H Qd Q dx ey R ⟨a, v, hd, g, h⟩ c => by
  subst hd; cases dx
  generalize ho : some v = ov at g
  cases g with
  | @k kvs _ k e hk =>
    obtain ⟨kws, hu, pr⟩ := R.dK e
    obtain ⟨w, hw, dw⟩ := pr.val ho.symm
    rw [KeyD.dv hk ey]
    refine .inl ⟨a, w, rfl, ?_, c.now R dw h⟩
    rw [← hw]
    exact DGet.k hu
  | @t kvs ds k e hk hd =>
    obtain ⟨b, xs, rfl, g, t⟩ := tg_of R e hk hd ey
    have q := t.at k
    rw [← ho] at q
    obtain ⟨p, w, e2, dw, rw'⟩ := q
    exact .inr ⟨a, b, xs, k, p, w, rfl, rfl, g, e2, rw', c.now R dw h⟩
theorem de_dget {o i : Expr} {td ty : TED} {pos : Pos} (hu : X.A.units + 64 < cLine) (ho : PE X o (lE X.B W td)) (hi : PE X i (lE X.B W ty)) (hs : NoSl i) : PE X (.Subscript o i pos) (lE X.B W (dOp dgetD td ty)) :=
  PE.imp (pe_xget hu ho hi hs) fun _ _ _ h => lift2 o_dget h
/-- k in d, k not in d -/
def dinD (neg : Bool) : R2D := fun e d M Q => ∃ a o, d = .ref a ∧ DGetD M a e o ∧ Q (.bl (if neg then !o.isSome else o.isSome)) M
theorem o_din {neg : Bool} : OpD X (xIn X neg) (dinD neg) := fun e d y x M H Qd Q ey dx R ⟨a, o, hd, g, h⟩ c => by
  subst hd; cases dx
  cases g with
  | @k kvs _ k e hk =>
    obtain ⟨kws, hu, pr⟩ := R.dK e
    rw [KeyD.dv hk ey]
    refine .inl ⟨a, valV kws k, rfl, DGet.k hu, ?_⟩
    rw [pr.has k]
    exact c.now R .bl h
  | @t kvs ds k e hk hd =>
    obtain ⟨b, xs, rfl, g, t⟩ := tg_of R e hk hd ey
    refine .inr ⟨a, b, xs, k, rfl, rfl, g, ?_⟩
    rw [t.has k]
    exact c.now R .bl h
theorem de_din {o i : Expr} {td ty : TED} {pos : Pos} (hu : X.A.units + 64 < cLine) (hi : PE X i (lE X.B W ty)) (ho : PE X o (lE X.B W td)) (hm : behindInMarks .In o = false := by rfl) : PE X (.Compare i [.In] [o] pos) (lE X.B W (dOp (dinD false) ty td)) :=
  PE.imp (pe_cmp (pc_xin hu hi ho) hm) fun _ _ _ h => lift2 o_din h
theorem de_dnin {o i : Expr} {td ty : TED} {pos : Pos} (hu : X.A.units + 64 < cLine) (hi : PE X i (lE X.B W ty)) (ho : PE X o (lE X.B W td)) (hm : behindInMarks .NotIn o = false := by rfl) : PE X (.Compare i [.NotIn] [o] pos) (lE X.B W (dOp (dinD true) ty td)) :=
  PE.imp (pe_cmp (pc_xnin hu hi ho) hm) fun _ _ _ h => lift2 o_din h
theorem dt_din {o i : Expr} {td ty : TED} {pos : Pos} (hu : X.A.units + 64 < cLine) (hi : PE X i (lE X.B W ty)) (ho : PE X o (lE X.B W td)) (hm : behindInMarks .In o = false := by rfl) : PT X (.Compare i [.In] [o] pos) (lT X.B W (dB (dOp (dinD false) ty td))) :=
  dt_of (tt := lE X.B W (dOp (dinD false) ty td)) (PT.imp (pt_cmp (pc_xin hu hi ho) hm) fun σ H Q h => lift2 (Q := fun x H' => ∃ k, x = .bl k ∧ Q k H') o_din h)
theorem dt_dnin {o i : Expr} {td ty : TED} {pos : Pos} (hu : X.A.units + 64 < cLine) (hi : PE X i (lE X.B W ty)) (ho : PE X o (lE X.B W td)) (hm : behindInMarks .NotIn o = false := by rfl) : PT X (.Compare i [.NotIn] [o] pos) (lT X.B W (dB (dOp (dinD true) ty td))) :=
  dt_of (tt := lE X.B W (dOp (dinD true) ty td)) (PT.imp (pt_cmp (pc_xnin hu hi ho) hm) fun σ H Q h => lift2 (Q := fun x H' => ∃ k, x = .bl k ∧ Q k H') o_din h)
/-- the store behind d[k] = v -/
theorem DPutD.ok {M M' : DM} {H : Hp} {a : Addr} {d e : D} {v z : V} {N : Hp → Prop} (R : Rel X.B M H) (g : DPutD M a d e M') (r : DV X.B H d v) (rz : DV X.B H e z) (n : ∀ H', Rel X.B M' H' → Keep M H M' H' → N H') : xPut X H a v z N := by
  cases g with
  | k h hk hl =>
    obtain ⟨kws, hu, pr⟩ := R.dK h
    rw [KeyD.dv hk r]
    exact .inl ⟨_, DPut.k hu (by rw [← pr.length]; exact hl), n _ (R.write h (.ofK (pr.put _ rz))) (.write R h _ _)⟩
  | t h hk hd hl =>
    obtain ⟨b, xs, rfl, g, t⟩ := tg_of R h hk hd r
    exact .inr ⟨b, xs, _, rfl, g, by rw [← t.length]; exact hl, fun u ru => n _ (R.write h (.dT (t.put g.key hd rz ru))) (.write R h _ _)⟩
/-- d[k] = v -/
def dDPut (td ty tv : TED) : TSD := fun D σ M => tv σ M (fun v M1 => td σ M1 (fun d M2 => ty σ M2 (fun k M3 => ∃ a M4, d = .ref a ∧ DPutD M3 a k v M4 ∧ D.nx σ M4) (D.ex σ)) (D.ex σ)) (D.ex σ)
theorem ds_dput {o i value : Expr} {td ty tv : TED} {pos pos' : Pos} (hu : X.A.units + 64 < cLine) (ho : PE X o (lE X.B W td)) (hi : PE X i (lE X.B W ty)) (hv : PE X value (lE X.B W tv)) (hs : swapsWith value (some (.Subscript o i pos')) pos.line X.env = pure false := by rfl) : PS X (.Assign [.Subscript o i pos'] value pos) (lS X.B W (dDPut td ty tv)) :=
  PS.imp (ps_xput hu ho hi hv hs) fun D σ H ⟨σd, M, Dd, S, R, t, c⟩ => ⟨σd, M, _, _, S, R, t, fun v zv M1 H1 dv R1 k1 q1 => ⟨σd, M1, _, _, S.mono (k1.tups R), R1, q1, fun d x M2 H2 dx R2 k2 q2 => ⟨σd, M2, _, _, S.mono ((k1.trans k2).tups R), R2, q2, fun k y M3 H3 dy R3 k3 ⟨a, M4, hd, g, q⟩ => by
    subst hd
    cases dx
    refine ⟨a, rfl, g.ok R3 dy (dv.mono ((k2.trans k3).tups R1)) fun H4 R4 k4 => ?_⟩
    have kk := ((k1.trans k2).trans k3).trans k4
    exact c.nx _ _ M4 H4 (S.mono (kk.tups R)) R4 kk q, (c.cx S R).after (k1.trans k2)⟩, (c.cx S R).after k1⟩, c.cx S R⟩
/-- d[k] op= v -/
def dDAug (rd : R2D) (td ty tv : TED) : TSD := fun D σ M => td σ M (fun d M1 => ty σ M1 (fun k M2 => ∃ a v, d = .ref a ∧ DGetD M2 a k (some v) ∧ tv σ M2 (fun e M3 => rd v e M3 (fun z M4 => ∃ M5, DPutD M4 a k z M5 ∧ D.nx σ M5)) (D.ex σ)) (D.ex σ)) (D.ex σ)
theorem ds_daug {o i value : Expr} {op : Operator} {r : R2} {rd : R2D} {td ty tv : TED} {pos tpos : Pos} (hr : OpD X r rd) (hu : X.A.units + 64 < cLine) (ho : PE X o (lE X.B W td)) (hi : PE X i (lE X.B W ty)) (hv : PE X value (lE X.B W tv)) (hop : InOp X op r)
    (ha : ∀ ov iv new, augStore i ov iv new = (do holding [new, ov, iv] (setItem ov iv new); release [new, ov, iv] []; pure .next) := by intros; rfl) : PS X (.AugAssign (.Subscript o i tpos) op value pos) (lS X.B W (dDAug rd td ty tv)) :=
  PS.imp (ps_xaug hu ho hi hv hop ha) fun D σ H ⟨σd, M, Dd, S, R, t, c⟩ => ⟨σd, M, _, _, S, R, t, fun d x M1 H1 dx R1 k1 q1 => ⟨σd, M1, _, _, S.mono (k1.tups R), R1, q1, fun k y M2 H2 dy R2 k2 ⟨a, v, hd, g, q2⟩ => by
    subst hd
    cases dx
    refine ⟨a, rfl, o_dget _ _ _ _ M2 H2 (fun v' M' => tv σd M' (fun e M3 => rd v' e M3 (fun z M4 => ∃ M5, DPutD M4 a k z M5 ∧ Dd.nx σd M5)) (Dd.ex σd)) _ .ref dy R2 ⟨a, v, rfl, g, q2⟩ fun v' w M2' H2' dw R2' k2' q2' => ?_⟩
    have kk2 := (k1.trans k2).trans k2'
    refine ⟨σd, M2', _, _, S.mono (kk2.tups R), R2', q2', fun e z M3 H3 ez R3 k3 q3 => hr v' e w z M3 H3 _ _ (dw.mono (k3.tups R2')) ez R3 q3 fun f zf M4 H4 fz R4 k4 ⟨M5, g5, q5⟩ => ?_, (c.cx S R).after kk2⟩
    refine g5.ok R4 (dy.mono (((k2'.trans k3).trans k4).tups R2)) fz fun H5 R5 k5 => ?_
    have kk := ((kk2.trans k3).trans k4).trans k5
    exact c.nx _ _ M5 H5 (S.mono (kk.tups R)) R5 kk q5, (c.cx S R).after k1⟩, c.cx S R⟩
theorem pe_newTD {pos : Pos} : PE X (.Dict [] [] pos) (fun _ H Q => ∀ p, H p = none → Q (.ref p) (upd H p (tdO X.prog X.w p []))) := ⟨fun pins s σ H Q I h =>
  wpAny_Dict_empty ⟨.ref s.heap.objs.size, _, I.laid (a := s.heap.objs.size) (o := tdO X.prog X.w s.heap.objs.size []) (t' := s.toks) (fun _ _ q => Heap.get?_push_of_some _ q) (Nat.le_refl _) (td_ok (Nat.zero_le _) (beq_eq_false_iff_ne.mpr (Ne.symm (Nat.ne_of_lt I.big)))
    ⟨_, #[], 0, Heap.get?_push_size _ rfl, ⟨rfl, rfl, rfl⟩, rfl, rfl, (fun x hx => nomatch hx), List.nodup_nil⟩), rfl, h _ (I.hok.fresh (Nat.le_refl _))⟩⟩
/-- {} -/
def dNewK : TED := fun _ M Q _ => ∀ p, M p = none → Q (.ref p) (put M p (.dK []))
def dNewT : TED := fun _ M Q _ => ∀ p, M p = none → Q (.ref p) (put M p (.dT []))
theorem de_newK {pos : Pos} : PE X (.Dict [] [] pos) (lE X.B W dNewK) := PE.imp pe_dnewK fun σ H Q ⟨σd, M, Qd, E, S, R, t, c, cx⟩ p hp => c _ _ _ _ .ref (R.new hp (.dK rfl .nil)) (.new R hp _ _) (t p (R.free hp))
theorem de_newT {pos : Pos} : PE X (.Dict [] [] pos) (lE X.B W dNewT) := PE.imp pe_newTD fun σ H Q ⟨σd, M, Qd, E, S, R, t, c, cx⟩ p hp => c _ _ _ _ .ref (R.new hp (.dT .nil)) (.new R hp _ _) (t p (R.free hp))
/-- a dict comprehension -/
theorem lift_dc {wi : TID} {g : TGD} {tt : TTD} {tk tv : TED} {vs : List Nat} {σ : L2.St} {H : Hp} {Q : VK} (h : lE X.B W (dDc wi g tt tk tv vs) σ H Q) : tDc (lI X.B W wi) (lG X.B w0 vs g) (lT X.B w0 tt) (lE X.B w0 tk) (lE X.B w0 tv) vs σ H Q := by
  obtain ⟨σd, M, Qd, E, S, R, t, c, cx⟩ := h
  refine ⟨σd, M, _, E, S, R, t, fun Jd J M1 H1 ok R1 k1 ⟨n, q⟩ p hp => ?_, cx⟩
  have c1 := c.after k1
  have S1 := S.mono (k1.tups R)
  refine ⟨fun i m H' => ∃ M' acc ws, Rel X.B M' H' ∧ dcN Jd g tt tk tv vs σd Qd m i M' acc ∧ PR X.B H' acc ws ∧ H' p = some (.dK ws) ∧ M' p = none ∧ KeepP p M1 H1 M' H' ∧ Tups H1 H', ⟨n, M1, [], [], R1.hidden hp _, q, .nil, upd_same, R1.free hp, ?_, tups_new hp _⟩, ?_⟩
  · exact KeepP.new hp _
  rintro i m H' ⟨M', acc, ws, R', t, as, hP, mP, kp, tp⟩
  cases m with
  | zero => exact t.elim
  | succ m =>
    unfold dcN at t
    cases e : Jd i M' with
    | none => rw [e] at t; exact t.elim
    | some o =>
      rw [e] at t
      cases o with
      | none => exact .inl ⟨ok.stop i M' H' tp R' e, c1 _ _ (put M' p (.dK acc)) H' .ref (R'.come hP (.ofK as)) (kp.done _) (t p mP)⟩
      | some d =>
        refine .inr ⟨ok.go i M' H' d tp R' e, fun H2 => ∃ M2 acc ws, Rel X.B M2 H2 ∧ dcN Jd g tt tk tv vs σd Qd m (i + 1) M2 acc ∧ PR X.B H2 acc ws ∧ H2 p = some (.dK ws) ∧ M2 p = none ∧ KeepP p M1 H1 M2 H2 ∧ Tups H1 H2, fun H2 h => ⟨m, Nat.lt_succ_self _, h⟩, fun x H2 y => ?_⟩
        obtain ⟨R2, k2, dx⟩ := ok.yld i M' H' d x H2 tp R' e y
        have tp2 := tp.trans (k2.tups R')
        refine ⟨d, _, M', _, _, dx, (S1.mono tp2).wipe vs, R2, t, fun σd3 σ3 M3 H3 o3 S3 R3 k3 q3 => ⟨off_wipe o3, σd3, M3, _, _, S3, R3, q3, fun b M4 H4 R4 k4 q4 => ?_, cnx0⟩, cnx0⟩
        have k24 := (k2.trans k3).trans k4
        cases b with
        | false => exact iteF ⟨M4, acc, ws, R4, q4, as.mono (k24.tups R'), k24.hid p _ hP mP dK_ne.2.2.1, (k24.out p _ hP mP dK_ne.2.2.1), kp.then k24, tp.trans (k24.tups R')⟩
        | true =>
          refine iteT ⟨σd3, M4, _, _, S3.mono (k4.tups R3), R4, q4, fun z zv M5 H5 zr R5 k5 q5 => ⟨σd3, M5, _, _, S3.mono ((k4.trans k5).tups R3), R5, q5, fun y' yv M6 H6 yr R6 k6 ⟨k, hk, hl, q6⟩ => ?_, cnx0⟩, cnx0⟩
          have k26 := (k24.trans k5).trans k6
          have hP6 := k26.hid p _ hP mP dK_ne.2.2.1
          have mP6 := (k26.out p _ hP mP dK_ne.2.2.1)
          have as6 := as.mono (k26.tups R')
          have tq := tups_hput hP6 dK_ne.1 dK_ne.2.1 (.dK (putK ws k yv))
          exact ⟨ws, k, KeyD.dv hk zr, hP6, by rw [← as.length]; exact hl, M6, putD acc k y', putK ws k yv, R6.hput hP6 mP6 dK_ne.1 dK_ne.2.1 dK_ne.2.2.1 (fun q => dK_ne.2.2.2 q _) _, q6, (as6.put k yr).mono tq, upd_same, mP6, (kp.then k26).write _, (tp.trans (k26.tups R')).trans tq⟩
theorem de_dc {e : Expr} {wi : TID} {g : TGD} {tt : TTD} {tk tv : TED} {vs : List Nat} (h : PE X e (tDc (lI X.B W wi) (lG X.B w0 vs g) (lT X.B w0 tt) (lE X.B w0 tk) (lE X.B w0 tv) vs)) : PE X e (lE X.B W (dDc wi g tt tk tv vs)) := PE.imp h fun _ _ _ h => lift_dc h

/-! ### attributes -/
def lookD (f : Str) : List (Str × D) → Option D
  | [] => none
  | (g, d) :: r => if f = g then some d else lookD f r
def putFD (f : Str) (v : D) : List (Str × D) → List (Str × D)
  | [] => [(f, v)]
  | (g, d) :: r => if g = f then (g, v) :: r else (g, d) :: putFD f v r
theorem PR.look {K : Bd} {H : Hp} {fs : List (Str × D)} {gs : List (Str × V)} (h : PR K H fs gs) {f : Str} {d : D} (e : lookD f fs = some d) : ∃ v, gs.lookup f = some v ∧ DV K H d v := by
  induction h with
  | nil => cases e
  | @cons k d' v' ds vs a _ ih =>
    unfold lookD at e
    by_cases hk : f = k
    · rw [if_pos hk] at e; cases e
      exact ⟨v', by rw [hk]; simp [List.lookup], a⟩
    · rw [if_neg hk] at e
      obtain ⟨v, e2, q⟩ := ih e
      refine ⟨v, ?_, q⟩
      have hb : (f == k) = false := beq_eq_false_iff_ne.mpr hk
      simp only [List.lookup, hb, e2]
theorem PR.putF {K : Bd} {H : Hp} {fs : List (Str × D)} {gs : List (Str × V)} (h : PR K H fs gs) (f : Str) {d : D} {v : V} (a : DV K H d v) : PR K H (putFD f d fs) (putF f v gs) := by
  induction h with
  | nil => exact .cons a .nil
  | @cons k d' v' ds vs a' t ih =>
    unfold putFD L2.putF
    by_cases hk : k = f
    · rw [if_pos hk, if_pos hk]; exact .cons a t
    · rw [if_neg hk, if_neg hk]; exact .cons a' ih
/-- e.f -/
def fldD (K : Bd) (f : Str) : R1D := fun d M Q => ∃ a C fs v, d = .ref a ∧ M a = some (.ins C fs) ∧ Cls K C ∧ NoAttr K C f ∧ lookD f fs = some v ∧ Q v M
theorem de_fld {e : Expr} {f : Str} {ta : TED} {pos : Pos} (he : PE X e (lE X.B W ta)) (hb : attributeBase e f X.env (eval e X.env) = eval e X.env := by rfl) : PE X (.Attribute e f pos) (lE X.B W (dUn (fldD X.B f) ta)) :=
  PE.imp (pe_fld he hb) fun σ H Q h => lift1 (r := fun x H1 Q => ∃ a C dx fs v, x = .ref a ∧ H1 a = some (.ins C dx fs) ∧ Cls X.B C ∧ NoAttr X.B C f ∧ fs.lookup f = some v ∧ Q v H1) (fun d x M H Qd Q dx R ⟨a, C, fs, v, hd, e, cl, na, l, h⟩ c => by
    subst hd; cases dx
    obtain ⟨dx, gs, hu, pr⟩ := R.ins e
    obtain ⟨w, lw, dw⟩ := pr.look l
    exact ⟨a, C, dx, gs, w, rfl, hu, cl, na, lw, c.now R dw h⟩) h
/-- e.f = v -/
def dFldS (K : Bd) (f : Str) (ta tv : TED) : TSD := fun D σ M => tv σ M (fun v M1 => ta σ M1 (fun d M2 => ∃ a C fs, d = .ref a ∧ M2 a = some (.ins C fs) ∧ Cls K C ∧ NoAttr K C f ∧ fs.length < 1000 ∧ D.nx σ (put M2 a (.ins C (putFD f v fs)))) (D.ex σ)) (D.ex σ)
theorem ds_fld {o value : Expr} {f : Str} {ta tv : TED} {pos pos' : Pos} (ha : PE X o (lE X.B W ta)) (hv : PE X value (lE X.B W tv)) (hs : swapsWith value (some (.Attribute o f pos')) pos.line X.env = pure false := by rfl) : PS X (.Assign [.Attribute o f pos'] value pos) (lS X.B W (dFldS X.B f ta tv)) :=
  PS.imp (ps_fld ha hv hs) fun D σ H ⟨σd, M, Dd, S, R, t, c⟩ => ⟨σd, M, _, _, S, R, t, fun v zv M1 H1 dv R1 k1 q1 => ⟨σd, M1, _, _, S.mono (k1.tups R), R1, q1, fun d x M2 H2 dx R2 k2 ⟨a, C, fs, hd, e, cl, na, hl, q⟩ => by
    subst hd; cases dx
    obtain ⟨dx, gs, hu, pr⟩ := R2.ins e
    have kk := (k1.trans k2).trans (Keep.write R2 e (.ins C (putFD f v fs)) (.ins C dx (putF f zv gs)))
    exact ⟨a, C, dx, gs, rfl, hu, cl, na, by rw [← pr.length]; exact hl, c.nx _ _ _ _ (S.mono (kk.tups R)) (R2.write e (.ofI (pr.putF f (dv.mono (k2.tups R1))))) kk q⟩, (c.cx S R).after k1⟩, c.cx S R⟩
/-- e.f op= v -/
def dFldA (K : Bd) (rd : R2D) (f : Str) (ta tv : TED) : TSD := fun D σ M => ta σ M (fun d M1 => ∃ a C fs v, d = .ref a ∧ M1 a = some (.ins C fs) ∧ Cls K C ∧ NoAttr K C f ∧ lookD f fs = some v ∧ tv σ M1 (fun e M2 => rd v e M2 (fun z M3 => ∃ fs', M3 a = some (.ins C fs') ∧ fs'.length < 1000 ∧ D.nx σ (put M3 a (.ins C (putFD f z fs'))))) (D.ex σ)) (D.ex σ)
theorem ds_fldaug {o value : Expr} {op : Operator} {r : R2} {rd : R2D} {f : Str} {ta tv : TED} {pos tpos : Pos} (hr : OpD X r rd) (ha : PE X o (lE X.B W ta)) (hv : PE X value (lE X.B W tv)) (hop : InOp X op r) : PS X (.AugAssign (.Attribute o f tpos) op value pos) (lS X.B W (dFldA X.B rd f ta tv)) :=
  PS.imp (ps_fldaug ha hv hop) fun D σ H ⟨σd, M, Dd, S, R, t, c⟩ => ⟨σd, M, _, _, S, R, t, fun d x M1 H1 dx R1 k1 ⟨a, C, fs, v, hd, e, cl, na, l, q1⟩ => by
    subst hd; cases dx
    obtain ⟨dx, gs, hu, pr⟩ := R1.ins e
    obtain ⟨w, lw, dw⟩ := pr.look l
    refine ⟨a, C, dx, gs, w, rfl, hu, cl, na, lw, σd, M1, _, _, S.mono (k1.tups R), R1, q1, fun f2 y M2 H2 fy R2 k2 q2 => hr v f2 w y M2 H2 _ _ (dw.mono (k2.tups R1)) fy R2 q2 fun z zv M3 H3 zr R3 k3 ⟨fs', e3, hl, q3⟩ => ?_, (c.cx S R).after k1⟩
    obtain ⟨dx', gs', hu', pr'⟩ := R3.ins e3
    have kk := ((k1.trans k2).trans k3).trans (Keep.write R3 e3 (.ins C (putFD f z fs')) (.ins C dx' (putF f zv gs')))
    exact ⟨dx', gs', hu', by rw [← pr'.length]; exact hl, c.nx _ _ _ _ (S.mono (kk.tups R)) (R3.write e3 (.ofI (pr'.putF f zr))) kk q3⟩, c.cx S R⟩
end
end Dt

set_option Elab.async false
set_option autoImplicit false
set_option linter.all false
set_option maxRecDepth 100000
set_option maxHeartbeats 4000000
/-! DG: calls of the text's own defs; a def's promise. -/
namespace Dt
open PySem PySem.Spec PyProof.Rows L2 LamX

abbrev SpD := List D → DM → DQ → DX → Prop
/-- the promise of a def that raises nothing -/
def lSp (K : Bd) (sp : SpD) : Sp := fun vs H Q _ => ∃ ds M Qd, DVs K H ds vs ∧ Rel K M H ∧ sp ds M Qd noX ∧ CnE K M H Qd Q
/-- .. of a def that may raise -/
def lSpX (K : Bd) (sp : SpD) : Sp := fun vs H Q E => ∃ ds M Qd Ed, DVs K H ds vs ∧ Rel K M H ∧ sp ds M Qd Ed ∧ CnE K M H Qd Q ∧ CnX K M H Ed E
def startD (N : List Str) (ds : List D) : Std := ds.map some ++ List.replicate (N.length - ds.length) none
theorem relS_start {K : Bd} {H : Hp} {N : List Str} {ds : List D} {vs : List V} (h : DVs K H ds vs) : RelS K H (startD N ds) (L2.start N vs) := by
  have hl := h.length
  refine ⟨by simp [startD, L2.start, hl], fun i d e => ?_⟩
  unfold startD at e
  unfold L2.start
  by_cases hi : i < ds.length
  · rw [List.getElem?_append_left (by simpa using hi)] at e
    rw [List.getElem?_append_left (by rw [List.length_map, ← hl]; exact hi)]
    rw [List.getElem?_map] at e ⊢
    cases q : ds[i]? with
    | none => rw [q] at e; cases e
    | some x =>
      rw [q] at e
      cases e
      obtain ⟨v, e2, r⟩ := h.get q
      exact ⟨v, by rw [e2]; rfl, r⟩
  · rw [List.getElem?_append_right (by simpa using Nat.le_of_not_lt hi)] at e
    rw [List.getElem?_replicate] at e
    split at e
    · cases e
    · cases e
section
variable {P : Program} {w : World} {K : PySem.W.Frag} {mg : Str → Option Value} {base : Heap}
abbrev dEnd (Q : DQ) (E : DX) : DEnds := { nx := fun _ M' => Q .non M', rt := Q, bk := fun _ _ => False, ct := fun _ _ => False, ex := fun _ => E }
/-- a def that raises nothing keeps its promise -/
theorem fnD {x qual : Str} {st : Stmt} {f : Addr} {fd : FuncData} {N ps : List Str} {k : Nat} {sp : SpD} {t : TSD} (F : Fun K x qual st f fd) (S : FnScope N ps (defScope st)) (len : ∀ ds M Q, sp ds M Q noX → ds.length = ps.length)
    (hbody : ∀ (cdv : Value) (A : Around) (outer : List Env) (s : Shared) (H : Hp) (E : XK), Room k (A.deeper (envOfC qual (defScope st) s.heap.objs.size f cdv)) → PSs (cxOf CX0 P w K mg base N qual (defScope st) f cdv A outer s H E).nox (defBody st) (lS ⟨K, P, w⟩ w0 t))
    (hp : ∀ ds M Q, sp ds M Q noX → t (dEnd Q noX) (startD N ds) M) : FnOk P w K mg base CX0 (k + 1) f fd ps (lSp ⟨K, P, w⟩ sp) := by
  refine F.ok S (fun vs H Q E ⟨ds, M, Qd, dv, R, h, c⟩ => by rw [← dv.length]; exact len ds M Qd h) fun cdv A outer s H vs Q E hr ⟨ds, M, Qd, dv, R, h, c⟩ => ⟨_, hbody cdv A outer s H E hr, startD N ds, M, _, relS_start dv, R, hp ds M Qd h, ?_⟩
  exact ⟨fun σd' σ' M' H' _ R' k' q => c .non .non M' H' .non R' k' q, c, fun _ _ _ _ _ _ _ q => q.elim, fun _ _ _ _ _ _ _ q => q.elim, fun _ _ _ _ _ _ _ _ _ _ _ q => q.elim⟩
/-- .. one that may raise -/
theorem fnDX {x qual : Str} {st : Stmt} {f : Addr} {fd : FuncData} {N ps : List Str} {k : Nat} {sp : SpD} {t : TSD} (F : Fun K x qual st f fd) (S : FnScope N ps (defScope st)) (len : ∀ ds M Q E, sp ds M Q E → ds.length = ps.length)
    (hbody : ∀ (cdv : Value) (A : Around) (outer : List Env) (s : Shared) (H : Hp) (E : XK), Room k (A.deeper (envOfC qual (defScope st) s.heap.objs.size f cdv)) → PSs (cxOf (L2.CX P w) P w K mg base N qual (defScope st) f cdv A outer s H E) (defBody st) (lS ⟨K, P, w⟩ (fun c d _ h => E c d h) t))
    (hp : ∀ ds M Q E, sp ds M Q E → t (dEnd Q E) (startD N ds) M) : FnOk P w K mg base (L2.CX P w) (k + 1) f fd ps (lSpX ⟨K, P, w⟩ sp) := by
  refine F.okX S (fun vs H Q E ⟨ds, M, Qd, Ed, dv, R, h, c, cx⟩ => by rw [← dv.length]; exact len ds M Qd Ed h) fun cdv A outer s H vs Q E hr ⟨ds, M, Qd, Ed, dv, R, h, c, cx⟩ => ⟨_, hbody cdv A outer s H E hr, startD N ds, M, _, relS_start dv, R, hp ds M Qd Ed h, ?_⟩
  exact ⟨fun σd' σ' M' H' _ R' k' q => c .non .non M' H' .non R' k' q, c, fun _ _ _ _ _ _ _ q => q.elim, fun _ _ _ _ _ _ _ q => q.elim, fun σd' σ' C fs d M' H' _ x R' k' q => cx C fs d M' H' x R' k' q⟩
end

section
variable {X : Cx} {W : WX}
/-- f(..) of a def that raises nothing -/
def dCall (sp : SpD) (t : TAD) : TED := fun σ M Q E => t σ M (fun ds M1 => sp ds M1 Q noX) E
theorem lift_call {sp : SpD} {t : TAD} {E : XK} {σ : L2.St} {H : Hp} {Q : VK} (h : lE X.B W (dCall sp t) σ H Q) : tCall (lSp X.B sp) [] E (lA X.B W t) σ H Q := by
  obtain ⟨σd, M, Qd, Ed, S, R, t, c, cx⟩ := h
  exact ⟨σd, M, _, Ed, S, R, t, fun ds vs M1 H1 dvs R1 k1 q => ⟨ds, M1, Qd, by rw [List.append_nil]; exact dvs, R1, q, c.after k1⟩, cx⟩
theorem de_call {k : Nat} {f : Addr} {fd : FuncData} {ps : List Str} {sp : SpD} {x : Str} {p pos : Pos} {e : Expr} {es : List Expr} {t : TAD} (F : FnOk X.prog X.w X.B X.mg X.base CX0 k f fd ps (lSp X.B sp)) (hr : Room k X.A) (hg : Gl X x) (hm : X.mg x = some (.ref f)) (hk : PySem.W.keepIn X.B (.ref f) = true) (hb : Binds X.B fd ps [])
    (ha : PA X (e :: es) (lA X.B W t)) (hdb : (x == ("__debug__" : Str)) = false := by decide) (he : starEach (e :: es) X.env = (false, eval e X.env) :: starEach es X.env := by rfl) (hpl : (backTo pos (starEach es X.env)).any (·.1) = false := by rfl) :
    PE X (.Call (.Name x p) (e :: es) [] pos) (lE X.B W (dCall sp t)) := PE.imp (pe_call (E := E0) F hr hg hm hk hb .nil pass0 ha hdb he hpl) fun _ _ _ h => lift_call h
/-- f(..) of a def that may raise -/
def dCallX (sp : SpD) (t : TAD) : TED := fun σ M Q E => t σ M (fun ds M1 => sp ds M1 Q E) E
theorem de_callX {k : Nat} {f : Addr} {fd : FuncData} {ps : List Str} {sp : SpD} {x : Str} {p pos : Pos} {e : Expr} {es : List Expr} {t : TAD} (F : FnOk X.prog X.w X.B X.mg X.base (L2.CX X.prog X.w) k f fd ps (lSpX X.B sp)) (tk : Takes X W) (hr : Room k X.A) (hg : Gl X x) (hm : X.mg x = some (.ref f)) (hk : PySem.W.keepIn X.B (.ref f) = true) (hb : Binds X.B fd ps [])
    (ha : PA X (e :: es) (lA X.B W t)) (h : PA X (e :: es) (lA X.B W t) → PE X (.Call (.Name x p) (e :: es) [] pos) (tCallS (lSpX X.B sp) (WE W) (lA X.B W t))) :
    PE X (.Call (.Name x p) (e :: es) [] pos) (lE X.B W (dCallX sp t)) := PE.imp (h ha) fun σ H Q ⟨σd, M, Qd, Ed, S, R, t, c, cx⟩ => ⟨σd, M, _, Ed, S, R, t, fun ds vs M1 H1 dvs R1 k1 q => ⟨ds, M1, Qd, Ed, dvs, R1, q, c.after k1, cx.after k1⟩, cx⟩
/-- o.m(..) -/
def dMeth (C : Addr) (m : Str) (sp : SpD) (ta : TED) (t : TAD) : TED := fun σ M Q E => ta σ M (fun d M1 => ∃ a fs, d = .ref a ∧ M1 a = some (.ins C fs) ∧ lookD m fs = none ∧ t σ M1 (fun ds M2 => sp (d :: ds) M2 Q noX) E) E
theorem PR.lookN {K : Bd} {H : Hp} {fs : List (Str × D)} {gs : List (Str × V)} (h : PR K H fs gs) {f : Str} (e : lookD f fs = none) : gs.lookup f = none := by
  induction h with
  | nil => rfl
  | @cons k d' v' ds vs a _ ih =>
    unfold lookD at e
    by_cases hk : f = k
    · rw [if_pos hk] at e; cases e
    · rw [if_neg hk] at e
      have hb : (f == k) = false := beq_eq_false_iff_ne.mpr hk
      simp only [List.lookup, hb]
      exact ih e
theorem lift_meth {C : Addr} {m : Str} {sp : SpD} {ta : TED} {t : TAD} {E : XK} {σ : L2.St} {H : Hp} {Q : VK} (h : lE X.B W (dMeth C m sp ta t) σ H Q) : tMeth C m (lSp X.B sp) [] E (lE X.B W ta) (lA X.B W t) σ H Q := by
  obtain ⟨σd, M, Qd, Ed, S, R, t, c, cx⟩ := h
  refine ⟨σd, M, _, Ed, S, R, t, fun d x M1 H1 dx R1 k1 ⟨a, fs, hd, e, l, q⟩ => ?_, cx⟩
  subst hd; cases dx
  obtain ⟨dx, gs, hu, pr⟩ := R1.ins e
  exact ⟨a, dx, gs, rfl, hu, pr.lookN l, σd, M1, _, Ed, S.mono (k1.tups R), R1, q, fun ds vs M2 H2 dvs R2 k2 q2 => ⟨.ref a :: ds, M2, Qd, by rw [List.append_nil]; exact .cons .ref dvs, R2, q2, c.after (k1.trans k2)⟩, cx.after k1⟩
theorem de_meth {C : Addr} {m : Str} {sp : SpD} {ta : TED} {t : TAD} {e : Expr} (h : PE X e (tMeth C m (lSp X.B sp) [] E0 (lE X.B W ta) (lA X.B W t))) : PE X e (lE X.B W (dMeth C m sp ta t)) := PE.imp h fun _ _ _ h => lift_meth h
theorem lift_meth0 {C : Addr} {m : Str} {sp : SpD} {ta : TED} {E : XK} {σ : L2.St} {H : Hp} {Q : VK} (h : lE X.B W (dMeth C m sp ta dNil) σ H Q) : tMeth C m (lSp X.B sp) [] E (lE X.B W ta) tNil σ H Q := by
  obtain ⟨σd, M, Qd, Ed, S, R, t, c, cx⟩ := h
  refine ⟨σd, M, _, Ed, S, R, t, fun d x M1 H1 dx R1 k1 ⟨a, fs, hd, e, l, q⟩ => ?_, cx⟩
  subst hd; cases dx
  obtain ⟨dx, gs, hu, pr⟩ := R1.ins e
  exact ⟨a, dx, gs, rfl, hu, pr.lookN l, [.ref a], M1, Qd, .cons .ref .nil, R1, q, c.after k1⟩
theorem de_meth0 {C : Addr} {m : Str} {sp : SpD} {ta : TED} {e : Expr} (h : PE X e (tMeth C m (lSp X.B sp) [] E0 (lE X.B W ta) tNil)) : PE X e (lE X.B W (dMeth C m sp ta dNil)) := PE.imp h fun _ _ _ h => lift_meth0 h
/-- C(..) -/
def dMake (C : Addr) (sp : SpD) (t : TAD) : TED := fun σ M Q E => t σ M (fun ds M1 => ∀ x, M1 x = none → sp (.ref x :: ds) (put M1 x (.ins C [])) (fun v M2 => v = .non ∧ Q (.ref x) M2) noX) E
theorem lift_make {C : Addr} {sp : SpD} {t : TAD} {E : XK} {σ : L2.St} {H : Hp} {Q : VK} (h : lE X.B W (dMake C sp t) σ H Q) : tMake C (lSp X.B sp) [] E (lA X.B W t) σ H Q := by
  obtain ⟨σd, M, Qd, Ed, S, R, t, c, cx⟩ := h
  refine ⟨σd, M, _, Ed, S, R, t, fun ds vs M1 H1 dvs R1 k1 q x dx hx hdx ne => ?_, cx⟩
  have hx' : upd H1 dx (.own x) x = none := by rw [upd_ne (Ne.symm ne)]; exact hx
  have R2 := R1.hidden hdx (.own x)
  have k2 := (Keep.hidden R1 hdx (.own x)).trans (.new R2 hx' (.ins C []) (.ins C dx []))
  have t2 := k2.tups R1
  exact ⟨.ref x :: ds, _, _, by rw [List.append_nil]; exact .cons .ref (dvs.mono t2), R2.new hx' (.ofI .nil), q x (R1.free hx), fun d v M3 H3 dv R3 k3 ⟨hd, q3⟩ => by
    subst hd; cases dv
    exact ⟨rfl, c _ _ M3 H3 .ref R3 ((k1.trans k2).trans k3) q3⟩⟩
theorem de_make {C : Addr} {sp : SpD} {t : TAD} {e : Expr} (h : PE X e (tMake C (lSp X.B sp) [] E0 (lA X.B W t))) : PE X e (lE X.B W (dMake C sp t)) := PE.imp h fun _ _ _ h => lift_make h
theorem de_make0 {C : Addr} {sp : SpD} {e : Expr} (h : PE X e (tMake C (lSp X.B sp) [] E0 tNil)) : PE X e (lE X.B W (dMake C sp dNil)) := PE.imp h fun σ H Q h => by
  obtain ⟨σd, M, Qd, Ed, S, R, q, c, cx⟩ := h
  intro x dx hx hdx ne
  have hx' : upd H dx (.own x) x = none := by rw [upd_ne (Ne.symm ne)]; exact hx
  have R2 := R.hidden hdx (.own x)
  have k2 := (Keep.hidden R hdx (.own x)).trans (.new R2 hx' (.ins C []) (.ins C dx []))
  exact ⟨[.ref x], _, _, .cons .ref .nil, R2.new hx' (.ofI .nil), q x (R.free hx), fun d v M3 H3 dv R3 k3 ⟨hd, q3⟩ => by
    subst hd; cases dv
    exact ⟨rfl, c _ _ M3 H3 .ref R3 (k2.trans k3) q3⟩⟩
end
end Dt

set_option Elab.async false
set_option autoImplicit false
set_option linter.all false
set_option maxRecDepth 100000
set_option maxHeartbeats 4000000
/-! DH: slices; enumerate, zip; len, tuple, list, all, int, abs, isinstance. -/
namespace Dt
open PySem PySem.Spec PyProof.Rows L2 LamX

/-! ### enumerate of a list or a tuple -/
/-- the tuple at a, each item in a new pair -/
def ItEt (K : PySem.W.Frag) (a : Addr) : It :=
  ⟨fun i H => ∃ (xs : List V) (x : V), SqT K H a xs ∧ xs[i]? = some x, fun i H v H' => ∃ T x, v = .ref T ∧ H T = none ∧ H' = upd H T (.tup [.int (i : Nat), x]) ∧ ∀ xs, SqT K H a xs → xs[i]? = some x, fun i H => ∃ xs : List V, SqT K H a xs ∧ xs.length ≤ i⟩
theorem turn_enumT {P : Program} {w : World} {K : PySem.W.Frag} {elts : List Expr} {kk : Nat} {tpos : Pos} (a e it : Addr) :
    Turn P w K (.Tuple elts kk tpos) (ItEt K a) [e, it] e (fun i h => (∃ old, IsEnum h e it ((i : Nat) : Int) old) ∧ h.IsTupleIter it a i ∧ e ≠ it ∧ a ≠ it ∧ a ≠ e) where
  mem := by simp
  obj := fun i h st b hb => by
    obtain ⟨⟨old, he⟩, ⟨o, ho, hc, hd⟩, _⟩ := st
    have e' : b = e ∨ b = it := by simpa using hb
    rcases e' with z | z
    · rw [z]; exact ⟨_, he, fun v q => nomatch q⟩
    · rw [z]; exact ⟨o, ho, fun v q => by rw [hd] at q; cases q⟩
  keep := fun i h h' st k => let ⟨⟨old, he⟩, hi, hne⟩ := st; ⟨⟨old, k e (by simp) _ he⟩, hi.at fun o q => k it (by simp) o q, hne⟩
  item := by
    intro X hP hw hK hc i pins s σ H E I hf st hg
    subst hP hw hK
    obtain ⟨⟨old, he⟩, hit, hne, hai, hae⟩ := st
    obtain ⟨xs, x, hq, hx⟩ := hg
    obtain ⟨its, rv, p, hz⟩ := I.tuple hq
    obtain ⟨u, hu, ru⟩ := rv.get hx
    have hel : e < s.heap.objs.size := Heap.lt_size he
    have hil : it < s.heap.objs.size := by obtain ⟨_, q, _⟩ := hit; exact Heap.lt_size q
    have pt : s.heap.IsTuple a its.toArray := p
    have hi : i < its.toArray.size := by
      have := (List.getElem?_eq_some_iff.mp hu).1
      simpa using this
    have D := Draws.tuple (prog := X.prog) (w := X.w) (A := X.A.in1) (show X.A.in1.handled = none from I.ok.hd hc) it a hai its.toArray
    refine wpAny_pyNext_enum_itemD D he ⟨hit, pt⟩ hi hne (by simp [hne, Ne.symm hae]) fun x' h' tk hP' ho hst' hT hsz hk => ?_
    obtain ⟨hit', _⟩ := hst'
    have hxu : x' = u := by
      have q : its.toArray[i]? = some x' := hP'
      rw [List.getElem?_toArray, hu] at q
      exact (Option.some.inj q).symm
    subst hxu
    refine ⟨_, rfl, wpAny_letOwnedTupleGo_enum (s := { s with heap := h', toks := tk + 1 }) ho fun h'' he' sb => ?_⟩
    have hT2 : h''.get? s.heap.objs.size = some { cls := .type "tuple", data := .seq #[.int i tk, x'] } := (sb.2 _ (Nat.ne_of_gt hel)).trans hT
    have new : ObjOk X.prog X.w (upd H s.heap.objs.size (.tup [.int (i : Nat), x])) h'' s.heap.objs.size (.tup [.int (i : Nat), x]) :=
      ⟨by show 2 ≤ sizeLine; decide, [.int i tk, x'], .cons ⟨_, rfl⟩ (.cons ru .nil), ⟨_, hT2, rfl, _, rfl⟩⟩
    have I1 : Inv X pins σ (upd H s.heap.objs.size (.tup [.int (i : Nat), x])) { s with heap := h'', toks := tk + 1 } :=
      I.turnedNew (ch := [e, it]) (fun b ob hb q => (sb.2 b (fun z => hb (by simp [z]))).trans (hk b ob (fun z => hb (by simp [z])) (fun z => hb (by simp [z])) q)) hf (Nat.le_refl _) new
    refine ⟨.ref s.heap.objs.size, _, I1, rfl, ⟨_, x, rfl, I.hok.fresh (Nat.le_refl _), rfl, fun ys hy => by rw [I.tuple_inj hy hq]; exact hx⟩, ⟨⟨x', ?_⟩, hit'.at fun o q => (sb.2 it (Ne.symm hne)).trans q, hne, hai, hae⟩, fun b hb => ?_⟩
    · have e1 : ((i + 1 : Nat) : Int) = (i : Int) + 1 := by omega
      rw [e1]; exact he'
    · have hb' : b < s.heap.objs.size := by
        have e' : b = e ∨ b = it := by simpa using hb
        rcases e' with z | z
        · rw [z]; exact hel
        · rw [z]; exact hil
      rw [upd_ne (Nat.ne_of_lt hb')]
      exact (hf b hb).1
  done := by
    intro X hP hw hK hc i pins s σ H E I hf st hg
    subst hP hw hK
    obtain ⟨⟨old, he⟩, hit, hne, hai, hae⟩ := st
    obtain ⟨xs, hq, hx⟩ := hg
    obtain ⟨its, rv, p, hz⟩ := I.tuple hq
    obtain ⟨f0, f1, f2, f3, f4, f5⟩ := hf it (by simp)
    have hl := rv.length
    have pt : s.heap.IsTuple a its.toArray := p
    have D : Draws X.prog X.w X.A.in1 it [it, a] i (fun _ _ => False) (fun j h => (j = i ∧ h.IsTupleIter it a i ∧ h.IsTuple a its.toArray)) :=
      { live := fun _ _ st => let ⟨o, ho, _⟩ := st.2.1; ⟨o, ho⟩
        frame := fun _ _ _ st hk => ⟨st.1, st.2.1.at fun o e => hk it (by simp) o e, st.2.2.at fun o e => hk a (by simp) o e⟩
        item := fun j s Q E hj st hQ => absurd st.1 (Nat.ne_of_lt hj)
        done := fun s Q E st hE => wpAny_nextOf_tuple_end (show X.A.in1.handled = none from I.ok.hd hc) st.2.1 st.2.2 (by
          rw [List.getElem?_toArray]
          exact List.getElem?_eq_none (by omega)) hE }
    exact wpAny_pyNext_enum_endD D he ⟨rfl, hit, pt⟩ fun h' eb => ⟨rfl, I.turned (t' := s.toks) (fun b o hb q => eb b o hb q) f0 f1 f3 f4 f5⟩
  self := fun A i s Q E st h => let ⟨⟨_, he⟩, _⟩ := st; wpAny_pyIter_enum he h
def iEnumA (K : PySem.W.Frag) (ta : TA) : TI := fun σ H R => ta σ H fun vs H1 => ∃ a, vs = [.ref a] ∧ (((∃ xs, SqL K H1 a xs) ∧ R (Ite K a) H1) ∨ ((∃ xs, SqT K H1 a xs) ∧ R (ItEt K a) H1))
theorem meets_enumB1 {v : Value} {o : Obj} {H : Heap → Prop} (B : Begins v o H) :
    Meets (Builtin.«enumerate.__new__» ⟨[.type "enumerate", v], []⟩) (fun _ R s => H s.heap ∧
      R (.ok (.ret (.ref (s.heap.push o).objs.size))) { s with heap := (s.heap.push o).push { cls := .type "enumerate", data := .fields #[.none, .bool false, .ref s.heap.objs.size, rawInt 0, .none, .none] } }) :=
  .of_wp fun prog w A R s h => by
    obtain ⟨hp, g, d, tk, os⟩ := s; obtain ⟨h1, h⟩ := h
    have hsub := sub_enumerate
    have q1 : ∀ {A' : Around} {E : Value → Shared → Prop} {Q : Value → Shared → Prop}, Q (.ref hp.objs.size) ⟨hp.push o, g, d, tk, os⟩ → wpAny (model prog w) A' (pyIter v) Q E ⟨hp, g, d, tk, os⟩ :=
      fun q => B.iter prog w _ _ ⟨hp, g, d, tk, os⟩ _ h1 q
    wp_walk using q1
    refine wpAny_stack_any fun st => wpAny_pure ?_
    split
    · rename_i c _ _ _ _ _
      cases (c == Value.type "enumerate")
      · wp_walk using q1
        exact ⟨_, rfl, h⟩
      · wp_walk using q1
        exact ⟨_, rfl, h⟩
    · wp_walk using q1
      exact ⟨_, rfl, h⟩
theorem enum_begins1 {prog : Program} {w : World} {A : Around} {E : Value → Shared → Prop} {s : Shared} {v : Value} {o : Obj} {H : Heap → Prop} {Q : Value → Shared → Prop} (B : Begins v o H) (h1 : H s.heap)
    (h : ∀ h', IsEnum h' (s.heap.objs.size + 1) s.heap.objs.size 0 .none → h'.get? s.heap.objs.size = some o → h'.objs.size = s.heap.objs.size + 2 →
      (∀ b o, s.heap.get? b = some o → h'.get? b = some o) → Q (.ref (s.heap.objs.size + 1)) { s with heap := h' }) :
    wpAny (model prog w) A (call (.type "enumerate") [v]) Q E s := by
  refine callType_new F.called_enumerate (by decide) (F.typeCall_enumerate_1 _) (F.newCall_enumerate_1 _) (fun obj => F.args_object_init_2 obj _) F.entry_enumerate_new (meets_enumB1 B) ⟨h1, ?_⟩
  have hz : (s.heap.push o).objs.size = s.heap.objs.size + 1 := Heap.size_push ..
  show _ ∧ _
  rw [hz]
  have he : IsEnum ((s.heap.push o).push { cls := .type "enumerate", data := .fields #[.none, .bool false, .ref s.heap.objs.size, rawInt 0, .none, .none] }) (s.heap.objs.size + 1) s.heap.objs.size 0 .none := by
    have := Heap.get?_push_size (s.heap.push o) (o := { cls := .type "enumerate", data := .fields #[.none, .bool false, .ref s.heap.objs.size, rawInt 0, .none, .none] }) rfl
    rw [hz] at this; exact this
  refine ⟨⟨_, he, rfl⟩, h _ he (Heap.get?_push_of_some _ (Heap.get?_push_size _ B.free)) (by rw [Heap.size_push, hz]) fun b o x => Heap.get?_push_of_some _ (Heap.get?_push_of_some _ x)⟩
theorem pi_enumA {X : Cx} {e : Expr} {ta : TA} {p pos tpos : Pos} {elts : List Expr} {kk : Nat} (hg : Gl X "enumerate") (hm : X.mg "enumerate" = none) (ha : PA X [e] ta) (hs : starEach [e] X.env = [(false, eval e X.env)] := by rfl) :
    PI X (.Tuple elts kk tpos) (.Call (.Name "enumerate" p) [e] [] pos) (iEnumA X.K ta) := by
  refine ⟨fun pins s σ H R I h => ?_⟩
  refine Call_ (ld_blt I hg hm boot_enumerate (PyProof.Rows.callWith_type1 (thn (ha.run pos pins s σ H _ I h) fun us s1 ⟨vs, H1, I1, r1, q1⟩ => ?_) hs rfl))
  obtain ⟨a, ex, q1⟩ := q1
  subst ex
  cases r1 with
  | cons r rr =>
    cases rr
    cases r
    rcases q1 with ⟨⟨xs, hq⟩, q⟩ | ⟨⟨xs, hq⟩, q⟩
    · obtain ⟨its, rv, p', hz⟩ := I1.list hq
      refine call_enumerate_list p'.isList fun h' he hit hsz hk => wpAny_pyIter_enum he ?_
      have I2 : Inv X pins σ H1 { s1 with heap := h' } := I1.kept (t' := s1.toks) hk
      refine ⟨s1.heap.objs.size + 1, [s1.heap.objs.size + 1, s1.heap.objs.size], _, _, H1, rfl, I2, turn_enum a (s1.heap.objs.size + 1) s1.heap.objs.size, ⟨⟨.none, he⟩, hit, Nat.succ_ne_self _⟩, fun b hb => ?_, q⟩
      have e' : b = s1.heap.objs.size + 1 ∨ b = s1.heap.objs.size := by simpa using hb
      have hle : s1.heap.objs.size ≤ b := by
        rcases e' with z | z
        · rw [z]; exact Nat.le_add_right _ _
        · rw [z]; exact Nat.le_refl _
      exact I1.fpOk hle (I1.hok.fresh hle)
    · obtain ⟨its, rv, p', hz⟩ := I1.tuple hq
      have pt : s1.heap.IsTuple a its.toArray := p'
      have hal : a < s1.heap.objs.size := by obtain ⟨_, q, _⟩ := pt; exact Heap.lt_size q
      refine enum_begins1 (begins_tuple a its.toArray) pt fun h' he ho hsz hk => wpAny_pyIter_enum he ?_
      have I2 : Inv X pins σ H1 { s1 with heap := h' } := I1.kept (t' := s1.toks) hk
      refine ⟨s1.heap.objs.size + 1, [s1.heap.objs.size + 1, s1.heap.objs.size], _, _, H1, rfl, I2, turn_enumT a (s1.heap.objs.size + 1) s1.heap.objs.size, ⟨⟨.none, he⟩, ⟨_, ho, rfl, rfl⟩, Nat.succ_ne_self _, Nat.ne_of_lt hal, Nat.ne_of_lt (Nat.lt_succ_of_lt hal)⟩, fun b hb => ?_, q⟩
      have e' : b = s1.heap.objs.size + 1 ∨ b = s1.heap.objs.size := by simpa using hb
      have hle : s1.heap.objs.size ≤ b := by
        rcases e' with z | z
        · rw [z]; exact Nat.le_add_right _ _
        · rw [z]; exact Nat.le_refl _
      exact I1.fpOk hle (I1.hok.fresh hle)
end Dt

set_option Elab.async false
set_option autoImplicit false
set_option linter.all false
set_option maxRecDepth 100000
set_option maxHeartbeats 4000000
/-! DI: enumerate, zip as data; slices; len, tuple, list, all, int, abs, isinstance, min, max. -/
namespace Dt
open PySem PySem.Spec PyProof.Rows L2 LamX RZ

def itE (J : ItD) : ItD := fun i M => match J i M with
  | some (some d) => some (some (.pair [.int (i : Nat), d]))
  | some none => some none
  | none => none
theorem itE_go {J : ItD} {i : Nat} {M : DM} {d : D} (h : itE J i M = some (some d)) : ∃ e, J i M = some (some e) ∧ d = .pair [.int (i : Nat), e] := by
  unfold itE at h
  split at h
  · rename_i e he
    exact ⟨e, he, (Option.some.inj (Option.some.inj h)).symm⟩
  · cases h
  · cases h
theorem itE_stop {J : ItD} {i : Nat} {M : DM} (h : itE J i M = some none) : J i M = some none := by
  unfold itE at h
  split at h
  · cases h
  · rename_i he; exact he
  · cases h
theorem itL_at {a : Addr} {i : Nat} {M : DM} {o : Option D} (h : itL a i M = some o) : ∃ xs, M a = some (.lst xs) ∧ o = xs[i]? := by
  unfold itL at h
  split at h
  · rename_i xs e
    exact ⟨xs, e, (Option.some.inj h).symm⟩
  · cases h
theorem itEL_ok {K : Bd} {H0 : Hp} (a : Addr) : ItOk K H0 (itE (itL a)) (Ite K a) := by
  refine ⟨fun i M H d _ R h => ?_, fun i M H d v H' _ R h y => ?_, fun i M H _ R h => ?_⟩
  · obtain ⟨e, h', rfl⟩ := itE_go h
    obtain ⟨xs, ea, eo⟩ := itL_at h'
    obtain ⟨u, hu, r⟩ := R a _ ea
    cases r with
    | lst hs =>
      obtain ⟨w, hw, _⟩ := hs.get eo.symm
      exact ⟨_, w, .of hu, hw⟩
  · obtain ⟨e, h', rfl⟩ := itE_go h
    obtain ⟨xs, ea, eo⟩ := itL_at h'
    obtain ⟨u, hu, r⟩ := R a _ ea
    cases r with
    | lst hs =>
      obtain ⟨w, hw, dw⟩ := hs.get eo.symm
      obtain ⟨T, x, rfl, hT, rfl, fv⟩ := y
      have := fv _ (.of hu)
      rw [hw] at this; cases this
      exact ⟨R.hidden hT _, .hidden R hT _, .newpair hT (.cons .int (.cons dw .nil))⟩
  · obtain ⟨xs, ea, eo⟩ := itL_at (itE_stop h)
    obtain ⟨u, hu, r⟩ := R a _ ea
    cases r with
    | lst hs =>
      refine ⟨_, .of hu, ?_⟩
      rw [← hs.length]
      exact List.getElem?_eq_none_iff.mp eo.symm
theorem itET_ok {K : Bd} {H0 : Hp} {a : Addr} {o : Obj} {ds : List D} {vs : List V} (s : H0 a = some (.frz o (.tup vs))) (hs : DVs K H0 ds vs) : ItOk K H0 (itE (itT ds)) (ItEt K a) := by
  refine ⟨fun i M H d tp R h => ?_, fun i M H d v H' tp R h y => ?_, fun i M H tp R h => ?_⟩
  · obtain ⟨e, h', rfl⟩ := itE_go h
    obtain ⟨w, hw, _⟩ := hs.get (Option.some.inj h')
    exact ⟨_, w, sqF tp s, hw⟩
  · obtain ⟨e, h', rfl⟩ := itE_go h
    obtain ⟨w, hw, dw⟩ := hs.get (Option.some.inj h')
    obtain ⟨T, x, rfl, hT, rfl, fv⟩ := y
    have := fv _ (sqF tp s)
    rw [hw] at this; cases this
    exact ⟨R.hidden hT _, .hidden R hT _, .newpair hT (.cons .int (.cons (dw.mono tp) .nil))⟩
  · refine ⟨_, sqF tp s, ?_⟩
    rw [← hs.length]
    exact List.getElem?_eq_none_iff.mp (Option.some.inj (itE_stop h))
def diEnum (ta : TAD) : TID := fun σ M R E => ta σ M (fun ds M1 => match ds with
  | [.tup xs] => R (itE (itT xs)) M1
  | [.ref a] => (∃ xs, M1 a = some (.lst xs)) ∧ R (itE (itL a)) M1
  | _ => False) E
theorem di_enum {X : Cx} {W : WX} {tg e : Expr} {ta : TAD} (h : PI X tg e (iEnumA X.B (lA X.B W ta))) : PI X tg e (lI X.B W (diEnum ta)) :=
  PI.imp h fun σ H Q ⟨σd, M, Qd, E, S, R, t, c, cx⟩ => ⟨σd, M, _, E, S, R, t, fun ds vs M1 H1 dvs R1 k1 q1 => by
    cases dvs with
    | nil => exact q1.elim
    | cons a b =>
      cases b with
      | nil =>
        cases a with
        | tup s1 _ h1 => exact ⟨_, rfl, .inr ⟨⟨_, sqF .refl s1⟩, c _ _ M1 H1 (itET_ok s1 h1) R1 k1 q1⟩⟩
        | ref =>
          obtain ⟨⟨xs, e⟩, q1⟩ := q1
          obtain ⟨u, hu, r⟩ := R1 _ _ e
          cases r with
          | lst hs => exact ⟨_, rfl, .inl ⟨⟨_, .of hu⟩, c _ _ M1 H1 (itEL_ok _) R1 k1 q1⟩⟩
        | _ => exact q1.elim
      | cons => cases a <;> exact q1.elim, cx⟩
/-! ### zip -/
def itZ (J J2 : ItD) : ItD := fun i M => match J i M, J2 i M with
  | some (some d), some (some e) => some (some (.pair [d, e]))
  | some none, some _ => some none
  | some _, some none => some none
  | _, _ => none
theorem itZ_go {J J2 : ItD} {i : Nat} {M : DM} {d : D} (h : itZ J J2 i M = some (some d)) : ∃ e f, J i M = some (some e) ∧ J2 i M = some (some f) ∧ d = .pair [e, f] := by
  unfold itZ at h
  split at h
  · rename_i e f h1 h2
    exact ⟨e, f, h1, h2, (Option.some.inj (Option.some.inj h)).symm⟩
  · cases h
  · cases h
  · cases h
theorem itZ_stop {J J2 : ItD} {i : Nat} {M : DM} (h : itZ J J2 i M = some none) : (∃ o o2, J i M = some o ∧ J2 i M = some o2) ∧ (J i M = some none ∨ J2 i M = some none) := by
  unfold itZ at h
  split at h
  · cases h
  · rename_i h1 h2; exact ⟨⟨_, _, h1, h2⟩, .inl h1⟩
  · rename_i h1 h2; exact ⟨⟨_, _, h1, h2⟩, .inr h2⟩
  · cases h
theorem itZL_ok {K : Bd} {H0 : Hp} (a b : Addr) : ItOk K H0 (itZ (itL a) (itL b)) (Itz K a b) := by
  refine ⟨fun i M H d _ R h => ?_, fun i M H d v H' _ R h y => ?_, fun i M H _ R h => ?_⟩
  · obtain ⟨e, f, h1, h2, rfl⟩ := itZ_go h
    obtain ⟨xs, ea, eo⟩ := itL_at h1
    obtain ⟨ys, eb, eo2⟩ := itL_at h2
    obtain ⟨u, hu, r⟩ := R a _ ea
    obtain ⟨u2, hu2, r2⟩ := R b _ eb
    cases r with
    | lst hs =>
      cases r2 with
      | lst hs2 =>
        obtain ⟨w, hw, _⟩ := hs.get eo.symm
        obtain ⟨w2, hw2, _⟩ := hs2.get eo2.symm
        exact ⟨_, _, w, w2, .of hu, .of hu2, hw, hw2⟩
  · obtain ⟨e, f, h1, h2, rfl⟩ := itZ_go h
    obtain ⟨xs, ea, eo⟩ := itL_at h1
    obtain ⟨ys, eb, eo2⟩ := itL_at h2
    obtain ⟨u, hu, r⟩ := R a _ ea
    obtain ⟨u2, hu2, r2⟩ := R b _ eb
    cases r with
    | lst hs =>
      cases r2 with
      | lst hs2 =>
        obtain ⟨w, hw, dw⟩ := hs.get eo.symm
        obtain ⟨w2, hw2, dw2⟩ := hs2.get eo2.symm
        obtain ⟨T, x, y', rfl, hT, rfl, fv, fv2⟩ := y
        have := fv _ (.of hu)
        rw [hw] at this; cases this
        have := fv2 _ (.of hu2)
        rw [hw2] at this; cases this
        exact ⟨R.hidden hT _, .hidden R hT _, .newpair hT (.cons dw (.cons dw2 .nil))⟩
  · obtain ⟨⟨o, o2, h1, h2⟩, hs⟩ := itZ_stop h
    obtain ⟨xs, ea, eo⟩ := itL_at h1
    obtain ⟨ys, eb, eo2⟩ := itL_at h2
    obtain ⟨u, hu, r⟩ := R a _ ea
    obtain ⟨u2, hu2, r2⟩ := R b _ eb
    cases r with
    | lst hs1 =>
      cases r2 with
      | lst hs2 =>
        refine ⟨_, _, .of hu, .of hu2, ?_⟩
        rw [← hs1.length, ← hs2.length]
        rcases hs with hs | hs
        · rw [h1] at hs; cases hs; exact .inl (List.getElem?_eq_none_iff.mp eo.symm)
        · rw [h2] at hs; cases hs; exact .inr (List.getElem?_eq_none_iff.mp eo2.symm)
theorem itZT_ok {K : Bd} {H0 : Hp} {a b : Addr} {o o2 : Obj} {ds es : List D} {vs ws : List V} (s : H0 a = some (.frz o (.tup vs))) (hs : DVs K H0 ds vs) (s2 : H0 b = some (.frz o2 (.tup ws))) (hs2 : DVs K H0 es ws) : ItOk K H0 (itZ (itT ds) (itT es)) (ItzT K a b) := by
  refine ⟨fun i M H d tp R h => ?_, fun i M H d v H' tp R h y => ?_, fun i M H tp R h => ?_⟩
  · obtain ⟨e, f, h1, h2, rfl⟩ := itZ_go h
    obtain ⟨w, hw, _⟩ := hs.get (Option.some.inj h1)
    obtain ⟨w2, hw2, _⟩ := hs2.get (Option.some.inj h2)
    exact ⟨_, _, w, w2, sqF tp s, sqF tp s2, hw, hw2⟩
  · obtain ⟨e, f, h1, h2, rfl⟩ := itZ_go h
    obtain ⟨w, hw, dw⟩ := hs.get (Option.some.inj h1)
    obtain ⟨w2, hw2, dw2⟩ := hs2.get (Option.some.inj h2)
    obtain ⟨T, x, y', rfl, hT, rfl, fv, fv2⟩ := y
    have := fv _ (sqF tp s)
    rw [hw] at this; cases this
    have := fv2 _ (sqF tp s2)
    rw [hw2] at this; cases this
    exact ⟨R.hidden hT _, .hidden R hT _, .newpair hT (.cons (dw.mono tp) (.cons (dw2.mono tp) .nil))⟩
  · obtain ⟨⟨o, o2, h1, h2⟩, hz⟩ := itZ_stop h
    refine ⟨_, _, sqF tp s, sqF tp s2, ?_⟩
    rw [← hs.length, ← hs2.length]
    rcases hz with hz | hz
    · exact .inl (List.getElem?_eq_none_iff.mp (Option.some.inj hz))
    · exact .inr (List.getElem?_eq_none_iff.mp (Option.some.inj hz))
def diZip (ta : TAD) : TID := fun σ M R E => ta σ M (fun ds M1 => match ds with
  | [.tup xs, .tup ys] => R (itZ (itT xs) (itT ys)) M1
  | [.ref a, .ref b] => (∃ xs ys, M1 a = some (.lst xs) ∧ M1 b = some (.lst ys)) ∧ R (itZ (itL a) (itL b)) M1
  | _ => False) E
theorem di_zip {X : Cx} {W : WX} {tg e : Expr} {ta : TAD} (h : PI X tg e (iZipA X.B (lA X.B W ta))) : PI X tg e (lI X.B W (diZip ta)) :=
  PI.imp h fun σ H Q ⟨σd, M, Qd, E, S, R, t, c, cx⟩ => ⟨σd, M, _, E, S, R, t, fun ds vs M1 H1 dvs R1 k1 q1 => by
    cases dvs with
    | nil => exact q1.elim
    | cons a b =>
      cases b with
      | nil => cases a <;> exact q1.elim
      | cons a2 b2 =>
        cases b2 with
        | cons => cases a <;> cases a2 <;> exact q1.elim
        | nil =>
          cases a with
          | tup s1 _ h1 =>
            cases a2 with
            | tup s2 _ h2 => exact ⟨_, _, _, _, rfl, .inr ⟨sqF .refl s1, sqF .refl s2, c _ _ M1 H1 (itZT_ok s1 h1 s2 h2) R1 k1 q1⟩⟩
            | _ => exact q1.elim
          | ref =>
            cases a2 with
            | ref =>
              obtain ⟨⟨xs, ys, e, e2⟩, q1⟩ := q1
              obtain ⟨u, hu, r⟩ := R1 _ _ e
              obtain ⟨u2, hu2, r2⟩ := R1 _ _ e2
              cases r with
              | lst hs =>
                cases r2 with
                | lst hs2 => exact ⟨_, _, _, _, rfl, .inl ⟨.of hu, .of hu2, c _ _ M1 H1 (itZL_ok _ _) R1 k1 q1⟩⟩
            | _ => exact q1.elim
          | _ => cases a2 <;> exact q1.elim, cx⟩

section
variable {X : Cx} {W : WX}
/-! ### slices -/
theorem sl_all : SlR X (rSlAll X.B) := (sl_list.or sl_tupF).or sl_str
theorem de_sl {e : Expr} {lo hi : Option Expr} {te : TED} {tl th : TOD} {pos p2 : Pos} (he : PE X e (lE X.B W te)) (hl : PO X lo (lO X.B W tl)) (hu : PO X hi (lO X.B W th)) : PE X (.Subscript e (.Slice lo hi none p2) pos) (lE X.B W (dSl te tl th)) :=
  PE.imp (pe_slice sl_all he hl hu) fun σ H Q ⟨σd, M, Qd, E, S, R, t, c, cx⟩ => ⟨σd, M, _, E, S, R, t, fun d v M1 H1 dv R1 k1 q1 => ⟨σd, M1, _, E, S.mono (k1.tups R), R1, q1, fun l M2 H2 R2 k2 q2 =>
    ⟨σd, M2, _, E, (S.mono (k1.tups R)).mono (k2.tups R1), R2, q2, fun u M3 H3 R3 k3 q3 => by
      have k := (k1.trans k2).trans k3
      have dv3 := (dv.mono (k2.tups R1)).mono (k3.tups R2)
      cases dv3 with
      | @tup a o ds vs s1 n1 h1 =>
        refine .inl (.inr ⟨a, vs, rfl, sqF .refl s1, fun hw => ?_, fun hw p o' hp hn => ?_⟩)
        · have q : Qd (.tup (cutD ds l u)) M3 := q3
          rw [cutD_whole (by rw [h1.length]; exact hw)] at q
          exact c _ _ M3 H3 (.tup s1 n1 h1) R3 k q
        · exact c _ _ M3 _ (.newtup hp hn (h1.cut l u)) (R3.hidden hp _) (k.trans (.hidden R3 hp _)) q3
      | ref =>
        obtain ⟨xs, e, q3⟩ := q3
        obtain ⟨w, hw, r⟩ := R3 _ _ e
        cases r with
        | lst hs => exact .inl (.inl ⟨_, _, rfl, .of hw, fun p hp => c _ _ _ _ .ref (R3.new hp (.lst (hs.cut l u))) (k.trans (.new R3 hp _ _)) (q3 p (R3.free hp))⟩)
      | scr s hs =>
        exact .inl (.inl ⟨_, _, rfl, s.l, fun p hp => c _ _ _ _ .ref (R3.new hp (.lst (hs.cut l u))) (k.trans (.new R3 hp _ _)) (q3 p (R3.free hp))⟩)
      | str =>
        obtain ⟨hl, q3⟩ := q3
        exact .inr ⟨_, rfl, hl, c _ _ M3 H3 .str R3 k q3⟩
      | _ => exact q3.elim, (cx.after k1).after k2⟩, cx.after k1⟩, cx⟩

/-! ### len, tuple, list, all, int, abs -/
def lenD : RLD := fun ds M Q => match ds with
  | [.tup xs] => Q (.int xs.length) M
  | [.str z] => z.length ≤ sizeLine ∧ Q (.int z.length) M
  | [.scr xs] => Q (.int xs.length) M
  | [.ref a] => (∃ xs, M a = some (.lst xs) ∧ Q (.int xs.length) M) ∨ ∃ kvs, M a = some (.dT kvs) ∧ Q (.int (kvs.length : Nat)) M
  | _ => False
def rLenTD (X : Cx) : List V → Hp → VK → Prop := fun xs H Q => ∃ (p : Addr) (kvs : List (NestedKey × Addr × Value)), xs = [.ref p] ∧ H p = some (tdO X.prog X.w p kvs) ∧ (∀ x ∈ kvs, DV X.B H (nkD x.1) (.ref x.2.1) ∧ x.1.depth ≤ 8) ∧ Q (.int ((kvs.length : Nat) : Int)) H
theorem call_lenTD : CallR X (.builtin "len") (rLenTD X) := by
  intro pins s σ H xs us Q I r h
  obtain ⟨p, kvs, rfl, hp, hk, q⟩ := h
  obtain ⟨u, rfl, rx⟩ := r.one
  cases rx
  obtain ⟨z, hd, dd⟩ := td_dict I hp hk
  exact call_len_dictH hd dd (by rw [sizeLine_eq] at z; omega) ⟨.int _, H, I.tok _, ⟨_, rfl⟩, q⟩
def rLenA (X : Cx) : List V → Hp → VK → Prop := fun xs H Q => (∃ x n, xs = [x] ∧ LenV X.K x H n ∧ Q (.int n) H) ∨ rLenTD X xs H Q
theorem call_lenA : CallR X (.builtin "len") (rLenA X) := call_len.or call_lenTD
theorem c_len : CaD X (rLenA X) lenD := fun ds vs M H Qd Q dvs R h c => by
  cases dvs with
  | nil => exact h.elim
  | cons a b =>
    cases b with
    | cons => cases a <;> exact h.elim
    | nil =>
      cases a with
      | tup s1 _ h1 =>
        refine .inl ⟨_, _, rfl, .inr ⟨_, sqF .refl s1, rfl⟩, ?_⟩
        rw [← h1.length]
        exact c.now R .int h
      | str => exact .inl ⟨_, _, rfl, ⟨h.1, rfl⟩, c.now R .int h.2⟩
      | scr s1 hs =>
        refine .inl ⟨_, _, rfl, .inl ⟨_, s1.l, rfl⟩, ?_⟩
        rw [← hs.length]
        exact c.now R .int h
      | ref =>
        rcases h with ⟨xs, e, h⟩ | ⟨kvs, e, h⟩
        · obtain ⟨u, hu, r⟩ := R _ _ e
          cases r with
          | lst hs =>
            refine .inl ⟨_, _, rfl, .inl ⟨_, .of hu, rfl⟩, ?_⟩
            rw [← hs.length]
            exact c.now R .int h
        · obtain ⟨u, hu, r⟩ := R _ _ e
          cases r with
          | @dT _ xs t =>
            refine .inr ⟨_, xs, rfl, hu, t.keys, ?_⟩
            rw [← t.length]
            exact c.now R .int h
      | _ => exact h.elim
def tupD : RLD := fun ds M Q => match ds with
  | [.tup xs] => Q (.tup xs) M
  | [.ref a] => ∃ xs, M a = some (.lst xs) ∧ Q (.tup xs) M
  | _ => False
theorem c_tup : CaD X (fun xs H Q => ∃ p ys, xs = [.ref p] ∧ ((SqL X.B H p ys ∧ ∀ l o, H l = none → o.dict = none → Q (.ref l) (upd H l (.frz o (.tup ys)))) ∨ (SqT X.B H p ys ∧ Q (.ref p) H))) tupD := fun ds vs M H Qd Q dvs R h c => by
  cases dvs with
  | nil => exact h.elim
  | cons a b =>
    cases b with
    | cons => cases a <;> exact h.elim
    | nil =>
      cases a with
      | tup s1 n1 h1 => exact ⟨_, _, rfl, .inr ⟨sqF .refl s1, c.now R (.tup s1 n1 h1) h⟩⟩
      | ref =>
        obtain ⟨xs, e, h⟩ := h
        obtain ⟨u, hu, r⟩ := R _ _ e
        cases r with
        | lst hs => exact ⟨_, _, rfl, .inl ⟨.of hu, fun p o hp hn => c _ _ M _ (.newtup hp hn hs) (R.hidden hp _) (.hidden R hp _) h⟩⟩
      | _ => exact h.elim
def lstD : RLD := fun ds M Q => match ds with
  | [.tup xs] => ∀ p, M p = none → Q (.ref p) (put M p (.lst xs))
  | [.ref a] => ∃ xs, M a = some (.lst xs) ∧ ∀ p, M p = none → Q (.ref p) (put M p (.lst xs))
  | _ => False
theorem c_lst : CaD X (fun xs H Q => ∃ p ys, xs = [.ref p] ∧ (SqL X.B H p ys ∨ SqT X.B H p ys) ∧ ∀ l, H l = none → Q (.ref l) (upd H l (.lst ys))) lstD := fun ds vs M H Qd Q dvs R h c => by
  cases dvs with
  | nil => exact h.elim
  | cons a b =>
    cases b with
    | cons => cases a <;> exact h.elim
    | nil =>
      cases a with
      | tup s1 _ h1 => exact ⟨_, _, rfl, .inr (sqF .refl s1), fun p hp => c _ _ _ _ .ref (R.new hp (.lst h1)) (.new R hp _ _) (h p (R.free hp))⟩
      | ref =>
        obtain ⟨xs, e, h⟩ := h
        obtain ⟨u, hu, r⟩ := R _ _ e
        cases r with
        | lst hs => exact ⟨_, _, rfl, .inl (.of hu), fun p hp => c _ _ _ _ .ref (R.new hp (.lst hs)) (.new R hp _ _) (h p (R.free hp))⟩
      | _ => exact h.elim
theorem DVs.bools {K : Bd} {H : Hp} : ∀ {bs : List Bool} {vs : List V}, DVs K H (bs.map .bl) vs → vs = bs.map .bl
  | [], _, .nil => rfl
  | b :: bs, _, .cons .bl t => by rw [DVs.bools t]; rfl
theorem DVs.ints {K : Bd} {H : Hp} : ∀ {bs : List Int} {vs : List V}, DVs K H (bs.map .int) vs → vs = bs.map .int
  | [], _, .nil => rfl
  | b :: bs, _, .cons .int t => by rw [DVs.ints t]; rfl
theorem DVs.strs {K : Bd} {H : Hp} : ∀ {bs : List Str} {vs : List V}, DVs K H (bs.map .str) vs → vs = bs.map .str
  | [], _, .nil => rfl
  | b :: bs, _, .cons .str t => by rw [DVs.strs t]; rfl
def allD : RLD := fun ds M Q => match ds with
  | [.ref a] => ∃ bs : List Bool, M a = some (.lst (bs.map .bl)) ∧ Q (.bl (bs.all id)) M
  | _ => False
theorem c_all : CaD X (rAll X.B) allD := fun ds vs M H Qd Q dvs R h c => by
  cases dvs with
  | nil => exact h.elim
  | cons a b =>
    cases b with
    | cons => cases a <;> exact h.elim
    | nil =>
      cases a with
      | ref =>
        obtain ⟨bs, e, h⟩ := h
        obtain ⟨u, hu, r⟩ := R _ _ e
        cases r with
        | lst hs =>
          refine ⟨_, bs, rfl, ?_, c.now R .bl h⟩
          rw [← hs.bools]
          exact .of hu
      | _ => exact h.elim
def anyD : RLD := fun ds M Q => match ds with
  | [.ref a] => ∃ bs : List Bool, M a = some (.lst (bs.map .bl)) ∧ Q (.bl (bs.any id)) M
  | _ => False
theorem c_any : CaD X (rAny X.B) anyD := fun ds vs M H Qd Q dvs R h c => by
  cases dvs with
  | nil => exact h.elim
  | cons a b =>
    cases b with
    | cons => cases a <;> exact h.elim
    | nil =>
      cases a with
      | ref =>
        obtain ⟨bs, e, h⟩ := h
        obtain ⟨u, hu, r⟩ := R _ _ e
        cases r with
        | lst hs =>
          refine ⟨_, bs, rfl, ?_, c.now R .bl h⟩
          rw [← hs.bools]
          exact .of hu
      | _ => exact h.elim
def intD : RLD := fun ds M Q => match ds with
  | [.int i] => Q (.int i) M
  | [.bl k] => Q (.int (if k then 1 else 0)) M
  | _ => False
theorem c_int : CaD X (fun xs H Q => (∃ i, xs = [.int i] ∧ Q (.int i) H) ∨ ∃ k, xs = [.bl k] ∧ Q (.int (if k then 1 else 0)) H) intD := fun ds vs M H Qd Q dvs R h c => by
  cases dvs with
  | nil => exact h.elim
  | cons a b =>
    cases b with
    | cons => cases a <;> exact h.elim
    | nil =>
      cases a with
      | int => exact .inl ⟨_, rfl, c.now R .int h⟩
      | bl => exact .inr ⟨_, rfl, c.now R .int h⟩
      | _ => exact h.elim
def absD : RLD := fun ds M Q => match ds with
  | [.int i] => Q (.int (if i < 0 then -i else i)) M
  | _ => False
theorem c_abs : CaD X (fun xs H Q => ∃ i, xs = [.int i] ∧ Q (.int (if i < 0 then -i else i)) H) absD := fun ds vs M H Qd Q dvs R h c => by
  cases dvs with
  | nil => exact h.elim
  | cons a b =>
    cases b with
    | cons => cases a <;> exact h.elim
    | nil =>
      cases a with
      | int => exact ⟨_, rfl, c.now R .int h⟩
      | _ => exact h.elim
end
end Dt

set_option Elab.async false
set_option autoImplicit false
set_option linter.all false
set_option maxRecDepth 100000
set_option maxHeartbeats 4000000
/-! DJ: min, max, sorted. -/
namespace Dt
open PySem PySem.Spec PyProof.Rows L2 LamX RZ

/-! ### min, max of two texts -/
section
variable {prog : Program} {w : World} {A : Around} {E : Value → Shared → Prop} {s : Shared}
def two (a b : Str) (t u : Tok) : Array Value := #[.str a t, .str b u]
def txt (a b : Str) : Nat → Str
  | 0 => a
  | _ => b
theorem two_at {a b : Str} {t u : Tok} {i : Nat} {v : Value} (h : (two a b t u)[i]? = some v) : ∃ k, v = .str (txt a b i) k := by
  match i with
  | 0 => exact ⟨t, (Option.some.inj (show some (Value.str a t) = some v from h)).symm⟩
  | 1 => exact ⟨u, (Option.some.inj (show some (Value.str b u) = some v from h)).symm⟩
  | n + 2 => simp [two] at h
theorem low_new {h : Heap} {o o2 : Obj} {c : Addr} (hc : c ∈ [(h.push o).objs.size, h.objs.size]) : c < ((h.push o).push o2).objs.size := by
  rw [Heap.size_push, Heap.size_push] at *
  rcases List.mem_cons.mp hc with rfl | hc
  · exact Nat.lt_succ_self _
  · rcases List.mem_cons.mp hc with rfl | hc
    · exact Nat.lt_succ_of_lt (Nat.lt_succ_self _)
    · cases hc
theorem old_new {h h' : Heap} {o o2 : Obj} (hk : ∀ b u, b ∉ [(h.push o).objs.size] → ((h.push o).push o2).get? b = some u → h'.get? b = some u) : ∀ c u, h.get? c = some u → h'.get? c = some u := fun c u e => by
  refine hk c u (fun hm => ?_) (Heap.get?_push_of_some _ (Heap.get?_push_of_some _ e))
  rcases List.mem_cons.mp hm with e1 | hm
  · have := Heap.lt_size e
    rw [e1, Heap.size_push] at this
    exact Nat.lt_irrefl _ (Nat.lt_of_succ_lt this)
  · cases hm
theorem min_two_strs {a b : Str} {t u : Tok} {Q : Value → Shared → Prop} (hh : A.handled = none)
    (h : ∀ h' tk, (∀ c o, s.heap.get? c = some o → h'.get? c = some o) → Q (if b.cps.toList < a.cps.toList then .str b u else .str a t) { s with heap := h', toks := tk }) :
    wpAny (model prog w) A (call (.builtin "min") [.str a t, .str b u]) Q E s := by
  have hT : (s.heap.push { cls := .type "tuple", data := .seq #[.str a t, .str b u] }).IsTuple s.heap.objs.size (two a b t u) := ⟨_, Heap.get?_push_size _ rfl, rfl, 0, rfl⟩
  refine call_min_two (wpAny_pyIter_tuple hT ?_)
  have hsz : (s.heap.push { cls := .type "tuple", data := .seq #[.str a t, .str b u] }).objs.size = s.heap.objs.size + 1 := Heap.size_push ..
  refine ⟨_, [_, s.heap.objs.size], [_], _, _, _, fun i j => decide ((txt a b i).cps.toList < (txt a b j).cps.toList), rfl, Walks.tuple (A := A.in1) hh _ s.heap.objs.size (by rw [hsz]; exact Nat.ne_of_lt (Nat.lt_succ_self _)) (two a b t u),
    ⟨⟨_, Heap.get?_push_size _ rfl, rfl, rfl⟩, hT.push _⟩, fun c hc => low_new hc, by simp [two], ?_, fun v h' tk hP hk => ?_⟩
  · intro i j vi vj s' Q' E' hi hj hq
    obtain ⟨k, rfl⟩ := two_at hi
    obtain ⟨k', rfl⟩ := two_at hj
    exact PyProof.Rows.lt_str hq
  · have q := h h' tk (old_new hk)
    have hv : v = if b.cps.toList < a.cps.toList then Value.str b u else Value.str a t := by
      have hP' : (two a b t u)[argBest (fun i j => decide ((txt a b i).cps.toList < (txt a b j).cps.toList)) 1]? = some v := hP
      by_cases hb : b.cps.toList < a.cps.toList
      · rw [if_pos hb]
        have e : argBest (fun i j => decide ((txt a b i).cps.toList < (txt a b j).cps.toList)) 1 = 1 := by
          simp [argBest, txt, hb]
        rw [e] at hP'
        exact (Option.some.inj (show some (Value.str b u) = some v from hP')).symm
      · rw [if_neg hb]
        have e : argBest (fun i j => decide ((txt a b i).cps.toList < (txt a b j).cps.toList)) 1 = 0 := by
          simp [argBest, txt, hb]
        rw [e] at hP'
        exact (Option.some.inj (show some (Value.str a t) = some v from hP')).symm
    rw [hv]
    exact q
theorem max_two_strs {a b : Str} {t u : Tok} {Q : Value → Shared → Prop} (hh : A.handled = none)
    (h : ∀ h' tk, (∀ c o, s.heap.get? c = some o → h'.get? c = some o) → Q (if a.cps.toList < b.cps.toList then .str b u else .str a t) { s with heap := h', toks := tk }) :
    wpAny (model prog w) A (call (.builtin "max") [.str a t, .str b u]) Q E s := by
  have hT : (s.heap.push { cls := .type "tuple", data := .seq #[.str a t, .str b u] }).IsTuple s.heap.objs.size (two a b t u) := ⟨_, Heap.get?_push_size _ rfl, rfl, 0, rfl⟩
  refine call_max_two (wpAny_pyIter_tuple hT ?_)
  have hsz : (s.heap.push { cls := .type "tuple", data := .seq #[.str a t, .str b u] }).objs.size = s.heap.objs.size + 1 := Heap.size_push ..
  refine ⟨_, [_, s.heap.objs.size], [_], _, _, _, fun i j => decide ((txt a b j).cps.toList < (txt a b i).cps.toList), rfl, Walks.tuple (A := A.in1) hh _ s.heap.objs.size (by rw [hsz]; exact Nat.ne_of_lt (Nat.lt_succ_self _)) (two a b t u),
    ⟨⟨_, Heap.get?_push_size _ rfl, rfl, rfl⟩, hT.push _⟩, fun c hc => low_new hc, by simp [two], ?_, fun v h' tk hP hk => ?_⟩
  · intro i j vi vj s' Q' E' hi hj hq
    obtain ⟨k, rfl⟩ := two_at hi
    obtain ⟨k', rfl⟩ := two_at hj
    exact PySem.P.gt_str hq
  · have q := h h' tk (old_new hk)
    have hv : v = if a.cps.toList < b.cps.toList then Value.str b u else Value.str a t := by
      have hP' : (two a b t u)[argBest (fun i j => decide ((txt a b j).cps.toList < (txt a b i).cps.toList)) 1]? = some v := hP
      by_cases hb : a.cps.toList < b.cps.toList
      · rw [if_pos hb]
        have e : argBest (fun i j => decide ((txt a b j).cps.toList < (txt a b i).cps.toList)) 1 = 1 := by
          simp [argBest, txt, hb]
        rw [e] at hP'
        exact (Option.some.inj (show some (Value.str b u) = some v from hP')).symm
      · rw [if_neg hb]
        have e : argBest (fun i j => decide ((txt a b j).cps.toList < (txt a b i).cps.toList)) 1 = 0 := by
          simp [argBest, txt, hb]
        rw [e] at hP'
        exact (Option.some.inj (show some (Value.str a t) = some v from hP')).symm
    rw [hv]
    exact q
end
abbrev sLt (a b : Str) : Prop := a.cps.toList < b.cps.toList
def minS (a b : Str) : Str := if sLt b a then b else a
def maxS (a b : Str) : Str := if sLt a b then b else a
def rMin2 : List V → Hp → VK → Prop := fun xs H Q => (∃ a b, xs = [.str a, .str b] ∧ Q (.str (minS a b)) H) ∨ (∃ i j, xs = [.int i, .int j] ∧ Q (.int (if j < i then j else i)) H)
def rMax2' : List V → Hp → VK → Prop := fun xs H Q => (∃ a b, xs = [.str a, .str b] ∧ Q (.str (maxS a b)) H) ∨ (∃ i j, xs = [.int i, .int j] ∧ Q (.int (if j > i then j else i)) H)
section
variable {X : Cx}
theorem call_minS (hc : X.calm = true) : CallR X (.builtin "min") (fun xs H Q => ∃ a b, xs = [.str a, .str b] ∧ Q (.str (minS a b)) H) := by
  intro pins s σ H xs us Q I r h
  obtain ⟨i, j, rfl, q⟩ := h
  obtain ⟨u, w', rfl, ⟨t, rfl⟩, ⟨t', rfl⟩⟩ := vals2 r
  refine min_two_strs (I.ok.hd hc) fun h' tk k => ⟨_, H, I.kept k, ?_, q⟩
  unfold minS sLt
  by_cases hj : j.cps.toList < i.cps.toList
  · rw [if_pos hj, if_pos hj]; exact ⟨_, rfl⟩
  · rw [if_neg hj, if_neg hj]; exact ⟨_, rfl⟩
theorem call_maxS (hc : X.calm = true) : CallR X (.builtin "max") (fun xs H Q => ∃ a b, xs = [.str a, .str b] ∧ Q (.str (maxS a b)) H) := by
  intro pins s σ H xs us Q I r h
  obtain ⟨i, j, rfl, q⟩ := h
  obtain ⟨u, w', rfl, ⟨t, rfl⟩, ⟨t', rfl⟩⟩ := vals2 r
  refine max_two_strs (I.ok.hd hc) fun h' tk k => ⟨_, H, I.kept k, ?_, q⟩
  unfold maxS sLt
  by_cases hj : i.cps.toList < j.cps.toList
  · rw [if_pos hj, if_pos hj]; exact ⟨_, rfl⟩
  · rw [if_neg hj, if_neg hj]; exact ⟨_, rfl⟩
theorem call_min2A (hc : X.calm = true) : CallR X (.builtin "min") rMin2 := (call_minS hc).or (call_min2 hc)
theorem call_max2A (hc : X.calm = true) : CallR X (.builtin "max") rMax2' := (call_maxS hc).or (call_max2 hc)
def min2D : RLD := fun ds M Q => match ds with
  | [.str a, .str b] => Q (.str (minS a b)) M
  | [.int i, .int j] => Q (.int (if j < i then j else i)) M
  | _ => False
def max2D : RLD := fun ds M Q => match ds with
  | [.str a, .str b] => Q (.str (maxS a b)) M
  | [.int i, .int j] => Q (.int (if j > i then j else i)) M
  | _ => False
theorem DVs.cases2 {K : Bd} {H : Hp} {ds : List D} {vs : List V} (h : DVs K H ds vs) {P : Prop} (p : ∀ d e v w, ds = [d, e] → vs = [v, w] → DV K H d v → DV K H e w → P) (n : (∀ d e, ds ≠ [d, e]) → P) : P := by
  match ds, vs, h with
  | [], [], _ => exact n fun _ _ z => nomatch z
  | [_], [_], _ => exact n fun _ _ z => nomatch z
  | [d, e], [v, w], .cons a (.cons b .nil) => exact p d e v w rfl rfl a b
  | _ :: _ :: _ :: _, _, _ => exact n fun _ _ z => nomatch z
theorem c_min2 : CaD X rMin2 min2D := fun ds vs M H Qd Q dvs R h c => by
  unfold min2D at h
  split at h
  · cases dvs with
    | cons a b => cases b with
      | cons a' b' => cases b'; cases a; cases a'; exact .inl ⟨_, _, rfl, c.now R .str h⟩
  · cases dvs with
    | cons a b => cases b with
      | cons a' b' => cases b'; cases a; cases a'; exact .inr ⟨_, _, rfl, c.now R .int h⟩
  · exact h.elim
theorem c_max2 : CaD X rMax2' max2D := fun ds vs M H Qd Q dvs R h c => by
  unfold max2D at h
  split at h
  · cases dvs with
    | cons a b => cases b with
      | cons a' b' => cases b'; cases a; cases a'; exact .inl ⟨_, _, rfl, c.now R .str h⟩
  · cases dvs with
    | cons a b => cases b with
      | cons a' b' => cases b'; cases a; cases a'; exact .inr ⟨_, _, rfl, c.now R .int h⟩
  · exact h.elim

/-! ### min of a list -/
theorem PyOfs.at {M : DM} {n : Nat} : ∀ {ds : List D} {ps : List PyData}, PyOfs M n ds ps → ∀ {i : Nat} {d : D}, ds[i]? = some d → ∃ p, ps[i]? = some p ∧ PyOf M n d p
  | _, _, .nil, i, d, e => by simp at e
  | _, _, .cons h t, 0, d, e => by simp at e; subst e; exact ⟨_, rfl, h⟩
  | _, _, .cons h t, i + 1, d, e => by simpa using PyOfs.at t (by simpa using e)
def rMinD (K : Bd) : List V → Hp → VK → Prop := fun xs H Q => ∃ a vs p ps, xs = [.ref a] ∧ SqL K H a vs ∧ DpAll K H vs (p :: ps) ∧ PyData.plainAll (p :: ps) = true ∧ PyData.depthAll (p :: ps) ≤ 40 ∧ PySem.W.AlikeAll (p :: ps) ∧
  ∀ (i : Nat) (v : V), vs[i]? = some v → (∀ q, (p :: ps)[i]? = some q → q = PySem.W.minD p ps) → Q v H
theorem call_minD (hc : X.calm = true) (hu : X.A.units + 64 < cLine) : CallR X (.builtin "min") (rMinD X.B) := by
  intro pins s σ H xs us Q I r h
  obtain ⟨a, vs, p, ps, rfl, hq, hd, hpl, hdp, hal, q⟩ := h
  obtain ⟨u, rfl, rx⟩ := r.one
  cases rx
  obtain ⟨its, rv, pl, hz⟩ := I.list hq
  obtain ⟨as, rs⟩ := Dp.readsAll I (p :: ps) vs its hd rv
  refine PySem.W.min_list_data (I.ok.hd hc) pl.isList rs hal (by omega) fun i v h' tk bs hv hr hk => ?_
  have hv' : its[i]? = some v := by simpa using hv
  have hi : i < its.length := (List.getElem?_eq_some_iff.mp hv').1
  have hl := rv.length
  obtain ⟨u', e1, e2⟩ : ∃ x, vs[i]? = some x ∧ RelV x v := by
    have e : vs[i]? = some vs[i] := List.getElem?_eq_getElem (by omega)
    obtain ⟨w', g1, g2⟩ := rv.get e
    rw [hv'] at g1; cases g1
    exact ⟨_, e, g2⟩
  have I' : Inv X pins σ H { s with heap := h', toks := tk } := I.kept hk
  refine ⟨u', H, I', e2, q i u' e1 fun z hz' => ?_⟩
  -- the item reads as two data
  obtain ⟨bs2, r2, h2, _, _⟩ := PySem.W.readsAll_atA rs i v (by simpa using hv')
  have hzz : (p :: ps).getD i .none = z := by
    rw [List.getD_eq_getElem?_getD, hz'] <;> rfl
  rw [hzz] at r2
  have hpz : z.plain = true := by
    have : z ∈ p :: ps := List.mem_of_getElem? hz'
    exact plain_mem hpl this
  exact SeqAt.plain_unique z _ v _ _ hpz (PySem.W.reads_keeps hk r2) hr
where
  plain_mem {xs : List PyData} (h : PyData.plainAll xs = true) {z : PyData} (hz : z ∈ xs) : z.plain = true := by
    induction xs with
    | nil => cases hz
    | cons x xs ih =>
      simp only [PyData.plainAll, Bool.and_eq_true] at h
      rcases List.mem_cons.mp hz with rfl | hz
      · exact h.1
      · exact ih h.2 hz
def minLD : RLD := fun ds M Q => match ds with
  | [.ref a] => ∃ xs p ps, M a = some (.lst xs) ∧ PyOfs M 20 xs (p :: ps) ∧ PySem.W.AlikeAll (p :: ps) ∧ ∀ (i : Nat) (d : D), xs[i]? = some d → (p :: ps)[i]? = some (PySem.W.minD p ps) → Q d M
  | _ => False
theorem PyOfs.length {M : DM} {n : Nat} : ∀ {ds : List D} {ps : List PyData}, PyOfs M n ds ps → ds.length = ps.length
  | _, _, .nil => rfl
  | _, _, .cons _ t => by simp [PyOfs.length t]
theorem c_minD : CaD X (rMinD X.B) minLD := fun ds vs M H Qd Q dvs R h c => by
  unfold minLD at h
  split at h
  · cases dvs with
    | cons a b =>
      cases b; cases a
      obtain ⟨xs, p, ps, ea, hp, al, q⟩ := h
      obtain ⟨u, hu, r⟩ := R _ _ ea
      cases r with
      | lst hs =>
        refine ⟨_, _, p, ps, rfl, .of hu, PyOfs.dp R hp hs, hp.shape.1, Nat.le_trans hp.shape.2 (by decide), al, fun i v hv hz => ?_⟩
        obtain ⟨d, hd, dv⟩ := hs.getV hv
        obtain ⟨z, hz1, _⟩ := hp.at hd
        exact c.now R dv (q i d hd (by rw [hz1, hz z hz1]))
  · exact h.elim
end
end Dt

set_option Elab.async false
set_option autoImplicit false
set_option linter.all false
set_option maxRecDepth 100000
set_option maxHeartbeats 4000000
/-! DK: sorted(list), sorted(dict with tuple keys). -/
namespace Dt
open PySem PySem.Spec PyProof.Rows L2 LamX RZ

/-- values that can be sorted: one of few, too -/
def CanSort (ps : List PyData) : Prop := PySem.W.AllAlike ps ∧ (∀ p ∈ ps, p ≠ .none) ∧ (PySem.W.Sortable ps ∨ ps.length < 2)
theorem sortsAt_few {prog : Program} {w : World} {A : Around} {s : Shared} {vs : List Value} {ds : List PyData} (e : PySem.W.EachIs (fun v d => ∃ as, Reads s.heap v d as) vs ds) (c : CanSort ds) (hu : ∀ d, d ∈ ds → A.units + d.depth < cLine) :
    PySem.W.SortsAt prog w A s (PySem.W.dataKind s.heap ds) vs := by
  obtain ⟨hal, hn, hs | hs⟩ := c
  · exact PySem.W.SortsAt.data e hal hs hu
  · refine ⟨fun v hv => ?_, general', ?_, fun h2 => ?_⟩
    · obtain ⟨d, hd, as, r⟩ := e.left v hv
      exact ⟨_, PySem.W.dataKind_some hal hd r⟩
    · intro E x y a b Q ha hb hq
      obtain ⟨d, as, hd, ra, rfl⟩ := PySem.W.dataKind_inv ha
      obtain ⟨d', as', hd', rb, rfl⟩ := PySem.W.dataKind_inv hb
      show wpAny (model prog w) A (oneLt' false x y) Q E s
      exact PySem.W.oneLt_alike (fun z => nomatch z) ra rb (hal d hd d' hd') (hn d hd) (by have := hu d hd; omega) hq
    · exact absurd (e.length ▸ h2) (by omega)

/-- the sorted list, by the data -/
noncomputable def srt {α : Type} (xs : List α) (ps : List PyData) : List α := ((xs.zip ps).mergeSort (PySem.W.dataLe false Prod.snd)).map Prod.fst
theorem each_zip {R : Value → V → Prop} : ∀ {us : List Value} {vs : List V} {ps : List PyData}, Vals vs us → vs.length = ps.length → PySem.W.EachIs (fun (v : Value) (b : V × PyData) => RelV b.1 v ∧ b ∈ vs.zip ps) us (vs.zip ps) := by
  intro us vs ps r hl
  refine PySem.W.EachIs.of_zip (by rw [List.length_zip, ← hl, Nat.min_self, r.length]) ?_
  rintro ⟨u, b⟩ hm
  refine ⟨?_, (List.of_mem_zip hm).2⟩
  clear R
  induction r generalizing ps with
  | nil => simp at hm
  | @cons x u' xs us' rx t ih =>
    cases ps with
    | nil => simp at hl
    | cons p ps =>
      rw [List.zip_cons_cons, List.zip_cons_cons] at hm
      rcases List.mem_cons.mp hm with e | hm
      · cases e; exact rx
      · exact ih (by simpa using hl) hm
theorem dpAll_len {K : PySem.W.Frag} {H : Hp} {vs : List V} {ps : List PyData} (h : DpAll K H vs ps) : vs.length = ps.length := by
  induction vs generalizing ps with
  | nil => cases h; rfl
  | cons v vs ih => cases h with | cons a b => simp [ih b]
theorem dpAll_mem {K : PySem.W.Frag} {H : Hp} {vs : List V} {ps : List PyData} (h : DpAll K H vs ps) {b : V × PyData} (hb : b ∈ vs.zip ps) : Dp K H b.1 b.2 := by
  induction vs generalizing ps with
  | nil => simp at hb
  | cons v vs ih =>
    cases h with
    | cons a t =>
      rw [List.zip_cons_cons] at hb
      rcases List.mem_cons.mp hb with rfl | hb
      · exact a
      · exact ih t hb
theorem zip_snd {α : Type} {xs : List α} {ps : List PyData} (hl : xs.length = ps.length) : (xs.zip ps).map Prod.snd = ps := by
  rw [List.map_snd_zip]; omega
theorem vals_out {us : List Value} {bs : List (V × PyData)} {P : (V × PyData) → Prop} (e : PySem.W.EachIs (fun (v : Value) (b : V × PyData) => RelV b.1 v ∧ P b) us bs) : Vals (bs.map Prod.fst) us := by
  induction e with
  | nil => exact .nil
  | cons h t ih => rw [List.map_cons]; exact .cons h.1 ih
def rSortLD (K : PySem.W.Frag) : List V → Hp → VK → Prop := fun xs H Q => ∃ a vs ps, xs = [.ref a] ∧ SqL K H a vs ∧ DpAll K H vs ps ∧ CanSort ps ∧ (∀ p ∈ ps, p.depth ≤ 40) ∧ ∀ l, H l = none → Q (.ref l) (upd H l (.lst (srt vs ps)))
section
variable {X : Cx}
theorem srt_len {α : Type} {xs : List α} {ps : List PyData} (hl : xs.length = ps.length) : (srt xs ps).length = xs.length := by
  unfold srt
  rw [List.length_map, List.length_mergeSort, List.length_zip, hl, Nat.min_self]
theorem call_sortLD (hu : X.A.units + 64 < cLine) : CallR X (.builtin "sorted") (rSortLD X.K) := by
  intro pins s σ H xs us Q I r h
  obtain ⟨a, vs, ps, rfl, hq, hd, cs, hdep, q⟩ := h
  obtain ⟨u, rfl, rx⟩ := r.one
  cases rx
  obtain ⟨its, rv, pl, hz⟩ := I.list hq
  have hl := dpAll_len hd
  have hl2 := rv.length
  have e := each_zip (R := fun _ _ => True) rv hl
  have er : PySem.W.EachIs (fun v (b : V × PyData) => ∃ as, Reads s.heap v b.2 as) its (vs.zip ps) := e.mono fun v b ⟨rb, hb⟩ => Dp.reads I b.2 b.1 v (dpAll_mem hd hb) rb
  have er' : PySem.W.EachIs (fun v (b : V × PyData) => ∃ as, Reads (PySem.W.sortingHeap (PySem.W.copyHeap s.heap its) (s.heap.objs.size + 1) its) v b.2 as) its (vs.zip ps) := er.mono fun _ _ ⟨as, r⟩ => ⟨as, PyProof.Rows.Reads.keeps (fun _ _ => PySem.W.sorting_copy_old) r⟩
  have hps : (vs.zip ps).map Prod.snd = ps := zip_snd hl
  have cs' : CanSort ((vs.zip ps).map Prod.snd) := by rw [hps]; exact cs
  have hlen : its.length ≤ sizeLine := by rw [← hl2]; omega
  refine PySem.W.sorted_vals (κ := PySem.W.dataKind (PySem.W.sortingHeap (PySem.W.copyHeap s.heap its) (s.heap.objs.size + 1) its) ((vs.zip ps).map Prod.snd)) pl.isList
    (sortsAt_few (s := { s with heap := PySem.W.sortingHeap (PySem.W.copyHeap s.heap its) (s.heap.objs.size + 1) its }) (PySem.W.each_map (R := fun v d => ∃ as, Reads (PySem.W.sortingHeap (PySem.W.copyHeap s.heap its) (s.heap.objs.size + 1) its) v d as) Prod.snd er') cs' fun d hd' => ?_) hlen ?_
  · rw [hps] at hd'
    have := hdep d hd'
    show X.A.units + 2 + d.depth < cLine
    omega
  · have out := PySem.W.sortVals_data (h' := PySem.W.sortingHeap (PySem.W.copyHeap s.heap its) (s.heap.objs.size + 1) its) (R := fun v (b : V × PyData) => RelV b.1 v ∧ b ∈ vs.zip ps) (enc := Prod.snd) false e er' cs'.1
    obtain ⟨ep, he'⟩ := PyProof.Rows.sortedAll_at s.heap its (PySem.W.sortVals (PySem.W.dataKind (PySem.W.sortingHeap (PySem.W.copyHeap s.heap its) (s.heap.objs.size + 1) its) ((vs.zip ps).map Prod.snd)) false its its).toArray
    refine ⟨.ref _, upd H (s.heap.objs.size + 1) (.lst (srt vs ps)), I.laid (t' := s.toks) (fun _ _ => PyProof.Rows.sortedAll_old) (Nat.le_succ _) ⟨?_, _, ep, vals_out out, he'⟩, rfl, q _ (I.hok.fresh (Nat.le_succ _))⟩
    rw [srt_len hl]; omega
end

/-! ### sorted(d), d with tuple keys -/
mutual
def nkP : NestedKey → PyData
  | .none => .none
  | .num i => .int i
  | .text x => .str x
  | .tup ks => .tuple (nkPs ks)
def nkPs : List NestedKey → List PyData
  | [] => []
  | k :: ks => nkP k :: nkPs ks
end
mutual
theorem dp_nk {K : Bd} {H : Hp} : ∀ (k : NestedKey) (v : V), DV K H (nkD k) v → Dp K H v (nkP k)
  | .none, v, d => by unfold nkD at d; cases d; unfold nkP; exact .non
  | .num i, v, d => by unfold nkD at d; cases d; unfold nkP; exact .int i
  | .text x, v, d => by unfold nkD at d; cases d; unfold nkP; exact .str x
  | .tup ks, v, d => by
    unfold nkD at d
    cases d with | tup s1 n hs => unfold nkP; exact .tup (sqF .refl s1) (dp_nks ks _ hs)
theorem dp_nks {K : Bd} {H : Hp} : ∀ (ks : List NestedKey) (vs : List V), DVs K H (nkDs ks) vs → DpAll K H vs (nkPs ks)
  | [], vs, d => by unfold nkDs at d; cases d; unfold nkPs; exact .nil
  | k :: ks, vs, d => by
    unfold nkDs at d
    cases d with | cons a b => unfold nkPs; exact .cons (dp_nk k _ a) (dp_nks ks _ b)
end
mutual
theorem nkP_depth : ∀ k : NestedKey, (nkP k).depth ≤ k.depth
  | .none => by simp [nkP, PyData.depth]
  | .num i => by simp [nkP, PyData.depth]
  | .text x => by simp [nkP, PyData.depth]
  | .tup ks => by
    have := nkPs_depth ks
    simp only [nkP, PyData.depth, NestedKey.depth]; omega
theorem nkPs_depth : ∀ ks : List NestedKey, PyData.depthAll (nkPs ks) ≤ NestedKey.depthAll ks
  | [] => by simp [nkPs, PyData.depthAll]
  | k :: ks => by
    have h1 := nkP_depth k
    have h2 := nkPs_depth ks
    simp only [nkPs, PyData.depthAll, NestedKey.depthAll]; omega
end
abbrev keysV (xs : List (NestedKey × Addr × Value)) : List V := xs.map fun x => V.ref x.2.1
abbrev keysP {β : Type} (xs : List (NestedKey × β)) : List PyData := xs.map fun x => nkP x.1
def rSortT (X : Cx) : List V → Hp → VK → Prop := fun ys H Q => ∃ d xs, ys = [V.ref d] ∧ H d = some (tdO X.prog X.w d xs) ∧ (∀ x ∈ xs, DV X.B H (nkD x.1) (.ref x.2.1) ∧ x.1.depth ≤ 8) ∧ CanSort (keysP xs) ∧ ∀ l, H l = none → Q (.ref l) (upd H l (.lst (srt (keysV xs) (keysP xs))))
theorem keys_dp {K : Bd} {H : Hp} {xs : List (NestedKey × Addr × Value)} (h : ∀ x ∈ xs, DV K H (nkD x.1) (.ref x.2.1) ∧ x.1.depth ≤ 8) : DpAll K H (keysV xs) (keysP xs) := by
  induction xs with
  | nil => exact .nil
  | cons x xs ih => exact .cons (dp_nk _ _ (h x (List.mem_cons_self ..)).1) (ih fun y hy => h y (List.mem_cons_of_mem _ hy))
section
variable {X : Cx}
theorem call_sortT (hc : X.calm = true) (hu : X.A.units + 64 < cLine) : CallR X (.builtin "sorted") (rSortT X) := by
  intro pins s σ H ys us Q I r h
  obtain ⟨d, ks, rfl, hd, hks, cs, q⟩ := h
  obtain ⟨u, rfl, rx⟩ := r.one
  cases rx
  obtain ⟨⟨z, hs, o, es, ep, ho, hx, hdt, he, hn⟩, _⟩ := (show ObjOk X.prog X.w H s.heap d (tdO X.prog X.w d ks) from I.hok d _ hd)
  have l1 : es.size = ks.length := size_of_entries he
  refine Calls.call_function_entry PyProof.Rows.kind_sorted PyProof.Rows.plain_sorted PyProof.Rows.entry_sorted (PyProof.Rows.args_sorted1 _) ?_
  unfold Builtin.«sorted»
  refine wpAny_bind (m := checkCount "sorted" 1 1 _) (wpAny_pure ?_)
  refine wpAny_bind (PySem.W.kdu_collect (A := X.A.in1) (kdl_raw hs hx hdt) (I.ok.hd hc) ho (by omega) fun h' tk acc kp it => ?_)
  have ea : acc.toList = ks.map fun x => Value.ref x.2.1 := by
    have hl : acc.toList.length = ks.length := by rw [Array.length_toList, it.1]; exact l1
    apply List.ext_getElem?
    intro j
    rw [List.getElem?_map]
    cases hj : acc.toList[j]? with
    | none =>
      have h1 := List.getElem?_eq_none_iff.mp hj
      rw [List.getElem?_eq_none (by omega)]
      all_goals rfl
    | some v =>
      obtain ⟨en, hen, hv⟩ := it.2 j v (by rw [← Array.getElem?_toList]; exact hj)
      have qe := entry_at he j
      rw [hen] at qe
      cases hb : ks[j]? with
      | none =>
        rw [hb] at qe
        exact nomatch (show some en = none from qe)
      | some b =>
        rw [hb] at qe
        have e2 : en = entryOfKey (nestedKind X.prog X.w) b := Option.some.inj qe
        rw [hv, e2]
        all_goals rfl
  have eb : acc.toList = (ks.map fun x => x.2.1).map Value.ref := by rw [ea, List.map_map]; all_goals rfl
  have ev : keysV ks = (ks.map fun x => x.2.1).map V.ref := by rw [List.map_map]; rfl
  have rv : Vals (keysV ks) acc.toList := by rw [eb, ev]; exact vals_refs _
  have I1 : Inv X pins σ H { s with heap := h', toks := tk } := I.kept kp
  have hdp : DpAll X.K H (keysV ks) (keysP ks) := keys_dp (K := X.B) hks
  have hal : acc.toList.length ≤ sizeLine := by rw [ea, List.length_map]; omega
  refine wpAny_bind (wpAny_newList ?_ hal)
  have hoL : (h'.push (seqObj "list" acc.toList.toArray 0)).get? h'.objs.size = some (seqObj "list" acc.toList.toArray 0) := Heap.get?_push_size _ rfl
  show wpAny _ _ _ _ _ { s with heap := h'.push (seqObj "list" acc.toList.toArray 0), toks := tk }
  have hl := dpAll_len hdp
  have e := each_zip (R := fun _ _ => True) rv hl
  have er : PySem.W.EachIs (fun v (b : V × PyData) => ∃ as, Reads h' v b.2 as) acc.toList ((keysV ks).zip (keysP ks)) := e.mono fun v b ⟨rb, hb⟩ => Dp.reads I1 b.2 b.1 v (dpAll_mem hdp hb) rb
  have old : ∀ b o', h'.get? b = some o' → (PySem.W.sortingHeap (h'.push (seqObj "list" acc.toList.toArray 0)) h'.objs.size acc.toList).get? b = some o' := fun b o' q => PySem.W.sortingHeap_old (Nat.ne_of_lt (Heap.lt_size q)) (Heap.get?_push_of_some _ q)
  have er' : PySem.W.EachIs (fun v (b : V × PyData) => ∃ as, Reads (PySem.W.sortingHeap (h'.push (seqObj "list" acc.toList.toArray 0)) h'.objs.size acc.toList) v b.2 as) acc.toList ((keysV ks).zip (keysP ks)) :=
    er.mono fun _ _ ⟨as, r⟩ => ⟨as, PyProof.Rows.Reads.keeps old r⟩
  have hps : ((keysV ks).zip (keysP ks)).map Prod.snd = keysP ks := zip_snd hl
  have cs' : CanSort (((keysV ks).zip (keysP ks)).map Prod.snd) := by rw [hps]; exact cs
  refine wpAny_bind (wpAny_holding (wpAny_call_entry PyProof.Rows.slot_list_sort ⟨_, hoL, rfl⟩ PyProof.Rows.entry_list_sort
    (PySem.W.list_sort_vals (s := { s with heap := h'.push (seqObj "list" acc.toList.toArray 0), toks := tk }) (κ := PySem.W.dataKind (PySem.W.sortingHeap (h'.push (seqObj "list" acc.toList.toArray 0)) h'.objs.size acc.toList) (((keysV ks).zip (keysP ks)).map Prod.snd)) hoL
      (sortsAt_few (s := { s with heap := PySem.W.sortingHeap (h'.push (seqObj "list" acc.toList.toArray 0)) h'.objs.size acc.toList, toks := tk }) (PySem.W.each_map (R := fun v d => ∃ as, Reads (PySem.W.sortingHeap (h'.push (seqObj "list" acc.toList.toArray 0)) h'.objs.size acc.toList) v d as) Prod.snd er') cs' fun d hd' => ?_) hal ⟨_, rfl, ?_⟩)
    (PyProof.Rows.args_list_sort _)))
  · rw [hps] at hd'
    obtain ⟨p, hp, rfl⟩ := List.mem_map.mp hd'
    have h1 := nkP_depth p.1
    have h2 := (hks p hp).2
    show X.A.units + 2 + (nkP p.1).depth < cLine
    omega
  · have out := PySem.W.sortVals_data (h' := PySem.W.sortingHeap (h'.push (seqObj "list" acc.toList.toArray 0)) h'.objs.size acc.toList) (R := fun v (b : V × PyData) => RelV b.1 v ∧ b ∈ (keysV ks).zip (keysP ks)) (enc := Prod.snd) false e er' cs'.1
    obtain ⟨e', he'⟩ := PyProof.Rows.sortedHeap_at (vs := acc.toList) (out := (PySem.W.sortVals (PySem.W.dataKind (PySem.W.sortingHeap (h'.push (seqObj "list" acc.toList.toArray 0)) h'.objs.size acc.toList) (((keysV ks).zip (keysP ks)).map Prod.snd)) false acc.toList acc.toList).toArray) hoL
    refine wpAny_pure ⟨_, rfl, .ref h'.objs.size, upd H h'.objs.size (.lst (srt (keysV ks) (keysP ks))), I1.laid (t' := tk) (fun b u e => ?_) (Nat.le_refl _)
      ⟨?_, _, e', vals_out out, he'⟩, rfl, q _ (I1.hok.fresh (Nat.le_refl _))⟩
    · have hb : b < h'.objs.size := Heap.lt_size e
      rw [PyProof.Rows.sortedHeap_old (Nat.ne_of_lt hb) (by rw [size_push']; exact Nat.lt_succ_of_lt hb)]
      exact Heap.get?_push_of_some _ e
    · rw [srt_len hl, List.length_map]; exact z

/-! ### as data -/
theorem zip_map_both {α β γ δ : Type} (f : α → β) (g : γ → δ) : ∀ (xs : List α) (ys : List γ), (xs.map f).zip (ys.map g) = (xs.zip ys).map fun p => (f p.1, g p.2)
  | [], _ => rfl
  | _ :: _, [] => rfl
  | x :: xs, y :: ys => by simp [zip_map_both f g xs ys]
/-- related lists are sorted alike -/
theorem srt_dvs {K : Bd} {H : Hp} {ds : List D} {vs : List V} (h : DVs K H ds vs) {ps : List PyData} (hl : ds.length = ps.length) : DVs K H (srt ds ps) (srt vs ps) := by
  -- sort the triples once
  have key : ∀ (bs : List ((D × V) × PyData)), (∀ b ∈ bs, DV K H b.1.1 b.1.2) → DVs K H (bs.map fun b => b.1.1) (bs.map fun b => b.1.2) := by
    intro bs hb
    induction bs with
    | nil => exact .nil
    | cons b bs ih => exact .cons (hb b (List.mem_cons_self ..)) (ih fun c hc => hb c (List.mem_cons_of_mem _ hc))
  have hz : ∀ b ∈ ds.zip vs, DV K H b.1 b.2 := by
    clear hl
    induction ds generalizing vs with
    | nil => intro b hb; simp at hb
    | cons d ds ih =>
      cases h with
      | cons a t =>
        intro b hb
        rw [List.zip_cons_cons] at hb
        rcases List.mem_cons.mp hb with rfl | hb
        · exact a
        · exact ih t b hb
  have hlen := h.length
  have e1 : ds.zip ps = ((ds.zip vs).zip ps).map fun b => (b.1.1, b.2) := by
    rw [show (fun b : (D × V) × PyData => (b.1.1, b.2)) = fun p => ((fun q : D × V => q.1) p.1, (fun z : PyData => z) p.2) from rfl, ← zip_map_both (fun q : D × V => q.1) (fun z : PyData => z)]
    rw [show (ds.zip vs).map (fun q : D × V => q.1) = ds from List.map_fst_zip (by omega)]
    simp
  have e2 : vs.zip ps = ((ds.zip vs).zip ps).map fun b => (b.1.2, b.2) := by
    rw [show (fun b : (D × V) × PyData => (b.1.2, b.2)) = fun p => ((fun q : D × V => q.2) p.1, (fun z : PyData => z) p.2) from rfl, ← zip_map_both (fun q : D × V => q.2) (fun z : PyData => z)]
    rw [show (ds.zip vs).map (fun q : D × V => q.2) = vs from List.map_snd_zip (by omega)]
    simp
  unfold srt
  rw [e1, e2, ← List.map_mergeSort (f := fun b : (D × V) × PyData => (b.1.1, b.2)) (r := fun b c => PySem.W.dataLe false Prod.snd b c) (fun a _ b _ => rfl), ← List.map_mergeSort (f := fun b : (D × V) × PyData => (b.1.2, b.2)) (r := fun b c => PySem.W.dataLe false Prod.snd b c) (fun a _ b _ => rfl), List.map_map, List.map_map]
  refine key _ fun b hb => hz _ ?_
  have hm : b ∈ (ds.zip vs).zip ps := List.mem_mergeSort.mp hb
  exact (List.of_mem_zip hm).1
def sortD : RLD := fun ds M Q => match ds with
  | [.ref a] => (∃ xs ps, M a = some (.lst xs) ∧ PyOfs M 20 xs ps ∧ CanSort ps ∧ ∀ p, M p = none → Q (.ref p) (put M p (.lst (srt xs ps)))) ∨
    (∃ kvs, M a = some (.dT kvs) ∧ CanSort (keysP kvs) ∧ ∀ p, M p = none → Q (.ref p) (put M p (.lst (srt (kvs.map fun p => nkD p.1) (keysP kvs)))))
  | _ => False
def rSortA (X : Cx) : List V → Hp → VK → Prop := fun xs H Q => rSortLD X.K xs H Q ∨ rSortT X xs H Q
theorem call_sortA (hc : X.calm = true) (hu : X.A.units + 64 < cLine) : CallR X (.builtin "sorted") (rSortA X) := (call_sortLD hu).or (call_sortT hc hu)
theorem depthAll_mem {ps : List PyData} {n : Nat} (h : PyData.depthAll ps ≤ n) : ∀ p ∈ ps, p.depth ≤ n := by
  induction ps with
  | nil => intro p hp; cases hp
  | cons q ps ih =>
    intro p hp
    simp only [PyData.depthAll] at h
    rcases List.mem_cons.mp hp with rfl | hp
    · omega
    · exact ih (by omega) p hp
theorem c_sort : CaD X (rSortA X) sortD := fun ds vs M H Qd Q dvs R h c => by
  unfold sortD at h
  split at h
  · cases dvs with
    | cons a b =>
      cases b; cases a
      rcases h with ⟨xs, ps, ea, hp, cs, q⟩ | ⟨kvs, ea, cs, q⟩
      · obtain ⟨u, hu, r⟩ := R _ _ ea
        cases r with
        | lst hs =>
          exact .inl ⟨_, _, ps, rfl, .of hu, PyOfs.dp R hp hs, cs, fun p hm => Nat.le_trans (depthAll_mem hp.shape.2 p hm) (by decide), fun l hl => c _ _ _ _ .ref (R.new hl (.lst (srt_dvs hs hp.length))) (.new R hl _ _) (q l (R.free hl))⟩
      · obtain ⟨u, hu, r⟩ := R _ _ ea
        cases r with
        | @dT _ xs t =>
          have hkw : keysP kvs = keysP xs := by
            clear hu cs q ea
            induction t with
            | nil => rfl
            | cons _ _ _ _ _ ih => simpa [keysP] using ih
          refine .inr ⟨_, xs, rfl, hu, t.keys, by rw [← hkw]; exact cs, fun l hl => ?_⟩
          have hkd : DVs X.B H (kvs.map fun p => nkD p.1) (keysV xs) := by
            clear hu cs q hkw ea
            induction t with
            | nil => exact .nil
            | cons a _ _ _ _ ih => exact .cons a ih
          rw [← hkw]
          refine c _ _ _ _ .ref (R.new hl (.lst (srt_dvs hkd ?_))) (.new R hl _ _) (q l (R.free hl))
          rw [List.length_map, List.length_map]
  · exact h.elim
end
end Dt

set_option Elab.async false
set_option autoImplicit false
set_option linter.all false
set_option maxRecDepth 100000
set_option maxHeartbeats 4000000
/-! DM: defs that are run while no repr is under way (so that repr tells a value whole): their promise, their calls, the law at the top. -/
namespace Dt
open PySem PySem.Spec PyProof.Rows L2 LamX RZ

/-- no repr is under way -/
def Still (A : Around) : Prop := A.guards = some []
theorem Still.deeper {A : Around} (h : Still A) (env : Env) : Still (A.deeper env) := h
theorem Still.in1 {A : Around} (h : Still A) : Still A.in1 := h
/-- a def's promise, called while no repr is under way -/
structure FnS (P : Program) (w : World) (K : PySem.W.Frag) (mg : Str → Option Value) (base : Heap) (CX : CXT) (k : Nat) (f : Addr) (fd : FuncData) (ps : List Str) (sp : Sp) : Prop where
  len : ∀ vs H Q E, sp vs H Q E → vs.length = ps.length
  go : ∀ (A : Around) (outer : List Env) (s : Shared) (H : Hp) (args : Args) (us : List Value) (vs : List V) (Q : VK) (E : XK), Still A → Room k A → Env0 P w K mg base A outer s H → BindsTo s fd args (ps.zip us) → Vals vs us → sp vs H Q E →
    codeAny (model P w) A (.call (.ref f) args) (CR CX outer P w H s Q E) s
theorem FnS.mono {P : Program} {w : World} {K : PySem.W.Frag} {mg : Str → Option Value} {base : Heap} {CX : CXT} {j k : Nat} {f : Addr} {fd : FuncData} {ps : List Str} {sp : Sp} (F : FnS P w K mg base CX j f fd ps sp) (h : j ≤ k) : FnS P w K mg base CX k f fd ps sp :=
  ⟨F.len, fun A o s H args us vs Q E hs hr => F.go A o s H args us vs Q E hs (hr.mono h)⟩
theorem FnS.of {P : Program} {w : World} {K : PySem.W.Frag} {mg : Str → Option Value} {base : Heap} {CX : CXT} {k : Nat} {f : Addr} {fd : FuncData} {ps : List Str} {sp : Sp} (F : FnOk P w K mg base CX k f fd ps sp) : FnS P w K mg base CX k f fd ps sp :=
  ⟨F.len, fun A o s H args us vs Q E _ hr => F.run A o s H args us vs Q E hr⟩

section
variable {CX : CXT} {P : Program} {w : World} {K : PySem.W.Frag} {mg : Str → Option Value} {base : Heap} {k : Nat} {x qual : Str} {st : Stmt} {f : Addr} {fd : FuncData} {N ps : List Str} {sp : Sp}
/-- a def by its body -/
theorem fnS_of (F : Fun K x qual st f fd) (S : FnScope N ps (defScope st)) (len : ∀ vs H Q E, sp vs H Q E → vs.length = ps.length)
    (hbody : ∀ (cdv : Value) (A : Around) (outer : List Env) (s : Shared) (H : Hp) (vs : List V) (Q : VK) (E : XK), fd.code = cdv → Still A → Room k (A.deeper (envOfC qual (defScope st) s.heap.objs.size f cdv)) → sp vs H Q E →
      ∃ t, PSs (cxOf CX P w K mg base N qual (defScope st) f cdv A outer s H E) (defBody st) t ∧ t { nx := fun _ H' => Q .non H', rt := Q } (start N vs) H) :
    FnS P w K mg base CX (k + 1) f fd ps sp := by
  obtain ⟨oc, od, kV, doc, pm, an, cdv, ct, osl, rfl, lk, hcd⟩ := F.ex
  constructor
  · exact len
  intro A outer s H args us vs Q E still room env bind vals want
  have old : ∀ b o, base.get? b = some o → s.heap.get? b = some o := fun b o e => (env.bs b o e).1
  have inK : K.In s.heap := env.mod.kin.keeps old
  have slots : ∀ y ∈ ps.zip us, (defScope st).names.lookup y.1 = some .local ∨ ((defScope st).names.lookup y.1 = some .cell ∧ ((cellsFrom (s.heap.objs.size + 1) (defScope st).names []).lookup y.1).isSome = true) := by
    rintro ⟨n, v⟩ hy
    cases S.par n (List.of_mem_zip hy).1 with
    | inl h => exact .inl h
    | inr h => exact .inr ⟨h, PySem.W.cellsFrom_some _ _ _ (.inl h)⟩
  apply codeAny_call_function room.depth (inK _ _ lk) rfl S.co S.gen rfl (PySem.W.codeRec_of inK hcd)
  apply bind
  apply wpAny_newFunctionEnv_cells S.kind slots
  rintro env' rfl s1 made
  refine ⟨(env.mod.nolimit.keeps old).keeps made.toInCall.keep, codeAny_func ?_⟩
  obtain ⟨t, walk, start_⟩ := hbody cdv A outer s H vs Q E rfl still (room.deeper _) want
  have inv0 := inv_start (CX := CX) (qual := qual) (f := f) (cd := cdv) (E := E) S room.hd env (len _ _ _ _ want) vals made
  refine wpAny_mono (walk.run [] s1 (start N vs) H _ inv0 start_) ?_ fun _ _ e => e
  intro fl s' got
  match fl, got with
  | .ret _, ⟨v, _, H', J, r, q⟩ => exact ⟨v, H', J.os, J.bare, J.base, J.hok, r, q⟩
  | .next, ⟨_, H', J, q⟩ => exact ⟨.non, H', J.os, J.bare, J.base, J.hok, rfl, q⟩
  | .brk, ⟨_, _, _, q⟩ => exact q.elim
  | .cont, ⟨_, _, _, q⟩ => exact q.elim
end
/-- f(..) -/
theorem pe_callS {X : Cx} {CX : CXT} {k : Nat} {f : Addr} {fd : FuncData} {ps : List Str} {sp : Sp} {E : XK} {x : Str} {p pos : Pos} {e : Expr} {es : List Expr} {t : TA} (F : FnS X.prog X.w X.K X.mg X.base CX k f fd ps sp) (hs : Still X.A) (hr : Room k X.A) (hg : Gl X x) (hm : X.mg x = some (.ref f)) (hk : PySem.W.keepIn X.K (.ref f) = true) (hb : Binds X.K fd ps []) (hx : Passes CX X E)
    (ha : PA X (e :: es) t) (hdb : (x == ("__debug__" : Str)) = false := by decide) (he : starEach (e :: es) X.env = (false, eval e X.env) :: starEach es X.env := by rfl) (hpl : (backTo pos (starEach es X.env)).any (·.1) = false := by rfl) :
    PE X (.Call (.Name x p) (e :: es) [] pos) (tCall sp [] E t) := by
  constructor
  intro pins s σ H Q I h
  refine wpAny_Call_Name_kw (ld_glob I hg hm ?_ hdb)
  refine PySem.W.callWith_K (h₀ := X.base) I.ok.mod.kin hk (thn (ha.run pos pins s σ H _ I h) ?_) he hpl
  rintro us s1 ⟨vs, H1, I1, r, q⟩
  rw [List.append_nil] at q
  refine ⟨I1.kIn, ?_⟩
  have hl : (us ++ []).length = ps.length := by rw [List.append_nil, ← r.length]; exact F.len _ _ _ _ q
  have hb' := hb s1 us I1.kIn hl
  rw [List.append_nil] at hb'
  refine wpAny_call (codeAny_mono (F.go X.A X.stack s1 H1 ⟨us, []⟩ us vs Q E hs hr I1.env0 hb' r q) ?_)
  intro out s' got
  match out, got with
  | .error _, g => exact hx pins σ H1 s1 _ s' I1 g
  | .ok (.ret _), g => exact I1.after g
  | .ok .next, g => exact False.elim g
  | .ok .brk, g => exact False.elim g
  | .ok .cont, g => exact False.elim g

/-! ### the law, called at the top -/
theorem ints_vals : ∀ {vs : List Value} {ns : List Int}, IntsAre vs ns → Vals (ns.map V.int) vs
  | _, _, .nil => .nil
  | _, _, .cons n t h => .cons ⟨t, rfl⟩ (ints_vals h)
/-- an abstract heap that knows the script alone -/
structure Script (K : PySem.W.Frag) (h : Heap) (a : Addr) (ns : List Int) (P : Program) (w : World) (H : Hp) : Prop where
  only : Only H
  sq : SqL K H a (ns.map V.int)
  ok : HOk P w H h
  at_ : ∀ b, H b ≠ none → b = a
  free : H a ≠ none → K.lookup a = none
theorem script_of {K : PySem.W.Frag} {h : Heap} {a : Addr} {vs : List Value} {ns : List Int} (P : Program) (w : World) (KX : K.In h) (ha : h.get? a = some { cls := .type "list", data := .seq vs.toArray }) (hi : IntsAre vs ns) (hl : ns.length ≤ sizeLine) : ∃ H, Script K h a ns P w H := by
  have rv := ints_vals hi
  have len := hi.length
  cases hk : K.lookup a with
  | some o =>
    have e := KX a o hk
    rw [ha] at e
    obtain rfl := Option.some.inj e
    exact ⟨fun _ => none, fun _ => .inl rfl, .inr ⟨_, vs.toArray, _, hk, rfl, rfl, rfl, by rw [List.size_toArray, len]; exact hl, by simpa using rv⟩, (fun b u z => nomatch (show (none : Option HO) = some u from z)), fun b z => (z rfl).elim, fun z => (z rfl).elim⟩
  | none =>
    refine ⟨upd (fun _ => none) a (.frz { cls := .type "list", data := .seq vs.toArray } (.lst (ns.map V.int))), fun b => ?_, .inl (.inr ⟨_, upd_same⟩), fun b u z => ?_, fun b z => ?_, fun _ => hk⟩
    · by_cases hb : b = a
      · subst hb; exact .inr ⟨_, _, upd_same⟩
      · exact .inl (upd_ne hb)
    · by_cases hb : b = a
      · subst hb
        rw [upd_same] at z
        obtain rfl := Option.some.inj z
        exact ⟨ha, by rw [List.length_map]; exact hl, vs, _, rv, ha⟩
      · rw [upd_ne hb] at z
        exact nomatch (show (none : Option HO) = some u from z)
    · by_cases hb : b = a
      · exact hb
      · exact (z (upd_ne hb)).elim
theorem law_still {P : Program} {w : World} {K : PySem.W.Frag} {mg mb : Str → Option Value} {CX : CXT} {k : Nat} {fa a : Addr} {x : Str} {sp : Sp} {s₁ : Shared} {vs : List Value} {ns : List Int}
    (KX : K.In s₁.heap) (hns : s₁.heap.Ns mainGlobals mg) (hb : s₁.heap.Ns builtinsNs mb) (hbb : ∀ x : Str, x ≠ "__name__" → mb x = bootBuiltins x) (hlim : s₁.heap.NoLimit) (hg : s₁.gens = #[])
    (ha : s₁.heap.get? a = some { cls := .type "list", data := .seq vs.toArray }) (hi : IntsAre vs ns) (hl : ns.length ≤ sizeLine) (hr : Room k callerA)
    (F : ∀ base : Heap, K.In base → base.Ns mainGlobals mg → ∃ fd, FnS P w K mg base CX k fa fd [x] sp ∧ Binds K fd [x] [])
    (hsp : ∀ H : Hp, Only H → SqL K H a (ns.map V.int) → sp [.ref a] H (fun v _ => v = .bl true) fun _ _ _ => False)
    (hCX : ∀ H e s', CX [] H s₁ (fun _ _ _ => False) e s' → False) :
    codeAny (model P w) callerA (.call (.ref fa) ⟨[.ref a], []⟩) (fun r s' => r = .ok (.ret (.bool true)) ∧ OldK s₁.heap s'.heap ∧ s'.os = s₁.os ∧ AllBare s'.gens) s₁ := by
  obtain ⟨H, Z⟩ := script_of P w KX ha hi hl
  -- what is not the script is as it was
  have seen : ∀ {b : Addr} {o : Obj}, s₁.heap.get? b = some o → H b = none → (hidT s₁.heap H).get? b = some o := fun e n => hidT_get e n
  have dicts : ∀ {b : Addr} {o : Obj} {es : Array DictEntry} {ep : Nat}, s₁.heap.get? b = some o → o.data = .dict es ep → H b = none := by
    intro b o es ep e d
    by_cases q : H b = none
    · exact q
    · obtain rfl := Z.at_ b q
      rw [ha] at e
      obtain rfl := Option.some.inj e
      exact nomatch d
  have names : ∀ {b : Addr} {m : Str → Option Value}, s₁.heap.Ns b m → (hidT s₁.heap H).Ns b m := fun {b m} ⟨o, es, ep, e, d, r⟩ => ⟨o, es, ep, seen e (dicts e d), d, r⟩
  have kin : K.In (hidT s₁.heap H) := by
    intro b o e
    refine seen (KX b o e) ?_
    by_cases q : H b = none
    · exact q
    · obtain rfl := Z.at_ b q
      rw [Z.free q] at e
      exact nomatch e
  obtain ⟨mc, l1, l2⟩ := hlim
  have modl : Mod K mg (hidT s₁.heap H) := ⟨kin, names hns, ⟨mb, names hb, hbb⟩, ⟨mc, names l1, l2⟩⟩
  have env : Env0 P w K mg (hidT s₁.heap H) callerA [] s₁ H := ⟨rfl, modl, fun b o e => of_hidT e, Nat.le_of_eq (hidT_size _ _), trivial, fun b z => (nomatch z), Z.ok, .of_eq hg⟩
  obtain ⟨fd, hF, hbind⟩ := F _ kin (names hns)
  refine codeAny_mono (hF.go callerA [] s₁ H ⟨[.ref a], []⟩ [.ref a] [.ref a] _ _ rfl hr env (hbind s₁ [.ref a] KX rfl) (.cons rfl .nil) (hsp H Z.only Z.sq)) ?_
  intro r s' got
  match r, got with
  | .error e, g => exact (hCX H e s' g).elim
  | .ok .next, g => exact False.elim g
  | .ok .brk, g => exact False.elim g
  | .ok .cont, g => exact False.elim g
  | .ok (.ret u), ⟨v, H', os, bare, un, ok', rv, q⟩ =>
    obtain rfl : v = .bl true := q
    obtain rfl : u = Value.bool true := rv
    refine ⟨rfl, OldK.of_keep fun b o e => ?_, os, bare⟩
    rcases Z.only b with n | ⟨ob, xs, z⟩
    · exact un.keep b o e n (fun y => nomatch y) (fun y => nomatch y)
    · have z1 := (Z.ok b _ z).1
      rw [e] at z1
      obtain rfl := Option.some.inj z1
      exact (ok' b _ (un.frzs b o _ z)).1
/-- the goal that a head leaves -/
theorem walk_still {l : PySem.W.OpenLaw} {n k : Nat} {q : Program} {loose : List Str} {XP : (Str → Option Value) → Heap → Prop} {YP : World → Heap → Prop} {d : DefRec} {CX : CXT} {x : Str}
    (hn : l.most = some n) (hn2 : n ≤ sizeLine) (hdf : d.params.defaults = []) (hr : Room k callerA)
    (F : ∀ (w : World) (mg : Str → Option Value) (fa : Addr) (h : Heap), YP w h → h.Ns mainGlobals mg → mg d.name = some (.ref fa) →
      ∃ (K : PySem.W.Frag) (sp : Sp), K.In h ∧
        (∀ (H : Hp) (a : Addr) (ns : List Int), ns.length ≤ n → Only H → SqL K H a (ns.map V.int) → sp [.ref a] H (fun v _ => v = .bl true) fun _ _ _ => False) ∧
        ∀ base : Heap, K.In base → base.Ns mainGlobals mg → ∃ fd, FnS l.prog w K mg base CX k fa fd [x] sp ∧ Binds K fd [x] [])
    (hCX : ∀ (H : Hp) (s : Shared) (e : Value) (s' : Shared), CX [] H s (fun _ _ _ => False) e s' → False) :
    PySem.W.WalkO q loose XP YP l.row.toRowW d [] (fun f vs => PySem.call f vs) := by
  refine Att.attach_call hn hdf fun w s₀ s₁ mg mb fa o pm cd doc a vs ns G Y ho hd hcd hmg hobj hints hlen hg => ?_
  obtain ⟨K, sp, KX, hsp, hF⟩ := F w mg fa _ Y G.T.g hmg
  exact law_still KX G.T.g G.T.b G.T.builtins G.T.nolimit hg hobj hints (Nat.le_trans hlen hn2) hr hF (fun H hO hS => hsp H a ns hlen hO hS) fun H e s' => hCX H s₁ e s'
end Dt

set_option Elab.async false
set_option autoImplicit false
set_option linter.all false
set_option maxRecDepth 100000
set_option maxHeartbeats 4000000
/-! DL: methods of lists and tuples, items stored, repr, isinstance, dict(d), targets. -/
namespace Dt
open PySem PySem.Spec PyProof.Rows L2 LamX RZ PySem.P

/-! ### methods of lists -/
def isLst : D → DM → Prop := fun d M => ∃ a xs, d = .ref a ∧ M a = some (.lst xs)
theorem ty_lst {K : Bd} {d : D} {x : V} {M : DM} {H : Hp} (dx : DV K H d x) (R : Rel K M H) (ok : isLst d M) : tyV K "list" x H := by
  obtain ⟨a, xs, rfl, e⟩ := ok
  cases dx
  obtain ⟨vs, hu, hs⟩ := R.lst e
  exact .inl ⟨rfl, vs, .of hu⟩
theorem tyd_lst {K : Bd} : TyD K "list" isLst := fun _ _ _ _ dx R ok => ty_lst dx R ok
def appD : RMD := fun d ds M Q => match ds with
  | [e] => ∃ a xs, d = .ref a ∧ M a = some (.lst xs) ∧ xs.length < sizeLine ∧ Q .non (put M a (.lst (xs ++ [e])))
  | _ => False
def extD : RMD := fun d ds M Q => match ds with
  | [.ref b] => ∃ a xs zs, d = .ref a ∧ M a = some (.lst xs) ∧ M b = some (.lst zs) ∧ xs.length + zs.length ≤ sizeLine ∧ Q .non (put M a (.lst (xs ++ zs)))
  | _ => False
def popD : RMD := fun d ds M Q => match ds with
  | [] => ∃ a xs y, d = .ref a ∧ M a = some (.lst (xs ++ [y])) ∧ Q y (put M a (.lst xs))
  | _ => False
def insD : RMD := fun d ds M Q => match ds with
  | [.int i, y] => ∃ a xs, d = .ref a ∧ M a = some (.lst xs) ∧ xs.length < sizeLine ∧ 0 ≤ i ∧ i < 2 ^ 63 ∧ Q .non (put M a (.lst (xs.take i.toNat ++ [y] ++ xs.drop i.toNat)))
  | _ => False
section
variable {X : Cx} {W : WX}
theorem m_app : MtD X "list" rAppend appD := fun d ds x vs M H Qd Q dx dvs R h c => by
  unfold appD at h
  split at h
  · rename_i e
    obtain ⟨a, xs, rfl, ea, hl, q⟩ := h
    cases dx
    obtain ⟨ws, hu, hs⟩ := R.lst ea
    obtain ⟨v, rfl, dv⟩ := dvs.one
    exact ⟨_, ws, v, rfl, rfl, hu, by rw [← hs.length]; exact hl, c _ _ _ _ .non (R.write ea (.lst (hs.append (.mk1 dv)))) (.write R ea _ _) q⟩
  · exact h.elim
theorem m_ext : MtD X "list" rExtend extD := fun d ds x vs M H Qd Q dx dvs R h c => by
  unfold extD at h
  split at h
  · obtain ⟨a, xs, zs, rfl, ea, eb, hl, q⟩ := h
    cases dx
    obtain ⟨ws, hu, hs⟩ := R.lst ea
    obtain ⟨us, hu2, hs2⟩ := R.lst eb
    obtain ⟨v, rfl, dv⟩ := dvs.one
    cases dv
    exact ⟨_, _, ws, us, rfl, rfl, hu, hu2, by rw [← hs.length, ← hs2.length]; exact hl, c _ _ _ _ .non (R.write ea (.lst (hs.append hs2))) (.write R ea _ _) q⟩
  · exact h.elim
theorem m_pop : MtD X "list" rPop popD := fun d ds x vs M H Qd Q dx dvs R h c => by
  unfold popD at h
  split at h
  · obtain ⟨a, xs, y, rfl, ea, q⟩ := h
    cases dx
    cases dvs
    obtain ⟨ws, hu, hs⟩ := R.lst ea
    have e1 : (xs ++ [y])[(xs ++ [y]).length - 1]? = some y := by simp
    obtain ⟨v, hv, dv⟩ := hs.get e1
    rw [hs.length] at hv
    have hd := hs.dropLast
    rw [List.dropLast_concat] at hd
    exact ⟨_, ws, v, rfl, rfl, hu, hv, c _ _ _ _ (dv.mono ((Keep.write R ea (.lst xs) (.lst ws.dropLast)).tups R)) (R.write ea (.lst hd)) (.write R ea _ _) q⟩
  · exact h.elim
def rIns : V → List V → Hp → VK → Prop := fun x vs H Q => ∃ (l : Addr) (xs : List V) (i : Int) (y : V), x = .ref l ∧ vs = [.int i, y] ∧ H l = some (.lst xs) ∧ xs.length < sizeLine ∧ 0 ≤ i ∧ i < 2 ^ 63 ∧
    Q .non (upd H l (.lst (xs.take i.toNat ++ [y] ++ xs.drop i.toNat)))
theorem m_ins : MtD X "list" rIns insD := fun d ds x vs M H Qd Q dx dvs R h c => by
  unfold insD at h
  split at h
  · obtain ⟨a, xs, rfl, ea, hl, h0, h1, q⟩ := h
    cases dx
    obtain ⟨ws, hu, hs⟩ := R.lst ea
    obtain ⟨v, w, rfl, dv, dw⟩ := dvs.two
    cases dv
    exact ⟨_, ws, _, w, rfl, rfl, hu, by rw [← hs.length]; exact hl, h0, h1, c _ _ _ _ .non (R.write ea (.lst (((hs.take _).append (.mk1 dw)).append (hs.drop _)))) (.write R ea _ _) q⟩
  · exact h.elim
variable {o e : Expr} {es : List Expr} {to : TED} {t : TAD} {apos cpos : Pos}

/-! ### methods of tuples -/
/-- o.m(..), o a tuple of the text's own making -/
def tTM (r : V → List V → Hp → VK → Prop) (to : TE) (t : TA) : TE := fun σ H Q => to σ H fun x H1 => (∃ a ob xs, x = .ref a ∧ H1 a = some (.frz ob (.tup xs)) ∧ ob.dict = none) ∧ t σ H1 fun xs H2 => r x xs H2 Q
theorem pe_tm {name : Str} {id : String} {r : V → List V → Hp → VK → Prop} {to : TE} {t : TA} (slot : Slot "tuple" name id) (hty : typeOf (.builtin id) = pure (.type "method_descriptor")) (hm : MtR X id r) (ho : PE X o to) (ha : PA X (e :: es) t)
    (hbase : attributeBase o name X.env (eval o X.env) = eval o X.env := by rfl)
    (hfew : ((backTo cpos (starEach (e :: es) X.env)).all (fun x => !x.1) && (backToKw cpos (keywordEach [] X.env)).all (fun x => x.1.isSome) && decide ((e :: es).length + ([] : List Keyword).length + (if ([] : List Keyword).isEmpty then 0 else 1) < 30)) = true := by rfl)
    (hline : (apos.endLine == cpos.line) = true := by rfl) (hs : starEach (e :: es) X.env = (false, eval e X.env) :: starEach es X.env := by rfl) (hplain : (backTo cpos (starEach es X.env)).any (·.1) = false := by rfl) :
    PE X (.Call (.Attribute o name apos) (e :: es) [] cpos) (tTM r to t) := by
  constructor
  intro pins s σ H Q I h
  refine wpAny_Call_method_late hbase hfew hline rfl (thn (ho.run pins s σ H _ I h) ?_)
  rintro v s1 ⟨x, H1, I1, r1, ⟨a, ob, ys, rfl, hat, hn⟩, q1⟩
  obtain rfl : v = Value.ref a := r1
  have there : s1.heap.get? a = some ob := (show ObjOk X.prog X.w H1 s1.heap a (.frz ob (.tup ys)) from I1.hok a _ hat).1
  obtain ⟨_, _, _, ⟨ob', g1, g2, _⟩⟩ := (show ObjOk X.prog X.w H1 s1.heap a (.frz ob (.tup ys)) from I1.hok a _ hat).2
  rw [there] at g1
  obtain rfl := Option.some.inj g1
  refine ⟨"tuple", id, F.plainAttrs_tuple, slot, hty, ⟨ob, there, g2⟩, fun b q => ?_, ?_⟩
  · cases q; exact ⟨ob, there, hn⟩
  have hA := ha.run cpos pins s1 σ H1 _ I1 q1
  rw [hs] at hA ⊢
  refine Calls.callWith_builtin (by show (false || (backTo cpos (starEach es X.env)).any (·.1)) = false; rw [hplain] <;> rfl) (Calls.evalArgs_plain (thn hA ?_))
  rintro us s2 ⟨vs, H2, I2, r2, q2⟩
  exact hm pins s2 σ H2 (.ref a) vs _ us Q I2 rfl r2 q2
def rTIdx (X : Cx) : V → List V → Hp → VK → Prop := fun x xs H Q => ∃ p vs y ks k, x = .ref p ∧ xs = [y] ∧ SqT X.K H p vs ∧ DVs X.B H (nkDs ks) vs ∧ DV X.B H (nkD k) y ∧ k.depth ≤ 40 ∧ k ∈ ks ∧ Q (.int (ks.idxOf k : Nat)) H
theorem mt_tidx (hu : X.A.units + 64 < cLine) : MtR X "tuple.index" (rTIdx X) := by
  intro pins s σ H x xs v us Q I rx rs h
  obtain ⟨p, vs, y, ks, k, rfl, rfl, hq, hds, hd, hk, hm, q⟩ := h
  obtain rfl : v = Value.ref p := rx
  obtain ⟨u, rfl, ru⟩ := rs.one
  obtain ⟨its, rv, pl, hz⟩ := I.tuple hq
  exact SeqAt.call_tuple_index (show s.heap.IsTuple p its.toArray from pl) (SeqAt.ItemsEq.nested (A := X.A.in1) (dv_nesteds I ks vs its hds rv) (dv_nested I k y u hd ru) (by show X.A.units + 1 + k.depth < cLine; omega)) hm ⟨.int _, H, I.tok _, ⟨_, rfl⟩, q⟩
def rTCnt (K : PySem.W.Frag) : V → List V → Hp → VK → Prop := fun x xs H Q => ∃ p vs y ps d, x = .ref p ∧ xs = [y] ∧ SqT K H p vs ∧ DpAll K H vs ps ∧ Dp K H y d ∧ PyData.plainAll ps = true ∧ Flat d ∧ Q (.int ((ps.countP fun z => PyData.eqv z d : Nat) : Int)) H
theorem mt_tcnt (hu : X.A.units + 64 < cLine) : MtR X "tuple.count" (rTCnt X.K) := by
  intro pins s σ H x xs v us Q I rx rs h
  obtain ⟨p, vs, y, ps, d, rfl, rfl, hq, hds, hd, hpl, hf, q⟩ := h
  obtain rfl : v = Value.ref p := rx
  obtain ⟨u, rfl, ru⟩ := rs.one
  obtain ⟨its, rv, pl, hz⟩ := I.tuple hq
  obtain ⟨as, r1⟩ := Dp.readsAll I ps vs its hds rv
  obtain ⟨bs, r2⟩ := Dp.reads I d y u hd ru
  exact SeqAt.count_tuple_data (show s.heap.IsTuple p its.toArray from pl) (by simpa using r1) r2 hpl hf.1 (by have := hf.2; omega) ⟨.int _, H, I.tok _, ⟨_, rfl⟩, q⟩
/-- t.index(x): x stands in t -/
def tidxD : RMD := fun d ds M Q => match ds with
  | [e] => ∃ xs ks k, d = .tup xs ∧ keyNs xs = some ks ∧ keyN e = some k ∧ k.depth ≤ 40 ∧ k ∈ ks ∧ Q (.int (ks.idxOf k : Nat)) M
  | _ => False
def tcntD : RMD := fun d ds M Q => match ds with
  | [e] => ∃ xs ps p, d = .tup xs ∧ PyOfs M 20 xs ps ∧ PyOf M 20 e p ∧ Q (.int ((ps.countP fun z => PyData.eqv z p : Nat) : Int)) M
  | _ => False
def isTup : D → DM → Prop := fun d _ => ∃ xs, d = .tup xs
theorem m_tidx : MtD X "tuple" (rTIdx X) tidxD := fun d ds x vs M H Qd Q dx dvs R h c => by
  unfold tidxD at h
  split at h
  · obtain ⟨xs, ks, k, rfl, h1, h2, h3, h4, q⟩ := h
    obtain ⟨v, rfl, dv⟩ := dvs.one
    cases dx with
    | tup s1 n hs =>
      rw [keyN_eq h2] at dv
      exact ⟨_, _, v, ks, k, rfl, rfl, sqF .refl s1, by rw [← keyNs_eq h1]; exact hs, dv, h3, h4, c.now R .int q⟩
  · exact h.elim
theorem m_tcnt : MtD X "tuple" (rTCnt X.K) tcntD := fun d ds x vs M H Qd Q dx dvs R h c => by
  unfold tcntD at h
  split at h
  · obtain ⟨xs, ps, p, rfl, h1, h2, q⟩ := h
    obtain ⟨v, rfl, dv⟩ := dvs.one
    cases dx with
    | tup s1 n hs => exact ⟨_, _, v, ps, p, rfl, rfl, sqF .refl s1, PyOfs.dp R h1 hs, h2.dp R dv, h1.shape.1, h2.flat, c.now R .int q⟩
  · exact h.elim
theorem de_tm {e' : Expr} {r : V → List V → Hp → VK → Prop} {rd : RMD} (h : PE X e' (tTM r (lE X.B W to) (lA X.B W t))) (hr : MtD X "tuple" r rd) : PE X e' (lE X.B W (dBM isTup rd to t)) :=
  PE.imp h fun σ H Q ⟨σd, M, Qd, E, S, R, t, c, cx⟩ => ⟨σd, M, _, E, S, R, t, fun d v M1 H1 dv R1 k1 ⟨⟨xs, hd⟩, q1⟩ => ⟨by
    subst hd
    cases dv with | tup s1 n hs => exact ⟨_, _, _, rfl, s1, n⟩, σd, M1, _, E, S.mono (k1.tups R), R1, q1, fun ds vs M2 H2 dvs R2 k2 q2 =>
    hr d ds v vs M2 H2 Qd Q (dv.mono (k2.tups R1)) dvs R2 q2 (c.after (k1.trans k2)), cx.after k1⟩, cx⟩

/-! ### repr -/
def rReprP (K : PySem.W.Frag) : List V → Hp → VK → Prop := fun xs H Q => ∃ x p, xs = [x] ∧ Dp K H x p ∧ p.plain = true ∧ p.depth ≤ 40 ∧ p.showable = true ∧ p.shown.length ≤ sizeLine ∧ Q (.str p.shown) H
mutual
theorem plain_noDict : ∀ {d : PyData}, d.plain = true → d.hasDict = false
  | .none, _ => rfl
  | .bool _, _ => rfl
  | .int _, _ => rfl
  | .str _, _ => rfl
  | .list xs, h => by simp only [PyData.plain] at h; simp only [PyData.hasDict]; exact plain_noDicts h
  | .tuple xs, h => by simp only [PyData.plain] at h; simp only [PyData.hasDict]; exact plain_noDicts h
  | .dict _, h => by simp [PyData.plain] at h
theorem plain_noDicts : ∀ {ds : List PyData}, PyData.plainAll ds = true → PyData.hasDictAll ds = false
  | [], _ => rfl
  | d :: ds, h => by
    simp only [PyData.plainAll, Bool.and_eq_true] at h
    simp only [PyData.hasDictAll, plain_noDict h.1, plain_noDicts h.2, Bool.or_false]
end
theorem call_reprP (st : Still X.A) (hu : X.A.units + 64 < cLine) : CallR X (.builtin "repr") (rReprP X.K) := by
  intro pins s σ H xs us Q I r h
  obtain ⟨x, p, rfl, hd, hpl, hdp, hs, hz, q⟩ := h
  obtain ⟨u, rfl, ru⟩ := r.one
  obtain ⟨as, rd⟩ := Dp.reads I p x u hd ru
  cases rd with
  | none => exact repr_of_none ⟨.str _, H, I.tok _, ⟨_, rfl⟩, q⟩
  | bool b => exact repr_of_bool ⟨.str _, H, I.tok _, ⟨_, rfl⟩, q⟩
  | int i t => exact repr_of_int (by simpa [PyData.showable] using hs) ⟨.str _, H, I.tok _, ⟨_, rfl⟩, q⟩
  | str y t => exact repr_of_str ⟨.str _, H, I.tok _, ⟨_, rfl⟩, q⟩ (by simpa only [PyData.shown] using hz)
  | list h1 h2 h3 h4 => exact repr_of_reads' (h₀ := s.heap) (.list h1 h2 h3 h4) hs (PyData.noDict_hsm (plain_noDict hpl)) st (by omega) (fun _ _ e => e) (fun h' u tk hk => ⟨.str _, H, I.kept (t' := tk) hk, ⟨_, rfl⟩, q⟩) hz
  | tuple h1 h2 h3 h4 => exact repr_of_reads' (h₀ := s.heap) (.tuple h1 h2 h3 h4) hs (PyData.noDict_hsm (plain_noDict hpl)) st (by omega) (fun _ _ e => e) (fun h' u tk hk => ⟨.str _, H, I.kept (t' := tk) hk, ⟨_, rfl⟩, q⟩) hz
  | dict => simp [PyData.plain] at hpl
def reprD : RLD := fun ds M Q => match ds with
  | [d] => ∃ p, PyOf M 20 d p ∧ p.showable = true ∧ p.shown.length ≤ sizeLine ∧ Q (.str p.shown) M
  | _ => False
theorem c_repr : CaD X (rReprP X.K) reprD := fun ds vs M H Qd Q dvs R h c => by
  unfold reprD at h
  split at h
  · obtain ⟨p, hp, h1, h2, q⟩ := h
    obtain ⟨v, rfl, dv⟩ := dvs.one
    exact ⟨v, p, rfl, hp.dp R dv, hp.flat.1, hp.flat.2, h1, h2, c.now R .str q⟩
  · exact h.elim

/-! ### isinstance -/
def typO : Option DO → Option String
  | some (.lst _) => some "list"
  | some (.dK _) => some "dict"
  | _ => none
def typD (d : D) (M : DM) : Option String := match d with
  | .non => some "NoneType"
  | .bl _ => some "bool"
  | .int _ => some "int"
  | .str _ => some "str"
  | .tup _ => some "tuple"
  | .pair _ => some "tuple"
  | .scr _ => none
  | .ref a => typO (M a)
theorem typD_ok {K : Bd} {d : D} {x : V} {M : DM} {H : Hp} {T : String} (R : Rel K M H) (dx : DV K H d x) (h : typD d M = some T) : TyX K H x (.type T) := by
  cases dx with
  | non => cases h; exact .base .non
  | bl => cases h; exact .base (.bl _)
  | int => cases h; exact .base (.int _)
  | str => cases h; exact .base (.str _)
  | tup s n hs => cases h; exact .fTuple s
  | pair s hs => cases h; exact .base (.tup s)
  | scr _ _ => cases h
  | ref =>
    rename_i a
    have h' : typO (M a) = some T := h
    cases e : M a with
    | none => rw [e] at h'; cases h'
    | some o =>
      rw [e] at h'
      obtain ⟨u, hu, r⟩ := R _ _ e
      cases r with
      | lst _ => cases h'; exact .base (.lst hu)
      | dK _ _ => cases h'; exact .base (.dK hu)
      | dT _ => cases h'
      | ins _ _ => cases h'
/-- isinstance(e, T), T a built-in class -/
def dIsi (ans : String → Option Bool) (te : TED) : TED := fun σ M Q E => te σ M (fun d M1 => ∃ U b, typD d M1 = some U ∧ ans U = some b ∧ Q (.bl b) M1) E
theorem de_isi {te : TED} {T x : Str} {T' : String} {e : Expr} {p p2 pos : Pos} {ans : String → Option Bool} (hk : ∀ U b, ans U = some b → PySem.W.kitOne X.K (.type U) (.type T') = some b) (hg : Gl X "isinstance") (hm : X.mg "isinstance" = none) (hg2 : Gl X x) (hm2 : X.mg x = none) (hv : bootBuiltins x = some (.type T')) (he : PE X e (lE X.B W te))
    (h : PA X [e, .Name x p2] (tCons (lE X.B W te) (tCons (tC (.ty T')) tNil)) → PE X (.Call (.Name "isinstance" p) [e, .Name x p2] [] pos) (tCB (rIsi X.K) (tCons (lE X.B W te) (tCons (tC (.ty T')) tNil))))
    (hpa : PE X e (lE X.B W te) → PE X (.Name x p2) (tC (.ty T')) → PA X [e, .Name x p2] (tCons (lE X.B W te) (tCons (tC (.ty T')) tNil))) (hn : x ≠ "__name__" := by decide) (hd : (x == ("__debug__" : Str)) = false := by decide) :
    PE X (.Call (.Name "isinstance" p) [e, .Name x p2] [] pos) (lE X.B W (dIsi ans te)) :=
  PE.imp (h (hpa he (pe_bltn hg2 hm2 hv rfl hn hd))) fun σ H Q ⟨σd, M, Qd, E, S, R, t, c, cx⟩ => ⟨σd, M, _, E, S, R, t, fun d v M1 H1 dv R1 k1 ⟨U, b, h1, h2, q1⟩ =>
    ⟨v, .ty T', .type U, .type T', b, rfl, .ty T', typD_ok R1 dv h1, hk U b h2, c _ _ M1 H1 .bl R1 k1 q1⟩, cx⟩

/-! ### dict(d), list(d) -/
def dicD : RLD := fun ds M Q => match ds with
  | [.ref a] => ∃ kvs, M a = some (.dK kvs) ∧ ∀ p, M p = none → Q (.ref p) (put M p (.dK kvs))
  | _ => False
theorem c_dic : CaD X (fun xs H Q => ∃ (a : Addr) (kvs : List (Key × V)), xs = [.ref a] ∧ Rd H a (.dK kvs) ∧ ∀ p, H p = none → Q (.ref p) (upd H p (.dK kvs))) dicD := fun ds vs M H Qd Q dvs R h c => by
  unfold dicD at h
  split at h
  · obtain ⟨kvs, ea, q⟩ := h
    obtain ⟨v, rfl, dv⟩ := dvs.one
    cases dv
    obtain ⟨kws, hu, pr⟩ := R.dK ea
    exact ⟨_, kws, rfl, .of hu, fun p hp => c _ _ _ _ .ref (R.new hp (.ofK pr)) (.new R hp _ _) (q p (R.free hp))⟩
  · exact h.elim

/-! ### items of lists, stored -/
theorem get_list : PGet X (rIxL X.K) := by
  intro pins s σ H x y v u Q I rx ry h
  obtain ⟨p, xs, i, z, rfl, rfl, hq, he, q⟩ := h
  obtain rfl : v = Value.ref p := rx
  obtain ⟨t, rfl⟩ := ry
  obtain ⟨its, r, pl, hz⟩ := I.list hq
  obtain ⟨j, h1, h2, h3, h4, h5⟩ := atI_get he
  obtain ⟨w, ew, rw'⟩ := r.get h2
  have hl := r.length
  have hn := line63
  rcases Int.lt_or_le i 0 with h0 | h0
  · have hj : (i + (its.toArray.size : Int)).toNat = j := by
      rw [seqIndex_neg h0 h4] at h1
      rw [List.size_toArray, ← hl]
      exact Option.some.inj h1
    exact wpAny_getItem_list_neg pl.isList h0 (by rw [List.size_toArray] <;> omega) (by omega) (by rw [hj]; simpa using ew) ⟨z, H, I, rw', q⟩
  · have hj : i.toNat = j := by
      rw [seqIndex_of h0 h5] at h1
      exact Option.some.inj h1
    exact wpAny_getItem_list pl.isList h0 (by omega) (by rw [hj]; simpa using ew) ⟨z, H, I, rw', q⟩
theorem op_pip {op : Operator} {r : R2} (h : OpR X (inplaceOp op) r) : PIp X op r := fun pins s σ H x y v u Q I rx ry hq => h pins s σ H x y v u Q I rx ry hq
/-- the list behind xs[i] = v -/
def setLD (M : DM) (o i v : D) (N : DM → Prop) : Prop := match o, i with
  | .ref a, .int k => ∃ xs j, M a = some (.lst xs) ∧ ixN xs.length k = some j ∧ N (put M a (.lst (xs.set j v)))
  | _, _ => False
theorem setLD_ok {M : DM} {H : Hp} {o i v : D} {x y z : V} {N : DM → Prop} {NH : Hp → Prop} (R : Rel X.B M H) (dx : DV X.B H o x) (dy : DV X.B H i y) (dz : DV X.B H v z) (h : setLD M o i v N) (n : ∀ M' H', Rel X.B M' H' → Keep M H M' H' → N M' → NH H') : rSetL x y z H NH := by
  unfold setLD at h
  split at h
  · obtain ⟨xs, j, ea, hj, q⟩ := h
    cases dx
    cases dy
    obtain ⟨ws, hu, hs⟩ := R.lst ea
    exact ⟨_, ws, _, j, rfl, rfl, hu, by rw [← hs.length]; exact hj, n _ _ (R.write ea (.lst (hs.set dz j))) (.write R ea _ _) q⟩
  · exact h.elim
/-- xs[i] = .., as a target -/
def gIx (to ti : TED) : TGD := fun v σ M Q E => to σ M (fun o M1 => ti σ M1 (fun i M2 => setLD M2 o i v (fun M3 => Q σ M3)) E) E
theorem dg_ix {o i : Expr} {to ti : TED} {vs : List Nat} {pos : Pos} (ho : PE X o (lE X.B w0 to)) (hi : PE X i (lE X.B w0 ti))
    (h : PE X o (lE X.B w0 to) → PE X i (lE X.B w0 ti) → PG X (.Subscript o i pos) (gSub (lE X.B w0 to) (lE X.B w0 ti) rSetL)) : PG X (.Subscript o i pos) (lG X.B w0 vs (gIx to ti)) :=
  PG.imp (h ho hi) fun v σ H Q ⟨d, σd, M, Qd, E, dv, S, R, t, c, cx⟩ => ⟨σd, M, _, E, S, R, t, fun d1 x M1 H1 dx R1 k1 q1 => ⟨σd, M1, _, E, S.mono (k1.tups R), R1, q1, fun d2 y M2 H2 dy R2 k2 q2 =>
    setLD_ok R2 (dx.mono (k2.tups R1)) dy (dv.mono ((k1.trans k2).tups R)) q2 fun M3 H3 R3 k3 q3 => c σd σ M3 H3 Off.refl (S.mono (((k1.trans k2).trans k3).tups R)) R3 ((k1.trans k2).trans k3) q3, cx.after k1⟩, cx⟩
theorem ixL_ok {M : DM} {H : Hp} {o i : D} {x y : V} {Qd : DQ} {Q : VK} (R : Rel X.B M H) (dx : DV X.B H o x) (dy : DV X.B H i y) (lst : ∃ a xs, o = .ref a ∧ M a = some (.lst xs)) (h : ixD o i M Qd) (c : CnE X.B M H Qd Q) : rIxL X.K x y H Q := by
  obtain ⟨a, xs, rfl, e⟩ := lst
  unfold ixD at h
  split at h
  · obtain ⟨ys, v, ea, hv, q⟩ := h
    rw [e] at ea; cases ea
    cases dx
    cases dy
    obtain ⟨ws, hu, hs⟩ := R.lst e
    obtain ⟨w, hw, r⟩ := hs.atI hv
    exact ⟨_, _, _, w, rfl, rfl, .of hu, hw, c.now R r q⟩
  · exact h.elim
theorem setLD_lst {M : DM} {o i v : D} {N : DM → Prop} (h : setLD M o i v N) : ∃ a xs, o = .ref a ∧ M a = some (.lst xs) := by
  unfold setLD at h
  split at h
  · obtain ⟨xs, j, ea, _⟩ := h; exact ⟨_, xs, rfl, ea⟩
  · exact h.elim
/-- xs[i] op= e -/
def dIxAug (rd : R2D) (to ti te : TED) : TSD := fun D σ M => to σ M (fun o M1 => ti σ M1 (fun i M2 => (∃ a xs, o = .ref a ∧ M2 a = some (.lst xs)) ∧ ixD o i M2 (fun x M3 => te σ M3 (fun y M4 => rd x y M4 (fun z M5 => setLD M5 o i z (fun M6 => D.nx σ M6))) (D.ex σ))) (D.ex σ)) (D.ex σ)
theorem ds_ixaug {o i e : Expr} {to ti te : TED} {op : Operator} {r : R2} {rd : R2D} {pos tpos : Pos} (hr : OpD X r rd) (ho : PE X o (lE X.B W to)) (hi : PE X i (lE X.B W ti)) (he : PE X e (lE X.B W te)) (hp : PIp X op r)
    (h : PE X o (lE X.B W to) → PE X i (lE X.B W ti) → PE X e (lE X.B W te) → PIp X op r → PS X (.AugAssign (.Subscript o i tpos) op e pos) (tAugS (lE X.B W to) (lE X.B W ti) (lE X.B W te) (rIxL X.K) r rSetL)) : PS X (.AugAssign (.Subscript o i tpos) op e pos) (lS X.B W (dIxAug rd to ti te)) :=
  PS.imp (h ho hi he hp) fun D σ H ⟨σd, M, Dd, S, R, t, c⟩ => ⟨σd, M, _, _, S, R, t, fun d1 x M1 H1 dx R1 k1 q1 => ⟨σd, M1, _, _, S.mono (k1.tups R), R1, q1, fun d2 y M2 H2 dy R2 k2 ⟨lst, q2⟩ =>
    ixL_ok R2 (dx.mono (k2.tups R1)) dy lst q2 fun d3 z M3 H3 dz R3 k3 q3 => by
      have k13 := (k1.trans k2).trans k3
      refine ⟨σd, M3, _, _, S.mono (k13.tups R), R3, q3, fun d4 u M4 H4 du R4 k4 q4 => hr d3 d4 z u M4 H4 _ _ (dz.mono (k4.tups R3)) du R4 q4 fun d5 v M5 H5 dv R5 k5 q5 => ?_, (c.cx S R).after k13⟩
      have k25 := ((k2.trans k3).trans k4).trans k5
      exact setLD_ok R5 (dx.mono (k25.tups R1)) (dy.mono (((k3.trans k4).trans k5).tups R2)) dv q5 fun M6 H6 R6 k6 q6 => c.nx σd σ M6 H6 (S.mono (((k13.trans k4).trans k5).trans k6 |>.tups R)) R6 (((k13.trans k4).trans k5).trans k6) q6, (c.cx S R).after k1⟩, c.cx S R⟩

/-! ### attributes as targets -/
def gFd (K : Bd) (f : Str) (to : TED) : TGD := fun v σ M Q E => to σ M (fun d M1 => ∃ a C fs, d = .ref a ∧ M1 a = some (.ins C fs) ∧ Cls K C ∧ NoAttr K C f ∧ fs.length < 1000 ∧ Q σ (put M1 a (.ins C (putFD f v fs)))) E
def gFld (K : PySem.W.Frag) (f : Str) (to : TE) : L2.TG := fun v σ H Q => to σ H fun x H1 => ∃ a C dx fs, x = .ref a ∧ H1 a = some (.ins C dx fs) ∧ Cls K C ∧ NoAttr K C f ∧ fs.length < 1000 ∧ Q σ (upd H1 a (.ins C dx (putF f v fs)))
theorem pg_fld {o : Expr} {f : Str} {to : TE} {pos : Pos} (ho : PE X o to) : PG X (.Attribute o f pos) (gFld X.K f to) := by
  constructor
  intro pins s σ H v u Q I r h
  rw [assign_Attribute]
  refine wpAny_bind (wpAny_holding (thn (ho.run pins s σ H _ I h) ?_))
  rintro ov s1 ⟨x, H1, I1, rx, a, C, dx, fs, rfl, ea, cl, na, hl, q⟩
  obtain rfl : ov = Value.ref a := rx
  refine wpAny_bind (wpAny_standAt (wpAny_bind (wpAny_holding (setattr_ok I1 ea cl na hl r fun s2 I2 => ?_))))
  exact wpAny_release ⟨σ, _, I2, q⟩
theorem dg_fld {o : Expr} {f : Str} {to : TED} {vs : List Nat} {pos : Pos} (ho : PE X o (lE X.B w0 to)) : PG X (.Attribute o f pos) (lG X.B w0 vs (gFd X.B f to)) :=
  PG.imp (pg_fld ho) fun v σ H Q ⟨d, σd, M, Qd, E, dv, S, R, t, c, cx⟩ => ⟨σd, M, _, E, S, R, t, fun d1 x M1 H1 dx R1 k1 ⟨a, C, fs, hd, e, cl, na, hl, q⟩ => by
    subst hd; cases dx
    obtain ⟨dx, gs, hu, pr⟩ := R1.ins e
    have kk := k1.trans (Keep.write R1 e (.ins C (putFD f d fs)) (.ins C dx (putF f v gs)))
    exact ⟨a, C, dx, gs, rfl, hu, cl, na, by rw [← pr.length]; exact hl, c σd σ _ _ .refl (S.mono (kk.tups R)) (R1.write e (.ofI (pr.putF f (dv.mono (k1.tups R))))) kk q⟩, cx⟩
end
end Dt

set_option Elab.async false
set_option autoImplicit false
set_option linter.all false
set_option maxRecDepth 100000
set_option maxHeartbeats 4000000
/-! DN: a dict of one written pair with a tuple for a key; three names stored at once. -/
namespace Dt
open PySem PySem.Spec PyProof.Rows L2 LamX RZ PySem.P

section
variable {X : Cx}
/-- {k: v}, k a tuple -/
def tOneT (X : Cx) (tk tv : TE) : TE := fun σ H Q => ∀ p, H p = none → tk σ (upd H p (tdO X.prog X.w p [])) fun x H1 => tv σ H1 fun y H2 => ∃ b k, x = .ref b ∧ DV X.B H2 (nkD k) (.ref b) ∧ k.depth ≤ 8 ∧ H2 p = some (tdO X.prog X.w p []) ∧ ∀ r, RelV y r → Q (.ref p) (upd H2 p (tdO X.prog X.w p [(k, b, r)]))
theorem pe_oneT {k v : Expr} {pos : Pos} {tk tv : TE} (hu : X.A.units + 64 < cLine) (hk : PE X k tk) (hv : PE X v tv) : PE X (.Dict [some k] [v] pos) (tOneT X tk tv) := by
  constructor
  intro pins s σ H Q I h
  have hn := I.hok.fresh (Nat.le_refl s.heap.objs.size)
  have big : (s.heap.objs.size == sysModules) = false := beq_eq_false_iff_ne.mpr (Ne.symm (Nat.ne_of_lt I.big))
  have I1 := I.laid (a := s.heap.objs.size) (o := tdO X.prog X.w s.heap.objs.size []) (h' := s.heap.push { cls := .type "dict", data := .dict #[] }) (t' := s.toks) (fun _ _ q => Heap.get?_push_of_some _ q) (Nat.le_refl _)
    (td_ok (Nat.zero_le _) big ⟨_, #[], 0, Heap.get?_push_size _ rfl, ⟨rfl, rfl, rfl⟩, rfl, rfl, (fun x hx => nomatch hx), List.nodup_nil⟩)
  have hz := zip_pairTrees [some k] [v] X.env pos rfl rfl
  rw [arm_eval_Dict, hz, dictDisplay_pairs _ (by intro z; exact nomatch z) (by show 1 < 17; decide)]
  refine wpAny_bind (wpAny_standAt (wpAny_bind ?_))
  refine wpAny_subDictH (knd := nestedKind X.prog X.w) (Q := fun d s' => wpAny (model X.prog X.w) X.A (pure (Value.ref d)) (EP X pins σ Q) X.xe s') (by show X.A.units + 8 < cLine; omega) (by show 1 ≤ 15; decide) ?_
  refine pairTrees_cons_walk (thn (hk.run pins _ σ _ _ I1 (h _ hn)) ?_)
  rintro kv s2 ⟨x, H1, I2, rx, q1⟩
  refine thn (hv.run pins s2 σ H1 _ I2 q1) ?_
  rintro vv s3 ⟨y, H2, I3, ry, b, key, rfl, hb, hd, hp, q2⟩
  refine pairTrees_nil_walk ?_
  obtain rfl : kv = Value.ref b := rx
  obtain ⟨_, _, dd⟩ := td_dict I3 hp (fun x hx => nomatch hx)
  refine ⟨[(key, b, vv)], ⟨rfl, rfl, ⟨dv_nested I3 key _ _ hb rfl, hd⟩, True.intro⟩, dd, fun h' tk dd' hs => wpAny_pure ⟨.ref s.heap.objs.size, _, ?_, rfl, q2 vv ry⟩⟩
  have he : ∃ q, h'.get? s.heap.objs.size = some q := let ⟨q, _, _, hq, _⟩ := dd'; ⟨q, hq⟩
  exact d_write I3 (by rw [hp]; exact True.intro) hs he (td_ok (by show 1 ≤ sizeLine; decide) big dd')
variable {W : WX}
def dOneT (tk tv : TED) : TED := fun σ M Q E => tk σ M (fun d M1 => tv σ M1 (fun e M2 => ∃ ds k, d = .tup ds ∧ keyN (.tup ds) = some k ∧ k.depth ≤ 8 ∧ ∀ p, M2 p = none → Q (.ref p) (put M2 p (.dT [(k, e)]))) E) E
theorem td_ne {P : Program} {w : World} {p : Addr} {xs : List (NestedKey × Addr × Value)} : (∀ ys, tdO P w p xs ≠ .tup ys) ∧ (∀ o ys, tdO P w p xs ≠ .frz o ys) ∧ ((∀ ps, tdO P w p xs ≠ .tbl ps) ∧ ∀ q, CodeO p q ≠ tdO P w p xs) := ⟨(fun _ z => nomatch z), (fun _ _ z => nomatch z), ⟨(fun _ z => nomatch z), fun q => code_ne_td⟩⟩
theorem de_oneT {k v : Expr} {pos : Pos} {tk tv : TED} (hu : X.A.units + 64 < cLine) (hk : PE X k (lE X.B W tk)) (hv : PE X v (lE X.B W tv)) : PE X (.Dict [some k] [v] pos) (lE X.B W (dOneT tk tv)) :=
  PE.imp (pe_oneT hu hk hv) fun σ H Q ⟨σd, M, Qd, E, S, R, t, c, cx⟩ p hp => by
    have R0 := R.hidden hp (tdO X.prog X.w p [])
    have k0 := Keep.hidden R hp (tdO X.prog X.w p [])
    have mp : M p = none := R.free hp
    refine ⟨σd, M, _, E, S.mono (k0.tups R), R0, t, fun d x M1 H1 dx R1 k1 q1 => ⟨σd, M1, _, E, S.mono ((k0.trans k1).tups R), R1, q1, fun e y M2 H2 ey R2 k2 ⟨ds, key, hd, h1, h2, q2⟩ => ?_, (cx.after k0).after k1⟩, cx.after k0⟩
    subst hd
    have k12 := k1.trans k2
    have hP := k12.hid p _ upd_same mp td_ne.2.2.1
    have mP := (k12.out p _ upd_same mp td_ne.2.2.1)
    have dk := dx.mono (k2.tups R1)
    rw [keyN_eq h1] at dk
    cases x with
    | ref b =>
      refine ⟨b, key, rfl, dk, h2, hP, fun r rr => ?_⟩
      have tq := tups_hput hP td_ne.1 td_ne.2.1 (tdO X.prog X.w p [(key, b, r)])
      have kp : KeepP p M H M2 H2 := ⟨fun a u h n t => k12.hid a u (by rw [upd_ne (ne_of_none h hp)]; exact h) n t, fun a u h n t => k12.out a u (by rw [upd_ne (ne_of_none h hp)]; exact h) n t, hp⟩
      have kw : KeepP p M H M2 (upd H2 p (tdO X.prog X.w p [(key, b, r)])) := kp.write _
      have Rn : Rel X.B M2 (upd H2 p (tdO X.prog X.w p [(key, b, r)])) := R2.hput hP mP td_ne.1 td_ne.2.1 td_ne.2.2.1 (fun q z => td_ne.2.2.2 q z.symm) _
      exact c _ _ _ _ .ref (Rn.come upd_same (.dT (.cons (dk.mono tq) h2 (ey.mono tq) rr .nil))) (kw.done _) (q2 p mP)
    | _ => rw [← keyN_eq h1] at dk; nomatch dk

/-! ### x, y, z = a, b, c -/
def dPar3 (i j l : Nat) (ta : TAD) : TSD := fun D σ M => ta σ M (fun ds M1 => match ds with
  | [d, e, f] => D.nx (setS (setS (setS σ i d) j e) l f) M1
  | _ => False) (D.ex σ)
def tPar3 (i j l : Nat) (ta : TA) : TS := fun D σ H => ta σ H fun vs H1 => ∃ x y z, vs = [x, y, z] ∧ D.nx (((σ.set i (some x)).set j (some y)).set l (some z)) H1
theorem ps_par3 {i j l : Nat} {x y z : Str} {a b c : Expr} {ta : TA} {px py pz pt : Pos} {kt k2 pt2} {pos : Pos} (hc : X.calm = true) (hN : X.N.Nodup) (hi : X.N[i]? = some x) (hj : X.N[j]? = some y) (hl : X.N[l]? = some z) (hij : i ≠ j) (hil : i ≠ l) (hjl : j ≠ l)
    (hx : X.env.scope.names.lookup x = some .local) (hy : X.env.scope.names.lookup y = some .local) (hz : X.env.scope.names.lookup z = some .local) (ha : PA X [a, b, c] ta)
    (hw : swappedStores [.Tuple [.Name x px, .Name y py, .Name z pz] kt pt] (.Tuple [a, b, c] k2 pt2) X.env = pure (some [x, y, z]))
    (hs : swapsWithSole [.Tuple [.Name x px, .Name y py, .Name z pz] kt pt] (.Tuple [a, b, c] k2 pt2) pos.line X.env = pure false := by rfl) :
    PS X (.Assign [.Tuple [.Name x px, .Name y py, .Name z pz] kt pt] (.Tuple [a, b, c] k2 pt2) pos) (tPar3 i j l ta) := by
  constructor
  intro pins s σ H D I h
  rw [exec_Assign_arm]
  refine wpAny_bind (wpAny_standAt ?_)
  rw [hs]
  refine wpAny_bind (wpAny_pure ?_)
  rw [if_neg (by decide)]
  refine wpAny_bind (Tuple_ (thn (ha.run _ pins s σ H _ I h) ?_))
  rintro us s1 ⟨vs, H1, I1, r1, v1, v2, v3, rfl, q1⟩
  match us, r1 with
  | [u1, u2, u3], .cons ra (.cons rb (.cons rc .nil)) =>
  refine wpAny_newObj_type ?_ (by show 3 ≤ sizeLine; decide)
  have I2 : Inv X pins σ H1 { s1 with heap := s1.heap.push { cls := .type "tuple", data := .seq [u1, u2, u3].toArray } } := I1.kept (t' := s1.toks) fun b o e => Heap.get?_push_of_some _ e
  rw [hw]
  refine wpAny_bind (wpAny_pure ?_)
  show wpAny (model X.prog X.w) X.A (do rule "assign.swapped-stores"; let items ← unpackItems (.ref s1.heap.objs.size) 3 none; assignInOrder [fun v => bindName X.env z v, fun v => bindName X.env y v, fun v => bindName X.env x v] items.reverse; pure Flow.next) _ _ _
  refine wpAny_bind (wpAny_rule (wpAny_bind (unpackItems_tuple (items := #[u1, u2, u3]) (I.ok.hd hc) (IsTup.new s1.heap _) fun h' hx' => ?_)))
  have I3 := I2.kept (h' := h') (t' := s1.toks) fun b o e => hx' b o (Nat.ne_of_lt (Heap.lt_size e)) e
  show wpAny _ _ (assignInOrder [fun v => bindName X.env z v, fun v => bindName X.env y v, fun v => bindName X.env x v] [u3, u2, u1] >>= fun _ => pure Flow.next) _ _ _
  refine wpAny_bind (assignInOrder_cons (wpAny_bindName (store_ok I3 hN hl (.inl hz) rc (fun s2 I4 => ?_) (.inr hz))))
  refine assignInOrder_cons (wpAny_bindName (store_ok I4 hN hj (.inl hy) rb (fun s3 I5 => ?_) (.inr hy)))
  refine assignInOrder_cons (wpAny_bindName (store_ok I5 hN hi (.inl hx) ra (fun s4 I6 => assignInOrder_nil (wpAny_pure ?_)) (.inr hx)))
  have e : (((σ.set l (some v3)).set j (some v2)).set i (some v1)) = (((σ.set i (some v1)).set j (some v2)).set l (some v3)) := by
    rw [List.set_comm _ _ (Ne.symm hjl), List.set_comm _ _ (Ne.symm hil), List.set_comm _ _ (Ne.symm hij)]
  rw [e] at I6
  exact ⟨_, H1, I6, q1⟩
theorem ds_par3 {st : Stmt} {ta : TAD} {i j l : Nat} (h : PS X st (tPar3 i j l (lA X.B W ta))) : PS X st (lS X.B W (dPar3 i j l ta)) := PS.imp h fun D σ H ⟨σd, M, Dd, S, R, t, c⟩ =>
  ⟨σd, M, _, _, S, R, t, fun ds vs M1 H1 dvs R1 k1 q => by
    match ds, vs, dvs, q with
    | [d, e, f], [v, w, z], .cons a (.cons b (.cons g .nil)), q => exact ⟨v, w, z, rfl, c.nx _ _ M1 H1 ((((S.mono (k1.tups R)).set a i).set b j).set g l) R1 k1 q⟩, c.cx S R⟩
end
end Dt

set_option Elab.async false
set_option autoImplicit false
set_option linter.all false
set_option maxRecDepth 100000
set_option maxHeartbeats 4000000
/-! DO: dict comprehensions of two clauses; name = a dict comprehension. -/
namespace Dt
open PySem PySem.Spec PyProof.Rows L2 LamX RZ PySem.P

section
variable {prog : Program} {w : World} {A : Around} {R : Result → Shared → Prop} {s : Shared} {kx vx t0 i0 t1 i1 : Expr} {ifs0 ifs1 : List Expr} {scope : Scope} {pos : Pos} {it : Value} {D : Addr} {env : Env}
abbrev dc2E (kx vx t0 i0 t1 i1 : Expr) (ifs0 ifs1 : List Expr) (scope : Scope) (pos : Pos) : Expr := .DictComp kx vx [⟨t0, i0, ifs0, 0⟩, ⟨t1, i1, ifs1, 0⟩] scope pos
abbrev tests (env : Env) (cs : List Expr) : Sem Bool := forIn cs true fun c r => if r = true then do let ok ← isTrue c env (eval c env); pure (ForInStep.yield ok) else pure (ForInStep.yield r)
theorem turn_out (acc : Value) : compTurn (dc2E kx vx t0 i0 t1 i1 ifs0 ifs1 scope pos) 0 it acc env = (do
    standAt i0.pos
    match ← pyNext it with
    | none => pure (.done .next)
    | some v =>
      letOwnedTupleGo t0 it v
      assign t0 env v
      let mut ok := true
      for c in ifs0 do
        if ok then ok ← isTrue c env (eval c env)
      if ok then
        let x ← eval i1 env
        standAt i1.pos
        let x ← foldedSetIterable i1 env x
        let _ ← runOwn (.compStart (dc2E kx vx t0 i0 t1 i1 ifs0 ifs1 scope pos) 1 (← holding [x] (pyIter x)) acc env) env
      again (.compLoop (dc2E kx vx t0 i0 t1 i1 ifs0 ifs1 scope pos) 0 it acc env)) := by rfl
theorem turn_in : compTurn (dc2E kx vx t0 i0 t1 i1 ifs0 ifs1 scope pos) 1 it (.ref D) env = (do
    standAt i1.pos
    match ← pyNext it with
    | none => pure (.done .next)
    | some v =>
      letOwnedTupleGo t1 it v
      assign t1 env v
      let mut ok := true
      for c in ifs1 do
        if ok then ok ← isTrue c env (eval c env)
      if ok then
        (do
          let kv ← eval kx env
          let vv ← holding [kv] (eval vx env)
          standAt { kx.pos with endLine := vx.pos.endLine, endCol := vx.pos.endCol }
          holding [kv, vv] (dictSet D kv vv))
      again (.compLoop (dc2E kx vx t0 i0 t1 i1 ifs0 ifs1 scope pos) 1 it (.ref D) env)) := by rfl
/-- what raises leaves the loop -/
abbrev out (prog : Program) (w : World) (A : Around) (env : Env) (R : Result → Shared → Prop) : Value → Shared → Prop := notedBy (model prog w) A env fun e s' => R (.error e) s'
theorem loop_out (hs : ∀ x, foldedSetIterable i1 env x = pure x) (acc : Value) (J : Nat → Shared → Prop)
    (turn : ∀ n s, J n s → wpAny (model prog w) A (pyNext it) (fun r s1 => match r with
      | none => R (.ok .next) s1
      | some v => wpAny (model prog w) A (letOwnedTupleGo t0 it v) (fun _ s2 => wpAny (model prog w) A (assign t0 env v) (fun _ s3 => wpAny (model prog w) A (tests env ifs0) (fun ok s4 =>
          if ok = true then wpAny (model prog w) A (eval i1 env) (fun x s5 => wpAny (model prog w) A (pyIter x) (fun it1 s6 =>
            codeAny (model prog w) A (.compStart (dc2E kx vx t0 i0 t1 i1 ifs0 ifs1 scope pos) 1 it1 acc env) (fun r s' => match r with
              | .ok _ => ∃ m, m < n ∧ J m s'
              | .error _ => False) s6) (out prog w A env R) s5) (out prog w A env R) s4
          else ∃ m, m < n ∧ J m s4) (out prog w A env R) s3) (out prog w A env R) s2) (out prog w A env R) s1) (out prog w A env R) s)
    (n : Nat) (h : J n s) : codeAny (model prog w) A (.compLoop (dc2E kx vx t0 i0 t1 i1 ifs0 ifs1 scope pos) 0 it acc env) R s := by
  refine codeAny_loop rfl J ?_ n h
  intro n s hJ
  show wpAny _ A ((compTurn (dc2E kx vx t0 i0 t1 i1 ifs0 ifs1 scope pos) 0 it acc env).onRaise (fun x => do noteFrame x env; theTreesLotGoes x)) _ _ s
  apply wpAny_noted
  rw [turn_out]
  apply wpAny_bind; apply wpAny_standAt; apply wpAny_bind
  refine wpAny_mono (turn n s hJ) ?_ fun _ _ z => z
  rintro (_ | v) s1 h1
  · exact wpAny_pure h1
  apply wpAny_bind
  refine wpAny_mono h1 (fun _ s2 h2 => wpAny_bind (wpAny_mono h2 (fun _ s3 h3 => wpAny_bind (wpAny_mono h3 ?_ fun _ _ z => z)) fun _ _ z => z)) fun _ _ z => z
  rintro (_ | _) s4 h4
  · exact wpAny_pure ⟨rfl, h4⟩
  apply wpAny_bind
  refine wpAny_mono h4 (fun x s5 h5 => wpAny_bind (wpAny_standAt (wpAny_bind (wpAny_of_eq (hs x) (wpAny_bind (wpAny_holding (wpAny_mono h5 ?_ fun _ _ z => z))))))) fun _ _ z => z
  intro it1 s6 h6
  refine wpAny_bind (wpAny_runOwn ?_)
  rw [Around.mark_none]
  refine codeAny_mono h6 ?_
  rintro (e | f) s' hr
  · exact hr.elim
  · first
      | exact wpAny_pure ⟨rfl, hr⟩
      | exact wpAny_bind (wpAny_pure (wpAny_pure ⟨rfl, hr⟩))
theorem loop_in (J : Nat → Shared → Prop)
    (turn : ∀ n s, J n s → wpAny (model prog w) A (pyNext it) (fun r s1 => match r with
      | none => R (.ok .next) s1
      | some v => wpAny (model prog w) A (letOwnedTupleGo t1 it v) (fun _ s2 => wpAny (model prog w) A (assign t1 env v) (fun _ s3 => wpAny (model prog w) A (tests env ifs1) (fun ok s4 =>
          if ok = true then wpAny (model prog w) A (eval kx env) (fun kv s5 => wpAny (model prog w) A (eval vx env) (fun vv s6 =>
            wpAny (model prog w) A (dictSet D kv vv) (fun _ s7 => ∃ m, m < n ∧ J m s7) (out prog w A env R) s6) (out prog w A env R) s5) (out prog w A env R) s4
          else ∃ m, m < n ∧ J m s4) (out prog w A env R) s3) (out prog w A env R) s2) (out prog w A env R) s1) (out prog w A env R) s)
    (n : Nat) (h : J n s) : codeAny (model prog w) A (.compLoop (dc2E kx vx t0 i0 t1 i1 ifs0 ifs1 scope pos) 1 it (.ref D) env) R s := by
  refine codeAny_loop rfl J ?_ n h
  intro n s hJ
  show wpAny _ A ((compTurn (dc2E kx vx t0 i0 t1 i1 ifs0 ifs1 scope pos) 1 it (.ref D) env).onRaise (fun x => do noteFrame x env; theTreesLotGoes x)) _ _ s
  apply wpAny_noted
  rw [turn_in]
  apply wpAny_bind; apply wpAny_standAt; apply wpAny_bind
  refine wpAny_mono (turn n s hJ) ?_ fun _ _ z => z
  rintro (_ | v) s1 h1
  · exact wpAny_pure h1
  apply wpAny_bind
  refine wpAny_mono h1 (fun _ s2 h2 => wpAny_bind (wpAny_mono h2 (fun _ s3 h3 => wpAny_bind (wpAny_mono h3 ?_ fun _ _ z => z)) fun _ _ z => z)) fun _ _ z => z
  rintro (_ | _) s4 h4
  · exact wpAny_pure ⟨rfl, h4⟩
  exact wpAny_bind (wpAny_bind (wpAny_mono h4 (fun kv s5 h5 => wpAny_bind (wpAny_holding (wpAny_mono h5 (fun vv s6 h6 => wpAny_bind (wpAny_standAt (wpAny_holding (wpAny_mono h6 (fun _ s7 h7 => wpAny_pure ⟨rfl, h7⟩) fun _ _ z => z)))) fun _ _ z => z))) fun _ _ z => z))
theorem start_in {acc : Value} (h0 : codeAny (model prog w) A (.compLoop (dc2E kx vx t0 i0 t1 i1 ifs0 ifs1 scope pos) 1 it acc env) R s)
    (h : wpAny (model prog w) A (pyIter it) (fun it' s' => codeAny (model prog w) A (.compLoop (dc2E kx vx t0 i0 t1 i1 ifs0 ifs1 scope pos) 1 it' acc env) R s') (out prog w A env R) s) :
    codeAny (model prog w) A (.compStart (dc2E kx vx t0 i0 t1 i1 ifs0 ifs1 scope pos) 1 it acc env) R s := by
  apply codeAny_of_tree
  show wpAny _ _ ((compStart (dc2E kx vx t0 i0 t1 i1 ifs0 ifs1 scope pos) 1 it acc env).onRaise (fun x => do noteFrame x env; standAt theWindowsPlace)) _ _ s
  apply wpAny_notedAt
  unfold compStart
  show wpAny _ _ (ask >>= _) _ _ s
  refine wpAny_bind (wpAny_askSetting (wpAny_ite ?_))
  split
  · first
      | exact wpAny_bind (wpAny_pure (wpAny_pure (And.intro rfl h0)))
      | exact wpAny_pure (And.intro rfl h0)
  · first
      | exact wpAny_bind (wpAny_rule (wpAny_bind (wpAny_standAt (wpAny_bind (wpAny_mono h (fun _ _ q => wpAny_pure (And.intro rfl q)) fun _ _ z => z)))))
      | (refine wpAny_bind (wpAny_rule ?_); show wpAny _ _ (standAt i1.pos >>= _) _ _ s; exact wpAny_bind (wpAny_standAt (wpAny_bind (wpAny_mono h (fun _ _ q => wpAny_pure (And.intro rfl q)) fun _ _ z => z))))
end
section
variable {X : Cx}
/-- {k: v for tg in iter if .. for tg1 in iter1 if ..} -/
def tDc2 (wi : TI) (g : L2.TG) (tt : TT) (wi1 : TI) (g1 : L2.TG) (tt1 : TT) (tk tv : TE) (vs vs1 : List Nat) : TE := fun σ H Q => wi σ H fun J H1 => ∀ D, H1 D = none → ∃ W : Nat → Nat → Hp → Prop, (∃ m, W 0 m (upd H1 D (.dK []))) ∧ ∀ i m H, W i m H →
  (J.stop i H ∧ Q (.ref D) H) ∨ (J.go i H ∧ ∃ Nx : Hp → Prop, (∀ H', Nx H' → ∃ m', m' < m ∧ W (i + 1) m' H') ∧ ∀ x H', J.yld i H x H' → g x (L2.wipe σ vs) H' fun σ2 H2 => L2.wipe σ2 vs = L2.wipe σ vs ∧ tt σ2 H2 fun b H3 =>
    if b = true then wi1 σ2 H3 fun J1 H4 => ∃ W1 : Nat → Nat → Hp → Prop, (∃ m, W1 0 m H4) ∧ ∀ j k H, W1 j k H →
      (J1.stop j H ∧ Nx H) ∨ (J1.go j H ∧ ∃ Nx1 : Hp → Prop, (∀ H', Nx1 H' → ∃ k', k' < k ∧ W1 (j + 1) k' H') ∧ ∀ x H', J1.yld j H x H' → g1 x (L2.wipe σ2 vs1) H' fun σ3 H5 => L2.wipe σ3 vs1 = L2.wipe σ2 vs1 ∧ tt1 σ3 H5 fun b H6 =>
        if b = true then tk σ3 H6 fun y H7 => tv σ3 H7 fun z H8 => ∃ kvs k, y = kV k ∧ H8 D = some (.dK kvs) ∧ kvs.length < sizeLine ∧ Nx1 (upd H8 D (.dK (putK kvs k z))) else Nx1 H6)
    else Nx H3)
abbrev InB (X : Cx) (scope : Scope) (P : Cx → Prop) : Prop := ∀ (s : Shared) (H : Hp) (C : Addr) (cl : List (Str × Addr)) (fp : List Addr), P (X.blk s H scope (compEnvC scope cl C X.env) fp)
theorem dc2_core {pins : List (Addr × Obj)} {s : Shared} {σ : L2.St} {H : Hp} {Q : VK} {kx vx tg iter tg1 iter1 : Expr} {ifs ifs1 : List Expr} {scope : Scope} {own : List (Str × Nat)} {vs1 : List Nat} {pos pos' : Pos} {wi wi1 : TI} {g g1 : L2.TG} {tt tt1 : TT} {tk tv : TE} {use : Option (Value → Sem Unit)} {Qf : Value → Shared → Prop}
    (calm : X.calm = true) (nd : X.N.Nodup) (I : Inv X pins σ H s) (hi : PI X tg iter wi) (ok : BlkOk X.N X.env.scope scope own) (hv : ∀ i ∈ vs1, i ∈ own.map (·.2))
    (hg : InB X scope fun Y => PG Y tg g) (ht : InB X scope fun Y => PTs Y ifs tt) (hi1 : InB X scope fun Y => PI Y tg1 iter1 wi1) (hg1 : InB X scope fun Y => PG Y tg1 g1) (ht1 : InB X scope fun Y => PTs Y ifs1 tt1)
    (hk : InB X scope fun Y => PE Y kx tk) (he : InB X scope fun Y => PE Y vx tv) (hs : ∀ x, foldedSetIterable iter X.env x = pure x) (hs1 : ∀ env x, foldedSetIterable iter1 env x = pure x)
    (h : tDc2 wi g tt wi1 g1 tt1 tk tv (own.map (·.2)) vs1 σ H Q)
    (fin : ∀ D C s' m H', Inv X pins σ H' s' → Q (.ref D) H' → s'.heap.Ns C m → FpOk X pins H' C → compPost (model X.prog X.w) X.A X.xe use Qf (.ref D) C (.ok .next) s') :
    wpAny (model X.prog X.w) X.A (comprehension (dc2E kx vx tg iter tg1 iter1 ifs ifs1 scope pos) scope X.env pos' newDict false (eval iter X.env) use) Qf X.xe s := by
  have cells : ∀ y ∈ scope.names, y.2 = .free → ∃ c, X.env.cells.lookup y.1 = some c := fun y hy e => (ok.free y hy e).elim (fun k => I.ok.has _ (.inl k)) fun k => I.ok.has _ (.inr k)
  refine wpAny_comprehension_free (use := use) rfl hs (closure_ok cells) ok.kind (fun y hy e => by rw [ok.uniq y hy, e]) (thn (hi.run pins s σ H _ I h) fun xv s1 hx => thn hx ?_)
  rintro itv s2 ⟨it, fp, tn, J, H2, rfl, I2, T, st2, f2, q⟩
  refine wpAny_newObj_type (newEnv_comp ?_)
  obtain ⟨D, hD⟩ : ∃ D, s2.heap.objs.size = D := ⟨_, rfl⟩
  rw [hD]
  obtain ⟨W, ⟨m0, w0⟩, turn⟩ := q D (I2.hok.fresh (Nat.le_of_eq hD))
  obtain ⟨s3, hs3⟩ : ∃ s3 : Shared, { s2 with heap := s2.heap.push { cls := .type "dict", data := .dict #[] } } = s3 := ⟨_, rfl⟩
  rw [hs3]
  have h3 : s3.heap = s2.heap.push { cls := .type "dict", data := .dict #[] } := by rw [← hs3]
  have I3 : Inv X pins σ (upd H2 D (.dK [])) s3 := by
    rw [← hs3]
    refine I2.laid (t' := s2.toks) (fun b o e => Heap.get?_push_of_some _ e) (Nat.le_of_eq hD) ?_
    rw [← hD]
    exact dk_empty s2.heap I2.big
  have f3 : ∀ b ∈ fp, FpOk X pins (upd H2 D (.dK [])) b ∧ b < s3.heap.objs.size := fun b hb => by
    obtain ⟨o, e, _⟩ := T.obj _ _ st2 b hb
    have lt := Heap.lt_size e
    refine ⟨⟨?_, (f2 b hb).2⟩, by rw [h3, Heap.size_push]; exact Nat.lt_succ_of_lt lt⟩
    rw [upd_ne (by rw [← hD]; exact Nat.ne_of_lt lt)]
    exact (f2 b hb).1
  have st3 : tn 0 s3.heap := T.keep _ _ _ st2 fun b _ o e => by rw [h3]; exact Heap.get?_push_of_some _ e
  have I4 := block_start I3 ok nd f3
  have nfp : ∀ b ∈ fp, (upd H2 D (.dK [])) b = none := fun b hb => (f3 b hb).1.1
  obtain ⟨H3, hH3⟩ : ∃ H3 : Hp, upd H2 D (.dK []) = H3 := ⟨_, rfl⟩
  rw [hH3] at I3 I4 w0 nfp f3
  obtain ⟨cl, hcl⟩ : ∃ cl, cellsFrom (s3.heap.objs.size + 1) scope.names (cloFrom X.env.cells scope.names []) = cl := ⟨_, rfl⟩
  rw [hcl] at I4
  have pg := hg s3 H3 s3.heap.objs.size cl fp
  have pt := ht s3 H3 s3.heap.objs.size cl fp
  have pi1 := hi1 s3 H3 s3.heap.objs.size cl fp
  have pg1 := hg1 s3 H3 s3.heap.objs.size cl fp
  have pt1 := ht1 s3 H3 s3.heap.objs.size cl fp
  have pk := hk s3 H3 s3.heap.objs.size cl fp
  have pe := he s3 H3 s3.heap.objs.size cl fp
  show codeAny _ _ (.compStart (dc2E kx vx tg iter tg1 iter1 ifs ifs1 scope pos) 0 (.ref it) (.ref D) (compEnvC scope (cellsFrom (s3.heap.objs.size + 1) scope.names (cloFrom X.env.cells scope.names [])) s3.heap.objs.size X.env)) (compPost (model X.prog X.w) X.A X.xe use Qf (.ref D) s3.heap.objs.size) { s3 with heap := pushCells (s3.heap.push { cls := .type "dict", data := .dict #[] }) scope.names }
  rw [hcl]
  obtain ⟨ce, hce⟩ : ∃ ce, compEnvC scope cl s3.heap.objs.size X.env = ce := ⟨_, rfl⟩
  have cL : ce.locals = s3.heap.objs.size := by subst hce; rfl
  rw [hce] at I4 pg pt pi1 pg1 pt1 pk pe ⊢
  obtain ⟨s4, hs4⟩ : ∃ s4 : Shared, { s3 with heap := pushCells (s3.heap.push { cls := .type "dict", data := .dict #[] }) scope.names } = s4 := ⟨_, rfl⟩
  rw [hs4] at I4 ⊢
  have st4 : tn 0 s4.heap := T.keep _ _ _ st3 fun b _ o e => by rw [← hs4]; exact pushCells_keeps _ _ _ _ (Heap.get?_push_of_some _ e)
  have stat : ∀ {σ' : L2.St} {H' : Hp} {s' : Shared}, Inv (X.blk s3 H3 scope ce fp) [] σ' H' s' → (∀ b ∈ fp, H' b = none) → ∀ b ∈ fp, FpOk (X.blk s3 H3 scope ce fp) [] H' b := fun {σ' H' s'} I' hn b hb =>
    ⟨hn b hb, (I'.ok.exf b hb).1, I'.ok.exfs b hb, .inl hb, fun x c e => (I'.ok.exf b hb).2 x c e, fun p hp => absurd (show p ∈ ([] : List (Addr × Obj)) ++ [] from hp) (by simp)⟩
  -- the outer loop's invariant
  let Jo : Nat → Shared → Prop := fun n s' => ∃ i H', Inv (X.blk s3 H3 scope ce fp) [] (L2.wipe σ (own.map (·.2))) H' s' ∧ tn i s'.heap ∧ (∀ b ∈ fp, H' b = none) ∧ W i n H'
  have loop : codeAny (model X.prog X.w) X.A (.compLoop (dc2E kx vx tg iter tg1 iter1 ifs ifs1 scope pos) 0 (.ref it) (.ref D) ce) (compPost (model X.prog X.w) X.A X.xe use Qf (.ref D) s3.heap.objs.size) s4 := by
    refine loop_out (hs1 ce) _ Jo ?_ m0 ⟨0, H3, I4, st4, nfp, w0⟩
    rintro n s5 ⟨i, H5, I5, st5, n5, w5⟩
    rcases turn i n H5 w5 with ⟨stop, last⟩ | ⟨go, Nx, next, step⟩
    · refine thnF (T.done (X.blk s3 H3 scope ce fp) rfl rfl rfl calm i [] s5 _ H5 (fun _ _ => False) I5 (stat I5 n5) st5 stop) ?_
      rintro r s6 ⟨rfl, I6⟩
      have I7 : Inv X pins σ H5 s6 := I3.call' (ch := fp) I6.os I6.base I6.hok I6.bare fun b hb => ⟨(f3 b hb).1.2.2.2.1, (f3 b hb).1.2.1, (f3 b hb).1.2.2.2.2.1, (f3 b hb).1.2.2.2.2.2⟩
      obtain ⟨m, names, _⟩ := I6.loc
      have nC : H5 s3.heap.objs.size = none := by rw [← cL]; exact I6.free
      have names' : s6.heap.Ns s3.heap.objs.size m := by rw [← cL]; exact names
      exact fin D s3.heap.objs.size s6 m H5 I7 last names' (I3.fpOk (Nat.le_refl _) nC)
    · refine thnF (T.item (X.blk s3 H3 scope ce fp) rfl rfl rfl calm i [] s5 _ H5 (fun _ _ => False) I5 (stat I5 n5) st5 go) ?_
      rintro r s6 ⟨u, rfl, h6⟩
      refine thnF h6 ?_
      rintro _ s7 ⟨x, H7, I7, r7, y7, st7, n7⟩
      refine thnF (pg.run _ s7 _ H7 x u _ (I7.pinned (stat I7 n7) (T.obj _ _ st7)) r7 (step x H7 y7)) ?_
      rintro _ s8 ⟨σ8, H8, I8, hw8, q8⟩
      refine thnF (pt.run _ s8 σ8 H8 _ I8 q8) ?_
      have back : ∀ {σ9 : L2.St} {s' : Shared} {H' : Hp}, Inv (X.blk s3 H3 scope ce fp) ([] ++ pinsAt fp s7.heap) σ9 H' s' → (L2.wipe σ (own.map (·.2))).length = σ9.length → (∀ (j : Nat) v, (L2.wipe σ (own.map (·.2)))[j]? = some (some v) → σ9[j]? = some (some v)) → Nx H' → ∃ m, m < n ∧ Jo m s' := by
        intro σ9 s' H' I' hl hk nx
        obtain ⟨m', lt, w'⟩ := next H' nx
        have stays : ∀ b ∈ fp, ∀ o, s7.heap.get? b = some o → s'.heap.get? b = some o ∧ H' b = none := fun b hb o e => ⟨(I'.pin (b, o) (List.mem_append_right _ (List.mem_append_right _ (mem_pinsAt hb e)))).1, (I'.pin (b, o) (List.mem_append_right _ (List.mem_append_right _ (mem_pinsAt hb e)))).2.1⟩
        refine ⟨m', lt, i + 1, H', (I'.unpinned (pins := [])).weak hl hk, T.keep _ _ _ st7 fun b hb o e => (stays b hb o e).1, fun b hb => ?_, w'⟩
        obtain ⟨o, e, _⟩ := T.obj _ _ st7 b hb
        exact (stays b hb o e).2
      have len8 : (L2.wipe σ (own.map (·.2))).length = σ8.length := by rw [← hw8, wipe_length]
      have old8 : ∀ (j : Nat) v, (L2.wipe σ (own.map (·.2)))[j]? = some (some v) → σ8[j]? = some (some v) ∧ j ∉ own.map (·.2) := fun j v e => by
        rw [← hw8] at e
        exact wipe_some e
      rintro (_ | _) s9 ⟨H9, I9, q9⟩
      · simp only [Bool.false_eq_true, if_false] at q9 ⊢
        exact back I9 len8 (fun j v e => (old8 j v e).1) q9
      simp only [if_true] at q9 ⊢
      refine thnF (pi1.run _ s9 σ8 H9 _ I9 q9) fun xv s10 hx => thnF hx ?_
      rintro itv s11 ⟨it1, fp1, tn1, J1, H11, rfl, I11, T1, st11, f11, W1, ⟨m1, w1⟩, turn1⟩
      have stat1 : ∀ {H' : Hp}, (∀ b ∈ fp1, H' b = none) → ∀ b ∈ fp1, FpOk (X.blk s3 H3 scope ce fp) ([] ++ pinsAt fp s7.heap) H' b := fun hn b hb => ⟨hn b hb, (f11 b hb).2⟩
      let Ji : Nat → Shared → Prop := fun k s' => ∃ j H', Inv (X.blk s3 H3 scope ce fp) ([] ++ pinsAt fp s7.heap) (L2.wipe σ8 vs1) H' s' ∧ tn1 j s'.heap ∧ (∀ b ∈ fp1, H' b = none) ∧ W1 j k H'
      have loop1 : codeAny (model X.prog X.w) X.A (.compLoop (dc2E kx vx tg iter tg1 iter1 ifs ifs1 scope pos) 1 (.ref it1) (.ref D) ce) (fun r s' => match r with
          | .ok _ => ∃ m, m < n ∧ Jo m s'
          | .error _ => False) s11 := by
        refine loop_in Ji ?_ m1 ⟨0, H11, I11.weak (wipe_length _ _) (fun j v e => (wipe_some e).1), st11, fun b hb => (f11 b hb).1, w1⟩
        rintro k s12 ⟨j, H12, I12, st12, n12, w12⟩
        rcases turn1 j k H12 w12 with ⟨stop1, nx1⟩ | ⟨go1, Nx1, next1, step1⟩
        · refine thnF (T1.done (X.blk s3 H3 scope ce fp) rfl rfl rfl calm j _ s12 (L2.wipe σ8 vs1) H12 (fun _ _ => False) I12 (stat1 n12) st12 stop1) ?_
          rintro r s13 ⟨rfl, I13⟩
          refine back I13 (len8.trans (wipe_length σ8 vs1).symm) (fun a v e => ?_) nx1
          rw [wipe_out fun z => (old8 a v e).2 (hv a z)]
          exact (old8 a v e).1
        · refine thnF (T1.item (X.blk s3 H3 scope ce fp) rfl rfl rfl calm j _ s12 (L2.wipe σ8 vs1) H12 (fun _ _ => False) I12 (stat1 n12) st12 go1) ?_
          rintro r s13 ⟨u1, rfl, h13⟩
          refine thnF h13 ?_
          rintro _ s14 ⟨x1, H14, I14, r14, y14, st14, n14⟩
          refine thnF (pg1.run _ s14 (L2.wipe σ8 vs1) H14 x1 u1 _ (I14.pinned (stat1 n14) (T1.obj _ _ st14)) r14 (step1 x1 H14 y14)) ?_
          rintro _ s15 ⟨σ15, H15, I15, hw15, q15⟩
          refine thnF (pt1.run _ s15 σ15 H15 _ I15 q15) ?_
          have back1 : ∀ {s' : Shared} {H' : Hp}, Inv (X.blk s3 H3 scope ce fp) (([] ++ pinsAt fp s7.heap) ++ pinsAt fp1 s14.heap) σ15 H' s' → Nx1 H' → ∃ m, m < k ∧ Ji m s' := by
            intro s' H' I' nx
            obtain ⟨m', lt, w'⟩ := next1 H' nx
            have stays : ∀ b ∈ fp1, ∀ o, s14.heap.get? b = some o → s'.heap.get? b = some o ∧ H' b = none := fun b hb o e => ⟨(I'.pin (b, o) (List.mem_append_right _ (List.mem_append_right _ (mem_pinsAt hb e)))).1, (I'.pin (b, o) (List.mem_append_right _ (List.mem_append_right _ (mem_pinsAt hb e)))).2.1⟩
            refine ⟨m', lt, j + 1, H', I'.unpinned.weak (by rw [← hw15, wipe_length]) (fun a v e => by rw [← hw15] at e; exact (wipe_some e).1), T1.keep _ _ _ st14 fun b hb o e => (stays b hb o e).1, fun b hb => ?_, w'⟩
            obtain ⟨o, e, _⟩ := T1.obj _ _ st14 b hb
            exact (stays b hb o e).2
          rintro (_ | _) s16 ⟨H16, I16, q16⟩
          · simp only [Bool.false_eq_true, if_false] at q16 ⊢
            exact back1 I16 q16
          simp only [if_true] at q16 ⊢
          refine thnF (pk.run _ s16 σ15 H16 _ I16 q16) ?_
          rintro kv s17 ⟨yk, H17, I17, r17, q17⟩
          refine thnF (pe.run _ s17 σ15 H17 _ I17 q17) ?_
          rintro vv s18 ⟨yv, H18, I18, r18, kvs, key, rfl, hD18, hz, nx⟩
          exact d_dictSet (X := X.blk s3 H3 scope ce fp) I18 hD18 hz r17 r18 fun s19 I19 => back1 I19 nx
      exact start_in loop1 (T1.self X.A 0 _ _ _ st11 loop1)
  exact codeAny_compStart_dict loop (T.self X.A 0 _ _ _ st4 loop)

/-- a comprehension's post where its value is the answer -/
theorem val_fin {pins : List (Addr × Obj)} {σ : L2.St} {Q : VK} : ∀ (D C : Addr) (s' : Shared) (m : Str → Option Value) (H' : Hp), Inv X pins σ H' s' → Q (.ref D) H' → s'.heap.Ns C m → FpOk X pins H' C → compPost (model X.prog X.w) X.A X.xe none (EP X pins σ Q) (.ref D) C (.ok .next) s' :=
  fun D C s' m H' I q hn f => ⟨m, hn, fun h'' sb => ⟨.ref D, H', I.turned (t' := s'.toks) (fun b o hb e => (sb.2 b hb).trans e) f.1 f.2.1 f.2.2.2.1 f.2.2.2.2.1 f.2.2.2.2.2, rfl, q⟩⟩
/-- .. where it is stored in a local name -/
theorem set_fin {pins : List (Addr × Obj)} {σ : L2.St} {De : Ends} {i : Nat} {y : Str} {py : Pos} (nd : X.N.Nodup) (hy : X.N[i]? = some y) (hyl : X.env.scope.names.lookup y = some .local) :
    ∀ (D C : Addr) (s' : Shared) (m : Str → Option Value) (H' : Hp), Inv X pins σ H' s' → gName i (.ref D) σ H' De.nx → s'.heap.Ns C m → FpOk X pins H' C → compPost (model X.prog X.w) X.A X.xe (some (assign (.Name y py) X.env)) (fun _ s' => SP X pins De .next s') (.ref D) C (.ok .next) s' := by
  intro D C s' m H' I q hn f
  show wpAny _ _ (assign (.Name y py) X.env (.ref D)) _ _ _
  refine wpAny_assign_Name (store_ok2 (v := V.ref D) I nd hy (.inl hyl) rfl (fun s2 I2 ⟨a, sb, ha⟩ => ?_) (.inr hyl))
  have apart : C ≠ a := by
    rcases ha with z | z
    · rw [z]; exact f.2.1
    · exact fun e => f.2.2.2.2.1 y a z e.symm
  exact ⟨m, hn.sameBut sb apart, fun h3 sb3 => ⟨_, H', I2.turned (t' := s2.toks) (fun b o hb e => (sb3.2 b hb).trans e) f.1 f.2.1 f.2.2.2.1 f.2.2.2.2.1 f.2.2.2.2.2, q⟩⟩
theorem sw_dict {kx vx : Expr} {gs : List Comprehension} {scope : Scope} {pos py : Pos} {y : Str} {l : Nat} {env : Env} (hk : env.scope.kind = .function) (hy : env.scope.names.lookup y = some .local) (hl : (py.line == pos.line) = true)
    (ha : (scope.names.any fun (n, k) => n == y && (k == .local || k == .cell)) = false) : swapsWith (.DictComp kx vx gs scope pos) (some (.Name y py)) l env = pure true := by
  have ky : env.kindOf y = some .local := hy
  have hb : env.blockKind = .function := by unfold Env.blockKind; rw [hk]; rfl
  unfold swapsWith
  simp only [hb, ky, ha, Expr.pos, hl]
  rfl
section
variable {kx vx tg iter tg1 iter1 : Expr} {ifs ifs1 : List Expr} {scope : Scope} {own : List (Str × Nat)} {vs1 : List Nat} {pos spos : Pos} {wi wi1 : TI} {g g1 : L2.TG} {tt tt1 : TT} {tk tv : TE}
theorem ps_setDc {i : Nat} {y : Str} {py : Pos} (calm : X.calm = true) (nd : X.N.Nodup) (hy : X.N[i]? = some y) (hyl : X.env.scope.names.lookup y = some .local) (hsw : swapsWith (.DictComp kx vx [⟨tg, iter, ifs, 0⟩] scope pos) (some (.Name y py)) spos.line X.env = pure true)
    (hi : PI X tg iter wi) (ok : BlkOk X.N X.env.scope scope own) (hg : InB X scope fun Y => PG Y tg g) (ht : InB X scope fun Y => PTs Y ifs tt) (hk : InB X scope fun Y => PE Y kx tk) (he : InB X scope fun Y => PE Y vx tv) (hs : ∀ x, foldedSetIterable iter X.env x = pure x := by intro _; rfl) :
    PS X (.Assign [.Name y py] (.DictComp kx vx [⟨tg, iter, ifs, 0⟩] scope pos) spos) (tAsg (tDc wi g tt tk tv (own.map (·.2))) (gName i)) := by
  constructor
  intro pins s σ H De I h
  rw [exec_Assign_Name_used _ _ _ _ hsw]
  refine wpAny_bind (wpAny_standAt (wpAny_bind ?_))
  show wpAny _ X.A (do let _ ← comprehension (.DictComp kx vx [⟨tg, iter, ifs, 0⟩] scope pos) scope X.env (firstIterPos [⟨tg, iter, ifs, 0⟩] pos) newDict false (eval iter X.env) (some (assign (.Name y py) X.env))) _ _ s
  exact wpAny_bind (thn (dc_core (Qf := fun _ s' => SP X pins De .next s') calm nd I hi ok hg ht hk he hs (show tDc wi g tt tk tv (own.map (·.2)) σ H (fun x H1 => gName i x σ H1 De.nx) from h) (set_fin nd hy hyl)) fun _ s' hq => wpAny_pure (wpAny_pure hq))
theorem pe_dc2 (calm : X.calm = true) (nd : X.N.Nodup) (hi : PI X tg iter wi) (ok : BlkOk X.N X.env.scope scope own) (hv : ∀ i ∈ vs1, i ∈ own.map (·.2)) (hg : InB X scope fun Y => PG Y tg g) (ht : InB X scope fun Y => PTs Y ifs tt) (hi1 : InB X scope fun Y => PI Y tg1 iter1 wi1) (hg1 : InB X scope fun Y => PG Y tg1 g1) (ht1 : InB X scope fun Y => PTs Y ifs1 tt1)
    (hk : InB X scope fun Y => PE Y kx tk) (he : InB X scope fun Y => PE Y vx tv) (hs : ∀ x, foldedSetIterable iter X.env x = pure x := by intro _; rfl) (hs1 : ∀ env x, foldedSetIterable iter1 env x = pure x := by intro _ _; rfl) :
    PE X (.DictComp kx vx [⟨tg, iter, ifs, 0⟩, ⟨tg1, iter1, ifs1, 0⟩] scope pos) (tDc2 wi g tt wi1 g1 tt1 tk tv (own.map (·.2)) vs1) := by
  constructor
  intro pins s σ H Q I h
  rw [arm_eval_DictComp]
  exact dc2_core calm nd I hi ok hv hg ht hi1 hg1 ht1 hk he hs hs1 h val_fin
theorem ps_setDc2 {i : Nat} {y : Str} {py : Pos} (calm : X.calm = true) (nd : X.N.Nodup) (hy : X.N[i]? = some y) (hyl : X.env.scope.names.lookup y = some .local) (hsw : swapsWith (.DictComp kx vx [⟨tg, iter, ifs, 0⟩, ⟨tg1, iter1, ifs1, 0⟩] scope pos) (some (.Name y py)) spos.line X.env = pure true)
    (hi : PI X tg iter wi) (ok : BlkOk X.N X.env.scope scope own) (hv : ∀ i ∈ vs1, i ∈ own.map (·.2)) (hg : InB X scope fun Y => PG Y tg g) (ht : InB X scope fun Y => PTs Y ifs tt) (hi1 : InB X scope fun Y => PI Y tg1 iter1 wi1) (hg1 : InB X scope fun Y => PG Y tg1 g1) (ht1 : InB X scope fun Y => PTs Y ifs1 tt1)
    (hk : InB X scope fun Y => PE Y kx tk) (he : InB X scope fun Y => PE Y vx tv) (hs : ∀ x, foldedSetIterable iter X.env x = pure x := by intro _; rfl) (hs1 : ∀ env x, foldedSetIterable iter1 env x = pure x := by intro _ _; rfl) :
    PS X (.Assign [.Name y py] (.DictComp kx vx [⟨tg, iter, ifs, 0⟩, ⟨tg1, iter1, ifs1, 0⟩] scope pos) spos) (tAsg (tDc2 wi g tt wi1 g1 tt1 tk tv (own.map (·.2)) vs1) (gName i)) := by
  constructor
  intro pins s σ H De I h
  rw [exec_Assign_Name_used _ _ _ _ hsw]
  refine wpAny_bind (wpAny_standAt (wpAny_bind ?_))
  show wpAny _ X.A (do let _ ← comprehension (.DictComp kx vx [⟨tg, iter, ifs, 0⟩, ⟨tg1, iter1, ifs1, 0⟩] scope pos) scope X.env (firstIterPos [⟨tg, iter, ifs, 0⟩, ⟨tg1, iter1, ifs1, 0⟩] pos) newDict false (eval iter X.env) (some (assign (.Name y py) X.env))) _ _ s
  exact wpAny_bind (thn (dc2_core (Qf := fun _ s' => SP X pins De .next s') calm nd I hi ok hv hg ht hi1 hg1 ht1 hk he hs hs1 (show tDc2 wi g tt wi1 g1 tt1 tk tv (own.map (·.2)) vs1 σ H (fun x H1 => gName i x σ H1 De.nx) from h) (set_fin nd hy hyl)) fun _ s' hq => wpAny_pure (wpAny_pure hq))
end

/-! ### as data -/
def dc2In (J : ItD) (g : TGD) (tt : TTD) (tk tv : TED) (vs : List Nat) (σ : Std) (C : DM → List (Key × D) → Prop) : Nat → Nat → DM → List (Key × D) → Prop
  | 0, _, _, _ => False
  | n + 1, i, M, acc => match J i M with
    | some (some d) => g d (wipeS σ vs) M (fun σ2 M2 => tt σ2 M2 (fun b M3 => match b with
      | true => tk σ2 M3 (fun y M4 => tv σ2 M4 (fun z M5 => ∃ k, KeyD y = some k ∧ acc.length < sizeLine ∧ dc2In J g tt tk tv vs σ C n (i + 1) M5 (putD acc k z)) noX) noX
      | false => dc2In J g tt tk tv vs σ C n (i + 1) M3 acc) noX) noX
    | some none => C M acc
    | none => False
def dc2Out (J : ItD) (g : TGD) (tt : TTD) (wi1 : TID) (g1 : TGD) (tt1 : TTD) (tk tv : TED) (vs vs1 : List Nat) (σ : Std) (Q : DQ) : Nat → Nat → DM → List (Key × D) → Prop
  | 0, _, _, _ => False
  | n + 1, i, M, acc => match J i M with
    | some (some d) => g d (wipeS σ vs) M (fun σ2 M2 => tt σ2 M2 (fun b M3 => match b with
      | true => wi1 σ2 M3 (fun J1 M4 => ∃ k, dc2In J1 g1 tt1 tk tv vs1 σ2 (fun M5 acc' => dc2Out J g tt wi1 g1 tt1 tk tv vs vs1 σ Q n (i + 1) M5 acc') k 0 M4 acc) noX
      | false => dc2Out J g tt wi1 g1 tt1 tk tv vs vs1 σ Q n (i + 1) M3 acc) noX) noX
    | some none => ∀ p, M p = none → Q (.ref p) (put M p (.dK acc))
    | none => False
def dDc2 (wi : TID) (g : TGD) (tt : TTD) (wi1 : TID) (g1 : TGD) (tt1 : TTD) (tk tv : TED) (vs vs1 : List Nat) : TED := fun σ M Q E => wi σ M (fun J M1 => ∃ n, dc2Out J g tt wi1 g1 tt1 tk tv vs vs1 σ Q n 0 M1 []) E
variable {W : WX}
theorem lift_dc2 {wi : TID} {g : TGD} {tt : TTD} {wi1 : TID} {g1 : TGD} {tt1 : TTD} {tk tv : TED} {vs vs1 : List Nat} {σ : L2.St} {H : Hp} {Q : VK} (h : lE X.B W (dDc2 wi g tt wi1 g1 tt1 tk tv vs vs1) σ H Q) :
    tDc2 (lI X.B W wi) (lG X.B w0 vs g) (lT X.B w0 tt) (lI X.B w0 wi1) (lG X.B w0 vs1 g1) (lT X.B w0 tt1) (lE X.B w0 tk) (lE X.B w0 tv) vs vs1 σ H Q := by
  obtain ⟨σd, M, Qd, E, S, R, t, c, cx⟩ := h
  refine ⟨σd, M, _, E, S, R, t, fun Jd J M1 H1 ok R1 k1 ⟨n, q⟩ p hp => ?_, cx⟩
  have c1 := c.after k1
  have S1 := S.mono (k1.tups R)
  refine ⟨fun i m H' => ∃ M' acc ws, Rel X.B M' H' ∧ dc2Out Jd g tt wi1 g1 tt1 tk tv vs vs1 σd Qd m i M' acc ∧ PR X.B H' acc ws ∧ H' p = some (.dK ws) ∧ M' p = none ∧ KeepP p M1 H1 M' H' ∧ Tups H1 H', ⟨n, M1, [], [], R1.hidden hp _, q, .nil, upd_same, R1.free hp, ?_, tups_new hp _⟩, ?_⟩
  · exact KeepP.new hp _
  rintro i m H' ⟨M', acc, ws, R', t, as, hP, mP, kp, tp⟩
  cases m with
  | zero => exact t.elim
  | succ m =>
    unfold dc2Out at t
    cases e : Jd i M' with
    | none => rw [e] at t; exact t.elim
    | some o =>
      rw [e] at t
      cases o with
      | none => exact .inl ⟨ok.stop i M' H' tp R' e, c1 _ _ (put M' p (.dK acc)) H' .ref (R'.come hP (.ofK as)) (kp.done _) (t p mP)⟩
      | some d =>
        refine .inr ⟨ok.go i M' H' d tp R' e, fun H2 => ∃ M2 acc ws, Rel X.B M2 H2 ∧ dc2Out Jd g tt wi1 g1 tt1 tk tv vs vs1 σd Qd m (i + 1) M2 acc ∧ PR X.B H2 acc ws ∧ H2 p = some (.dK ws) ∧ M2 p = none ∧ KeepP p M1 H1 M2 H2 ∧ Tups H1 H2, fun H2 h => ⟨m, Nat.lt_succ_self _, h⟩, fun x H2 y => ?_⟩
        obtain ⟨R2, k2, dx⟩ := ok.yld i M' H' d x H2 tp R' e y
        have tp2 := tp.trans (k2.tups R')
        refine ⟨d, _, M', _, _, dx, (S1.mono tp2).wipe vs, R2, t, fun σd3 σ3 M3 H3 o3 S3 R3 k3 q3 => ⟨off_wipe o3, σd3, M3, _, _, S3, R3, q3, fun b M4 H4 R4 k4 q4 => ?_, cnx0⟩, cnx0⟩
        have k24 := (k2.trans k3).trans k4
        cases b with
        | false => exact iteF ⟨M4, acc, ws, R4, q4, as.mono (k24.tups R'), k24.hid p _ hP mP dK_ne.2.2.1, (k24.out p _ hP mP dK_ne.2.2.1), kp.then k24, tp.trans (k24.tups R')⟩
        | true =>
          have S4 := S3.mono (k4.tups R3)
          refine iteT ⟨σd3, M4, _, _, S4, R4, q4, fun J1d J1 M5 H5 ok1 R5 k5 ⟨n1, q5⟩ => ?_, cnx0⟩
          have k25 := k24.trans k5
          refine ⟨fun j m1 H6 => ∃ M6 acc ws, Rel X.B M6 H6 ∧ dc2In J1d g1 tt1 tk tv vs1 σd3 (fun M7 acc' => dc2Out Jd g tt wi1 g1 tt1 tk tv vs vs1 σd Qd m (i + 1) M7 acc') m1 j M6 acc ∧ PR X.B H6 acc ws ∧ H6 p = some (.dK ws) ∧ M6 p = none ∧ KeepP p M1 H1 M6 H6 ∧ Tups H1 H6 ∧ Tups H5 H6,
            ⟨n1, M5, acc, ws, R5, q5, as.mono (k25.tups R'), k25.hid p _ hP mP dK_ne.2.2.1, (k25.out p _ hP mP dK_ne.2.2.1), kp.then k25, tp.trans (k25.tups R'), .refl⟩, ?_⟩
          rintro j m1 H6 ⟨M6, acc6, ws6, R6, t6, as6, hP6, mP6, kp6, tp6, tq6⟩
          cases m1 with
          | zero => exact t6.elim
          | succ m1 =>
            unfold dc2In at t6
            cases e6 : J1d j M6 with
            | none => rw [e6] at t6; exact t6.elim
            | some o6 =>
              rw [e6] at t6
              cases o6 with
              | none => exact .inl ⟨ok1.stop j M6 H6 tq6 R6 e6, M6, acc6, ws6, R6, t6, as6, hP6, mP6, kp6, tp6⟩
              | some d6 =>
                refine .inr ⟨ok1.go j M6 H6 d6 tq6 R6 e6, fun H7 => ∃ M7 acc ws, Rel X.B M7 H7 ∧ dc2In J1d g1 tt1 tk tv vs1 σd3 (fun M7 acc' => dc2Out Jd g tt wi1 g1 tt1 tk tv vs vs1 σd Qd m (i + 1) M7 acc') m1 (j + 1) M7 acc ∧ PR X.B H7 acc ws ∧ H7 p = some (.dK ws) ∧ M7 p = none ∧ KeepP p M1 H1 M7 H7 ∧ Tups H1 H7 ∧ Tups H5 H7, fun H7 h => ⟨m1, Nat.lt_succ_self _, h⟩, fun x7 H7 y7 => ?_⟩
                obtain ⟨R7, k7, dx7⟩ := ok1.yld j M6 H6 d6 x7 H7 tq6 R6 e6 y7
                have tq7 := tq6.trans (k7.tups R6)
                refine ⟨d6, _, M6, _, _, dx7, ((S4.mono (k5.tups R4)).mono tq7).wipe vs1, R7, t6, fun σd8 σ8 M8 H8 o8 S8 R8 k8 q8 => ⟨off_wipe o8, σd8, M8, _, _, S8, R8, q8, fun b9 M9 H9 R9 k9 q9 => ?_, cnx0⟩, cnx0⟩
                have k79 := (k7.trans k8).trans k9
                cases b9 with
                | false => exact iteF ⟨M9, acc6, ws6, R9, q9, as6.mono (k79.tups R6), k79.hid p _ hP6 mP6 dK_ne.2.2.1, (k79.out p _ hP6 mP6 dK_ne.2.2.1), kp6.then k79, tp6.trans (k79.tups R6), tq6.trans (k79.tups R6)⟩
                | true =>
                  refine iteT ⟨σd8, M9, _, _, S8.mono (k9.tups R8), R9, q9, fun z zv M10 H10 zr R10 k10 q10 => ⟨σd8, M10, _, _, S8.mono ((k9.trans k10).tups R8), R10, q10, fun y' yv M11 H11 yr R11 k11 ⟨k, hk, hl, q11⟩ => ?_, cnx0⟩, cnx0⟩
                  have kk := (k79.trans k10).trans k11
                  have hP11 := kk.hid p _ hP6 mP6 dK_ne.2.2.1
                  have mP11 := (kk.out p _ hP6 mP6 dK_ne.2.2.1)
                  have as11 := as6.mono (kk.tups R6)
                  have tq := tups_hput hP11 dK_ne.1 dK_ne.2.1 (.dK (putK ws6 k yv))
                  exact ⟨ws6, k, KeyD.dv hk zr, hP11, by rw [← as6.length]; exact hl, M11, putD acc6 k y', putK ws6 k yv, R11.hput hP11 mP11 dK_ne.1 dK_ne.2.1 dK_ne.2.2.1 (fun q => dK_ne.2.2.2 q _) _, q11, (as11.put k yr).mono tq, upd_same, mP11, (kp6.then kk).write _, (tp6.trans (kk.tups R6)).trans tq, (tq6.trans (kk.tups R6)).trans tq⟩
theorem de_dc2 {e : Expr} {wi : TID} {g : TGD} {tt : TTD} {wi1 : TID} {g1 : TGD} {tt1 : TTD} {tk tv : TED} {vs vs1 : List Nat} (h : PE X e (tDc2 (lI X.B W wi) (lG X.B w0 vs g) (lT X.B w0 tt) (lI X.B w0 wi1) (lG X.B w0 vs1 g1) (lT X.B w0 tt1) (lE X.B w0 tk) (lE X.B w0 tv) vs vs1)) : PE X e (lE X.B W (dDc2 wi g tt wi1 g1 tt1 tk tv vs vs1)) := PE.imp h fun _ _ _ h => lift_dc2 h
theorem ds_setDc2 {st : Stmt} {wi : TID} {g : TGD} {tt : TTD} {wi1 : TID} {g1 : TGD} {tt1 : TTD} {tk tv : TED} {vs vs1 : List Nat} {i : Nat} (h : PS X st (tAsg (tDc2 (lI X.B W wi) (lG X.B w0 vs g) (lT X.B w0 tt) (lI X.B w0 wi1) (lG X.B w0 vs1 g1) (lT X.B w0 tt1) (lE X.B w0 tk) (lE X.B w0 tv) vs vs1) (gName i))) : PS X st (lS X.B W (dAsg (dDc2 wi g tt wi1 g1 tt1 tk tv vs vs1) (gNm i))) := PS.imp h fun D σ H h => lift_dc2 (show lE X.B W (dDc2 wi g tt wi1 g1 tt1 tk tv vs vs1) σ H (fun x H1 => gName i x σ H1 D.nx) from lift_set h)
theorem ds_setDc {st : Stmt} {wi : TID} {g : TGD} {tt : TTD} {tk tv : TED} {vs : List Nat} {i : Nat} (h : PS X st (tAsg (tDc (lI X.B W wi) (lG X.B w0 vs g) (lT X.B w0 tt) (lE X.B w0 tk) (lE X.B w0 tv) vs) (gName i))) : PS X st (lS X.B W (dAsg (dDc wi g tt tk tv vs) (gNm i))) := PS.imp h fun D σ H h => lift_dc (show lE X.B W (dDc wi g tt tk tv vs) σ H (fun x H1 => gName i x σ H1 D.nx) from lift_set h)
end
end Dt

set_option Elab.async false
set_option autoImplicit false
set_option linter.all false
set_option maxRecDepth 100000
set_option maxHeartbeats 4000000
/-! DP: what the printed walks lean on. -/
namespace Dt
open PySem PySem.Spec PyProof.Rows L2 LamX RZ PySem.P

/-- a def's promise, with what a call of it asks -/
def FnE (P : Program) (w : World) (K : PySem.W.Frag) (mg : Str → Option Value) (base : Heap) (k : Nat) (f : Addr) (ps : List Str) (sp : SpD) : Prop :=
  ∃ fd, FnOk P w K mg base CX0 k f fd ps (lSp ⟨K, P, w⟩ sp) ∧ Binds K fd ps [] ∧ PySem.W.keepIn K (.ref f) = true
def FnT (P : Program) (w : World) (K : PySem.W.Frag) (mg : Str → Option Value) (base : Heap) (k : Nat) (f : Addr) (ps : List Str) (sp : SpD) : Prop :=
  ∃ fd, FnS P w K mg base CX0 k f fd ps (lSp ⟨K, P, w⟩ sp) ∧ Binds K fd ps [] ∧ PySem.W.keepIn K (.ref f) = true
section
variable {P : Program} {w : World} {K : PySem.W.Frag} {mg : Str → Option Value} {base : Heap}
theorem in_of {X : Cx} {op : Operator} {r : R2} (h : OpR X (inplaceOp op) r) : InOp X op r := fun pins s σ H x y u v Q I rx ry q => h pins s σ H x y u v Q I rx ry q
/-- a def that raises nothing, called while no repr is under way -/
theorem fnDS {x qual : Str} {st : Stmt} {f : Addr} {fd : FuncData} {N ps : List Str} {k : Nat} {sp : SpD} {t : TSD} (F : Fun K x qual st f fd) (S : FnScope N ps (defScope st)) (len : ∀ ds M Q, sp ds M Q noX → ds.length = ps.length)
    (hbody : ∀ (cdv : Value) (A : Around) (outer : List Env) (s : Shared) (H : Hp) (E : XK), Still A → Room k (A.deeper (envOfC qual (defScope st) s.heap.objs.size f cdv)) → PSs (cxOf CX0 P w K mg base N qual (defScope st) f cdv A outer s H E).nox (defBody st) (lS ⟨K, P, w⟩ w0 t))
    (hp : ∀ ds M Q, sp ds M Q noX → t (dEnd Q noX) (startD N ds) M) : FnS P w K mg base CX0 (k + 1) f fd ps (lSp ⟨K, P, w⟩ sp) := by
  refine fnS_of F S (fun vs H Q E ⟨ds, M, Qd, dv, R, h, c⟩ => by rw [← dv.length]; exact len ds M Qd h) fun cdv A outer s H vs Q E _ hs hr ⟨ds, M, Qd, dv, R, h, c⟩ => ⟨_, (hbody cdv A outer s H E hs hr).nox, startD N ds, M, _, relS_start dv, R, hp ds M Qd h, ?_⟩
  exact ⟨fun σd' σ' M' H' _ R' k' q => c .non .non M' H' .non R' k' q, c, fun _ _ _ _ _ _ _ q => q.elim, fun _ _ _ _ _ _ _ q => q.elim, fun _ _ _ _ _ _ _ _ _ _ _ q => q.elim⟩
/-- a def at its place in the text -/
theorem fnE_of {x qual : Str} {st : Stmt} {f : Addr} {N ps : List Str} {k : Nat} {sp : SpD} {t : TSD} {oc : Value} {od an : Option Addr} {osl : Array (Option Value)} {kV doc pm cdv ct : Value}
    (l : K.lookup f = some ⟨oc, od, .func (PySem.W.fnOf x qual (defArgs st) (defBody st) (defScope st) .none kV doc pm an cdv ct), osl⟩) (hcd : PySem.W.codeIn K cdv qual = true) (kp : PySem.W.keepIn K (.ref f) = true) (S : FnScope N ps (defScope st)) (len : ∀ ds M Q, sp ds M Q noX → ds.length = ps.length)
    (hb : ∀ (us : List Value), us.length = ps.length → bindArgs (PySem.W.fnOf x qual (defArgs st) (defBody st) (defScope st) .none kV doc pm an cdv ct) ⟨us, []⟩ = pure (ps.zip us))
    (hbody : ∀ (cdv : Value) (A : Around) (outer : List Env) (s : Shared) (H : Hp) (E : XK), Room k (A.deeper (envOfC qual (defScope st) s.heap.objs.size f cdv)) → PSs (cxOf CX0 P w K mg base N qual (defScope st) f cdv A outer s H E).nox (defBody st) (lS ⟨K, P, w⟩ w0 t))
    (hp : ∀ ds M Q, sp ds M Q noX → t (dEnd Q noX) (startD N ds) M) : FnE P w K mg base (k + 1) f ps sp :=
  ⟨_, fnD (fun_mk l hcd kp) S len hbody hp, .all hb, kp⟩
theorem fnT_of {x qual : Str} {st : Stmt} {f : Addr} {N ps : List Str} {k : Nat} {sp : SpD} {t : TSD} {oc : Value} {od an : Option Addr} {osl : Array (Option Value)} {kV doc pm cdv ct : Value}
    (l : K.lookup f = some ⟨oc, od, .func (PySem.W.fnOf x qual (defArgs st) (defBody st) (defScope st) .none kV doc pm an cdv ct), osl⟩) (hcd : PySem.W.codeIn K cdv qual = true) (kp : PySem.W.keepIn K (.ref f) = true) (S : FnScope N ps (defScope st)) (len : ∀ ds M Q, sp ds M Q noX → ds.length = ps.length)
    (hb : ∀ (us : List Value), us.length = ps.length → bindArgs (PySem.W.fnOf x qual (defArgs st) (defBody st) (defScope st) .none kV doc pm an cdv ct) ⟨us, []⟩ = pure (ps.zip us))
    (hbody : ∀ (cdv : Value) (A : Around) (outer : List Env) (s : Shared) (H : Hp) (E : XK), Still A → Room k (A.deeper (envOfC qual (defScope st) s.heap.objs.size f cdv)) → PSs (cxOf CX0 P w K mg base N qual (defScope st) f cdv A outer s H E).nox (defBody st) (lS ⟨K, P, w⟩ w0 t))
    (hp : ∀ ds M Q, sp ds M Q noX → t (dEnd Q noX) (startD N ds) M) : FnT P w K mg base (k + 1) f ps sp :=
  ⟨_, fnDS (fun_mk l hcd kp) S len hbody hp, .all hb, kp⟩
/-- f(..) of a def that is run while no repr is under way -/
theorem de_callT {X : Cx} {W : WX} {k : Nat} {f : Addr} {fd : FuncData} {ps : List Str} {sp : SpD} {x : Str} {p pos : Pos} {e : Expr} {es : List Expr} {t : TAD} (F : FnS X.prog X.w X.K X.mg X.base CX0 k f fd ps (lSp X.B sp)) (hs : Still X.A) (hr : Room k X.A) (hg : Gl X x) (hm : X.mg x = some (.ref f)) (hk : PySem.W.keepIn X.K (.ref f) = true) (hb : Binds X.K fd ps [])
    (ha : PA X (e :: es) (lA X.B W t)) (hdb : (x == ("__debug__" : Str)) = false := by decide) (he : starEach (e :: es) X.env = (false, eval e X.env) :: starEach es X.env := by rfl) (hpl : (backTo pos (starEach es X.env)).any (·.1) = false := by rfl) :
    PE X (.Call (.Name x p) (e :: es) [] pos) (lE X.B W (dCall sp t)) := PE.imp (pe_callS (E := E0) F hs hr hg hm hk hb pass0 ha hdb he hpl) fun _ _ _ h => lift_call h
end
def isi_str (U : String) : Option Bool := if U = "str" then some true else if U = "int" then some false else if U = "NoneType" then some false else none
theorem isi_str_ok {K : PySem.W.Frag} : ∀ U b, isi_str U = some b → PySem.W.kitOne K (.type U) (.type "str") = some b := by
  intro U b h
  unfold isi_str at h
  split at h
  · rename_i e; subst e; cases h; rfl
  · split at h
    · rename_i e; subst e; cases h; rfl
    · split at h
      · rename_i e; subst e; cases h; rfl
      · cases h
def isi_int (U : String) : Option Bool := if U = "int" then some true else if U = "bool" then some true else if U = "str" then some false else if U = "NoneType" then some false else if U = "tuple" then some false else none
theorem isi_int_ok {K : PySem.W.Frag} : ∀ U b, isi_int U = some b → PySem.W.kitOne K (.type U) (.type "int") = some b := by
  intro U b h
  unfold isi_int at h
  split at h
  · rename_i e; subst e; cases h; rfl
  · split at h
    · rename_i e; subst e; cases h; rfl
    · split at h
      · rename_i e; subst e; cases h; rfl
      · split at h
        · rename_i e; subst e; cases h; rfl
        · split at h
          · rename_i e; subst e; cases h; rfl
          · cases h
def isi_bool (U : String) : Option Bool := if U = "int" then some false else if U = "bool" then some true else if U = "str" then some false else if U = "NoneType" then some false else if U = "tuple" then some false else none
theorem isi_bool_ok {K : PySem.W.Frag} : ∀ U b, isi_bool U = some b → PySem.W.kitOne K (.type U) (.type "bool") = some b := by
  intro U b h
  unfold isi_bool at h
  split at h
  · rename_i e; subst e; cases h; rfl
  · split at h
    · rename_i e; subst e; cases h; rfl
    · split at h
      · rename_i e; subst e; cases h; rfl
      · split at h
        · rename_i e; subst e; cases h; rfl
        · split at h
          · rename_i e; subst e; cases h; rfl
          · cases h
theorem boot_len : bootBuiltins "len" = some (.builtin "len") := by decide +kernel
theorem boot_abs : bootBuiltins "abs" = some (.builtin "abs") := by decide +kernel
theorem boot_repr : bootBuiltins "repr" = some (.builtin "repr") := by decide +kernel
theorem boot_sorted : bootBuiltins "sorted" = some (.builtin "sorted") := by decide +kernel
theorem boot_all : bootBuiltins "all" = some (.builtin "all") := by decide +kernel
theorem boot_any : bootBuiltins "any" = some (.builtin "any") := by decide +kernel
theorem boot_tuple : bootBuiltins "tuple" = some (.type "tuple") := by decide +kernel
theorem boot_list : bootBuiltins "list" = some (.type "list") := by decide +kernel
theorem boot_int : bootBuiltins "int" = some (.type "int") := by decide +kernel
theorem boot_str : bootBuiltins "str" = some (.type "str") := by decide +kernel
theorem boot_bool : bootBuiltins "bool" = some (.type "bool") := by decide +kernel
theorem boot_dict : bootBuiltins "dict" = some (.type "dict") := by decide +kernel
theorem boot_min : bootBuiltins "min" = some (.builtin "min") := by decide +kernel
theorem boot_max : bootBuiltins "max" = some (.builtin "max") := by decide +kernel
theorem boot_isinstance : bootBuiltins "isinstance" = some (.builtin "isinstance") := by decide +kernel
end Dt

set_option Elab.async false
set_option autoImplicit false
set_option linter.all false
set_option maxRecDepth 100000
set_option maxHeartbeats 4000000
/-! DQ: how a reading is shown: what memory keeps, loops by invariants. -/
namespace Dt
open PySem PySem.Spec PyProof.Rows L2 LamX RZ PySem.P

/-- M' has all that M has -/
def Ext (M M' : DM) : Prop := ∀ a o, M a = some o → M' a = some o
theorem Ext.refl {M : DM} : Ext M M := fun _ _ h => h
theorem Ext.trans {M M1 M2 : DM} (h : Ext M M1) (g : Ext M1 M2) : Ext M M2 := fun a o e => g a o (h a o e)
theorem Ext.alloc {M M1 : DM} (h : Ext M M1) {p : Addr} (hp : M1 p = none) (o : DO) : Ext M (put M1 p o) := fun a u e => by
  have e1 := h a u e
  rw [put_ne (fun z => by rw [z, hp] at e1; cases e1)]
  exact e1
theorem Ext.new {M : DM} {p : Addr} (hp : M p = none) (o : DO) : Ext M (put M p o) := Ext.refl.alloc hp o
theorem ne_of_new {M : DM} {a p : Addr} {o : DO} (e : M a = some o) (hp : M p = none) : a ≠ p := fun z => by rw [z, hp] at e; cases e
/-- the same address written on both sides -/
theorem Ext.both {M M1 : DM} (h : Ext M M1) (a : Addr) (o : DO) : Ext (put M a o) (put M1 a o) := fun b u e => by
  by_cases hb : b = a
  · subst hb; rw [put_same] at e ⊢; exact e
  · rw [put_ne hb] at e ⊢; exact h b u e
/-- all but what stands at a -/
def ExtBut (a : Addr) (M M' : DM) : Prop := ∀ b o, b ≠ a → M b = some o → M' b = some o

/-! ### loops -/
def qKp (P R : DM → Prop) : Bool → DM → Prop := fun b M => match b with
  | true => P M
  | false => R M
theorem for_inv {J : ItD} {g : TGD} {tb : TSD} {en eb ec : Std → DM → Prop} {er : DQ} {ex : Std → DX} {σ : Std} {M : DM} (ds : List Dt.D) (I : Nat → Std → DM → Prop) (hJ : ∀ i σ' M', I i σ' M' → i ≤ ds.length → J i M' = some ds[i]?) (h0 : I 0 σ M)
    (step : ∀ i d σ' M', ds[i]? = some d → I i σ' M' → ∀ K : Std → DM → Prop, (∀ σ2 M2, I (i + 1) σ2 M2 → K σ2 M2) → g d σ' M' (fun σ2 M2 => tb ⟨K, er, en, K, ex⟩ σ2 M2) (ex σ'))
    (done : ∀ σ' M', I ds.length σ' M' → en σ' M') : ∃ n, forN J g tb ⟨en, er, eb, ec, ex⟩ n 0 σ M := by
  have all : ∀ n i σ' M', i ≤ ds.length → n = ds.length - i + 1 → I i σ' M' → forN J g tb ⟨en, er, eb, ec, ex⟩ n i σ' M' := by
    intro n
    induction n with
    | zero => intro i _ _ _ hn; omega
    | succ n ih =>
      intro i σ' M' hi hn h
      unfold forN
      rw [hJ i σ' M' h hi]
      by_cases hl : i < ds.length
      · rw [List.getElem?_eq_getElem hl]
        exact step i _ σ' M' (List.getElem?_eq_getElem hl) h _ fun σ2 M2 h2 => ih (i + 1) σ2 M2 hl (by omega) h2
      · rw [List.getElem?_eq_none_iff.mpr (by omega)]
        have e : i = ds.length := by omega
        subst e
        exact done σ' M' h
  exact ⟨_, all _ 0 σ M (Nat.zero_le _) rfl h0⟩
theorem lc_inv {J : ItD} {g : TGD} {tt : TTD} {te : TED} {vs : List Nat} {σ : Std} {Q : DQ} {M : DM} (ds : List D) (I : Nat → List D → DM → Prop) (hJ : ∀ i acc M', I i acc M' → i ≤ ds.length → J i M' = some ds[i]?) (h0 : I 0 [] M)
    (hz : ds.length ≤ sizeLine) (hb : ∀ i acc M', I i acc M' → acc.length ≤ i)
    (step : ∀ i d acc M', ds[i]? = some d → I i acc M' → ∀ (KT : DQ) (KF : DM → Prop), (∀ y M2, I (i + 1) (acc ++ [y]) M2 → KT y M2) → (∀ M2, I (i + 1) acc M2 → KF M2) →
      g d (wipeS σ vs) M' (fun σ2 M2 => tt σ2 M2 (qKp (fun M3 => te σ2 M3 KT noX) KF) noX) noX)
    (done : ∀ acc M' p, I ds.length acc M' → M' p = none → Q (.ref p) (put M' p (.lst acc))) : ∃ n, lcN J g tt te vs σ Q n 0 M [] := by
  have all : ∀ n i acc M', i ≤ ds.length → n = ds.length - i + 1 → I i acc M' → lcN J g tt te vs σ Q n i M' acc := by
    intro n
    induction n with
    | zero => intro i _ _ _ hn; omega
    | succ n ih =>
      intro i acc M' hi hn h
      unfold lcN
      rw [hJ i acc M' h hi]
      by_cases hl : i < ds.length
      · rw [List.getElem?_eq_getElem hl]
        have ha := hb i acc M' h
        exact step i _ acc M' (List.getElem?_eq_getElem hl) h _ _ (fun y M2 h2 => ⟨by omega, ih (i + 1) _ M2 hl (by omega) h2⟩) fun M2 h2 => ih (i + 1) acc M2 hl (by omega) h2
      · rw [List.getElem?_eq_none_iff.mpr (by omega)]
        have e : i = ds.length := by omega
        subst e
        exact fun p hp => done acc M' p h hp
  exact ⟨_, all _ 0 [] M (Nat.zero_le _) rfl h0⟩
theorem dc_inv {J : ItD} {g : TGD} {tt : TTD} {tk tv : TED} {vs : List Nat} {σ : Std} {Q : DQ} {M : DM} (ds : List D) (I : Nat → List (Key × D) → DM → Prop) (hJ : ∀ i acc M', I i acc M' → i ≤ ds.length → J i M' = some ds[i]?) (h0 : I 0 [] M)
    (hz : ds.length ≤ sizeLine) (hb : ∀ i acc M', I i acc M' → acc.length ≤ i)
    (step : ∀ i d acc M', ds[i]? = some d → I i acc M' → ∀ (KT : D → D → DM → Prop) (KF : DM → Prop), (∀ y z k M2, KeyD y = some k → I (i + 1) (putD acc k z) M2 → KT y z M2) → (∀ M2, I (i + 1) acc M2 → KF M2) →
      g d (wipeS σ vs) M' (fun σ2 M2 => tt σ2 M2 (qKp (fun M3 => tk σ2 M3 (fun y M4 => tv σ2 M4 (fun z M5 => KT y z M5) noX) noX) KF) noX) noX)
    (done : ∀ acc M' p, I ds.length acc M' → M' p = none → Q (.ref p) (put M' p (.dK acc))) : ∃ n, dcN J g tt tk tv vs σ Q n 0 M [] := by
  have all : ∀ n i acc M', i ≤ ds.length → n = ds.length - i + 1 → I i acc M' → dcN J g tt tk tv vs σ Q n i M' acc := by
    intro n
    induction n with
    | zero => intro i _ _ _ hn; omega
    | succ n ih =>
      intro i acc M' hi hn h
      unfold dcN
      rw [hJ i acc M' h hi]
      by_cases hl : i < ds.length
      · rw [List.getElem?_eq_getElem hl]
        have ha := hb i acc M' h
        exact step i _ acc M' (List.getElem?_eq_getElem hl) h _ _ (fun y z k M2 hk h2 => ⟨k, hk, by omega, ih (i + 1) _ M2 hl (by omega) h2⟩) fun M2 h2 => ih (i + 1) acc M2 hl (by omega) h2
      · rw [List.getElem?_eq_none_iff.mpr (by omega)]
        have e : i = ds.length := by omega
        subst e
        exact fun p hp => done acc M' p h hp
  exact ⟨_, all _ 0 [] M (Nat.zero_le _) rfl h0⟩
/-- the inner clause -/
theorem lc2In_inv {J : ItD} {g : TGD} {tt : TTD} {te : TED} {vs : List Nat} {σ : Std} {C : DM → List D → Prop} {M : DM} {acc0 : List D} (ds : List D) (I : Nat → List D → DM → Prop) (hJ : ∀ i acc M', I i acc M' → i ≤ ds.length → J i M' = some ds[i]?) (h0 : I 0 acc0 M)
    (hb : ∀ i acc M', I i acc M' → i < ds.length → acc.length < sizeLine)
    (step : ∀ i d acc M', ds[i]? = some d → I i acc M' → ∀ (KT : DQ) (KF : DM → Prop), (∀ y M2, I (i + 1) (acc ++ [y]) M2 → KT y M2) → (∀ M2, I (i + 1) acc M2 → KF M2) →
      g d (wipeS σ vs) M' (fun σ2 M2 => tt σ2 M2 (qKp (fun M3 => te σ2 M3 KT noX) KF) noX) noX)
    (done : ∀ acc M', I ds.length acc M' → C M' acc) : ∃ n, lc2In J g tt te vs σ C n 0 M acc0 := by
  have all : ∀ n i acc M', i ≤ ds.length → n = ds.length - i + 1 → I i acc M' → lc2In J g tt te vs σ C n i M' acc := by
    intro n
    induction n with
    | zero => intro i _ _ _ hn; omega
    | succ n ih =>
      intro i acc M' hi hn h
      unfold lc2In
      rw [hJ i acc M' h hi]
      by_cases hl : i < ds.length
      · rw [List.getElem?_eq_getElem hl]
        have ha := hb i acc M' h hl
        exact step i _ acc M' (List.getElem?_eq_getElem hl) h _ _ (fun y M2 h2 => ⟨ha, ih (i + 1) _ M2 hl (by omega) h2⟩) fun M2 h2 => ih (i + 1) acc M2 hl (by omega) h2
      · rw [List.getElem?_eq_none_iff.mpr (by omega)]
        have e : i = ds.length := by omega
        subst e
        exact done acc M' h
  exact ⟨_, all _ 0 acc0 M (Nat.zero_le _) rfl h0⟩
theorem lc2_inv {J : ItD} {g : TGD} {tt : TTD} {wi1 : TID} {g1 : TGD} {tt1 : TTD} {te : TED} {vs vs1 : List Nat} {σ : Std} {Q : DQ} {M : DM} (ds : List D) (I : Nat → List D → DM → Prop) (hJ : ∀ i acc M', I i acc M' → i ≤ ds.length → J i M' = some ds[i]?) (h0 : I 0 [] M)
    (step : ∀ i d acc M', ds[i]? = some d → I i acc M' → ∀ (C : DM → List D → Prop), (∀ acc2 M2, I (i + 1) acc2 M2 → C M2 acc2) →
      g d (wipeS σ vs) M' (fun σ2 M2 => tt σ2 M2 (qKp (fun M3 => wi1 σ2 M3 (fun J1 M4 => ∃ k, lc2In J1 g1 tt1 te vs1 σ2 C k 0 M4 acc) noX) (fun M3 => C M3 acc)) noX) noX)
    (done : ∀ acc M' p, I ds.length acc M' → M' p = none → Q (.ref p) (put M' p (.lst acc))) : ∃ n, lc2Out J g tt wi1 g1 tt1 te vs vs1 σ Q n 0 M [] := by
  have all : ∀ n i acc M', i ≤ ds.length → n = ds.length - i + 1 → I i acc M' → lc2Out J g tt wi1 g1 tt1 te vs vs1 σ Q n i M' acc := by
    intro n
    induction n with
    | zero => intro i _ _ _ hn; omega
    | succ n ih =>
      intro i acc M' hi hn h
      unfold lc2Out
      rw [hJ i acc M' h hi]
      by_cases hl : i < ds.length
      · rw [List.getElem?_eq_getElem hl]
        exact step i _ acc M' (List.getElem?_eq_getElem hl) h _ fun acc2 M2 h2 => ih (i + 1) acc2 M2 hl (by omega) h2
      · rw [List.getElem?_eq_none_iff.mpr (by omega)]
        have e : i = ds.length := by omega
        subst e
        exact fun p hp => done acc M' p h hp
  exact ⟨_, all _ 0 [] M (Nat.zero_le _) rfl h0⟩
theorem dc2In_inv {J : ItD} {g : TGD} {tt : TTD} {tk tv : TED} {vs : List Nat} {σ : Std} {C : DM → List (Key × D) → Prop} {M : DM} {acc0 : List (Key × D)} (ds : List D) (I : Nat → List (Key × D) → DM → Prop) (hJ : ∀ i acc M', I i acc M' → i ≤ ds.length → J i M' = some ds[i]?) (h0 : I 0 acc0 M)
    (hb : ∀ i acc M', I i acc M' → i < ds.length → acc.length < sizeLine)
    (step : ∀ i d acc M', ds[i]? = some d → I i acc M' → ∀ (KT : D → D → DM → Prop) (KF : DM → Prop), (∀ y z k M2, KeyD y = some k → I (i + 1) (putD acc k z) M2 → KT y z M2) → (∀ M2, I (i + 1) acc M2 → KF M2) →
      g d (wipeS σ vs) M' (fun σ2 M2 => tt σ2 M2 (qKp (fun M3 => tk σ2 M3 (fun y M4 => tv σ2 M4 (fun z M5 => KT y z M5) noX) noX) KF) noX) noX)
    (done : ∀ acc M', I ds.length acc M' → C M' acc) : ∃ n, dc2In J g tt tk tv vs σ C n 0 M acc0 := by
  have all : ∀ n i acc M', i ≤ ds.length → n = ds.length - i + 1 → I i acc M' → dc2In J g tt tk tv vs σ C n i M' acc := by
    intro n
    induction n with
    | zero => intro i _ _ _ hn; omega
    | succ n ih =>
      intro i acc M' hi hn h
      unfold dc2In
      rw [hJ i acc M' h hi]
      by_cases hl : i < ds.length
      · rw [List.getElem?_eq_getElem hl]
        have ha := hb i acc M' h hl
        exact step i _ acc M' (List.getElem?_eq_getElem hl) h _ _ (fun y z k M2 hk h2 => ⟨k, hk, ha, ih (i + 1) _ M2 hl (by omega) h2⟩) fun M2 h2 => ih (i + 1) acc M2 hl (by omega) h2
      · rw [List.getElem?_eq_none_iff.mpr (by omega)]
        have e : i = ds.length := by omega
        subst e
        exact done acc M' h
  exact ⟨_, all _ 0 acc0 M (Nat.zero_le _) rfl h0⟩
theorem dc2_inv {J : ItD} {g : TGD} {tt : TTD} {wi1 : TID} {g1 : TGD} {tt1 : TTD} {tk tv : TED} {vs vs1 : List Nat} {σ : Std} {Q : DQ} {M : DM} (ds : List D) (I : Nat → List (Key × D) → DM → Prop) (hJ : ∀ i acc M', I i acc M' → i ≤ ds.length → J i M' = some ds[i]?) (h0 : I 0 [] M)
    (step : ∀ i d acc M', ds[i]? = some d → I i acc M' → ∀ (C : DM → List (Key × D) → Prop), (∀ acc2 M2, I (i + 1) acc2 M2 → C M2 acc2) →
      g d (wipeS σ vs) M' (fun σ2 M2 => tt σ2 M2 (qKp (fun M3 => wi1 σ2 M3 (fun J1 M4 => ∃ k, dc2In J1 g1 tt1 tk tv vs1 σ2 C k 0 M4 acc) noX) (fun M3 => C M3 acc)) noX) noX)
    (done : ∀ acc M' p, I ds.length acc M' → M' p = none → Q (.ref p) (put M' p (.dK acc))) : ∃ n, dc2Out J g tt wi1 g1 tt1 tk tv vs vs1 σ Q n 0 M [] := by
  have all : ∀ n i acc M', i ≤ ds.length → n = ds.length - i + 1 → I i acc M' → dc2Out J g tt wi1 g1 tt1 tk tv vs vs1 σ Q n i M' acc := by
    intro n
    induction n with
    | zero => intro i _ _ _ hn; omega
    | succ n ih =>
      intro i acc M' hi hn h
      unfold dc2Out
      rw [hJ i acc M' h hi]
      by_cases hl : i < ds.length
      · rw [List.getElem?_eq_getElem hl]
        exact step i _ acc M' (List.getElem?_eq_getElem hl) h _ fun acc2 M2 h2 => ih (i + 1) acc2 M2 hl (by omega) h2
      · rw [List.getElem?_eq_none_iff.mpr (by omega)]
        have e : i = ds.length := by omega
        subst e
        exact fun p hp => done acc M' p h hp
  exact ⟨_, all _ 0 [] M (Nat.zero_le _) rfl h0⟩
/-- while, by a number that falls -/
theorem wh_inv {tc : TTD} {tb : TSD} {en eb ec : Std → DM → Prop} {er : DQ} {ex : Std → DX} {σ : Std} {M : DM} (I : Nat → Std → DM → Prop) (m : Nat) (h0 : I m σ M)
    (step : ∀ m σ' M', I m σ' M' → ∀ K : Std → DM → Prop, (∀ m2 σ2 M2, m2 < m → I m2 σ2 M2 → K σ2 M2) → tc σ' M' (qKp (fun M1 => tb ⟨K, er, en, K, ex⟩ σ' M1) (fun M1 => en σ' M1)) (ex σ')) : dWhile tc tb ⟨en, er, eb, ec, ex⟩ σ M := by
  have all : ∀ n m σ' M', m < n → I m σ' M' → whN tc tb ⟨en, er, eb, ec, ex⟩ n σ' M' := by
    intro n
    induction n with
    | zero => intro m _ _ h; omega
    | succ n ih =>
      intro m σ' M' hm h
      unfold whN
      exact step m σ' M' h _ fun m2 σ2 M2 h2 hi => ih m2 σ2 M2 (by omega) hi
  exact ⟨m + 1, all (m + 1) m σ M (Nat.lt_succ_self m) h0⟩
end Dt

set_option Elab.async false
set_option autoImplicit false
set_option linter.all false
set_option maxRecDepth 100000
set_option maxHeartbeats 4000000
/-! DR: plain Lean values as data: what ==, in, <, repr answer of them. -/
namespace Dt
open PySem PySem.Spec PyProof.Rows L2 LamX RZ PySem.P

class Enc (α : Type) where
  d : α → D
  p : α → PyData
  dep : Nat
  of : ∀ (M : DM) (n : Nat) (a : α), dep ≤ n → PyOf M n (d a) (p a)
  eqv : ∀ a b : α, PyData.eqv (p a) (p b) = true ↔ a = b
@[reducible] instance encStr : Enc Str where
  d := D.str
  p := PyData.str
  dep := 0
  of := fun _ _ _ _ => .str
  eqv := fun a b => by simp [PyData.eqv]
@[reducible] instance encInt : Enc Int where
  d := D.int
  p := PyData.int
  dep := 0
  of := fun _ _ _ _ => .int
  eqv := fun a b => by simp [PyData.eqv]
@[reducible] instance encBool : Enc Bool where
  d := D.bl
  p := PyData.bool
  dep := 0
  of := fun _ _ _ _ => .bl
  eqv := fun a b => by simp [PyData.eqv]
section
variable {α β : Type} [Enc α] [Enc β]
theorem pyOfs_map (M : DM) (n : Nat) (h : Enc.dep α ≤ n) : ∀ xs : List α, PyOfs M n (xs.map Enc.d) (xs.map Enc.p)
  | [] => .nil
  | x :: xs => .cons (Enc.of M n x h) (pyOfs_map M n h xs)
theorem eqvAll_map : ∀ xs ys : List α, PyData.eqvAll (xs.map Enc.p) (ys.map Enc.p) = true ↔ xs = ys
  | [], [] => by simp [PyData.eqvAll]
  | [], _ :: _ => by simp [PyData.eqvAll]
  | _ :: _, [] => by simp [PyData.eqvAll]
  | x :: xs, y :: ys => by simp only [List.map_cons, PyData.eqvAll, Bool.and_eq_true, Enc.eqv, eqvAll_map xs ys, List.cons.injEq]
@[reducible] instance encList : Enc (List α) where
  d := fun xs => D.tup (xs.map Enc.d)
  p := fun xs => PyData.tuple (xs.map Enc.p)
  dep := Enc.dep α + 1
  of := fun M n xs h => by
    cases n with
    | zero => omega
    | succ n => exact .tup (pyOfs_map M n (by omega) xs)
  eqv := fun a b => by rw [PyData.eqv, eqvAll_map]
@[reducible] instance encProd : Enc (α × β) where
  d := fun x => D.tup [Enc.d x.1, Enc.d x.2]
  p := fun x => PyData.tuple [Enc.p x.1, Enc.p x.2]
  dep := max (Enc.dep α) (Enc.dep β) + 1
  of := fun M n x h => by
    cases n with
    | zero => omega
    | succ n => exact .tup (.cons (Enc.of M n _ (by omega)) (.cons (Enc.of M n _ (by omega)) .nil))
  eqv := fun a b => by
    obtain ⟨a1, a2⟩ := a
    obtain ⟨b1, b2⟩ := b
    simp only [PyData.eqv, PyData.eqvAll, Bool.and_eq_true, Bool.and_true, Enc.eqv, Prod.mk.injEq]
/-- none, or a value that is not none -/
theorem eqv_b {a b : α} {c : Bool} (hc : c = true ↔ a = b) : PyData.eqv (Enc.p a) (Enc.p b) = c := by
  rw [Bool.eq_iff_iff, Enc.eqv, hc]
variable {M : DM} {Q : DQ}
theorem eq_enc {a b : α} {c : Bool} (hc : c = true ↔ a = b) (h : Enc.dep α ≤ 20) (q : Q (.bl c) M) : eqD (Enc.d a) (Enc.d b) M Q :=
  ⟨_, _, Enc.of M 20 a h, Enc.of M 20 b h, by simp only []; rw [eqv_b hc]; exact q⟩
theorem ne_enc {a b : α} {c : Bool} (hc : c = true ↔ a = b) (h : Enc.dep α ≤ 20) (q : Q (.bl (!c)) M) : neD (Enc.d a) (Enc.d b) M Q :=
  ⟨_, _, Enc.of M 20 a h, Enc.of M 20 b h, by simp only []; rw [eqv_b hc]; exact q⟩
theorem any_mem {a : α} {xs : List α} {b : Bool} (hb : b = true ↔ a ∈ xs) : ((xs.map Enc.p).any fun z => PyData.eqv z (Enc.p a)) = b := by
  rw [Bool.eq_iff_iff, List.any_eq_true, hb]
  constructor
  · rintro ⟨z, hz, e⟩
    obtain ⟨c, hc, rfl⟩ := List.mem_map.mp hz
    rw [Enc.eqv] at e
    subst e; exact hc
  · intro h
    exact ⟨_, List.mem_map_of_mem h, (Enc.eqv a a).mpr rfl⟩
theorem mem_enc {a : α} {xs : List α} {b : Bool} (hb : b = true ↔ a ∈ xs) (h : Enc.dep α ≤ 20) (q : Q (.bl b) M) : memD false (Enc.d a) (.tup (xs.map Enc.d)) M Q :=
  ⟨_, _, _, .inl rfl, Enc.of M 20 a h, pyOfs_map M 20 h xs, by rw [any_mem hb]; exact q⟩
theorem nmem_enc {a : α} {xs : List α} {b : Bool} (hb : b = true ↔ a ∈ xs) (h : Enc.dep α ≤ 20) (q : Q (.bl (!b)) M) : memD true (Enc.d a) (.tup (xs.map Enc.d)) M Q :=
  ⟨_, _, _, .inl rfl, Enc.of M 20 a h, pyOfs_map M 20 h xs, by rw [any_mem hb]; exact q⟩
theorem mem_encL {a : α} {xs : List α} {l : Addr} {b : Bool} (e : M l = some (.lst (xs.map Enc.d))) (hb : b = true ↔ a ∈ xs) (h : Enc.dep α ≤ 20) (q : Q (.bl b) M) : memD false (Enc.d a) (.ref l) M Q :=
  ⟨_, _, _, .inr ⟨l, rfl, e⟩, Enc.of M 20 a h, pyOfs_map M 20 h xs, by rw [any_mem hb]; exact q⟩
theorem nmem_encL {a : α} {xs : List α} {l : Addr} {b : Bool} (e : M l = some (.lst (xs.map Enc.d))) (hb : b = true ↔ a ∈ xs) (h : Enc.dep α ≤ 20) (q : Q (.bl (!b)) M) : memD true (Enc.d a) (.ref l) M Q :=
  ⟨_, _, _, .inr ⟨l, rfl, e⟩, Enc.of M 20 a h, pyOfs_map M 20 h xs, by rw [any_mem hb]; exact q⟩
/-- two lists -/
theorem eq_encL {xs ys : List α} {l k : Addr} {c : Bool} (e : M l = some (.lst (xs.map Enc.d))) (e2 : M k = some (.lst (ys.map Enc.d))) (hc : c = true ↔ xs = ys) (h : Enc.dep α ≤ 19) (q : Q (.bl c) M) : eqD (.ref l) (.ref k) M Q :=
  ⟨_, _, .lst e (pyOfs_map M 19 h xs), .lst e2 (pyOfs_map M 19 h ys), by
    have : PyData.eqv (.list (xs.map Enc.p)) (.list (ys.map Enc.p)) = c := by rw [Bool.eq_iff_iff, PyData.eqv, eqvAll_map, hc]
    simp only []; rw [this]; exact q⟩
theorem ne_encL {xs ys : List α} {l k : Addr} {c : Bool} (e : M l = some (.lst (xs.map Enc.d))) (e2 : M k = some (.lst (ys.map Enc.d))) (hc : c = true ↔ xs = ys) (h : Enc.dep α ≤ 19) (q : Q (.bl (!c)) M) : neD (.ref l) (.ref k) M Q :=
  ⟨_, _, .lst e (pyOfs_map M 19 h xs), .lst e2 (pyOfs_map M 19 h ys), by
    have : PyData.eqv (.list (xs.map Enc.p)) (.list (ys.map Enc.p)) = c := by rw [Bool.eq_iff_iff, PyData.eqv, eqvAll_map, hc]
    simp only []; rw [this]; exact q⟩
end
section
variable {M : DM} {Q : DQ} {i j : Int}
theorem lt_int (q : Q (.bl (decide (i < j))) M) : ltD (.int i) (.int j) M Q := ⟨_, _, .int, .int, rfl, (fun z => nomatch z), by simp only []; rw [PySem.W.dataLt_int]; exact q⟩
theorem gt_int (q : Q (.bl (decide (j < i))) M) : gtD (.int i) (.int j) M Q := ⟨_, _, .int, .int, rfl, (fun z => nomatch z), by simp only []; rw [PySem.W.dataLt_int]; exact q⟩
theorem le_int (q : Q (.bl (decide (i ≤ j))) M) : leD (.int i) (.int j) M Q := ⟨_, _, .int, .int, rfl, (fun z => nomatch z), by
  simp only []; rw [PySem.W.dataLt_int]
  have e : (!decide (j < i)) = decide (i ≤ j) := by rw [Bool.eq_iff_iff]; simp
  rw [e]; exact q⟩
theorem ge_int (q : Q (.bl (decide (j ≤ i))) M) : geD (.int i) (.int j) M Q := ⟨_, _, .int, .int, rfl, (fun z => nomatch z), by
  simp only []; rw [PySem.W.dataLt_int]
  have e : (!decide (i < j)) = decide (j ≤ i) := by rw [Bool.eq_iff_iff]; simp
  rw [e]; exact q⟩
theorem eq_int (q : Q (.bl (decide (i = j))) M) : eqD (.int i) (.int j) M Q := eq_enc (α := Int) decide_eq_true_iff (by decide) q
theorem ne_int (q : Q (.bl (!decide (i = j))) M) : neD (.int i) (.int j) M Q := ne_enc (α := Int) decide_eq_true_iff (by decide) q
theorem eq_str {a b : Str} (q : Q (.bl (decide (a = b))) M) : eqD (.str a) (.str b) M Q := eq_enc (α := Str) decide_eq_true_iff (by decide) q
theorem ne_str {a b : Str} (q : Q (.bl (!decide (a = b))) M) : neD (.str a) (.str b) M Q := ne_enc (α := Str) decide_eq_true_iff (by decide) q
theorem add_int (q : Q (.int (i + j)) M) : addD (.int i) (.int j) M Q := q
theorem add_tup {xs ys : List D} (h : xs.length + ys.length ≤ sizeLine) (q : Q (.tup (xs ++ ys)) M) : addD (.tup xs) (.tup ys) M Q := ⟨h, q⟩
theorem atI_nat {α : Type} {xs : List α} {n : Nat} {x : α} (h : xs[n]? = some x) : atI xs (n : Int) = some x := by
  have hn : n < xs.length := (List.getElem?_eq_some_iff.mp h).1
  unfold atI ixN
  rw [if_pos (by omega), if_pos (by omega)]
  exact h
theorem ix_tup {xs : List D} {n : Nat} {x : D} (h : xs[n]? = some x) (q : Q x M) : ixD (.tup xs) (.int (n : Int)) M Q := ⟨x, atI_nat h, q⟩
theorem ix_lst {a : Addr} {xs : List D} {n : Nat} {x : D} (e : M a = some (.lst xs)) (h : xs[n]? = some x) (q : Q x M) : ixD (.ref a) (.int (n : Int)) M Q := ⟨xs, x, e, atI_nat h, q⟩
theorem cut_from {α : Type} (xs : List α) (n : Nat) : cutD xs (some (n : Int)) none = xs.drop n := by
  unfold cutD
  rw [HT.sIx_nat, HT.sIx_none]
  by_cases h : n ≤ xs.length
  · rw [Nat.min_eq_left h, List.take_of_length_le (by simp)]
  · rw [Nat.min_eq_right (by omega)]; simp; omega
theorem cut_to {α : Type} (xs : List α) (n : Nat) : cutD xs none (some (n : Int)) = xs.take n := by
  unfold cutD
  rw [HT.sIx_nat, HT.sIx_none]
  simp only [List.drop_zero, Nat.sub_zero]
  by_cases h : n ≤ xs.length
  · rw [Nat.min_eq_left h]
  · rw [Nat.min_eq_right (by omega), List.take_of_length_le (Nat.le_of_lt (Nat.lt_of_not_le h))]; simp
end
/-! ### what a list hands out -/
theorem itT_at (ds : List D) (i : Nat) (M : DM) : itT ds i M = some ds[i]? := rfl
theorem itL_is {a : Addr} {M : DM} {ds : List D} (e : M a = some (.lst ds)) (i : Nat) : itL a i M = some ds[i]? := by unfold itL; rw [e]
theorem itR_at (lo : Int) (n i : Nat) (M : DM) (h : i ≤ n) : itR lo n i M = some ((List.map (fun k : Nat => D.int (lo + (k : Int))) (List.range n))[i]?) := by
  unfold itR
  rw [List.getElem?_map]
  by_cases hi : i < n
  · rw [if_pos hi, List.getElem?_range hi]; rfl
  · rw [if_neg hi, List.getElem?_eq_none_iff.mpr (by simpa using hi)]; rfl
/-- a list's elements with their numbers -/
def numD (ds : List D) : List D := (ds.zipIdx).map fun p => D.pair [.int (p.2 : Nat), p.1]
theorem itE_at {J : ItD} {i : Nat} {M : DM} {ds : List D} (h : J i M = some ds[i]?) : itE J i M = some (numD ds)[i]? := by
  unfold itE numD
  rw [h, List.getElem?_map, List.getElem?_zipIdx]
  cases ds[i]? with
  | none => rfl
  | some d => simp
theorem numD_length (ds : List D) : (numD ds).length = ds.length := by simp [numD]
theorem numD_get {ds : List D} {i : Nat} {d : D} (h : (numD ds)[i]? = some d) : ∃ x, ds[i]? = some x ∧ d = .pair [.int (i : Nat), x] := by
  unfold numD at h
  rw [List.getElem?_map, List.getElem?_zipIdx] at h
  cases e : ds[i]? with
  | none => rw [e] at h; cases h
  | some x => rw [e] at h; simp at h; exact ⟨x, rfl, h.symm⟩
/-! ### comprehensions that change nothing but their list -/
section
variable {α : Type} {J : ItD} {g : TGD} {tt : TTD} {te : TED} {vs : List Nat} {σ : Std} {Q : DQ} {M : DM}
theorem take_succ_get {α : Type} {xs : List α} {i : Nat} {x : α} (h : xs[i]? = some x) : xs.take (i + 1) = xs.take i ++ [x] := by
  rw [List.take_add_one, h]; rfl
theorem lc_pure (xs : List α) (f : α → D) (keep : α → Bool) (out : α → D) (hJ : ∀ i M', Ext M M' → i ≤ xs.length → J i M' = some (xs.map f)[i]?) (hz : xs.length ≤ sizeLine)
    (step : ∀ (i : Nat) (x : α) (M' : DM), xs[i]? = some x → Ext M M' → ∀ (KT : DQ) (KF : DM → Prop), (keep x = true → ∀ M2, Ext M M2 → KT (out x) M2) → (keep x = false → ∀ M2, Ext M M2 → KF M2) →
      g (f x) (wipeS σ vs) M' (fun σ2 M2 => tt σ2 M2 (qKp (fun M3 => te σ2 M3 KT noX) KF) noX) noX)
    (done : ∀ M' p, Ext M M' → M' p = none → Q (.ref p) (put M' p (.lst ((xs.filter keep).map out)))) : ∃ n, lcN J g tt te vs σ Q n 0 M [] := by
  refine lc_inv (xs.map f) (fun i acc M' => Ext M M' ∧ acc = ((xs.take i).filter keep).map out) (fun i acc M' h hi => hJ i M' h.1 (by simpa using hi)) ⟨.refl, by simp⟩ (by simpa using hz) (fun i acc M' h => ?_) (fun i d acc M' hd h KT KF kt kf => ?_) (fun acc M' p h hp => ?_)
  · rw [h.2, List.length_map]
    exact Nat.le_trans (List.length_filter_le _ _) (by rw [List.length_take]; exact Nat.min_le_left _ _)
  · rw [List.getElem?_map] at hd
    cases hx : xs[i]? with
    | none => rw [hx] at hd; cases hd
    | some x =>
      rw [hx] at hd; cases hd
      refine step i x M' hx h.1 KT KF (fun hk M2 e => kt _ _ ⟨e, ?_⟩) (fun hk M2 e => kf _ ⟨e, ?_⟩)
      · rw [take_succ_get hx, List.filter_append, List.map_append, h.2]; simp [hk]
      · rw [take_succ_get hx, List.filter_append, List.map_append, h.2]; simp [hk]
  · have := done M' p h.1 hp
    rw [h.2, show (xs.map f).length = xs.length from by simp, List.take_length]
    exact this
end
/-! ### opening a reading -/
section
variable {M : DM} {Q : DQ} {σ : Std} {E : DX} {wi wi1 : TID} {g g1 : TGD} {tt tt1 : TTD} {te tk tv : TED} {vs vs1 : List Nat} {De : DEnds} {tb : TSD}
theorem w_lc (h : wi σ M (fun J M1 => ∃ n, lcN J g tt te vs σ Q n 0 M1 []) E) : dLc wi g tt te vs σ M Q E := h
theorem w_lc2 (h : wi σ M (fun J M1 => ∃ n, lc2Out J g tt wi1 g1 tt1 te vs vs1 σ Q n 0 M1 []) E) : dLc2 wi g tt wi1 g1 tt1 te vs vs1 σ M Q E := h
theorem w_dc (h : wi σ M (fun J M1 => ∃ n, dcN J g tt tk tv vs σ Q n 0 M1 []) E) : dDc wi g tt tk tv vs σ M Q E := h
theorem w_dc2 (h : wi σ M (fun J M1 => ∃ n, dc2Out J g tt wi1 g1 tt1 tk tv vs vs1 σ Q n 0 M1 []) E) : dDc2 wi g tt wi1 g1 tt1 tk tv vs vs1 σ M Q E := h
theorem w_for (h : wi σ M (fun J M1 => ∃ n, forN J g tb De n 0 σ M1) (De.ex σ)) : dFor wi g tb De σ M := h
theorem w_make {C : Addr} {sp : SpD} {t : TAD} (h : t σ M (fun ds M1 => ∀ x, M1 x = none → sp (.ref x :: ds) (put M1 x (.ins C [])) (fun v M2 => v = .non ∧ Q (.ref x) M2) noX) E) : dMake C sp t σ M Q E := h
theorem w_meth {C : Addr} {m : Str} {sp : SpD} {ta : TED} {ts : TAD}
    (h : ta σ M (fun d M1 => ∃ a fs, d = .ref a ∧ M1 a = some (.ins C fs) ∧ lookD m fs = none ∧ ts σ M1 (fun ds M2 => sp (d :: ds) M2 Q noX) E) E) : dMeth C m sp ta ts σ M Q E := h
theorem w_tup {t : TAD} (h : t σ M (fun ds M1 => ds.length ≤ sizeLine ∧ Q (.tup ds) M1) E) : dTup t σ M Q E := h
theorem w_lst {t : TAD} (h : t σ M (fun ds M1 => ds.length ≤ sizeLine ∧ ∀ p, M1 p = none → Q (.ref p) (put M1 p (.lst ds))) E) : dLst t σ M Q E := h
theorem w_fldS {K : Bd} {f : Str} {ta : TED} (h : te σ M (fun v M1 => ta σ M1 (fun d M2 => ∃ a C fs, d = .ref a ∧ M2 a = some (.ins C fs) ∧ Cls K C ∧ NoAttr K C f ∧ fs.length < 1000 ∧ De.nx σ (put M2 a (.ins C (putFD f v fs)))) (De.ex σ)) (De.ex σ)) : dFldS K f ta te De σ M := h
theorem w_dput {td ty : TED} (h : tv σ M (fun v M1 => td σ M1 (fun d M2 => ty σ M2 (fun k M3 => ∃ a M4, d = .ref a ∧ DPutD M3 a k v M4 ∧ De.nx σ M4) (De.ex σ)) (De.ex σ)) (De.ex σ)) : dDPut td ty tv De σ M := h
theorem w_min {a b : Str} (h : Q (.str (minS a b)) M) : min2D [.str a, .str b] M Q := h
theorem w_max {a b : Str} (h : Q (.str (maxS a b)) M) : max2D [.str a, .str b] M Q := h
theorem w_yes {T : Bool → DM → Prop} (h : T true M) : tYesD σ M T E := h
theorem w_add {i j : Int} (h : Q (.int (i + j)) M) : addD (.int i) (.int j) M Q := h
theorem w_slT {xs : List D} {l u : Option Int} (h : Q (.tup (cutD xs l u)) M) : slD (.tup xs) l u M Q := h
theorem w_slL {a : Addr} {xs : List D} {l u : Option Int} (e : M a = some (.lst xs)) (h : ∀ p, M p = none → Q (.ref p) (put M p (.lst (cutD xs l u)))) : slD (.ref a) l u M Q := ⟨xs, e, h⟩
theorem w_slZ {xs : List D} {l u : Option Int} (h : ∀ p, M p = none → Q (.ref p) (put M p (.lst (cutD xs l u)))) : slD (.scr xs) l u M Q := h
theorem w_lenT {xs : List D} (q : Q (.int (xs.length : Nat)) M) : lenD [.tup xs] M Q := q
theorem w_lenL {a : Addr} {xs : List D} (e : M a = some (.lst xs)) (q : Q (.int (xs.length : Nat)) M) : lenD [.ref a] M Q := .inl ⟨xs, e, q⟩
theorem w_tupT {xs : List D} (q : Q (.tup xs) M) : tupD [.tup xs] M Q := q
theorem tup_list {a : Addr} {xs : List D} (e : M a = some (.lst xs)) (q : Q (.tup xs) M) : tupD [.ref a] M Q := ⟨xs, e, q⟩
end
end Dt

set_option Elab.async false
set_option autoImplicit false
set_option linter.all false
set_option maxRecDepth 100000
set_option maxHeartbeats 4000000
/-! DS: steps of readings, a lemma for each. -/
namespace Dt
open PySem PySem.Spec PyProof.Rows L2 LamX RZ PySem.P
theorem Ext.get {M M' : DM} (h : Ext M M') {a : Addr} {o : DO} (e : M a = some o) : M' a = some o := h a o e
/-! ### what follows, by name -/
section
variable {M : DM} {Q : DQ} {σ σ' : Std} {E : DX} {wi wi1 : TID} {g g1 : TGD} {gs : TGsD} {tt tu : TTD} {te ta tb tc tk tv : TED} {tr : TAD} {vs vs1 : List Nat} {n b c : Std → DM → Prop} {x : Std → DX} {t u : TSD} {R : ItD → DM → Prop}
def qB (Q : Bool → DM → Prop) : DQ := fun d M1 => match d with
  | .bl b => Q b M1
  | _ => False
def qAnd (u : TTD) (σ : Std) (Q : Bool → DM → Prop) (E : DX) : Bool → DM → Prop := fun b M1 => match b with
  | true => u σ M1 Q E
  | false => Q false M1
def qOr (u : TTD) (σ : Std) (Q : Bool → DM → Prop) (E : DX) : Bool → DM → Prop := fun b M1 => match b with
  | true => Q true M1
  | false => u σ M1 Q E
def qAndV (tb : TED) (σ : Std) (Q : DQ) (E : DX) : DQ := fun d M1 => match d with
  | .bl true => tb σ M1 Q E
  | .bl false => Q (.bl false) M1
  | _ => False
def qOrV (tb : TED) (σ : Std) (Q : DQ) (E : DX) : DQ := fun d M1 => match d with
  | .bl true => Q (.bl true) M1
  | .bl false => tb σ M1 Q E
  | _ => False
def qNotV (Q : DQ) : DQ := fun d M1 => match d with
  | .bl b => Q (.bl (!b)) M1
  | _ => False
def qIf (ta tb : TED) (σ : Std) (Q : DQ) (E : DX) : Bool → DM → Prop := fun b M1 => match b with
  | true => ta σ M1 Q E
  | false => tb σ M1 Q E
def qPart (Q : Option Int → DM → Prop) : DQ := fun d M1 => match d with
  | .int i => Q (some i) M1
  | _ => False
def qIfS (t u : TSD) (D : DEnds) (σ : Std) : Bool → DM → Prop := fun b M1 => match b with
  | true => t D σ M1
  | false => u D σ M1
def qPar (i j : Nat) (σ : Std) (n : Std → DM → Prop) : List D → DM → Prop := fun ds M1 => match ds with
  | [d, e] => n (setS (setS σ i d) j e) M1
  | _ => False
def qPar3 (i j l : Nat) (σ : Std) (n : Std → DM → Prop) : List D → DM → Prop := fun ds M1 => match ds with
  | [d, e, f] => n (setS (setS (setS σ i d) j e) l f) M1
  | _ => False
def qSet (i : Nat) (σ : Std) (n : Std → DM → Prop) : DQ := fun z M2 => n (setS σ i z) M2
def qSeq (R : ItD → DM → Prop) : DQ := fun d M1 => match d with
  | .tup xs => R (itT xs) M1
  | .ref a => (∃ xs, M1 a = some (.lst xs)) ∧ R (itL a) M1
  | _ => False
def qRng1 (R : ItD → DM → Prop) : List D → DM → Prop := fun ds M1 => match ds with
  | [.int j] => (-(2 ^ 62) ≤ j ∧ j < 2 ^ 62) ∧ R (itR 0 j.toNat) M1
  | _ => False
def qRng2 (R : ItD → DM → Prop) : List D → DM → Prop := fun ds M1 => match ds with
  | [.int i, .int j] => (-(2 ^ 62) ≤ i ∧ i < 2 ^ 62 ∧ -(2 ^ 62) ≤ j ∧ j < 2 ^ 62) ∧ R (itR i (j - i).toNat) M1
  | _ => False
def qEnum (R : ItD → DM → Prop) : List D → DM → Prop := fun ds M1 => match ds with
  | [.tup xs] => R (itE (itT xs)) M1
  | [.ref a] => (∃ xs, M1 a = some (.lst xs)) ∧ R (itE (itL a)) M1
  | _ => False
def qZip (R : ItD → DM → Prop) : List D → DM → Prop := fun ds M1 => match ds with
  | [.tup xs, .tup ys] => R (itZ (itT xs) (itT ys)) M1
  | [.ref a, .ref b] => (∃ xs ys, M1 a = some (.lst xs) ∧ M1 b = some (.lst ys)) ∧ R (itZ (itL a) (itL b)) M1
  | _ => False
/-! ### slots -/
class SetS (σ : Std) (i : Nat) (d : D) (σ' : outParam Std) : Prop where
  eq : setS σ i d = σ'
class GetS (σ : Std) (i : Nat) (d : outParam D) : Prop where
  eq : slot σ i = some d
class UnsS (σ : Std) (i : Nat) (σ' : outParam Std) : Prop where
  eq : wipeS.unset σ i = σ'
class WipS (σ : Std) (vs : List Nat) (σ' : outParam Std) : Prop where
  eq : wipeS σ vs = σ'
instance {o : Option D} {r : Std} {d : D} : SetS (o :: r) 0 d (some d :: r) := ⟨rfl⟩
instance {o : Option D} {r r' : Std} {d : D} {i : Nat} [h : SetS r i d r'] : SetS (o :: r) (i + 1) d (o :: r') := ⟨by rw [← h.eq]⟩
instance {r : Std} {d : D} : GetS (some d :: r) 0 d := ⟨rfl⟩
instance {o : Option D} {r : Std} {d : D} {i : Nat} [h : GetS r i d] : GetS (o :: r) (i + 1) d := ⟨h.eq⟩
instance {o : Option D} {r : Std} : UnsS (o :: r) 0 (none :: r) := ⟨rfl⟩
instance {o : Option D} {r r' : Std} {i : Nat} [h : UnsS r i r'] : UnsS (o :: r) (i + 1) (o :: r') := ⟨by rw [← h.eq]⟩
instance {σ : Std} : WipS σ [] σ := ⟨rfl⟩
instance {σ σ1 σ2 : Std} {v : Nat} {vs : List Nat} [h : WipS σ vs σ1] [k : UnsS σ1 v σ2] : WipS σ (v :: vs) σ2 := ⟨by rw [← k.eq, ← h.eq]⟩
instance {σ σ1 σ2 : Std} {vs : List Nat} {i : Nat} {d : D} [h : WipS σ vs σ1] [k : SetS σ1 i d σ2] : SetS (wipeS σ vs) i d σ2 := ⟨by rw [h.eq, k.eq]⟩
instance {σ σ1 : Std} {vs : List Nat} {i : Nat} {d : D} [h : WipS σ vs σ1] [k : GetS σ1 i d] : GetS (wipeS σ vs) i d := ⟨by rw [h.eq, k.eq]⟩
/-- one step of a reading -/
class StepW (G : Prop) (H : outParam Prop) : Prop where
  go : H → G
class StepG (G : Prop) (H : outParam Prop) : Prop where
  go : H → G
/-- a part of a reading, by name -/
class StepP (G : Prop) (H : outParam Prop) : Prop where
  go : H → G
/-! ### names, constants, displays, operators -/
theorem w_var {i : Nat} {d : D} [h : GetS σ i d] (q : Q d M) : dVar i σ M Q E := by
  show (match slot σ i with | some d => Q d M | none => False)
  rw [h.eq]; exact q
theorem w_c {d : D} (q : Q d M) : dC d σ M Q E := q
theorem w_nil {Q : List D → DM → Prop} (h : Q [] M) : dNil σ M Q E := h
theorem w_cons {T : List D → DM → Prop} (h : ta σ M (fun d M1 => tr σ M1 (fun ds M2 => T (d :: ds) M2) E) E) : dCons ta tr σ M T E := h
theorem w_op {rd : R2D} (h : ta σ M (fun d M1 => tb σ M1 (fun e M2 => rd d e M2 Q) E) E) : dOp rd ta tb σ M Q E := h
theorem w_uno {rd : R1D} (h : ta σ M (fun d M1 => rd d M1 Q) E) : dUn rd ta σ M Q E := h
theorem w_B {Q : Bool → DM → Prop} (h : ta σ M (qB Q) E) : dB ta σ M Q E := h
theorem w_qB {Q : Bool → DM → Prop} {b : Bool} (h : Q b M) : qB Q (.bl b) M := h
theorem w_not {Q : Bool → DM → Prop} (h : tt σ M (fun b M1 => Q (!b) M1) E) : dNot tt σ M Q E := h
theorem w_and {Q : Bool → DM → Prop} (h : tt σ M (qAnd tu σ Q E) E) : dAnd tt tu σ M Q E := h
theorem w_qAndT {Q : Bool → DM → Prop} (h : tu σ M Q E) : qAnd tu σ Q E true M := h
theorem w_qAndF {Q : Bool → DM → Prop} (h : Q false M) : qAnd tu σ Q E false M := h
theorem w_or {Q : Bool → DM → Prop} (h : tt σ M (qOr tu σ Q E) E) : dOr tt tu σ M Q E := h
theorem w_qOrT {Q : Bool → DM → Prop} (h : Q true M) : qOr tu σ Q E true M := h
theorem w_qOrF {Q : Bool → DM → Prop} (h : tu σ M Q E) : qOr tu σ Q E false M := h
theorem w_andV (h : ta σ M (qAndV tb σ Q E) E) : dAndV ta tb σ M Q E := h
theorem w_qAndVT (h : tb σ M Q E) : qAndV tb σ Q E (.bl true) M := h
theorem w_qAndVF (h : Q (.bl false) M) : qAndV tb σ Q E (.bl false) M := h
theorem w_orV (h : ta σ M (qOrV tb σ Q E) E) : dOrV ta tb σ M Q E := h
theorem w_qOrVT (h : Q (.bl true) M) : qOrV tb σ Q E (.bl true) M := h
theorem w_qOrVF (h : tb σ M Q E) : qOrV tb σ Q E (.bl false) M := h
theorem w_notV (h : ta σ M (qNotV Q) E) : dNotV ta σ M Q E := h
theorem w_qNotV {b : Bool} (h : Q (.bl (!b)) M) : qNotV Q (.bl b) M := h
theorem w_if (h : tt σ M (qIf ta tb σ Q E) E) : dIf tt ta tb σ M Q E := h
theorem w_qIfT (h : ta σ M Q E) : qIf ta tb σ Q E true M := h
theorem w_qIfF (h : tb σ M Q E) : qIf ta tb σ Q E false M := h
theorem w_cb {rd : RLD} (h : tr σ M (fun ds M1 => rd ds M1 Q) E) : dCB rd tr σ M Q E := h
theorem w_bm {ok : D → DM → Prop} {rd : RMD} (h : ta σ M (fun d M1 => ok d M1 ∧ tr σ M1 (fun ds M2 => rd d ds M2 Q) E) E) : dBM ok rd ta tr σ M Q E := h
theorem w_bm0 {ok : D → DM → Prop} {rd : RMD} (h : ta σ M (fun d M1 => ok d M1 ∧ rd d [] M1 Q) E) : dBM0 ok rd ta σ M Q E := h
theorem w_no {Q : Option Int → DM → Prop} (h : Q none M) : dNo σ M Q E := h
theorem w_part {Q : Option Int → DM → Prop} (h : ta σ M (qPart Q) E) : dPart ta σ M Q E := h
theorem w_qPart {Q : Option Int → DM → Prop} {i : Int} (h : Q (some i) M) : qPart Q (.int i) M := h
theorem w_sl {tl th : TOD} (h : te σ M (fun d M1 => tl σ M1 (fun lo M2 => th σ M2 (fun hi M3 => slD d lo hi M3 Q) E) E) E) : dSl te tl th σ M Q E := h
theorem w_newK (h : ∀ p, M p = none → Q (.ref p) (put M p (.dK []))) : dNewK σ M Q E := h
theorem w_newT (h : ∀ p, M p = none → Q (.ref p) (put M p (.dT []))) : dNewT σ M Q E := h
theorem w_call {sp : SpD} (h : tr σ M (fun ds M1 => sp ds M1 Q noX) E) : dCall sp tr σ M Q E := h
theorem w_callX {sp : SpD} (h : tr σ M (fun ds M1 => sp ds M1 Q E) E) : dCallX sp tr σ M Q E := h
theorem w_isi {ans : String → Option Bool} (h : te σ M (fun d M1 => ∃ U b, typD d M1 = some U ∧ ans U = some b ∧ Q (.bl b) M1) E) : dIsi ans te σ M Q E := h
/-! ### targets -/
theorem w_nIfST {D : DEnds} (h : t D σ M) : qIfS t u D σ (!false) M := h
theorem w_nIfSF {D : DEnds} (h : u D σ M) : qIfS t u D σ (!true) M := h
theorem w_nIfT (h : ta σ M Q E) : qIf ta tb σ Q E (!false) M := h
theorem w_nIfF (h : tb σ M Q E) : qIf ta tb σ Q E (!true) M := h
theorem w_nOrT {Q : Bool → DM → Prop} (h : Q true M) : qOr tu σ Q E (!false) M := h
theorem w_nOrF {Q : Bool → DM → Prop} (h : tu σ M Q E) : qOr tu σ Q E (!true) M := h
theorem w_nAndT {Q : Bool → DM → Prop} (h : tu σ M Q E) : qAnd tu σ Q E (!false) M := h
theorem w_nAndF {Q : Bool → DM → Prop} (h : Q false M) : qAnd tu σ Q E (!true) M := h
theorem w_nAndVT (h : tb σ M Q E) : qAndV tb σ Q E (.bl (!false)) M := h
theorem w_nAndVF (h : Q (.bl false) M) : qAndV tb σ Q E (.bl (!true)) M := h
theorem w_nOrVT (h : Q (.bl true) M) : qOrV tb σ Q E (.bl (!false)) M := h
theorem w_nOrVF (h : tb σ M Q E) : qOrV tb σ Q E (.bl (!true)) M := h
theorem w_nm {Q : Std → DM → Prop} {i : Nat} {d : D} [h : SetS σ i d σ'] (q : Q σ' M) : gNm i d σ M Q E := by
  show Q (setS σ i d) M
  rw [h.eq]; exact q
theorem w_gnil {Q : Std → DM → Prop} (q : Q σ M) : gNilD [] σ M Q E := q
theorem w_gcons {Q : Std → DM → Prop} {d : D} {r : List D} (h : g d σ M (fun σ1 M1 => gs r σ1 M1 Q E) E) : gConsD g gs (d :: r) σ M Q E := h
theorem w_unT {Q : Std → DM → Prop} {n : Nat} {xs : List D} (h : xs.length = n ∧ gs xs σ M Q E) : gUn n gs (.tup xs) σ M Q E := h
theorem w_unP {Q : Std → DM → Prop} {n : Nat} {xs : List D} (h : xs.length = n ∧ gs xs σ M Q E) : gUn n gs (.pair xs) σ M Q E := h
theorem w_unR {Q : Std → DM → Prop} {n : Nat} {a : Addr} (h : ∃ xs, M a = some (.lst xs) ∧ xs.length = n ∧ gs xs σ M Q E) : gUn n gs (.ref a) σ M Q E := h
theorem w_gix {Q : Std → DM → Prop} {to ti : TED} {v : D} (h : to σ M (fun o M1 => ti σ M1 (fun i M2 => setLD M2 o i v (fun M3 => Q σ M3)) E) E) : gIx to ti v σ M Q E := h
theorem w_gfd {Q : Std → DM → Prop} {K : Bd} {f : Str} {to : TED} {v : D} (h : to σ M (fun d M1 => ∃ a C fs, d = .ref a ∧ M1 a = some (.ins C fs) ∧ Cls K C ∧ NoAttr K C f ∧ fs.length < 1000 ∧ Q σ (put M1 a (.ins C (putFD f v fs)))) E) : gFd K f to v σ M Q E := h
/-! ### statements -/
theorem w_nx (h : n σ M) : DEnds.nx ⟨n, Q, b, c, x⟩ σ M := h
theorem w_rt {d : D} (h : Q d M) : DEnds.rt ⟨n, Q, b, c, x⟩ d M := h
theorem w_bk (h : b σ M) : DEnds.bk ⟨n, Q, b, c, x⟩ σ M := h
theorem w_ct (h : c σ M) : DEnds.ct ⟨n, Q, b, c, x⟩ σ M := h
theorem w_next (h : n σ M) : dNext ⟨n, Q, b, c, x⟩ σ M := h
theorem w_seq (h : t ⟨fun σ' M' => u ⟨n, Q, b, c, x⟩ σ' M', Q, b, c, x⟩ σ M) : dSeq t u ⟨n, Q, b, c, x⟩ σ M := h
theorem w_break (h : b σ M) : dBreak ⟨n, Q, b, c, x⟩ σ M := h
theorem w_cont (h : c σ M) : dCont ⟨n, Q, b, c, x⟩ σ M := h
theorem w_drop (h : te σ M (fun _ M1 => n σ M1) (x σ)) : dDrop te ⟨n, Q, b, c, x⟩ σ M := h
theorem w_ret (h : te σ M Q (x σ)) : dRet te ⟨n, Q, b, c, x⟩ σ M := h
theorem w_retN (h : Q .non M) : dRetN ⟨n, Q, b, c, x⟩ σ M := h
theorem w_ifS (h : tt σ M (qIfS t u ⟨n, Q, b, c, x⟩ σ) (x σ)) : dIfS tt t u ⟨n, Q, b, c, x⟩ σ M := h
theorem w_qIfST {D : DEnds} (h : t D σ M) : qIfS t u D σ true M := h
theorem w_qIfSF {D : DEnds} (h : u D σ M) : qIfS t u D σ false M := h
theorem w_asg (h : te σ M (fun d M1 => g d σ M1 n (x σ)) (x σ)) : dAsg te g ⟨n, Q, b, c, x⟩ σ M := h
theorem w_par {i j : Nat} (h : tr σ M (qPar i j σ n) (x σ)) : dPar i j tr ⟨n, Q, b, c, x⟩ σ M := h
theorem w_qPar {σ1 σ2 : Std} {i j : Nat} {d e : D} [h1 : SetS σ i d σ1] [h2 : SetS σ1 j e σ2] (q : n σ2 M) : qPar i j σ n [d, e] M := by
  show n (setS (setS σ i d) j e) M
  rw [h1.eq, h2.eq]; exact q
theorem w_par3 {i j l : Nat} (h : tr σ M (qPar3 i j l σ n) (x σ)) : dPar3 i j l tr ⟨n, Q, b, c, x⟩ σ M := h
theorem w_qPar3 {σ1 σ2 σ3 : Std} {i j l : Nat} {d e f : D} [h1 : SetS σ i d σ1] [h2 : SetS σ1 j e σ2] [h3 : SetS σ2 l f σ3] (q : n σ3 M) : qPar3 i j l σ n [d, e, f] M := by
  show n (setS (setS (setS σ i d) j e) l f) M
  rw [h1.eq, h2.eq, h3.eq]; exact q
theorem w_aug {i : Nat} {rd : R2D} {d : D} [h : GetS σ i d] (q : te σ M (fun e M1 => rd d e M1 (qSet i σ n)) (x σ)) : dAug i rd te ⟨n, Q, b, c, x⟩ σ M := by
  show (match slot σ i with
  | some d => te σ M (fun e M1 => rd d e M1 (fun z M2 => n (setS σ i z) M2)) (x σ)
  | none => False)
  rw [h.eq]; exact q
theorem w_qSet {i : Nat} {d : D} [h : SetS σ i d σ'] (q : n σ' M) : qSet i σ n d M := by
  show n (setS σ i d) M
  rw [h.eq]; exact q
theorem w_daug {rd : R2D} {td ty tv : TED} (h : td σ M (fun d M1 => ty σ M1 (fun k M2 => ∃ a v, d = .ref a ∧ DGetD M2 a k (some v) ∧ tv σ M2 (fun e M3 => rd v e M3 (fun z M4 => ∃ M5, DPutD M4 a k z M5 ∧ n σ M5)) (x σ)) (x σ)) (x σ)) : dDAug rd td ty tv ⟨n, Q, b, c, x⟩ σ M := h
theorem w_ixaug {rd : R2D} {to ti te : TED} (h : to σ M (fun o M1 => ti σ M1 (fun i M2 => (∃ a xs, o = .ref a ∧ M2 a = some (.lst xs)) ∧ ixD o i M2 (fun x' M3 => te σ M3 (fun y M4 => rd x' y M4 (fun z M5 => setLD M5 o i z (fun M6 => n σ M6))) (x σ))) (x σ)) (x σ)) : dIxAug rd to ti te ⟨n, Q, b, c, x⟩ σ M := h
theorem w_fldA {K : Bd} {rd : R2D} {f : Str} {ta tv : TED} (h : ta σ M (fun d M1 => ∃ a C fs v, d = .ref a ∧ M1 a = some (.ins C fs) ∧ Cls K C ∧ NoAttr K C f ∧ lookD f fs = some v ∧ tv σ M1 (fun e M2 => rd v e M2 (fun z M3 => ∃ fs', M3 a = some (.ins C fs') ∧ fs'.length < 1000 ∧ n σ (put M3 a (.ins C (putFD f z fs'))))) (x σ)) (x σ)) : dFldA K rd f ta tv ⟨n, Q, b, c, x⟩ σ M := h
theorem w_fldS' {K : Bd} {f : Str} {ta : TED} (h : te σ M (fun v M1 => ta σ M1 (fun d M2 => ∃ a C fs, d = .ref a ∧ M2 a = some (.ins C fs) ∧ Cls K C ∧ NoAttr K C f ∧ fs.length < 1000 ∧ n σ (put M2 a (.ins C (putFD f v fs)))) (x σ)) (x σ)) : dFldS K f ta te ⟨n, Q, b, c, x⟩ σ M := h
theorem w_dput' {td ty : TED} (h : tv σ M (fun v M1 => td σ M1 (fun d M2 => ty σ M2 (fun k M3 => ∃ a M4, d = .ref a ∧ DPutD M3 a k v M4 ∧ n σ M4) (x σ)) (x σ)) (x σ)) : dDPut td ty tv ⟨n, Q, b, c, x⟩ σ M := h
theorem w_for' (h : wi σ M (fun J M1 => ∃ k, forN J g t ⟨n, Q, b, c, x⟩ k 0 σ M1) (x σ)) : dFor wi g t ⟨n, Q, b, c, x⟩ σ M := h
/-! ### what is walked -/
theorem w_seqi (h : te σ M (qSeq R) E) : diSeq te σ M R E := h
theorem w_qSeqT {xs : List D} (h : R (itT xs) M) : qSeq R (.tup xs) M := h
theorem w_qSeqR {a : Addr} (h : (∃ xs, M a = some (.lst xs)) ∧ R (itL a) M) : qSeq R (.ref a) M := h
theorem w_rng1 (h : tr σ M (qRng1 R) E) : diRng1 tr σ M R E := h
theorem w_qRng1 {j : Int} (h : (-(2 ^ 62) ≤ j ∧ j < 2 ^ 62) ∧ R (itR 0 j.toNat) M) : qRng1 R [.int j] M := h
theorem w_rng2 (h : tr σ M (qRng2 R) E) : diRng2 tr σ M R E := h
theorem w_qRng2 {i j : Int} (h : (-(2 ^ 62) ≤ i ∧ i < 2 ^ 62 ∧ -(2 ^ 62) ≤ j ∧ j < 2 ^ 62) ∧ R (itR i (j - i).toNat) M) : qRng2 R [.int i, .int j] M := h
theorem w_enum (h : tr σ M (qEnum R) E) : diEnum tr σ M R E := h
theorem w_qEnumT {xs : List D} (h : R (itE (itT xs)) M) : qEnum R [.tup xs] M := h
theorem w_qEnumR {a : Addr} (h : (∃ xs, M a = some (.lst xs)) ∧ R (itE (itL a)) M) : qEnum R [.ref a] M := h
theorem w_zip (h : tr σ M (qZip R) E) : diZip tr σ M R E := h
theorem w_qZipT {xs ys : List D} (h : R (itZ (itT xs) (itT ys)) M) : qZip R [.tup xs, .tup ys] M := h
theorem w_qZipR {a b : Addr} (h : (∃ xs ys, M a = some (.lst xs) ∧ M b = some (.lst ys)) ∧ R (itZ (itL a) (itL b)) M) : qZip R [.ref a, .ref b] M := h
/-! ### behind a step -/
theorem w_sz {n : Nat} {P : Prop} (h : n ≤ sizeLine) (p : P) : n ≤ sizeLine ∧ P := ⟨h, p⟩
theorem w_un {n : Nat} {P : Prop} (p : P) : n = n ∧ P := ⟨rfl, p⟩
theorem w_len {α : Type} {xs : List α} {n : Nat} {P : Prop} (h : xs.length = n) (p : P) : xs.length = n ∧ P := ⟨h, p⟩
theorem w_sub {i j : Int} (h : Q (.int (i - j)) M) : subD (.int i) (.int j) M Q := h
theorem w_neg {i : Int} (h : Q (.int (-i)) M) : negD (.int i) M Q := h
theorem w_lstT {xs : List D} (h : ∀ p, M p = none → Q (.ref p) (put M p (.lst xs))) : lstD [.tup xs] M Q := h
theorem w_lstL {a : Addr} {xs : List D} (e : M a = some (.lst xs)) (h : ∀ p, M p = none → Q (.ref p) (put M p (.lst xs))) : lstD [.ref a] M Q := ⟨xs, e, h⟩
theorem w_int1 {i : Int} (h : Q (.int i) M) : intD [.int i] M Q := h
theorem w_abs {i : Int} (h : Q (.int (if i < 0 then -i else i)) M) : absD [.int i] M Q := h
theorem w_dic {a : Addr} {kvs : List (Key × D)} (e : M a = some (.dK kvs)) (h : ∀ p, M p = none → Q (.ref p) (put M p (.dK kvs))) : dicD [.ref a] M Q := ⟨kvs, e, h⟩
theorem w_seqL {a : Addr} {xs : List D} {P : Prop} (e : M a = some (.lst xs)) (h : P) : (∃ xs, M a = some (.lst xs)) ∧ P := ⟨⟨xs, e⟩, h⟩
theorem w_app {a : Addr} {xs : List D} {e : D} (h : M a = some (.lst xs)) (hl : xs.length < sizeLine) (q : Q .non (put M a (.lst (xs ++ [e])))) : appD (.ref a) [e] M Q := ⟨a, xs, rfl, h, hl, q⟩
theorem w_all {a : Addr} {bs : List Bool} (e : M a = some (.lst (bs.map .bl))) (q : Q (.bl (bs.all id)) M) : allD [.ref a] M Q := ⟨bs, e, q⟩
theorem w_isLst {a : Addr} {xs : List D} {P : Prop} (h : M a = some (.lst xs)) (p : P) : isLst (.ref a) M ∧ P := ⟨⟨a, xs, rfl, h⟩, p⟩
theorem w_isTup {xs : List D} {P : Prop} (p : P) : isTup (.tup xs) M ∧ P := ⟨⟨xs, rfl⟩, p⟩
theorem w_obj {a C : Addr} {fs : List (Str × D)} {m : Str} {P : Prop} (e : M a = some (.ins C fs)) (l : lookD m fs = none) (p : P) : ∃ b gs, D.ref a = .ref b ∧ M b = some (.ins C gs) ∧ lookD m gs = none ∧ P := ⟨a, fs, rfl, e, l, p⟩
theorem w_isNN (q : Q (.bl true) M) : isN .non .non M Q := ⟨rfl, q⟩
theorem w_isNI {i : Int} (q : Q (.bl false) M) : isN (.int i) .non M Q := ⟨rfl, q⟩
theorem w_isNT {xs : List D} (q : Q (.bl false) M) : isN (.tup xs) .non M Q := ⟨rfl, q⟩
theorem w_isNS {s : Str} (q : Q (.bl false) M) : isN (.str s) .non M Q := ⟨rfl, q⟩
theorem w_notNN (q : Q (.bl false) M) : notN .non .non M Q := ⟨rfl, q⟩
theorem w_notNI {i : Int} (q : Q (.bl true) M) : notN (.int i) .non M Q := ⟨rfl, q⟩
theorem w_notNT {xs : List D} (q : Q (.bl true) M) : notN (.tup xs) .non M Q := ⟨rfl, q⟩
theorem w_notNS {s : Str} (q : Q (.bl true) M) : notN (.str s) .non M Q := ⟨rfl, q⟩
theorem w_ands {P R S : Prop} (p : P ∧ R) (s : S) : P ∧ R ∧ S := ⟨p.1, p.2, s⟩
instance i_var {i : Nat} {d : D} [h : GetS σ i d] : StepW (dVar i σ M Q E) (Q d M) := ⟨fun z => w_var z⟩
instance i_nm {Q : Std → DM → Prop} {i : Nat} {d : D} [h : SetS σ i d σ'] : StepW (gNm i d σ M Q E) (Q σ' M) := ⟨fun z => w_nm z⟩
instance i_seq  : StepW (dSeq t u ⟨n, Q, b, c, x⟩ σ M) (t ⟨fun σ' M' => u ⟨n, Q, b, c, x⟩ σ' M', Q, b, c, x⟩ σ M) := ⟨fun z => w_seq z⟩
instance i_c {d : D} : StepW (dC d σ M Q E) (Q d M) := ⟨fun z => w_c z⟩
instance i_asg  : StepW (dAsg te g ⟨n, Q, b, c, x⟩ σ M) (te σ M (fun d M1 => g d σ M1 n (x σ)) (x σ)) := ⟨fun z => w_asg z⟩
instance i_cons {T : List D → DM → Prop} : StepW (dCons ta tr σ M T E) (ta σ M (fun d M1 => tr σ M1 (fun ds M2 => T (d :: ds) M2) E) E) := ⟨fun z => w_cons z⟩
instance i_nil {Q : List D → DM → Prop} : StepW (dNil σ M Q E) (Q [] M) := ⟨fun z => w_nil z⟩
instance i_B {Q : Bool → DM → Prop} : StepW (dB ta σ M Q E) (ta σ M (qB Q) E) := ⟨fun z => w_B z⟩
instance i_qB {Q : Bool → DM → Prop} {b : Bool} : StepW (qB Q (.bl b) M) (Q b M) := ⟨fun z => w_qB z⟩
instance i_op {rd : R2D} : StepW (dOp rd ta tb σ M Q E) (ta σ M (fun d M1 => tb σ M1 (fun e M2 => rd d e M2 Q) E) E) := ⟨fun z => w_op z⟩
instance i_uno {rd : R1D} : StepW (dUn rd ta σ M Q E) (ta σ M (fun d M1 => rd d M1 Q) E) := ⟨fun z => w_uno z⟩
instance i_call {sp : SpD} : StepW (dCall sp tr σ M Q E) (tr σ M (fun ds M1 => sp ds M1 Q noX) E) := ⟨fun z => w_call z⟩
instance i_drop  : StepW (dDrop te ⟨n, Q, b, c, x⟩ σ M) (te σ M (fun _ M1 => n σ M1) (x σ)) := ⟨fun z => w_drop z⟩
instance i_ret  : StepW (dRet te ⟨n, Q, b, c, x⟩ σ M) (te σ M Q (x σ)) := ⟨fun z => w_ret z⟩
instance i_retN  : StepW (dRetN ⟨n, Q, b, c, x⟩ σ M) (Q .non M) := ⟨fun z => w_retN z⟩
instance i_ifS  : StepW (dIfS tt t u ⟨n, Q, b, c, x⟩ σ M) (tt σ M (qIfS t u ⟨n, Q, b, c, x⟩ σ) (x σ)) := ⟨fun z => w_ifS z⟩
instance i_qIfST {D : DEnds} : StepW (qIfS t u D σ true M) (t D σ M) := ⟨fun z => w_qIfST z⟩
instance i_qIfSF {D : DEnds} : StepW (qIfS t u D σ false M) (u D σ M) := ⟨fun z => w_qIfSF z⟩
instance i_nIfST {D : DEnds} : StepW (qIfS t u D σ (!false) M) (t D σ M) := ⟨fun z => w_nIfST z⟩
instance i_nIfSF {D : DEnds} : StepW (qIfS t u D σ (!true) M) (u D σ M) := ⟨fun z => w_nIfSF z⟩
instance i_next  : StepW (dNext ⟨n, Q, b, c, x⟩ σ M) (n σ M) := ⟨fun z => w_next z⟩
instance i_nx  : StepW (DEnds.nx ⟨n, Q, b, c, x⟩ σ M) (n σ M) := ⟨fun z => w_nx z⟩
instance i_rt {d : D} : StepW (DEnds.rt ⟨n, Q, b, c, x⟩ d M) (Q d M) := ⟨fun z => w_rt z⟩
instance i_bk  : StepW (DEnds.bk ⟨n, Q, b, c, x⟩ σ M) (b σ M) := ⟨fun z => w_bk z⟩
instance i_ct  : StepW (DEnds.ct ⟨n, Q, b, c, x⟩ σ M) (c σ M) := ⟨fun z => w_ct z⟩
instance i_break  : StepW (dBreak ⟨n, Q, b, c, x⟩ σ M) (b σ M) := ⟨fun z => w_break z⟩
instance i_cont  : StepW (dCont ⟨n, Q, b, c, x⟩ σ M) (c σ M) := ⟨fun z => w_cont z⟩
instance i_cb {rd : RLD} : StepW (dCB rd tr σ M Q E) (tr σ M (fun ds M1 => rd ds M1 Q) E) := ⟨fun z => w_cb z⟩
instance i_bm {ok : D → DM → Prop} {rd : RMD} : StepW (dBM ok rd ta tr σ M Q E) (ta σ M (fun d M1 => ok d M1 ∧ tr σ M1 (fun ds M2 => rd d ds M2 Q) E) E) := ⟨fun z => w_bm z⟩
instance i_bm0 {ok : D → DM → Prop} {rd : RMD} : StepW (dBM0 ok rd ta σ M Q E) (ta σ M (fun d M1 => ok d M1 ∧ rd d [] M1 Q) E) := ⟨fun z => w_bm0 z⟩
instance i_sl {tl th : TOD} : StepW (dSl te tl th σ M Q E) (te σ M (fun d M1 => tl σ M1 (fun lo M2 => th σ M2 (fun hi M3 => slD d lo hi M3 Q) E) E) E) := ⟨fun z => w_sl z⟩
instance i_no {Q : Option Int → DM → Prop} : StepW (dNo σ M Q E) (Q none M) := ⟨fun z => w_no z⟩
instance i_part {Q : Option Int → DM → Prop} : StepW (dPart ta σ M Q E) (ta σ M (qPart Q) E) := ⟨fun z => w_part z⟩
instance i_qPart {Q : Option Int → DM → Prop} {i : Int} : StepW (qPart Q (.int i) M) (Q (some i) M) := ⟨fun z => w_qPart z⟩
instance i_not {Q : Bool → DM → Prop} : StepW (dNot tt σ M Q E) (tt σ M (fun b M1 => Q (!b) M1) E) := ⟨fun z => w_not z⟩
instance i_and {Q : Bool → DM → Prop} : StepW (dAnd tt tu σ M Q E) (tt σ M (qAnd tu σ Q E) E) := ⟨fun z => w_and z⟩
instance i_qAndT {Q : Bool → DM → Prop} : StepW (qAnd tu σ Q E true M) (tu σ M Q E) := ⟨fun z => w_qAndT z⟩
instance i_qAndF {Q : Bool → DM → Prop} : StepW (qAnd tu σ Q E false M) (Q false M) := ⟨fun z => w_qAndF z⟩
instance i_or {Q : Bool → DM → Prop} : StepW (dOr tt tu σ M Q E) (tt σ M (qOr tu σ Q E) E) := ⟨fun z => w_or z⟩
instance i_qOrT {Q : Bool → DM → Prop} : StepW (qOr tu σ Q E true M) (Q true M) := ⟨fun z => w_qOrT z⟩
instance i_qOrF {Q : Bool → DM → Prop} : StepW (qOr tu σ Q E false M) (tu σ M Q E) := ⟨fun z => w_qOrF z⟩
instance i_nOrT {Q : Bool → DM → Prop} : StepW (qOr tu σ Q E (!false) M) (Q true M) := ⟨fun z => w_nOrT z⟩
instance i_nOrF {Q : Bool → DM → Prop} : StepW (qOr tu σ Q E (!true) M) (tu σ M Q E) := ⟨fun z => w_nOrF z⟩
instance i_nAndT {Q : Bool → DM → Prop} : StepW (qAnd tu σ Q E (!false) M) (tu σ M Q E) := ⟨fun z => w_nAndT z⟩
instance i_nAndF {Q : Bool → DM → Prop} : StepW (qAnd tu σ Q E (!true) M) (Q false M) := ⟨fun z => w_nAndF z⟩
instance i_nIfT  : StepW (qIf ta tb σ Q E (!false) M) (ta σ M Q E) := ⟨fun z => w_nIfT z⟩
instance i_nIfF  : StepW (qIf ta tb σ Q E (!true) M) (tb σ M Q E) := ⟨fun z => w_nIfF z⟩
instance i_nAndVT  : StepW (qAndV tb σ Q E (.bl (!false)) M) (tb σ M Q E) := ⟨fun z => w_nAndVT z⟩
instance i_nAndVF  : StepW (qAndV tb σ Q E (.bl (!true)) M) (Q (.bl false) M) := ⟨fun z => w_nAndVF z⟩
instance i_nOrVT  : StepW (qOrV tb σ Q E (.bl (!false)) M) (Q (.bl true) M) := ⟨fun z => w_nOrVT z⟩
instance i_nOrVF  : StepW (qOrV tb σ Q E (.bl (!true)) M) (tb σ M Q E) := ⟨fun z => w_nOrVF z⟩
instance i_andV  : StepW (dAndV ta tb σ M Q E) (ta σ M (qAndV tb σ Q E) E) := ⟨fun z => w_andV z⟩
instance i_qAndVT  : StepW (qAndV tb σ Q E (.bl true) M) (tb σ M Q E) := ⟨fun z => w_qAndVT z⟩
instance i_qAndVF  : StepW (qAndV tb σ Q E (.bl false) M) (Q (.bl false) M) := ⟨fun z => w_qAndVF z⟩
instance i_orV  : StepW (dOrV ta tb σ M Q E) (ta σ M (qOrV tb σ Q E) E) := ⟨fun z => w_orV z⟩
instance i_qOrVT  : StepW (qOrV tb σ Q E (.bl true) M) (Q (.bl true) M) := ⟨fun z => w_qOrVT z⟩
instance i_qOrVF  : StepW (qOrV tb σ Q E (.bl false) M) (tb σ M Q E) := ⟨fun z => w_qOrVF z⟩
instance i_notV  : StepW (dNotV ta σ M Q E) (ta σ M (qNotV Q) E) := ⟨fun z => w_notV z⟩
instance i_qNotV {b : Bool} : StepW (qNotV Q (.bl b) M) (Q (.bl (!b)) M) := ⟨fun z => w_qNotV z⟩
instance i_if  : StepW (dIf tt ta tb σ M Q E) (tt σ M (qIf ta tb σ Q E) E) := ⟨fun z => w_if z⟩
instance i_qIfT  : StepW (qIf ta tb σ Q E true M) (ta σ M Q E) := ⟨fun z => w_qIfT z⟩
instance i_qIfF  : StepW (qIf ta tb σ Q E false M) (tb σ M Q E) := ⟨fun z => w_qIfF z⟩
instance i_callX {sp : SpD} : StepW (dCallX sp tr σ M Q E) (tr σ M (fun ds M1 => sp ds M1 Q E) E) := ⟨fun z => w_callX z⟩
instance i_isi {ans : String → Option Bool} : StepW (dIsi ans te σ M Q E) (te σ M (fun d M1 => ∃ U b, typD d M1 = some U ∧ ans U = some b ∧ Q (.bl b) M1) E) := ⟨fun z => w_isi z⟩
instance i_newK  : StepW (dNewK σ M Q E) (∀ p, M p = none → Q (.ref p) (put M p (.dK []))) := ⟨fun z => w_newK z⟩
instance i_newT  : StepW (dNewT σ M Q E) (∀ p, M p = none → Q (.ref p) (put M p (.dT []))) := ⟨fun z => w_newT z⟩
instance i_gcons {Q : Std → DM → Prop} {d : D} {r : List D} : StepW (gConsD g gs (d :: r) σ M Q E) (g d σ M (fun σ1 M1 => gs r σ1 M1 Q E) E) := ⟨fun z => w_gcons z⟩
instance i_gnil {Q : Std → DM → Prop} : StepW (gNilD [] σ M Q E) (Q σ M) := ⟨fun z => w_gnil z⟩
instance i_unT {Q : Std → DM → Prop} {n : Nat} {xs : List D} : StepW (gUn n gs (.tup xs) σ M Q E) (xs.length = n ∧ gs xs σ M Q E) := ⟨fun z => w_unT z⟩
instance i_unP {Q : Std → DM → Prop} {n : Nat} {xs : List D} : StepW (gUn n gs (.pair xs) σ M Q E) (xs.length = n ∧ gs xs σ M Q E) := ⟨fun z => w_unP z⟩
instance i_unR {Q : Std → DM → Prop} {n : Nat} {a : Addr} : StepW (gUn n gs (.ref a) σ M Q E) (∃ xs, M a = some (.lst xs) ∧ xs.length = n ∧ gs xs σ M Q E) := ⟨fun z => w_unR z⟩
instance i_gix {Q : Std → DM → Prop} {to ti : TED} {v : D} : StepW (gIx to ti v σ M Q E) (to σ M (fun o M1 => ti σ M1 (fun i M2 => setLD M2 o i v (fun M3 => Q σ M3)) E) E) := ⟨fun z => w_gix z⟩
instance i_gfd {Q : Std → DM → Prop} {K : Bd} {f : Str} {to : TED} {v : D} : StepW (gFd K f to v σ M Q E) (to σ M (fun d M1 => ∃ a C fs, d = .ref a ∧ M1 a = some (.ins C fs) ∧ Cls K C ∧ NoAttr K C f ∧ fs.length < 1000 ∧ Q σ (put M1 a (.ins C (putFD f v fs)))) E) := ⟨fun z => w_gfd z⟩
instance i_par {i j : Nat} : StepW (dPar i j tr ⟨n, Q, b, c, x⟩ σ M) (tr σ M (qPar i j σ n) (x σ)) := ⟨fun z => w_par z⟩
instance i_par3 {i j l : Nat} : StepW (dPar3 i j l tr ⟨n, Q, b, c, x⟩ σ M) (tr σ M (qPar3 i j l σ n) (x σ)) := ⟨fun z => w_par3 z⟩
instance i_seqi  : StepW (diSeq te σ M R E) (te σ M (qSeq R) E) := ⟨fun z => w_seqi z⟩
instance i_qSeqT {xs : List D} : StepW (qSeq R (.tup xs) M) (R (itT xs) M) := ⟨fun z => w_qSeqT z⟩
instance i_qSeqR {a : Addr} : StepW (qSeq R (.ref a) M) ((∃ xs, M a = some (.lst xs)) ∧ R (itL a) M) := ⟨fun z => w_qSeqR z⟩
instance i_rng1  : StepW (diRng1 tr σ M R E) (tr σ M (qRng1 R) E) := ⟨fun z => w_rng1 z⟩
instance i_qRng1 {j : Int} : StepW (qRng1 R [.int j] M) ((-(2 ^ 62) ≤ j ∧ j < 2 ^ 62) ∧ R (itR 0 j.toNat) M) := ⟨fun z => w_qRng1 z⟩
instance i_rng2  : StepW (diRng2 tr σ M R E) (tr σ M (qRng2 R) E) := ⟨fun z => w_rng2 z⟩
instance i_qRng2 {i j : Int} : StepW (qRng2 R [.int i, .int j] M) ((-(2 ^ 62) ≤ i ∧ i < 2 ^ 62 ∧ -(2 ^ 62) ≤ j ∧ j < 2 ^ 62) ∧ R (itR i (j - i).toNat) M) := ⟨fun z => w_qRng2 z⟩
instance i_enum  : StepW (diEnum tr σ M R E) (tr σ M (qEnum R) E) := ⟨fun z => w_enum z⟩
instance i_qEnumT {xs : List D} : StepW (qEnum R [.tup xs] M) (R (itE (itT xs)) M) := ⟨fun z => w_qEnumT z⟩
instance i_qEnumR {a : Addr} : StepW (qEnum R [.ref a] M) ((∃ xs, M a = some (.lst xs)) ∧ R (itE (itL a)) M) := ⟨fun z => w_qEnumR z⟩
instance i_zip  : StepW (diZip tr σ M R E) (tr σ M (qZip R) E) := ⟨fun z => w_zip z⟩
instance i_qZipT {xs ys : List D} : StepW (qZip R [.tup xs, .tup ys] M) (R (itZ (itT xs) (itT ys)) M) := ⟨fun z => w_qZipT z⟩
instance i_qZipR {a b : Addr} : StepW (qZip R [.ref a, .ref b] M) ((∃ xs ys, M a = some (.lst xs) ∧ M b = some (.lst ys)) ∧ R (itZ (itL a) (itL b)) M) := ⟨fun z => w_qZipR z⟩
instance i_qPar {σ1 σ2 : Std} {i j : Nat} {d e : D} [h1 : SetS σ i d σ1] [h2 : SetS σ1 j e σ2] : StepW (qPar i j σ n [d, e] M) (n σ2 M) := ⟨fun z => w_qPar z⟩
instance i_qPar3 {σ1 σ2 σ3 : Std} {i j l : Nat} {d e f : D} [h1 : SetS σ i d σ1] [h2 : SetS σ1 j e σ2] [h3 : SetS σ2 l f σ3] : StepW (qPar3 i j l σ n [d, e, f] M) (n σ3 M) := ⟨fun z => w_qPar3 z⟩
instance i_aug {i : Nat} {rd : R2D} {d : D} [h : GetS σ i d] : StepW (dAug i rd te ⟨n, Q, b, c, x⟩ σ M) (te σ M (fun e M1 => rd d e M1 (qSet i σ n)) (x σ)) := ⟨fun z => w_aug z⟩
instance i_qSet {i : Nat} {d : D} [h : SetS σ i d σ'] : StepW (qSet i σ n d M) (n σ' M) := ⟨fun z => w_qSet z⟩
instance i_fldS' {K : Bd} {f : Str} {ta : TED} : StepG (dFldS K f ta te ⟨n, Q, b, c, x⟩ σ M) (te σ M (fun v M1 => ta σ M1 (fun d M2 => ∃ a C fs, d = .ref a ∧ M2 a = some (.ins C fs) ∧ Cls K C ∧ NoAttr K C f ∧ fs.length < 1000 ∧ n σ (put M2 a (.ins C (putFD f v fs)))) (x σ)) (x σ)) := ⟨fun z => w_fldS' z⟩
instance i_dput' {td ty : TED} : StepG (dDPut td ty tv ⟨n, Q, b, c, x⟩ σ M) (tv σ M (fun v M1 => td σ M1 (fun d M2 => ty σ M2 (fun k M3 => ∃ a M4, d = .ref a ∧ DPutD M3 a k v M4 ∧ n σ M4) (x σ)) (x σ)) (x σ)) := ⟨fun z => w_dput' z⟩
instance i_for'  : StepG (dFor wi g t ⟨n, Q, b, c, x⟩ σ M) (wi σ M (fun J M1 => ∃ k, forN J g t ⟨n, Q, b, c, x⟩ k 0 σ M1) (x σ)) := ⟨fun z => w_for' z⟩
instance i_daug {rd : R2D} {td ty tv : TED} : StepG (dDAug rd td ty tv ⟨n, Q, b, c, x⟩ σ M) (td σ M (fun d M1 => ty σ M1 (fun k M2 => ∃ a v, d = .ref a ∧ DGetD M2 a k (some v) ∧ tv σ M2 (fun e M3 => rd v e M3 (fun z M4 => ∃ M5, DPutD M4 a k z M5 ∧ n σ M5)) (x σ)) (x σ)) (x σ)) := ⟨fun z => w_daug z⟩
instance i_ixaug {rd : R2D} {to ti te : TED} : StepG (dIxAug rd to ti te ⟨n, Q, b, c, x⟩ σ M) (to σ M (fun o M1 => ti σ M1 (fun i M2 => (∃ a xs, o = .ref a ∧ M2 a = some (.lst xs)) ∧ ixD o i M2 (fun x' M3 => te σ M3 (fun y M4 => rd x' y M4 (fun z M5 => setLD M5 o i z (fun M6 => n σ M6))) (x σ))) (x σ)) (x σ)) := ⟨fun z => w_ixaug z⟩
instance i_fldA {K : Bd} {rd : R2D} {f : Str} {ta tv : TED} : StepG (dFldA K rd f ta tv ⟨n, Q, b, c, x⟩ σ M) (ta σ M (fun d M1 => ∃ a C fs v, d = .ref a ∧ M1 a = some (.ins C fs) ∧ Cls K C ∧ NoAttr K C f ∧ lookD f fs = some v ∧ tv σ M1 (fun e M2 => rd v e M2 (fun z M3 => ∃ fs', M3 a = some (.ins C fs') ∧ fs'.length < 1000 ∧ n σ (put M3 a (.ins C (putFD f z fs'))))) (x σ)) (x σ)) := ⟨fun z => w_fldA z⟩
instance i_sub {i j : Int} : StepG (subD (.int i) (.int j) M Q) (Q (.int (i - j)) M) := ⟨fun z => w_sub z⟩
instance i_neg {i : Int} : StepG (negD (.int i) M Q) (Q (.int (-i)) M) := ⟨fun z => w_neg z⟩
instance i_int1 {i : Int} : StepG (intD [.int i] M Q) (Q (.int i) M) := ⟨fun z => w_int1 z⟩
instance i_abs {i : Int} : StepG (absD [.int i] M Q) (Q (.int (if i < 0 then -i else i)) M) := ⟨fun z => w_abs z⟩
instance i_lstT {xs : List D} : StepG (lstD [.tup xs] M Q) (∀ p, M p = none → Q (.ref p) (put M p (.lst xs))) := ⟨fun z => w_lstT z⟩
instance i_isNN  : StepG (isN .non .non M Q) (Q (.bl true) M) := ⟨fun z => w_isNN z⟩
instance i_isNI {i : Int} : StepG (isN (.int i) .non M Q) (Q (.bl false) M) := ⟨fun z => w_isNI z⟩
instance i_isNT {xs : List D} : StepG (isN (.tup xs) .non M Q) (Q (.bl false) M) := ⟨fun z => w_isNT z⟩
instance i_isNS {s : Str} : StepG (isN (.str s) .non M Q) (Q (.bl false) M) := ⟨fun z => w_isNS z⟩
instance i_notNN  : StepG (notN .non .non M Q) (Q (.bl false) M) := ⟨fun z => w_notNN z⟩
instance i_notNI {i : Int} : StepG (notN (.int i) .non M Q) (Q (.bl true) M) := ⟨fun z => w_notNI z⟩
instance i_notNT {xs : List D} : StepG (notN (.tup xs) .non M Q) (Q (.bl true) M) := ⟨fun z => w_notNT z⟩
instance i_notNS {s : Str} : StepG (notN (.str s) .non M Q) (Q (.bl true) M) := ⟨fun z => w_notNS z⟩
instance i_un {n : Nat} {P : Prop} : StepG (n = n ∧ P) (P) := ⟨fun z => w_un z⟩
instance i_tup {t : TAD} : StepG (dTup t σ M Q E) (t σ M (fun ds M1 => ds.length ≤ sizeLine ∧ Q (.tup ds) M1) E) := ⟨fun z => w_tup z⟩
instance i_lst {t : TAD} : StepG (dLst t σ M Q E) (t σ M (fun ds M1 => ds.length ≤ sizeLine ∧ ∀ p, M1 p = none → Q (.ref p) (put M1 p (.lst ds))) E) := ⟨fun z => w_lst z⟩
instance i_lc : StepG (dLc wi g tt te vs σ M Q E) (wi σ M (fun J M1 => ∃ n, lcN J g tt te vs σ Q n 0 M1 []) E) := ⟨fun z => w_lc z⟩
instance i_lc2 : StepG (dLc2 wi g tt wi1 g1 tu te vs vs1 σ M Q E) (wi σ M (fun J M1 => ∃ n, lc2Out J g tt wi1 g1 tu te vs vs1 σ Q n 0 M1 []) E) := ⟨fun z => w_lc2 z⟩
instance i_dc : StepG (dDc wi g tt tk tv vs σ M Q E) (wi σ M (fun J M1 => ∃ n, dcN J g tt tk tv vs σ Q n 0 M1 []) E) := ⟨fun z => w_dc z⟩
instance i_dc2 : StepG (dDc2 wi g tt wi1 g1 tu tk tv vs vs1 σ M Q E) (wi σ M (fun J M1 => ∃ n, dc2Out J g tt wi1 g1 tu tk tv vs vs1 σ Q n 0 M1 []) E) := ⟨fun z => w_dc2 z⟩
instance i_make {C : Addr} {sp : SpD} {t : TAD} : StepG (dMake C sp t σ M Q E) (t σ M (fun ds M1 => ∀ x, M1 x = none → sp (.ref x :: ds) (put M1 x (.ins C [])) (fun v M2 => v = .non ∧ Q (.ref x) M2) noX) E) := ⟨fun z => w_make z⟩
instance i_meth {C : Addr} {m : Str} {sp : SpD} {ta : TED} {ts : TAD} : StepG (dMeth C m sp ta ts σ M Q E) (ta σ M (fun d M1 => ∃ a fs, d = .ref a ∧ M1 a = some (.ins C fs) ∧ lookD m fs = none ∧ ts σ M1 (fun ds M2 => sp (d :: ds) M2 Q noX) E) E) := ⟨fun z => w_meth z⟩
instance i_yes {T : Bool → DM → Prop} : StepG (tYesD σ M T E) (T true M) := ⟨fun z => w_yes z⟩
instance i_min {a b : Str} : StepG (min2D [.str a, .str b] M Q) (Q (.str (minS a b)) M) := ⟨fun z => w_min z⟩
instance i_max {a b : Str} : StepG (max2D [.str a, .str b] M Q) (Q (.str (maxS a b)) M) := ⟨fun z => w_max z⟩
instance i_add {i j : Int} : StepG (addD (.int i) (.int j) M Q) (Q (.int (i + j)) M) := ⟨fun z => w_add z⟩
instance i_slT {xs : List D} {l u : Option Int} : StepG (slD (.tup xs) l u M Q) (Q (.tup (cutD xs l u)) M) := ⟨fun z => w_slT z⟩
instance i_lenT {xs : List D} : StepG (lenD [.tup xs] M Q) (Q (.int (xs.length : Nat)) M) := ⟨fun z => w_lenT z⟩
instance i_tupT {xs : List D} : StepG (tupD [.tup xs] M Q) (Q (.tup xs) M) := ⟨fun z => w_tupT z⟩
instance i_lt {i j : Int} : StepG (ltD (.int i) (.int j) M Q) (Q (.bl (decide (i < j))) M) := ⟨fun z => lt_int z⟩
instance i_gt {i j : Int} : StepG (gtD (.int i) (.int j) M Q) (Q (.bl (decide (j < i))) M) := ⟨fun z => gt_int z⟩
instance i_le {i j : Int} : StepG (leD (.int i) (.int j) M Q) (Q (.bl (decide (i ≤ j))) M) := ⟨fun z => le_int z⟩
instance i_ge {i j : Int} : StepG (geD (.int i) (.int j) M Q) (Q (.bl (decide (j ≤ i))) M) := ⟨fun z => ge_int z⟩
instance i_eqi {i j : Int} : StepG (eqD (.int i) (.int j) M Q) (Q (.bl (decide (i = j))) M) := ⟨fun z => eq_int z⟩
instance i_nei {i j : Int} : StepG (neD (.int i) (.int j) M Q) (Q (.bl (!decide (i = j))) M) := ⟨fun z => ne_int z⟩
instance i_eqs {a b : Str} : StepG (eqD (.str a) (.str b) M Q) (Q (.bl (decide (a = b))) M) := ⟨fun z => eq_str z⟩
instance i_nes {a b : Str} : StepG (neD (.str a) (.str b) M Q) (Q (.bl (!decide (a = b))) M) := ⟨fun z => ne_str z⟩
end
section
variable {M : DM} {P R : DM → Prop}
instance i_kpT : StepW (qKp P R true M) (P M) := ⟨fun z => z⟩
instance i_kpF : StepW (qKp P R false M) (R M) := ⟨fun z => z⟩
instance i_kpNT : StepW (qKp P R (!false) M) (P M) := ⟨fun z => z⟩
instance i_kpNF : StepW (qKp P R (!true) M) (R M) := ⟨fun z => z⟩
end
/-! ### of encoded values -/
section
variable {α β : Type} [Enc α] [Enc β] {M : DM} {Q : DQ} {σ : Std} {E : DX} {R : ItD → DM → Prop} {gs : TGsD}
instance i_seqE {xs : List α} : StepW (qSeq R (Enc.d xs) M) (R (itT (xs.map Enc.d)) M) := ⟨fun z => z⟩
instance i_enumE {xs : List α} : StepW (qEnum R [Enc.d xs] M) (R (itE (itT (xs.map Enc.d))) M) := ⟨fun z => z⟩
instance i_unE {Q : Std → DM → Prop} {x : α × β} {n : Nat} : StepW (gUn n gs (Enc.d x) σ M Q E) (([Enc.d x.1, Enc.d x.2] : List D).length = n ∧ gs [Enc.d x.1, Enc.d x.2] σ M Q E) := ⟨fun z => z⟩
instance i_lenE {xs : List α} : StepG (lenD [Enc.d xs] M Q) (Q (.int (xs.length : Nat)) M) := ⟨fun z => by
  have : Q (.int ((xs.map (Enc.d (α := α))).length : Nat)) M := by rw [List.length_map]; exact z
  exact this⟩
instance i_slE {xs : List α} {l u : Option Int} : StepG (slD (Enc.d xs) l u M Q) (Q (.tup (cutD (xs.map Enc.d) l u)) M) := ⟨fun z => z⟩
instance i_tupE {xs : List α} : StepG (tupD [Enc.d xs] M Q) (Q (Enc.d xs) M) := ⟨fun z => z⟩
instance i_lstE {xs : List α} : StepG (lstD [Enc.d xs] M Q) (∀ p, M p = none → Q (.ref p) (put M p (.lst (xs.map Enc.d)))) := ⟨fun z => z⟩
end
section
variable {K : Bd} {M : DM} {Q : DQ}
theorem look1 {f : Str} {v : D} {r : List (Str × D)} : lookD f ((f, v) :: r) = some v := by unfold lookD; rw [if_pos rfl]
theorem lookS {f g : Str} {d v : D} {r : List (Str × D)} (h : decide (f = g) = false) (q : lookD f r = some v) : lookD f ((g, d) :: r) = some v := by unfold lookD; rw [if_neg (of_decide_eq_false h)]; exact q
theorem fld_ok {a C : Addr} {fs : List (Str × D)} {f : Str} {v : D} (e : M a = some (.ins C fs)) (cl : Cls K C ∧ NoAttr K C f) (l : lookD f fs = some v) (q : Q v M) : fldD K f (.ref a) M Q := ⟨a, C, fs, v, rfl, e, cl.1, cl.2, l, q⟩
theorem look_none {f : Str} {fs : List (Str × D)} {ns : List Str} (hn : fs.map (·.1) = ns) (h : decide (f ∈ ns) = false) : lookD f fs = none := by
  subst hn
  replace h := of_decide_eq_false h
  induction fs with
  | nil => rfl
  | cons p fs ih =>
    obtain ⟨g, v⟩ := p
    simp only [List.map_cons, List.mem_cons, not_or] at h
    unfold lookD
    rw [if_neg h.1]
    exact ih h.2
theorem st_okG {P : Std → DM → (Std → DM → Prop) → DX → Prop} {σ : Std} {Qs : Std → DM → Prop} {E : DX} {f : Str} {C : Addr} {v : D} {fs fs' : List (Str × D)} {a : Addr} (cl : Cls K C ∧ NoAttr K C f) (e : M a = some (.ins C fs)) (hf : putFD f v fs = fs') (hl : fs.length < 1000) (q : P σ (put M a (.ins C fs')) Qs E) :
    ∃ b C' gs, D.ref a = .ref b ∧ M b = some (.ins C' gs) ∧ Cls K C' ∧ NoAttr K C' f ∧ gs.length < 1000 ∧ P σ (put M b (.ins C' (putFD f v gs))) Qs E := ⟨a, C, fs, rfl, e, cl.1, cl.2, hl, by rw [hf]; exact q⟩
theorem st_ok {P : DM → Prop} {f : Str} {C : Addr} {v : D} {fs fs' : List (Str × D)} {a : Addr} (cl : Cls K C ∧ NoAttr K C f) (e : M a = some (.ins C fs)) (hf : putFD f v fs = fs') (hl : fs.length < 1000) (q : P (put M a (.ins C fs'))) :
    ∃ b C' gs, D.ref a = .ref b ∧ M b = some (.ins C' gs) ∧ Cls K C' ∧ NoAttr K C' f ∧ gs.length < 1000 ∧ P (put M b (.ins C' (putFD f v gs))) := ⟨a, C, fs, rfl, e, cl.1, cl.2, hl, by rw [hf]; exact q⟩
def CF (K : Bd) (C : String) (ns : List Str) : Prop := ∀ f ∈ ns, Cls K (He.ga K.K C) ∧ NoAttr K (He.ga K.K C) f
theorem CF.get {K : Bd} {C : String} {ns : List Str} {f : Str} (h : CF K C ns) (e : decide (f ∈ ns) = true) : Cls K (He.ga K.K C) ∧ NoAttr K (He.ga K.K C) f := h f (of_decide_eq_true e)
end
end Dt

set_option Elab.async false
set_option autoImplicit false
set_option linter.all false
set_option maxRecDepth 100000
set_option maxHeartbeats 4000000
/-! DT: defs that raise, what a try hears of a lambda. -/
namespace Dt
open PySem PySem.Spec PyProof.Rows L2 LamX RZ PySem.P

/-! ### raise -/
section
variable {X : Cx} {W : WX}
/-- X() of an own class without own __init__ -/
theorem pmk_own0 {C : Addr} {bmB : List Value} {B newId initId : String} {x : Str} {p pos : Pos} (F : ExcBaseFacts B newId initId bmB) (q : PySem.W.excIn X.K C bmB newId = true) (gC : X.mg x = some (.ref C)) (kC : PySem.W.keepIn X.K (.ref C) = true) (r : Raises X (.ref C)) (hg : Gl X x)
    (hdb : (x == ("__debug__" : Str)) = false := by decide) : PMk X (.Call (.Name x p) [] [] pos) (fun _ H Q => Q (.ref C) none H) := by
  intro pins s σ H Q I h
  refine wpAny_Call_Name_kw (ld_glob I hg gC ?_ hdb)
  refine PySem.W.callWith_K0 I.kIn kC ?_
  show wpAny _ _ (call (.ref C) []) _ _ _
  obtain ⟨bm, N, nm, qn, bs, hdct, sn, sub, ab, col, dd, k0, k1, k2, k3, k5, mN, hC, hN, hni, T⟩ := exc_obj I.kIn q
  refine wpAny_call_exc_subT F T hC hN hni (fun h' e hm => ?_) (by show 0 ≤ sizeLine; exact Nat.zero_le _)
  exact mk_of I hm r h (I.hok.gone hm.new)
/-- raise X() -/
def dRaise (C : Addr) : TSD := fun D σ M => D.ex σ C [] M
theorem ds_raise0 {x : Str} {p pos pos' : Pos} (hc : X.calm = true) (tk : Takes X W) (q : (He.Fa.exc x).ok X.K = true) (gC : X.mg x = some (.ref (He.ga X.K x))) (hg : Gl X x) (hdb : (x == ("__debug__" : Str)) = false := by decide) :
    PS X (.Raise (some (.Call (.Name x p) [] [] pos)) none pos') (lS X.B W (dRaise (He.ga X.K x))) := by
  obtain ⟨q1, q2, q3, q4⟩ := He.exc_ok q
  refine PS.imp (ps_raise hc tk (pmk_own0 PySem.F.excBase_ValueError q1 gC q2 (raises_own q3 q4) hg hdb)) fun D σ H ⟨σd, M, Dd, S, R, t, c⟩ => ?_
  exact c.ex σd σ _ [] none M H S (.inl ⟨rfl, rfl⟩) R .refl t
end
/-! ### a def that may raise -/
def FnX (P : Program) (w : World) (K : PySem.W.Frag) (mg : Str → Option Value) (base : Heap) (k : Nat) (f : Addr) (ps : List Str) (sp : SpD) : Prop :=
  ∃ fd, FnOk P w K mg base (L2.CX P w) k f fd ps (lSpX ⟨K, P, w⟩ sp) ∧ Binds K fd ps [] ∧ PySem.W.keepIn K (.ref f) = true
section
variable {P : Program} {w : World} {K : PySem.W.Frag} {mg : Str → Option Value} {base : Heap}
abbrev wX (E : XK) : WX := fun c d _ h => E c d h
theorem takesX {N : List Str} {qual : Str} {sc : Scope} {f : Addr} {cdv : Value} {A : Around} {outer : List Env} {s : Shared} {H : Hp} {E : XK} : Takes (cxOf (L2.CX P w) P w K mg base N qual sc f cdv A outer s H E) (wX E) :=
  takes_of rfl rfl rfl rfl
theorem fnX_of {x qual : Str} {st : Stmt} {f : Addr} {N ps : List Str} {k : Nat} {sp : SpD} {t : TSD} {oc : Value} {od an : Option Addr} {osl : Array (Option Value)} {kV doc pm cdv ct : Value}
    (l : K.lookup f = some ⟨oc, od, .func (PySem.W.fnOf x qual (defArgs st) (defBody st) (defScope st) .none kV doc pm an cdv ct), osl⟩) (hcd : PySem.W.codeIn K cdv qual = true) (kp : PySem.W.keepIn K (.ref f) = true) (S : FnScope N ps (defScope st)) (len : ∀ ds M Q E, sp ds M Q E → ds.length = ps.length)
    (hb : ∀ (us : List Value), us.length = ps.length → bindArgs (PySem.W.fnOf x qual (defArgs st) (defBody st) (defScope st) .none kV doc pm an cdv ct) ⟨us, []⟩ = pure (ps.zip us))
    (hbody : ∀ (cdv : Value) (A : Around) (outer : List Env) (s : Shared) (H : Hp) (E : XK), Room k (A.deeper (envOfC qual (defScope st) s.heap.objs.size f cdv)) → PSs (cxOf (L2.CX P w) P w K mg base N qual (defScope st) f cdv A outer s H E) (defBody st) (lS ⟨K, P, w⟩ (wX E) t))
    (hp : ∀ ds M Q E, sp ds M Q E → t (dEnd Q E) (startD N ds) M) : FnX P w K mg base (k + 1) f ps sp :=
  ⟨_, fnDX (fun_mk l hcd kp) S len hbody hp, .all hb, kp⟩
end
section
variable {X : Cx} {W : WX}
/-- f(..) of a def that may raise -/
theorem de_callXX {k : Nat} {f : Addr} {fd : FuncData} {ps : List Str} {sp : SpD} {x : Str} {p pos : Pos} {e : Expr} {es : List Expr} {t : TAD} (F : FnOk X.prog X.w X.B X.mg X.base (L2.CX X.prog X.w) k f fd ps (lSpX X.B sp)) (tk : Takes X W) (hr : Room k X.A) (hg : Gl X x) (hm : X.mg x = some (.ref f)) (hk : PySem.W.keepIn X.B (.ref f) = true) (hb : Binds X.B fd ps [])
    (ha : PA X (e :: es) (lA X.B W t)) (hdb : (x == ("__debug__" : Str)) = false := by decide) (he : starEach (e :: es) X.env = (false, eval e X.env) :: starEach es X.env := by rfl) (hpl : (backTo pos (starEach es X.env)).any (·.1) = false := by rfl) :
    PE X (.Call (.Name x p) (e :: es) [] pos) (lE X.B W (dCallX sp t)) :=
  de_callX F tk hr hg hm hk hb ha fun ha => L2.pe_callS F hr hg hm hk hb (passAt tk) ha hdb he hpl
end

theorem CnE.now' {K : Bd} {M M1 : DM} {H H1 : Hp} {Qd : DQ} {Q : VK} (c : CnE K M H Qd Q) (R : Rel K M1 H1) (k : Keep M H M1 H1) {d : D} {v : V} (h : DV K H1 d v) (q : Qd d M1) : Q v H1 := c d v M1 H1 h R k q
/-! ### x(lambda: ..), x a def that hears -/
/-- try: return (t, a()) / except X: return (n,) -/
def TTh (K : PySem.W.Frag) (C : Addr) (told none_ : Str) : (XK → Hp → VK → Prop) → Hp → VK → Prop := fun tl H Q =>
  tl (fun cls _ H' => ∃ b, PySem.W.exmOne K cls (.ref C) = some b ∧ (b = true → ∀ (p : Addr) (o : Obj), H' p = none → o.dict = none → Q (.ref p) (upd H' p (.frz o (.tup [.str none_])))) ∧ (b = false → False)) H
    (fun v H' => [V.str told, v].length ≤ sizeLine ∧ ∀ (p : Addr) (o : Obj), H' p = none → o.dict = none → Q (.ref p) (upd H' p (.frz o (.tup [.str told, v]))))
section
variable {X : Cx}
theorem heard_gives {Ng : List Str} {x a e q told none_ : Str} {sg : Scope} {g CS : Addr} {cdg : Value} {j j2 : Nat} {k1 k2} {p1 p2 p3 p4 p5 p6 p7 p8 p9 p10 p11 : Pos} (hge : sg.names.lookup e = some .globalImplicit) (hme : X.mg e = some (.ref CS)) (hde : (e == ("__debug__" : Str)) = false) (h0 : ∀ f : Addr, (L2.start Ng [V.ref f])[0]? = some (some (V.ref f))) :
    GivesTo X Ng x sg g cdg [.Try [.Return (some (.Tuple [.Constant (.str told) j p9, .Call (.Name a p1) [] [] p2] k1 p10)) p3] [.ExceptHandler (some (.Name e p4)) none [.Return (some (.Tuple [.Constant (.str none_) j2 p5] k2 p11)) p6] p7] [] [] p8] a q (TTh X.K CS told none_) := by
  intro f c' s H Q tl act hc h
  have hgl : Gl (cxOf C8.CX0 X.prog X.w X.K X.mg X.base Ng x sg g cdg X.A X.stack s H C8.E0).nox e := hge
  refine ⟨_, pss_one (ps_try_only (X := (cxOf C8.CX0 X.prog X.w X.K X.mg X.base Ng x sg g cdg X.A X.stack s H C8.E0).nox) (c := .ref CS)
      (tb := fun W D σ H => ∃ Ech : XK, (∀ cls d σ' H', Ech cls d H' → W cls d σ' H') ∧ σ[0]? = some (some (.ref f)) ∧ H c' = some (CodeO c' q) ∧ tl Ech H (fun v H' => [V.str told, v].length ≤ sizeLine ∧ ∀ (p : Addr) (o : Obj), H' p = none → o.dict = none → D.rt (.ref p) (upd H' p (.frz o (.tup [.str told, v])))))
      rfl rfl ⟨hgl, hde, .inl hme⟩ LamX.takes0 (fun W pn xe tk _ => ?_) (fun a oe cls d pn _ _ => pss_one (ps_ret (pe_tupF (pa_cons pe_str pa_nil))))), ?_⟩
  · refine ⟨fun pins s' σ H' D I h' => ?_⟩
    obtain ⟨Ech, hW, h1, h2, h3⟩ := h'
    have hp := act W pn xe Ech p1 p2 tk hW
    have hq := pss_one (ps_ret (pos := p3) (pe_tupF (x1 := k1) (pos := p10) (pa_cons (pe_str (x := told) (j := j) (pos := p9)) (pa_cons hp pa_nil))))
    exact hq.run pins s' σ H' D I ⟨h1, h2, h3⟩
  · exact ⟨_, fun cls d σ' H' ⟨b, e1, e2, e3⟩ => ⟨b, e1, fun hb a _ => ⟨(by show 1 ≤ sizeLine; decide), fun p o hp ho => e2 hb p o hp ho⟩, fun hb => e3 hb⟩, h0 f, hc, h⟩
/-- what is heard of a reading -/
def dHeard (C : Addr) (told none_ : Str) (t : TED) : TED := fun σ M Q _ => t σ M (fun d M1 => Q (.tup [.str told, d]) M1) (fun C' _ M1 => C' = C ∧ Q (.tup [.str none_]) M1)
theorem keep_lam {K : Bd} {M : DM} {H H1 : Hp} (R : Rel K M H) (e : ExtN H H1) (t : Tabs (tbs K.K) H1) : Rel K M H1 ∧ Keep M H M H1 := by
  have k : Keep M H M H1 := ⟨fun a u h _ n => e a u h n, fun _ _ _ n _ => n⟩
  refine ⟨⟨fun a o h => ?_, t⟩, k⟩
  obtain ⟨u, hu, r⟩ := R a o h
  exact ⟨u, e a u hu (fun ps z => by subst z; cases r), r.mono (k.tups R)⟩
theorem lift_heard {W : WX} {C : Addr} {told none_ : Str} {t : TED} (hx : PySem.W.exmOne X.K (.ref C) (.ref C) = some true) {σ : L2.St} {H : Hp} {Q : VK} (h : lE X.B W (dHeard C told none_ t) σ H Q) :
    tLam (tbs X.K) (TTh X.K C told none_) (fun E => lE X.B (wX E) t) σ H Q := by
  obtain ⟨σd, M, Qd, Ed, S, R, t, c, cx⟩ := h
  refine ⟨R.tab, fun H1 e tb => ?_⟩
  obtain ⟨R1, k1⟩ := keep_lam R e tb
  have c1 := c.after k1
  refine ⟨σd, M, _, _, S.mono (k1.tups R), R1, t, fun d v M' H' dv R' k' q => ⟨by show 2 ≤ sizeLine; decide, fun p o hp ho => ?_⟩, fun C' fs d M' H' x R' k' ⟨z, q⟩ => ⟨true, by rw [z]; exact hx, fun _ p o hp ho => ?_, fun z => by cases z⟩⟩
  · exact (c1.after k').now' (R'.hidden hp _) (.hidden R' hp _) (DV.newtup hp ho (.cons .str (.cons dv .nil))) q
  · exact (c1.after k').now' (R'.hidden hp _) (.hidden R' hp _) (DV.newtup hp ho (.cons .str .nil)) q
end

/-! ### defs that make lambdas -/
/-- the table of the def p: where it stands, what it holds -/
structure Tbl (K : PySem.W.Frag) (mg : Str → Option Value) (base : Heap) (p : He.Defn) : Prop where
  tb : TabB base mg (He.cT K p).1 (He.cT K p).2
  mem : ((He.cT K p).2, lamQ p) ∈ tbs K
  uniq : ∀ z ∈ tbs K, z.1 = (He.cT K p).2 → z.2 = lamQ p
theorem code_is {K : PySem.W.Frag} {p : He.Defn} {oc : Value} {od : Option Addr} {osl : Array (Option Value)} {fd : FuncData} {q : Str} (lk : K.lookup (He.fAd K p) = some ⟨oc, od, .func fd, osl⟩) (hcd : PySem.W.codeIn K fd.code q = true) : fd.code = .ref (He.cT K p).1 := by
  obtain ⟨c, e⟩ := He.codeIn_ref hcd
  rw [e]
  exact congrArg Value.ref (He.codeOf_eq lk e).symm
section
variable {P : Program} {w : World} {K : PySem.W.Frag} {mg : Str → Option Value} {base : Heap}
theorem fnT_ofC (p : He.Defn) {x qual : Str} {st : Stmt} {f : Addr} {N ps : List Str} {k : Nat} {sp : SpD} {t : TSD} {oc : Value} {od an : Option Addr} {osl : Array (Option Value)} {kV doc pm cdv ct : Value} (hp0 : He.fAd K p = f)
    (l : K.lookup f = some ⟨oc, od, .func (PySem.W.fnOf x qual (defArgs st) (defBody st) (defScope st) .none kV doc pm an cdv ct), osl⟩) (hcd : PySem.W.codeIn K cdv qual = true) (kp : PySem.W.keepIn K (.ref f) = true) (S : FnScope N ps (defScope st)) (len : ∀ ds M Q, sp ds M Q noX → ds.length = ps.length)
    (hb : ∀ (us : List Value), us.length = ps.length → bindArgs (PySem.W.fnOf x qual (defArgs st) (defBody st) (defScope st) .none kV doc pm an cdv ct) ⟨us, []⟩ = pure (ps.zip us))
    (hbody : ∀ (A : Around) (outer : List Env) (s : Shared) (H : Hp) (E : XK), Still A → Room k (A.deeper (envOfC qual (defScope st) s.heap.objs.size f (.ref (He.cT K p).1))) → PSs (cxOf CX0 P w K mg base N qual (defScope st) f (.ref (He.cT K p).1) A outer s H E).nox (defBody st) (lS ⟨K, P, w⟩ w0 t))
    (hp : ∀ ds M Q, sp ds M Q noX → t (dEnd Q noX) (startD N ds) M) : FnT P w K mg base (k + 1) f ps sp := by
  refine ⟨_, fnS_of (fun_mk l hcd kp) S (fun vs H Q E ⟨ds, M, Qd, dv, R, h, c⟩ => by rw [← dv.length]; exact len ds M Qd h) fun cdv' A outer s H vs Q E hc hs hr ⟨ds, M, Qd, dv, R, h, c⟩ => ?_, .all hb, kp⟩
  subst hp0
  have e := code_is l hcd
  have e2 : cdv' = .ref (He.cT K p).1 := hc.symm.trans e
  subst e2
  refine ⟨_, (hbody A outer s H E hs hr).nox, startD N ds, M, _, relS_start dv, R, hp ds M Qd h, ?_⟩
  exact ⟨fun σd' σ' M' H' _ R' k' q => c .non .non M' H' .non R' k' q, c, fun _ _ _ _ _ _ _ q => q.elim, fun _ _ _ _ _ _ _ q => q.elim, fun _ _ _ _ _ _ _ _ _ _ _ q => q.elim⟩
end
section
variable {X : Cx} {W : WX}
theorem lam_takes {A : Around} {outer : List Env} {s : Shared} {H : Hp} {E : XK} {scope : Scope} {f c' : Addr} : Takes (lamCx X A outer s H E scope f c') (wX E) := takes_of rfl rfl rfl rfl
theorem de_heard {k : Nat} {st : Stmt} {Ng : List Str} {a x e : Str} {d : He.Defn} {told none_ : Str} {j j2 : Nat} {k1 k2} {p1 p2 p3 p4 p5 p6 p7 p8 p9 p10 p11 p lpos pos : Pos} {params : Arguments} {body : Expr} {scope : Scope} {tb : TED}
    (hd : ∃ oc od osl kV doc pm an cdv ct, X.K.lookup (He.ga X.K x) = some ⟨oc, od, .func (PySem.W.fnOf x x (defArgs st) (defBody st) (defScope st) .none kV doc pm an cdv ct), osl⟩ ∧ PySem.W.codeIn X.K cdv x = true)
    (hg : Gl X x) (hm : X.mg x = some (.ref (He.ga X.K x))) (hk : PySem.W.keepIn X.K (.ref (He.ga X.K x)) = true)
    (hb : ∀ (kV doc pm : Value) (an : Option Addr) (cdv ct : Value) (us : List Value), us.length = 1 → bindArgs (PySem.W.fnOf x x (defArgs st) (defBody st) (defScope st) .none kV doc pm an cdv ct) ⟨us, []⟩ = pure ([a].zip us))
    (Sg : FnScope Ng [a] (defScope st)) (hNg : Ng[0]? = some a) (hva : Vis (defScope st) a) (h0 : ∀ f : Addr, (L2.start Ng [V.ref f])[0]? = some (some (V.ref f)))
    (hbody_ : defBody st = [.Try [.Return (some (.Tuple [.Constant (.str told) j p9, .Call (.Name a p1) [] [] p2] k1 p10)) p3] [.ExceptHandler (some (.Name e p4)) none [.Return (some (.Tuple [.Constant (.str none_) j2 p5] k2 p11)) p6] p7] [] [] p8])
    (hge : (defScope st).names.lookup e = some .globalImplicit) (hme : X.mg e = some (.ref (He.ga X.K e))) (hx : (He.Fa.exm e e true).ok X.K = true)
    (U : Tbl X.K X.mg X.base d) (hq : X.env.qual ++ "<lambda>" = lamQ d) (hcode : X.env.code = .ref (He.cT X.K d).1) (hr : Room (k + 2) X.A) (L : lamSB X.env.scope scope = true) (hdef : defaultsOf params X.env = ([], []))
    (hbind : ∀ (q : Str) (cl : List (Str × Addr)) (pm cv ctv : Value), bindArgs (PySem.W.kla_fn "<lambda>" q params body scope cl pm cv ctv) ⟨[], []⟩ = pure [])
    (hbody : ∀ (A : Around) (outer : List Env) (s : Shared) (H : Hp) (E : XK) (f c' : Addr), Room k (A.deeper (lamEnv X scope s.heap.objs.size f c')) → PE (lamCx X A outer s H E scope f c') body (lE X.B (wX E) tb))
    (hdb : (x == ("__debug__" : Str)) = false := by decide) (hde : (e == ("__debug__" : Str)) = false := by decide) (hda : (a == ("__debug__" : Str)) = false := by decide) (hcd : (a == ("__classdict__" : Str)) = false := by decide) :
    PE X (.Call (.Name x p) [.Lambda params body scope lpos] [] pos) (lE X.B W (dHeard (He.ga X.K e) told none_ tb)) := by
  obtain ⟨oc, od, osl, kV, doc, pm, an, cdv, ct, lk, hcg⟩ := hd
  refine PE.imp (pe_lamcall (T := tbs X.K) (TT := TTh X.K (He.ga X.K e) told none_) (t := fun E => lE X.B (wX E) tb) hg hm hk lk hcg (.all fun us h => hb _ _ _ _ _ _ us h) Sg hNg hva ?_ U.tb hcode (by rw [hq]; exact U.mem) (fun z hz e => by rw [hq]; exact U.uniq z hz e) hr (lamS_by L) hdef hbind hbody hdb hda hcd) fun σ H Q h => lift_heard (He.exm_ok hx) h
  rw [hbody_]
  exact heard_gives hge hme hde h0
end
end Dt

set_option Elab.async false
set_option autoImplicit false
set_option linter.all false
set_option maxRecDepth 100000
set_option maxHeartbeats 4000000
/-! DW: the law at the top, with tables of code objects; the head's hook with tables. -/
namespace Dt
open PySem PySem.Spec PyProof.Rows L2 LamX RZ PySem.P

/-- the tables that a law's defs may write -/
structure Tables (K : PySem.W.Frag) (h : Heap) (T : List (Addr × Addr)) : Prop where
  empty : ∀ p ∈ T, h.get? p.2 = some { cls := .none, data := .fields #[] }
  out : ∀ p ∈ T, K.lookup p.2 = none
  code : ∀ p ∈ T, PySem.W.CodeHd h p.1 p.2
/-- an abstract heap that knows the script and the tables alone -/
structure ScriptT (K : PySem.W.Frag) (h : Heap) (a : Addr) (ns : List Int) (P : Program) (w : World) (T : List (Addr × Addr)) (H : Hp) : Prop where
  tabs : ∀ p ∈ T, H p.2 = some (.tbl #[])
  sq : SqZ K H a (ns.map V.int)
  ok : HOk P w H h
  what : ∀ b u, H b = some u → (b = a ∧ K.lookup a = none ∧ ∃ o xs, u = .frz o (.lst xs)) ∨ b ∈ T.map (·.2)
theorem scriptT_of {K : PySem.W.Frag} {h : Heap} {a : Addr} {vs : List Value} {ns : List Int} (P : Program) (w : World) {T : List (Addr × Addr)} (Z : Tables K h T) (KX : K.In h) (ha : h.get? a = some { cls := .type "list", data := .seq vs.toArray }) (hi : IntsAre vs ns) (hl : ns.length ≤ sizeLine) : ∃ H, ScriptT K h a ns P w T H := by
  have rv := ints_vals hi
  have len := hi.length
  have at_ : ∀ b, b ∈ T.map (·.2) → h.get? b = some { cls := .none, data := .fields #[] } := fun b hb => by
    obtain ⟨p, hp, rfl⟩ := List.mem_map.mp hb
    exact Z.empty p hp
  have off : a ∉ T.map (·.2) := fun z => by
    have q := at_ a z
    rw [ha] at q
    exact nomatch congrArg Obj.data (Option.some.inj q)
  cases hk : K.lookup a with
  | some o =>
    have e := KX a o hk
    rw [ha] at e
    obtain rfl := Option.some.inj e
    refine ⟨fun b => if b ∈ T.map (·.2) then some (.tbl #[]) else none, fun p hp => if_pos (List.mem_map.mpr ⟨p, hp, rfl⟩), .inr ⟨_, vs.toArray, _, hk, rfl, rfl, rfl, by rw [List.size_toArray, len]; exact hl, by simpa using rv⟩, fun b u z => ?_, fun b u z => ?_⟩
    · by_cases hb : b ∈ T.map (·.2)
      · obtain rfl := Option.some.inj ((if_pos hb).symm.trans z)
        exact at_ b hb
      · exact nomatch (if_neg hb).symm.trans z
    · by_cases hb : b ∈ T.map (·.2)
      · exact .inr hb
      · exact nomatch (if_neg hb).symm.trans z
  | none =>
    refine ⟨fun b => if b ∈ T.map (·.2) then some (.tbl #[]) else if b = a then some (.frz { cls := .type "list", data := .seq vs.toArray } (.lst (ns.map V.int))) else none, fun p hp => if_pos (List.mem_map.mpr ⟨p, hp, rfl⟩), .inl ⟨_, (if_neg off).trans (if_pos rfl)⟩, fun b u z => ?_, fun b u z => ?_⟩
    · by_cases hb : b ∈ T.map (·.2)
      · obtain rfl := Option.some.inj ((if_pos hb).symm.trans z)
        exact at_ b hb
      · by_cases hc : b = a
        · obtain rfl := Option.some.inj (((if_neg hb).trans (if_pos hc)).symm.trans z)
          subst hc
          exact ⟨ha, by rw [List.length_map]; exact hl, vs, _, rv, ha⟩
        · exact nomatch ((if_neg hb).trans (if_neg hc)).symm.trans z
    · by_cases hb : b ∈ T.map (·.2)
      · exact .inr hb
      · by_cases hc : b = a
        · exact .inl ⟨hc, hk, _, _, (Option.some.inj (((if_neg hb).trans (if_pos hc)).symm.trans z)).symm⟩
        · exact nomatch ((if_neg hb).trans (if_neg hc)).symm.trans z
theorem law_stillT {P : Program} {w : World} {K : PySem.W.Frag} {mg mb : Str → Option Value} {CX : CXT} {k : Nat} {fa a : Addr} {x : Str} {sp : Sp} {s₁ : Shared} {vs : List Value} {ns : List Int} {T : List (Addr × Addr)} (Z : Tables K s₁.heap T)
    (KX : K.In s₁.heap) (hns : s₁.heap.Ns mainGlobals mg) (hb : s₁.heap.Ns builtinsNs mb) (hbb : ∀ x : Str, x ≠ "__name__" → mb x = bootBuiltins x) (hlim : s₁.heap.NoLimit) (hg : s₁.gens = #[])
    (hbm : ∃ (bm : Addr) (ob : Obj), mg "__builtins__" = some (.ref bm) ∧ bm ≠ builtinsNs ∧ s₁.heap.get? bm = some ob ∧ ob.cls = .type "module" ∧ ob.dict = some builtinsNs ∧ ob.data = .plain)
    (ha : s₁.heap.get? a = some { cls := .type "list", data := .seq vs.toArray }) (hi : IntsAre vs ns) (hl : ns.length ≤ sizeLine) (hr : Room k callerA)
    (F : ∀ base : Heap, K.In base → base.Ns mainGlobals mg → (∀ p ∈ T, TabB base mg p.1 p.2) → ∃ fd, FnS P w K mg base CX k fa fd [x] sp ∧ Binds K fd [x] [])
    (hsp : ∀ H : Hp, (∀ p ∈ T, H p.2 = some (.tbl #[])) → SqZ K H a (ns.map V.int) → sp [.ref a] H (fun v _ => v = .bl true) fun _ _ _ => False)
    (hCX : ∀ H e s', CX [] H s₁ (fun _ _ _ => False) e s' → False) :
    codeAny (model P w) callerA (.call (.ref fa) ⟨[.ref a], []⟩) (fun r s' => r = .ok (.ret (.bool true)) ∧ OldK s₁.heap s'.heap ∧ s'.os = s₁.os ∧ AllBare s'.gens) s₁ := by
  obtain ⟨H, S⟩ := scriptT_of P w Z KX ha hi hl
  -- what is tracked: the script's list, or an empty table
  have is_ : ∀ {b : Addr} {o : Obj} {u : HO}, s₁.heap.get? b = some o → H b = some u → o = { cls := .type "list", data := .seq vs.toArray } ∨ o = { cls := .none, data := .fields #[] } := by
    intro b o u e q
    rcases S.what b u q with ⟨rfl, _⟩ | h
    · rw [ha] at e; exact .inl (Option.some.inj e).symm
    · obtain ⟨p, hp, rfl⟩ := List.mem_map.mp h
      rw [Z.empty p hp] at e; exact .inr (Option.some.inj e).symm
  have seen : ∀ {b : Addr} {o : Obj}, s₁.heap.get? b = some o → H b = none → (hidT s₁.heap H).get? b = some o := fun e n => hidT_get e n
  have free : ∀ {b : Addr} {o : Obj}, s₁.heap.get? b = some o → (∀ ws n, o.data ≠ .seq ws n) → o.data ≠ .fields #[] → H b = none := by
    intro b o e h1 h2
    cases q : H b with
    | none => rfl
    | some u =>
      rcases is_ e q with rfl | rfl
      · exact (h1 _ _ rfl).elim
      · exact (h2 rfl).elim
  have names : ∀ {b : Addr} {m : Str → Option Value}, s₁.heap.Ns b m → (hidT s₁.heap H).Ns b m := fun {b m} ⟨o, es, ep, e, d, r⟩ => ⟨o, es, ep, seen e (free e (fun ws n z => by rw [d] at z; cases z) fun z => by rw [d] at z; cases z), d, r⟩
  have kin : K.In (hidT s₁.heap H) := by
    intro b o e
    refine seen (KX b o e) ?_
    cases q : H b with
    | none => rfl
    | some u =>
      rcases S.what b u q with ⟨rfl, h, _⟩ | h
      · rw [h] at e; cases e
      · obtain ⟨p, hp, rfl⟩ := List.mem_map.mp h
        rw [Z.out p hp] at e; cases e
  have glob : ∀ {b : Addr} {o : Obj}, s₁.heap.get? b = some o → H b ≠ none → b ≠ mainGlobals := by
    intro b o e n z
    subst z
    obtain ⟨o', es, ep, e', d, _⟩ := hns
    exact n (free e' (fun ws n z => by rw [d] at z; cases z) fun z => by rw [d] at z; cases z)
  obtain ⟨mc, l1, l2⟩ := hlim
  have modl : Mod K mg (hidT s₁.heap H) := ⟨kin, names hns, ⟨mb, names hb, hbb⟩, ⟨mc, names l1, l2⟩⟩
  have env : Env0 P w K mg (hidT s₁.heap H) callerA [] s₁ H := ⟨rfl, modl, fun b o e => of_hidT e, Nat.le_of_eq (hidT_size _ _), trivial, fun b z => (nomatch z), S.ok, .of_eq hg⟩
  have tb : ∀ p ∈ T, TabB (hidT s₁.heap H) mg p.1 p.2 := by
    intro p hp
    have hT := S.tabs p hp
    have gP : mainGlobals ≠ p.2 := fun z => glob (Z.empty p hp) (by rw [hT]; simp) z.symm
    refine ⟨?_, ?_, gP⟩
    · obtain ⟨o, us, file, tf, flags, tg, inF, text, tt, e1, r1, r2, r3, r⟩ := Z.code p hp
      refine ⟨o, us, file, tf, flags, tg, inF, text, tt, seen e1 (free e1 (fun ws n z => by rw [r2] at z; cases z) fun z => ?_), r1, r2, r3, r⟩
      rw [r2] at z
      cases z
      simp at r3
    · obtain ⟨bm, ob, b1, b2, b3, b4, b5, b6⟩ := hbm
      refine ⟨bm, ob, b1, b2, fun q => ?_, fun q => ?_, seen b3 (free b3 (fun ws n z => by rw [b6] at z; cases z) fun z => by rw [b6] at z; cases z), b4, b5, b6⟩
      · obtain ⟨o, es, ep, e, hd, _⟩ := hns
        rw [q, e] at b3
        cases b3
        rw [hd] at b6
        cases b6
      · rw [q, Z.empty p hp] at b3
        cases b3
        cases b6
  obtain ⟨fd, hF, hbind⟩ := F _ kin (names hns) tb
  refine codeAny_mono (hF.go callerA [] s₁ H ⟨[.ref a], []⟩ [.ref a] [.ref a] _ _ rfl hr env (hbind s₁ [.ref a] KX rfl) (.cons rfl .nil) (hsp H S.tabs S.sq)) ?_
  intro r s' got
  match r, got with
  | .error e, g => exact (hCX H e s' g).elim
  | .ok .next, g => exact False.elim g
  | .ok .brk, g => exact False.elim g
  | .ok .cont, g => exact False.elim g
  | .ok (.ret u), ⟨v, H', os, bare, un, ok', rv, q⟩ =>
    obtain rfl : v = .bl true := q
    obtain rfl : u = Value.bool true := rv
    have stay : ∀ b o, b ∉ T.map (·.2) → s₁.heap.get? b = some o → s'.heap.get? b = some o := by
      intro b o nb e
      cases q : H b with
      | none => exact un.keep b o e q (fun y => nomatch y) (fun y => nomatch y)
      | some u =>
        rcases S.what b u q with ⟨_, _, ob, xs, rfl⟩ | h
        · have z1 := (S.ok b _ q).1
          rw [e] at z1
          obtain rfl := Option.some.inj z1
          exact (ok' b _ (un.frzs b o _ q)).1
        · exact absurd h nb
    have grown : ∀ p ∈ T, ∃ more : Array Value, s'.heap.get? p.2 = some { cls := .none, data := .fields more } := fun p hp => by
      obtain ⟨more, z⟩ := un.tbls p.2 #[] (S.tabs p hp)
      exact ⟨_, ok' p.2 _ z⟩
    refine ⟨rfl, ⟨fun b o e => ?_, fun b o e => ?_⟩, os, bare⟩
    · by_cases hb : b ∈ T.map (·.2)
      · obtain ⟨p, hp, rfl⟩ := List.mem_map.mp hb
        obtain ⟨more, hm⟩ := grown p hp
        rw [Z.empty p hp] at e
        cases e
        exact .inr (.inl ⟨((Z.code p hp).tab (Z.empty p hp)).isCodeTable, rfl, #[], more, rfl, by rw [Array.empty_append]; exact hm⟩)
      · exact .inl (stay b o hb e)
    · by_cases hb : b ∈ T.map (·.2)
      · obtain ⟨p, hp, rfl⟩ := List.mem_map.mp hb
        obtain ⟨more, hm⟩ := grown p hp
        exact ⟨_, hm⟩
      · exact ⟨o, stay b o hb e⟩
/-- the goal that a head leaves -/
theorem walk_stillT {l : PySem.W.OpenLaw} {n k : Nat} {q : Program} {loose : List Str} {XP : (Str → Option Value) → Heap → Prop} {YP : World → Heap → Prop} {d : DefRec} {CX : CXT} {x : Str}
    (hn : l.most = some n) (hn2 : n ≤ sizeLine) (hdf : d.params.defaults = []) (hr : Room k callerA)
    (F : ∀ (w : World) (mg : Str → Option Value) (fa : Addr) (h : Heap), YP w h → h.Ns mainGlobals mg → mg d.name = some (.ref fa) →
      ∃ (K : PySem.W.Frag) (T : List (Addr × Addr)) (sp : Sp), K.In h ∧ Tables K h T ∧
        (∀ (H : Hp) (a : Addr) (ns : List Int), ns.length ≤ n → (∀ z ∈ ns, Builtin.Int.intBits z ≤ 1048576) → (∀ p ∈ T, H p.2 = some (.tbl #[])) → SqZ K H a (ns.map V.int) → sp [.ref a] H (fun v _ => v = .bl true) fun _ _ _ => False) ∧
        ∀ base : Heap, K.In base → base.Ns mainGlobals mg → (∀ p ∈ T, TabB base mg p.1 p.2) → ∃ fd, FnS l.prog w K mg base CX k fa fd [x] sp ∧ Binds K fd [x] [])
    (hCX : ∀ (H : Hp) (s : Shared) (e : Value) (s' : Shared), CX [] H s (fun _ _ _ => False) e s' → False) :
    PySem.W.WalkO q loose XP YP l.row.toRowW d [] (fun f vs => PySem.call f vs) := by
  refine Att.attach_callB hn hdf fun w s₀ s₁ mg mb fa o pm cd doc a vs ns G Y ho hd hcd hmg hobj hints hlen hbits hg => ?_
  obtain ⟨K, T, sp, KX, Z, hsp, hF⟩ := F w mg fa _ Y G.T.g hmg
  exact law_stillT Z KX G.T.g G.T.b G.T.builtins G.T.nolimit hg G.T.bmain hobj hints (Nat.le_trans hlen hn2) hr hF (fun H hT hS => hsp H a ns hlen hbits hT hS) fun H e s' => hCX H s₁ e s'
/-! ### the hook -/
/-- what the head tells: facts and defs, one more Bool, the tables: empty, not in K -/
structure SaysL (fa : List He.Fa) (fn : List He.FnD) (tf : List He.Defn) (ex : PySem.W.Frag → Bool) (h : Heap) (K : PySem.W.Frag) : Prop where
  e : He.SaysE fa fn K
  more : ex K = true
  hd : ∀ p ∈ tf, PySem.W.codeHdIn K (He.cT K p).1 (He.cT K p).2 = true
  out : ∀ p ∈ tf, K.lookup (He.cT K p).2 = none
  empty : ∀ p ∈ tf, h.get? (He.cT K p).2 = some { cls := .none, data := .fields #[] }
abbrev AlL : Type := He.Al × Bool
def obsL (n : Nat) (fa : List He.Fa) (fn : List He.FnD) (tf : List He.Defn) (ex : PySem.W.Frag → Bool) (g : Addr → Option Obj) : AlL := (He.obsE fa fn (He.frT g (He.asG g n)), ex (He.frT g (He.asG g n)) && He.tabsB g tf (He.frT g (He.asG g n)))
def valL (fn : List He.FnD) : AlL := (He.valE fn, true)
theorem saysL_of {n : Nat} {fa : List He.Fa} {fn : List He.FnD} {tf : List He.Defn} {ex : PySem.W.Frag → Bool} {h : Heap} (e : obsL n fa fn tf ex h.get? = valL fn) : SaysL fa fn tf ex h (He.frT h.get? (He.asG h.get? n)) := by
  obtain ⟨h1, h2⟩ := He.ba (show (ex (He.frT h.get? (He.asG h.get? n)) && He.tabsB h.get? tf (He.frT h.get? (He.asG h.get? n))) = true from congrArg (fun z : AlL => z.2) e)
  have key : ∀ p ∈ tf, PySem.W.codeHdIn (He.frT h.get? (He.asG h.get? n)) (He.cT (He.frT h.get? (He.asG h.get? n)) p).1 (He.cT (He.frT h.get? (He.asG h.get? n)) p).2 = true ∧ ∃ o, h.get? (He.cT (He.frT h.get? (He.asG h.get? n)) p).2 = some o ∧ He.emptyTab o = true := by
    intro p hp
    obtain ⟨h3, h4⟩ := He.ba (List.all_eq_true.mp h2 p hp)
    refine ⟨h3, ?_⟩
    split at h4
    · exact ⟨_, by assumption, h4⟩
    · cases h4
  refine ⟨congrArg (fun z : AlL => z.1) e, h1, fun p hp => (key p hp).1, fun p hp => ?_, fun p hp => ?_⟩
  · obtain ⟨_, o, q, z⟩ := key p hp
    exact He.frT_none q z
  · obtain ⟨_, o, q, z⟩ := key p hp
    rw [q, He.emptyTab_eq z]
def hookL (n : Nat) (fa : List He.Fa) (fn : List He.FnD) (tf : List He.Defn) (ex : PySem.W.Frag → Bool) : PySem.W.Hook where
  α := AlL
  obs := fun s => obsL n fa fn tf ex s.heap.get?
  val := fun _ => valL fn
  says := fun _ h => ∃ K : PySem.W.Frag, K.In h ∧ SaysL fa fn tf ex h K
  of := fun _ _ e => ⟨_, He.frT_in, saysL_of e⟩
  keeps := fun _ _ _ ⟨K, hK, c⟩ k => ⟨K, PySem.W.Frag.In.keeps hK k, ⟨c.e, c.more, c.hd, c.out, fun p hp => k _ _ (c.empty p hp)⟩⟩
theorem obsL_eq {n : Nat} {fa : List He.Fa} {fn : List He.FnD} {tf : List He.Defn} {ex : PySem.W.Frag → Bool} {g : Addr → Option Obj} {s : Shared} (h : ∀ a, g a = s.heap.get? a) : obsL n fa fn tf ex g = (hookL n fa fn tf ex).obs s := by
  have e : g = s.heap.get? := funext h
  rw [e]; rfl
/-- the lamDefs of this text are tf, their tables are not one -/
def tblB (tf : List He.Defn) (K : PySem.W.Frag) : Bool := decide (lamDefs.filter (isDefB K) = tf) && tf.all fun p => tf.all fun q => decide (p = q) || decide ((He.cT K p).2 ≠ (He.cT K q).2)
section
variable {tf : List He.Defn} {K : PySem.W.Frag} {fa : List He.Fa} {fn : List He.FnD} {h : Heap}
theorem SaysL.tables (c : SaysL fa fn tf (tblB tf) h K) (KX : K.In h) : Tables K h (tf.map (He.cT K)) := by
  refine ⟨fun p hp => ?_, fun p hp => ?_, fun p hp => ?_⟩ <;> obtain ⟨q, hq, rfl⟩ := List.mem_map.mp hp
  · exact c.empty q hq
  · exact c.out q hq
  · exact PySem.W.codeHd_of_K KX (c.hd q hq)
theorem tbs_eq (c : tblB tf K = true) : tbs K = tf.map fun p => ((He.cT K p).2, lamQ p) := by
  unfold tbs
  rw [of_decide_eq_true (He.ba c).1]
theorem tabs_of (c : tblB tf K = true) {H : Hp} (hT : ∀ p ∈ tf.map (He.cT K), H p.2 = some (.tbl #[])) : Tabs (tbs K) H := by
  rw [tbs_eq c]
  intro z hz
  obtain ⟨p, hp, rfl⟩ := List.mem_map.mp hz
  exact TabS.nil (hT _ (List.mem_map.mpr ⟨p, hp, rfl⟩))
theorem tbl_of (c : tblB tf K = true) {p : He.Defn} (hp : p ∈ tf) {mg : Str → Option Value} {base : Heap} (tb : ∀ p ∈ tf.map (He.cT K), TabB base mg p.1 p.2) : Tbl K mg base p := by
  refine ⟨tb _ (List.mem_map.mpr ⟨p, hp, rfl⟩), by rw [tbs_eq c]; exact List.mem_map.mpr ⟨p, hp, rfl⟩, fun z hz e => ?_⟩
  rw [tbs_eq c] at hz
  obtain ⟨q, hq, rfl⟩ := List.mem_map.mp hz
  have h1 := List.all_eq_true.mp (List.all_eq_true.mp (He.ba c).2 q hq) p hp
  rcases Bool.or_eq_true_iff.mp h1 with h2 | h2
  · rw [of_decide_eq_true h2]
  · exact absurd e (of_decide_eq_true h2)
end
end Dt

set_option Elab.async false
set_option autoImplicit false
set_option linter.all false
set_option maxRecDepth 100000
set_option maxHeartbeats 4000000
/-! DY: sets of texts: made of a tuple or a list, sorted. -/
namespace Dt
open PySem PySem.Spec PyProof.Rows L2 LamX RZ PySem.P

def keyS (e : Int × Value) : Str := match e.2 with
  | .str x _ => x
  | _ => Str.empty
def GoodS (P : Program) (w : World) (e : Int × Value) : Prop := ∃ x tk, e.2 = Value.str x tk ∧ e.1 = (PySem.strKind P w).hash x
/-- the set of texts at a: its members are those of S, at most n -/
def TxS (P : Program) (w : World) (h : Heap) (a : Addr) (S : List Str) (n : Nat) : Prop :=
  ∃ o es ep t, h.get? a = some o ∧ o.ExactSet ∧ o.data = .set es ep t ∧ (∀ e ∈ es.toList, GoodS P w e) ∧ (es.toList.map keyS).Nodup ∧ (∀ k, k ∈ S ↔ k ∈ es.toList.map keyS) ∧
    es.size ≤ n ∧ t.fits es.size = true ∧ Ris t.place.toList ∧ (w.params.followText "set-order" = true ∨ t.led = true)
section
variable {P : Program} {w : World} {h h' : Heap} {a : Addr} {S : List Str} {n : Nat}
theorem TxS.at (R : TxS P w h a S n) (k : ∀ o, h.get? a = some o → h'.get? a = some o) : TxS P w h' a S n := by
  obtain ⟨o, es, ep, t, ho, r⟩ := R
  exact ⟨o, es, ep, t, k o ho, r⟩
theorem goodS_elems {l : List (Int × Value)} (g : ∀ e ∈ l, GoodS P w e) : ElemsOf (PySem.strKind P w) l := fun e he => by
  obtain ⟨x, tk, h1, h2⟩ := g e he
  exact ⟨⟨x, by rw [h1]; exact strKind_is P w x tk, h2⟩, by rw [h1]; rfl⟩
theorem goodS_is {e : Int × Value} (g : GoodS P w e) (k : Str) : (PySem.strKind P w).is k e.2 = true ↔ keyS e = k := by
  obtain ⟨x, tk, h1, _⟩ := g
  unfold keyS
  rw [h1]
  constructor
  · exact fun z => ((PySem.strKind P w).inj _ _ _ z (strKind_is P w x tk)).symm
  · rintro rfl; exact strKind_is P w _ tk
variable {A : Around} {E : Value → Shared → Prop} {s : Shared}
/-- what is behind an insertion: the entries stored, the table laid anew where it is too full -/
theorem txS_tail {g : Bool → Sem Unit} (hg : ∀ (b : Bool) (s₁ : Shared) (Q' : Unit → Shared → Prop), Q' () s₁ → wpAny (model P w) A (g b) Q' E s₁)
    {o : Obj} {es : Array (Int × Value)} {ep : Nat} {t : SetTable} (ho : s.heap.get? a = some o) (hex : o.ExactSet) (hd : o.data = .set es ep t)
    {es1 : Array (Int × Value)} {t2 : SetTable} (g1 : ∀ e ∈ es1.toList, GoodS P w e) (nd1 : (es1.toList.map keyS).Nodup) (m1 : ∀ k, k ∈ S ↔ k ∈ es1.toList.map keyS)
    (hb : n < scanBound) (hb1 : es1.size ≤ n) (hf2 : t2.fits es1.size = true) (hr : Ris t2.place.toList) (hl : w.params.followText "set-order" = true ∨ t2.led = true) {wasDummy : Bool} {R : Option Bool → Shared → Prop}
    (hR : ∀ h', Heap.SameBut a s.heap h' → TxS P w h' a S n → R (some true) { s with heap := h' }) :
    wpAny (model P w) A (do
        storeSet a es1 t2
        if (!wasDummy && t2.tooFull) = true then do
            g (relayAll t2 es1 (SetTable.grown es1.size)).2.2
            storeSet a (relayAll t2 es1 (SetTable.grown es1.size)).1 (relayAll t2 es1 (SetTable.grown es1.size)).2.1
            pure (some true)
          else pure (some true)) R E s := by
  have fit : es1.size ≤ sizeLine := fits_of_scanBound (Nat.lt_of_le_of_lt hb1 hb)
  refine wpAny_bind (wpAny_storeSet_of ho hd ?_ fit)
  have at1 := store_at (es' := es1) (t' := t2) ho hd
  have but1 := Heap.SameBut.update s.heap a (Obj.putSet es1 t2)
  split
  case isFalse => exact wpAny_pure (hR _ but1 ⟨_, es1, _, t2, at1, hex, rfl, g1, nd1, m1, hb1, hf2, hr, hl⟩)
  case isTrue =>
    have q1 := relayAll_perm t2 es1 (SetTable.grown es1.size)
    have q2 := relayAll_fits t2 es1 (SetTable.grown es1.size)
    have q3 := relayAll_ris t2 es1 (SetTable.grown es1.size)
    have q4 := relayAll_led t2 es1 (SetTable.grown es1.size)
    revert q1 q2 q3 q4
    generalize relayAll t2 es1 (SetTable.grown es1.size) = Z
    obtain ⟨es2, t3, gave⟩ := Z
    intro q1 q2 q3 q4
    dsimp only at q1 q2 q3 q4 ⊢
    have same : es2.size = es1.size := by rw [← Array.length_toList, q1.length_eq, Array.length_toList]
    refine wpAny_bind (hg _ _ _ (wpAny_bind (wpAny_storeSet_of at1 rfl ?_ (by rw [same]; exact fit))))
    have pk := q1.map keyS
    exact wpAny_pure (hR _ (but1.trans (Heap.SameBut.update _ a _)) ⟨_, es2, _, t3, store_at (es' := es2) (t' := t3) at1 rfl, hex, rfl, fun e he => g1 e (q1.mem_iff.mp he), pk.nodup_iff.mpr nd1, fun k => (m1 k).trans pk.mem_iff.symm, by rw [same]; exact hb1, q2, q3, hl.imp id fun z => by rw [q4]; exact z⟩)
theorem txS_add {x : Str} {tk : Tok} {Q : Bool → Shared → Prop} (R : TxS P w s.heap a S n) (room : n + 1 < scanBound)
    (hQ : ∀ b h', Heap.SameBut a s.heap h' → TxS P w h' a (x :: S) (n + 1) → Q b { s with heap := h' }) :
    wpAny (model P w) A (setAddHashed a (.str x tk) ((PySem.strKind P w).hash x)) Q E s := by
  obtain ⟨o, es, ep, t, ho, hex, hd, g, nd, hm, hn, hf, hr, hl⟩ := R
  have hkey : (PySem.strKind P w).is x (.str x tk) = true := strKind_is P w x tk
  have hsc : (Value.str x tk).scannable = true := rfl
  have hel : ElemsOf (PySem.strKind P w) es.toList := goodS_elems g
  have hb : es.size < scanBound := by omega
  unfold setAddHashed setAddHashedIn
  refine wpAny_holding (wpAny_bind (wpAny_setState_of ho hd hf ?_))
  dsimp only
  rw [byScan_of hsc hb hel]
  simp only [↓reduceIte]
  unfold setAddByScan
  refine wpAny_bind (wpAny_bind (wpAny_rule (wpAny_bind (wpAny_setScan_of hkey ho hd hf hel ?_))))
  cases hfi : List.findIdx? (fun e => (PySem.strKind P w).is x e.2) es.toList with
  | some j =>
    dsimp only
    obtain ⟨hj, pj, _⟩ := List.findIdx?_eq_some_iff_getElem.mp hfi
    have hx : x ∈ es.toList.map keyS := List.mem_map.mpr ⟨_, List.getElem_mem hj, (goodS_is (g _ (List.getElem_mem hj)) x).mp pj⟩
    refine wpAny_pure (wpAny_pure (hQ _ s.heap (Heap.SameBut.refl a s.heap) ⟨o, es, ep, t, ho, hex, hd, g, nd, fun k => ?_, by omega, hf, hr, hl⟩))
    rw [List.mem_cons, hm k]
    exact ⟨fun z => z.elim (fun e => e ▸ hx) id, .inr⟩
  | none =>
    dsimp only
    have hx : x ∉ es.toList.map keyS := fun z => by
      obtain ⟨e, he, q⟩ := List.mem_map.mp z
      have c := List.findIdx?_eq_none_iff.mp hfi e he
      rw [(goodS_is (g e he) x).mpr q] at c
      cases c
    have free : ∀ (b : Bool) {s₁ : Shared} {Q' : Unit → Shared → Prop}, Q' () s₁ → wpAny (model P w) A (match b with | true => rule "set.scan.the-table-gave-way" | false => pure ()) Q' E s₁ :=
      fun b s₁ Q' q => by cases b <;> first | exact wpAny_pure q | exact wpAny_rule q
    have q1 := layNew_perm t es ((PySem.strKind P w).hash x) (.str x tk)
    have q2 := layNew_fits t es ((PySem.strKind P w).hash x) (.str x tk)
    have q3 := layNew_ris t es ((PySem.strKind P w).hash x) (.str x tk) hr
    have q4 := layNew_led t es ((PySem.strKind P w).hash x) (.str x tk)
    revert q1 q2 q3 q4
    generalize layNew t es ((PySem.strKind P w).hash x) (.str x tk) = Z
    obtain ⟨es1, t1, wasDummy, gave⟩ := Z
    intro q1 q2 q3 q4
    dsimp only at q1 q2 q3 q4 ⊢
    rw [Array.toList_push] at q1
    have pc : es1.toList.Perm (((PySem.strKind P w).hash x, Value.str x tk) :: es.toList) := q1.trans (List.perm_append_singleton _ _)
    have pk : (es1.toList.map keyS).Perm (x :: es.toList.map keyS) := pc.map keyS
    have g1 : ∀ e ∈ es1.toList, GoodS P w e := fun e he => by
      rcases List.mem_cons.mp (pc.mem_iff.mp he) with z | z
      · rw [z]; exact ⟨x, tk, rfl, rfl⟩
      · exact g e z
    have nd1 : (es1.toList.map keyS).Nodup := pk.nodup_iff.mpr (List.nodup_cons.mpr ⟨hx, nd⟩)
    have m1 : ∀ k, k ∈ x :: S ↔ k ∈ es1.toList.map keyS := fun k => by rw [pk.mem_iff, List.mem_cons, List.mem_cons, hm k]
    have hsz : es1.size = es.size + 1 := by rw [← Array.length_toList, pc.length_eq, List.length_cons, Array.length_toList]
    have hled : w.params.followText "set-order" = true ∨ t1.led = true := hl.imp id fun z => by rw [q4]; exact z
    refine wpAny_bind (free _ ?_)
    split
    · refine wpAny_bind ?_
      rw [hashByValue_scannable 8 hsc]
      refine wpAny_pure ?_
      refine txS_tail (n := n + 1) ?_ ho hex hd g1 nd1 m1 room (by omega) ?_ ?_ ?_ ?_
      · intro b s₁ Q' q; cases b <;> first | exact wpAny_pure q | exact wpAny_rule q
      · first | (split <;> first | exact q2 | exact SetTable.fits_plain_off q2) | exact q2
      · first | (split <;> exact q3) | exact q3
      · first | (split <;> exact hled) | exact hled
      · intro h' sb r; dsimp only; exact wpAny_pure (hQ _ h' sb r)
    · refine wpAny_bind (wpAny_pure ?_)
      simp only [↓reduceIte]
      refine txS_tail (n := n + 1) ?_ ho hex hd g1 nd1 m1 room (by omega) q2 q3 hled ?_
      · intro b s₁ Q' q; cases b <;> first | exact wpAny_pure q | exact wpAny_rule q
      · intro h' sb r; dsimp only; exact wpAny_pure (hQ _ h' sb r)
theorem TxS.congr {S' : List Str} (R : TxS P w h a S n) (e : ∀ k, k ∈ S' ↔ k ∈ S) : TxS P w h a S' n := by
  obtain ⟨o, es, ep, t, ho, hex, hd, g, nd, hm, r⟩ := R
  exact ⟨o, es, ep, t, ho, hex, hd, g, nd, fun k => (e k).trans (hm k), r⟩
theorem txS_new (ho : h.get? a = some { cls := .type "set", dict := none, data := .set #[] 0 (.fresh 0 0 (!w.params.followText "set-order")) }) : TxS P w h a [] 0 :=
  ⟨_, #[], 0, _, ho, ⟨rfl, rfl, rfl⟩, rfl, (fun e he => by simp at he), (by simp), (fun k => by simp), Nat.le_refl _, (by rfl), List.Pairwise.nil, by
    show _ ∨ (!w.params.followText "set-order") = true
    cases w.params.followText "set-order"
    · exact .inr rfl
    · exact .inl rfl⟩
/-- the members of what is walked come into the set -/
theorem txS_loop {I : Addr} {fp wr : List Addr} {G : Array GenState → Array GenState → Prop} {m : Nat} {Pv : Nat → Value → Prop} {St : Nat → Shared → Prop} {R : Result → Shared → Prop}
    (W : WalksS P w A.in1 I fp wr G m Pv St) (D : Addr) (off : D ∉ fp) (xs : List Str) (len : m = xs.length) (room : xs.length + 1 < scanBound) (val : ∀ i v, Pv i v → ∃ x t, xs[i]? = some x ∧ v = .str x t) :
    ∀ (k i : Nat) (s : Shared), m - i = k → i ≤ m → St i s → TxS P w s.heap D (xs.take i) i →
      (∀ s', Moved (D :: wr) G s s' → TxS P w s'.heap D xs m → R (.ok (.ret .none)) s') →
      codeAny (model P w) A (.builtin "set.update.loop" ⟨[.ref D, .ref I], []⟩) R s := by
  have offw : D ∉ wr := fun h => off (W.sub _ h)
  have sub : ∀ b ∈ wr, b ∈ D :: wr := fun b hb => List.mem_cons_of_mem _ hb
  intro k
  induction k with
  | zero =>
    intro i s hk hi st R0 fin
    obtain rfl : i = m := by omega
    refine codeAny_builtin F.entry_set_update_loop ?_
    rw [Around.under_plainId F.plain_set_update_loop _]
    show wpAny _ A.in1 (pyNext (.ref I) >>= _) _ _ s
    refine wpAny_bind (W.done s _ _ st fun s' mv => ?_)
    show wpAny _ A.in1 (ret Value.none) _ _ s'
    rw [List.take_of_length_le (by omega)] at R0
    exact wpAny_pure (fin s' (mv.mono sub) (R0.at fun o e => mv.heap D o offw e))
  | succ k ih =>
    intro i s hk hi st R0 fin
    have lt : i < m := by omega
    refine codeAny_builtin F.entry_set_update_loop ?_
    rw [Around.under_plainId F.plain_set_update_loop _]
    show wpAny _ A.in1 (pyNext (.ref I) >>= _) _ _ s
    refine wpAny_bind (W.item i s _ _ lt st fun v s' hv st' mv => ?_)
    obtain ⟨x, t, hx, rfl⟩ := val i v hv
    have R1 : TxS P w s'.heap D (xs.take i) i := R0.at fun o e => mv.heap D o offw e
    show wpAny _ A.in1 (holding [Value.str x t] (setAdd D (.str x t)) >>= _) _ _ s'
    refine wpAny_bind (wpAny_holding ?_)
    unfold setAdd
    refine wpAny_holding (wpAny_bind ((PySem.strKind P w).pyHash (k := x) (strKind_is _ _ _ _) ?_))
    refine txS_add (s := { s' with toks := s'.toks + 1 }) R1 (by omega) fun b h' but R2 => ?_
    have R3 : TxS P w h' D (xs.take (i + 1)) (i + 1) := R2.congr fun k => by
      rw [List.take_add_one, hx, List.mem_cons, List.mem_append]
      simp [or_comm]
    refine wpAny_pure ⟨plainId_quiet F.plain_set_update_loop _, ih (i + 1) _ (by omega) lt (W.frame _ s' _ _ st' (Nat.le_succ _) fun b hb o e => ?_) R3 fun s'' mv2 R4 => ?_⟩
    · rw [but.2 b (fun z : b = D => off (by rw [← z]; exact hb))]; exact e
    · refine fin s'' (Moved.trans W.gtrans ((mv.mono sub).then_heap (Nat.le_succ _) fun b o hb e => ?_) mv2) R4
      rw [but.2 b (fun z : b = D => hb (by rw [z]; exact List.mem_cons_self))]; exact e
end
section
variable {P : Program} {w : World} {A : Around} {E : Value → Shared → Prop} {s : Shared}
abbrev set0 (w : World) : Obj := { cls := .type "set", dict := none, data := .set #[] 0 (.fresh 0 0 (!w.params.followText "set-order")) }
set_option maxRecDepth 100000 in
/-- set(l), l a tuple or a list of texts: by what iterating it does -/
theorem call_set_txs {l : Addr} {T : String} {items : Array Value} (xs : List Str) {Q : Value → Shared → Prop} (hh : A.handled = none)
    (hl : ∃ o n, s.heap.get? l = some o ∧ o.cls = .type T ∧ o.data = .seq items n) (hT : T = "tuple") (vals : ∀ (i : Nat) (v : Value), items[i]? = some v → ∃ x t, xs[i]? = some x ∧ v = .str x t) (len : items.size = xs.length) (room : xs.length + 1 < scanBound)
    (h : ∀ (h' : Heap) (tk : Nat), TxS P w h' s.heap.objs.size xs xs.length → (∀ b o, s.heap.get? b = some o → h'.get? b = some o) → Q (.ref s.heap.objs.size) { s with heap := h', toks := tk }) :
    wpAny (model P w) A (call (.type "set") [.ref l]) Q E s := by
  subst hT
  obtain ⟨c, tl, hmro⟩ := F.called_set.mro
  have hmade := F.called_set.made
  have hsub := F.called_set.sub
  refine wpAny_call (codeAny_of_tree ?_)
  show wpAny _ _ (callAny (.type "set") _) _ _ _
  refine wpAny_pure ⟨Code.quiet_builtin _ (by decide +kernel), codeAny_builtin F.entry_type_call ?_⟩
  rw [Around.under_plain (weight_type_call_type "set" [.ref l] []) rfl]
  have h1 := F.called_set.notType
  have h2 := F.called_set.canCreate
  have hct := F.typeCall_set_1 (.ref l)
  repeat (any_goals (first | assumption | wp_step))
  refine codeAny_mono (code_set_led1 (.ref l) (E := E) (Q₁ := fun obj s₁ => obj = .ref s.heap.objs.size ∧ s₁ = { s with heap := s.heap.push (set0 w) }) ⟨rfl, rfl⟩) fun r s₁ hr => ?_
  match r, hr with
  | .error e, hr => exact hr
  | .ok .next, hr => exact hr.elim
  | .ok .brk, hr => exact hr.elim
  | .ok .cont, hr => exact hr.elim
  | .ok (.ret obj), hr =>
    obtain ⟨rfl, rfl⟩ := hr
    have hS : (s.heap.push (set0 w)).get? s.heap.objs.size = some (set0 w) := Heap.get?_push_size _ rfl
    have hTy : Shared.TypeIs { s with heap := s.heap.push (set0 w) } (.ref s.heap.objs.size) "set" := ⟨_, hS, rfl⟩
    have hli := F.called_set.init.lookup
    have hbi := F.called_set.init.bind (.ref s.heap.objs.size)
    repeat (any_goals (first | assumption | wp_step))
    refine codeAny_mono (codeAny_call_builtin (R := wants (fun r s₂ => r = .none ∧ ∃ h' tk, s₂ = { s with heap := h', toks := tk } ∧ TxS P w h' s.heap.objs.size xs xs.length ∧
        (∀ b o, s.heap.get? b = some o → h'.get? b = some o)) E) F.called_set.init.plain F.entry_set_init (check_set_init_1 hTy ?_)) fun r₂ s₂ hr₂ => ?_
    · obtain ⟨ol, nl, hol, hcl, hdl⟩ := hl
      obtain ⟨ocls, odict, odata, oslots⟩ := ol
      simp only at hcl hdl
      subst hcl; subst hdl
      have hol' : (s.heap.push (set0 w)).get? l = some { cls := .type "tuple", dict := odict, data := .seq items nl, slots := oslots } := Heap.get?_push_of_some _ hol
      have hsls := F.sub_tuple_set
      have hslf := F.sub_tuple_frozenset
      have hne : (Value.type "tuple" == Value.type "dict") = false := by decide
      have hl1 : (s.heap.push (set0 w)).IsTuple l items := ⟨_, hol', rfl, nl, rfl⟩
      unfold Builtin.«set.__init__» noKeywords Builtin.Frozenset.updateFrom
      generalize hPI : pyIter = PI
      wp_walk
      subst hPI
      refine wpAny_pyIter_tuple hl1 (wpAny_bind (wpAny_runValue ?_))
      have below : l < s.heap.objs.size := Heap.lt_size hol
      have hh3 : A.in1.in1.in1.handled = none := by simp [hh]
      have sz : (s.heap.push (set0 w)).objs.size = s.heap.objs.size + 1 := Heap.size_push ..
      have apart : l ≠ (s.heap.push (set0 w)).objs.size := by rw [sz]; exact Nat.ne_of_lt (Nat.lt_succ_of_lt below)
      have off : s.heap.objs.size ∉ [(s.heap.push (set0 w)).objs.size, l] := by
        rw [sz]; simp only [List.mem_cons, List.not_mem_nil, or_false, not_or]
        exact ⟨Nat.ne_of_lt (Nat.lt_succ_self _), Nat.ne_of_gt below⟩
      refine txS_loop ((Walks.tuple hh3 _ l apart items).toS) s.heap.objs.size off xs len room (fun i v hv => vals i v hv) (items.size - 0) 0 _ (by omega) (Nat.zero_le _)
        ⟨⟨_, Heap.get?_push_size _ rfl, rfl, rfl⟩, (hl1.push _)⟩ (txS_new (Heap.get?_push_of_some _ hS)) fun s' mv R => ?_
      obtain ⟨h', g2, d', tk', os'⟩ := s'
      have eg : g2 = s.gens := mv.gens
      have ed : d' = s.drawn := mv.drawn
      have eo : os' = s.os := mv.os
      subst eg; subst ed; subst eo
      show wpAny _ _ _ _ _ _
      refine wpAny_pure ?_
      show wpAny _ _ (ret Value.none) _ _ _
      rw [len] at R
      refine wpAny_pure ⟨rfl, h', tk', rfl, R, fun b o e => ?_⟩
      have hb0 : b < s.heap.objs.size := Heap.lt_size e
      have hb2 : b ≠ (s.heap.push (set0 w)).objs.size := by rw [sz]; exact Nat.ne_of_lt (Nat.lt_succ_of_lt hb0)
      exact mv.heap b o (by simp only [List.mem_cons, List.not_mem_nil, or_false, not_or]; exact ⟨Nat.ne_of_lt hb0, hb2⟩) (Heap.get?_push_of_some _ (Heap.get?_push_of_some _ e))
    · match r₂, hr₂ with
      | .error e, hr₂ => exact hr₂
      | .ok .next, hr₂ => exact hr₂.elim
      | .ok .brk, hr₂ => exact hr₂.elim
      | .ok .cont, hr₂ => exact hr₂.elim
      | .ok (.ret r), hr₂ =>
        obtain ⟨rfl, h', tk, rfl, R, kp⟩ := hr₂
        repeat (any_goals (first | assumption | wp_step))
        exact h _ _ R kp
end
end Dt

set_option Elab.async false
set_option autoImplicit false
set_option linter.all false
set_option maxRecDepth 100000
set_option maxHeartbeats 4000000
/-! DZ: sorted(set(t)), t a tuple of texts. -/
namespace Dt
open PySem PySem.Spec PyProof.Rows L2 LamX RZ PySem.P
def TxO (P : Program) (w : World) (a : Addr) (S : List Str) (n : Nat) : HO := .ext fun h => TxS P w h a S n
theorem txO_new {P : Program} {w : World} {H : Hp} {h : Heap} {a : Addr} {S : List Str} {n : Nat} (R : TxS P w h a S n) : ObjOk P w H h a (TxO P w a S n) := by
  have ⟨o, _, _, _, ho, _⟩ := R
  exact ⟨R, ⟨o, ho⟩, fun h1 h2 p k => TxS.at p k⟩
section
variable {X : Cx}
theorem txs_vals : ∀ {xs : List Str} {us : List Value}, Vals (xs.map V.str) us → ∀ (i : Nat) (v : Value), us[i]? = some v → ∃ x t, xs[i]? = some x ∧ v = .str x t
  | [], _, .nil, i, v, h => by simp at h
  | x :: xs, _, .cons r rs, 0, v, h => by
    obtain ⟨t, rfl⟩ := r
    simp at h
    exact ⟨x, t, rfl, h.symm⟩
  | x :: xs, _, .cons r rs, i + 1, v, h => txs_vals (xs := xs) rs i v h
def rSetTx (X : Cx) : List V → Hp → VK → Prop := fun vs H Q => ∃ a xs, vs = [V.ref a] ∧ SqT X.K H a (xs.map V.str) ∧ xs.length + 1 < scanBound ∧ ∀ p, H p = none → Q (.ref p) (upd H p (TxO X.prog X.w p xs xs.length))
theorem cr_setTx (hc : X.calm = true) : CallR X (.type "set") (rSetTx X) := by
  intro pins s σ H vs us Q I r h
  obtain ⟨a, xs, rfl, hq, room, q⟩ := h
  rw [Vals.ref1 r]
  obtain ⟨its, rv, ht, hz⟩ := I.tuple hq
  have pt : s.heap.IsTuple a its.toArray := ht
  have len := rv.length
  obtain ⟨o, ho, hcl, n, hd⟩ := pt
  refine call_set_txs (T := "tuple") xs (I.ok.hd hc) ⟨o, n, ho, hcl, hd⟩ rfl (fun i v hv => txs_vals rv i v (by rw [List.getElem?_toArray] at hv; exact hv)) (by simpa using len.symm) room fun h' tk R kp => ?_
  exact ⟨.ref _, _, I.laid (t' := tk) kp (Nat.le_refl _) (txO_new R), rfl, q _ (I.hok.fresh (Nat.le_refl _))⟩
theorem strs_vals (l : List Value) (h : ∀ v ∈ l, ∃ x tk, v = Value.str x tk) : ∃ ys : List Str, Vals (ys.map V.str) l ∧ ∀ f : Value → Str, (∀ x tk, f (.str x tk) = x) → ys = l.map f := by
  induction l with
  | nil => exact ⟨[], .nil, fun _ _ => rfl⟩
  | cons v l ih =>
    obtain ⟨ys, r, e⟩ := ih fun u hu => h u (List.mem_cons_of_mem _ hu)
    obtain ⟨x, tk, rfl⟩ := h _ List.mem_cons_self
    exact ⟨x :: ys, .cons ⟨tk, rfl⟩ r, fun f hf => by rw [e f hf, List.map_cons, hf]⟩
theorem dps_str {K : PySem.W.Frag} {H : Hp} : ∀ ys : List Str, DpAll K H (ys.map V.str) (ys.map PyData.str)
  | [] => .nil
  | y :: ys => .cons (.str y) (dps_str ys)
def rSortTx (X : Cx) : List V → Hp → VK → Prop := fun vs H Q => ∃ a xs n, vs = [V.ref a] ∧ H a = some (TxO X.prog X.w a xs n) ∧ n < scanBound ∧
  ∀ ys : List Str, ys.Nodup → (∀ k, k ∈ ys ↔ k ∈ xs) → CanSort (ys.map PyData.str) ∧ ∀ l, H l = none → Q (.ref l) (upd H l (.lst (srt (ys.map V.str) (ys.map PyData.str))))
theorem cr_sortTx (hc : X.calm = true) (hu : X.A.units + 64 < cLine) : CallR X (.builtin "sorted") (rSortTx X) := by
  intro pins s σ H vs us Q I r h
  obtain ⟨a, xs, n, rfl, ha, room, q⟩ := h
  rw [Vals.ref1 r]
  obtain ⟨⟨o, es, ep, t, ho, hex, hd, g, nd, hm, hn, hf, hr, hl⟩, _⟩ := (show ObjOk X.prog X.w H s.heap a (TxO X.prog X.w a xs n) from I.hok a _ ha)
  refine Calls.call_function_entry PyProof.Rows.kind_sorted PyProof.Rows.plain_sorted PyProof.Rows.entry_sorted (PyProof.Rows.args_sorted1 _) ?_
  unfold Builtin.«sorted»
  refine wpAny_bind (m := checkCount "sorted" 1 1 _) (wpAny_pure ?_)
  refine wpAny_bind (collect_set (A := X.A.in1) (I.ok.hd hc) ⟨o, ho, hex.1, hd⟩ hf (by omega) hr hl fun s1 acc k1 hz g1 o1 pm => ?_)
  obtain ⟨ys, rv, ey⟩ := strs_vals acc fun v hv => by
    obtain ⟨e, he, z⟩ := List.mem_map.mp (pm.mem_iff.mp hv)
    obtain ⟨x, tk, h1, _⟩ := g e he
    exact ⟨x, tk, by rw [← z]; exact h1⟩
  have ps : ys.Perm (es.toList.map keyS) := by
    rw [ey (fun v => keyS (0, v)) fun x tk => rfl]
    have z := pm.map fun v => keyS (0, v)
    rw [List.map_map] at z
    exact z
  obtain ⟨cs, q⟩ := q ys (ps.nodup_iff.mpr nd) fun k => ps.mem_iff.trans (hm k).symm
  have lim : acc.length ≤ sizeLine := by rw [pm.length_eq, List.length_map, Array.length_toList]; exact fits_of_scanBound (by omega)
  have I1 : Inv X pins σ H { s with heap := s1.heap, gens := s1.gens, drawn := s1.drawn, toks := s1.toks } := I.call (ch := []) (Un.kept k1) (I.hok.kept k1) (by rw [g1]; exact I.bare) (fun _ z => nomatch z)
  have e1 : s1 = { s with heap := s1.heap, gens := s1.gens, drawn := s1.drawn, toks := s1.toks } := by
    cases s1
    cases s
    cases o1
    rfl
  rw [← e1] at I1
  have hdp : DpAll X.K H (ys.map V.str) (ys.map PyData.str) := dps_str ys
  refine wpAny_bind (wpAny_newList ?_ lim)
  have hoL : (s1.heap.push (seqObj "list" acc.toArray 0)).get? s1.heap.objs.size = some (seqObj "list" acc.toArray 0) := Heap.get?_push_size _ rfl
  show wpAny _ _ _ _ _ { s1 with heap := s1.heap.push (seqObj "list" acc.toArray 0) }
  have hl := dpAll_len hdp
  have e := each_zip (R := fun _ _ => True) rv hl
  have er : PySem.W.EachIs (fun v (b : V × PyData) => ∃ as, Reads s1.heap v b.2 as) acc ((ys.map V.str).zip (ys.map PyData.str)) := e.mono fun v b ⟨rb, hb⟩ => Dp.reads I1 b.2 b.1 v (dpAll_mem hdp hb) rb
  have old : ∀ b o', s1.heap.get? b = some o' → (PySem.W.sortingHeap (s1.heap.push (seqObj "list" acc.toArray 0)) s1.heap.objs.size acc).get? b = some o' := fun b o' q => PySem.W.sortingHeap_old (Nat.ne_of_lt (Heap.lt_size q)) (Heap.get?_push_of_some _ q)
  have er' : PySem.W.EachIs (fun v (b : V × PyData) => ∃ as, Reads (PySem.W.sortingHeap (s1.heap.push (seqObj "list" acc.toArray 0)) s1.heap.objs.size acc) v b.2 as) acc ((ys.map V.str).zip (ys.map PyData.str)) :=
    er.mono fun _ _ ⟨as, r⟩ => ⟨as, PyProof.Rows.Reads.keeps old r⟩
  have hps : ((ys.map V.str).zip (ys.map PyData.str)).map Prod.snd = ys.map PyData.str := zip_snd hl
  have cs' : CanSort (((ys.map V.str).zip (ys.map PyData.str)).map Prod.snd) := by rw [hps]; exact cs
  refine wpAny_bind (wpAny_holding (wpAny_call_entry PyProof.Rows.slot_list_sort ⟨_, hoL, rfl⟩ PyProof.Rows.entry_list_sort
    (PySem.W.list_sort_vals (s := { s1 with heap := s1.heap.push (seqObj "list" acc.toArray 0) }) (κ := PySem.W.dataKind (PySem.W.sortingHeap (s1.heap.push (seqObj "list" acc.toArray 0)) s1.heap.objs.size acc) (((ys.map V.str).zip (ys.map PyData.str)).map Prod.snd)) hoL
      (sortsAt_few (s := { s1 with heap := PySem.W.sortingHeap (s1.heap.push (seqObj "list" acc.toArray 0)) s1.heap.objs.size acc }) (PySem.W.each_map (R := fun v d => ∃ as, Reads (PySem.W.sortingHeap (s1.heap.push (seqObj "list" acc.toArray 0)) s1.heap.objs.size acc) v d as) Prod.snd er') cs' fun d hd' => ?_) lim ⟨_, rfl, ?_⟩)
    (PyProof.Rows.args_list_sort _)))
  · rw [hps] at hd'
    obtain ⟨p, hp, rfl⟩ := List.mem_map.mp hd'
    show X.A.units + 2 + (PyData.str p).depth < cLine
    have : (PyData.str p).depth = 0 := by simp [PyData.depth]
    omega
  · have out := PySem.W.sortVals_data (h' := PySem.W.sortingHeap (s1.heap.push (seqObj "list" acc.toArray 0)) s1.heap.objs.size acc) (R := fun v (b : V × PyData) => RelV b.1 v ∧ b ∈ (ys.map V.str).zip (ys.map PyData.str)) (enc := Prod.snd) false e er' cs'.1
    obtain ⟨e', he'⟩ := PyProof.Rows.sortedHeap_at (vs := acc) (out := (PySem.W.sortVals (PySem.W.dataKind (PySem.W.sortingHeap (s1.heap.push (seqObj "list" acc.toArray 0)) s1.heap.objs.size acc) (((ys.map V.str).zip (ys.map PyData.str)).map Prod.snd)) false acc acc).toArray) hoL
    refine wpAny_pure ⟨_, rfl, .ref s1.heap.objs.size, upd H s1.heap.objs.size (.lst (srt (ys.map V.str) (ys.map PyData.str))), ?_, rfl, q _ (I1.hok.fresh (Nat.le_refl _))⟩
    have keep2 : ∀ b u, s1.heap.get? b = some u → (PyProof.Rows.sortedHeap (s1.heap.push (seqObj "list" acc.toArray 0)) s1.heap.objs.size acc (PySem.W.sortVals (PySem.W.dataKind (PySem.W.sortingHeap (s1.heap.push (seqObj "list" acc.toArray 0)) s1.heap.objs.size acc) (((ys.map V.str).zip (ys.map PyData.str)).map Prod.snd)) false acc acc).toArray).get? b = some u := by
      intro b u e
      have hb : b < s1.heap.objs.size := Heap.lt_size e
      rw [PyProof.Rows.sortedHeap_old (Nat.ne_of_lt hb) (by rw [size_push']; exact Nat.lt_succ_of_lt hb)]
      exact Heap.get?_push_of_some _ e
    have lay : ObjOk X.prog X.w (upd H s1.heap.objs.size (.lst (srt (ys.map V.str) (ys.map PyData.str)))) (PyProof.Rows.sortedHeap (s1.heap.push (seqObj "list" acc.toArray 0)) s1.heap.objs.size acc (PySem.W.sortVals (PySem.W.dataKind (PySem.W.sortingHeap (s1.heap.push (seqObj "list" acc.toArray 0)) s1.heap.objs.size acc) (((ys.map V.str).zip (ys.map PyData.str)).map Prod.snd)) false acc acc).toArray) s1.heap.objs.size (.lst (srt (ys.map V.str) (ys.map PyData.str))) := by
      refine ⟨?_, _, e', vals_out out, he'⟩
      rw [srt_len hl, rv.length]; exact lim
    exact I1.laid (t' := s1.toks) keep2 (Nat.le_refl _) lay
end
end Dt

set_option Elab.async false
set_option autoImplicit false
set_option linter.all false
set_option maxRecDepth 100000
set_option maxHeartbeats 4000000
/-! DRev: t[::-1] of a tuple; sorted(set(t)) as a reading. -/
namespace HT
open PySem PySem.Spec PyProof.Rows
section
variable {prog : Program} {w : World} {A : Around} {E : Value → Shared → Prop} {s : Shared}
theorem adjust_rev (n : Nat) : Builtin.Slice.sliceAdjust none none (-1) (n : Int) = ((n : Int) - 1, -1) := by
  rfl
theorem places_rev (n : Nat) : Builtin.Slice.slicePlaces ((n : Int) - 1) (-1) (-1) = n := by
  unfold Builtin.Slice.slicePlaces
  have h1 : ¬ ((-1 : Int) > 0) := by omega
  simp only [h1, if_false]
  have h2 : - (-1 : Int) = 1 := rfl
  split
  · simp only [h2, Int.ediv_one]; omega
  · omega
theorem sliceApplied_rev {sl : Addr} {vs : Value} {n : Nat} {Q : Int × Int × Nat → Shared → Prop} (hs : s.heap.IsSliceOf sl .none .none vs) (ps : IsPart vs (some (-1)))
    (h : Q ((n : Int) - 1, -1, n) s) : wpAny (model prog w) A (Builtin.Slice.sliceApplied (.ref sl) (pure (n : Int))) Q E s := by
  obtain ⟨os, hos, hcs, hds⟩ := id hs
  unfold Builtin.Slice.sliceApplied Builtin.Slice.sliceFields
  refine wpAny_bind (wpAny_bind (wpAny_field hos hds (x := .none) rfl (wpAny_bind (wpAny_field hos hds (x := .none) rfl (wpAny_bind (wpAny_field hos hds (x := vs) rfl (wpAny_pure ?_)))))))
  refine wpAny_bind (slicePart_ ps ?_)
  show wpAny _ _ (if ((-1 : Int) == 0) = true then _ else _) _ _ s
  rw [if_neg (by decide)]
  refine wpAny_bind (slicePart_none (wpAny_bind (slicePart_none (wpAny_bind (wpAny_pure ?_)))))
  show wpAny _ _ (match Builtin.Slice.sliceAdjust none none (-1) (n : Int) with | (lo, hi) => pure (lo, (-1 : Int), Builtin.Slice.slicePlaces lo hi (-1))) _ _ s
  rw [adjust_rev n]
  show wpAny _ _ (pure ((n : Int) - 1, (-1 : Int), Builtin.Slice.slicePlaces ((n : Int) - 1) (-1) (-1))) _ _ s
  rw [places_rev]
  exact wpAny_pure h
theorem fm_some {α β : Type} {f : α → Option β} {g : α → β} : ∀ l : List α, (∀ m ∈ l, f m = some (g m)) → l.filterMap f = l.map g
  | [], _ => rfl
  | a :: l, h => by
    rw [List.filterMap_cons, h a List.mem_cons_self, List.map_cons, fm_some l fun m hm => h m (List.mem_cons_of_mem _ hm)]
theorem pick_rev (xs : Array Value) : ((List.range xs.size).filterMap fun (m : Nat) => xs[(((xs.size : Int) - 1) + (m : Int) * (-1)).toNat]?).toArray = xs.toList.reverse.toArray := by
  congr 1
  have e : ∀ m ∈ List.range xs.size, xs[(((xs.size : Int) - 1) + (m : Int) * (-1)).toNat]? = some (xs.toList.reverse[m]?.getD .none) := by
    intro m hm
    have hm := List.mem_range.mp hm
    have e1 : (((xs.size : Int) - 1) + (m : Int) * (-1)).toNat = xs.size - 1 - m := by omega
    rw [e1, List.getElem?_reverse (by simpa using hm), Array.length_toList, Array.getElem?_toList]
    have : xs.size - 1 - m < xs.size := by omega
    rw [Array.getElem?_eq_getElem this]
    rfl
  rw [fm_some _ e]
  apply List.ext_getElem
  · simp
  · intro i h1 h2
    simp at h1
    simp [h1]
theorem getItem_tuple_rev {t sl : Addr} {items : Array Value} {vs : Value} {Q : Value → Shared → Prop} (ht : IsTup s.heap t items) (hs : s.heap.IsSliceOf sl .none .none vs) (ps : IsPart vs (some (-1)))
    (h : Q (.ref s.heap.objs.size) { s with heap := s.heap.push { cls := .type "tuple", data := .seq items.toList.reverse.toArray } })
    (hsz : items.size ≤ sizeLine) : wpAny (model prog w) A (getItem (.ref t) (.ref sl)) Q E s := by
  have fit : sizeOk (.seq items.toList.reverse.toArray) := by
    show items.toList.reverse.toArray.size ≤ sizeLine
    rw [List.size_toArray, List.length_reverse, Array.length_toList]
    exact hsz
  obtain ⟨os, hos, hcs, hds⟩ := id hs
  have hTs : s.TypeIs (.ref sl) "slice" := ⟨os, hos, hcs⟩
  unfold getItem
  try with_reducible refine wpAny_holding ?_
  first | refine wpAny_bind (wpAny_pure ?_) | skip
  refine wpAny_bind (wpAny_sequenceKey ht.typeIs (by decide) ?_)
  refine wpAny_bind (wpAny_callSpecial?_slot (name := Str.ofString "__getitem__") ht.typeIs PyProof.Rows.slot_tuple_getitem
    (wpAny_call_entry PyProof.Rows.slot_tuple_getitem ht.typeIs entry_tuple_getitem ?_ (args_tuple_getitem _ _)))
  show wpAny _ _ (Builtin.Tuple.tupleItemsOf (.ref t) >>= _) _ _ s
  refine wpAny_bind (tupleItemsOf_ ht ?_)
  refine wpAny_bind (wpAny_typeOf hTs ?_)
  rw [if_pos (by decide)]
  refine wpAny_bind (sliceApplied_rev hs ps ?_)
  have hno : ¬ ((((items.size : Int) - 1) == 0 && (-1 : Int) == 1 && items.size == items.size) = true) := by
    simp
  show wpAny _ _ (if (((items.size : Int) - 1) == 0 && (-1 : Int) == 1 && items.size == items.size) = true then _ else _) _ _ s
  rw [if_neg hno, pick_rev]
  first
    | exact wpAny_bind (m := Builtin.Tuple.tupleExact _) (wpAny_newObj_type (wpAny_pure ⟨_, rfl, wpAny_pure h⟩) fit)
    | exact wpAny_bind (m := Builtin.Tuple.tupleExact _) (wpAny_newObj_type (wpAny_bind (wpAny_pure (wpAny_pure ⟨_, rfl, wpAny_pure h⟩))) fit)
    | exact wpAny_bind (wpAny_bind (m := Builtin.Tuple.tupleExact _) (wpAny_newObj_type (wpAny_pure (wpAny_pure ⟨_, rfl, wpAny_pure h⟩)) fit))
    | exact wpAny_bind (wpAny_bind (m := Builtin.Tuple.tupleExact _) (wpAny_newObj_type (wpAny_pure ⟨_, rfl, wpAny_pure h⟩) fit))
end
end HT
namespace Dt
open PySem PySem.Spec PyProof.Rows L2 LamX RZ PySem.P
section
variable {X : Cx} {W : WX}
def tRev (K : PySem.W.Frag) (te : TE) (ts : TO) : TE := fun σ H Q => te σ H fun x H1 => ts σ H1 fun o H2 => o = some (-1) ∧ ∃ a xs, x = V.ref a ∧ SqT K H2 a xs ∧ ∀ (p : Addr) (o : Obj), H2 p = none → o.dict = none → Q (.ref p) (upd H2 p (.frz o (.tup xs.reverse)))
theorem vals_rev {xs : List V} {us : List Value} (r : Vals xs us) : Vals xs.reverse us.reverse := by
  induction r with
  | nil => exact .nil
  | cons a _ ih => rw [List.reverse_cons, List.reverse_cons]; exact ih.append (.cons a .nil)
theorem pe_rev {e st : Expr} {te : TE} {ts : TO} {pos p2 : Pos} (he : PE X e te) (hs : PO X (some st) ts) : PE X (.Subscript e (.Slice none none (some st) p2) pos) (tRev X.K te ts) := by
  refine ⟨fun pins s σ H Q I h => ?_⟩
  refine Subscript_ (thn (he.run pins s σ H _ I h) fun v s1 ⟨x, H1, I1, r1, q1⟩ => ?_)
  refine wpAny_Slice ?_
  rw [evalPart_none]
  refine wpAny_pure ?_
  refine wpAny_pure (thn (hs.run pins s1 σ H1 _ I1 q1) fun vs s3 ⟨o, H3, I3, ps, eo, a, xs, ex, hq, q⟩ => ?_)
  subst eo ex
  cases r1
  have I4 : Inv X pins σ H3 { s3 with heap := s3.heap.push { cls := .type "slice", data := .fields #[.none, .none, vs] } } := I3.kept (t' := s3.toks) fun b ob q => Heap.get?_push_of_some _ q
  obtain ⟨its, r, ht, hz⟩ := I4.tuple hq
  show wpAny (model X.prog X.w) X.A (subscriptTail e (.Slice none none (some st) p2) (.ref a) (.ref s3.heap.objs.size)) (EP X pins σ Q) X.xe { s3 with heap := s3.heap.push { cls := .type "slice", data := .fields #[.none, .none, vs] } }
  refine tail_any (ops := [.ref a, .ref s3.heap.objs.size]) ht.typeIs PyProof.Rows.slot_tuple_getitem.lookup ?_ (by with_unfolding_all rfl)
  refine HT.getItem_tuple_rev ht (Heap.IsSliceOf.new ..) ps ?_ (by rw [List.size_toArray, ← r.length]; exact hz)
  refine ⟨.ref _, _, I4.laid (t' := s3.toks) (o := .frz { cls := .type "tuple", data := .seq its.reverse.toArray } (.tup xs.reverse)) (fun b ob q => Heap.get?_push_of_some _ q) (Nat.le_refl _) ?_, rfl, q _ _ (I4.hok.fresh (Nat.le_refl _)) rfl⟩
  exact frz_ok (by rw [List.length_reverse]; exact hz) (vals_rev r) (Heap.get?_push_size _ rfl)
/-- t[::-1] -/
def revD : R1D := fun d M Q => match d with
  | .tup xs => Q (.tup xs.reverse) M
  | _ => False
theorem de_rev {e : Expr} {te : TED} {pos p2 p3 p4 : Pos} {j} (he : PE X e (lE X.B W te)) : PE X (.Subscript e (.Slice none none (some (.UnaryOp .USub (.Constant (.int 1) j p3) p4)) p2) pos) (lE X.B W (dUn revD te)) :=
  PE.imp (pe_rev he (do_some (W := W) (de_neg de_int))) fun σ H Q ⟨σd, M, Qd, E, S, R, t, c, cx⟩ => ⟨σd, M, _, E, S, R, t, fun d v M1 H1 dv R1 k1 q1 => ⟨σd, M1, _, E, S.mono (k1.tups R), R1, (show dPart (dUn negD (dC (.int 1))) σd M1 (fun o M2 => o = some (-1) ∧ M2 = M1) E from ⟨rfl, rfl⟩), fun o M2 H2 R2 k2 ⟨eo, em⟩ => by
    subst em
    refine ⟨eo, ?_⟩
    unfold revD at q1
    split at q1
    · have dv2 := dv.mono (k2.tups R1)
      cases dv2 with
      | tup s1 n1 h1 => exact ⟨_, _, rfl, sqF .refl s1, fun p o hp ho => (c.after (k1.trans k2)).now' (R2.hidden hp _) (.hidden R2 hp _) (DV.newtup hp ho (h1.reverse)) q1⟩
    · exact q1.elim, cx.after k1⟩, cx⟩
theorem sortable_str (ys : List Str) : CanSort (ys.map PyData.str) := by
  refine ⟨fun d hd e he => ?_, fun p hp => ?_, .inl (.inr fun d hd => ?_)⟩
  · obtain ⟨u, _, rfl⟩ := List.mem_map.mp hd
    obtain ⟨v, _, rfl⟩ := List.mem_map.mp he
    rfl
  · obtain ⟨u, _, rfl⟩ := List.mem_map.mp hp
    exact fun z => nomatch z
  · obtain ⟨u, _, rfl⟩ := List.mem_map.mp hd
    exact ⟨fun z => (nomatch z), fun _ z => nomatch z⟩
theorem dvs_strs {K : Bd} {H : Hp} : ∀ {xs : List Str} {vs : List V}, DVs K H (xs.map D.str) vs → vs = xs.map V.str
  | [], _, h => by cases h; rfl
  | x :: xs, _, h => by
    cases h with
    | cons a b => cases a; rw [dvs_strs b]; rfl
theorem dvs_of_strs {K : Bd} {H : Hp} : ∀ xs : List Str, DVs K H (xs.map D.str) (xs.map V.str)
  | [] => .nil
  | _ :: xs => .cons .str (dvs_of_strs xs)
/-- sorted(set(t)) of a tuple of texts -/
def sortSetD : R1D := fun d M Q => ∃ xs : List Str, d = .tup (xs.map .str) ∧ xs.length ≤ 4000 ∧ ∀ ys : List Str, ys.Nodup → (∀ k, k ∈ ys ↔ k ∈ xs) → ∀ p, M p = none → Q (.ref p) (put M p (.lst (srt (ys.map .str) (ys.map PyData.str))))
theorem boot_set : bootBuiltins "set" = some (.type "set") := by decide +kernel
theorem de_sortSet {e : Expr} {te : TED} {p p2 pos pos2 : Pos} (hc : X.calm = true) (hu : X.A.units + 64 < cLine) (hg : Gl X "sorted") (hm : X.mg "sorted" = none) (hg2 : Gl X "set") (hm2 : X.mg "set" = none) (he : PE X e (lE X.B W te))
    (hs : starEach [e] X.env = (false, eval e X.env) :: starEach [] X.env := by rfl) (hs2 : starEach [Expr.Call (.Name "set" p2) [e] [] pos2] X.env = (false, eval (Expr.Call (.Name "set" p2) [e] [] pos2) X.env) :: starEach [] X.env := by rfl) :
    PE X (.Call (.Name "sorted" p) [.Call (.Name "set" p2) [e] [] pos2] [] pos) (lE X.B W (dUn sortSetD te)) :=
  PE.imp (pe_callB (cr_sortTx hc hu) hg hm boot_sorted (pa_cons (pe_callTy (cr_setTx hc) hg2 hm2 boot_set (pa_cons he pa_nil hs) (he := hs)) pa_nil hs2) (he := hs2)) fun σ H Q ⟨σd, M, Qd, E, S, R, t, c, cx⟩ => ⟨σd, M, _, E, S, R, t, fun d v M1 H1 dv R1 k1 ⟨xs, ed, hl, q1⟩ => by
    subst ed
    cases dv with
    | tup s1 n1 h1 =>
      obtain rfl := dvs_strs h1
      refine ⟨_, xs, rfl, sqF .refl s1, by have : scanBound = 4096 := rfl; omega, fun p hp => ⟨p, xs, _, rfl, upd_same, by have : scanBound = 4096 := rfl; omega, fun ys nd mem => ⟨sortable_str ys, fun l hl2 => ?_⟩⟩⟩
      have R2 := R1.hidden hp (TxO X.prog X.w p xs xs.length)
      have k2 := Keep.hidden R1 hp (TxO X.prog X.w p xs xs.length)
      exact (c.after (k1.trans k2)).now' (R2.new hl2 (.lst (srt_dvs (dvs_of_strs ys) (by simp)))) (.new R2 hl2 _ _) .ref (q1 ys nd mem l (R2.free hl2)), cx⟩
end
end Dt

set_option Elab.async false
set_option autoImplicit false
set_option linter.all false
set_option maxRecDepth 100000
set_option maxHeartbeats 4000000
/-! DPd: dict(pairs) of texts with numbers; two such dicts that are the same, compared. -/
namespace Dt
open PySem PySem.Spec PyProof.Rows L2 LamX RZ PySem.P
section
variable {X : Cx}
abbrev siD (ks : List (Str × Int)) : List (Key × D) := ks.map fun p => (.inr p.1, .int p.2)
abbrev siV (ks : List (Str × Int)) : List (Key × V) := ks.map fun p => (.inr p.1, .int p.2)
theorem si_pr {K : Bd} {H : Hp} : ∀ ks : List (Str × Int), PR K H (siD ks) (siV ks)
  | [] => .nil
  | _ :: ks => .cons .int (si_pr ks)
theorem si_of {K : Bd} {H : Hp} : ∀ {ks : List (Str × Int)} {vs : List (Key × V)}, PR K H (siD ks) vs → vs = siV ks
  | [], _, h => by cases h; rfl
  | k :: ks, _, h => by
    cases h with
    | cons a b => cases a; rw [si_of b]; rfl
theorem putK_new {kvs : List (Key × V)} {k : Key} {v : V} (h : k ∉ kvs.map (·.1)) : putK kvs k v = kvs ++ [(k, v)] := by
  unfold putK
  rw [if_neg]
  intro z
  obtain ⟨p, hp, e⟩ := List.any_eq_true.mp z
  exact h (List.mem_map.mpr ⟨p, hp, of_decide_eq_true e⟩)
theorem mergeK_nodup : ∀ (more acc : List (Key × V)), ((acc ++ more).map (·.1)).Nodup → mergeK acc more = acc ++ more
  | [], acc, _ => by rw [List.append_nil]; rfl
  | p :: more, acc, h => by
    show mergeK (putK acc p.1 p.2) more = _
    have h2 : ((acc ++ [p] ++ more).map (·.1)).Nodup := by rw [List.append_assoc]; exact h
    have hk : p.1 ∉ acc.map (·.1) := fun z => by
      rw [List.map_append, List.map_cons] at h
      exact (List.nodup_append.mp h).2.2 p.1 z p.1 (List.mem_cons_self ..) rfl
    rw [putK_new hk, mergeK_nodup more _ h2, List.append_assoc]
    rfl
theorem si_nodup {ks : List (Str × Int)} (h : (ks.map (·.1)).Nodup) : ((siV ks).map (·.1)).Nodup := by
  rw [List.map_map]
  have e : (((fun p : Key × V => p.1) ∘ fun p : Str × Int => ((.inr p.1 : Key), V.int p.2)) : Str × Int → Key) = (fun x : Str => (.inr x : Key)) ∘ fun p => p.1 := rfl
  rw [e, ← List.map_map]
  exact List.Pairwise.map _ (fun a b z => fun q => z (Sum.inr.inj q)) h
theorem si_paired {K : Bd} {H : Hp} : ∀ {ks : List (Str × Int)} {vs : List V}, DVs K H (ks.map fun p => D.tup [.str p.1, .int p.2]) vs → ∃ ps : List Addr, vs = ps.map V.ref ∧ Paired (fun p kv => SqT K H p [kV kv.1, kv.2]) ps (siV ks)
  | [], _, h => by cases h; exact ⟨[], rfl, .nil⟩
  | k :: ks, _, h => by
    cases h with
    | cons a b =>
      obtain ⟨ps, rfl, pr⟩ := si_paired b
      cases a with
      | @tup p o _ us s1 n1 h1 =>
        obtain ⟨u1, u2, rfl, d1, d2⟩ := h1.two
        cases d1; cases d2
        exact ⟨p :: ps, rfl, .cons (sqF .refl s1) pr⟩
/-- dict(pairs) -/
def pairsD : RLD := fun ds M Q => match ds with
  | [.ref a] => ∃ ks : List (Str × Int), M a = some (.lst (ks.map fun p => .tup [.str p.1, .int p.2])) ∧ (ks.map (·.1)).Nodup ∧ ∀ p, M p = none → Q (.ref p) (put M p (.dK (siD ks)))
  | _ => False
theorem c_pairs : CaD X (fun xs H Q => ∃ (a : Addr) (ps : List Addr) (kvs : List (Key × V)), xs = [.ref a] ∧ SqL X.K H a (ps.map V.ref) ∧ Paired (fun p kv => SqT X.K H p [kV kv.1, kv.2]) ps kvs ∧
    ∀ p, H p = none → Q (.ref p) (upd H p (.dK (mergeK [] kvs)))) pairsD := fun ds vs M H Qd Q dvs R h c => by
  unfold pairsD at h
  split at h
  · obtain ⟨ks, ea, nd, q⟩ := h
    obtain ⟨v, rfl, dv⟩ := dvs.one
    cases dv
    obtain ⟨ws, hu, hs⟩ := R.lst ea
    obtain ⟨ps, rfl, pr⟩ := si_paired hs
    refine ⟨_, ps, siV ks, rfl, .inl (.inl hu), pr, fun p hp => ?_⟩
    have e : mergeK [] (siV ks) = siV ks := by
      have := mergeK_nodup (siV ks) [] (by simpa using si_nodup nd)
      simpa using this
    rw [e]
    exact c _ _ _ _ .ref (R.new hp (.ofK (si_pr ks))) (.new R hp _ _) (q p (R.free hp))
  · exact h.elim
/-- d != e of two dicts that are the same -/
def neSameD : R2D := fun d e M Q => ∃ a b ks, d = .ref a ∧ e = .ref b ∧ M a = some (.dK (siD ks)) ∧ M b = some (.dK (siD ks)) ∧ (ks.map (·.1)).Nodup ∧ Q (.bl false) M
theorem valV_si : ∀ {ks : List (Str × Int)}, ((siV ks).map (·.1)).Nodup → ∀ p ∈ siV ks, valV (siV ks) p.1 = some p.2
  | [], _, p, h => nomatch h
  | k :: ks, nd, p, h => by
    rw [siV, List.map_cons, List.map_cons, List.nodup_cons] at nd
    rcases List.mem_cons.mp h with rfl | h
    · exact valV_pos rfl
    · rw [siV, List.map_cons, valV_neg]
      · exact valV_si nd.2 p h
      · intro e
        exact nd.1 (by rw [e]; exact List.mem_map.mpr ⟨p, h, rfl⟩)
theorem o_neSame : OpD X rNeDA neSameD := fun d e x y M H Qd Q dx ey R ⟨a, b, ks, hd, he, ea, eb, nd, h⟩ c => by
  subst hd he
  cases dx; cases ey
  obtain ⟨kws, hu, pr⟩ := R.dK ea
  obtain ⟨lws, hv, ps⟩ := R.dK eb
  obtain rfl := si_of pr
  obtain rfl := si_of ps
  refine ⟨a, b, _, _, rfl, rfl, hu, hv, rfl, fun p hp => ⟨valV_si (si_nodup nd) p hp, ?_⟩, c.now R .bl h⟩
  obtain ⟨q, _, rfl⟩ := List.mem_map.mp hp
  rfl
end
def isi_tuple (U : String) : Option Bool := if U = "tuple" then some true else if U = "list" then some false else if U = "str" then some false else if U = "int" then some false else if U = "bool" then some false else if U = "NoneType" then some false else none
theorem isi_tuple_ok {K : PySem.W.Frag} : ∀ U b, isi_tuple U = some b → PySem.W.kitOne K (.type U) (.type "tuple") = some b := by
  intro U b h
  unfold isi_tuple at h
  repeat' split at h
  all_goals first | (rename_i e; subst e; cases h; rfl) | (subst_vars; cases h; rfl) | (cases h)
end Dt

set_option Elab.async false
set_option autoImplicit false
set_option linter.all false
set_option maxRecDepth 100000
set_option maxHeartbeats 4000000
/-! DSX: steps of the further readings. -/
namespace Dt
open PySem PySem.Spec PyProof.Rows L2 LamX RZ PySem.P
section
variable {M : DM} {Q : DQ} {σ σ' : Std} {E : DX} {te ta tb : TED} {tr : TAD} {n b c : Std → DM → Prop} {x : Std → DX} {t u : TSD}
instance i_rev {xs : List D} : StepW (revD (.tup xs) M Q) (Q (.tup xs.reverse) M) := ⟨fun z => z⟩
instance i_heard {C : Addr} {y z : Str} : StepW (dHeard C y z te σ M Q E) (te σ M (fun d M1 => Q (.tup [.str y, d]) M1) (fun C' _ M1 => C' = C ∧ Q (.tup [.str z]) M1)) := ⟨fun h => h⟩
instance i_raise {C : Addr} : StepW (dRaise C ⟨n, Q, b, c, x⟩ σ M) (x σ C [] M) := ⟨fun z => z⟩
theorem w_pairs {a : Addr} {ks : List (Str × Int)} (e : M a = some (.lst (ks.map fun p => .tup [.str p.1, .int p.2]))) (nd : (ks.map (·.1)).Nodup) (h : ∀ p, M p = none → Q (.ref p) (put M p (.dK (siD ks)))) : pairsD [.ref a] M Q := ⟨ks, e, nd, h⟩
theorem w_neSame {p q : Addr} {ks : List (Str × Int)} (e1 : M p = some (.dK (siD ks))) (e2 : M q = some (.dK (siD ks))) (nd : (ks.map (·.1)).Nodup) (h : Q (.bl false) M) : neSameD (.ref p) (.ref q) M Q := ⟨p, q, ks, rfl, rfl, e1, e2, nd, h⟩
end
end Dt

set_option Elab.async false
set_option autoImplicit false
set_option linter.all false
set_option maxRecDepth 100000
set_option maxHeartbeats 0
namespace Dt
open PySem PySem.Spec PyProof.Rows L2 LamX
def N_check_sign : List Str := ["alphabet", "sign"]
theorem nd_check_sign : N_check_sign.Nodup := by decide
def N_are_independent : List Str := ["alphabet", "a", "b"]
theorem nd_are_independent : N_are_independent.Nodup := by decide
def N_dependent_couples : List Str := ["alphabet", "signs", "couples", "b", "at", "a", "couple"]
theorem nd_dependent_couples : N_dependent_couples.Nodup := by decide
def N_counts : List Str := ["alphabet", "row", "sign"]
theorem nd_counts : N_counts.Nodup := by decide
def N_Left___init__ : List Str := ["self", "alphabet", "row", "dependent", "a", "b", "sign", "at", "one"]
theorem nd_Left___init__ : N_Left___init__.Nodup := by decide
def N_Left_place : List Str := ["self", "sign", "at"]
theorem nd_Left_place : N_Left_place.Nodup := by decide
def N_Left_can_be_first : List Str := ["self", "sign", "here", "others", "other", "there"]
theorem nd_Left_can_be_first : N_Left_can_be_first.Nodup := by decide
def N_Left_firsts : List Str := ["self", "sign"]
theorem nd_Left_firsts : N_Left_firsts.Nodup := by decide
def N_Left_take : List Str := ["self", "sign"]
theorem nd_Left_take : N_Left_take.Nodup := by decide
def N_Left_left : List Str := ["self", "gone", "sign", "at"]
theorem nd_Left_left : N_Left_left.Nodup := by decide
def N_normal : List Str := ["alphabet", "row", "_turn", "left", "found", "sign"]
theorem nd_normal : N_normal.Nodup := by decide
def N_left_of : List Str := ["alphabet", "g", "x", "left", "sign"]
theorem nd_left_of : N_left_of.Nodup := by decide
def N_common : List Str := ["alphabet", "x", "y", "one", "other", "found", "both", "sign"]
theorem nd_common : N_common.Nodup := by decide
def N_lag : List Str := ["alphabet", "one", "other", "g"]
theorem nd_lag : N_lag.Nodup := by decide
def N_fits : List Str := ["alphabet", "told", "left", "right", "a", "b"]
theorem nd_fits : N_fits.Nodup := by decide
def N_is_row : List Str := ["alphabet", "thing", "one"]
theorem nd_is_row : N_is_row.Nodup := by decide
def N_is_lag : List Str := ["alphabet", "thing", "one"]
theorem nd_is_lag : N_is_lag.Nodup := by decide
def N_behind : List Str := ["alphabet", "told", "one", "other"]
theorem nd_behind : N_behind.Nodup := by decide
def N_turned : List Str := ["told"]
theorem nd_turned : N_turned.Nodup := by decide
def N_least_ends : List Str := ["alphabet", "told"]
theorem nd_least_ends : N_least_ends.Nodup := by decide
def N_difference : List Str := ["alphabet", "one", "other", "mine", "its", "at", "sign"]
theorem nd_difference : N_difference.Nodup := by decide
def N__law_bag : List Str := ["script", "cell"]
theorem nd__law_bag : N__law_bag.Nodup := by decide
def N__law_take : List Str := ["bag", "many", "begin", "second", "cell", "stirred", "value"]
theorem nd__law_take : N__law_take.Nodup := by decide
def N__law_some : List Str := ["bag", "things"]
theorem nd__law_some : N__law_some.Nodup := by decide
def N__law_alike : List Str := ["found", "due"]
theorem nd__law_alike : N__law_alike.Nodup := by decide
def N__law_alphabet : List Str := ["bag", "signs", "couples", "k", "a", "b"]
theorem nd__law_alphabet : N__law_alphabet.Nodup := by decide
def N__law_is_free : List Str := ["alphabet", "a", "b"]
theorem nd__law_is_free : N__law_is_free.Nodup := by decide
def N__law_cut : List Str := ["row", "signs", "a"]
theorem nd__law_cut : N__law_cut.Nodup := by decide
def N__law_by_swaps : List Str := ["alphabet", "one", "other", "signs", "k", "a", "b"]
theorem nd__law_by_swaps : N__law_by_swaps.Nodup := by decide
def N__law_firsts : List Str := ["alphabet", "row", "found", "k", "a", "b"]
theorem nd__law_firsts : N__law_firsts.Nodup := by decide
def N__law_without : List Str := ["row", "a", "k"]
theorem nd__law_without : N__law_without.Nodup := by decide
def N__law_normal : List Str := ["alphabet", "row", "found", "a"]
theorem nd__law_normal : N__law_normal.Nodup := by decide
def N__law_lag : List Str := ["alphabet", "one", "other", "found", "both", "a"]
theorem nd__law_lag : N__law_lag.Nodup := by decide
def N__law_fits : List Str := ["alphabet", "one", "other", "a", "b"]
theorem nd__law_fits : N__law_fits.Nodup := by decide
def N__law_class : List Str := ["alphabet", "row", "most", "found", "line", "here", "k", "other"]
theorem nd__law_class : N__law_class.Nodup := by decide
def N__law_row : List Str := ["bag", "signs", "most", "k"]
theorem nd__law_row : N__law_row.Nodup := by decide
def N__law_rows : List Str := ["signs", "most", "lap", "found", "line", "longer", "row", "a"]
theorem nd__law_rows : N__law_rows.Nodup := by decide
def N__law_lag_of : List Str := ["alphabet", "one", "other"]
theorem nd__law_lag_of : N__law_lag_of.Nodup := by decide
def N__law_is_normal_row : List Str := ["alphabet", "thing", "one"]
theorem nd__law_is_normal_row : N__law_is_normal_row.Nodup := by decide
def N__law_is_lag : List Str := ["alphabet", "thing"]
theorem nd__law_is_lag : N__law_is_lag.Nodup := by decide
def N__law_heard : List Str := ["act"]
theorem nd__law_heard : N__law_heard.Nodup := by decide
def N__law_couples : List Str := ["rows", "found", "row", "other"]
theorem nd__law_couples : N__law_couples.Nodup := by decide
def N_law : List Str := ["script", "bag", "lap", "signs", "alphabet", "due", "truth", "gaps", "found", "short", "couples", "ends", "things", "thing", "g", "x", "y", "o", "p", "one", "other", "k", "a", "couple", "u", "v", "pair"]
theorem nd_law : N_law.Nodup := by decide

def t_check_sign (K : Bd) : TSD := (dIfS (dOr (dNot (dB (dIsi isi_str (dVar 1)))) (dB (dOp (memD true) (dVar 1) (dOp ixD (dVar 0) (dC (.int 0)))))) dNever dNext)
def sp_check_sign (K : Bd) : SpD := fun ds M Q _ => ds.length = 2 ∧ t_check_sign K (dEnd Q noX) (startD N_check_sign ds) M
theorem go_check_sign {K : Bd} {M : DM} {Q : DQ} {a b : D} (h : t_check_sign K (dEnd Q noX) [some a, some b] M) : sp_check_sign K [a, b] M Q noX := ⟨rfl, h⟩
def t_are_independent (K : Bd) : TSD := (dSeq (dDrop (dCall (sp_check_sign K) (dCons (dVar 0) (dCons (dVar 1) dNil)))) (dSeq (dDrop (dCall (sp_check_sign K) (dCons (dVar 0) (dCons (dVar 2) dNil)))) (dRet (dOp (memD false) (dTup (dCons (dCB min2D (dCons (dVar 1) (dCons (dVar 2) dNil))) (dCons (dCB max2D (dCons (dVar 1) (dCons (dVar 2) dNil))) dNil))) (dOp ixD (dVar 0) (dC (.int 1)))))))
def sp_are_independent (K : Bd) : SpD := fun ds M Q _ => ds.length = 3 ∧ t_are_independent K (dEnd Q noX) (startD N_are_independent ds) M
theorem go_are_independent {K : Bd} {M : DM} {Q : DQ} {a b c : D} (h : t_are_independent K (dEnd Q noX) [some a, some b, some c] M) : sp_are_independent K [a, b, c] M Q noX := ⟨rfl, h⟩
def t_dependent_couples (K : Bd) : TSD := (dSeq (dAsg (dOp ixD (dVar 0) (dC (.int 0))) (gNm 1)) (dSeq (dAsg (dLc2 (diEnum (dCons (dVar 1) dNil)) (gUn 2 (gConsD (gNm 4) (gConsD (gNm 5) gNilD))) tYesD (diSeq (dSl (dVar 1) (dPart (dOp addD (dVar 4) (dC (.int 1)))) dNo)) (gNm 3) tYesD (dTup (dCons (dVar 5) (dCons (dVar 3) dNil))) [4, 5, 3] [3]) (gNm 2)) (dRet (dCB tupD (dCons (dLc (diSeq (dVar 2)) (gNm 6) (dB (dOp (memD true) (dVar 6) (dOp ixD (dVar 0) (dC (.int 1))))) (dVar 6) [6]) dNil)))))
def sp_dependent_couples (K : Bd) : SpD := fun ds M Q _ => ds.length = 1 ∧ t_dependent_couples K (dEnd Q noX) (startD N_dependent_couples ds) M
theorem go_dependent_couples {K : Bd} {M : DM} {Q : DQ} {a : D} (h : t_dependent_couples K (dEnd Q noX) [some a, none, none, none, none, none, none] M) : sp_dependent_couples K [a] M Q noX := ⟨rfl, h⟩
def t_counts (K : Bd) : TSD := (dRet (dCB tupD (dCons (dLc (diSeq (dOp ixD (dVar 0) (dC (.int 0)))) (gNm 2) tYesD (dBM isTup tcntD (dVar 1) (dCons (dVar 2) dNil)) [2]) dNil)))
def sp_counts (K : Bd) : SpD := fun ds M Q _ => ds.length = 2 ∧ t_counts K (dEnd Q noX) (startD N_counts ds) M
theorem go_counts {K : Bd} {M : DM} {Q : DQ} {a b : D} (h : t_counts K (dEnd Q noX) [some a, some b, none] M) : sp_counts K [a, b] M Q noX := ⟨rfl, h⟩
def t_Left___init__ (K : Bd) : TSD := (dSeq (dFldS K "row" (dVar 0) (dVar 2)) (dSeq (dFldS K "signs" (dVar 0) (dOp ixD (dVar 1) (dC (.int 0)))) (dSeq (dAsg (dDc (diSeq (dUn (fldD K "signs") (dVar 0))) (gNm 6) tYesD (dVar 6) (dLst (dCons (dVar 6) dNil)) [6]) (gNm 3)) (dSeq (dFor (diSeq (dCall (sp_dependent_couples K) (dCons (dVar 1) dNil))) (gUn 2 (gConsD (gNm 4) (gConsD (gNm 5) gNilD))) (dSeq (dDrop (dBM isLst appD (dOp dgetD (dVar 3) (dVar 4)) (dCons (dVar 5) dNil))) (dDrop (dBM isLst appD (dOp dgetD (dVar 3) (dVar 5)) (dCons (dVar 4) dNil))))) (dSeq (dFldS K "dependent" (dVar 0) (dVar 3)) (dSeq (dFldS K "places" (dVar 0) (dDc (diSeq (dUn (fldD K "signs") (dVar 0))) (gNm 6) tYesD (dVar 6) (dLc (diEnum (dCons (dVar 2) dNil)) (gUn 2 (gConsD (gNm 7) (gConsD (gNm 8) gNilD))) (dB (dOp eqD (dVar 8) (dVar 6))) (dVar 7) [7, 8]) [6])) (dFldS K "taken" (dVar 0) (dDc (diSeq (dUn (fldD K "signs") (dVar 0))) (gNm 6) tYesD (dVar 6) (dC (.int 0)) [6]))))))))
def sp_Left___init__ (K : Bd) : SpD := fun ds M Q _ => ds.length = 3 ∧ t_Left___init__ K (dEnd Q noX) (startD N_Left___init__ ds) M
theorem go_Left___init__ {K : Bd} {M : DM} {Q : DQ} {a b c : D} (h : t_Left___init__ K (dEnd Q noX) [some a, some b, some c, none, none, none, none, none, none] M) : sp_Left___init__ K [a, b, c] M Q noX := ⟨rfl, h⟩
def t_Left_place (K : Bd) : TSD := (dSeq (dAsg (dOp dgetD (dUn (fldD K "taken") (dVar 0)) (dVar 1)) (gNm 2)) (dRet (dIf (dB (dOp ltD (dVar 2) (dCB lenD (dCons (dOp dgetD (dUn (fldD K "places") (dVar 0)) (dVar 1)) dNil)))) (dOp ixD (dOp dgetD (dUn (fldD K "places") (dVar 0)) (dVar 1)) (dVar 2)) (dC .non))))
def sp_Left_place (K : Bd) : SpD := fun ds M Q _ => ds.length = 2 ∧ t_Left_place K (dEnd Q noX) (startD N_Left_place ds) M
theorem go_Left_place {K : Bd} {M : DM} {Q : DQ} {a b : D} (h : t_Left_place K (dEnd Q noX) [some a, some b, none] M) : sp_Left_place K [a, b] M Q noX := ⟨rfl, h⟩
def t_Left_can_be_first (K : Bd) : TSD := (dSeq (dAsg (dMeth (He.ga K.K "Left") "place" (sp_Left_place K) (dVar 0) (dCons (dVar 1) dNil)) (gNm 2)) (dSeq (dIfS (dB (dOp isN (dVar 2) (dC .non))) (dRet (dC (.bl false))) dNext) (dSeq (dAsg (dLc (diSeq (dOp dgetD (dUn (fldD K "dependent") (dVar 0)) (dVar 1))) (gNm 4) (dB (dOp neD (dVar 4) (dVar 1))) (dMeth (He.ga K.K "Left") "place" (sp_Left_place K) (dVar 0) (dCons (dVar 4) dNil)) [4]) (gNm 3)) (dRet (dCB allD (dCons (dLc (diSeq (dVar 3)) (gNm 5) tYesD (dOrV (dOp isN (dVar 5) (dC .non)) (dOp gtD (dVar 5) (dVar 2))) [5]) dNil))))))
def sp_Left_can_be_first (K : Bd) : SpD := fun ds M Q _ => ds.length = 2 ∧ t_Left_can_be_first K (dEnd Q noX) (startD N_Left_can_be_first ds) M
theorem go_Left_can_be_first {K : Bd} {M : DM} {Q : DQ} {a b : D} (h : t_Left_can_be_first K (dEnd Q noX) [some a, some b, none, none, none, none] M) : sp_Left_can_be_first K [a, b] M Q noX := ⟨rfl, h⟩
def t_Left_firsts (K : Bd) : TSD := (dRet (dLc (diSeq (dUn (fldD K "signs") (dVar 0))) (gNm 1) (dB (dMeth (He.ga K.K "Left") "can_be_first" (sp_Left_can_be_first K) (dVar 0) (dCons (dVar 1) dNil))) (dVar 1) [1]))
def sp_Left_firsts (K : Bd) : SpD := fun ds M Q _ => ds.length = 1 ∧ t_Left_firsts K (dEnd Q noX) (startD N_Left_firsts ds) M
theorem go_Left_firsts {K : Bd} {M : DM} {Q : DQ} {a : D} (h : t_Left_firsts K (dEnd Q noX) [some a, none] M) : sp_Left_firsts K [a] M Q noX := ⟨rfl, h⟩
def t_Left_take (K : Bd) : TSD := (dDAug (intOp0 fun i j => i + j) (dUn (fldD K "taken") (dVar 0)) (dVar 1) (dC (.int 1)))
def sp_Left_take (K : Bd) : SpD := fun ds M Q _ => ds.length = 2 ∧ t_Left_take K (dEnd Q noX) (startD N_Left_take ds) M
theorem go_Left_take {K : Bd} {M : DM} {Q : DQ} {a b : D} (h : t_Left_take K (dEnd Q noX) [some a, some b] M) : sp_Left_take K [a, b] M Q noX := ⟨rfl, h⟩
def t_Left_left (K : Bd) : TSD := (dSeq (dAsg (dDc2 (diSeq (dUn (fldD K "signs") (dVar 0))) (gNm 2) tYesD (diSeq (dSl (dOp dgetD (dUn (fldD K "places") (dVar 0)) (dVar 2)) dNo (dPart (dOp dgetD (dUn (fldD K "taken") (dVar 0)) (dVar 2))))) (gNm 3) tYesD (dVar 3) (dC (.bl true)) [2, 3] [3]) (gNm 1)) (dRet (dCB tupD (dCons (dLc (diEnum (dCons (dUn (fldD K "row") (dVar 0)) dNil)) (gUn 2 (gConsD (gNm 3) (gConsD (gNm 2) gNilD))) (dB (dOp (dinD true) (dVar 3) (dVar 1))) (dVar 2) [3, 2]) dNil))))
def sp_Left_left (K : Bd) : SpD := fun ds M Q _ => ds.length = 1 ∧ t_Left_left K (dEnd Q noX) (startD N_Left_left ds) M
theorem go_Left_left {K : Bd} {M : DM} {Q : DQ} {a : D} (h : t_Left_left K (dEnd Q noX) [some a, none, none, none] M) : sp_Left_left K [a] M Q noX := ⟨rfl, h⟩
def t_normal (K : Bd) : TSD := (dSeq (dPar 3 4 (dCons (dMake (He.ga K.K "Left") (sp_Left___init__ K) (dCons (dVar 0) (dCons (dVar 1) dNil))) (dCons (dLst dNil) dNil))) (dSeq (dFor (diRng1 (dCons (dCB lenD (dCons (dVar 1) dNil)) dNil)) (gNm 2) (dSeq (dAsg (dOp ixD (dMeth (He.ga K.K "Left") "firsts" (sp_Left_firsts K) (dVar 3) dNil) (dC (.int 0))) (gNm 5)) (dSeq (dDrop (dMeth (He.ga K.K "Left") "take" (sp_Left_take K) (dVar 3) (dCons (dVar 5) dNil))) (dDrop (dBM isLst appD (dVar 4) (dCons (dVar 5) dNil)))))) (dRet (dCB tupD (dCons (dVar 4) dNil)))))
def sp_normal (K : Bd) : SpD := fun ds M Q _ => ds.length = 2 ∧ t_normal K (dEnd Q noX) (startD N_normal ds) M
theorem go_normal {K : Bd} {M : DM} {Q : DQ} {a b : D} (h : t_normal K (dEnd Q noX) [some a, some b, none, none, none, none] M) : sp_normal K [a, b] M Q noX := ⟨rfl, h⟩
def t_left_of (K : Bd) : TSD := (dSeq (dAsg (dMake (He.ga K.K "Left") (sp_Left___init__ K) (dCons (dVar 0) (dCons (dVar 2) dNil))) (gNm 3)) (dSeq (dFor (diSeq (dVar 1)) (gNm 4) (dSeq (dIfS (dNot (dB (dMeth (He.ga K.K "Left") "can_be_first" (sp_Left_can_be_first K) (dVar 3) (dCons (dVar 4) dNil)))) (dRet (dC .non)) dNext) (dDrop (dMeth (He.ga K.K "Left") "take" (sp_Left_take K) (dVar 3) (dCons (dVar 4) dNil))))) (dRet (dCall (sp_normal K) (dCons (dVar 0) (dCons (dMeth (He.ga K.K "Left") "left" (sp_Left_left K) (dVar 3) dNil) dNil))))))
def sp_left_of (K : Bd) : SpD := fun ds M Q _ => ds.length = 3 ∧ t_left_of K (dEnd Q noX) (startD N_left_of ds) M
theorem go_left_of {K : Bd} {M : DM} {Q : DQ} {a b c : D} (h : t_left_of K (dEnd Q noX) [some a, some b, some c, none, none] M) : sp_left_of K [a, b, c] M Q noX := ⟨rfl, h⟩
def t_common (K : Bd) : TSD := (dSeq (dAsg (dTup (dCons (dMake (He.ga K.K "Left") (sp_Left___init__ K) (dCons (dVar 0) (dCons (dVar 1) dNil))) (dCons (dMake (He.ga K.K "Left") (sp_Left___init__ K) (dCons (dVar 0) (dCons (dVar 2) dNil))) (dCons (dLst dNil) dNil)))) (gUn 3 (gConsD (gNm 3) (gConsD (gNm 4) (gConsD (gNm 5) gNilD))))) (dWhile (dB (dC (.bl true))) (dSeq (dAsg (dLc (diSeq (dMeth (He.ga K.K "Left") "firsts" (sp_Left_firsts K) (dVar 3) dNil)) (gNm 7) (dB (dMeth (He.ga K.K "Left") "can_be_first" (sp_Left_can_be_first K) (dVar 4) (dCons (dVar 7) dNil))) (dVar 7) [7]) (gNm 6)) (dSeq (dIfS (dB (dOp eqD (dVar 6) (dLst dNil))) (dRet (dCall (sp_normal K) (dCons (dVar 0) (dCons (dCB tupD (dCons (dVar 5) dNil)) dNil)))) dNext) (dSeq (dDrop (dMeth (He.ga K.K "Left") "take" (sp_Left_take K) (dVar 3) (dCons (dOp ixD (dVar 6) (dC (.int 0))) dNil))) (dSeq (dDrop (dMeth (He.ga K.K "Left") "take" (sp_Left_take K) (dVar 4) (dCons (dOp ixD (dVar 6) (dC (.int 0))) dNil))) (dDrop (dBM isLst appD (dVar 5) (dCons (dOp ixD (dVar 6) (dC (.int 0))) dNil)))))))))
def sp_common (K : Bd) : SpD := fun ds M Q _ => ds.length = 3 ∧ t_common K (dEnd Q noX) (startD N_common ds) M
theorem go_common {K : Bd} {M : DM} {Q : DQ} {a b c : D} (h : t_common K (dEnd Q noX) [some a, some b, some c, none, none, none, none, none] M) : sp_common K [a, b, c] M Q noX := ⟨rfl, h⟩
def t_lag (K : Bd) : TSD := (dSeq (dAsg (dCall (sp_common K) (dCons (dVar 0) (dCons (dVar 1) (dCons (dVar 2) dNil)))) (gNm 3)) (dRet (dTup (dCons (dCall (sp_left_of K) (dCons (dVar 0) (dCons (dVar 3) (dCons (dVar 1) dNil)))) (dCons (dCall (sp_left_of K) (dCons (dVar 0) (dCons (dVar 3) (dCons (dVar 2) dNil)))) dNil)))))
def sp_lag (K : Bd) : SpD := fun ds M Q _ => ds.length = 3 ∧ t_lag K (dEnd Q noX) (startD N_lag ds) M
theorem go_lag {K : Bd} {M : DM} {Q : DQ} {a b c : D} (h : t_lag K (dEnd Q noX) [some a, some b, some c, none] M) : sp_lag K [a, b, c] M Q noX := ⟨rfl, h⟩
def t_fits (K : Bd) : TSD := (dSeq (dAsg (dVar 1) (gUn 2 (gConsD (gNm 2) (gConsD (gNm 3) gNilD)))) (dRet (dCB allD (dCons (dLc2 (diSeq (dUn sortSetD (dVar 2))) (gNm 4) tYesD (diSeq (dUn sortSetD (dVar 3))) (gNm 5) tYesD (dCall (sp_are_independent K) (dCons (dVar 0) (dCons (dVar 4) (dCons (dVar 5) dNil)))) [4, 5] [5]) dNil))))
def sp_fits (K : Bd) : SpD := fun ds M Q _ => ds.length = 2 ∧ t_fits K (dEnd Q noX) (startD N_fits ds) M
theorem go_fits {K : Bd} {M : DM} {Q : DQ} {a b : D} (h : t_fits K (dEnd Q noX) [some a, some b, none, none, none, none] M) : sp_fits K [a, b] M Q noX := ⟨rfl, h⟩
def t_is_row (K : Bd) : TSD := (dRet (dAndV (dIsi isi_tuple (dVar 1)) (dCB allD (dCons (dLc (diSeq (dVar 1)) (gNm 2) tYesD (dAndV (dIsi isi_str (dVar 2)) (dOp (memD false) (dVar 2) (dOp ixD (dVar 0) (dC (.int 0))))) [2]) dNil))))
def sp_is_row (K : Bd) : SpD := fun ds M Q _ => ds.length = 2 ∧ t_is_row K (dEnd Q noX) (startD N_is_row ds) M
theorem go_is_row {K : Bd} {M : DM} {Q : DQ} {a b : D} (h : t_is_row K (dEnd Q noX) [some a, some b, none] M) : sp_is_row K [a, b] M Q noX := ⟨rfl, h⟩
def t_is_lag (K : Bd) : TSD := (dSeq (dIfS (dOr (dNot (dB (dIsi isi_tuple (dVar 1)))) (dOr (dB (dOp neD (dCB lenD (dCons (dVar 1) dNil)) (dC (.int 2)))) (dNot (dB (dCB allD (dCons (dLc (diSeq (dVar 1)) (gNm 2) tYesD (dCall (sp_is_row K) (dCons (dVar 0) (dCons (dVar 2) dNil))) [2]) dNil)))))) (dRet (dC (.bl false))) dNext) (dSeq (dIfS (dNot (dB (dCB allD (dCons (dLc (diSeq (dVar 1)) (gNm 2) tYesD (dOp eqD (dCall (sp_normal K) (dCons (dVar 0) (dCons (dVar 2) dNil))) (dVar 2)) [2]) dNil)))) (dRet (dC (.bl false))) dNext) (dRet (dOp eqD (dCall (sp_common K) (dCons (dVar 0) (dCons (dOp ixD (dVar 1) (dC (.int 0))) (dCons (dOp ixD (dVar 1) (dC (.int 1))) dNil)))) (dTup dNil)))))
def sp_is_lag (K : Bd) : SpD := fun ds M Q _ => ds.length = 2 ∧ t_is_lag K (dEnd Q noX) (startD N_is_lag ds) M
theorem go_is_lag {K : Bd} {M : DM} {Q : DQ} {a b : D} (h : t_is_lag K (dEnd Q noX) [some a, some b, none] M) : sp_is_lag K [a, b] M Q noX := ⟨rfl, h⟩
def t_behind (K : Bd) : TSD := (dRet (dCall (sp_lag K) (dCons (dVar 0) (dCons (dOp addD (dOp ixD (dVar 1) (dC (.int 0))) (dVar 2)) (dCons (dOp addD (dOp ixD (dVar 1) (dC (.int 1))) (dVar 3)) dNil)))))
def sp_behind (K : Bd) : SpD := fun ds M Q _ => ds.length = 4 ∧ t_behind K (dEnd Q noX) (startD N_behind ds) M
theorem go_behind {K : Bd} {M : DM} {Q : DQ} {a b c d : D} (h : t_behind K (dEnd Q noX) [some a, some b, some c, some d] M) : sp_behind K [a, b, c, d] M Q noX := ⟨rfl, h⟩
def t_turned (K : Bd) : TSD := (dRet (dTup (dCons (dOp ixD (dVar 0) (dC (.int 1))) (dCons (dOp ixD (dVar 0) (dC (.int 0))) dNil))))
def sp_turned (K : Bd) : SpD := fun ds M Q _ => ds.length = 1 ∧ t_turned K (dEnd Q noX) (startD N_turned ds) M
theorem go_turned {K : Bd} {M : DM} {Q : DQ} {a : D} (h : t_turned K (dEnd Q noX) [some a] M) : sp_turned K [a] M Q noX := ⟨rfl, h⟩
def t_least_ends (K : Bd) : TSD := (dSeq (dIfS (dNot (dB (dCall (sp_fits K) (dCons (dVar 0) (dCons (dVar 1) dNil))))) (dRaise (He.ga K.K "Nothing")) dNext) (dRet (dTup (dCons (dOp ixD (dVar 1) (dC (.int 1))) (dCons (dOp ixD (dVar 1) (dC (.int 0))) dNil)))))
def sp_least_ends (K : Bd) : SpD := fun ds M Q E => ds.length = 2 ∧ t_least_ends K (dEnd Q E) (startD N_least_ends ds) M
theorem go_least_ends {K : Bd} {M : DM} {Q : DQ} {E : DX} {a b : D} (h : t_least_ends K (dEnd Q E) [some a, some b] M) : sp_least_ends K [a, b] M Q E := ⟨rfl, h⟩
def t_difference (K : Bd) : TSD := (dSeq (dAsg (dTup (dCons (dCall (sp_counts K) (dCons (dVar 0) (dCons (dVar 1) dNil))) (dCons (dCall (sp_counts K) (dCons (dVar 0) (dCons (dVar 2) dNil))) dNil))) (gUn 2 (gConsD (gNm 3) (gConsD (gNm 4) gNilD)))) (dRet (dCB tupD (dCons (dLc (diEnum (dCons (dOp ixD (dVar 0) (dC (.int 0))) dNil)) (gUn 2 (gConsD (gNm 5) (gConsD (gNm 6) gNilD))) (dB (dOp neD (dOp ixD (dVar 3) (dVar 5)) (dOp ixD (dVar 4) (dVar 5)))) (dTup (dCons (dVar 6) (dCons (dOp subD (dOp ixD (dVar 3) (dVar 5)) (dOp ixD (dVar 4) (dVar 5))) dNil))) [5, 6]) dNil))))
def sp_difference (K : Bd) : SpD := fun ds M Q _ => ds.length = 3 ∧ t_difference K (dEnd Q noX) (startD N_difference ds) M
theorem go_difference {K : Bd} {M : DM} {Q : DQ} {a b c : D} (h : t_difference K (dEnd Q noX) [some a, some b, some c, none, none, none, none] M) : sp_difference K [a, b, c] M Q noX := ⟨rfl, h⟩
def t__law_bag (K : Bd) : TSD := (dRet (dLst (dCons (dC (.int 0)) (dCons (dC (.int 1234567891)) (dCons (dC (.int 0)) (dCons (dLc (diSeq (dSl (dVar 0) dNo (dPart (dC (.int 63))))) (gNm 1) tYesD (dCB absD (dCons (dVar 1) dNil)) [1]) dNil))))))
def sp__law_bag (K : Bd) : SpD := fun ds M Q _ => ds.length = 1 ∧ t__law_bag K (dEnd Q noX) (startD N__law_bag ds) M
theorem go__law_bag {K : Bd} {M : DM} {Q : DQ} {a : D} (h : t__law_bag K (dEnd Q noX) [some a, none] M) : sp__law_bag K [a] M Q noX := ⟨rfl, h⟩
def t__law_take (K : Bd) : TSD := (dSeq (dIfS (dB (dOp eqD (dOp ixD (dVar 0) (dC (.int 0))) (dC (.int 0)))) (dSeq (dAsg (dOp ixD (dOp addD (dSl (dOp ixD (dVar 0) (dC (.int 3))) (dPart (dOp ixD (dVar 0) (dC (.int 2)))) dNo) (dLst (dCons (dC (.int 0)) dNil))) (dC (.int 0))) (gNm 4)) (dSeq (dIxAug (intOp0 fun i j => i + j) (dVar 0) (dC (.int 2)) (dC (.int 1))) (dSeq (dIfS (dB (dOp geD (dVar 4) (dOp powD (dC (.int 10)) (dC (.int 18))))) (dAsg (dVar 4) (gIx (dVar 0) (dC (.int 0)))) dNext) (dSeq (dAsg (dOp addD (dOp addD (dOp mulI (dOp ixD (dVar 0) (dC (.int 1))) (dC (.int 48271))) (dOp modD (dCB intD (dCons (dVar 4) dNil)) (dC (.int 2147483647)))) (dOp mulI (dC (.int 7919)) (dOp ixD (dVar 0) (dC (.int 2))))) (gNm 5)) (dAsg (dOp modD (dCB intD (dCons (dVar 5) dNil)) (dC (.int 2147483647))) (gIx (dVar 0) (dC (.int 1)))))))) dNext) (dSeq (dIfS (dB (dOp gtD (dOp ixD (dVar 0) (dC (.int 0))) (dC (.int 0)))) (dSeq (dAsg (dOp modD (dCB intD (dCons (dOp ixD (dVar 0) (dC (.int 0))) dNil)) (dVar 1)) (gNm 6)) (dSeq (dAsg (dOp fdivD (dCB intD (dCons (dOp ixD (dVar 0) (dC (.int 0))) dNil)) (dVar 1)) (gIx (dVar 0) (dC (.int 0)))) (dRet (dVar 6)))) dNext) (dSeq (dAsg (dOp modD (dCB intD (dCons (dOp mulI (dOp addD (dOp ixD (dVar 0) (dC (.int 1))) (dC (.int 1))) (dC (.int 39373))) dNil)) (dC (.int 1000000007))) (gNm 2)) (dSeq (dAsg (dOp modD (dCB intD (dCons (dOp mulI (dOp modD (dCB intD (dCons (dOp mulI (dVar 2) (dVar 2)) dNil)) (dC (.int 998244353))) (dC (.int 30011))) dNil)) (dC (.int 998244353))) (gNm 3)) (dRet (dOp modD (dCB intD (dCons (dOp fdivD (dVar 3) (dC (.int 7))) dNil)) (dVar 1)))))))
def sp__law_take (K : Bd) : SpD := fun ds M Q _ => ds.length = 2 ∧ t__law_take K (dEnd Q noX) (startD N__law_take ds) M
theorem go__law_take {K : Bd} {M : DM} {Q : DQ} {a b : D} (h : t__law_take K (dEnd Q noX) [some a, some b, none, none, none, none, none] M) : sp__law_take K [a, b] M Q noX := ⟨rfl, h⟩
def t__law_some (K : Bd) : TSD := (dRet (dOp ixD (dVar 1) (dCall (sp__law_take K) (dCons (dVar 0) (dCons (dCB lenD (dCons (dVar 1) dNil)) dNil)))))
def sp__law_some (K : Bd) : SpD := fun ds M Q _ => ds.length = 2 ∧ t__law_some K (dEnd Q noX) (startD N__law_some ds) M
theorem go__law_some {K : Bd} {M : DM} {Q : DQ} {a b : D} (h : t__law_some K (dEnd Q noX) [some a, some b] M) : sp__law_some K [a, b] M Q noX := ⟨rfl, h⟩
def t__law_alike (K : Bd) : TSD := (dRet (dAndV (dOp eqD (dCB reprD (dCons (dVar 0) dNil)) (dCB reprD (dCons (dVar 1) dNil))) (dOp eqD (dVar 0) (dVar 1))))
def sp__law_alike (K : Bd) : SpD := fun ds M Q _ => ds.length = 2 ∧ t__law_alike K (dEnd Q noX) (startD N__law_alike ds) M
theorem go__law_alike {K : Bd} {M : DM} {Q : DQ} {a b : D} (h : t__law_alike K (dEnd Q noX) [some a, some b] M) : sp__law_alike K [a, b] M Q noX := ⟨rfl, h⟩
def t__law_alphabet (K : Bd) : TSD := (dSeq (dAsg (dLst dNil) (gNm 2)) (dSeq (dFor (diEnum (dCons (dVar 1) dNil)) (gUn 2 (gConsD (gNm 3) (gConsD (gNm 4) gNilD))) (dDrop (dBM isLst extD (dVar 2) (dCons (dLc (diSeq (dSl (dVar 1) (dPart (dOp addD (dVar 3) (dC (.int 1)))) dNo)) (gNm 5) (dB (dOp ltD (dCall (sp__law_take K) (dCons (dVar 0) (dCons (dC (.int 5)) dNil))) (dC (.int 3)))) (dTup (dCons (dVar 4) (dCons (dVar 5) dNil))) [5]) dNil)))) (dRet (dTup (dCons (dCB tupD (dCons (dVar 1) dNil)) (dCons (dCB tupD (dCons (dVar 2) dNil)) dNil))))))
def sp__law_alphabet (K : Bd) : SpD := fun ds M Q _ => ds.length = 2 ∧ t__law_alphabet K (dEnd Q noX) (startD N__law_alphabet ds) M
theorem go__law_alphabet {K : Bd} {M : DM} {Q : DQ} {a b : D} (h : t__law_alphabet K (dEnd Q noX) [some a, some b, none, none, none, none] M) : sp__law_alphabet K [a, b] M Q noX := ⟨rfl, h⟩
def t__law_is_free (K : Bd) : TSD := (dRet (dOp (memD false) (dTup (dCons (dCB min2D (dCons (dVar 1) (dCons (dVar 2) dNil))) (dCons (dCB max2D (dCons (dVar 1) (dCons (dVar 2) dNil))) dNil))) (dOp ixD (dVar 0) (dC (.int 1)))))
def sp__law_is_free (K : Bd) : SpD := fun ds M Q _ => ds.length = 3 ∧ t__law_is_free K (dEnd Q noX) (startD N__law_is_free ds) M
theorem go__law_is_free {K : Bd} {M : DM} {Q : DQ} {a b c : D} (h : t__law_is_free K (dEnd Q noX) [some a, some b, some c] M) : sp__law_is_free K [a, b, c] M Q noX := ⟨rfl, h⟩
def t__law_cut (K : Bd) : TSD := (dRet (dCB tupD (dCons (dLc (diSeq (dVar 0)) (gNm 2) (dB (dOp (memD false) (dVar 2) (dVar 1))) (dVar 2) [2]) dNil)))
def sp__law_cut (K : Bd) : SpD := fun ds M Q _ => ds.length = 2 ∧ t__law_cut K (dEnd Q noX) (startD N__law_cut ds) M
theorem go__law_cut {K : Bd} {M : DM} {Q : DQ} {a b : D} (h : t__law_cut K (dEnd Q noX) [some a, some b, none] M) : sp__law_cut K [a, b] M Q noX := ⟨rfl, h⟩
def t__law_by_swaps (K : Bd) : TSD := (dSeq (dAsg (dUn sortSetD (dOp addD (dVar 1) (dVar 2))) (gNm 3)) (dSeq (dFor (diEnum (dCons (dVar 3) dNil)) (gUn 2 (gConsD (gNm 4) (gConsD (gNm 5) gNilD))) (dFor (diSeq (dSl (dVar 3) (dPart (dVar 4)) dNo)) (gNm 6) (dIfS (dAnd (dNot (dB (dCall (sp__law_is_free K) (dCons (dVar 0) (dCons (dVar 5) (dCons (dVar 6) dNil)))))) (dB (dOp neD (dCall (sp__law_cut K) (dCons (dVar 1) (dCons (dTup (dCons (dVar 5) (dCons (dVar 6) dNil))) dNil))) (dCall (sp__law_cut K) (dCons (dVar 2) (dCons (dTup (dCons (dVar 5) (dCons (dVar 6) dNil))) dNil)))))) (dRet (dC (.bl false))) dNext))) (dRet (dC (.bl true)))))
def sp__law_by_swaps (K : Bd) : SpD := fun ds M Q _ => ds.length = 3 ∧ t__law_by_swaps K (dEnd Q noX) (startD N__law_by_swaps ds) M
theorem go__law_by_swaps {K : Bd} {M : DM} {Q : DQ} {a b c : D} (h : t__law_by_swaps K (dEnd Q noX) [some a, some b, some c, none, none, none, none] M) : sp__law_by_swaps K [a, b, c] M Q noX := ⟨rfl, h⟩
def t__law_firsts (K : Bd) : TSD := (dSeq (dAsg (dLst dNil) (gNm 2)) (dSeq (dFor (diEnum (dCons (dVar 1) dNil)) (gUn 2 (gConsD (gNm 3) (gConsD (gNm 4) gNilD))) (dIfS (dAnd (dB (dOp (memD true) (dVar 4) (dVar 2))) (dB (dOp eqD (dLc (diSeq (dSl (dVar 1) dNo (dPart (dVar 3)))) (gNm 5) (dNot (dB (dCall (sp__law_is_free K) (dCons (dVar 0) (dCons (dVar 4) (dCons (dVar 5) dNil)))))) (dVar 5) [5]) (dLst dNil)))) (dDrop (dBM isLst appD (dVar 2) (dCons (dVar 4) dNil))) dNext)) (dRet (dCB sortD (dCons (dVar 2) dNil)))))
def sp__law_firsts (K : Bd) : SpD := fun ds M Q _ => ds.length = 2 ∧ t__law_firsts K (dEnd Q noX) (startD N__law_firsts ds) M
theorem go__law_firsts {K : Bd} {M : DM} {Q : DQ} {a b : D} (h : t__law_firsts K (dEnd Q noX) [some a, some b, none, none, none, none] M) : sp__law_firsts K [a, b] M Q noX := ⟨rfl, h⟩
def t__law_without (K : Bd) : TSD := (dSeq (dAsg (dBM isTup tidxD (dVar 0) (dCons (dVar 1) dNil)) (gNm 2)) (dRet (dOp addD (dSl (dVar 0) dNo (dPart (dVar 2))) (dSl (dVar 0) (dPart (dOp addD (dVar 2) (dC (.int 1)))) dNo))))
def sp__law_without (K : Bd) : SpD := fun ds M Q _ => ds.length = 2 ∧ t__law_without K (dEnd Q noX) (startD N__law_without ds) M
theorem go__law_without {K : Bd} {M : DM} {Q : DQ} {a b : D} (h : t__law_without K (dEnd Q noX) [some a, some b, none] M) : sp__law_without K [a, b] M Q noX := ⟨rfl, h⟩
def t__law_normal (K : Bd) : TSD := (dSeq (dAsg (dTup dNil) (gNm 2)) (dSeq (dWhile (dB (dOp neD (dVar 1) (dTup dNil))) (dSeq (dAsg (dOp ixD (dCall (sp__law_firsts K) (dCons (dVar 0) (dCons (dVar 1) dNil))) (dC (.int 0))) (gNm 3)) (dPar 2 1 (dCons (dOp addD (dVar 2) (dTup (dCons (dVar 3) dNil))) (dCons (dCall (sp__law_without K) (dCons (dVar 1) (dCons (dVar 3) dNil))) dNil))))) (dRet (dVar 2))))
def sp__law_normal (K : Bd) : SpD := fun ds M Q _ => ds.length = 2 ∧ t__law_normal K (dEnd Q noX) (startD N__law_normal ds) M
theorem go__law_normal {K : Bd} {M : DM} {Q : DQ} {a b : D} (h : t__law_normal K (dEnd Q noX) [some a, some b, none, none] M) : sp__law_normal K [a, b] M Q noX := ⟨rfl, h⟩
def t__law_lag (K : Bd) : TSD := (dSeq (dPar 3 4 (dCons (dTup dNil) (dCons (dLc (diSeq (dCall (sp__law_firsts K) (dCons (dVar 0) (dCons (dVar 1) dNil)))) (gNm 5) (dB (dOp (memD false) (dVar 5) (dCall (sp__law_firsts K) (dCons (dVar 0) (dCons (dVar 2) dNil))))) (dVar 5) [5]) dNil))) (dSeq (dWhile (dB (dOp neD (dVar 4) (dLst dNil))) (dSeq (dAsg (dOp addD (dVar 3) (dTup (dCons (dOp ixD (dVar 4) (dC (.int 0))) dNil))) (gNm 3)) (dSeq (dAsg (dTup (dCons (dCall (sp__law_without K) (dCons (dVar 1) (dCons (dOp ixD (dVar 4) (dC (.int 0))) dNil))) (dCons (dCall (sp__law_without K) (dCons (dVar 2) (dCons (dOp ixD (dVar 4) (dC (.int 0))) dNil))) dNil))) (gUn 2 (gConsD (gNm 1) (gConsD (gNm 2) gNilD)))) (dAsg (dLc (diSeq (dCall (sp__law_firsts K) (dCons (dVar 0) (dCons (dVar 1) dNil)))) (gNm 5) (dB (dOp (memD false) (dVar 5) (dCall (sp__law_firsts K) (dCons (dVar 0) (dCons (dVar 2) dNil))))) (dVar 5) [5]) (gNm 4))))) (dRet (dTup (dCons (dCall (sp__law_normal K) (dCons (dVar 0) (dCons (dVar 3) dNil))) (dCons (dCall (sp__law_normal K) (dCons (dVar 0) (dCons (dVar 1) dNil))) (dCons (dCall (sp__law_normal K) (dCons (dVar 0) (dCons (dVar 2) dNil))) dNil)))))))
def sp__law_lag (K : Bd) : SpD := fun ds M Q _ => ds.length = 3 ∧ t__law_lag K (dEnd Q noX) (startD N__law_lag ds) M
theorem go__law_lag {K : Bd} {M : DM} {Q : DQ} {a b c : D} (h : t__law_lag K (dEnd Q noX) [some a, some b, some c, none, none, none] M) : sp__law_lag K [a, b, c] M Q noX := ⟨rfl, h⟩
def t__law_fits (K : Bd) : TSD := (dSeq (dFor (diSeq (dVar 1)) (gNm 3) (dIfS (dB (dOp neD (dLc (diSeq (dVar 2)) (gNm 4) (dNot (dB (dCall (sp__law_is_free K) (dCons (dVar 0) (dCons (dVar 3) (dCons (dVar 4) dNil)))))) (dVar 4) [4]) (dLst dNil))) (dRet (dC (.bl false))) dNext)) (dRet (dC (.bl true))))
def sp__law_fits (K : Bd) : SpD := fun ds M Q _ => ds.length = 3 ∧ t__law_fits K (dEnd Q noX) (startD N__law_fits ds) M
theorem go__law_fits {K : Bd} {M : DM} {Q : DQ} {a b c : D} (h : t__law_fits K (dEnd Q noX) [some a, some b, some c, none, none] M) : sp__law_fits K [a, b, c] M Q noX := ⟨rfl, h⟩
def t__law_class (K : Bd) : TSD := (dSeq (dPar 3 4 (dCons (dOneT (dVar 1) (dC (.bl true))) (dCons (dLst (dCons (dVar 1) dNil)) dNil))) (dSeq (dWhile (dB (dOp neD (dVar 4) (dLst dNil))) (dSeq (dAsg (dBM0 isLst popD (dVar 4)) (gNm 5)) (dFor (diRng1 (dCons (dOp subD (dCB lenD (dCons (dVar 5) dNil)) (dC (.int 1))) dNil)) (gNm 6) (dIfS (dB (dCall (sp__law_is_free K) (dCons (dVar 0) (dCons (dOp ixD (dVar 5) (dVar 6)) (dCons (dOp ixD (dVar 5) (dOp addD (dVar 6) (dC (.int 1)))) dNil))))) (dSeq (dAsg (dOp addD (dOp addD (dSl (dVar 5) dNo (dPart (dVar 6))) (dTup (dCons (dOp ixD (dVar 5) (dOp addD (dVar 6) (dC (.int 1)))) (dCons (dOp ixD (dVar 5) (dVar 6)) dNil)))) (dSl (dVar 5) (dPart (dOp addD (dVar 6) (dC (.int 2)))) dNo)) (gNm 7)) (dIfS (dB (dOp (dinD true) (dVar 7) (dVar 3))) (dSeq (dIfS (dB (dOp geD (dCB lenD (dCons (dVar 3) dNil)) (dVar 2))) (dRet (dC (.str "many"))) dNext) (dSeq (dDPut (dVar 3) (dVar 7) (dC (.bl true))) (dDrop (dBM isLst appD (dVar 4) (dCons (dVar 7) dNil))))) dNext)) dNext)))) (dRet (dCB sortD (dCons (dVar 3) dNil)))))
def sp__law_class (K : Bd) : SpD := fun ds M Q _ => ds.length = 3 ∧ t__law_class K (dEnd Q noX) (startD N__law_class ds) M
theorem go__law_class {K : Bd} {M : DM} {Q : DQ} {a b c : D} (h : t__law_class K (dEnd Q noX) [some a, some b, some c, none, none, none, none, none] M) : sp__law_class K [a, b, c] M Q noX := ⟨rfl, h⟩
def t__law_row (K : Bd) : TSD := (dRet (dCB tupD (dCons (dLc (diRng1 (dCons (dCall (sp__law_take K) (dCons (dVar 0) (dCons (dOp addD (dVar 2) (dC (.int 1))) dNil))) dNil)) (gNm 3) tYesD (dCall (sp__law_some K) (dCons (dVar 0) (dCons (dVar 1) dNil))) [3]) dNil)))
def sp__law_row (K : Bd) : SpD := fun ds M Q _ => ds.length = 3 ∧ t__law_row K (dEnd Q noX) (startD N__law_row ds) M
theorem go__law_row {K : Bd} {M : DM} {Q : DQ} {a b c : D} (h : t__law_row K (dEnd Q noX) [some a, some b, some c, none] M) : sp__law_row K [a, b, c] M Q noX := ⟨rfl, h⟩
def t__law_rows (K : Bd) : TSD := (dSeq (dPar 3 4 (dCons (dLst (dCons (dTup dNil) dNil)) (dCons (dLst (dCons (dTup dNil) dNil)) dNil))) (dSeq (dFor (diRng1 (dCons (dVar 1) dNil)) (gNm 2) (dSeq (dAsg (dLst dNil) (gNm 5)) (dSeq (dFor (diSeq (dVar 4)) (gNm 6) (dDrop (dBM isLst extD (dVar 5) (dCons (dLc (diSeq (dVar 0)) (gNm 7) tYesD (dOp addD (dVar 6) (dTup (dCons (dVar 7) dNil))) [7]) dNil)))) (dPar 3 4 (dCons (dOp addD (dVar 3) (dVar 5)) (dCons (dVar 5) dNil)))))) (dRet (dVar 3))))
def sp__law_rows (K : Bd) : SpD := fun ds M Q _ => ds.length = 2 ∧ t__law_rows K (dEnd Q noX) (startD N__law_rows ds) M
theorem go__law_rows {K : Bd} {M : DM} {Q : DQ} {a b : D} (h : t__law_rows K (dEnd Q noX) [some a, some b, none, none, none, none, none, none] M) : sp__law_rows K [a, b] M Q noX := ⟨rfl, h⟩
def t__law_lag_of (K : Bd) : TSD := (dRet (dSl (dCall (sp__law_lag K) (dCons (dVar 0) (dCons (dVar 1) (dCons (dVar 2) dNil)))) (dPart (dC (.int 1))) dNo))
def sp__law_lag_of (K : Bd) : SpD := fun ds M Q _ => ds.length = 3 ∧ t__law_lag_of K (dEnd Q noX) (startD N__law_lag_of ds) M
theorem go__law_lag_of {K : Bd} {M : DM} {Q : DQ} {a b c : D} (h : t__law_lag_of K (dEnd Q noX) [some a, some b, some c] M) : sp__law_lag_of K [a, b, c] M Q noX := ⟨rfl, h⟩
def t__law_is_normal_row (K : Bd) : TSD := (dSeq (dIfS (dOr (dNot (dB (dIsi isi_tuple (dVar 1)))) (dB (dOp neD (dLc (diSeq (dVar 1)) (gNm 2) (dOr (dNot (dB (dIsi isi_str (dVar 2)))) (dB (dOp (memD true) (dVar 2) (dOp ixD (dVar 0) (dC (.int 0)))))) (dVar 2) [2]) (dLst dNil)))) (dRet (dC (.bl false))) dNext) (dRet (dOp eqD (dCall (sp__law_normal K) (dCons (dVar 0) (dCons (dVar 1) dNil))) (dVar 1))))
def sp__law_is_normal_row (K : Bd) : SpD := fun ds M Q _ => ds.length = 2 ∧ t__law_is_normal_row K (dEnd Q noX) (startD N__law_is_normal_row ds) M
theorem go__law_is_normal_row {K : Bd} {M : DM} {Q : DQ} {a b : D} (h : t__law_is_normal_row K (dEnd Q noX) [some a, some b, none] M) : sp__law_is_normal_row K [a, b] M Q noX := ⟨rfl, h⟩
def t__law_is_lag (K : Bd) : TSD := (dSeq (dIfS (dOr (dNot (dB (dIsi isi_tuple (dVar 1)))) (dOr (dB (dOp neD (dCB lenD (dCons (dVar 1) dNil)) (dC (.int 2)))) (dOr (dNot (dB (dCall (sp__law_is_normal_row K) (dCons (dVar 0) (dCons (dOp ixD (dVar 1) (dC (.int 0))) dNil))))) (dNot (dB (dCall (sp__law_is_normal_row K) (dCons (dVar 0) (dCons (dOp ixD (dVar 1) (dC (.int 1))) dNil)))))))) (dRet (dC (.bl false))) dNext) (dRet (dOp eqD (dOp ixD (dCall (sp__law_lag K) (dCons (dVar 0) (dCons (dOp ixD (dVar 1) (dC (.int 0))) (dCons (dOp ixD (dVar 1) (dC (.int 1))) dNil)))) (dC (.int 0))) (dTup dNil))))
def sp__law_is_lag (K : Bd) : SpD := fun ds M Q _ => ds.length = 2 ∧ t__law_is_lag K (dEnd Q noX) (startD N__law_is_lag ds) M
theorem go__law_is_lag {K : Bd} {M : DM} {Q : DQ} {a b : D} (h : t__law_is_lag K (dEnd Q noX) [some a, some b] M) : sp__law_is_lag K [a, b] M Q noX := ⟨rfl, h⟩
def t__law_couples (K : Bd) : TSD := (dSeq (dAsg (dLst dNil) (gNm 1)) (dSeq (dFor (diSeq (dVar 0)) (gNm 2) (dDrop (dBM isLst extD (dVar 1) (dCons (dLc (diSeq (dVar 0)) (gNm 3) tYesD (dTup (dCons (dVar 2) (dCons (dVar 3) dNil))) [3]) dNil)))) (dRet (dVar 1))))
def sp__law_couples (K : Bd) : SpD := fun ds M Q _ => ds.length = 1 ∧ t__law_couples K (dEnd Q noX) (startD N__law_couples ds) M
theorem go__law_couples {K : Bd} {M : DM} {Q : DQ} {a : D} (h : t__law_couples K (dEnd Q noX) [some a, none, none, none] M) : sp__law_couples K [a] M Q noX := ⟨rfl, h⟩
def t_law_p1 (K : Bd) : TSD := (dRet (dC (.bl true)))
instance i_t_law_p1 {K : Bd} {De : DEnds} {σ : Std} {M : DM} : StepP (t_law_p1 K De σ M) ((dRet (dC (.bl true))) De σ M) := ⟨fun z => z⟩
def t_law_l2 (K : Bd) : TSD := (dFor (diSeq (dVar 12)) (gNm 13) (dIfS (dNot (dB (dCall (sp__law_alike K) (dCons (dCall (sp_is_lag K) (dCons (dVar 4) (dCons (dVar 13) dNil))) (dCons (dCall (sp__law_is_lag K) (dCons (dVar 4) (dCons (dVar 13) dNil))) dNil))))) (dRet (dC (.bl false))) dNext))
def t_law_p3 (K : Bd) : TSD := (t_law_l2 K)
instance i_t_law_p3 {K : Bd} {De : DEnds} {σ : Std} {M : DM} : StepP (t_law_p3 K De σ M) ((t_law_l2 K) De σ M) := ⟨fun z => z⟩
def t_law_p4 (K : Bd) : TSD := (dSeq (dAsg (dLst (dCons (dVar 5) (dCons (dTup (dCons (dVar 15) (dCons (dVar 16) dNil))) (dCons (dTup (dCons (dVar 19) (dCons (dVar 19) dNil))) (dCons (dTup (dCons (dOp ixD (dVar 5) (dC (.int 0))) (dCons (dOp ixD (dVar 5) (dC (.int 0))) dNil))) (dCons (dTup (dCons (dTup dNil) (dCons (dTup dNil) dNil))) (dCons (dCB lstD (dCons (dVar 5) dNil)) (dCons (dC .non) (dCons (dSl (dVar 5) dNo (dPart (dC (.int 1)))) (dCons (dTup (dCons (dOp ixD (dVar 5) (dC (.int 0))) (dCons (dCB lstD (dCons (dOp ixD (dVar 5) (dC (.int 1))) dNil)) dNil))) (dCons (dTup (dCons (dTup (dCons (dC (.str "zz")) dNil)) (dCons (dTup dNil) dNil))) (dCons (dTup (dCons (dTup (dCons (dC (.int 0)) dNil)) (dCons (dTup dNil) dNil))) (dCons (dTup (dCons (dUn revD (dOp ixD (dVar 5) (dC (.int 0)))) (dCons (dOp ixD (dVar 5) (dC (.int 1))) dNil))) (dCons (dTup (dCons (dC .non) (dCons (dTup dNil) dNil))) dNil)))))))))))))) (gNm 12)) (t_law_p3 K))
instance i_t_law_p4 {K : Bd} {De : DEnds} {σ : Std} {M : DM} : StepP (t_law_p4 K De σ M) ((dSeq (dAsg (dLst (dCons (dVar 5) (dCons (dTup (dCons (dVar 15) (dCons (dVar 16) dNil))) (dCons (dTup (dCons (dVar 19) (dCons (dVar 19) dNil))) (dCons (dTup (dCons (dOp ixD (dVar 5) (dC (.int 0))) (dCons (dOp ixD (dVar 5) (dC (.int 0))) dNil))) (dCons (dTup (dCons (dTup dNil) (dCons (dTup dNil) dNil))) (dCons (dCB lstD (dCons (dVar 5) dNil)) (dCons (dC .non) (dCons (dSl (dVar 5) dNo (dPart (dC (.int 1)))) (dCons (dTup (dCons (dOp ixD (dVar 5) (dC (.int 0))) (dCons (dCB lstD (dCons (dOp ixD (dVar 5) (dC (.int 1))) dNil)) dNil))) (dCons (dTup (dCons (dTup (dCons (dC (.str "zz")) dNil)) (dCons (dTup dNil) dNil))) (dCons (dTup (dCons (dTup (dCons (dC (.int 0)) dNil)) (dCons (dTup dNil) dNil))) (dCons (dTup (dCons (dUn revD (dOp ixD (dVar 5) (dC (.int 0)))) (dCons (dOp ixD (dVar 5) (dC (.int 1))) dNil))) (dCons (dTup (dCons (dC .non) (dCons (dTup dNil) dNil))) dNil)))))))))))))) (gNm 12)) (t_law_p3 K)) De σ M) := ⟨fun z => z⟩
def t_law_p5 (K : Bd) : TSD := (dIfS (dAnd (dB (dCall (sp__law_by_swaps K) (dCons (dVar 4) (dCons (dOp addD (dOp addD (dVar 24) (dOp ixD (dVar 5) (dC (.int 1)))) (dVar 17)) (dCons (dOp addD (dOp addD (dVar 25) (dOp ixD (dVar 5) (dC (.int 0)))) (dVar 17)) dNil))))) (dB (dOp neD (dCall (sp_lag K) (dCons (dVar 4) (dCons (dVar 24) (dCons (dVar 25) dNil)))) (dVar 5)))) (dRet (dC (.bl false))) dNext)
instance i_t_law_p5 {K : Bd} {De : DEnds} {σ : Std} {M : DM} : StepP (t_law_p5 K De σ M) ((dIfS (dAnd (dB (dCall (sp__law_by_swaps K) (dCons (dVar 4) (dCons (dOp addD (dOp addD (dVar 24) (dOp ixD (dVar 5) (dC (.int 1)))) (dVar 17)) (dCons (dOp addD (dOp addD (dVar 25) (dOp ixD (dVar 5) (dC (.int 0)))) (dVar 17)) dNil))))) (dB (dOp neD (dCall (sp_lag K) (dCons (dVar 4) (dCons (dVar 24) (dCons (dVar 25) dNil)))) (dVar 5)))) (dRet (dC (.bl false))) dNext) De σ M) := ⟨fun z => z⟩
def t_law_p6 (K : Bd) : TSD := (dSeq (dPar 24 25 (dCons (dCall (sp__law_row K) (dCons (dVar 1) (dCons (dVar 3) (dCons (dC (.int 3)) dNil)))) (dCons (dCall (sp__law_row K) (dCons (dVar 1) (dCons (dVar 3) (dCons (dC (.int 3)) dNil)))) dNil))) (t_law_p5 K))
instance i_t_law_p6 {K : Bd} {De : DEnds} {σ : Std} {M : DM} : StepP (t_law_p6 K De σ M) ((dSeq (dPar 24 25 (dCons (dCall (sp__law_row K) (dCons (dVar 1) (dCons (dVar 3) (dCons (dC (.int 3)) dNil)))) (dCons (dCall (sp__law_row K) (dCons (dVar 1) (dCons (dVar 3) (dCons (dC (.int 3)) dNil)))) dNil))) (t_law_p5 K)) De σ M) := ⟨fun z => z⟩
def t_law_p7 (K : Bd) : TSD := (dSeq (dIfS (dOr (dB (dOp neD (dLc (diSeq (dOp ixD (dVar 5) (dC (.int 0)))) (gNm 22) (dB (dOp (memD false) (dVar 22) (dOp ixD (dVar 5) (dC (.int 1))))) (dVar 22) [22]) (dLst dNil))) (dB (dOp neSameD (dCB pairsD (dCons (dLc (diSeq (dVar 3)) (gNm 22) tYesD (dTup (dCons (dVar 22) (dCons (dOp subD (dBM isTup tcntD (dOp ixD (dVar 5) (dC (.int 0))) (dCons (dVar 22) dNil)) (dBM isTup tcntD (dOp ixD (dVar 5) (dC (.int 1))) (dCons (dVar 22) dNil))) dNil))) [22]) dNil)) (dCB pairsD (dCons (dVar 7) dNil))))) (dRet (dC (.bl false))) dNext) (t_law_p6 K))
instance i_t_law_p7 {K : Bd} {De : DEnds} {σ : Std} {M : DM} : StepP (t_law_p7 K De σ M) ((dSeq (dIfS (dOr (dB (dOp neD (dLc (diSeq (dOp ixD (dVar 5) (dC (.int 0)))) (gNm 22) (dB (dOp (memD false) (dVar 22) (dOp ixD (dVar 5) (dC (.int 1))))) (dVar 22) [22]) (dLst dNil))) (dB (dOp neSameD (dCB pairsD (dCons (dLc (diSeq (dVar 3)) (gNm 22) tYesD (dTup (dCons (dVar 22) (dCons (dOp subD (dBM isTup tcntD (dOp ixD (dVar 5) (dC (.int 0))) (dCons (dVar 22) dNil)) (dBM isTup tcntD (dOp ixD (dVar 5) (dC (.int 1))) (dCons (dVar 22) dNil))) dNil))) [22]) dNil)) (dCB pairsD (dCons (dVar 7) dNil))))) (dRet (dC (.bl false))) dNext) (t_law_p6 K)) De σ M) := ⟨fun z => z⟩
def t_law_p8 (K : Bd) : TSD := (dSeq (dIfS (dOr (dNot (dB (dCall (sp__law_alike K) (dCons (dCallX (sp_least_ends K) (dCons (dVar 4) (dCons (dVar 5) dNil))) (dCons (dUn revD (dVar 5)) dNil))))) (dNot (dB (dCall (sp__law_by_swaps K) (dCons (dVar 4) (dCons (dOp addD (dVar 19) (dOp ixD (dVar 5) (dC (.int 1)))) (dCons (dOp addD (dVar 20) (dOp ixD (dVar 5) (dC (.int 0)))) dNil))))))) (dRet (dC (.bl false))) dNext) (t_law_p7 K))
instance i_t_law_p8 {K : Bd} {De : DEnds} {σ : Std} {M : DM} : StepP (t_law_p8 K De σ M) ((dSeq (dIfS (dOr (dNot (dB (dCall (sp__law_alike K) (dCons (dCallX (sp_least_ends K) (dCons (dVar 4) (dCons (dVar 5) dNil))) (dCons (dUn revD (dVar 5)) dNil))))) (dNot (dB (dCall (sp__law_by_swaps K) (dCons (dVar 4) (dCons (dOp addD (dVar 19) (dOp ixD (dVar 5) (dC (.int 1)))) (dCons (dOp addD (dVar 20) (dOp ixD (dVar 5) (dC (.int 0)))) dNil))))))) (dRet (dC (.bl false))) dNext) (t_law_p7 K)) De σ M) := ⟨fun z => z⟩
def t_law_p9 (K : Bd) : TSD := (dSeq (dIfS (dB (dVar 6)) (t_law_p8 K) (dIfS (dB (dOp neD (dHeard (He.ga K.K "Nothing") "told" "nothing" (dCallX (sp_least_ends K) (dCons (dVar 4) (dCons (dVar 5) dNil)))) (dTup (dCons (dC (.str "nothing")) dNil)))) (dRet (dC (.bl false))) dNext)) (t_law_p4 K))
instance i_t_law_p9 {K : Bd} {De : DEnds} {σ : Std} {M : DM} : StepP (t_law_p9 K De σ M) ((dSeq (dIfS (dB (dVar 6)) (t_law_p8 K) (dIfS (dB (dOp neD (dHeard (He.ga K.K "Nothing") "told" "nothing" (dCallX (sp_least_ends K) (dCons (dVar 4) (dCons (dVar 5) dNil)))) (dTup (dCons (dC (.str "nothing")) dNil)))) (dRet (dC (.bl false))) dNext)) (t_law_p4 K)) De σ M) := ⟨fun z => z⟩
def t_law_p10 (K : Bd) : TSD := (dSeq (dIfS (dOr (dAnd (dB (dOp neD (dVar 11) (dLst dNil))) (dNot (dB (dVar 6)))) (dB (dOp neD (dLc (diSeq (dVar 11)) (gNm 23) (dB (dOp neD (dCall (sp_behind K) (dCons (dVar 4) (dCons (dVar 5) (dCons (dOp ixD (dVar 23) (dC (.int 0))) (dCons (dOp ixD (dVar 23) (dC (.int 1))) dNil))))) (dTup (dCons (dTup dNil) (dCons (dTup dNil) dNil))))) (dVar 23) [23]) (dLst dNil)))) (dRet (dC (.bl false))) dNext) (t_law_p9 K))
instance i_t_law_p10 {K : Bd} {De : DEnds} {σ : Std} {M : DM} : StepP (t_law_p10 K De σ M) ((dSeq (dIfS (dOr (dAnd (dB (dOp neD (dVar 11) (dLst dNil))) (dNot (dB (dVar 6)))) (dB (dOp neD (dLc (diSeq (dVar 11)) (gNm 23) (dB (dOp neD (dCall (sp_behind K) (dCons (dVar 4) (dCons (dVar 5) (dCons (dOp ixD (dVar 23) (dC (.int 0))) (dCons (dOp ixD (dVar 23) (dC (.int 1))) dNil))))) (dTup (dCons (dTup dNil) (dCons (dTup dNil) dNil))))) (dVar 23) [23]) (dLst dNil)))) (dRet (dC (.bl false))) dNext) (t_law_p9 K)) De σ M) := ⟨fun z => z⟩
def t_law_p11 (K : Bd) : TSD := (dSeq (dAsg (dLc (diSeq (dVar 10)) (gNm 23) (dB (dCall (sp__law_by_swaps K) (dCons (dVar 4) (dCons (dOp addD (dVar 19) (dOp ixD (dVar 23) (dC (.int 0)))) (dCons (dOp addD (dVar 20) (dOp ixD (dVar 23) (dC (.int 1)))) dNil))))) (dVar 23) [23]) (gNm 11)) (t_law_p10 K))
instance i_t_law_p11 {K : Bd} {De : DEnds} {σ : Std} {M : DM} : StepP (t_law_p11 K De σ M) ((dSeq (dAsg (dLc (diSeq (dVar 10)) (gNm 23) (dB (dCall (sp__law_by_swaps K) (dCons (dVar 4) (dCons (dOp addD (dVar 19) (dOp ixD (dVar 23) (dC (.int 0)))) (dCons (dOp addD (dVar 20) (dOp ixD (dVar 23) (dC (.int 1)))) dNil))))) (dVar 23) [23]) (gNm 11)) (t_law_p10 K)) De σ M) := ⟨fun z => z⟩
def t_law_p12 (K : Bd) : TSD := (dSeq (dAsg (dCall (sp__law_couples K) (dCons (dSl (dVar 9) dNo (dPart (dC (.int 20)))) dNil)) (gNm 10)) (t_law_p11 K))
instance i_t_law_p12 {K : Bd} {De : DEnds} {σ : Std} {M : DM} : StepP (t_law_p12 K De σ M) ((dSeq (dAsg (dCall (sp__law_couples K) (dCons (dSl (dVar 9) dNo (dPart (dC (.int 20)))) dNil)) (gNm 10)) (t_law_p11 K)) De σ M) := ⟨fun z => z⟩
def t_law_p13 (K : Bd) : TSD := (dSeq (dAsg (dCall (sp__law_rows K) (dCons (dVar 3) (dCons (dC (.int 3)) dNil))) (gNm 9)) (t_law_p12 K))
instance i_t_law_p13 {K : Bd} {De : DEnds} {σ : Std} {M : DM} : StepP (t_law_p13 K De σ M) ((dSeq (dAsg (dCall (sp__law_rows K) (dCons (dVar 3) (dCons (dC (.int 3)) dNil))) (gNm 9)) (t_law_p12 K)) De σ M) := ⟨fun z => z⟩
def t_law_p14 (K : Bd) : TSD := (dSeq (dIfS (dNot (dB (dCall (sp__law_alike K) (dCons (dVar 8) (dCons (dLst (dCons (dVar 5) (dCons (dVar 6) (dCons (dUn revD (dVar 5)) (dCons (dCB tupD (dCons (dLc (diSeq (dVar 7)) (gNm 26) (dB (dOp neD (dOp ixD (dVar 26) (dC (.int 1))) (dC (.int 0)))) (dVar 26) [26]) dNil)) (dCons (dCall (sp__law_lag_of K) (dCons (dVar 4) (dCons (dOp addD (dVar 19) (dVar 17)) (dCons (dOp addD (dVar 20) (dVar 18)) dNil)))) dNil)))))) dNil))))) (dRet (dC (.bl false))) dNext) (t_law_p13 K))
instance i_t_law_p14 {K : Bd} {De : DEnds} {σ : Std} {M : DM} : StepP (t_law_p14 K De σ M) ((dSeq (dIfS (dNot (dB (dCall (sp__law_alike K) (dCons (dVar 8) (dCons (dLst (dCons (dVar 5) (dCons (dVar 6) (dCons (dUn revD (dVar 5)) (dCons (dCB tupD (dCons (dLc (diSeq (dVar 7)) (gNm 26) (dB (dOp neD (dOp ixD (dVar 26) (dC (.int 1))) (dC (.int 0)))) (dVar 26) [26]) dNil)) (dCons (dCall (sp__law_lag_of K) (dCons (dVar 4) (dCons (dOp addD (dVar 19) (dVar 17)) (dCons (dOp addD (dVar 20) (dVar 18)) dNil)))) dNil)))))) dNil))))) (dRet (dC (.bl false))) dNext) (t_law_p13 K)) De σ M) := ⟨fun z => z⟩
def t_law_p15 (K : Bd) : TSD := (dSeq (dAsg (dLst (dCons (dCall (sp_lag K) (dCons (dVar 4) (dCons (dVar 19) (dCons (dVar 20) dNil)))) (dCons (dCall (sp_fits K) (dCons (dVar 4) (dCons (dVar 5) dNil))) (dCons (dCall (sp_turned K) (dCons (dVar 5) dNil)) (dCons (dCall (sp_difference K) (dCons (dVar 4) (dCons (dVar 19) (dCons (dVar 20) dNil)))) (dCons (dCall (sp_behind K) (dCons (dVar 4) (dCons (dVar 5) (dCons (dVar 17) (dCons (dVar 18) dNil))))) dNil)))))) (gNm 8)) (t_law_p14 K))
instance i_t_law_p15 {K : Bd} {De : DEnds} {σ : Std} {M : DM} : StepP (t_law_p15 K De σ M) ((dSeq (dAsg (dLst (dCons (dCall (sp_lag K) (dCons (dVar 4) (dCons (dVar 19) (dCons (dVar 20) dNil)))) (dCons (dCall (sp_fits K) (dCons (dVar 4) (dCons (dVar 5) dNil))) (dCons (dCall (sp_turned K) (dCons (dVar 5) dNil)) (dCons (dCall (sp_difference K) (dCons (dVar 4) (dCons (dVar 19) (dCons (dVar 20) dNil)))) (dCons (dCall (sp_behind K) (dCons (dVar 4) (dCons (dVar 5) (dCons (dVar 17) (dCons (dVar 18) dNil))))) dNil)))))) (gNm 8)) (t_law_p14 K)) De σ M) := ⟨fun z => z⟩
def t_law_p16 (K : Bd) : TSD := (dSeq (dAsg (dLc (diSeq (dVar 3)) (gNm 22) tYesD (dTup (dCons (dVar 22) (dCons (dOp subD (dBM isTup tcntD (dVar 19) (dCons (dVar 22) dNil)) (dBM isTup tcntD (dVar 20) (dCons (dVar 22) dNil))) dNil))) [22]) (gNm 7)) (t_law_p15 K))
instance i_t_law_p16 {K : Bd} {De : DEnds} {σ : Std} {M : DM} : StepP (t_law_p16 K De σ M) ((dSeq (dAsg (dLc (diSeq (dVar 3)) (gNm 22) tYesD (dTup (dCons (dVar 22) (dCons (dOp subD (dBM isTup tcntD (dVar 19) (dCons (dVar 22) dNil)) (dBM isTup tcntD (dVar 20) (dCons (dVar 22) dNil))) dNil))) [22]) (gNm 7)) (t_law_p15 K)) De σ M) := ⟨fun z => z⟩
def t_law_p17 (K : Bd) : TSD := (dSeq (dAsg (dCall (sp__law_fits K) (dCons (dVar 4) (dCons (dOp ixD (dVar 5) (dC (.int 0))) (dCons (dOp ixD (dVar 5) (dC (.int 1))) dNil)))) (gNm 6)) (t_law_p16 K))
instance i_t_law_p17 {K : Bd} {De : DEnds} {σ : Std} {M : DM} : StepP (t_law_p17 K De σ M) ((dSeq (dAsg (dCall (sp__law_fits K) (dCons (dVar 4) (dCons (dOp ixD (dVar 5) (dC (.int 0))) (dCons (dOp ixD (dVar 5) (dC (.int 1))) dNil)))) (gNm 6)) (t_law_p16 K)) De σ M) := ⟨fun z => z⟩
def t_law_p18 (K : Bd) : TSD := (dSeq (dAsg (dCall (sp__law_lag_of K) (dCons (dVar 4) (dCons (dVar 19) (dCons (dVar 20) dNil)))) (gNm 5)) (t_law_p17 K))
instance i_t_law_p18 {K : Bd} {De : DEnds} {σ : Std} {M : DM} : StepP (t_law_p18 K De σ M) ((dSeq (dAsg (dCall (sp__law_lag_of K) (dCons (dVar 4) (dCons (dVar 19) (dCons (dVar 20) dNil)))) (gNm 5)) (t_law_p17 K)) De σ M) := ⟨fun z => z⟩
def t_law_p19 (K : Bd) : TSD := (dSeq (dAsg (dTup (dCons (dOp addD (dVar 14) (dVar 15)) (dCons (dOp addD (dCall (sp__law_some K) (dCons (dVar 1) (dCons (dCall (sp__law_class K) (dCons (dVar 4) (dCons (dVar 14) (dCons (dC (.int 500)) dNil)))) dNil))) (dVar 16)) dNil))) (gUn 2 (gConsD (gNm 19) (gConsD (gNm 20) gNilD)))) (t_law_p18 K))
instance i_t_law_p19 {K : Bd} {De : DEnds} {σ : Std} {M : DM} : StepP (t_law_p19 K De σ M) ((dSeq (dAsg (dTup (dCons (dOp addD (dVar 14) (dVar 15)) (dCons (dOp addD (dCall (sp__law_some K) (dCons (dVar 1) (dCons (dCall (sp__law_class K) (dCons (dVar 4) (dCons (dVar 14) (dCons (dC (.int 500)) dNil)))) dNil))) (dVar 16)) dNil))) (gUn 2 (gConsD (gNm 19) (gConsD (gNm 20) gNilD)))) (t_law_p18 K)) De σ M) := ⟨fun z => z⟩
def t_law_p20 (K : Bd) : TSD := (dSeq (dAsg (dLc (diRng1 (dCons (dC (.int 5)) dNil)) (gNm 21) tYesD (dCall (sp__law_row K) (dCons (dVar 1) (dCons (dVar 3) (dCons (dC (.int 3)) dNil)))) [21]) (gUn 5 (gConsD (gNm 14) (gConsD (gNm 15) (gConsD (gNm 16) (gConsD (gNm 17) (gConsD (gNm 18) gNilD))))))) (t_law_p19 K))
instance i_t_law_p20 {K : Bd} {De : DEnds} {σ : Std} {M : DM} : StepP (t_law_p20 K De σ M) ((dSeq (dAsg (dLc (diRng1 (dCons (dC (.int 5)) dNil)) (gNm 21) tYesD (dCall (sp__law_row K) (dCons (dVar 1) (dCons (dVar 3) (dCons (dC (.int 3)) dNil)))) [21]) (gUn 5 (gConsD (gNm 14) (gConsD (gNm 15) (gConsD (gNm 16) (gConsD (gNm 17) (gConsD (gNm 18) gNilD))))))) (t_law_p19 K)) De σ M) := ⟨fun z => z⟩
def t_law_p21 (K : Bd) : TSD := (dSeq (dAsg (dCall (sp__law_alphabet K) (dCons (dVar 1) (dCons (dVar 3) dNil))) (gNm 4)) (t_law_p20 K))
instance i_t_law_p21 {K : Bd} {De : DEnds} {σ : Std} {M : DM} : StepP (t_law_p21 K De σ M) ((dSeq (dAsg (dCall (sp__law_alphabet K) (dCons (dVar 1) (dCons (dVar 3) dNil))) (gNm 4)) (t_law_p20 K)) De σ M) := ⟨fun z => z⟩
def t_law_p22 (K : Bd) : TSD := (dSeq (dAsg (dSl (dTup (dCons (dC (.str "x")) (dCons (dC (.str "y")) (dCons (dC (.str "z")) dNil)))) dNo (dPart (dOp addD (dC (.int 1)) (dCall (sp__law_take K) (dCons (dVar 1) (dCons (dC (.int 3)) dNil)))))) (gNm 3)) (t_law_p21 K))
instance i_t_law_p22 {K : Bd} {De : DEnds} {σ : Std} {M : DM} : StepP (t_law_p22 K De σ M) ((dSeq (dAsg (dSl (dTup (dCons (dC (.str "x")) (dCons (dC (.str "y")) (dCons (dC (.str "z")) dNil)))) dNo (dPart (dOp addD (dC (.int 1)) (dCall (sp__law_take K) (dCons (dVar 1) (dCons (dC (.int 3)) dNil)))))) (gNm 3)) (t_law_p21 K)) De σ M) := ⟨fun z => z⟩
def t_law_l23 (K : Bd) : TSD := (dFor (diRng1 (dCons (dC (.int 4)) dNil)) (gNm 2) (t_law_p22 K))
def t_law_p24 (K : Bd) : TSD := (dSeq (t_law_l23 K) (t_law_p1 K))
instance i_t_law_p24 {K : Bd} {De : DEnds} {σ : Std} {M : DM} : StepP (t_law_p24 K De σ M) ((dSeq (t_law_l23 K) (t_law_p1 K)) De σ M) := ⟨fun z => z⟩
def t_law (K : Bd) : TSD := (dSeq (dAsg (dCall (sp__law_bag K) (dCons (dVar 0) dNil)) (gNm 1)) (t_law_p24 K))
def sp_law (K : Bd) : SpD := fun ds M Q _ => ds.length = 1 ∧ t_law K (dEnd Q noX) (startD N_law ds) M
theorem go_law {K : Bd} {M : DM} {Q : DQ} {a : D} (h : t_law K (dEnd Q noX) [some a, none, none, none, none, none, none, none, none, none, none, none, none, none, none, none, none, none, none, none, none, none, none, none, none, none, none] M) : sp_law K [a] M Q noX := ⟨rfl, h⟩
end Dt

set_option autoImplicit false
set_option linter.all false
/-! TR: rows up to swaps, purely: two rows are one if they are the same, cut to each dependent couple. -/
namespace Tr
section
variable {α : Type} [DecidableEq α] {f : α → α → Bool}
/-- the row cut to a couple -/
def cut (a b : α) (r : List α) : List α := r.filter fun s => decide (s ∈ [a, b])
/-- s is there, and all that is ahead of it may be exchanged with it -/
def fst (f : α → α → Bool) : List α → α → Bool
  | [], _ => false
  | t :: r, s => if t = s then true else f t s && fst f r s
/-- one by swaps -/
def Tq (f : α → α → Bool) (r r' : List α) : Prop := ∀ a b, f a b = false → cut a b r = cut a b r'
theorem Tq.refl {r : List α} : Tq f r r := fun _ _ _ => rfl
theorem Tq.symm {r s : List α} (h : Tq f r s) : Tq f s r := fun a b e => (h a b e).symm
theorem Tq.trans {r s t : List α} (h : Tq f r s) (g : Tq f s t) : Tq f r t := fun a b e => (h a b e).trans (g a b e)
theorem cut_app {a b : α} {r s : List α} : cut a b (r ++ s) = cut a b r ++ cut a b s := List.filter_append ..
theorem Tq.app {r s r' s' : List α} (h : Tq f r s) (g : Tq f r' s') : Tq f (r ++ r') (s ++ s') := fun a b e => by rw [cut_app, cut_app, h a b e, g a b e]
theorem Tq.left {g x y : List α} (h : Tq f (g ++ x) (g ++ y)) : Tq f x y := fun a b e => by
  have := h a b e
  rw [cut_app, cut_app] at this
  exact List.append_cancel_left this
theorem Tq.right {g x y : List α} (h : Tq f (x ++ g) (y ++ g)) : Tq f x y := fun a b e => by
  have := h a b e
  rw [cut_app, cut_app] at this
  exact List.append_cancel_right this
theorem Tq.cons {s : α} {x y : List α} (h : Tq f x y) : Tq f (s :: x) (s :: y) := Tq.app (r := [s]) (s := [s]) .refl h
theorem Tq.uncons {s : α} {x y : List α} (h : Tq f (s :: x) (s :: y)) : Tq f x y := Tq.left (g := [s]) h
theorem count_cut (s : α) (r : List α) : (cut s s r).length = r.count s := by
  unfold cut
  induction r with
  | nil => rfl
  | cons t r ih =>
    by_cases h : t = s
    · subst h; simp at ih ⊢; exact ih
    · have : ¬ (t ∈ [s, s]) := by simp [h]
      rw [List.filter_cons_of_neg (by simpa using this), List.count_cons_of_ne h]; exact ih
variable (fs : ∀ a, f a a = false) (fc : ∀ a b, f a b = f b a)
include fs in
theorem Tq.count {r r' : List α} (h : Tq f r r') (s : α) : r.count s = r'.count s := by
  rw [← count_cut, ← count_cut, h s s (fs s)]
include fs in
theorem Tq.perm {r r' : List α} (h : Tq f r r') : r.Perm r' := List.perm_iff_count.mpr (h.count fs)
include fs in
theorem Tq.mem {r r' : List α} (h : Tq f r r') {s : α} : s ∈ r ↔ s ∈ r' := (h.perm fs).mem_iff
include fs in
theorem Tq.length {r r' : List α} (h : Tq f r r') : r.length = r'.length := (h.perm fs).length_eq
include fs in
theorem Tq.nil {r : List α} (h : Tq f [] r) : r = [] := by
  have := h.length fs
  exact List.length_eq_zero_iff.mp this.symm
/-! ### firsts -/
theorem fst_iff {r : List α} {s : α} : fst f r s = true ↔ ∃ pre post, r = pre ++ s :: post ∧ s ∉ pre ∧ ∀ t ∈ pre, f t s = true := by
  induction r with
  | nil => simp [fst]
  | cons t r ih =>
    unfold fst
    by_cases h : t = s
    · rw [if_pos h]; subst h
      exact ⟨fun _ => ⟨[], r, rfl, by simp, by simp⟩, fun _ => rfl⟩
    · rw [if_neg h, Bool.and_eq_true, ih]
      constructor
      · rintro ⟨h1, pre, post, rfl, h2, h3⟩
        exact ⟨t :: pre, post, rfl, by simp [Ne.symm h, h2], fun u hu => by
          rcases List.mem_cons.mp hu with e | e
          · rw [e]; exact h1
          · exact h3 u e⟩
      · rintro ⟨pre, post, e, h2, h3⟩
        cases pre with
        | nil => simp at e; exact absurd e.1 h
        | cons u pre =>
          simp at e
          obtain ⟨rfl, rfl⟩ := e
          exact ⟨h3 _ (by simp), pre, post, rfl, fun z => h2 (by simp [z]), fun v hv => h3 v (by simp [hv])⟩
theorem fst_mem {r : List α} {s : α} (h : fst f r s = true) : s ∈ r := by
  obtain ⟨pre, post, rfl, _⟩ := fst_iff.mp h; simp
theorem fst_head {r : List α} {s : α} : fst f (s :: r) s = true := by unfold fst; rw [if_pos rfl]
theorem erase_split {pre post : List α} {s : α} (h : s ∉ pre) : (pre ++ s :: post).erase s = pre ++ post := by
  rw [List.erase_append_right _ h, List.erase_cons_head]
include fc in
theorem fst_Tq {r : List α} {s : α} (h : fst f r s = true) : Tq f r (s :: r.erase s) := by
  obtain ⟨pre, post, rfl, h1, h2⟩ := fst_iff.mp h
  rw [erase_split h1]
  intro a b e
  show cut a b _ = _
  rw [cut_app]
  by_cases hs : s ∈ [a, b]
  · have e0 : cut a b pre = [] := by
      unfold cut
      rw [List.filter_eq_nil_iff]
      intro t ht
      have h3 := h2 t ht
      simp only [decide_eq_true_eq, List.mem_cons, List.not_mem_nil, or_false] at hs ⊢
      rintro (rfl | rfl)
      · rcases hs with rfl | rfl
        · exact h1 ht
        · rw [e] at h3; cases h3
      · rcases hs with rfl | rfl
        · rw [fc, e] at h3; cases h3
        · exact h1 ht
    have e1 : cut a b (s :: (pre ++ post)) = s :: cut a b (pre ++ post) := List.filter_cons_of_pos (by simpa using hs)
    have e2 : cut a b (s :: post) = s :: cut a b post := List.filter_cons_of_pos (by simpa using hs)
    rw [e1, e2, cut_app, e0]; rfl
  · have e1 : cut a b (s :: (pre ++ post)) = cut a b (pre ++ post) := List.filter_cons_of_neg (by simpa using hs)
    have e2 : cut a b (s :: post) = cut a b post := List.filter_cons_of_neg (by simpa using hs)
    rw [e1, e2, cut_app]
include fs in
theorem Tq.fst {r r' : List α} (h : Tq f r r') {s : α} (h1 : fst f r s = true) : Tr.fst f r' s = true := by
  have hm : s ∈ r' := (h.mem fs).mp (fst_mem h1)
  obtain ⟨pre', post', rfl, h2⟩ := List.append_of_mem hm |> fun ⟨a, b, e⟩ => (⟨_, _, e, trivial⟩ : ∃ pre post, r' = pre ++ s :: post ∧ True)
  -- the first place
  obtain ⟨p, q, e, hp⟩ : ∃ p q, pre' ++ s :: post' = p ++ s :: q ∧ s ∉ p := by
    have := List.mem_iff_append.mp hm
    clear h h1 this h2 hm
    induction pre' with
    | nil => exact ⟨[], post', rfl, by simp⟩
    | cons t pre ih =>
      by_cases ht : t = s
      · exact ⟨[], pre ++ s :: post', by simp [ht], by simp⟩
      · obtain ⟨p, q, e, hp⟩ := ih
        exact ⟨t :: p, q, by simp [e], by simp [Ne.symm ht, hp]⟩
  rw [e] at h ⊢
  refine fst_iff.mpr ⟨p, q, rfl, hp, fun t ht => ?_⟩
  cases hf : f t s with
  | true => rfl
  | false =>
    exfalso
    obtain ⟨pre, post, rfl, h3, h4⟩ := fst_iff.mp h1
    have c := h t s hf
    rw [cut_app, cut_app] at c
    have e0 : cut t s pre = [] := by
      unfold cut
      rw [List.filter_eq_nil_iff]
      intro u hu
      simp only [decide_eq_true_eq, List.mem_cons, List.not_mem_nil, or_false]
      rintro (rfl | rfl)
      · rw [h4 _ hu] at hf; cases hf
      · exact h3 hu
    have e1 : cut t s (s :: post) = s :: cut t s post := List.filter_cons_of_pos (by simp)
    rw [e0, e1] at c
    have : cut t s p ≠ [] := by
      unfold cut
      intro z
      rw [List.filter_eq_nil_iff] at z
      exact z t ht (by simp)
    cases hc : cut t s p with
    | nil => exact this hc
    | cons u l =>
      rw [hc] at c
      simp at c
      have hu : u ∈ cut t s p := by rw [hc]; simp
      have := (List.mem_filter.mp hu).1
      rw [← c.1] at this
      exact hp this
include fs in
theorem Tq.fst_eq {r r' : List α} (h : Tq f r r') (s : α) : Tr.fst f r s = Tr.fst f r' s := by
  rw [Bool.eq_iff_iff]
  exact ⟨fun z => h.fst fs z, fun z => h.symm.fst fs z⟩
include fs fc in
theorem Tq.erase {r r' : List α} (h : Tq f r r') {s : α} (h1 : Tr.fst f r s = true) : Tq f (r.erase s) (r'.erase s) :=
  ((fst_Tq fc h1).symm.trans (h.trans (fst_Tq fc (h.fst fs h1)))).uncons
include fs fc in
theorem fst_begin {r : List α} {s : α} : Tr.fst f r s = true ↔ ∃ y, Tq f (s :: y) r :=
  ⟨fun h => ⟨_, (fst_Tq fc h).symm⟩, fun ⟨y, h⟩ => h.fst fs fst_head⟩
/-- first of what is put together -/
theorem fst_app {g x : List α} {s : α} : Tr.fst f (g ++ x) s = (Tr.fst f g s || (decide (s ∉ g) && g.all (fun t => f t s) && Tr.fst f x s)) := by
  induction g with
  | nil => simp [Tr.fst]
  | cons t g ih =>
    simp only [List.cons_append, Tr.fst]
    by_cases h : t = s
    · simp [h]
    · rw [if_neg h, if_neg h, ih]
      cases h1 : f t s <;> cases h2 : Tr.fst f g s <;> simp [h1, Ne.symm h]
/-! ### what is left behind a beginning -/
def lo (f : α → α → Bool) : List α → List α → Option (List α)
  | [], r => some r
  | s :: g, r => if fst f r s = true then lo f g (r.erase s) else none
include fc in
theorem lo_some : ∀ {g r y : List α}, lo f g r = some y → Tq f (g ++ y) r
  | [], r, y, h => by cases h; exact .refl
  | s :: g, r, y, h => by
    unfold lo at h
    by_cases e : fst f r s = true
    · rw [if_pos e] at h
      exact (Tq.cons (lo_some h)).trans (fst_Tq fc e).symm
    · rw [if_neg e] at h; cases h
include fs fc in
theorem lo_of : ∀ {g r y : List α}, Tq f (g ++ y) r → ∃ z, lo f g r = some z ∧ Tq f y z
  | [], r, y, h => ⟨r, rfl, h⟩
  | s :: g, r, y, h => by
    have e : fst f r s = true := (fst_begin fs fc).mpr ⟨_, h⟩
    unfold lo
    rw [if_pos e]
    exact lo_of ((show Tq f (s :: (g ++ y)) r from h).trans (fst_Tq fc e)).uncons
include fs fc in
theorem lo_isSome {g r : List α} : (lo f g r).isSome = true ↔ ∃ y, Tq f (g ++ y) r := by
  constructor
  · intro h
    obtain ⟨y, hy⟩ := Option.isSome_iff_exists.mp h
    exact ⟨y, lo_some fc hy⟩
  · rintro ⟨y, h⟩
    obtain ⟨z, e, _⟩ := lo_of fs fc h
    rw [e]; rfl
/-! ### the greatest common beginning -/
/-- no sign can be first of both -/
def Apart (f : α → α → Bool) (x y : List α) : Prop := ∀ s, ¬ (fst f x s = true ∧ fst f y s = true)
include fs in
theorem Apart.tq {x y x' y' : List α} (h : Apart f x y) (h1 : Tq f x x') (h2 : Tq f y y') : Apart f x' y' := fun s ⟨a, b⟩ => h s ⟨h1.symm.fst fs a, h2.symm.fst fs b⟩
include fs fc in
/-- each common beginning is a beginning of the greatest one -/
theorem common_below : ∀ {h g x y x' y' : List α}, Apart f x y → Tq f (h ++ x') (g ++ x) → Tq f (h ++ y') (g ++ y) → ∃ k, Tq f (h ++ k) g ∧ Tq f x' (k ++ x) ∧ Tq f y' (k ++ y)
  | [], g, x, y, x', y', _, h1, h2 => ⟨g, .refl, h1, h2⟩
  | s :: h, g, x, y, x', y', ap, h1, h2 => by
    have f1 : fst f (g ++ x) s = true := h1.fst fs fst_head
    have f2 : fst f (g ++ y) s = true := h2.fst fs fst_head
    have fg : fst f g s = true := by
      rw [fst_app] at f1 f2
      cases e : fst f g s with
      | true => rfl
      | false =>
        rw [e] at f1 f2
        simp only [Bool.false_or, Bool.and_eq_true] at f1 f2
        exact absurd ⟨f1.2, f2.2⟩ (ap s)
    have e := fst_Tq fc fg
    have e1 : Tq f (h ++ x') (g.erase s ++ x) := (show Tq f (s :: (h ++ x')) _ from h1.trans (show Tq f (g ++ x) (s :: (g.erase s ++ x)) from e.app .refl)).uncons
    have e2 : Tq f (h ++ y') (g.erase s ++ y) := (show Tq f (s :: (h ++ y')) _ from h2.trans (show Tq f (g ++ y) (s :: (g.erase s ++ y)) from e.app .refl)).uncons
    obtain ⟨k, h3, h4, h5⟩ := common_below ap e1 e2
    exact ⟨k, (Tq.cons h3).trans e.symm, h4, h5⟩
include fs fc in
/-- what is left is one only -/
theorem common_one {h g x y x' y' : List α} (ap : Apart f x y) (ap' : Apart f x' y') (h1 : Tq f (h ++ x') (g ++ x)) (h2 : Tq f (h ++ y') (g ++ y)) : Tq f h g ∧ Tq f x' x ∧ Tq f y' y := by
  obtain ⟨k, h3, h4, h5⟩ := common_below fs fc ap h1 h2
  cases k with
  | nil => exact ⟨by rw [List.append_nil] at h3; exact h3, h4, h5⟩
  | cons s k => exact absurd ⟨h4.symm.fst fs fst_head, h5.symm.fst fs fst_head⟩ (ap' s)
end
end Tr

set_option autoImplicit false
set_option linter.all false
/-! TR2: lags that fit. -/
namespace Tr
section
variable {α : Type} [DecidableEq α] {f : α → α → Bool}
/-- all signs of the one may be exchanged with all of the other -/
def Free (f : α → α → Bool) (u v : List α) : Prop := ∀ a ∈ u, ∀ b ∈ v, f a b = true
theorem cut_none {a b : α} {u v : List α} (h : f a b = false) (fs : ∀ a, f a a = false) (fc : ∀ a b, f a b = f b a) (F : Free f u v) : cut a b u = [] ∨ cut a b v = [] := by
  cases e : cut a b u with
  | nil => exact .inl rfl
  | cons x xs =>
    cases e2 : cut a b v with
    | nil => exact .inr rfl
    | cons y ys =>
      have hx : x ∈ cut a b u := by rw [e]; exact List.mem_cons_self
      have hy : y ∈ cut a b v := by rw [e2]; exact List.mem_cons_self
      obtain ⟨x1, x2⟩ := List.mem_filter.mp hx
      obtain ⟨y1, y2⟩ := List.mem_filter.mp hy
      have z := F x x1 y y1
      have x2 := of_decide_eq_true x2
      have y2 := of_decide_eq_true y2
      simp only [List.mem_cons, List.not_mem_nil, or_false] at x2 y2
      have : f x y = false := by
        rcases x2 with rfl | rfl <;> rcases y2 with rfl | rfl
        · exact fs _
        · exact h
        · rw [fc]; exact h
        · exact fs _
      rw [z] at this
      cases this
/-- such rows may be exchanged whole -/
theorem Free.swap {u v : List α} (F : Free f u v) (fs : ∀ a, f a a = false) (fc : ∀ a b, f a b = f b a) : Tq f (u ++ v) (v ++ u) := fun a b h => by
  rw [cut_app, cut_app]
  rcases cut_none h fs fc F with e | e <;> rw [e] <;> simp
theorem Free.tq {u v u' v' : List α} (F : Free f u v) (fs : ∀ a, f a a = false) (h1 : Tq f u u') (h2 : Tq f v v') : Free f u' v' :=
  fun a ha b hb => F a ((h1.mem fs).mpr ha) b ((h2.mem fs).mpr hb)
/-- where something can be put behind both so that they are one, what is left is free -/
theorem apart_free (fs : ∀ a, f a a = false) (fc : ∀ a b, f a b = f b a) : ∀ {u v c d : List α}, Apart f u v → Tq f (u ++ c) (v ++ d) → Free f u v
  | [], v, c, d, _, _ => fun a ha => nomatch ha
  | a :: u, v, c, d, ap, h => by
    have f1 : fst f (v ++ d) a = true := h.fst fs fst_head
    have hv : fst f v a = false := by
      cases e : fst f v a with
      | false => rfl
      | true => exact absurd ⟨fst_head, e⟩ (ap a)
    rw [fst_app, hv] at f1
    simp only [Bool.false_or, Bool.and_eq_true, decide_eq_true_eq, List.all_eq_true] at f1
    obtain ⟨⟨nv, all⟩, fd⟩ := f1
    have h2 : Tq f (u ++ c) (v ++ d.erase a) := by
      have z := h.erase fs fc fst_head
      rw [List.erase_append_right _ nv] at z
      simpa using z
    have ap2 : Apart f u v := fun s ⟨s1, s2⟩ => by
      have hs := all s (fst_mem s2)
      have ne : a ≠ s := fun e => nv (e ▸ fst_mem s2)
      exact ap s ⟨by unfold fst; rw [if_neg ne, fc, hs, s1]; rfl, s2⟩
    have ih := apart_free fs fc ap2 h2
    intro x hx b hb
    rcases List.mem_cons.mp hx with rfl | hx
    · rw [fc]; exact all b hb
    · exact ih x hx b hb
/-- a lag that fits is one only -/
theorem lag_only (fs : ∀ a, f a a = false) (fc : ∀ a b, f a b = f b a) {p q u v : List α} (ap : Apart f p q) (F : Free f u v) (h : Tq f (p ++ v) (q ++ u)) : Tq f p u ∧ Tq f q v := by
  have G := apart_free fs fc ap h
  have key : ∀ a b, f a b = false → cut a b p = cut a b u ∧ cut a b q = cut a b v := fun a b e => by
    have z := h a b e
    rw [cut_app, cut_app] at z
    rcases cut_none e fs fc G with e1 | e1 <;> rcases cut_none e fs fc F with e2 | e2 <;> rw [e1, e2] at z ⊢ <;> simp at z ⊢
    · exact z.symm
    · exact ⟨z.2, z.1⟩
    · exact z
    · exact z
  exact ⟨fun a b e => (key a b e).1, fun a b e => (key a b e).2⟩
end
end Tr

set_option Elab.async false
set_option autoImplicit false
set_option linter.all false
set_option maxRecDepth 100000
set_option maxHeartbeats 400000
namespace Dt
open PySem PySem.Spec PyProof.Rows L2 LamX RZ PySem.P
local macro_rules | `(tactic| walk_at "w1") => `(tactic| with_reducible refine StepW.go ?_)
local macro_rules | `(tactic| walk_at "w") => `(tactic| ((repeat walk_at "w1"); try (with_reducible conv => whnf)))
local macro_rules | `(tactic| walk_at "m") => `(tactic| first | with_reducible assumption | with_reducible exact put_same | (with_reducible apply Ext.get; (with_reducible assumption); walk_at "m") | (with_reducible apply Ext.get; (with_reducible apply Ext.new); (with_reducible assumption); walk_at "m"))
local macro_rules | `(tactic| walk_at "x") => `(tactic| first | with_reducible assumption | with_reducible exact Ext.refl | (with_reducible refine Ext.alloc ?_ (by with_reducible assumption) _; walk_at "x") | (with_reducible refine Ext.trans ?_ (by with_reducible assumption); walk_at "x"))
local macro_rules | `(tactic| walk_at "lk") => `(tactic| first | with_reducible exact look1 | ((with_reducible apply lookS); (with_unfolding_all decide); walk_at "lk"))
local macro_rules | `(tactic| walk_at "g1") => `(tactic| (first
  | with_reducible refine StepW.go ?_
  | with_reducible refine StepG.go ?_
  | with_reducible refine w_isTup ?_
  | ((with_reducible refine w_sz ?sz ?_); (case sz => size_fits))
  | ((with_reducible refine w_len ?sz ?_); (case sz => rfl))
  | ((with_reducible refine w_obj (by walk_at "m") ?ob2 ?_); (case ob2 => walk_at "ln"))
  | (with_reducible refine w_lenL (by walk_at "m") ?_) | (with_reducible refine w_seqL (by walk_at "m") ?_) | (with_reducible refine tup_list (by walk_at "m") ?_)
  | (with_reducible refine w_isLst (by walk_at "m") ?_) | (with_reducible refine w_slL (by walk_at "m") ?_)
  | ((with_reducible refine fld_ok (by walk_at "m") ?cl (by walk_at "lk") ?_); (case cl => walk_at "cl"))
  | (with_reducible refine w_lstL (by walk_at "m") ?_) | (with_reducible refine w_dic (by walk_at "m") ?_)
  ))
local macro_rules | `(tactic| walk_at "g") => `(tactic| ((repeat walk_at "g1"); try (with_reducible conv => whnf)))
local macro_rules | `(tactic| walk_at "ln") => `(tactic| first | exact look_none (ns := ["row", "signs", "dependent", "places", "taken"]) rfl (by decide) | exact look_none (ns := ["alphabet", "due", "its_left", "signs", "parting"]) rfl (by decide) | exact look_none (ns := ["alphabet", "its_lag", "parting"]) rfl (by decide))
local macro_rules | `(tactic| walk_at "cl") => `(tactic| first | exact CF.get (by with_reducible assumption) (by decide))
structure Alph where
  signs : List Str
  free : List (Str × Str)
def aD (A : Alph) : D := .tup [.tup (A.signs.map .str), .tup (A.free.map Enc.d)]
theorem slt_irrefl (a : Str) : ¬ sLt a a := List.lt_irrefl _
theorem slt_asymm {a b : Str} (h : sLt a b) : ¬ sLt b a := fun g => List.lt_irrefl _ (List.lt_trans h g)
theorem slt_trans {a b c : Str} (h : sLt a b) (g : sLt b c) : sLt a c := List.lt_trans h g
theorem slt_ne {a b : Str} (h : sLt a b) : a ≠ b := fun e => slt_irrefl a (by rw [← e] at h; exact h)
theorem slt_tri {a b : Str} (h : a ≠ b) : sLt a b ∨ sLt b a := by
  by_cases h1 : sLt a b
  · exact .inl h1
  · by_cases h2 : sLt b a
    · exact .inr h2
    · exact absurd (PySem.W.str_of_cps (List.le_antisymm (List.not_lt.mp h2) (List.not_lt.mp h1))) h
theorem minS_of {a b : Str} (h : sLt a b) : minS a b = a := by unfold minS; rw [if_neg (slt_asymm h)]
theorem maxS_of {a b : Str} (h : sLt a b) : maxS a b = b := by unfold maxS; rw [if_pos h]
theorem minS_of' {a b : Str} (h : sLt b a) : minS a b = b := by unfold minS; rw [if_pos h]
theorem maxS_of' {a b : Str} (h : sLt b a) : maxS a b = a := by unfold maxS; rw [if_neg (slt_asymm h)]
theorem minS_comm (a b : Str) : minS a b = minS b a := by
  by_cases e : a = b
  · rw [e]
  · rcases slt_tri e with h | h
    · rw [minS_of h, minS_of' h]
    · rw [minS_of' h, minS_of h]
theorem maxS_comm (a b : Str) : maxS a b = maxS b a := by
  by_cases e : a = b
  · rw [e]
  · rcases slt_tri e with h | h
    · rw [maxS_of h, maxS_of' h]
    · rw [maxS_of' h, maxS_of h]
/-- the two may be exchanged -/
def fr (A : Alph) (a b : Str) : Bool := decide ((minS a b, maxS a b) ∈ A.free)
theorem fr_comm (A : Alph) (a b : Str) : fr A a b = fr A b a := by unfold fr; rw [minS_comm a b, maxS_comm a b]
structure GoodA (A : Alph) : Prop where
  sorted : A.signs.Pairwise sLt
  short : A.signs.length ≤ 100
  free : ∀ p ∈ A.free, sLt p.1 p.2
theorem GoodA.nodup {A : Alph} (g : GoodA A) : A.signs.Nodup := g.sorted.imp slt_ne
theorem fr_self {A : Alph} (g : GoodA A) (a : Str) : fr A a a = false := by
  unfold fr
  rw [show minS a a = a from by unfold minS; exact if_neg (slt_irrefl a), show maxS a a = a from by unfold maxS; exact if_neg (slt_irrefl a)]
  exact decide_eq_false fun h => slt_irrefl a (g.free _ h)
section
variable {K : Bd} {M : DM} {Q : DQ} {A : Alph}
theorem s_check_sign {s : Str} (h : s ∈ A.signs) (q : Q .non M) : sp_check_sign K [aD A, .str s] M Q noX := by
  refine go_check_sign ?_
  delta t_check_sign
  walk_at "w"
  refine ⟨_, _, rfl, rfl, ?_⟩
  walk_at "w"
  refine ix_tup (n := 0) rfl ?_
  skip
  refine nmem_enc (α := Str) (b := true) (by simp [h]) (by decide) ?_
  walk_at "w"
  exact q
theorem s_are_independent {a b : Str} (ha : a ∈ A.signs) (hb : b ∈ A.signs) (q : Q (.bl (fr A a b)) M) : sp_are_independent K [aD A, .str a, .str b] M Q noX := by
  refine go_are_independent ?_
  delta t_are_independent
  walk_at "w"
  refine s_check_sign ha ?_
  walk_at "w"
  refine s_check_sign hb ?_
  walk_at "w"
  refine w_tup ?_
  walk_at "w"
  refine w_min ?_
  walk_at "w"
  refine w_max ?_
  walk_at "w"
  refine ⟨by size_fits, ?_⟩
  walk_at "w"
  refine ix_tup (n := 1) rfl ?_
  exact mem_enc (α := Str × Str) (a := (minS a b, maxS a b)) decide_eq_true_iff (by decide) q
/-- all couples, each in the order of the row -/
def pairs {α : Type} : List α → List (α × α)
  | [] => []
  | a :: r => r.map (fun b => (a, b)) ++ pairs r
theorem drop_get {α : Type} {xs : List α} {i : Nat} {x : α} (h : xs[i]? = some x) : xs.drop i = x :: xs.drop (i + 1) := by
  obtain ⟨hi, e⟩ := List.getElem?_eq_some_iff.mp h
  rw [List.drop_eq_getElem_cons hi, e]
theorem pairs_length {α : Type} : ∀ xs : List α, (pairs xs).length ≤ xs.length * xs.length
  | [] => Nat.le_refl _
  | a :: r => by
    have := pairs_length r
    simp only [pairs, List.length_append, List.length_map, List.length_cons]
    have e : (r.length + 1) * (r.length + 1) = r.length * r.length + 2 * r.length + 1 := by
      simp only [Nat.mul_add, Nat.add_mul]; omega
    omega
def dcs (A : Alph) : List (Str × Str) := (pairs A.signs).filter fun c => !decide (c ∈ A.free)
theorem s_dependent_couples (g : GoodA A) (q : ∀ M', Ext M M' → Q (Enc.d (dcs A)) M') : sp_dependent_couples K [aD A] M Q noX := by
  refine go_dependent_couples ?_
  delta t_dependent_couples
  walk_at "w"
  refine ix_tup (n := 0) rfl ?_
  walk_at "w"
  refine w_lc2 ?_
  walk_at "w"
  have hp' : (pairs A.signs).length ≤ 10000 := Nat.le_trans (pairs_length _) (Nat.mul_le_mul g.short g.short)
  refine lc2_inv (numD (A.signs.map .str)) (fun i acc M' => Ext M M' ∧ ∃ dn : List (Str × Str), acc = dn.map Enc.d ∧ dn ++ pairs (A.signs.drop i) = pairs A.signs) (fun i acc M' _ _ => itE_at rfl) ⟨.refl, [], rfl, rfl⟩ ?_ ?_
  · rintro i d acc M' hd ⟨e, dn, rfl, he⟩ C c
    obtain ⟨y, hy, rfl⟩ := numD_get hd
    rw [List.getElem?_map] at hy
    cases hx : A.signs[i]? with
    | none => rw [hx] at hy; cases hy
    | some x =>
      rw [hx] at hy; cases hy
      walk_at "w"
      refine ⟨rfl, ?_⟩
      walk_at "w"
      refine w_yes ?_
      walk_at "w"
      refine w_add ?_
      walk_at "w"
      refine w_slT ?_
      walk_at "w"
      rw [show ((i : Int) + 1) = ((i + 1 : Nat) : Int) from by omega, cut_from, ← List.map_drop]
      have hl : ∀ n : Nat, (dn ++ ((A.signs.drop (i + 1)).take n).map fun b => (x, b)).length ≤ 10000 := fun n => by
        have := congrArg List.length he
        rw [drop_get hx] at this
        simp only [pairs, List.length_append, List.length_map, List.length_take] at this ⊢
        omega
      refine lc2In_inv ((A.signs.drop (i + 1)).map .str) (fun k acc M2 => Ext M M2 ∧ acc = (dn ++ ((A.signs.drop (i + 1)).take k).map fun b => (x, b)).map Enc.d) (fun k acc M2 _ _ => rfl) ⟨e, by simp⟩ (fun k acc M2 h hk => by rw [h.2, List.length_map]; exact Nat.lt_of_le_of_lt (hl k) (Nat.le_of_ble_eq_true rfl)) ?_ ?_
      · rintro k d acc M2 hd ⟨e2, rfl⟩ KT KF kt kf
        rw [List.getElem?_map] at hd
        cases hy : (A.signs.drop (i + 1))[k]? with
        | none => rw [hy] at hd; cases hd
        | some y =>
          rw [hy] at hd; cases hd
          walk_at "w"
          refine w_yes ?_
          walk_at "w"
          refine w_tup ?_
          walk_at "w"
          refine ⟨by size_fits, ?_⟩
          refine kt _ _ ⟨e2, ?_⟩
          rw [take_succ_get hy]
          simp
          rfl
      · rintro acc M2 ⟨e2, rfl⟩
        refine c _ _ ⟨e2, _, rfl, ?_⟩
        rw [List.length_map, List.take_length, List.append_assoc, ← he, drop_get hx]
        rfl
  · rintro acc M' p ⟨e, dn, rfl, he⟩ hp
    rw [numD_length, List.length_map, List.drop_length] at he
    simp only [pairs, List.append_nil] at he
    subst he
    walk_at "w"
    refine w_lc ?_
    walk_at "w"
    refine ⟨⟨_, put_same⟩, ?_⟩
    refine lc_pure (pairs A.signs) Enc.d (fun c => !decide (c ∈ A.free)) Enc.d (fun i M2 e2 _ => itL_is (e2 _ _ put_same) i) (Nat.le_trans hp' (Nat.le_of_ble_eq_true rfl)) ?_ ?_
    · intro i x M2 hx e2 KT KF kt kf
      walk_at "w"
      refine ix_tup (n := 1) rfl ?_
      refine nmem_enc (α := Str × Str) (b := decide (x ∈ A.free)) decide_eq_true_iff (by decide) ?_
      walk_at "w"
      cases h : !decide (x ∈ A.free)
      · walk_at "w"
        exact kf h _ e2
      · walk_at "w"
        exact kt h _ e2
    · intro M2 p2 e2 hp2
      walk_at "w"
      exact tup_list put_same (q _ ((e.alloc hp _).trans (e2.alloc hp2 _)))
end
end Dt

set_option Elab.async false
set_option autoImplicit false
set_option linter.all false
set_option maxRecDepth 100000
set_option maxHeartbeats 400000
namespace Dt
open PySem PySem.Spec PyProof.Rows L2 LamX RZ PySem.P
local macro_rules | `(tactic| walk_at "w1") => `(tactic| with_reducible refine StepW.go ?_)
local macro_rules | `(tactic| walk_at "w") => `(tactic| ((repeat walk_at "w1"); try (with_reducible conv => whnf)))
local macro_rules | `(tactic| walk_at "m") => `(tactic| first | with_reducible assumption | with_reducible exact put_same | (with_reducible apply Ext.get; (with_reducible assumption); walk_at "m") | (with_reducible apply Ext.get; (with_reducible apply Ext.new); (with_reducible assumption); walk_at "m"))
local macro_rules | `(tactic| walk_at "x") => `(tactic| first | with_reducible assumption | with_reducible exact Ext.refl | (with_reducible refine Ext.alloc ?_ (by with_reducible assumption) _; walk_at "x") | (with_reducible refine Ext.trans ?_ (by with_reducible assumption); walk_at "x"))
local macro_rules | `(tactic| walk_at "lk") => `(tactic| first | with_reducible exact look1 | ((with_reducible apply lookS); (with_unfolding_all decide); walk_at "lk"))
local macro_rules | `(tactic| walk_at "g1") => `(tactic| (first
  | with_reducible refine StepW.go ?_
  | with_reducible refine StepG.go ?_
  | with_reducible refine w_isTup ?_
  | ((with_reducible refine w_sz ?sz ?_); (case sz => size_fits))
  | ((with_reducible refine w_len ?sz ?_); (case sz => rfl))
  | ((with_reducible refine w_obj (by walk_at "m") ?ob2 ?_); (case ob2 => walk_at "ln"))
  | (with_reducible refine w_lenL (by walk_at "m") ?_) | (with_reducible refine w_seqL (by walk_at "m") ?_) | (with_reducible refine tup_list (by walk_at "m") ?_)
  | (with_reducible refine w_isLst (by walk_at "m") ?_) | (with_reducible refine w_slL (by walk_at "m") ?_)
  | ((with_reducible refine fld_ok (by walk_at "m") ?cl (by walk_at "lk") ?_); (case cl => walk_at "cl"))
  | (with_reducible refine w_lstL (by walk_at "m") ?_) | (with_reducible refine w_dic (by walk_at "m") ?_)
  ))
local macro_rules | `(tactic| walk_at "g") => `(tactic| ((repeat walk_at "g1"); try (with_reducible conv => whnf)))
local macro_rules | `(tactic| walk_at "ln") => `(tactic| first | exact look_none (ns := ["row", "signs", "dependent", "places", "taken"]) rfl (by decide) | exact look_none (ns := ["alphabet", "due", "its_left", "signs", "parting"]) rfl (by decide) | exact look_none (ns := ["alphabet", "its_lag", "parting"]) rfl (by decide))
local macro_rules | `(tactic| walk_at "cl") => `(tactic| first | exact CF.get (by with_reducible assumption) (by decide))
/-! ### what is left of a row, purely -/
section
variable {A : Alph}
abbrev Rem := List (Str × Nat)
def pl (rem : Rem) (s : Str) : Option Nat := (rem.find? fun p => decide (p.1 = s)).map (·.2)
def fstB (A : Alph) : List Str → Str → Bool
  | [], _ => false
  | t :: r, s => if t = s then true else fr A t s && fstB A r s
def places (row : List Str) (s : Str) : List Nat := (row.zipIdx.filter fun p => decide (p.1 = s)).map (·.2)
structure Took (A : Alph) (row : List Str) (tk : Str → Nat) (rem : Rem) : Prop where
  sub : rem.Sublist row.zipIdx
  at_ : ∀ s, (rem.filter fun p => decide (p.1 = s)).map (·.2) = (places row s).drop (tk s)
  le : ∀ s, tk s ≤ (places row s).length
theorem zip_sorted : ∀ (row : List Str) (k : Nat), (row.zipIdx k).Pairwise fun a b => a.2 < b.2
  | [], _ => .nil
  | x :: r, k => by
    rw [List.zipIdx_cons]
    refine .cons (fun p hp => ?_) (zip_sorted r (k + 1))
    obtain ⟨i, hi, e⟩ := List.mem_iff_getElem.mp hp
    rw [List.getElem_zipIdx] at e
    subst e
    show k < k + 1 + i
    omega
theorem Took.sorted {row : List Str} {tk : Str → Nat} {rem : Rem} (T : Took A row tk rem) : rem.Pairwise fun a b => a.2 < b.2 := (zip_sorted row 0).sublist T.sub
theorem Took.start (A : Alph) (row : List Str) : Took A row (fun _ => 0) row.zipIdx := ⟨.refl _, fun _ => rfl, fun _ => Nat.zero_le _⟩
theorem find_filter {α : Type} (p : α → Bool) : ∀ xs : List α, xs.find? p = (xs.filter p)[0]?
  | [] => rfl
  | x :: xs => by
    by_cases h : p x = true
    · rw [List.find?_cons_of_pos h, List.filter_cons_of_pos h]; rfl
    · rw [List.find?_cons_of_neg h, List.filter_cons_of_neg h, find_filter p xs]
theorem Took.pl_eq {row : List Str} {tk : Str → Nat} {rem : Rem} (T : Took A row tk rem) (s : Str) : pl rem s = (places row s)[tk s]? := by
  unfold pl
  rw [find_filter, ← List.getElem?_map, T.at_, List.getElem?_drop]; rfl
theorem pl_cons {t s : Str} {i : Nat} {rem : Rem} : pl ((t, i) :: rem) s = if t = s then some i else pl rem s := by
  unfold pl
  by_cases h : t = s
  · rw [List.find?_cons_of_pos (by simpa using h), if_pos h]; rfl
  · rw [List.find?_cons_of_neg (by simpa using h), if_neg h]
theorem pl_mem {rem : Rem} {s : Str} {i : Nat} (h : pl rem s = some i) : (s, i) ∈ rem := by
  unfold pl at h
  cases e : rem.find? fun p => decide (p.1 = s) with
  | none => rw [e] at h; cases h
  | some p =>
    rw [e] at h; cases h
    have h1 := List.mem_of_find?_eq_some e
    have h2 := List.find?_some e
    simp at h2
    subst h2
    exact h1
theorem pl_none {rem : Rem} {s : Str} : pl rem s = none ↔ s ∉ rem.map (·.1) := by
  induction rem with
  | nil => simp [pl]
  | cons p rem ih =>
    obtain ⟨t, i⟩ := p
    rw [pl_cons]
    by_cases h : t = s
    · rw [if_pos h]; simp [h]
    · rw [if_neg h, ih]; simp [Ne.symm h]
/-- s is there, and all that is ahead of it may be exchanged with it -/
theorem fstB_iff {rem : Rem} (hs : rem.Pairwise fun a b => a.2 < b.2) (hm : ∀ p ∈ rem, p.1 ∈ A.signs) (s : Str) :
    fstB A (rem.map (·.1)) s = true ↔ ∃ h, pl rem s = some h ∧ ∀ b ∈ A.signs, fr A s b = false → b ≠ s → ∀ k, pl rem b = some k → h < k := by
  induction rem with
  | nil => simp [fstB, pl]
  | cons p rem ih =>
    obtain ⟨t, i⟩ := p
    obtain ⟨h1, h2⟩ := List.pairwise_cons.mp hs
    have ih := ih h2 fun p hp => hm p (List.mem_cons_of_mem _ hp)
    simp only [List.map_cons, fstB, pl_cons]
    by_cases e : t = s
    · rw [if_pos e, if_pos e]
      refine ⟨fun _ => ⟨i, rfl, fun b hb hf hn k hk => ?_⟩, fun _ => rfl⟩
      rw [if_neg (fun z => hn (by rw [← z, e]))] at hk
      exact h1 _ (pl_mem hk)
    · rw [if_neg e, if_neg e, Bool.and_eq_true, ih]
      constructor
      · rintro ⟨hf, h, hp, ha⟩
        refine ⟨h, hp, fun b hb hf' hn k hk => ?_⟩
        by_cases eb : t = b
        · subst eb
          rw [fr_comm, hf] at hf'; cases hf'
        · rw [if_neg eb] at hk
          exact ha b hb hf' hn k hk
      · rintro ⟨h, hp, ha⟩
        have hlt : i < h := h1 _ (pl_mem hp)
        have hf : fr A t s = true := by
          cases q : fr A t s with
          | true => rfl
          | false =>
            have := ha t (hm _ List.mem_cons_self) (by rw [fr_comm]; exact q) e i (if_pos rfl)
            omega
        refine ⟨hf, h, hp, fun b hb hf' hn k hk => ?_⟩
        by_cases eb : t = b
        · subst eb
          rw [fr_comm, hf] at hf'; cases hf'
        · exact ha b hb hf' hn k (by rw [if_neg eb]; exact hk)
/-- the first s is taken -/
def tkOne (rem : Rem) (s : Str) : Rem := rem.eraseP fun p => decide (p.1 = s)
theorem filter_eraseP_same {α : Type} (p : α → Bool) : ∀ xs : List α, (xs.eraseP p).filter p = (xs.filter p).drop 1
  | [] => rfl
  | x :: xs => by
    by_cases h : p x = true
    · rw [List.eraseP_cons_of_pos h, List.filter_cons_of_pos h]; rfl
    · rw [List.eraseP_cons_of_neg h, List.filter_cons_of_neg h, List.filter_cons_of_neg h, filter_eraseP_same p xs]
theorem filter_eraseP_other {α : Type} (p q : α → Bool) (h : ∀ x, p x = true → q x = false) : ∀ xs : List α, (xs.eraseP p).filter q = xs.filter q
  | [] => rfl
  | x :: xs => by
    by_cases hx : p x = true
    · rw [List.eraseP_cons_of_pos hx, List.filter_cons_of_neg (by rw [h x hx]; simp)]
    · rw [List.eraseP_cons_of_neg hx]
      by_cases hq : q x = true
      · rw [List.filter_cons_of_pos hq, List.filter_cons_of_pos hq, filter_eraseP_other p q h xs]
      · rw [List.filter_cons_of_neg hq, List.filter_cons_of_neg hq, filter_eraseP_other p q h xs]
theorem Took.take {row : List Str} {tk : Str → Nat} {rem : Rem} (T : Took A row tk rem) {s : Str} (h : s ∈ rem.map (·.1)) : Took A row (fun b => if b = s then tk b + 1 else tk b) (tkOne rem s) := by
  refine ⟨List.eraseP_sublist.trans T.sub, fun b => ?_, fun b => ?_⟩
  · unfold tkOne
    by_cases e : b = s
    · subst e
      rw [filter_eraseP_same, List.map_drop, T.at_, List.drop_drop, if_pos rfl]
    · rw [filter_eraseP_other _ _ (fun x hx => by simp at hx ⊢; rw [hx]; exact Ne.symm e), T.at_, if_neg e]
  · by_cases e : b = s
    · subst e
      rw [if_pos rfl]
      have e1 := T.pl_eq b
      cases q : pl rem b with
      | none => exact absurd h (pl_none.mp q)
      | some i =>
        rw [q] at e1
        have := (List.getElem?_eq_some_iff.mp e1.symm).1
        omega
    · rw [if_neg e]; exact T.le b
theorem tkOne_map (rem : Rem) (s : Str) : (tkOne rem s).map (·.1) = (rem.map (·.1)).erase s := by
  unfold tkOne
  induction rem with
  | nil => rfl
  | cons p rem ih =>
    obtain ⟨t, i⟩ := p
    by_cases h : t = s
    · rw [List.eraseP_cons_of_pos (by simpa using h)]; subst h; simp
    · rw [List.eraseP_cons_of_neg (by simpa using h)]
      simp only [List.map_cons]
      rw [List.erase_cons_tail (by simpa using h), ih]
theorem zip_map (row : List Str) : row.zipIdx.map (·.1) = row := by simp
theorem Took.in {row : List Str} {tk : Str → Nat} {rem : Rem} (T : Took A row tk rem) (hr : ∀ s ∈ row, s ∈ A.signs) : ∀ p ∈ rem, p.1 ∈ A.signs := fun p hp => by
  have h1 := T.sub.subset hp
  refine hr _ ?_
  rw [← zip_map row]
  exact List.mem_map_of_mem h1
end
end Dt

set_option Elab.async false
set_option autoImplicit false
set_option linter.all false
set_option maxRecDepth 100000
set_option maxHeartbeats 400000
namespace Dt
open PySem PySem.Spec PyProof.Rows L2 LamX RZ PySem.P
local macro_rules | `(tactic| walk_at "w1") => `(tactic| with_reducible refine StepW.go ?_)
local macro_rules | `(tactic| walk_at "w") => `(tactic| ((repeat walk_at "w1"); try (with_reducible conv => whnf)))
local macro_rules | `(tactic| walk_at "m") => `(tactic| first | with_reducible assumption | with_reducible exact put_same | (with_reducible apply Ext.get; (with_reducible assumption); walk_at "m") | (with_reducible apply Ext.get; (with_reducible apply Ext.new); (with_reducible assumption); walk_at "m"))
local macro_rules | `(tactic| walk_at "x") => `(tactic| first | with_reducible assumption | with_reducible exact Ext.refl | (with_reducible refine Ext.alloc ?_ (by with_reducible assumption) _; walk_at "x") | (with_reducible refine Ext.trans ?_ (by with_reducible assumption); walk_at "x"))
local macro_rules | `(tactic| walk_at "lk") => `(tactic| first | with_reducible exact look1 | ((with_reducible apply lookS); (with_unfolding_all decide); walk_at "lk"))
local macro_rules | `(tactic| walk_at "g1") => `(tactic| (first
  | with_reducible refine StepW.go ?_
  | with_reducible refine StepG.go ?_
  | with_reducible refine w_isTup ?_
  | ((with_reducible refine w_sz ?sz ?_); (case sz => size_fits))
  | ((with_reducible refine w_len ?sz ?_); (case sz => rfl))
  | ((with_reducible refine w_obj (by walk_at "m") ?ob2 ?_); (case ob2 => walk_at "ln"))
  | (with_reducible refine w_lenL (by walk_at "m") ?_) | (with_reducible refine w_seqL (by walk_at "m") ?_) | (with_reducible refine tup_list (by walk_at "m") ?_)
  | (with_reducible refine w_isLst (by walk_at "m") ?_) | (with_reducible refine w_slL (by walk_at "m") ?_)
  | ((with_reducible refine fld_ok (by walk_at "m") ?cl (by walk_at "lk") ?_); (case cl => walk_at "cl"))
  | (with_reducible refine w_lstL (by walk_at "m") ?_) | (with_reducible refine w_dic (by walk_at "m") ?_)
  ))
local macro_rules | `(tactic| walk_at "g") => `(tactic| ((repeat walk_at "g1"); try (with_reducible conv => whnf)))
local macro_rules | `(tactic| walk_at "ln") => `(tactic| first | exact look_none (ns := ["row", "signs", "dependent", "places", "taken"]) rfl (by decide) | exact look_none (ns := ["alphabet", "due", "its_left", "signs", "parting"]) rfl (by decide) | exact look_none (ns := ["alphabet", "its_lag", "parting"]) rfl (by decide))
local macro_rules | `(tactic| walk_at "cl") => `(tactic| first | exact CF.get (by with_reducible assumption) (by decide))
/-! ### fields, dicts -/
section
variable {K : Bd} {M : DM} {Q : DQ}
theorem valD_map {xs : List Str} (f : Str → D) {s : Str} (h : s ∈ xs) : valD (xs.map fun x => ((.inr x : Key), f x)) (.inr s) = some (f s) := by
  unfold valD
  induction xs with
  | nil => cases h
  | cons x xs ih =>
    by_cases e : x = s
    · subst e
      rw [List.map_cons, List.find?_cons_of_pos (by simp)]; rfl
    · rw [List.map_cons, List.find?_cons_of_neg (by simpa using e)]
      exact ih (by cases h with | head => exact absurd rfl e | tail _ h => exact h)
theorem dget_str {a : Addr} {kvs : List (Key × D)} {s : Str} {v : D} (e : M a = some (.dK kvs)) (h : valD kvs (.inr s) = some v) (q : Q v M) : dgetD (.ref a) (.str s) M Q := ⟨a, v, rfl, by rw [← h]; exact .k e rfl, q⟩
theorem putD_map {xs : List Str} (f : Str → D) {s : Str} (v : D) (h : s ∈ xs) : putD (xs.map fun x => ((.inr x : Key), f x)) (.inr s) v = xs.map fun x => ((.inr x : Key), if x = s then v else f x) := by
  unfold putD
  have : ((xs.map fun x => ((.inr x : Key), f x)).any fun kv => decide (kv.1 = .inr s)) = true := by
    rw [List.any_eq_true]
    exact ⟨_, List.mem_map_of_mem h, by simp⟩
  rw [this]
  simp only [List.map_map]
  refine List.map_congr_left fun x hx => ?_
  simp only [Function.comp]
  by_cases e : x = s
  · subst e; simp
  · rw [if_neg (fun z => e (Sum.inr.inj z)), if_neg e]
theorem putD_new {κ : Type} [DecidableEq κ] {kvs : List (κ × D)} {k : κ} (v : D) (h : k ∉ kvs.map (·.1)) : putD kvs k v = kvs ++ [(k, v)] := by
  unfold putD
  have : (kvs.any fun kv => decide (kv.1 = k)) = false := by
    rw [List.any_eq_false]
    intro x hx
    simp only [decide_eq_true_eq]
    intro z
    exact h (z ▸ List.mem_map_of_mem hx)
  rw [this]
end
/-- what the module says of Left -/
structure LF (K : Bd) : Prop where
  row : Cls K (He.ga K.K "Left") ∧ NoAttr K (He.ga K.K "Left") "row"
  signs : Cls K (He.ga K.K "Left") ∧ NoAttr K (He.ga K.K "Left") "signs"
  dependent : Cls K (He.ga K.K "Left") ∧ NoAttr K (He.ga K.K "Left") "dependent"
  places : Cls K (He.ga K.K "Left") ∧ NoAttr K (He.ga K.K "Left") "places"
  taken : Cls K (He.ga K.K "Left") ∧ NoAttr K (He.ga K.K "Left") "taken"
section
variable {K : Bd} {M M' : DM} {Q : DQ} {A : Alph} {S : Addr → Prop} {x d p t : Addr} {row : List Str} {tk : Str → Nat} {rem : Rem}
/-- the part of a Left that stays -/
structure LeftFix (S : Addr → Prop) (M : DM) (A : Alph) (row : List Str) (d p : Addr) : Prop where
  sd : S d
  sp : S p
  dep : ∃ da : Str → Addr, M d = some (.dK (A.signs.map fun s => (.inr s, .ref (da s)))) ∧ ∀ s ∈ A.signs, S (da s) ∧ ∃ ds : List Str, M (da s) = some (.lst (ds.map .str)) ∧ ds.length ≤ sizeLine ∧ ∀ b, b ∈ ds ↔ b = s ∨ (b ∈ A.signs ∧ fr A s b = false)
  pla : ∃ pa : Str → Addr, M p = some (.dK (A.signs.map fun s => (.inr s, .ref (pa s)))) ∧ ∀ s ∈ A.signs, S (pa s) ∧ M (pa s) = some (.lst ((places row s).map fun n : Nat => D.int (n : Int)))
theorem LeftFix.mono (h : LeftFix S M A row d p) (k : ∀ a o, S a → M a = some o → M' a = some o) : LeftFix S M' A row d p := by
  obtain ⟨sd, sp, ⟨da, e1, h1⟩, ⟨pa, e2, h2⟩⟩ := h
  exact ⟨sd, sp, ⟨da, k _ _ sd e1, fun s hs => ⟨(h1 s hs).1, let ⟨ds, e, r⟩ := (h1 s hs).2; ⟨ds, k _ _ (h1 s hs).1 e, r⟩⟩⟩, ⟨pa, k _ _ sp e2, fun s hs => ⟨(h2 s hs).1, k _ _ (h2 s hs).1 (h2 s hs).2⟩⟩⟩
@[reducible] def leftO (K : Bd) (A : Alph) (row : List Str) (d p t : Addr) : DO := .ins (He.ga K.K "Left") [("row", Enc.d row), ("signs", .tup (A.signs.map .str)), ("dependent", .ref d), ("places", .ref p), ("taken", .ref t)]
def tkO (A : Alph) (tk : Str → Nat) : DO := .dK (A.signs.map fun s => (.inr s, .int (tk s : Nat)))
/-- a Left -/
structure LeftAt (K : Bd) (S : Addr → Prop) (M : DM) (x t : Addr) (A : Alph) (row : List Str) (rem : Rem) : Prop where
  ex : ∃ d p tk, M x = some (leftO K A row d p t) ∧ LeftFix S M A row d p ∧ M t = some (tkO A tk) ∧ Took A row tk rem
  sx : S x
  nt : ¬ S t
theorem LeftAt.mono (h : LeftAt K S M x t A row rem) (k : ∀ a o, S a → M a = some o → M' a = some o) (kt : ∀ o, M t = some o → M' t = some o) : LeftAt K S M' x t A row rem := by
  obtain ⟨⟨d, p, tk, e, f, et, T⟩, sx, nt⟩ := h
  exact ⟨⟨d, p, tk, k _ _ sx e, f.mono k, kt _ et, T⟩, sx, nt⟩
theorem LeftAt.ext (h : LeftAt K S M x t A row rem) (k : Ext M M') : LeftAt K S M' x t A row rem := h.mono (fun a o _ e => k a o e) (fun o e => k _ _ e)
@[reducible] def optN : Option Nat → D
  | none => .non
  | some n => .int (n : Int)
theorem s_place (F : LF K) (h : LeftAt K S M x t A row rem) {s : Str} (hs : s ∈ A.signs) (q : Q (optN (pl rem s)) M) : sp_Left_place K [.ref x, .str s] M Q noX := by
  obtain ⟨⟨d, p, tk, e, f, et, T⟩, sx, nt⟩ := h
  obtain ⟨pa, ep, hp⟩ := f.pla
  have e' : M x = some (.ins _ _) := e
  refine go_Left_place ?_
  delta t_Left_place
  walk_at "w"
  refine fld_ok e' F.taken (lookS (by decide) (lookS (by decide) (lookS (by decide) (lookS (by decide) look1)))) ?_
  walk_at "w"
  refine dget_str et (valD_map _ hs) ?_
  walk_at "w"
  refine fld_ok e' F.places (lookS (by decide) (lookS (by decide) (lookS (by decide) look1))) ?_
  walk_at "w"
  refine dget_str ep (valD_map _ hs) ?_
  walk_at "w"
  refine .inl ⟨_, (hp s hs).2, ?_⟩
  walk_at "w"
  refine lt_int ?_
  walk_at "w"
  rw [List.length_map]
  rw [T.pl_eq] at q
  cases hl : decide ((tk s : Int) < ((places row s).length : Int))
  · walk_at "w"
    have := of_decide_eq_false hl
    rw [List.getElem?_eq_none_iff.mpr (by omega)] at q
    exact q
  · walk_at "w"
    have := of_decide_eq_true hl
    rw [List.getElem?_eq_getElem (by omega)] at q
    refine fld_ok e' F.places (lookS (by decide) (lookS (by decide) (lookS (by decide) look1))) ?_
    walk_at "w"
    refine dget_str ep (valD_map _ hs) ?_
    walk_at "w"
    refine ix_lst (hp s hs).2 (x := .int ((places row s)[tk s]'(by omega) : Nat)) (by rw [List.getElem?_map, List.getElem?_eq_getElem (by omega)]; rfl) ?_
    exact q
end
end Dt

set_option Elab.async false
set_option autoImplicit false
set_option linter.all false
set_option maxRecDepth 100000
set_option maxHeartbeats 400000
namespace Dt
open PySem PySem.Spec PyProof.Rows L2 LamX RZ PySem.P
local macro_rules | `(tactic| walk_at "w1") => `(tactic| with_reducible refine StepW.go ?_)
local macro_rules | `(tactic| walk_at "w") => `(tactic| ((repeat walk_at "w1"); try (with_reducible conv => whnf)))
local macro_rules | `(tactic| walk_at "m") => `(tactic| first | with_reducible assumption | with_reducible exact put_same | (with_reducible apply Ext.get; (with_reducible assumption); walk_at "m") | (with_reducible apply Ext.get; (with_reducible apply Ext.new); (with_reducible assumption); walk_at "m"))
local macro_rules | `(tactic| walk_at "x") => `(tactic| first | with_reducible assumption | with_reducible exact Ext.refl | (with_reducible refine Ext.alloc ?_ (by with_reducible assumption) _; walk_at "x") | (with_reducible refine Ext.trans ?_ (by with_reducible assumption); walk_at "x"))
local macro_rules | `(tactic| walk_at "lk") => `(tactic| first | with_reducible exact look1 | ((with_reducible apply lookS); (with_unfolding_all decide); walk_at "lk"))
local macro_rules | `(tactic| walk_at "g1") => `(tactic| (first
  | with_reducible refine StepW.go ?_
  | with_reducible refine StepG.go ?_
  | with_reducible refine w_isTup ?_
  | ((with_reducible refine w_sz ?sz ?_); (case sz => size_fits))
  | ((with_reducible refine w_len ?sz ?_); (case sz => rfl))
  | ((with_reducible refine w_obj (by walk_at "m") ?ob2 ?_); (case ob2 => walk_at "ln"))
  | (with_reducible refine w_lenL (by walk_at "m") ?_) | (with_reducible refine w_seqL (by walk_at "m") ?_) | (with_reducible refine tup_list (by walk_at "m") ?_)
  | (with_reducible refine w_isLst (by walk_at "m") ?_) | (with_reducible refine w_slL (by walk_at "m") ?_)
  | ((with_reducible refine fld_ok (by walk_at "m") ?cl (by walk_at "lk") ?_); (case cl => walk_at "cl"))
  | (with_reducible refine w_lstL (by walk_at "m") ?_) | (with_reducible refine w_dic (by walk_at "m") ?_)
  ))
local macro_rules | `(tactic| walk_at "g") => `(tactic| ((repeat walk_at "g1"); try (with_reducible conv => whnf)))
local macro_rules | `(tactic| walk_at "ln") => `(tactic| first | exact look_none (ns := ["row", "signs", "dependent", "places", "taken"]) rfl (by decide) | exact look_none (ns := ["alphabet", "due", "its_left", "signs", "parting"]) rfl (by decide) | exact look_none (ns := ["alphabet", "its_lag", "parting"]) rfl (by decide))
local macro_rules | `(tactic| walk_at "cl") => `(tactic| first | exact CF.get (by with_reducible assumption) (by decide))
section
variable {K : Bd} {M M' : DM} {Q : DQ} {A : Alph} {S : Addr → Prop} {x d p t : Addr} {row : List Str} {tk : Str → Nat} {rem : Rem}
theorem LeftAt.o (h : LeftAt K S M x t A row rem) : ∃ d p, M x = some (leftO K A row d p t) := by
  obtain ⟨⟨d, p, tk, e, f, et, T⟩, sx, nt⟩ := h
  exact ⟨d, p, e⟩
abbrev leftNs : List Str := ["row", "signs", "dependent", "places", "taken"]
theorem LeftAt.sorted (h : LeftAt K S M x t A row rem) : rem.Pairwise fun a b => a.2 < b.2 := by
  obtain ⟨⟨d, p, tk, e, f, et, T⟩, sx, nt⟩ := h
  exact T.sorted
theorem LeftAt.in (h : LeftAt K S M x t A row rem) (hr : ∀ s ∈ row, s ∈ A.signs) : ∀ p ∈ rem, p.1 ∈ A.signs := by
  obtain ⟨⟨d, p, tk, e, f, et, T⟩, sx, nt⟩ := h
  exact T.in hr
def bigger (h : Nat) : Option Nat → Bool
  | none => true
  | some k => decide (h < k)
theorem s_can_be_first (F : LF K) (h : LeftAt K S M x t A row rem) (hr : ∀ s ∈ row, s ∈ A.signs) {s : Str} (hs : s ∈ A.signs) (q : ∀ M', Ext M M' → Q (.bl (fstB A (rem.map (·.1)) s)) M') : sp_Left_can_be_first K [.ref x, .str s] M Q noX := by
  have hB := fstB_iff (A := A) h.sorted (h.in hr) s
  obtain ⟨d, p, e⟩ := h.o
  refine go_Left_can_be_first ?_
  delta t_Left_can_be_first
  walk_at "w"
  refine w_meth ?_
  walk_at "w"
  refine ⟨_, _, rfl, e, look_none (ns := leftNs) rfl (by decide), ?_⟩
  walk_at "w"
  refine s_place F h hs ?_
  walk_at "w"
  cases hp : pl rem s with
  | none =>
    refine ⟨rfl, ?_⟩
    have : fstB A (rem.map (·.1)) s = false := by
      cases z : fstB A (rem.map (·.1)) s with
      | false => rfl
      | true => obtain ⟨k, hk, _⟩ := hB.mp z; rw [hp] at hk; cases hk
    rw [this] at q
    exact q M .refl
  | some k =>
    refine ⟨rfl, ?_⟩
    walk_at "w"
    refine w_lc ?_
    walk_at "w"
    have e' : M x = some (.ins _ _) := e
    refine fld_ok e' F.dependent (lookS (by decide) (lookS (by decide) look1)) ?_
    walk_at "w"
    have h0 := h
    obtain ⟨⟨d', p', tk, e1, f, et, T⟩, sx, nt⟩ := h
    have he : leftO K A row d p t = leftO K A row d' p' t := Option.some.inj (e.symm.trans e1)
    have hd : d = d' := by
      unfold leftO at he
      injection he with _ he
      simp at he
      exact he.1
    subst hd
    obtain ⟨da, ed, hda⟩ := f.dep
    obtain ⟨_, ds, eds, hdl, hmem⟩ := hda s hs
    refine dget_str ed (valD_map _ hs) ?_
    walk_at "w"
    refine ⟨⟨_, eds⟩, ?_⟩
    have hin : ∀ b ∈ ds, b ∈ A.signs := fun b hb => by
      rcases (hmem b).mp hb with z | z
      · rw [z]; exact hs
      · exact z.1
    refine lc_pure ds .str (fun b => !decide (b = s)) (fun b => optN (pl rem b)) (fun i M' e2 _ => itL_is (e2 _ _ eds) i) hdl ?_ ?_
    · intro i b M2 hb e2 KT KF kt kf
      walk_at "w"
      refine ne_str ?_
      walk_at "w"
      cases hc : !decide (b = s)
      · walk_at "w"
        exact kf hc _ e2
      · walk_at "w"
        refine w_meth ?_
        walk_at "w"
        refine ⟨_, _, rfl, e2 _ _ e, look_none (ns := leftNs) rfl (by decide), ?_⟩
        walk_at "w"
        exact s_place F (h0.ext e2) (hin b (List.mem_of_getElem? hb)) (kt hc _ e2)
    · intro M2 p2 e2 hp2
      walk_at "w"
      refine w_lc ?_
      walk_at "w"
      refine ⟨⟨_, put_same⟩, ?_⟩
      refine lc_pure ((ds.filter fun b => !decide (b = s)).map fun b => pl rem b) optN (fun _ => true) (fun o => .bl (bigger k o)) (fun i M' e3 _ => by rw [itL_is (e3 _ _ put_same) i, List.map_map]; rfl) (by rw [List.length_map]; exact Nat.le_trans (List.length_filter_le _ _) hdl) ?_ ?_
      · intro i o M3 ho e3 KT KF kt kf
        walk_at "w"
        refine w_yes ?_
        walk_at "w"
        cases o with
        | none =>
          refine ⟨rfl, ?_⟩
          walk_at "w"
          exact kt rfl _ e3
        | some j =>
          refine ⟨rfl, ?_⟩
          walk_at "w"
          refine gt_int ?_
          have e4 : decide ((k : Int) < (j : Int)) = bigger k (some j) := by
            unfold bigger
            rw [Bool.eq_iff_iff]; simp
          rw [e4]
          exact kt rfl _ e3
      · intro M3 p3 e3 hp3
        walk_at "w"
        refine ⟨((ds.filter fun b => !decide (b = s)).map fun b => bigger k (pl rem b)), by rw [put_same, List.filter_eq_self.mpr (fun _ _ => rfl), List.map_map, List.map_map]; rfl, ?_⟩
        have e4 : (((ds.filter fun b => !decide (b = s)).map fun b => bigger k (pl rem b)).all id) = fstB A (rem.map (·.1)) s := by
          rw [Bool.eq_iff_iff, hB, List.all_eq_true]
          constructor
          · intro z
            refine ⟨k, hp, fun b hb hf hn j hj => ?_⟩
            have := z _ (List.mem_map_of_mem (f := fun b => bigger k (pl rem b)) (List.mem_filter.mpr ⟨(hmem b).mpr (.inr ⟨hb, hf⟩), by simpa using hn⟩))
            simp only [id_eq, hj, bigger, decide_eq_true_eq] at this
            exact this
          · rintro ⟨k', hk', z⟩ y hy
            rw [hp] at hk'
            cases hk'
            obtain ⟨b, hb, rfl⟩ := List.mem_map.mp hy
            obtain ⟨hb1, hb2⟩ := List.mem_filter.mp hb
            have hn : b ≠ s := by simpa using hb2
            rcases (hmem b).mp hb1 with g | g
            · exact absurd g hn
            · show bigger k (pl rem b) = true
              cases hj : pl rem b with
              | none => rfl
              | some j => exact decide_eq_true (z b g.1 g.2 hn j hj)
        rw [e4]
        exact q _ ((e2.alloc hp2 _).trans (e3.alloc hp3 _))
theorem s_firsts (F : LF K) (h : LeftAt K S M x t A row rem) (g : GoodA A) (hr : ∀ s ∈ row, s ∈ A.signs) (q : ∀ M' l, Ext M M' → M' l = some (.lst ((A.signs.filter fun s => fstB A (rem.map (·.1)) s).map .str)) → Q (.ref l) M') : sp_Left_firsts K [.ref x] M Q noX := by
  obtain ⟨d, p, e⟩ := h.o
  have e' : M x = some (.ins _ _) := e
  refine go_Left_firsts ?_
  delta t_Left_firsts
  walk_at "w"
  refine w_lc ?_
  walk_at "w"
  refine fld_ok e' F.signs (lookS (by decide) look1) ?_
  walk_at "w"
  refine lc_pure A.signs .str (fun s => fstB A (rem.map (·.1)) s) .str (fun i M' e2 _ => rfl) (Nat.le_trans g.short (by size_fits)) ?_ ?_
  · intro i b M2 hb e2 KT KF kt kf
    walk_at "w"
    refine w_meth ?_
    walk_at "w"
    refine ⟨_, _, rfl, e2 _ _ e, look_none (ns := leftNs) rfl (by decide), ?_⟩
    walk_at "w"
    refine s_can_be_first F (h.ext e2) hr (List.mem_of_getElem? hb) fun M3 e3 => ?_
    walk_at "w"
    cases hc : fstB A (rem.map (·.1)) b
    · walk_at "w"
      exact kf hc _ (e2.trans e3)
    · walk_at "w"
      exact kt hc _ (e2.trans e3)
  · intro M2 p2 e2 hp2
    exact q _ _ (e2.alloc hp2 _) put_same
theorem s_take (F : LF K) (g : GoodA A) (h : LeftAt K S M x t A row rem) {s : Str} (hs : s ∈ A.signs) (hin : s ∈ rem.map (·.1)) (q : ∀ M', (∀ a o, a ≠ t → M a = some o → M' a = some o) → LeftAt K S M' x t A row (tkOne rem s) → Q .non M') : sp_Left_take K [.ref x, .str s] M Q noX := by
  obtain ⟨⟨d, p, tk, e, f, et, T⟩, sx, nt⟩ := h
  have e' : M x = some (.ins _ _) := e
  refine go_Left_take ?_
  delta t_Left_take
  unfold dDAug
  walk_at "w"
  refine fld_ok e' F.taken (lookS (by decide) (lookS (by decide) (lookS (by decide) (lookS (by decide) look1)))) ?_
  walk_at "w"
  refine ⟨t, _, rfl, by rw [← valD_map (fun s => D.int (tk s : Nat)) hs]; exact .k et rfl, ?_⟩
  walk_at "w"
  refine (show intOp0 _ _ _ _ _ from ?_)
  refine ⟨_, .k et rfl (by rw [List.length_map]; exact Nat.lt_of_le_of_lt g.short (by size_fits)), ?_⟩
  have e5 : putD (A.signs.map fun s => ((.inr s : Key), D.int (tk s : Nat))) (.inr s) (.int ((tk s : Int) + 1)) = A.signs.map fun b => ((.inr b : Key), D.int ((if b = s then tk b + 1 else tk b : Nat) : Int)) := by
    rw [putD_map _ _ hs]
    refine List.map_congr_left fun b hb => ?_
    by_cases z : b = s
    · subst z; simp
    · rw [if_neg z, if_neg z]
  have keep : ∀ a o, a ≠ t → M a = some o → put M t (.dK (putD (A.signs.map fun s => ((.inr s : Key), D.int (tk s : Nat))) (.inr s) (.int ((tk s : Int) + 1)))) a = some o := fun a o ha ea => by rw [put_ne ha]; exact ea
  refine q _ keep ⟨⟨d, p, _, keep _ _ (fun z => nt (z ▸ sx)) e, f.mono fun a o sa ea => keep _ _ (fun z => nt (z ▸ sa)) ea, ?_, T.take hin⟩, sx, nt⟩
  rw [put_same, e5]; rfl
end
end Dt

set_option Elab.async false
set_option autoImplicit false
set_option linter.all false
set_option maxRecDepth 100000
set_option maxHeartbeats 400000
namespace Dt
open PySem PySem.Spec PyProof.Rows L2 LamX RZ PySem.P
local macro_rules | `(tactic| walk_at "w1") => `(tactic| with_reducible refine StepW.go ?_)
local macro_rules | `(tactic| walk_at "w") => `(tactic| ((repeat walk_at "w1"); try (with_reducible conv => whnf)))
local macro_rules | `(tactic| walk_at "m") => `(tactic| first | with_reducible assumption | with_reducible exact put_same | (with_reducible apply Ext.get; (with_reducible assumption); walk_at "m") | (with_reducible apply Ext.get; (with_reducible apply Ext.new); (with_reducible assumption); walk_at "m"))
local macro_rules | `(tactic| walk_at "x") => `(tactic| first | with_reducible assumption | with_reducible exact Ext.refl | (with_reducible refine Ext.alloc ?_ (by with_reducible assumption) _; walk_at "x") | (with_reducible refine Ext.trans ?_ (by with_reducible assumption); walk_at "x"))
local macro_rules | `(tactic| walk_at "lk") => `(tactic| first | with_reducible exact look1 | ((with_reducible apply lookS); (with_unfolding_all decide); walk_at "lk"))
local macro_rules | `(tactic| walk_at "g1") => `(tactic| (first
  | with_reducible refine StepW.go ?_
  | with_reducible refine StepG.go ?_
  | with_reducible refine w_isTup ?_
  | ((with_reducible refine w_sz ?sz ?_); (case sz => size_fits))
  | ((with_reducible refine w_len ?sz ?_); (case sz => rfl))
  | ((with_reducible refine w_obj (by walk_at "m") ?ob2 ?_); (case ob2 => walk_at "ln"))
  | (with_reducible refine w_lenL (by walk_at "m") ?_) | (with_reducible refine w_seqL (by walk_at "m") ?_) | (with_reducible refine tup_list (by walk_at "m") ?_)
  | (with_reducible refine w_isLst (by walk_at "m") ?_) | (with_reducible refine w_slL (by walk_at "m") ?_)
  | ((with_reducible refine fld_ok (by walk_at "m") ?cl (by walk_at "lk") ?_); (case cl => walk_at "cl"))
  | (with_reducible refine w_lstL (by walk_at "m") ?_) | (with_reducible refine w_dic (by walk_at "m") ?_)
  ))
local macro_rules | `(tactic| walk_at "g") => `(tactic| ((repeat walk_at "g1"); try (with_reducible conv => whnf)))
local macro_rules | `(tactic| walk_at "ln") => `(tactic| first | exact look_none (ns := ["row", "signs", "dependent", "places", "taken"]) rfl (by decide) | exact look_none (ns := ["alphabet", "due", "its_left", "signs", "parting"]) rfl (by decide) | exact look_none (ns := ["alphabet", "its_lag", "parting"]) rfl (by decide))
local macro_rules | `(tactic| walk_at "cl") => `(tactic| first | exact CF.get (by with_reducible assumption) (by decide))
section
variable {K : Bd} {M M' : DM} {Q : DQ} {A : Alph} {S : Addr → Prop} {x d p t : Addr} {row : List Str} {tk : Str → Nat} {rem : Rem}
theorem nodup_take {α : Type} {xs : List α} (nd : xs.Nodup) {i : Nat} {x : α} (h : xs[i]? = some x) : x ∉ xs.take i := by
  intro hm
  obtain ⟨j, hj, e⟩ := List.mem_iff_getElem.mp hm
  rw [List.length_take] at hj
  rw [List.getElem_take] at e
  obtain ⟨hi, e2⟩ := List.getElem?_eq_some_iff.mp h
  have := (List.getElem_inj nd).mp (e.trans e2.symm)
  omega
/-- a dict made over signs that are not twice there -/
theorem dc_keys {J : ItD} {g : TGD} {tt : TTD} {tk tv : TED} {vs : List Nat} {σ : Std} (xs : List Str) (nd : xs.Nodup) (V : Str → D → DM → Prop) (mono : ∀ s v M1 M2, V s v M1 → Ext M1 M2 → V s v M2)
    (hJ : ∀ i M', Ext M M' → i ≤ xs.length → J i M' = some (xs.map D.str)[i]?) (hz : xs.length ≤ sizeLine)
    (step : ∀ (s : Str) (M' : DM), s ∈ xs → Ext M M' → ∀ (KT : D → D → DM → Prop) (KF : DM → Prop), (∀ v M2, Ext M' M2 → V s v M2 → KT (.str s) v M2) →
      g (.str s) (wipeS σ vs) M' (fun σ2 M2 => tt σ2 M2 (qKp (fun M3 => tk σ2 M3 (fun y M4 => tv σ2 M4 (fun z M5 => KT y z M5) noX) noX) KF) noX) noX)
    (done : ∀ M' p (f : Str → D), Ext M M' → M' p = none → (∀ s ∈ xs, V s (f s) M') → Q (.ref p) (put M' p (.dK (xs.map fun s => (.inr s, f s))))) : ∃ n, dcN J g tt tk tv vs σ Q n 0 M [] := by
  refine dc_inv (xs.map .str) (fun i acc M' => Ext M M' ∧ ∃ f : Str → D, acc = (xs.take i).map (fun s => (.inr s, f s)) ∧ ∀ s ∈ xs.take i, V s (f s) M') (fun i acc M' h hi => hJ i M' h.1 (by simpa using hi)) ⟨.refl, fun _ => .non, by simp, by simp⟩ (by simpa using hz) (fun i acc M' h => ?_) (fun i d acc M' hd h KT KF kt kf => ?_) (fun acc M' p h hp => ?_)
  · obtain ⟨_, f, rfl, _⟩ := h
    rw [List.length_map, List.length_take]; exact Nat.min_le_left _ _
  · obtain ⟨e, f, rfl, hf⟩ := h
    rw [List.getElem?_map] at hd
    cases hx : xs[i]? with
    | none => rw [hx] at hd; cases hd
    | some s =>
      rw [hx] at hd; cases hd
      have hs := nodup_take nd hx
      refine step s M' (List.mem_of_getElem? hx) e _ KF fun v M2 e2 hv => kt (.str s) v (.inr s) M2 rfl ⟨e.trans e2, fun b => if b = s then v else f b, ?_, fun b hb => ?_⟩
      · rw [take_succ_get hx, List.map_append, putD_new]
        · congr 1
          · refine List.map_congr_left fun b hb => ?_
            have : b ≠ s := fun z => hs (z ▸ hb)
            simp [this]
          · simp
        · rw [List.map_map]
          intro hm
          obtain ⟨b, hb, eb⟩ := List.mem_map.mp hm
          simp only [Function.comp, Sum.inr.injEq] at eb
          exact hs (eb ▸ hb)
      · rw [take_succ_get hx] at hb
        rcases List.mem_append.mp hb with hb | hb
        · have h2 : b ≠ s := fun z => hs (z ▸ hb)
          simp only [if_neg h2]
          exact mono _ _ _ _ (hf b hb) e2
        · have h2 : b = s := by simpa using hb
          subst h2
          simp only [if_true]
          exact hv
  · obtain ⟨e, f, rfl, hf⟩ := h
    rw [List.length_map, List.take_length] at *
    exact done M' p f e hp hf
def adr : D → Addr
  | .ref a => a
  | _ => 0
def depl (s : Str) (cs : List (Str × Str)) : List Str := s :: cs.filterMap fun c => if c.1 = s then some c.2 else if c.2 = s then some c.1 else none
theorem depl_snoc (s : Str) (cs : List (Str × Str)) (c : Str × Str) : depl s (cs ++ [c]) = if c.1 = s then depl s cs ++ [c.2] else if c.2 = s then depl s cs ++ [c.1] else depl s cs := by
  unfold depl
  rw [List.filterMap_append]
  by_cases h : c.1 = s
  · simp [h]
  · by_cases h2 : c.2 = s
    · simp [h, h2]
    · simp [h, h2]
theorem depl_length (s : Str) (cs : List (Str × Str)) : (depl s cs).length ≤ cs.length + 1 := by
  unfold depl
  rw [List.length_cons]
  exact Nat.succ_le_succ (List.length_filterMap_le _ _)
theorem mem_pairs {α : Type} : ∀ {xs : List α} {a b : α}, (a, b) ∈ pairs xs → a ∈ xs ∧ b ∈ xs
  | [], _, _, h => nomatch h
  | x :: xs, a, b, h => by
    unfold pairs at h
    rcases List.mem_append.mp h with h | h
    · obtain ⟨c, hc, e⟩ := List.mem_map.mp h
      cases e
      exact ⟨List.mem_cons_self, List.mem_cons_of_mem _ hc⟩
    · obtain ⟨h1, h2⟩ := mem_pairs h
      exact ⟨List.mem_cons_of_mem _ h1, List.mem_cons_of_mem _ h2⟩
theorem pairs_sorted : ∀ {xs : List Str}, xs.Pairwise sLt → ∀ {a b : Str}, (a, b) ∈ pairs xs ↔ a ∈ xs ∧ b ∈ xs ∧ sLt a b
  | [], _, _, _ => ⟨fun h => (nomatch h), fun h => (nomatch h.1)⟩
  | x :: xs, hs, a, b => by
    obtain ⟨h1, h2⟩ := List.pairwise_cons.mp hs
    unfold pairs
    rw [List.mem_append, pairs_sorted h2]
    constructor
    · rintro (h | ⟨ha, hb, hl⟩)
      · obtain ⟨c, hc, e⟩ := List.mem_map.mp h
        cases e
        exact ⟨List.mem_cons_self, List.mem_cons_of_mem _ hc, h1 _ hc⟩
      · exact ⟨List.mem_cons_of_mem _ ha, List.mem_cons_of_mem _ hb, hl⟩
    · rintro ⟨ha, hb, hl⟩
      rcases List.mem_cons.mp hb with e | hb2
      · subst e
        rcases List.mem_cons.mp ha with e2 | ha2
        · subst e2; exact absurd hl (slt_irrefl _)
        · exact absurd hl (slt_asymm (h1 _ ha2))
      · rcases List.mem_cons.mp ha with e2 | ha2
        · subst e2; exact .inl (List.mem_map.mpr ⟨b, hb2, rfl⟩)
        · exact .inr ⟨ha2, hb2, hl⟩
theorem mem_dcs {A : Alph} (g : GoodA A) {a b : Str} : (a, b) ∈ dcs A ↔ a ∈ A.signs ∧ b ∈ A.signs ∧ sLt a b ∧ fr A a b = false := by
  unfold dcs
  rw [List.mem_filter, pairs_sorted g.sorted]
  constructor
  · rintro ⟨⟨ha, hb, hl⟩, hf⟩
    refine ⟨ha, hb, hl, ?_⟩
    unfold fr
    rw [minS_of hl, maxS_of hl]
    simpa using hf
  · rintro ⟨ha, hb, hl, hf⟩
    refine ⟨⟨ha, hb, hl⟩, ?_⟩
    unfold fr at hf
    rw [minS_of hl, maxS_of hl] at hf
    simpa using hf
theorem mem_depl {A : Alph} (g : GoodA A) {s : Str} (hs : s ∈ A.signs) (b : Str) : b ∈ depl s (dcs A) ↔ b = s ∨ (b ∈ A.signs ∧ fr A s b = false) := by
  unfold depl
  rw [List.mem_cons, List.mem_filterMap]
  constructor
  · rintro (h | ⟨c, hc, e⟩)
    · exact .inl h
    · obtain ⟨h1, h2, h3, h4⟩ := (mem_dcs g).mp (show (c.1, c.2) ∈ dcs A from hc)
      by_cases z : c.1 = s
      · rw [if_pos z] at e; cases e
        exact .inr ⟨h2, by rw [← z]; exact h4⟩
      · rw [if_neg z] at e
        by_cases z2 : c.2 = s
        · rw [if_pos z2] at e; cases e
          exact .inr ⟨h1, by rw [fr_comm, ← z2]; exact h4⟩
        · rw [if_neg z2] at e; cases e
  · rintro (h | ⟨hb, hf⟩)
    · exact .inl h
    · by_cases e : b = s
      · exact .inl e
      · refine .inr ?_
        rcases slt_tri e with h | h
        · exact ⟨(b, s), (mem_dcs g).mpr ⟨hb, hs, h, by rw [fr_comm]; exact hf⟩, by simp [e]⟩
        · exact ⟨(s, b), (mem_dcs g).mpr ⟨hs, hb, h, hf⟩, by simp⟩
theorem dcs_length {A : Alph} (g : GoodA A) : (dcs A).length ≤ 10000 :=
  Nat.le_trans (List.length_filter_le _ _) (Nat.le_trans (pairs_length _) (Nat.mul_le_mul g.short g.short))
theorem places_length (row : List Str) (s : Str) : (places row s).length ≤ row.length := by
  unfold places
  rw [List.length_map]
  exact Nat.le_trans (List.length_filter_le _ _) (by simp)
end
end Dt

set_option Elab.async false
set_option autoImplicit false
set_option linter.all false
set_option maxRecDepth 100000
set_option maxHeartbeats 400000
namespace Dt
open PySem PySem.Spec PyProof.Rows L2 LamX RZ PySem.P
local macro_rules | `(tactic| walk_at "w1") => `(tactic| with_reducible refine StepW.go ?_)
local macro_rules | `(tactic| walk_at "w") => `(tactic| ((repeat walk_at "w1"); try (with_reducible conv => whnf)))
local macro_rules | `(tactic| walk_at "m") => `(tactic| first | with_reducible assumption | with_reducible exact put_same | (with_reducible apply Ext.get; (with_reducible assumption); walk_at "m") | (with_reducible apply Ext.get; (with_reducible apply Ext.new); (with_reducible assumption); walk_at "m"))
local macro_rules | `(tactic| walk_at "x") => `(tactic| first | with_reducible assumption | with_reducible exact Ext.refl | (with_reducible refine Ext.alloc ?_ (by with_reducible assumption) _; walk_at "x") | (with_reducible refine Ext.trans ?_ (by with_reducible assumption); walk_at "x"))
local macro_rules | `(tactic| walk_at "lk") => `(tactic| first | with_reducible exact look1 | ((with_reducible apply lookS); (with_unfolding_all decide); walk_at "lk"))
local macro_rules | `(tactic| walk_at "g1") => `(tactic| (first
  | with_reducible refine StepW.go ?_
  | with_reducible refine StepG.go ?_
  | with_reducible refine w_isTup ?_
  | ((with_reducible refine w_sz ?sz ?_); (case sz => size_fits))
  | ((with_reducible refine w_len ?sz ?_); (case sz => rfl))
  | ((with_reducible refine w_obj (by walk_at "m") ?ob2 ?_); (case ob2 => walk_at "ln"))
  | (with_reducible refine w_lenL (by walk_at "m") ?_) | (with_reducible refine w_seqL (by walk_at "m") ?_) | (with_reducible refine tup_list (by walk_at "m") ?_)
  | (with_reducible refine w_isLst (by walk_at "m") ?_) | (with_reducible refine w_slL (by walk_at "m") ?_)
  | ((with_reducible refine fld_ok (by walk_at "m") ?cl (by walk_at "lk") ?_); (case cl => walk_at "cl"))
  | (with_reducible refine w_lstL (by walk_at "m") ?_) | (with_reducible refine w_dic (by walk_at "m") ?_)
  ))
local macro_rules | `(tactic| walk_at "g") => `(tactic| ((repeat walk_at "g1"); try (with_reducible conv => whnf)))
local macro_rules | `(tactic| walk_at "ln") => `(tactic| first | exact look_none (ns := ["row", "signs", "dependent", "places", "taken"]) rfl (by decide) | exact look_none (ns := ["alphabet", "due", "its_left", "signs", "parting"]) rfl (by decide) | exact look_none (ns := ["alphabet", "its_lag", "parting"]) rfl (by decide))
local macro_rules | `(tactic| walk_at "cl") => `(tactic| first | exact CF.get (by with_reducible assumption) (by decide))
section
variable {K : Bd} {M M' : DM} {Q : DQ} {A : Alph} {S : Addr → Prop} {x d p t : Addr} {row : List Str} {tk : Str → Nat} {rem : Rem}
theorem fldS_ok {De : DEnds} {σ : Std} {f : Str} {C : Addr} {v : D} {fs fs' : List (Str × D)} {a : Addr} (cl : Cls K C ∧ NoAttr K C f) (e : M a = some (.ins C fs)) (hf : putFD f v fs = fs') (hl : fs.length < 1000) (q : De.nx σ (put M a (.ins C fs'))) :
    ∃ b C' gs, D.ref a = .ref b ∧ M b = some (.ins C' gs) ∧ Cls K C' ∧ NoAttr K C' f ∧ gs.length < 1000 ∧ De.nx σ (put M b (.ins C' (putFD f v gs))) := ⟨a, C, fs, rfl, e, cl.1, cl.2, hl, by rw [hf]; exact q⟩
theorem numD_get' {α : Type} {ds : List α} {f : α → D} {i : Nat} {d : D} (h : (numD (ds.map f))[i]? = some d) : ∃ x, ds[i]? = some x ∧ d = .pair [.int (i : Nat), f x] := by
  obtain ⟨y, hy, rfl⟩ := numD_get h
  rw [List.getElem?_map] at hy
  cases hx : ds[i]? with
  | none => rw [hx] at hy; cases hy
  | some x => rw [hx] at hy; cases hy; exact ⟨x, rfl, rfl⟩
/-- where a sign stands: the comprehension over the numbered row -/
theorem places_take {row : List Str} {i : Nat} {s b : Str} (h : row[i]? = some b) : (((row.take (i + 1)).zipIdx.filter fun p => decide (p.1 = s)).map (·.2)) = (((row.take i).zipIdx.filter fun p => decide (p.1 = s)).map (·.2)) ++ (if b = s then [i] else []) := by
  have hi := (List.getElem?_eq_some_iff.mp h).1
  rw [take_succ_get h, List.zipIdx_append, List.filter_append, List.map_append, List.length_take, Nat.min_eq_left (Nat.le_of_lt hi)]
  congr 1
  by_cases e : b = s <;> simp [e]
theorem dep_loop (g : GoodA A) {da : Str → Addr} {x d : Addr} {rw : D} {De : DEnds} (hd : M d = some (.dK (A.signs.map fun s => (.inr s, .ref (da s))))) (hda : ∀ s ∈ A.signs, M (da s) = some (.lst [.str s]))
    (q : ∀ M' u v, (∀ a o, (∀ s ∈ A.signs, a ≠ da s) → M a = some o → M' a = some o) → M' d = some (.dK (A.signs.map fun s => (.inr s, .ref (da s)))) → (∀ s ∈ A.signs, M' (da s) = some (.lst ((depl s (dcs A)).map .str))) → De.nx [some (.ref x), some (aD A), some rw, some (.ref d), u, v, none, none, none] M') :
    dFor (diSeq (dCall (sp_dependent_couples K) (dCons (dVar 1) dNil))) (gUn 2 (gConsD (gNm 4) (gConsD (gNm 5) gNilD))) (dSeq (dDrop (dBM isLst appD (dOp dgetD (dVar 3) (dVar 4)) (dCons (dVar 5) dNil))) (dDrop (dBM isLst appD (dOp dgetD (dVar 3) (dVar 5)) (dCons (dVar 4) dNil)))) De [some (.ref x), some (aD A), some rw, some (.ref d), none, none, none, none, none] M := by
  refine w_for ?_
  walk_at "w"
  refine s_dependent_couples g fun M2 e2 => ?_
  walk_at "w"
  refine for_inv ((dcs A).map Enc.d) (fun i σ' M' => (∃ u v, σ' = [some (.ref x), some (aD A), some rw, some (.ref d), u, v, none, none, none]) ∧ (∀ a o, (∀ s ∈ A.signs, a ≠ da s) → M a = some o → M' a = some o) ∧ M' d = some (.dK (A.signs.map fun s => (.inr s, .ref (da s)))) ∧ ∀ s ∈ A.signs, M' (da s) = some (.lst ((depl s ((dcs A).take i)).map .str))) (fun _ _ _ _ _ => rfl) ⟨⟨_, _, rfl⟩, fun a o _ e => e2 _ _ e, e2 _ _ hd, fun s hs => e2 _ _ (hda s hs)⟩ ?_ ?_
  · rintro i c σ' M' hc ⟨⟨u, v, rfl⟩, h1, h2, h3⟩ Kt kt
    rw [List.getElem?_map] at hc
    cases hx : (dcs A)[i]? with
    | none => rw [hx] at hc; cases hc
    | some ab =>
      rw [hx] at hc; cases hc
      obtain ⟨a, b⟩ := ab
      obtain ⟨ha, hb, hlt, hf⟩ := (mem_dcs g).mp (List.mem_of_getElem? hx)
      have hab := slt_ne hlt
      have inj : ∀ s ∈ A.signs, ∀ s' ∈ A.signs, da s = da s' → s = s' := fun s hs s' hs' e => by
        have h := h3 s hs
        rw [e, h3 s' hs'] at h
        simp [depl] at h
        exact h.1.symm
      have len : ∀ s, ((depl s ((dcs A).take i)).map D.str).length < sizeLine := fun s => by
        rw [List.length_map]
        have := depl_length s ((dcs A).take i)
        have h5 := dcs_length g
        rw [List.length_take] at this
        have : (depl s ((dcs A).take i)).length ≤ 10001 := by omega
        exact Nat.lt_of_le_of_lt this (by size_fits)
      have dne : ∀ s ∈ A.signs, d ≠ da s := fun s hs e => by
        have h := h3 s hs
        rw [← e, h2] at h; cases h
      walk_at "w"
      refine ⟨rfl, ?_⟩
      walk_at "w"
      refine dget_str h2 (valD_map _ ha) ?_
      walk_at "w"
      refine ⟨⟨_, _, rfl, h3 a ha⟩, ?_⟩
      walk_at "w"
      refine w_app (h3 a ha) (len a) ?_
      walk_at "w"
      refine dget_str (by rw [put_ne (dne a ha)]; exact h2) (valD_map _ hb) ?_
      walk_at "w"
      have hb3 : put M' (da a) (.lst ((depl a ((dcs A).take i)).map D.str ++ [D.str b])) (da b) = some (.lst ((depl b ((dcs A).take i)).map .str)) := by
        rw [put_ne (fun e => hab (inj _ hb _ ha e).symm)]; exact h3 b hb
      refine ⟨⟨_, _, rfl, hb3⟩, ?_⟩
      walk_at "w"
      refine w_app hb3 (len b) ?_
      walk_at "w"
      refine kt _ _ ⟨⟨_, _, rfl⟩, fun z o hz e => ?_, ?_, fun s hs => ?_⟩
      · rw [put_ne (hz b hb), put_ne (hz a ha)]; exact h1 z o hz e
      · rw [put_ne (dne b hb), put_ne (dne a ha)]; exact h2
      · rw [take_succ_get hx, depl_snoc]
        by_cases ea : a = s
        · subst ea
          rw [if_pos rfl, put_ne (fun e => hab (inj _ ha _ hb e)), put_same]
          simp
          rfl
        · rw [if_neg ea]
          by_cases eb : b = s
          · subst eb
            rw [if_pos rfl, put_same]
            simp
            rfl
          · rw [if_neg eb, put_ne (fun e => eb (inj _ hs _ hb e).symm), put_ne (fun e => ea (inj _ hs _ ha e).symm)]
            exact h3 s hs
  · rintro σ' M' ⟨⟨u, v, rfl⟩, h1, h2, h3⟩
    rw [List.length_map, List.take_length] at h3
    exact q _ _ _ h1 h2 h3
theorem s_Left_init (F : LF K) (g : GoodA A) (hl : row.length ≤ 10000) (hx : M x = some (.ins (He.ga K.K "Left") []))
    (q : ∀ M' t S, (∀ a, S a → (a = x ∨ M a = none) ∧ M' a ≠ none) → M t = none → (∀ a o, a ≠ x → M a = some o → M' a = some o) → LeftAt K S M' x t A row row.zipIdx → Q .non M') : sp_Left___init__ K [.ref x, aD A, Enc.d row] M Q noX := by
  have hz : A.signs.length ≤ sizeLine := Nat.le_trans g.short (by size_fits)
  refine go_Left___init__ ?_
  delta t_Left___init__
  walk_at "w"
  refine w_fldS ?_
  walk_at "w"
  refine fldS_ok F.row hx (fs' := [("row", Enc.d row)]) rfl (by decide) ?_
  walk_at "w"
  refine w_fldS ?_
  walk_at "w"
  refine ix_tup (n := 0) rfl ?_
  walk_at "w"
  refine fldS_ok F.signs put_same (fs' := [("row", Enc.d row), ("signs", .tup (A.signs.map .str))]) rfl (by show 1 < 1000; decide) ?_
  rw [put_put]
  have k1 : ∀ a o, a ≠ x → M a = some o → put M x (.ins (He.ga K.K "Left") [("row", Enc.d row), ("signs", .tup (A.signs.map .str))]) a = some o := fun a o ha e => by rw [put_ne ha]; exact e
  have k1n : ∀ a, put M x (.ins (He.ga K.K "Left") [("row", Enc.d row), ("signs", .tup (A.signs.map .str))]) a = none → M a = none ∧ a ≠ x := fun a ha => by
    by_cases e : a = x
    · subst e; rw [put_same] at ha; cases ha
    · rw [put_ne e] at ha; exact ⟨ha, e⟩
  have hx1 : put M x (.ins (He.ga K.K "Left") [("row", Enc.d row), ("signs", .tup (A.signs.map .str))]) x = some _ := put_same
  revert hx1 k1 k1n
  generalize put M x (.ins (He.ga K.K "Left") [("row", Enc.d row), ("signs", .tup (A.signs.map .str))]) = M1
  intro k1 k1n hx1
  walk_at "w"
  refine w_dc ?_
  walk_at "w"
  refine fld_ok hx1 F.signs (lookS (by decide) look1) ?_
  walk_at "w"
  refine dc_keys A.signs g.nodup (fun s v M' => ∃ a, v = .ref a ∧ M1 a = none ∧ M' a = some (.lst [.str s])) (fun s v M1 M2 ⟨a, e1, e2, e3⟩ e => ⟨a, e1, e2, e _ _ e3⟩) (fun i M' _ _ => rfl) hz ?_ ?_
  · intro s M2 hs e2 KT KF kt
    walk_at "w"
    refine w_yes ?_
    walk_at "w"
    refine w_lst ?_
    walk_at "w"
    refine ⟨by size_fits, fun p hp => ?_⟩
    refine kt _ _ (Ext.new hp _) ⟨p, rfl, ?_, put_same⟩
    cases z : M1 p with
    | none => rfl
    | some o => rw [e2 _ _ z] at hp; cases hp
  · intro M2 d f e2 hd hf
    walk_at "w"
    have hf1 : ∀ s ∈ A.signs, f s = .ref (adr (f s)) ∧ M1 (adr (f s)) = none ∧ M2 (adr (f s)) = some (.lst [.str s]) := fun s hs => by
      obtain ⟨a, e, h1, h2⟩ := hf s hs
      rw [e]; exact ⟨rfl, h1, h2⟩
    have hmap : (A.signs.map fun s => ((.inr s : Key), f s)) = A.signs.map fun s => ((.inr s : Key), D.ref (adr (f s))) := List.map_congr_left fun s hs => by rw [← (hf1 s hs).1]
    rw [hmap]
    have hda : ∀ s ∈ A.signs, M1 (adr (f s)) = none ∧ M2 (adr (f s)) = some (.lst [.str s]) := fun s hs => (hf1 s hs).2
    clear hf1 hmap hf
    refine dep_loop (M := put M2 d (.dK (A.signs.map fun s => ((.inr s : Key), D.ref (adr (f s)))))) (da := fun s => adr (f s)) g put_same (fun s hs => by rw [put_ne (ne_of_new (hda s hs).2 hd)]; exact (hda s hs).2) fun M3 u v h1 h2 h3 => ?_
    have k3 : ∀ a o, M1 a = some o → M3 a = some o := fun a o e => h1 a o (fun s hs z => by rw [z, (hda s hs).1] at e; cases e) (by rw [put_ne (ne_of_new (e2 _ _ e) hd)]; exact e2 _ _ e)
    have hd1 : M1 d = none := by
      cases z : M1 d with
      | none => rfl
      | some o => rw [e2 _ _ z] at hd; cases hd
    walk_at "w"
    refine w_fldS ?_
    walk_at "w"
    refine fldS_ok F.dependent (k3 _ _ hx1) (fs' := [("row", Enc.d row), ("signs", .tup (A.signs.map .str)), ("dependent", .ref d)]) rfl (by show 2 < 1000; decide) ?_
    have hx4 := put_same (M := M3) (a := x) (o := .ins (He.ga K.K "Left") [("row", Enc.d row), ("signs", .tup (A.signs.map .str)), ("dependent", .ref d)])
    have k4 : ∀ a o, a ≠ x → M3 a = some o → put M3 x (.ins (He.ga K.K "Left") [("row", Enc.d row), ("signs", .tup (A.signs.map .str)), ("dependent", .ref d)]) a = some o := fun a o ha e => by rw [put_ne ha]; exact e
    revert hx4 k4
    generalize put M3 x (.ins (He.ga K.K "Left") [("row", Enc.d row), ("signs", .tup (A.signs.map .str)), ("dependent", .ref d)]) = M4
    intro hx4 k4
    have hdx : d ≠ x := fun z => by rw [z, hx1] at hd1; cases hd1
    have hdax : ∀ s ∈ A.signs, adr (f s) ≠ x := fun s hs z => by
      have := (hda s hs).1
      rw [z, hx1] at this; cases this
    walk_at "w"
    refine w_fldS ?_
    walk_at "w"
    refine w_dc ?_
    walk_at "w"
    refine fld_ok hx4 F.signs (lookS (by decide) look1) ?_
    walk_at "w"
    refine dc_keys A.signs g.nodup (fun s v M' => ∃ a, v = .ref a ∧ M4 a = none ∧ M' a = some (.lst ((places row s).map fun n : Nat => D.int (n : Int)))) (fun s v M1 M2 ⟨a, e1, e2, e3⟩ e => ⟨a, e1, e2, e _ _ e3⟩) (fun i M' _ _ => rfl) hz ?_ ?_
    · intro s M5 hs e5 KT KF kt
      walk_at "w"
      refine w_yes ?_
      walk_at "w"
      refine w_lc ?_
      walk_at "w"
      have hzl : ∀ i, ((((row.take i).zipIdx.filter fun p => decide (p.1 = s)).map (·.2)).map fun n : Nat => D.int (n : Int)).length ≤ i := fun i => by
        rw [List.length_map, List.length_map]
        refine Nat.le_trans (List.length_filter_le _ _) ?_
        rw [List.length_zipIdx, List.length_take]
        exact Nat.min_le_left _ _
      refine lc_inv (numD (row.map .str)) (fun i acc M' => Ext M5 M' ∧ acc = (((row.take i).zipIdx.filter fun p => decide (p.1 = s)).map (·.2)).map fun n : Nat => D.int (n : Int)) (fun i acc M' _ _ => itE_at rfl) ⟨.refl, rfl⟩ (by rw [numD_length, List.length_map]; exact Nat.le_trans hl (by size_fits)) (fun i acc M' h => by rw [h.2]; exact hzl i) ?_ ?_
      · rintro i c acc M6 hc ⟨e6, rfl⟩ KT2 KF2 kt2 kf2
        obtain ⟨b, hb, rfl⟩ := numD_get' hc
        walk_at "w"
        refine ⟨rfl, ?_⟩
        walk_at "w"
        refine eq_str ?_
        walk_at "w"
        cases hbs : decide (b = s)
        · walk_at "w"
          exact kf2 _ ⟨e6, by rw [places_take hb, if_neg (of_decide_eq_false hbs), List.append_nil]⟩
        · walk_at "w"
          exact kt2 _ _ ⟨e6, by rw [places_take hb, if_pos (of_decide_eq_true hbs), List.map_append]; rfl⟩
      · rintro acc M6 p6 ⟨e6, rfl⟩ hp6
        refine kt _ _ (e6.alloc hp6 _) ⟨p6, rfl, ?_, ?_⟩
        · cases z : M4 p6 with
          | none => rfl
          | some o => rw [e6 _ _ (e5 _ _ z)] at hp6; cases hp6
        · rw [put_same, numD_length, List.length_map, List.take_length]; rfl
    · intro M5 p fp e5 hp hfp
      have hf1 : ∀ s ∈ A.signs, fp s = .ref (adr (fp s)) ∧ M4 (adr (fp s)) = none ∧ M5 (adr (fp s)) = some (.lst ((places row s).map fun n : Nat => D.int (n : Int))) := fun s hs => by
        obtain ⟨a, e, h1, h2⟩ := hfp s hs
        rw [e]; exact ⟨rfl, h1, h2⟩
      have hmap : (A.signs.map fun s => ((.inr s : Key), fp s)) = A.signs.map fun s => ((.inr s : Key), D.ref (adr (fp s))) := List.map_congr_left fun s hs => by rw [← (hf1 s hs).1]
      rw [hmap]
      have hpa : ∀ s ∈ A.signs, M4 (adr (fp s)) = none ∧ M5 (adr (fp s)) = some (.lst ((places row s).map fun n : Nat => D.int (n : Int))) := fun s hs => (hf1 s hs).2
      clear hf1 hmap hfp
      walk_at "w"
      have e6 : Ext M4 (put M5 p (.dK (A.signs.map fun s => ((.inr s : Key), D.ref (adr (fp s)))))) := e5.alloc hp _
      refine fldS_ok F.places (e6 _ _ hx4) (fs' := [("row", Enc.d row), ("signs", .tup (A.signs.map .str)), ("dependent", .ref d), ("places", .ref p)]) rfl (by show 3 < 1000; decide) ?_
      have hpx : p ≠ x := fun z => by rw [z, e5 _ _ hx4] at hp; cases hp
      have hp4 : M4 p = none := by
        cases z : M4 p with
        | none => rfl
        | some o => rw [e5 _ _ z] at hp; cases hp
      have hx7 := put_same (M := put M5 p (.dK (A.signs.map fun s => ((.inr s : Key), D.ref (adr (fp s)))))) (a := x) (o := .ins (He.ga K.K "Left") [("row", Enc.d row), ("signs", .tup (A.signs.map .str)), ("dependent", .ref d), ("places", .ref p)])
      have k7 : ∀ a o, a ≠ x → put M5 p (.dK (A.signs.map fun s => ((.inr s : Key), D.ref (adr (fp s))))) a = some o → put (put M5 p (.dK (A.signs.map fun s => ((.inr s : Key), D.ref (adr (fp s)))))) x (.ins (He.ga K.K "Left") [("row", Enc.d row), ("signs", .tup (A.signs.map .str)), ("dependent", .ref d), ("places", .ref p)]) a = some o := fun a o ha e => by rw [put_ne ha]; exact e
      revert hx7 k7
      generalize put (put M5 p (.dK (A.signs.map fun s => ((.inr s : Key), D.ref (adr (fp s)))))) x (.ins (He.ga K.K "Left") [("row", Enc.d row), ("signs", .tup (A.signs.map .str)), ("dependent", .ref d), ("places", .ref p)]) = M7
      intro hx7 k7
      walk_at "w"
      refine w_fldS ?_
      walk_at "w"
      refine w_dc ?_
      walk_at "w"
      refine fld_ok hx7 F.signs (lookS (by decide) look1) ?_
      walk_at "w"
      refine dc_keys A.signs g.nodup (fun s v M' => v = .int 0) (fun s v M1 M2 e1 e => e1) (fun i M' _ _ => rfl) hz ?_ ?_
      · intro s M8 hs e8 KT KF kt
        walk_at "w"
        refine w_yes ?_
        walk_at "w"
        exact kt _ _ .refl rfl
      · intro M8 t ft e8 ht hft
        have hmap : (A.signs.map fun s => ((.inr s : Key), ft s)) = A.signs.map fun s => ((.inr s : Key), D.int ((fun _ => 0 : Str → Nat) s : Nat)) := List.map_congr_left fun s hs => by rw [hft s hs]; rfl
        rw [hmap]
        walk_at "w"
        have e9 := e8.alloc ht (tkO A fun _ => 0)
        refine fldS_ok F.taken (e9 _ _ hx7) (fs' := [("row", Enc.d row), ("signs", .tup (A.signs.map .str)), ("dependent", .ref d), ("places", .ref p), ("taken", .ref t)]) rfl (by show 4 < 1000; decide) ?_
        walk_at "w"
        have htx : t ≠ x := fun z => by rw [z, e8 _ _ hx7] at ht; cases ht
        have kk : ∀ a o, a ≠ x → M7 a = some o → put (put M8 t (tkO A fun _ => 0)) x (leftO K A row d p t) a = some o := fun a o ha e => by rw [put_ne ha]; exact e9 _ _ e
        have k34 : ∀ a o, a ≠ x → M4 a = some o → put (put M8 t (tkO A fun _ => 0)) x (leftO K A row d p t) a = some o := fun a o ha e => kk a o ha (k7 a o ha (e6 _ _ e))
        have all : ∀ a o, a ≠ x → M a = some o → put (put M8 t (tkO A fun _ => 0)) x (leftO K A row d p t) a = some o := fun a o ha e => k34 a o ha (k4 a o ha (k3 a o (k1 a o ha e)))
        have new : ∀ a, a ≠ x → (M4 a = none ∨ M1 a = none) → M a = none := fun a ha h => by
          cases z : M a with
          | none => rfl
          | some o =>
            have h1 := k1 a o ha z
            rcases h with h | h
            · rw [k4 a o ha (k3 a o h1)] at h; cases h
            · rw [h1] at h; cases h
        have ht7 : M7 t = none := by
          cases z : M7 t with
          | none => rfl
          | some o => rw [e8 _ _ z] at ht; cases ht
        have old7 : ∀ a o, a ≠ x → M3 a = some o → M7 a = some o := fun a o ha e => k7 a o ha (e6 _ _ (k4 a o ha e))
        have tne : ∀ a, M7 a ≠ none → a ≠ t := fun a h z => h (by rw [z]; exact ht7)
        have h3d : M3 d = some (.dK (A.signs.map fun s => ((.inr s : Key), D.ref (adr (f s))))) := h2
        have hp7 : M7 p = some (.dK (A.signs.map fun s => ((.inr s : Key), D.ref (adr (fp s))))) := k7 p _ hpx put_same
        have hpax : ∀ s ∈ A.signs, adr (fp s) ≠ x := fun s hs z => by
          have := (hpa s hs).1
          rw [z, hx4] at this; cases this
        have hpa7 : ∀ s ∈ A.signs, M7 (adr (fp s)) = some (.lst ((places row s).map fun n : Nat => D.int (n : Int))) := fun s hs => k7 _ _ (hpax s hs) (by rw [put_ne (ne_of_new (hpa s hs).2 hp)]; exact (hpa s hs).2)
        have sm : ∀ a o, put (put M8 t (tkO A fun _ => 0)) x (leftO K A row d p t) a = some o → put (put M8 t (tkO A fun _ => 0)) x (leftO K A row d p t) a ≠ none := fun a o e z => by rw [e] at z; cases z
        have fd := kk d _ hdx (old7 d _ hdx h3d)
        have fda := fun s hs => kk _ _ (hdax s hs) (old7 _ _ (hdax s hs) (h3 s hs))
        have fp' := kk p _ hpx hp7
        have fpa := fun s hs => kk _ _ (hpax s hs) (hpa7 s hs)
        refine q _ t (fun a => (a = x ∨ M a = none) ∧ a ≠ t ∧ put (put M8 t (tkO A fun _ => 0)) x (leftO K A row d p t) a ≠ none) (fun a h => ⟨h.1, h.2.2⟩) ?_ all ⟨⟨d, p, fun _ => 0, put_same, ⟨⟨.inr (new d hdx (.inr hd1)), tne d (by rw [old7 d _ hdx h3d]; exact fun z => nomatch z), sm _ _ fd⟩, ⟨.inr (new p hpx (.inl hp4)), tne p (by rw [hp7]; exact fun z => nomatch z), sm _ _ fp'⟩, ⟨fun s => adr (f s), fd, fun s hs => ⟨⟨.inr (new _ (hdax s hs) (.inr (hda s hs).1)), tne (adr (f s)) (by rw [old7 _ _ (hdax s hs) (h3 s hs)]; exact fun z => nomatch z), sm _ _ (fda s hs)⟩, depl s (dcs A), fda s hs, ?_, mem_depl g hs⟩⟩, ⟨fun s => adr (fp s), fp', fun s hs => ⟨⟨.inr (new _ (hpax s hs) (.inl (hpa s hs).1)), tne (adr (fp s)) (by rw [hpa7 s hs]; exact fun z => nomatch z), sm _ _ (fpa s hs)⟩, fpa s hs⟩⟩⟩, by rw [put_ne htx, put_same]; rfl, Took.start A row⟩, ⟨.inl rfl, fun z => htx z.symm, sm _ _ put_same⟩, fun z => z.2.1 rfl⟩
        · refine new t htx (.inl ?_)
          cases z : M4 t with
          | none => rfl
          | some o => rw [k7 t o htx (e6 _ _ z)] at ht7; cases ht7
        · exact Nat.le_trans (depl_length _ _) (Nat.le_trans (Nat.succ_le_succ (dcs_length g)) (by size_fits))
end
end Dt

set_option Elab.async false
set_option autoImplicit false
set_option linter.all false
set_option maxRecDepth 100000
set_option maxHeartbeats 400000
namespace Dt
open PySem PySem.Spec PyProof.Rows L2 LamX RZ PySem.P
local macro_rules | `(tactic| walk_at "w1") => `(tactic| with_reducible refine StepW.go ?_)
local macro_rules | `(tactic| walk_at "w") => `(tactic| ((repeat walk_at "w1"); try (with_reducible conv => whnf)))
local macro_rules | `(tactic| walk_at "m") => `(tactic| first | with_reducible assumption | with_reducible exact put_same | (with_reducible apply Ext.get; (with_reducible assumption); walk_at "m") | (with_reducible apply Ext.get; (with_reducible apply Ext.new); (with_reducible assumption); walk_at "m"))
local macro_rules | `(tactic| walk_at "x") => `(tactic| first | with_reducible assumption | with_reducible exact Ext.refl | (with_reducible refine Ext.alloc ?_ (by with_reducible assumption) _; walk_at "x") | (with_reducible refine Ext.trans ?_ (by with_reducible assumption); walk_at "x"))
local macro_rules | `(tactic| walk_at "lk") => `(tactic| first | with_reducible exact look1 | ((with_reducible apply lookS); (with_unfolding_all decide); walk_at "lk"))
local macro_rules | `(tactic| walk_at "g1") => `(tactic| (first
  | with_reducible refine StepW.go ?_
  | with_reducible refine StepG.go ?_
  | with_reducible refine w_isTup ?_
  | ((with_reducible refine w_sz ?sz ?_); (case sz => size_fits))
  | ((with_reducible refine w_len ?sz ?_); (case sz => rfl))
  | ((with_reducible refine w_obj (by walk_at "m") ?ob2 ?_); (case ob2 => walk_at "ln"))
  | (with_reducible refine w_lenL (by walk_at "m") ?_) | (with_reducible refine w_seqL (by walk_at "m") ?_) | (with_reducible refine tup_list (by walk_at "m") ?_)
  | (with_reducible refine w_isLst (by walk_at "m") ?_) | (with_reducible refine w_slL (by walk_at "m") ?_)
  | ((with_reducible refine fld_ok (by walk_at "m") ?cl (by walk_at "lk") ?_); (case cl => walk_at "cl"))
  | (with_reducible refine w_lstL (by walk_at "m") ?_) | (with_reducible refine w_dic (by walk_at "m") ?_)
  ))
local macro_rules | `(tactic| walk_at "g") => `(tactic| ((repeat walk_at "g1"); try (with_reducible conv => whnf)))
local macro_rules | `(tactic| walk_at "ln") => `(tactic| first | exact look_none (ns := ["row", "signs", "dependent", "places", "taken"]) rfl (by decide) | exact look_none (ns := ["alphabet", "due", "its_left", "signs", "parting"]) rfl (by decide) | exact look_none (ns := ["alphabet", "its_lag", "parting"]) rfl (by decide))
local macro_rules | `(tactic| walk_at "cl") => `(tactic| first | exact CF.get (by with_reducible assumption) (by decide))
section
variable {K : Bd} {M M' : DM} {Q : DQ} {A : Alph} {S : Addr → Prop} {x d p t : Addr} {row : List Str} {tk : Str → Nat} {rem : Rem}
/-! ### what is left, as a row -/
theorem places_mem {row : List Str} {s : Str} {n : Nat} : n ∈ places row s ↔ row[n]? = some s := by
  unfold places
  rw [List.mem_map]
  constructor
  · rintro ⟨⟨a, k⟩, h, rfl⟩
    obtain ⟨h1, h2⟩ := List.mem_filter.mp h
    have := List.mem_zipIdx_iff_getElem?.mp h1
    simp only [decide_eq_true_eq] at h2
    subst h2
    exact this
  · intro h
    exact ⟨(s, n), List.mem_filter.mpr ⟨List.mem_zipIdx_iff_getElem?.mpr h, by simp⟩, rfl⟩
theorem places_sorted (row : List Str) (s : Str) : (places row s).Pairwise (· < ·) := by
  unfold places
  exact List.Pairwise.map _ (fun a b h => h) ((zip_sorted row 0).sublist List.filter_sublist)
/-- a number of a place is gone, or its sign is left -/
theorem Took.left_iff (T : Took A row tk rem) {s : Str} {n : Nat} (h : row[n]? = some s) : (s, n) ∈ rem ↔ n ∉ (places row s).take (tk s) := by
  have e := T.at_ s
  have hm : (s, n) ∈ rem ↔ n ∈ (places row s).drop (tk s) := by
    rw [← e, List.mem_map]
    constructor
    · intro z; exact ⟨(s, n), List.mem_filter.mpr ⟨z, by simp⟩, rfl⟩
    · rintro ⟨⟨a, k⟩, z, rfl⟩
      obtain ⟨z1, z2⟩ := List.mem_filter.mp z
      simp only [decide_eq_true_eq] at z2
      subst z2; exact z1
  rw [hm]
  have hn : n ∈ places row s := places_mem.mpr h
  have nd : (places row s).Nodup := (places_sorted row s).imp (fun h => Nat.ne_of_lt h)
  rw [← List.take_append_drop (tk s) (places row s)] at hn nd
  obtain ⟨_, _, dj⟩ := List.nodup_append.mp nd
  rcases List.mem_append.mp hn with z | z
  · exact ⟨fun z2 => absurd rfl (dj _ z _ z2), fun z2 => absurd z z2⟩
  · exact ⟨fun _ z2 => absurd rfl (dj _ z2 _ z), fun _ => z⟩
theorem sub_filter {α : Type} [DecidableEq α] : ∀ {xs ys : List α}, ys.Nodup → xs.Sublist ys → ys.filter (fun y => decide (y ∈ xs)) = xs
  | xs, [], _, h => by cases h; rfl
  | xs, y :: ys, nd, h => by
    obtain ⟨h1, h2⟩ := List.nodup_cons.mp nd
    cases h with
    | cons _ h =>
      have : y ∉ xs := fun z => h1 (h.subset z)
      rw [List.filter_cons_of_neg (by simpa using this)]
      exact sub_filter h2 h
    | @cons_cons zs _ _ h =>
      rw [List.filter_cons_of_pos (by simp)]
      congr 1
      refine Eq.trans (List.filter_congr fun z hz => ?_) (sub_filter h2 h)
      have : z ≠ y := fun e => h1 (e ▸ hz)
      simp [this]
theorem Took.left (T : Took A row tk rem) : ((row.zipIdx.filter fun p => !decide (p.2 ∈ (places row p.1).take (tk p.1))).map (·.1)) = rem.map (·.1) := by
  have nd : row.zipIdx.Nodup := (zip_sorted row 0).imp fun h e => by rw [e] at h; exact absurd h (Nat.lt_irrefl _)
  have e2 : (row.zipIdx.filter fun p => !decide (p.2 ∈ (places row p.1).take (tk p.1))) = rem := by
    refine Eq.trans (List.filter_congr fun p hp => ?_) (sub_filter nd T.sub)
    obtain ⟨s, n⟩ := p
    have := T.left_iff (List.mem_zipIdx_iff_getElem?.mp hp)
    rw [Bool.eq_iff_iff]
    simp only [Bool.not_eq_true', decide_eq_false_iff_not, decide_eq_true_eq]
    exact this.symm
  rw [e2]
theorem valD_isSome {κ : Type} [DecidableEq κ] (kvs : List (κ × D)) (k : κ) : (valD kvs k).isSome = true ↔ k ∈ kvs.map (·.1) := by
  unfold valD
  rw [Option.isSome_map, List.find?_isSome, List.mem_map]
  constructor
  · rintro ⟨x, hx, e⟩; exact ⟨x, hx, by simpa using e⟩
  · rintro ⟨x, hx, e⟩; exact ⟨x, hx, by simpa using e⟩
theorem putD_keys {κ : Type} [DecidableEq κ] (kvs : List (κ × D)) (k : κ) (v : D) (j : κ) : j ∈ (putD kvs k v).map (·.1) ↔ j = k ∨ j ∈ kvs.map (·.1) := by
  unfold putD
  cases h : kvs.any fun kv => decide (kv.1 = k) with
  | true =>
    simp only [List.map_map]
    have e : (fun x : κ × D => x.1) ∘ (fun kv : κ × D => if kv.1 = k then (kv.1, v) else kv) = fun x => x.1 := by
      funext x; simp only [Function.comp]; split <;> rfl
    rw [e]
    constructor
    · exact .inr
    · rintro (rfl | h2)
      · obtain ⟨x, hx, e⟩ := List.any_eq_true.mp h
        exact List.mem_map.mpr ⟨x, hx, by simpa using e⟩
      · exact h2
  | false => simp [or_comm]
theorem putD_length {κ : Type} [DecidableEq κ] (kvs : List (κ × D)) (k : κ) (v : D) : (putD kvs k v).length ≤ kvs.length + 1 := by
  unfold putD
  split <;> simp
theorem din_ok {neg : Bool} {a : Addr} {kvs : List (Key × D)} {n : Int} {b : Bool} (e : M a = some (.dK kvs)) (hb : b = true ↔ (.inl n : Key) ∈ kvs.map (·.1)) (q : Q (.bl (if neg then !b else b)) M) : dinD neg (.int n) (.ref a) M Q := by
  refine ⟨a, _, rfl, .k e rfl, ?_⟩
  have : (valD kvs (.inl n)).isSome = b := by rw [Bool.eq_iff_iff, valD_isSome, hb]
  rw [this]; exact q
theorem numD_map {α : Type} (xs : List α) (f : α → D) : numD (xs.map f) = xs.zipIdx.map fun p => D.pair [.int (p.2 : Nat), f p.1] := by
  unfold numD
  rw [List.zipIdx_map, List.map_map]; rfl
theorem s_left (F : LF K) (g : GoodA A) (h : LeftAt K S M x t A row rem) (hl : row.length ≤ 10000) (hr : ∀ s ∈ row, s ∈ A.signs) (q : ∀ M', Ext M M' → Q (Enc.d (rem.map (·.1))) M') : sp_Left_left K [.ref x] M Q noX := by
  have hz : A.signs.length ≤ sizeLine := Nat.le_trans g.short (by size_fits)
  obtain ⟨⟨d, p, tk, e, f, et, T⟩, sx, nt⟩ := h
  have e' : M x = some (.ins _ _) := e
  obtain ⟨pa, ep, hpa⟩ := f.pla
  have htl : ∀ s n, ((places row s).take n).length ≤ 10000 := fun s n => by
    rw [List.length_take]
    exact Nat.le_trans (Nat.min_le_right _ _) (Nat.le_trans (places_length row s) hl)
  refine go_Left_left ?_
  delta t_Left_left
  walk_at "w"
  refine w_dc2 ?_
  walk_at "w"
  refine fld_ok e' F.signs (lookS (by decide) look1) ?_
  walk_at "w"
  refine dc2_inv (A.signs.map .str) (fun i acc M' => Ext M M' ∧ (∀ k, k ∈ acc.map (·.1) ↔ ∃ s ∈ A.signs.take i, ∃ n ∈ (places row s).take (tk s), k = .inl (n : Int)) ∧ acc.length ≤ i * 10000) (fun i acc M' _ _ => rfl) ⟨.refl, by simp, by simp⟩ ?_ ?_
  · rintro i c acc M2 hc ⟨e2, hk, hlen⟩ C cC
    rw [List.getElem?_map] at hc
    cases hx : A.signs[i]? with
    | none => rw [hx] at hc; cases hc
    | some s =>
      rw [hx] at hc; cases hc
      have hs := List.mem_of_getElem? hx
      have hi := (List.getElem?_eq_some_iff.mp hx).1
      have hsh := g.short
      walk_at "w"
      refine w_yes ?_
      walk_at "w"
      refine fld_ok (e2 _ _ e') F.places (lookS (by decide) (lookS (by decide) (lookS (by decide) look1))) ?_
      walk_at "w"
      refine dget_str (e2 _ _ ep) (valD_map _ hs) ?_
      walk_at "w"
      refine fld_ok (e2 _ _ e') F.taken (lookS (by decide) (lookS (by decide) (lookS (by decide) (lookS (by decide) look1)))) ?_
      walk_at "w"
      refine dget_str (e2 _ _ et) (valD_map _ hs) ?_
      walk_at "w"
      refine w_slL (e2 _ _ (hpa s hs).2) fun l hl2 => ?_
      rw [cut_to, ← List.map_take]
      walk_at "w"
      refine ⟨⟨_, put_same⟩, ?_⟩
      have e3 := e2.alloc hl2 (.lst (((places row s).take (tk s)).map fun n : Nat => D.int (n : Int)))
      refine dc2In_inv (((places row s).take (tk s)).map fun n : Nat => D.int (n : Int)) (fun j acc' M' => Ext (put M2 l (.lst (((places row s).take (tk s)).map fun n : Nat => D.int (n : Int)))) M' ∧ (∀ k, k ∈ acc'.map (·.1) ↔ (∃ n ∈ ((places row s).take (tk s)).take j, k = .inl (n : Int)) ∨ k ∈ acc.map (·.1)) ∧ acc'.length ≤ i * 10000 + j) (fun j acc' M' h _ => itL_is (h.1 _ _ put_same) j) ⟨.refl, by simp, hlen⟩ ?_ ?_ ?_
      · rintro j acc' M' ⟨_, _, h3⟩ hj
        rw [List.length_map] at hj
        have := htl s (tk s)
        have : acc'.length ≤ 2000000 := by omega
        exact Nat.lt_of_le_of_lt this (by size_fits)
      · rintro j c acc' M' hc ⟨e4, hk4, hlen4⟩ KT KF kt kf
        rw [List.getElem?_map] at hc
        cases hn : ((places row s).take (tk s))[j]? with
        | none => rw [hn] at hc; cases hc
        | some n =>
          rw [hn] at hc; cases hc
          walk_at "w"
          refine w_yes ?_
          walk_at "w"
          refine kt _ _ (.inl (n : Int)) _ rfl ⟨e4, fun k => ?_, ?_⟩
          · rw [putD_keys, hk4, take_succ_get hn]
            constructor
            · rintro (h | ⟨m, hm, rfl⟩ | h)
              · exact .inl ⟨n, by simp, h⟩
              · exact .inl ⟨m, List.mem_append_left _ hm, rfl⟩
              · exact .inr h
            · rintro (⟨m, hm, rfl⟩ | h)
              · rcases List.mem_append.mp hm with z | z
                · exact .inr (.inl ⟨m, z, rfl⟩)
                · have : m = n := by simpa using z
                  rw [this]; exact .inl rfl
              · exact .inr (.inr h)
          · have := putD_length acc' (.inl (n : Int) : Key) (.bl true)
            omega
      · rintro acc' M' ⟨e4, hk4, hlen4⟩
        rw [List.length_map] at hk4 hlen4
        refine cC _ _ ⟨e3.trans e4, fun k => ?_, ?_⟩
        · rw [hk4, List.take_length, hk, take_succ_get hx]
          constructor
          · rintro (⟨n, hn, rfl⟩ | ⟨s', hs', r⟩)
            · exact ⟨s, by simp, n, hn, rfl⟩
            · exact ⟨s', List.mem_append_left _ hs', r⟩
          · rintro ⟨s', hs', r⟩
            rcases List.mem_append.mp hs' with z | z
            · exact .inr ⟨s', z, r⟩
            · have : s' = s := by simpa using z
              subst this; exact .inl r
        · have := htl s (tk s)
          omega
  · rintro acc M2 go ⟨e2, hk, hlen⟩ hgo
    rw [List.length_map, List.take_length] at hk
    have e3 := e2.alloc hgo (.dK acc)
    walk_at "w"
    refine w_lc ?_
    walk_at "w"
    refine fld_ok (e3 _ _ e') F.row look1 ?_
    walk_at "w"
    refine lc_pure row.zipIdx (fun p => D.pair [.int (p.2 : Nat), .str p.1]) (fun p => !decide (p.2 ∈ (places row p.1).take (tk p.1))) (fun p => .str p.1) (fun i M' _ _ => by rw [← numD_map]; exact itE_at rfl) (by rw [List.length_zipIdx]; exact Nat.le_trans hl (by size_fits)) ?_ ?_
    · rintro i ⟨s, n⟩ M3 hn e4 KT KF kt kf
      have hns : row[n]? = some s := List.mem_zipIdx_iff_getElem?.mp (List.mem_of_getElem? hn)
      walk_at "w"
      refine ⟨rfl, ?_⟩
      walk_at "w"
      refine din_ok (b := decide (n ∈ (places row s).take (tk s))) (e4 _ _ put_same) ?_ ?_
      · rw [decide_eq_true_eq, hk]
        constructor
        · intro z
          exact ⟨s, hr s (List.mem_of_getElem? hns), n, z, rfl⟩
        · rintro ⟨s', _, m, hm, z⟩
          have : n = m := by have := Sum.inl.inj z; omega
          subst this
          have h2 := places_mem.mp (List.mem_of_mem_take hm)
          rw [hns] at h2
          cases h2
          exact hm
      · walk_at "w"
        cases hc : !decide (n ∈ (places row s).take (tk s))
        · simp only [if_true, hc]
          walk_at "w"
          exact kf hc _ e4
        · simp only [if_true, hc]
          walk_at "w"
          exact kt hc _ e4
    · intro M3 l e4 hl3
      walk_at "w"
      refine tup_list put_same ?_
      have e5 : ((row.zipIdx.filter fun p => !decide (p.2 ∈ (places row p.1).take (tk p.1))).map fun p => D.str p.1) = (rem.map (·.1)).map D.str := by
        rw [← T.left, List.map_map]; rfl
      rw [e5]
      exact q _ (e3.trans (e4.alloc hl3 _))
end
end Dt

set_option Elab.async false
set_option autoImplicit false
set_option linter.all false
set_option maxRecDepth 100000
set_option maxHeartbeats 400000
namespace Dt
open PySem PySem.Spec PyProof.Rows L2 LamX RZ PySem.P
local macro_rules | `(tactic| walk_at "w1") => `(tactic| with_reducible refine StepW.go ?_)
local macro_rules | `(tactic| walk_at "w") => `(tactic| ((repeat walk_at "w1"); try (with_reducible conv => whnf)))
local macro_rules | `(tactic| walk_at "m") => `(tactic| first | with_reducible assumption | with_reducible exact put_same | (with_reducible apply Ext.get; (with_reducible assumption); walk_at "m") | (with_reducible apply Ext.get; (with_reducible apply Ext.new); (with_reducible assumption); walk_at "m"))
local macro_rules | `(tactic| walk_at "x") => `(tactic| first | with_reducible assumption | with_reducible exact Ext.refl | (with_reducible refine Ext.alloc ?_ (by with_reducible assumption) _; walk_at "x") | (with_reducible refine Ext.trans ?_ (by with_reducible assumption); walk_at "x"))
local macro_rules | `(tactic| walk_at "lk") => `(tactic| first | with_reducible exact look1 | ((with_reducible apply lookS); (with_unfolding_all decide); walk_at "lk"))
local macro_rules | `(tactic| walk_at "g1") => `(tactic| (first
  | with_reducible refine StepW.go ?_
  | with_reducible refine StepG.go ?_
  | with_reducible refine w_isTup ?_
  | ((with_reducible refine w_sz ?sz ?_); (case sz => size_fits))
  | ((with_reducible refine w_len ?sz ?_); (case sz => rfl))
  | ((with_reducible refine w_obj (by walk_at "m") ?ob2 ?_); (case ob2 => walk_at "ln"))
  | (with_reducible refine w_lenL (by walk_at "m") ?_) | (with_reducible refine w_seqL (by walk_at "m") ?_) | (with_reducible refine tup_list (by walk_at "m") ?_)
  | (with_reducible refine w_isLst (by walk_at "m") ?_) | (with_reducible refine w_slL (by walk_at "m") ?_)
  | ((with_reducible refine fld_ok (by walk_at "m") ?cl (by walk_at "lk") ?_); (case cl => walk_at "cl"))
  | (with_reducible refine w_lstL (by walk_at "m") ?_) | (with_reducible refine w_dic (by walk_at "m") ?_)
  ))
local macro_rules | `(tactic| walk_at "g") => `(tactic| ((repeat walk_at "g1"); try (with_reducible conv => whnf)))
local macro_rules | `(tactic| walk_at "ln") => `(tactic| first | exact look_none (ns := ["row", "signs", "dependent", "places", "taken"]) rfl (by decide) | exact look_none (ns := ["alphabet", "due", "its_left", "signs", "parting"]) rfl (by decide) | exact look_none (ns := ["alphabet", "its_lag", "parting"]) rfl (by decide))
local macro_rules | `(tactic| walk_at "cl") => `(tactic| first | exact CF.get (by with_reducible assumption) (by decide))
section
variable {K : Bd} {M M' : DM} {Q : DQ} {A : Alph} {S : Addr → Prop} {x d p t : Addr} {row : List Str} {tk : Str → Nat} {rem : Rem}
/-- a Left that is made -/
theorem left_new {R : Addr → DM → Prop} (F : LF K) (g : GoodA A) (hl : row.length ≤ 10000)
    (q : ∀ M' x t S, Ext M M' → M t = none → (∀ a, S a → M a = none ∧ M' a ≠ none) → LeftAt K S M' x t A row row.zipIdx → R x M') :
    ∀ x, M x = none → sp_Left___init__ K [.ref x, aD A, Enc.d row] (put M x (.ins (He.ga K.K "Left") [])) (fun v M2 => v = .non ∧ R x M2) noX := by
  intro x hx
  refine s_Left_init F g hl put_same fun M' t S hS ht hk L => ⟨rfl, ?_⟩
  have n : ∀ a, put M x (.ins (He.ga K.K "Left") []) a = none → M a = none := fun a h => by
    by_cases e : a = x
    · rw [e]; exact hx
    · rw [put_ne e] at h; exact h
  refine q M' x t S (fun a o e => ?_) (n t ht) (fun a h => ⟨?_, (hS a h).2⟩) L
  · have e2 : a ≠ x := ne_of_new e hx
    exact hk a o e2 (by rw [put_ne e2]; exact e)
  · rcases (hS a h).1 with z | z
    · rw [z]; exact hx
    · exact n a z
def firsts (A : Alph) (r : List Str) : List Str := A.signs.filter fun s => fstB A r s
def nfN (A : Alph) : Nat → List Str → List Str
  | 0, _ => []
  | n + 1, r => match (firsts A r)[0]? with
    | none => []
    | some s => s :: nfN A n (r.erase s)
/-- the least row that is one with r -/
def nf (A : Alph) (r : List Str) : List Str := nfN A r.length r
theorem fstB_head (A : Alph) (s : Str) (r : List Str) : fstB A (s :: r) s = true := by unfold fstB; rw [if_pos rfl]
theorem fstB_mem {A : Alph} : ∀ {r : List Str} {s : Str}, fstB A r s = true → s ∈ r
  | [], _, h => nomatch h
  | t :: r, s, h => by
    unfold fstB at h
    by_cases e : t = s
    · rw [e]; exact List.mem_cons_self
    · rw [if_neg e, Bool.and_eq_true] at h
      exact List.mem_cons_of_mem _ (fstB_mem h.2)
theorem firsts_some {A : Alph} {r : List Str} (hr : ∀ s ∈ r, s ∈ A.signs) (h : r ≠ []) : ∃ s, (firsts A r)[0]? = some s ∧ s ∈ A.signs ∧ fstB A r s = true := by
  cases r with
  | nil => exact absurd rfl h
  | cons a r =>
    have hm : a ∈ firsts A (a :: r) := List.mem_filter.mpr ⟨hr a List.mem_cons_self, fstB_head A a r⟩
    cases e : firsts A (a :: r) with
    | nil => rw [e] at hm; cases hm
    | cons s l =>
      have hs : s ∈ firsts A (a :: r) := by rw [e]; exact List.mem_cons_self
      obtain ⟨h1, h2⟩ := List.mem_filter.mp hs
      exact ⟨s, rfl, h1, h2⟩
theorem nfN_some {A : Alph} {n : Nat} {r : List Str} {s : Str} (h : (firsts A r)[0]? = some s) : nfN A (n + 1) r = s :: nfN A n (r.erase s) := by rw [nfN, h]
theorem nfN_length {A : Alph} : ∀ (n : Nat) (r : List Str), (∀ s ∈ r, s ∈ A.signs) → r.length = n → (nfN A n r).length = n
  | 0, _, _, _ => rfl
  | n + 1, r, hr, hl => by
    obtain ⟨s, h1, h2, h3⟩ := firsts_some hr (fun e => by rw [e] at hl; cases hl)
    unfold nfN
    rw [h1]
    simp only [List.length_cons]
    rw [nfN_length n (r.erase s) (fun b hb => hr b (List.mem_of_mem_erase hb)) (by rw [List.length_erase_of_mem (fstB_mem h3)]; omega)]
theorem s_normal (F : LF K) (g : GoodA A) (hl : row.length ≤ 10000) (hr : ∀ s ∈ row, s ∈ A.signs) (q : ∀ M', Ext M M' → Q (Enc.d (nf A row)) M') : sp_normal K [aD A, Enc.d row] M Q noX := by
  refine go_normal ?_
  delta t_normal
  walk_at "w"
  refine w_make ?_
  walk_at "w"
  refine left_new F g hl fun M1 x t S e1 ht hS L => ?_
  walk_at "w"
  refine w_lst ?_
  walk_at "w"
  refine ⟨by size_fits, fun l hl1 => ?_⟩
  walk_at "w"
  refine w_for ?_
  walk_at "w"
  refine w_lenT ?_
  walk_at "w"
  rw [List.length_map]
  refine ⟨⟨by omega, by omega⟩, ?_⟩
  have nSl : ∀ a, S a → a ≠ l := fun a sa z => (hS a sa).2 (by rw [z]; exact hl1)
  have ntl : t ≠ l := by
    obtain ⟨⟨d, p, tk, e, f, et, T⟩, sx, nt⟩ := L
    exact ne_of_new et hl1
  have nMl : ∀ a o, M a = some o → a ≠ l ∧ a ≠ t := fun a o e => ⟨ne_of_new (e1 _ _ e) hl1, ne_of_new e ht⟩
  refine for_inv ((List.range row.length).map fun k : Nat => D.int (0 + (k : Int))) (fun i σ' M' => ∃ tv sv rem found, σ' = [some (aD A), some (Enc.d row), tv, some (.ref x), some (.ref l), sv] ∧ Ext M M' ∧ LeftAt K S M' x t A row rem ∧ M' l = some (.lst (found.map D.str)) ∧ found.length = i ∧ rem.length + i = row.length ∧ found ++ nfN A rem.length (rem.map (·.1)) = nf A row) (fun i σ' M' _ hi => by
    rw [List.length_map, List.length_range] at hi
    exact itR_at 0 _ i M' (by simpa using hi)) ⟨_, _, row.zipIdx, [], rfl, e1.alloc hl1 _, L.ext (Ext.new hl1 _), put_same, rfl, by simp, by simp [nf]⟩ ?_ ?_
  · rintro i c σ' M' hc ⟨tv, sv, rem, found, rfl, e, L', hf, hfl, hrl, hnf⟩ Kt kt
    have hi : i < row.length := by
      have := (List.getElem?_eq_some_iff.mp hc).1
      simpa using this
    have hin := L'.in hr
    obtain ⟨s, hs1, hs2, hs3⟩ := firsts_some (A := A) (r := rem.map (·.1)) (fun b hb => by obtain ⟨p, hp, rfl⟩ := List.mem_map.mp hb; exact hin p hp) (fun z => by
      have : rem.length = 0 := by rw [← List.length_map (f := fun p : Str × Nat => p.1), z]; rfl
      omega)
    obtain ⟨d, p, ex⟩ := L'.o
    walk_at "w"
    refine w_meth ?_
    walk_at "w"
    refine ⟨_, _, rfl, ex, look_none (ns := leftNs) rfl (by decide), ?_⟩
    walk_at "w"
    refine s_firsts F L' g hr fun M2 fl e2 hfl2 => ?_
    walk_at "w"
    refine ix_lst (n := 0) hfl2 (by rw [List.getElem?_map]; unfold firsts at hs1; rw [hs1]; rfl) ?_
    walk_at "w"
    refine w_meth ?_
    walk_at "w"
    refine ⟨_, _, rfl, e2 _ _ ex, look_none (ns := leftNs) rfl (by decide), ?_⟩
    walk_at "w"
    refine s_take F g (L'.ext e2) hs2 (fstB_mem hs3) fun M3 k3 L3 => ?_
    walk_at "w"
    have hf3 : M3 l = some (.lst (found.map D.str)) := k3 _ _ (Ne.symm ntl) (e2 _ _ hf)
    refine ⟨⟨_, _, rfl, hf3⟩, ?_⟩
    walk_at "w"
    refine w_app hf3 (by rw [List.length_map]; exact Nat.lt_of_le_of_lt (by omega : found.length ≤ 10000) (by size_fits)) ?_
    walk_at "w"
    have hlen : (tkOne rem s).length + 1 = rem.length := by
      have h5 := congrArg List.length (tkOne_map rem s)
      rw [List.length_map, List.length_erase_of_mem (fstB_mem hs3), List.length_map] at h5
      omega
    refine kt _ _ ⟨_, _, tkOne rem s, found ++ [s], rfl, fun a o h => ?_, L3.mono (fun a o sa h => by rw [put_ne (nSl a sa)]; exact h) (fun o h => by rw [put_ne ntl]; exact h), by rw [put_same]; simp, by simp [hfl], by omega, ?_⟩
    · rw [put_ne (nMl a o h).1]
      exact k3 _ _ (nMl a o h).2 (e2 _ _ (e _ _ h))
    · rw [← hnf, ← hlen, tkOne_map, List.append_assoc]
      rw [nfN_some hs1]; rfl
  · rintro σ' M' ⟨tv, sv, rem, found, rfl, e, L', hf, hfl, hrl, hnf⟩
    rw [List.length_map, List.length_range] at hrl
    walk_at "w"
    refine tup_list hf ?_
    have : rem.length = 0 := by omega
    rw [this] at hnf
    simp only [nfN, List.append_nil] at hnf
    rw [hnf]
    exact q _ e
end
end Dt

set_option Elab.async false
set_option autoImplicit false
set_option linter.all false
set_option maxRecDepth 100000
set_option maxHeartbeats 400000
namespace Dt
open PySem PySem.Spec PyProof.Rows L2 LamX RZ PySem.P
local macro_rules | `(tactic| walk_at "w1") => `(tactic| with_reducible refine StepW.go ?_)
local macro_rules | `(tactic| walk_at "w") => `(tactic| ((repeat walk_at "w1"); try (with_reducible conv => whnf)))
local macro_rules | `(tactic| walk_at "m") => `(tactic| first | with_reducible assumption | with_reducible exact put_same | (with_reducible apply Ext.get; (with_reducible assumption); walk_at "m") | (with_reducible apply Ext.get; (with_reducible apply Ext.new); (with_reducible assumption); walk_at "m"))
local macro_rules | `(tactic| walk_at "x") => `(tactic| first | with_reducible assumption | with_reducible exact Ext.refl | (with_reducible refine Ext.alloc ?_ (by with_reducible assumption) _; walk_at "x") | (with_reducible refine Ext.trans ?_ (by with_reducible assumption); walk_at "x"))
local macro_rules | `(tactic| walk_at "lk") => `(tactic| first | with_reducible exact look1 | ((with_reducible apply lookS); (with_unfolding_all decide); walk_at "lk"))
local macro_rules | `(tactic| walk_at "g1") => `(tactic| (first
  | with_reducible refine StepW.go ?_
  | with_reducible refine StepG.go ?_
  | with_reducible refine w_isTup ?_
  | ((with_reducible refine w_sz ?sz ?_); (case sz => size_fits))
  | ((with_reducible refine w_len ?sz ?_); (case sz => rfl))
  | ((with_reducible refine w_obj (by walk_at "m") ?ob2 ?_); (case ob2 => walk_at "ln"))
  | (with_reducible refine w_lenL (by walk_at "m") ?_) | (with_reducible refine w_seqL (by walk_at "m") ?_) | (with_reducible refine tup_list (by walk_at "m") ?_)
  | (with_reducible refine w_isLst (by walk_at "m") ?_) | (with_reducible refine w_slL (by walk_at "m") ?_)
  | ((with_reducible refine fld_ok (by walk_at "m") ?cl (by walk_at "lk") ?_); (case cl => walk_at "cl"))
  | (with_reducible refine w_lstL (by walk_at "m") ?_) | (with_reducible refine w_dic (by walk_at "m") ?_)
  ))
local macro_rules | `(tactic| walk_at "g") => `(tactic| ((repeat walk_at "g1"); try (with_reducible conv => whnf)))
local macro_rules | `(tactic| walk_at "ln") => `(tactic| first | exact look_none (ns := ["row", "signs", "dependent", "places", "taken"]) rfl (by decide) | exact look_none (ns := ["alphabet", "due", "its_left", "signs", "parting"]) rfl (by decide) | exact look_none (ns := ["alphabet", "its_lag", "parting"]) rfl (by decide))
local macro_rules | `(tactic| walk_at "cl") => `(tactic| first | exact CF.get (by with_reducible assumption) (by decide))
section
variable {K : Bd} {M M' : DM} {Q : DQ} {A : Alph} {S : Addr → Prop} {x d p t : Addr} {row : List Str} {tk : Str → Nat} {rem : Rem}
/-- what is left of a row behind g -/
def lo (A : Alph) : List Str → List Str → Option (List Str)
  | [], r => some r
  | s :: g, r => if fstB A r s = true then lo A g (r.erase s) else none
def optR : Option (List Str) → D
  | none => .non
  | some r => Enc.d r
theorem lo_snoc {A : Alph} : ∀ (g : List Str) (s : Str) (r : List Str), lo A (g ++ [s]) r = (lo A g r).bind fun r' => if fstB A r' s = true then some (r'.erase s) else none
  | [], s, r => rfl
  | a :: g, s, r => by
    simp only [List.cons_append, lo]
    by_cases h : fstB A r a = true
    · rw [if_pos h, if_pos h, lo_snoc g s _]
    · rw [if_neg h, if_neg h]; rfl
theorem lo_cut {A : Alph} : ∀ (g h r : List Str), lo A (g ++ h) r = (lo A g r).bind fun r' => lo A h r'
  | [], h, r => rfl
  | a :: g, h, r => by
    simp only [List.cons_append, lo]
    by_cases e : fstB A r a = true
    · rw [if_pos e, if_pos e, lo_cut g h _]
    · rw [if_neg e, if_neg e]; rfl
theorem lo_sub {A : Alph} : ∀ (g r r' : List Str), lo A g r = some r' → r'.Sublist r
  | [], r, r', h => by cases h; exact .refl _
  | a :: g, r, r', h => by
    simp only [lo] at h
    by_cases e : fstB A r a = true
    · rw [if_pos e] at h
      exact (lo_sub g _ _ h).trans List.erase_sublist
    · rw [if_neg e] at h; cases h
theorem s_left_of (F : LF K) (g : GoodA A) {gg : List Str} (hl : row.length ≤ 10000) (hg : ∀ s ∈ gg, s ∈ A.signs) (hr : ∀ s ∈ row, s ∈ A.signs) (q : ∀ M', Ext M M' → Q (optR ((lo A gg row).map (nf A))) M') : sp_left_of K [aD A, Enc.d gg, Enc.d row] M Q noX := by
  refine go_left_of ?_
  delta t_left_of
  walk_at "w"
  refine w_make ?_
  walk_at "w"
  refine left_new F g hl fun M1 x t S e1 ht hS L => ?_
  walk_at "w"
  refine w_for ?_
  walk_at "w"
  refine for_inv (gg.map .str) (fun i σ' M' => ∃ sv rem, σ' = [some (aD A), some (Enc.d gg), some (Enc.d row), some (.ref x), sv] ∧ Ext M M' ∧ LeftAt K S M' x t A row rem ∧ lo A (gg.drop i) (rem.map (·.1)) = lo A gg row) (fun i σ' M' _ hi => rfl) ⟨_, row.zipIdx, rfl, e1, L, by simp⟩ ?_ ?_
  · rintro i c σ' M' hc ⟨sv, rem, rfl, e, L', he⟩ Kt kt
    rw [List.getElem?_map] at hc
    cases hx : gg[i]? with
    | none => rw [hx] at hc; cases hc
    | some s =>
      rw [hx] at hc; cases hc
      have hs := hg s (List.mem_of_getElem? hx)
      rw [drop_get hx] at he
      obtain ⟨d, p, ex⟩ := L'.o
      walk_at "w"
      refine w_meth ?_
      walk_at "w"
      refine ⟨_, _, rfl, ex, look_none (ns := leftNs) rfl (by decide), ?_⟩
      walk_at "w"
      refine s_can_be_first F L' hr hs fun M2 e2 => ?_
      walk_at "w"
      simp only [lo] at he
      cases hb : fstB A (rem.map (·.1)) s
      · rw [hb] at he
        simp only [Bool.false_eq_true, if_false] at he
        walk_at "w"
        rw [← he] at q
        exact q _ (e.trans e2)
      · rw [hb] at he
        simp only [if_true] at he
        rw [show (!true) = false from rfl]
        walk_at "w"
        refine w_meth ?_
        walk_at "w"
        refine ⟨_, _, rfl, e2 _ _ ex, look_none (ns := leftNs) rfl (by decide), ?_⟩
        walk_at "w"
        refine s_take F g (L'.ext e2) hs (fstB_mem hb) fun M3 k3 L3 => ?_
        walk_at "w"
        exact kt _ _ ⟨_, tkOne rem s, rfl, fun a o h => k3 _ _ (ne_of_new h ht) (e2 _ _ (e _ _ h)), L3, by rw [tkOne_map]; exact he⟩
  · rintro σ' M' ⟨sv, rem, rfl, e, L', he⟩
    rw [List.length_map, List.drop_length] at he
    simp only [lo] at he
    rw [← he] at q
    obtain ⟨d, p, ex⟩ := L'.o
    walk_at "w"
    refine w_meth ?_
    walk_at "w"
    refine ⟨_, _, rfl, ex, look_none (ns := leftNs) rfl (by decide), ?_⟩
    walk_at "w"
    refine s_left F g L' hl hr fun M2 e2 => ?_
    walk_at "w"
    have hsub := lo_sub gg row _ he.symm
    exact s_normal F g (Nat.le_trans hsub.length_le hl) (fun s hs => hr s (hsub.subset hs)) fun M3 e3 => q _ (e.trans (e2.trans e3))
end
end Dt

set_option Elab.async false
set_option autoImplicit false
set_option linter.all false
set_option maxRecDepth 100000
set_option maxHeartbeats 400000
namespace Dt
open PySem PySem.Spec PyProof.Rows L2 LamX RZ PySem.P
local macro_rules | `(tactic| walk_at "w1") => `(tactic| with_reducible refine StepW.go ?_)
local macro_rules | `(tactic| walk_at "w") => `(tactic| ((repeat walk_at "w1"); try (with_reducible conv => whnf)))
local macro_rules | `(tactic| walk_at "m") => `(tactic| first | with_reducible assumption | with_reducible exact put_same | (with_reducible apply Ext.get; (with_reducible assumption); walk_at "m") | (with_reducible apply Ext.get; (with_reducible apply Ext.new); (with_reducible assumption); walk_at "m"))
local macro_rules | `(tactic| walk_at "x") => `(tactic| first | with_reducible assumption | with_reducible exact Ext.refl | (with_reducible refine Ext.alloc ?_ (by with_reducible assumption) _; walk_at "x") | (with_reducible refine Ext.trans ?_ (by with_reducible assumption); walk_at "x"))
local macro_rules | `(tactic| walk_at "lk") => `(tactic| first | with_reducible exact look1 | ((with_reducible apply lookS); (with_unfolding_all decide); walk_at "lk"))
local macro_rules | `(tactic| walk_at "g1") => `(tactic| (first
  | with_reducible refine StepW.go ?_
  | with_reducible refine StepG.go ?_
  | with_reducible refine w_isTup ?_
  | ((with_reducible refine w_sz ?sz ?_); (case sz => size_fits))
  | ((with_reducible refine w_len ?sz ?_); (case sz => rfl))
  | ((with_reducible refine w_obj (by walk_at "m") ?ob2 ?_); (case ob2 => walk_at "ln"))
  | (with_reducible refine w_lenL (by walk_at "m") ?_) | (with_reducible refine w_seqL (by walk_at "m") ?_) | (with_reducible refine tup_list (by walk_at "m") ?_)
  | (with_reducible refine w_isLst (by walk_at "m") ?_) | (with_reducible refine w_slL (by walk_at "m") ?_)
  | ((with_reducible refine fld_ok (by walk_at "m") ?cl (by walk_at "lk") ?_); (case cl => walk_at "cl"))
  | (with_reducible refine w_lstL (by walk_at "m") ?_) | (with_reducible refine w_dic (by walk_at "m") ?_)
  ))
local macro_rules | `(tactic| walk_at "g") => `(tactic| ((repeat walk_at "g1"); try (with_reducible conv => whnf)))
local macro_rules | `(tactic| walk_at "ln") => `(tactic| first | exact look_none (ns := ["row", "signs", "dependent", "places", "taken"]) rfl (by decide) | exact look_none (ns := ["alphabet", "due", "its_left", "signs", "parting"]) rfl (by decide) | exact look_none (ns := ["alphabet", "its_lag", "parting"]) rfl (by decide))
local macro_rules | `(tactic| walk_at "cl") => `(tactic| first | exact CF.get (by with_reducible assumption) (by decide))
section
variable {K : Bd} {M M' : DM} {Q : DQ} {A : Alph} {S : Addr → Prop} {x d p t : Addr} {row : List Str} {tk : Str → Nat} {rem : Rem}
abbrev sg (r : Rem) : List Str := r.map (·.1)
def boths (A : Alph) (x y : List Str) : List Str := (firsts A x).filter fun s => fstB A y s
/-- found, what is left of both -/
def cmN (A : Alph) : Nat → List Str → List Str → List Str × List Str × List Str
  | 0, x, y => ([], x, y)
  | n + 1, x, y => match (boths A x y)[0]? with
    | none => ([], x, y)
    | some s => let r := cmN A n (x.erase s) (y.erase s); (s :: r.1, r.2)
/-- a greatest common beginning, step by step -/
def cm (A : Alph) (x y : List Str) : List Str × List Str × List Str := cmN A x.length x y
theorem cmN_some {n : Nat} {x y : List Str} {s : Str} (h : (boths A x y)[0]? = some s) : cmN A (n + 1) x y = (s :: (cmN A n (x.erase s) (y.erase s)).1, (cmN A n (x.erase s) (y.erase s)).2) := by rw [cmN, h]
theorem cmN_none {n : Nat} {x y : List Str} (h : (boths A x y)[0]? = none) : cmN A n x y = ([], x, y) := by
  cases n with
  | zero => rfl
  | succ n => rw [cmN, h]
theorem boths_some {x y : List Str} {s : Str} (h : (boths A x y)[0]? = some s) : s ∈ A.signs ∧ fstB A x s = true ∧ fstB A y s = true := by
  have h1 := List.mem_of_getElem? h
  obtain ⟨h2, h3⟩ := List.mem_filter.mp h1
  obtain ⟨h4, h5⟩ := List.mem_filter.mp h2
  exact ⟨h4, h5, h3⟩
theorem boths_nil {x y : List Str} (h : boths A x y = []) (hx : ∀ s ∈ x, s ∈ A.signs) (s : Str) : ¬ (fstB A x s = true ∧ fstB A y s = true) := by
  rintro ⟨h1, h2⟩
  have : s ∈ boths A x y := List.mem_filter.mpr ⟨List.mem_filter.mpr ⟨hx s (fstB_mem h1), h1⟩, h2⟩
  rw [h] at this; cases this
theorem tkOne_length {rem : Rem} {s : Str} (h : fstB A (rem.map (·.1)) s = true) : (tkOne rem s).length + 1 = rem.length := by
  have h5 := congrArg List.length (tkOne_map rem s)
  have h6 := fstB_mem h
  have h7 := List.length_pos_of_mem h6
  rw [List.length_map, List.length_erase_of_mem h6, List.length_map] at h5
  rw [List.length_map] at h7
  omega
theorem LeftAt.tN (L : LeftAt K S M x t A row rem) : ∃ o, M t = some o := by
  obtain ⟨⟨d, p, tk, e, f, et, T⟩, sx, nt⟩ := L
  exact ⟨_, et⟩
theorem s_common (F : LF K) (g : GoodA A) {xs ys : List Str} (hlx : xs.length ≤ 10000) (hly : ys.length ≤ 10000) (hx : ∀ s ∈ xs, s ∈ A.signs) (hy : ∀ s ∈ ys, s ∈ A.signs) (q : ∀ M', Ext M M' → Q (Enc.d (nf A (cm A xs ys).1)) M') : sp_common K [aD A, Enc.d xs, Enc.d ys] M Q noX := by
  refine go_common ?_
  delta t_common
  walk_at "g"
  refine left_new F g hlx fun M1 x1 t1 S1 e1 ht1 hS1 L1 => ?_
  walk_at "g"
  refine left_new F g hly fun M2 x2 t2 S2 e2 ht2 hS2 L2 => ?_
  walk_at "g"
  intro l hl
  walk_at "g"
  obtain ⟨o1, m1⟩ := L1.tN
  obtain ⟨o2, m2⟩ := L2.tN
  have hl2 : ∀ a, M2 a ≠ none → a ≠ l := fun a h z => h (by rw [z]; exact hl)
  have up : ∀ a, M1 a ≠ none → M2 a ≠ none := fun a h => by
    cases z : M1 a with
    | none => exact absurd z h
    | some o => rw [e2 _ _ z]; exact fun z => nomatch z
  have t12 : t1 ≠ t2 := fun z => by rw [z, ht2] at m1; cases m1
  have s1t2 : ∀ a, S1 a → a ≠ t2 := fun a sa z => (hS1 a sa).2 (by rw [z]; exact ht2)
  have s2t1 : ∀ a, S2 a → a ≠ t1 := fun a sa z => by
    have := (hS2 a sa).1
    rw [z, m1] at this; cases this
  have s1l : ∀ a, S1 a → a ≠ l := fun a sa => hl2 a (up a (hS1 a sa).2)
  have s2l : ∀ a, S2 a → a ≠ l := fun a sa => hl2 a (hS2 a sa).2
  have lt1 : l ≠ t1 := fun z => hl2 _ (by rw [e2 _ _ m1]; exact fun z => nomatch z) z.symm
  have lt2 : l ≠ t2 := fun z => hl2 _ (by rw [m2]; exact fun z => nomatch z) z.symm
  have nM : ∀ a o, M a = some o → a ≠ t1 ∧ a ≠ t2 ∧ a ≠ l := fun a o e => ⟨ne_of_new e ht1, ne_of_new (e1 _ _ e) ht2, ne_of_new (e2 _ _ (e1 _ _ e)) hl⟩
  refine wh_inv (fun m σ' M' => ∃ bv sv r1 r2 found, σ' = [some (aD A), some (Enc.d xs), some (Enc.d ys), some (.ref x1), some (.ref x2), some (.ref l), bv, sv] ∧ Ext M M' ∧ LeftAt K S1 M' x1 t1 A xs r1 ∧ LeftAt K S2 M' x2 t2 A ys r2 ∧ M' l = some (.lst (found.map D.str)) ∧ r1.length = m ∧ found.length + m = xs.length ∧ found ++ (cmN A m (r1.map (·.1)) (r2.map (·.1))).1 = (cm A xs ys).1 ∧ (∀ s ∈ found, s ∈ A.signs)) xs.length ⟨_, _, xs.zipIdx, ys.zipIdx, [], rfl, by walk_at "x", (L1.ext e2).ext (Ext.new hl _), L2.ext (Ext.new hl _), put_same, by simp, by simp, by simp [cm], by simp⟩ ?_
  rintro m σ' M' ⟨bv, sv, r1, r2, found, rfl, e, L1', L2', hf, hm, hfl, hcm, hfs⟩ Kt kt
  obtain ⟨d1, p1, ex1⟩ := L1'.o
  obtain ⟨d2, p2, ex2⟩ := L2'.o
  walk_at "g"
  refine s_firsts F L1' g hx fun M3 fl e3 hfl3 => ?_
  walk_at "g"
  refine lc_pure (firsts A (sg r1)) .str (fun s => fstB A (sg r2) s) .str (fun i M' e4 _ => itL_is (e4 _ _ hfl3) i) (Nat.le_trans (List.length_filter_le _ _) (Nat.le_trans g.short (by size_fits))) ?_ ?_
  · intro i s M4 hs e4 KT KF kt kf
    have hsA := (List.mem_filter.mp (List.mem_of_getElem? hs)).1
    walk_at "g"
    refine s_can_be_first F ((L2'.ext e3).ext e4) hy hsA fun M5 e5 => ?_
    walk_at "g"
    cases hc : fstB A (sg r2) s
    · walk_at "g"
      exact kf hc _ (e4.trans e5)
    · walk_at "g"
      exact kt hc _ (e4.trans e5)
  · intro M4 b e4 hb
    walk_at "g"
    intro n hn
    generalize hM6 : put (put M4 b _) n _ = M6
    have hb1 : M6 b = some (.lst ((boths A (sg r1) (sg r2)).map D.str)) := by
      rw [← hM6, put_ne (ne_of_new put_same hn)]; exact put_same
    have hn1 : M6 n = some (.lst []) := by rw [← hM6]; exact put_same
    have e6 : Ext M' M6 := by
      rw [← hM6]
      exact ((e3.trans e4).alloc hb _).alloc hn _
    have bt1 : b ≠ t1 := fun z => by
      obtain ⟨o, h⟩ := L1'.tN
      rw [z, e4 _ _ (e3 _ _ h)] at hb; cases hb
    have bt2 : b ≠ t2 := fun z => by
      obtain ⟨o, h⟩ := L2'.tN
      rw [z, e4 _ _ (e3 _ _ h)] at hb; cases hb
    clear hM6 hb hn e4
    cases hbo : boths A (sg r1) (sg r2) with
    | nil =>
      rw [hbo] at hb1
      refine eq_encL (α := Str) (xs := []) (ys := []) (c := true) hb1 hn1 (by simp) (by decide) ?_
      walk_at "g"
      rw [cmN_none (by rw [hbo]; rfl), List.append_nil] at hcm
      rw [← hcm] at q
      exact s_normal F g (by omega) hfs fun M7 e7 => q _ ((e.trans e6).trans e7)
    | cons s bs =>
      rw [hbo] at hb1
      have hb0 : (boths A (sg r1) (sg r2))[0]? = some s := by rw [hbo]; rfl
      obtain ⟨hs, hs1, hs2⟩ := boths_some hb0
      refine eq_encL (α := Str) (xs := s :: bs) (ys := []) (c := false) hb1 hn1 (by simp) (by decide) ?_
      walk_at "g"
      refine ix_lst (n := 0) hb1 rfl ?_
      walk_at "g"
      refine s_take F g (L1'.ext e6) hs (fstB_mem hs1) fun M7 k7 L7 => ?_
      have L8 := (L2'.ext e6).mono (M' := M7) (fun a o sa h => k7 a o (s2t1 a sa) h) (fun o h => k7 _ _ (Ne.symm t12) h)
      obtain ⟨d3, p3, ex3⟩ := L8.o
      walk_at "g"
      refine ix_lst (n := 0) (k7 _ _ bt1 hb1) rfl ?_
      walk_at "g"
      refine s_take F g L8 hs (fstB_mem hs2) fun M9 k9 L9 => ?_
      have hf9 := k9 _ _ lt2 (k7 _ _ lt1 (e6 _ _ hf))
      walk_at "g"
      refine ix_lst (n := 0) (k9 _ _ bt2 (k7 _ _ bt1 hb1)) rfl ?_
      walk_at "g"
      refine w_app hf9 (by rw [List.length_map]; exact Nat.lt_of_le_of_lt (by omega : found.length ≤ 10000) (by size_fits)) ?_
      walk_at "g"
      have hl1 := tkOne_length hs1
      refine kt (m - 1) _ _ (by omega) ⟨_, _, tkOne r1 s, tkOne r2 s, found ++ [s], rfl, fun a o h => ?_, (L7.mono (fun a o sa h => k9 a o (s1t2 a sa) h) (fun o h => k9 _ _ t12 h)).mono (fun a o sa h => by rw [put_ne (s1l a sa)]; exact h) (fun o h => by rw [put_ne (Ne.symm lt1)]; exact h), L9.mono (fun a o sa h => by rw [put_ne (s2l a sa)]; exact h) (fun o h => by rw [put_ne (Ne.symm lt2)]; exact h), by rw [put_same]; simp, by omega, by simp; omega, ?_, ?_⟩
      · obtain ⟨h1, h2, h3⟩ := nM a o h
        rw [put_ne h3]
        exact k9 _ _ h2 (k7 _ _ h1 (e6 _ _ (e _ _ h)))
      · rw [← hcm, tkOne_map, tkOne_map, show m = m - 1 + 1 by omega, cmN_some hb0, List.append_assoc]
        rfl
      · intro z hz
        rcases List.mem_append.mp hz with h | h
        · exact hfs z h
        · rw [List.mem_singleton.mp h]; exact hs
end
end Dt

set_option Elab.async false
set_option autoImplicit false
set_option linter.all false
set_option maxRecDepth 100000
set_option maxHeartbeats 400000
namespace Dt
open PySem PySem.Spec PyProof.Rows L2 LamX RZ PySem.P
local macro_rules | `(tactic| walk_at "w1") => `(tactic| with_reducible refine StepW.go ?_)
local macro_rules | `(tactic| walk_at "w") => `(tactic| ((repeat walk_at "w1"); try (with_reducible conv => whnf)))
local macro_rules | `(tactic| walk_at "m") => `(tactic| first | with_reducible assumption | with_reducible exact put_same | (with_reducible apply Ext.get; (with_reducible assumption); walk_at "m") | (with_reducible apply Ext.get; (with_reducible apply Ext.new); (with_reducible assumption); walk_at "m"))
local macro_rules | `(tactic| walk_at "x") => `(tactic| first | with_reducible assumption | with_reducible exact Ext.refl | (with_reducible refine Ext.alloc ?_ (by with_reducible assumption) _; walk_at "x") | (with_reducible refine Ext.trans ?_ (by with_reducible assumption); walk_at "x"))
local macro_rules | `(tactic| walk_at "lk") => `(tactic| first | with_reducible exact look1 | ((with_reducible apply lookS); (with_unfolding_all decide); walk_at "lk"))
local macro_rules | `(tactic| walk_at "g1") => `(tactic| (first
  | with_reducible refine StepW.go ?_
  | with_reducible refine StepG.go ?_
  | with_reducible refine w_isTup ?_
  | ((with_reducible refine w_sz ?sz ?_); (case sz => size_fits))
  | ((with_reducible refine w_len ?sz ?_); (case sz => rfl))
  | ((with_reducible refine w_obj (by walk_at "m") ?ob2 ?_); (case ob2 => walk_at "ln"))
  | (with_reducible refine w_lenL (by walk_at "m") ?_) | (with_reducible refine w_seqL (by walk_at "m") ?_) | (with_reducible refine tup_list (by walk_at "m") ?_)
  | (with_reducible refine w_isLst (by walk_at "m") ?_) | (with_reducible refine w_slL (by walk_at "m") ?_)
  | ((with_reducible refine fld_ok (by walk_at "m") ?cl (by walk_at "lk") ?_); (case cl => walk_at "cl"))
  | (with_reducible refine w_lstL (by walk_at "m") ?_) | (with_reducible refine w_dic (by walk_at "m") ?_)
  ))
local macro_rules | `(tactic| walk_at "g") => `(tactic| ((repeat walk_at "g1"); try (with_reducible conv => whnf)))
local macro_rules | `(tactic| walk_at "ln") => `(tactic| first | exact look_none (ns := ["row", "signs", "dependent", "places", "taken"]) rfl (by decide) | exact look_none (ns := ["alphabet", "due", "its_left", "signs", "parting"]) rfl (by decide) | exact look_none (ns := ["alphabet", "its_lag", "parting"]) rfl (by decide))
local macro_rules | `(tactic| walk_at "cl") => `(tactic| first | exact CF.get (by with_reducible assumption) (by decide))
section
variable {A : Alph} {x y r r' : List Str} {s : Str}
theorem fstB_eq : fstB A r s = Tr.fst (fr A) r s := by
  induction r with
  | nil => rfl
  | cons t r ih => simp only [fstB, Tr.fst, ih]
theorem lo_eq : ∀ {g r : List Str}, lo A g r = Tr.lo (fr A) g r
  | [], r => rfl
  | s :: g, r => by simp only [lo, Tr.lo, fstB_eq, lo_eq]
abbrev Tq (A : Alph) (r r' : List Str) : Prop := Tr.Tq (fr A) r r'
theorem fr_fs (g : GoodA A) : ∀ a, fr A a a = false := fr_self g
theorem fr_fc : ∀ a b, fr A a b = fr A b a := fr_comm A
abbrev InA (A : Alph) (r : List Str) : Prop := ∀ s ∈ r, s ∈ A.signs
theorem InA.erase (h : InA A r) : InA A (r.erase s) := fun a ha => h a (List.mem_of_mem_erase ha)
theorem InA.app (h : InA A r) (h' : InA A r') : InA A (r ++ r') := fun a ha => (List.mem_append.mp ha).elim (h a) (h' a)
theorem Tq.inA (g : GoodA A) (h : Tq A r r') (hr : InA A r) : InA A r' := fun a ha => hr a ((Tr.Tq.mem (fr_fs g) h).mpr ha)
theorem firsts_congr (g : GoodA A) (h : Tq A r r') : firsts A r = firsts A r' := by
  unfold firsts
  refine List.filter_congr fun s _ => ?_
  rw [fstB_eq, fstB_eq, Tr.Tq.fst_eq (fr_fs g) h]
theorem nfN_tq (g : GoodA A) : ∀ (n : Nat) (r : List Str), InA A r → r.length = n → Tq A r (nfN A n r)
  | 0, r, _, hl => by
    have : r = [] := List.length_eq_zero_iff.mp hl
    subst this; exact Tr.Tq.refl
  | n + 1, r, hr, hl => by
    obtain ⟨s, h1, h2, h3⟩ := firsts_some hr (fun e => by rw [e] at hl; cases hl)
    rw [nfN_some h1]
    have ih := nfN_tq g n (r.erase s) hr.erase (by rw [List.length_erase_of_mem (fstB_mem h3)]; omega)
    exact (Tr.fst_Tq fr_fc (by rw [← fstB_eq]; exact h3)).trans (Tr.Tq.cons ih)
theorem nf_tq (g : GoodA A) (hr : InA A r) : Tq A r (nf A r) := nfN_tq g _ r hr rfl
theorem nfN_congr (g : GoodA A) : ∀ (n : Nat) (r r' : List Str), Tq A r r' → nfN A n r = nfN A n r'
  | 0, _, _, _ => rfl
  | n + 1, r, r', h => by
    have e := firsts_congr g h
    unfold nfN
    rw [← e]
    cases h1 : (firsts A r)[0]? with
    | none => rfl
    | some s =>
      have hm := List.mem_of_getElem? h1
      have h3 := (List.mem_filter.mp hm).2
      rw [fstB_eq] at h3
      simp only []
      rw [nfN_congr g n _ _ (Tr.Tq.erase (fr_fs g) fr_fc h h3)]
theorem nf_congr (g : GoodA A) (h : Tq A r r') : nf A r = nf A r' := by
  unfold nf
  rw [Tr.Tq.length (fr_fs g) h]
  exact nfN_congr g _ r r' h
theorem nf_in (g : GoodA A) (hr : InA A r) : InA A (nf A r) := (nf_tq g hr).inA g hr
theorem nf_length (hr : InA A r) : (nf A r).length = r.length := nfN_length _ _ hr rfl
theorem nf_nf (g : GoodA A) (hr : InA A r) : nf A (nf A r) = nf A r := (nf_congr g (nf_tq g hr)).symm
theorem nf_iff (g : GoodA A) (hr : InA A r) (hr' : InA A r') : nf A r = nf A r' ↔ Tq A r r' :=
  ⟨fun h => (nf_tq g hr).trans (by rw [h]; exact (nf_tq g hr').symm), nf_congr g⟩
theorem nf_nil_iff (hr : InA A r) : nf A r = [] ↔ r = [] := by
  rw [← List.length_eq_zero_iff, nf_length hr, List.length_eq_zero_iff]
/-! ### the greatest common beginning, taken step by step -/
structure CmOk (A : Alph) (x y : List Str) (c : List Str × List Str × List Str) : Prop where
  one : Tq A (c.1 ++ c.2.1) x
  other : Tq A (c.1 ++ c.2.2) y
  apart : Tr.Apart (fr A) c.2.1 c.2.2
  len : c.1.length + c.2.1.length = x.length ∧ c.1.length + c.2.2.length = y.length
theorem cmN_ok (g : GoodA A) : ∀ (n : Nat) (x y : List Str), InA A x → x.length = n → CmOk A x y (cmN A n x y)
  | 0, x, y, _, hl => by
    have : x = [] := List.length_eq_zero_iff.mp hl
    subst this
    exact ⟨Tr.Tq.refl, Tr.Tq.refl, fun s h => by simp [cmN, Tr.fst] at h, by simp [cmN], by simp [cmN]⟩
  | n + 1, x, y, hx, hl => by
    cases hb : boths A x y with
    | nil =>
      rw [cmN_none (by rw [hb]; rfl)]
      exact ⟨Tr.Tq.refl, Tr.Tq.refl, fun s h => boths_nil hb hx s (by rw [fstB_eq, fstB_eq]; exact h), by simp, by simp⟩
    | cons s l =>
      have hb0 : (boths A x y)[0]? = some s := by rw [hb]; rfl
      obtain ⟨hs, hs1, hs2⟩ := boths_some hb0
      rw [cmN_some hb0]
      have hm1 := fstB_mem hs1
      have hm2 := fstB_mem hs2
      have l1 := List.length_erase_of_mem hm1
      have l2 := List.length_erase_of_mem hm2
      have p2 := List.length_pos_of_mem hm2
      have ih := cmN_ok g n (x.erase s) (y.erase s) hx.erase (by omega)
      refine ⟨?_, ?_, ih.apart, ?_, ?_⟩
      · exact (Tr.Tq.cons ih.one).trans (Tr.fst_Tq fr_fc (by rw [← fstB_eq]; exact hs1)).symm
      · exact (Tr.Tq.cons ih.other).trans (Tr.fst_Tq fr_fc (by rw [← fstB_eq]; exact hs2)).symm
      · have := ih.len.1
        simp only [List.length_cons]; omega
      · have := ih.len.2
        simp only [List.length_cons]; omega
theorem cm_ok (g : GoodA A) (hx : InA A x) : CmOk A x y (cm A x y) := cmN_ok g _ x y hx rfl
theorem CmOk.one_only (g : GoodA A) {c c' : List Str × List Str × List Str} {x' y' : List Str} (h : CmOk A x y c) (h' : CmOk A x' y' c') (e1 : Tq A x x') (e2 : Tq A y y') : Tq A c.1 c'.1 ∧ Tq A c.2.1 c'.2.1 ∧ Tq A c.2.2 c'.2.2 :=
  Tr.common_one (fr_fs g) fr_fc h'.apart h.apart (h.one.trans (e1.trans h'.one.symm)) (h.other.trans (e2.trans h'.other.symm))
/-- the lag, normal forms -/
def lagL (A : Alph) (x y : List Str) : List Str × List Str := (nf A (cm A x y).2.1, nf A (cm A x y).2.2)
/-- what is left behind the normal form of a common beginning -/
theorem lo_nf (g : GoodA A) {h z : List Str} (hh : InA A h) (e : Tq A (h ++ z) x) : (lo A (nf A h) x).map (nf A) = some (nf A z) := by
  rw [lo_eq]
  obtain ⟨w, h1, h2⟩ := Tr.lo_of (fr_fs g) fr_fc (show Tr.Tq (fr A) (nf A h ++ z) x from (Tr.Tq.app (nf_tq g hh).symm .refl).trans e)
  rw [h1]
  exact congrArg some (nf_congr g h2).symm
theorem CmOk.in1 (g : GoodA A) {c : List Str × List Str × List Str} (h : CmOk A x y c) (hx : InA A x) : InA A c.1 ∧ InA A c.2.1 := by
  have := Tq.inA g h.one.symm hx
  exact ⟨fun a ha => this a (List.mem_append_left _ ha), fun a ha => this a (List.mem_append_right _ ha)⟩
theorem CmOk.in2 (g : GoodA A) {c : List Str × List Str × List Str} (h : CmOk A x y c) (hy : InA A y) : InA A c.2.2 := by
  have := Tq.inA g h.other.symm hy
  exact fun a ha => this a (List.mem_append_right _ ha)
theorem lag_length (g : GoodA A) (hx : InA A x) (hy : InA A y) : (lagL A x y).1.length ≤ x.length ∧ (lagL A x y).2.length ≤ y.length := by
  have c := cm_ok (y := y) g hx
  unfold lagL
  simp only []
  rw [nf_length (c.in1 g hx).2, nf_length (c.in2 g hy)]
  have := c.len
  omega
theorem lag_in (g : GoodA A) (hx : InA A x) (hy : InA A y) : InA A (lagL A x y).1 ∧ InA A (lagL A x y).2 := by
  have c := cm_ok (y := y) g hx
  exact ⟨nf_in g (c.in1 g hx).2, nf_in g (c.in2 g hy)⟩
/-- what is behind both sides of the lag may be put behind the rows -/
theorem lag_behind (g : GoodA A) {u v : List Str} (hx : InA A x) (hy : InA A y) (hu : InA A u) (hv : InA A v) : lagL A ((lagL A x y).1 ++ u) ((lagL A x y).2 ++ v) = lagL A (x ++ u) (y ++ v) := by
  have c := cm_ok (y := y) g hx
  have e1 := nf_tq g (c.in1 g hx).2
  have e2 := nf_tq g (c.in2 g hy)
  obtain ⟨i1, i2⟩ := lag_in g hx hy
  have d := cm_ok (A := A) (x := (lagL A x y).1 ++ u) (y := (lagL A x y).2 ++ v) g (i1.app hu)
  have w := cm_ok (A := A) (x := x ++ u) (y := y ++ v) g (hx.app hu)
  have q1 : Tq A ((cm A x y).1 ++ (cm A ((lagL A x y).1 ++ u) ((lagL A x y).2 ++ v)).1 ++ (cm A ((lagL A x y).1 ++ u) ((lagL A x y).2 ++ v)).2.1) (x ++ u) := by
    rw [List.append_assoc]
    refine (Tr.Tq.app .refl d.one).trans ?_
    rw [← List.append_assoc]
    exact Tr.Tq.app ((Tr.Tq.app .refl e1.symm).trans c.one) .refl
  have q2 : Tq A ((cm A x y).1 ++ (cm A ((lagL A x y).1 ++ u) ((lagL A x y).2 ++ v)).1 ++ (cm A ((lagL A x y).1 ++ u) ((lagL A x y).2 ++ v)).2.2) (y ++ v) := by
    rw [List.append_assoc]
    refine (Tr.Tq.app .refl d.other).trans ?_
    rw [← List.append_assoc]
    exact Tr.Tq.app ((Tr.Tq.app .refl e2.symm).trans c.other) .refl
  obtain ⟨_, h1, h2⟩ := Tr.common_one (fr_fs g) fr_fc w.apart d.apart (q1.trans w.one.symm) (q2.trans w.other.symm)
  show (nf A _, nf A _) = (nf A _, nf A _)
  rw [nf_congr g h1, nf_congr g h2]
end
section
variable {K : Bd} {M M' : DM} {Q : DQ} {A : Alph}
theorem s_lag (F : LF K) (g : GoodA A) {xs ys : List Str} (hlx : xs.length ≤ 10000) (hly : ys.length ≤ 10000) (hx : InA A xs) (hy : InA A ys) (q : ∀ M', Ext M M' → Q (Enc.d (lagL A xs ys)) M') : sp_lag K [aD A, Enc.d xs, Enc.d ys] M Q noX := by
  have c := cm_ok (y := ys) g hx
  have hg := (c.in1 g hx).1
  refine go_lag ?_
  delta t_lag
  walk_at "g"
  refine s_common F g hlx hly hx hy fun M1 e1 => ?_
  walk_at "g"
  refine s_left_of F g hlx (nf_in g hg) hx fun M2 e2 => ?_
  rw [lo_nf g hg c.one]
  walk_at "g"
  refine s_left_of F g hly (nf_in g hg) hy fun M3 e3 => ?_
  rw [lo_nf g hg c.other]
  walk_at "g"
  exact q _ ((e1.trans e2).trans e3)
theorem s_behind (F : LF K) (g : GoodA A) {l1 l2 xs ys : List Str} (hlx : l1.length + xs.length ≤ 10000) (hly : l2.length + ys.length ≤ 10000) (h1 : InA A l1) (h2 : InA A l2) (hx : InA A xs) (hy : InA A ys) (q : ∀ M', Ext M M' → Q (Enc.d (lagL A (l1 ++ xs) (l2 ++ ys))) M') : sp_behind K [aD A, Enc.d (l1, l2), Enc.d xs, Enc.d ys] M Q noX := by
  refine go_behind ?_
  delta t_behind
  walk_at "g"
  refine ix_tup (n := 0) rfl ?_
  walk_at "g"
  refine add_tup ?_ ?_
  · rw [List.length_map, List.length_map]; exact Nat.le_trans hlx (by size_fits)
  rw [← List.map_append]
  walk_at "g"
  refine ix_tup (n := 1) rfl ?_
  walk_at "g"
  refine add_tup ?_ ?_
  · rw [List.length_map, List.length_map]; exact Nat.le_trans hly (by size_fits)
  rw [← List.map_append]
  walk_at "g"
  exact s_lag F g (by rw [List.length_append]; exact hlx) (by rw [List.length_append]; exact hly) (h1.app hx) (h2.app hy) q
end
end Dt

set_option Elab.async false
set_option autoImplicit false
set_option linter.all false
set_option maxRecDepth 100000
set_option maxHeartbeats 400000
namespace Dt
open PySem PySem.Spec PyProof.Rows L2 LamX RZ PySem.P
local macro_rules | `(tactic| walk_at "w1") => `(tactic| with_reducible refine StepW.go ?_)
local macro_rules | `(tactic| walk_at "w") => `(tactic| ((repeat walk_at "w1"); try (with_reducible conv => whnf)))
local macro_rules | `(tactic| walk_at "m") => `(tactic| first | with_reducible assumption | with_reducible exact put_same | (with_reducible apply Ext.get; (with_reducible assumption); walk_at "m") | (with_reducible apply Ext.get; (with_reducible apply Ext.new); (with_reducible assumption); walk_at "m"))
local macro_rules | `(tactic| walk_at "x") => `(tactic| first | with_reducible assumption | with_reducible exact Ext.refl | (with_reducible refine Ext.alloc ?_ (by with_reducible assumption) _; walk_at "x") | (with_reducible refine Ext.trans ?_ (by with_reducible assumption); walk_at "x"))
local macro_rules | `(tactic| walk_at "lk") => `(tactic| first | with_reducible exact look1 | ((with_reducible apply lookS); (with_unfolding_all decide); walk_at "lk"))
local macro_rules | `(tactic| walk_at "h1") => `(tactic| (first
  | with_reducible refine StepW.go ?_
  | with_reducible refine StepG.go ?_
  | with_reducible refine w_isTup ?_
  | ((with_reducible refine w_sz ?sz ?_); (case sz => size_fits))
  | ((with_reducible refine w_len ?sz ?_); (case sz => rfl))
  | ((with_reducible refine w_obj (by walk_at "m") ?ob2 ?_); (case ob2 => walk_at "ln"))
  | (with_reducible refine w_lenL (by walk_at "m") ?_) | (with_reducible refine w_seqL (by walk_at "m") ?_) | (with_reducible refine tup_list (by walk_at "m") ?_)
  | (with_reducible refine w_isLst (by walk_at "m") ?_) | (with_reducible refine w_slL (by walk_at "m") ?_)
  | ((with_reducible refine fld_ok (by walk_at "m") ?cl (by walk_at "lk") ?_); (case cl => walk_at "cl"))
  | (with_reducible refine w_lstL (by walk_at "m") ?_) | (with_reducible refine w_dic (by walk_at "m") ?_)
  ))
local macro_rules | `(tactic| walk_at "g1") => `(tactic| first | walk_at "h1" | with_reducible refine StepP.go ?_)
local macro_rules | `(tactic| walk_at "h") => `(tactic| ((repeat walk_at "h1"); try (with_reducible conv => whnf)))
local macro_rules | `(tactic| walk_at "g") => `(tactic| ((repeat walk_at "g1"); try (with_reducible conv => whnf)))
local macro_rules | `(tactic| walk_at "ln") => `(tactic| first | exact look_none (ns := ["row", "signs", "dependent", "places", "taken"]) rfl (by decide) | exact look_none (ns := ["alphabet", "due", "its_left", "signs", "parting"]) rfl (by decide) | exact look_none (ns := ["alphabet", "its_lag", "parting"]) rfl (by decide))
local macro_rules | `(tactic| walk_at "cl") => `(tactic| first | exact CF.get (by with_reducible assumption) (by decide) | exact LF.row (by with_reducible assumption) | exact LF.signs (by with_reducible assumption) | exact LF.dependent (by with_reducible assumption) | exact LF.places (by with_reducible assumption) | exact LF.taken (by with_reducible assumption))
section
variable {K : Bd} {M M' : DM} {Q : DQ} {A : Alph} {b c : Addr} {cells : List Int}
theorem w_mulR {i j : Int} (h : -(2 ^ 64) < j ∧ j < 2 ^ 64) (q : Q (.int (i * j)) M) : mulI (.int i) (.int j) M Q := ⟨.inr h, q⟩
theorem w_mulL {i j : Int} (h : -(2 ^ 64) < i ∧ i < 2 ^ 64) (q : Q (.int (i * j)) M) : mulI (.int i) (.int j) M Q := ⟨.inl h, q⟩
theorem w_mod {i j : Int} (h : 0 < j) (q : Q (.int (i % j)) M) : modD (.int i) (.int j) M Q := ⟨h, q⟩
theorem w_fdiv {i j : Int} (h : 0 < j ∧ j < 1073741824) (q : Q (.int (i / j)) M) : fdivD (.int i) (.int j) M Q := ⟨h, q⟩
theorem w_pow {i j : Int} (h : CPow i j) (q : Q (.int (i ^ j.toNat)) M) : powD (.int i) (.int j) M Q := ⟨h, q⟩
theorem set_lst {a : Addr} {xs : List D} {n : Nat} {v : D} {N : DM → Prop} (e : M a = some (.lst xs)) (h : n < xs.length) (q : N (put M a (.lst (xs.set n v)))) : setLD M (.ref a) (.int (n : Nat)) v N := by
  refine ⟨xs, n, e, ?_, q⟩
  unfold ixN
  rw [if_pos (by omega), if_pos (by omega)]; rfl
theorem ix_lst' {a : Addr} {xs : List D} {n : Nat} {x : D} (e : M a = some (.lst xs)) (h : xs[n]? = some x) {P : Prop} (q : P) : (∃ b ys, D.ref a = .ref b ∧ M b = some (.lst ys)) ∧ P := ⟨⟨a, xs, rfl, e⟩, q⟩
theorem add_lst {a b : Addr} {xs ys : List D} (e1 : M a = some (.lst xs)) (e2 : M b = some (.lst ys)) (h : xs.length + ys.length ≤ sizeLine) (q : ∀ p, M p = none → Q (.ref p) (put M p (.lst (xs ++ ys)))) : addD (.ref a) (.ref b) M Q := ⟨xs, ys, e1, e2, h, q⟩
theorem cutD_map {α β : Type} (f : α → β) (xs : List α) (l u : Option Int) : cutD (xs.map f) l u = (cutD xs l u).map f := by
  unfold cutD
  rw [List.length_map, List.map_take, List.map_drop]
theorem cutD_len {α : Type} (xs : List α) (l u : Option Int) : (cutD xs l u).length ≤ xs.length := by
  unfold cutD
  rw [List.length_take, List.length_drop]
  omega
theorem cutD_mem {α : Type} {xs : List α} {l u : Option Int} {x : α} (h : x ∈ cutD xs l u) : x ∈ xs := List.mem_of_mem_drop (List.mem_of_mem_take h)
/-- the bag of drawn numbers -/
structure BagAt (M : DM) (b c : Addr) : Prop where
  ex : ∃ (x y z : Int) (cells : List Int), M b = some (.lst [.int x, .int y, .int z, .ref c]) ∧ M c = some (.lst (cells.map .int)) ∧ 0 ≤ x ∧ 0 ≤ y ∧ y < 2147483648 ∧ cells.length ≤ 63 ∧ ∀ v ∈ cells, (0 : Int) ≤ v
theorem BagAt.ne (h : BagAt M b c) : b ≠ c := by
  obtain ⟨x, y, z, cells, e1, e2, _, _, _, hl, _⟩ := h.ex
  intro e
  rw [e, e2] at e1
  have h1 := DO.lst.inj (Option.some.inj e1)
  cases cells with
  | nil => cases h1
  | cons v1 r => cases r with
    | nil => cases h1
    | cons v2 r => cases r with
      | nil => cases h1
      | cons v3 r => cases r with
        | nil => cases h1
        | cons v4 r => simp at h1
theorem BagAt.mono (h : BagAt M b c) (k : ∀ a o, (a = b ∨ a = c) → M a = some o → M' a = some o) : BagAt M' b c := by
  obtain ⟨x, y, z, cells, e1, e2, r⟩ := h.ex
  exact ⟨x, y, z, cells, k _ _ (.inl rfl) e1, k _ _ (.inr rfl) e2, r⟩
theorem BagAt.ext (h : BagAt M b c) (k : Ext M M') : BagAt M' b c := h.mono fun a o _ e => k a o e
/-- all stays but what stands at b -/
def Bx (b : Addr) (M M' : DM) : Prop := ∀ a o, a ≠ b → M a = some o → M' a = some o
theorem Bx.refl : Bx b M M := fun _ _ _ h => h
theorem Bx.trans {M1 M2 : DM} (h : Bx b M M1) (k : Bx b M1 M2) : Bx b M M2 := fun a o n e => k a o n (h a o n e)
theorem Ext.bx (h : Ext M M') : Bx b M M' := fun a o _ e => h a o e
theorem s_law_bag {script : List Int} (q : ∀ M' b c, Ext M M' → BagAt M' b c → Q (.ref b) M') : sp__law_bag K [.scr (script.map .int)] M Q noX := by
  refine go__law_bag ?_
  delta t__law_bag
  walk_at "g"
  refine w_slZ fun p hp => ?_
  rw [show (63 : Int) = ((63 : Nat) : Int) from rfl, cut_to, ← List.map_take]
  walk_at "g"
  refine lc_pure (script.take 63) .int (fun _ => true) (fun v => .int (if v < 0 then -v else v)) (fun i M' e _ => itL_is (e _ _ put_same) i) (by rw [List.length_take]; exact Nat.le_trans (Nat.min_le_left _ _) (by size_fits)) ?_ ?_
  · intro i v M2 hv e2 KT KF kt kf
    walk_at "g"
    exact kt rfl _ e2
  · intro M2 c e2 hc
    walk_at "g"
    intro b hb
    have e3 := (Ext.new hp (.lst ((script.take 63).map D.int))).trans e2
    refine q _ b c ((e3.alloc hc _).alloc hb _) ⟨0, 1234567891, 0, (script.take 63).map fun v => if v < 0 then -v else v, put_same, ?_, by decide, by decide, by decide, by rw [List.length_map, List.length_take]; exact Nat.min_le_left _ _, fun v hv => ?_⟩
    · rw [put_ne (ne_of_new put_same hb), put_same, List.filter_eq_self.mpr (fun _ _ => rfl), List.map_map]; rfl
    · obtain ⟨u, _, rfl⟩ := List.mem_map.mp hv
      split <;> omega
theorem s_law_take (h : BagAt M b c) {many : Nat} (hm : 0 < many) (hm2 : many < 1000000000) (q : ∀ M' (v : Nat), v < many → Bx b M M' → BagAt M' b c → Q (.int (v : Nat)) M') : sp__law_take K [.ref b, .int (many : Nat)] M Q noX := by
  obtain ⟨x, y, z, cells, e1, e2, hx, hy, hy2, hl, hc⟩ := h.ex
  have hbc := h.ne
  refine go__law_take ?_
  delta t__law_take
  -- the second half: what stands in the bag is known
  have back : ∀ (M1 : DM) (s4 s5 : Option D) (x y z : Int), M1 b = some (.lst [.int x, .int y, .int z, .ref c]) → M1 c = some (.lst (cells.map .int)) → 0 ≤ x → 0 ≤ y → y < 2147483648 → Bx b M M1 →
      dSeq (dIfS (dB (dOp gtD (dOp ixD (dVar 0) (dC (.int 0))) (dC (.int 0)))) (dSeq (dAsg (dOp modD (dCB intD (dCons (dOp ixD (dVar 0) (dC (.int 0))) dNil)) (dVar 1)) (gNm 6)) (dSeq (dAsg (dOp fdivD (dCB intD (dCons (dOp ixD (dVar 0) (dC (.int 0))) dNil)) (dVar 1)) (gIx (dVar 0) (dC (.int 0)))) (dRet (dVar 6)))) dNext) (dSeq (dAsg (dOp modD (dCB intD (dCons (dOp mulI (dOp addD (dOp ixD (dVar 0) (dC (.int 1))) (dC (.int 1))) (dC (.int 39373))) dNil)) (dC (.int 1000000007))) (gNm 2)) (dSeq (dAsg (dOp modD (dCB intD (dCons (dOp mulI (dOp modD (dCB intD (dCons (dOp mulI (dVar 2) (dVar 2)) dNil)) (dC (.int 998244353))) (dC (.int 30011))) dNil)) (dC (.int 998244353))) (gNm 3)) (dRet (dOp modD (dCB intD (dCons (dOp fdivD (dVar 3) (dC (.int 7))) dNil)) (dVar 1))))) (dEnd Q noX) [some (.ref b), some (.int (many : Nat)), none, none, s4, s5, none] M1 := by
    intro M1 s4 s5 x y z e1 e2 hx hy hy2 k
    walk_at "g"
    refine ix_lst (n := 0) e1 rfl ?_
    walk_at "g"
    have hmp : (0 : Int) < (many : Int) := by omega
    have fin : ∀ (u : Int) (M2 : DM), Bx b M M2 → BagAt M2 b c → Q (.int (u % (many : Int))) M2 := fun u M2 k2 hb => by
      have h1 := Int.emod_nonneg u (show (many : Int) ≠ 0 by omega)
      have h2 := Int.emod_lt_of_pos u hmp
      have := q M2 (u % (many : Int)).toNat (by omega) k2 hb
      rw [Int.toNat_of_nonneg h1] at this
      exact this
    cases hx0 : decide ((0 : Int) < x)
    · walk_at "g"
      refine ix_lst (n := 1) e1 rfl ?_
      walk_at "g"
      refine w_mulR (by decide) ?_
      walk_at "g"
      refine w_mod (by decide) ?_
      walk_at "g"
      refine w_mulL ⟨?_, ?_⟩ ?_
      · have := Int.emod_nonneg ((y + 1) * 39373) (show (1000000007 : Int) ≠ 0 by decide)
        omega
      · have := Int.emod_lt_of_pos ((y + 1) * 39373) (show (0 : Int) < 1000000007 by decide)
        omega
      walk_at "g"
      refine w_mod (by decide) ?_
      walk_at "g"
      refine w_mulR (by decide) ?_
      walk_at "g"
      refine w_mod (by decide) ?_
      walk_at "g"
      refine w_fdiv (by decide) ?_
      walk_at "g"
      refine w_mod hmp ?_
      exact fin _ _ k ⟨x, y, z, cells, e1, e2, hx, hy, hy2, hl, hc⟩
    · walk_at "g"
      refine ix_lst (n := 0) e1 rfl ?_
      walk_at "g"
      refine w_mod hmp ?_
      walk_at "g"
      refine ix_lst (n := 0) e1 rfl ?_
      walk_at "g"
      refine w_fdiv ⟨hmp, by omega⟩ ?_
      walk_at "g"
      refine set_lst (n := 0) e1 (by simp) ?_
      walk_at "g"
      refine fin _ _ (fun a o ha e => by rw [put_ne ha]; exact k a o ha e) ⟨x / (many : Int), y, z, cells, by rw [put_same]; rfl, by rw [put_ne (Ne.symm hbc)]; exact e2, Int.ediv_nonneg hx (by omega), hy, hy2, hl, hc⟩
  walk_at "g"
  refine ix_lst (n := 0) e1 rfl ?_
  walk_at "g"
  cases hx0 : decide (x = 0)
  · walk_at "w1"
    walk_at "w1"
    walk_at "w1"
    exact back M none none x y z e1 e2 hx hy hy2 Bx.refl
  · walk_at "g"
    refine ix_lst (n := 3) e1 rfl ?_
    walk_at "g"
    refine ix_lst (n := 2) e1 rfl ?_
    walk_at "g"
    intro p hp
    walk_at "g"
    intro n hn
    have k1 : Ext M (put (put M p (.lst (cutD (cells.map D.int) (some z) none))) n (.lst [.int 0])) := by walk_at "x"
    have hp1 : put (put M p (.lst (cutD (cells.map D.int) (some z) none))) n (.lst [.int 0]) p = some (.lst (cutD (cells.map D.int) (some z) none)) := by rw [put_ne (ne_of_new put_same hn)]; exact put_same
    have hn1 : put (put M p (.lst (cutD (cells.map D.int) (some z) none))) n (.lst [.int 0]) n = some (.lst [.int 0]) := put_same
    revert k1 hp1 hn1
    generalize put (put M p (.lst (cutD (cells.map D.int) (some z) none))) n (.lst [.int 0]) = M2
    intro k1 hp1 hn1
    have hcl := cutD_len cells (some z) none
    refine add_lst hp1 hn1 (by rw [cutD_map, List.length_map]; exact Nat.le_trans (show _ + 1 ≤ 64 by omega) (by size_fits)) fun r hr => ?_
    obtain ⟨v, hv, hv0⟩ : ∃ v : Int, (cutD (cells.map D.int) (some z) none ++ [D.int 0])[0]? = some (.int v) ∧ 0 ≤ v := by
      rw [cutD_map]
      cases h : cutD cells (some z) none with
      | nil => exact ⟨0, rfl, Int.le_refl _⟩
      | cons v l =>
        refine ⟨v, rfl, hc v ?_⟩
        have : v ∈ cutD cells (some z) none := by rw [h]; exact List.mem_cons_self
        exact cutD_mem this
    have k2 := k1.trans (Ext.new hr (.lst (cutD (cells.map D.int) (some z) none ++ [D.int 0])))
    walk_at "g"
    refine ix_lst (n := 0) put_same hv ?_
    revert k2
    generalize put M2 r (.lst (cutD (cells.map D.int) (some z) none ++ [D.int 0])) = M3
    intro k2
    have e3 := k2 _ _ e1
    have e4 := k2 _ _ e2
    walk_at "g"
    refine ix_lst' (n := 0) e3 rfl ?_
    refine ix_lst (n := 2) e3 rfl ?_
    walk_at "g"
    refine set_lst (n := 2) e3 (by simp) ?_
    have b3 : put M3 b (.lst ([D.int x, .int y, .int z, .ref c].set 2 (.int (z + 1)))) b = some (.lst [D.int x, .int y, .int (z + 1), .ref c]) := put_same
    have c3 : put M3 b (.lst ([D.int x, .int y, .int z, .ref c].set 2 (.int (z + 1)))) c = some (.lst (cells.map .int)) := by rw [put_ne (Ne.symm hbc)]; exact e4
    have k3 : Bx b M (put M3 b (.lst ([D.int x, .int y, .int z, .ref c].set 2 (.int (z + 1))))) := fun a o ha e => by rw [put_ne ha]; exact k2 _ _ e
    revert b3 c3 k3
    generalize put M3 b (.lst ([D.int x, .int y, .int z, .ref c].set 2 (.int (z + 1)))) = M4
    intro b3 c3 k3
    walk_at "g"
    refine w_pow ⟨by decide, by decide, by decide⟩ ?_
    walk_at "g"
    -- behind the test
    have rest : ∀ (M5 : DM) (x : Int), M5 b = some (.lst [D.int x, .int y, .int (z + 1), .ref c]) → M5 c = some (.lst (cells.map .int)) → 0 ≤ x → Bx b M M5 → ∀ n0 : Std → DM → Prop, (∀ M6 s5 y', M6 b = some (.lst [D.int x, .int y', .int (z + 1), .ref c]) → M6 c = some (.lst (cells.map .int)) → 0 ≤ y' → y' < 2147483648 → Bx b M M6 → n0 [some (.ref b), some (.int (many : Nat)), none, none, some (.int v), s5, none] M6) →
        dSeq (dAsg (dOp addD (dOp addD (dOp mulI (dOp ixD (dVar 0) (dC (.int 1))) (dC (.int 48271))) (dOp modD (dCB intD (dCons (dVar 4) dNil)) (dC (.int 2147483647)))) (dOp mulI (dC (.int 7919)) (dOp ixD (dVar 0) (dC (.int 2))))) (gNm 5)) (dAsg (dOp modD (dCB intD (dCons (dVar 5) dNil)) (dC (.int 2147483647))) (gIx (dVar 0) (dC (.int 1)))) ⟨n0, Q, fun _ _ => False, fun _ _ => False, fun _ => noX⟩ [some (.ref b), some (.int (many : Nat)), none, none, some (.int v), none, none] M5 := by
      intro M5 x b5 c5 hx5 k5 n0 hn0
      walk_at "g"
      refine ix_lst (n := 1) b5 rfl ?_
      walk_at "g"
      refine w_mulR (by decide) ?_
      walk_at "g"
      refine w_mod (by decide) ?_
      walk_at "g"
      refine ix_lst (n := 2) b5 rfl ?_
      refine w_mulL (by decide) ?_
      walk_at "g"
      refine w_mod (by decide) ?_
      walk_at "g"
      refine set_lst (n := 1) b5 (by simp) ?_
      have hm1 := Int.emod_nonneg (y * 48271 + v % 2147483647 + 7919 * (z + 1)) (show (2147483647 : Int) ≠ 0 by decide)
      have hm2 := Int.emod_lt_of_pos (y * 48271 + v % 2147483647 + 7919 * (z + 1)) (show (0 : Int) < 2147483647 by decide)
      refine hn0 _ _ _ put_same (by rw [put_ne (Ne.symm hbc)]; exact c5) hm1 (by omega) (fun a o ha e => by rw [put_ne ha]; exact k5 a o ha e)
    cases hbig : decide ((10 : Int) ^ (18 : Int).toNat ≤ v)
    · walk_at "w1"
      walk_at "w1"
      refine rest M4 x b3 c3 hx k3 _ fun M6 s5 y' h1 h2 h3 h4 h5 => ?_
      exact back M6 _ s5 x y' (z + 1) h1 h2 hx h3 h4 h5
    · walk_at "g"
      refine set_lst (n := 0) b3 (by simp) ?_
      refine rest _ v put_same (by rw [put_ne (Ne.symm hbc)]; exact c3) hv0 (fun a o ha e => by rw [put_ne ha]; exact k3 a o ha e) _ fun M6 s5 y' h1 h2 h3 h4 h5 => ?_
      exact back M6 _ s5 v y' (z + 1) h1 h2 hv0 h3 h4 h5
theorem s_law_some (h : BagAt M b c) {α : Type} [Enc α] {xs : List α} (h0 : xs ≠ []) (hl : xs.length < 1000000000) (q : ∀ M' x, x ∈ xs → Bx b M M' → BagAt M' b c → Q (Enc.d x) M') : sp__law_some K [.ref b, Enc.d xs] M Q noX := by
  refine go__law_some ?_
  delta t__law_some
  walk_at "g"
  refine s_law_take h (many := xs.length) (List.length_pos_iff.mpr h0) hl fun M1 v hv k1 h1 => ?_
  refine ix_tup (n := v) (x := Enc.d xs[v]) (by rw [List.getElem?_map, List.getElem?_eq_getElem hv]; rfl) ?_
  exact q _ _ (List.getElem_mem hv) k1 h1
theorem s_law_someL (h : BagAt M b c) {α : Type} [Enc α] {xs : List α} {a : Addr} (e : M a = some (.lst (xs.map Enc.d))) (hab : a ≠ b) (h0 : xs ≠ []) (hl : xs.length < 1000000000) (q : ∀ M' x, x ∈ xs → Bx b M M' → BagAt M' b c → Q (Enc.d x) M') : sp__law_some K [.ref b, .ref a] M Q noX := by
  refine go__law_some ?_
  delta t__law_some
  walk_at "g"
  rw [List.length_map]
  refine s_law_take h (many := xs.length) (List.length_pos_iff.mpr h0) hl fun M1 v hv k1 h1 => ?_
  refine ix_lst (n := v) (x := Enc.d xs[v]) (k1 _ _ hab e) (by rw [List.getElem?_map, List.getElem?_eq_getElem hv]; rfl) ?_
  exact q _ _ (List.getElem_mem hv) k1 h1
end
end Dt

set_option Elab.async false
set_option autoImplicit false
set_option linter.all false
set_option maxRecDepth 100000
set_option maxHeartbeats 400000
namespace Dt
open PySem PySem.Spec PyProof.Rows L2 LamX RZ PySem.P
local macro_rules | `(tactic| walk_at "w1") => `(tactic| with_reducible refine StepW.go ?_)
local macro_rules | `(tactic| walk_at "w") => `(tactic| ((repeat walk_at "w1"); try (with_reducible conv => whnf)))
local macro_rules | `(tactic| walk_at "m") => `(tactic| first | with_reducible assumption | with_reducible exact put_same | (with_reducible apply Ext.get; (with_reducible assumption); walk_at "m") | (with_reducible apply Ext.get; (with_reducible apply Ext.new); (with_reducible assumption); walk_at "m"))
local macro_rules | `(tactic| walk_at "x") => `(tactic| first | with_reducible assumption | with_reducible exact Ext.refl | (with_reducible refine Ext.alloc ?_ (by with_reducible assumption) _; walk_at "x") | (with_reducible refine Ext.trans ?_ (by with_reducible assumption); walk_at "x"))
local macro_rules | `(tactic| walk_at "lk") => `(tactic| first | with_reducible exact look1 | ((with_reducible apply lookS); (with_unfolding_all decide); walk_at "lk"))
local macro_rules | `(tactic| walk_at "h1") => `(tactic| (first
  | with_reducible refine StepW.go ?_
  | with_reducible refine StepG.go ?_
  | with_reducible refine w_isTup ?_
  | ((with_reducible refine w_sz ?sz ?_); (case sz => size_fits))
  | ((with_reducible refine w_len ?sz ?_); (case sz => rfl))
  | ((with_reducible refine w_obj (by walk_at "m") ?ob2 ?_); (case ob2 => walk_at "ln"))
  | (with_reducible refine w_lenL (by walk_at "m") ?_) | (with_reducible refine w_seqL (by walk_at "m") ?_) | (with_reducible refine tup_list (by walk_at "m") ?_)
  | (with_reducible refine w_isLst (by walk_at "m") ?_) | (with_reducible refine w_slL (by walk_at "m") ?_)
  | ((with_reducible refine fld_ok (by walk_at "m") ?cl (by walk_at "lk") ?_); (case cl => walk_at "cl"))
  | (with_reducible refine w_lstL (by walk_at "m") ?_) | (with_reducible refine w_dic (by walk_at "m") ?_)
  ))
local macro_rules | `(tactic| walk_at "g1") => `(tactic| first | walk_at "h1" | with_reducible refine StepP.go ?_)
local macro_rules | `(tactic| walk_at "h") => `(tactic| ((repeat walk_at "h1"); try (with_reducible conv => whnf)))
local macro_rules | `(tactic| walk_at "g") => `(tactic| ((repeat walk_at "g1"); try (with_reducible conv => whnf)))
local macro_rules | `(tactic| walk_at "ln") => `(tactic| first | exact look_none (ns := ["row", "signs", "dependent", "places", "taken"]) rfl (by decide) | exact look_none (ns := ["alphabet", "due", "its_left", "signs", "parting"]) rfl (by decide) | exact look_none (ns := ["alphabet", "its_lag", "parting"]) rfl (by decide))
local macro_rules | `(tactic| walk_at "cl") => `(tactic| first | exact CF.get (by with_reducible assumption) (by decide) | exact LF.row (by with_reducible assumption) | exact LF.signs (by with_reducible assumption) | exact LF.dependent (by with_reducible assumption) | exact LF.places (by with_reducible assumption) | exact LF.taken (by with_reducible assumption))
section
variable {α : Type} [Enc α]
theorem zip_two {β γ : Type} (f : α → β) (g : α → γ) : ∀ xs : List α, (xs.map f).zip (xs.map g) = xs.map fun x => (f x, g x)
  | [] => rfl
  | x :: xs => by simp only [List.map_cons, List.zip_cons_cons, zip_two f g xs]
theorem srt_enc (xs : List α) : srt (xs.map Enc.d) (xs.map Enc.p) = (xs.mergeSort (PySem.W.dataLe false Enc.p)).map Enc.d := by
  unfold srt
  rw [zip_two, ← List.map_mergeSort (f := fun x : α => (Enc.d x, Enc.p x)) (r := PySem.W.dataLe false Enc.p) (fun a _ b _ => rfl), List.map_map]
  rfl
end
theorem sle_str (a b : Str) : PySem.W.dataLe false (Enc.p (α := Str)) a b = true ↔ ¬ sLt b a := by
  have : PySem.W.dataLe false (fun b : Str => PyData.str b) a b = decide (a.cps.toList ≤ b.cps.toList) := by rw [PySem.W.dataLe_str (β := Str) (fun b => b)]
  rw [show PySem.W.dataLe false (Enc.p (α := Str)) a b = decide (a.cps.toList ≤ b.cps.toList) from this, decide_eq_true_iff]
  unfold sLt
  exact List.not_lt.symm
theorem sort_strs {xs ys : List Str} (hp : xs.Perm ys) (hs : ys.Pairwise sLt) : xs.mergeSort (PySem.W.dataLe false Enc.p) = ys := by
  refine List.Perm.eq_of_pairwise (le := fun a b => ¬ sLt b a) (fun a b _ _ h1 h2 => ?_) ?_ ?_ ((List.mergeSort_perm xs _).trans hp)
  · by_cases e : a = b
    · exact e
    · rcases slt_tri e with h | h
      · exact absurd h h2
      · exact absurd h h1
  · have := List.pairwise_mergeSort (le := PySem.W.dataLe false (Enc.p (α := Str))) (fun a b c h1 h2 => ?_) (fun a b => ?_) xs
    · exact this.imp fun {a b} h => (sle_str a b).mp h
    · rw [sle_str] at h1 h2 ⊢
      intro h
      rcases Classical.em (a = b) with e | e
      · rw [e] at h; exact h2 h
      · rcases slt_tri e with h3 | h3
        · exact h2 (slt_trans h h3)
        · exact h1 h3
    · rw [Bool.or_eq_true, sle_str, sle_str]
      by_cases h : sLt b a
      · exact .inr (slt_asymm h)
      · exact .inl h
  · exact hs.imp fun h => slt_asymm h
theorem canSort_strs (xs : List Str) : CanSort (xs.map (Enc.p (α := Str))) := by
  refine ⟨fun d hd e he => ?_, fun p hp => ?_, .inl (.inr fun d hd => ?_)⟩
  · obtain ⟨u, _, rfl⟩ := List.mem_map.mp hd
    obtain ⟨v, _, rfl⟩ := List.mem_map.mp he
    rfl
  · obtain ⟨u, _, rfl⟩ := List.mem_map.mp hp
    exact fun z => nomatch z
  · obtain ⟨u, _, rfl⟩ := List.mem_map.mp hd
    exact ⟨fun z => (nomatch z), fun _ z => nomatch z⟩
section
variable {K : Bd} {M M' : DM} {Q : DQ} {A : Alph} {row : List Str}
theorem w_sortStr {a : Addr} {xs ys : List Str} (e : M a = some (.lst (xs.map .str))) (hp : xs.Perm ys) (hs : ys.Pairwise sLt) (q : ∀ p, M p = none → Q (.ref p) (put M p (.lst (ys.map .str)))) : sortD [.ref a] M Q := by
  refine .inl ⟨xs.map .str, xs.map Enc.p, e, pyOfs_map M 20 (by decide) xs, canSort_strs xs, fun p hp' => ?_⟩
  have e2 : srt (xs.map D.str) (xs.map (Enc.p (α := Str))) = ys.map D.str := by
    have := srt_enc xs
    rw [sort_strs hp hs] at this
    exact this
  rw [e2]
  exact q p hp'
theorem s_law_is_free {a b : Str} (q : Q (.bl (fr A a b)) M) : sp__law_is_free K [aD A, .str a, .str b] M Q noX := by
  refine go__law_is_free ?_
  delta t__law_is_free
  walk_at "g"
  refine ix_tup (n := 1) rfl ?_
  exact mem_enc (α := Str × Str) (a := (minS a b, maxS a b)) decide_eq_true_iff (by decide) q
theorem s_law_cut {r : List Str} {a b : Str} (hr : r.length ≤ sizeLine) (q : ∀ M', Ext M M' → Q (Enc.d (r.filter fun s => decide (s ∈ [a, b]))) M') : sp__law_cut K [Enc.d r, .tup [.str a, .str b]] M Q noX := by
  refine go__law_cut ?_
  delta t__law_cut
  walk_at "g"
  refine lc_pure r .str (fun s => decide (s ∈ [a, b])) .str (fun i M' _ _ => rfl) hr ?_ ?_
  · intro i x M' hx e KT KF kt kf
    walk_at "g"
    refine mem_enc (α := Str) (xs := [a, b]) (b := decide (x ∈ [a, b])) decide_eq_true_iff (by decide) ?_
    cases h : decide (x ∈ [a, b])
    · walk_at "g"
      exact kf h _ e
    · walk_at "g"
      exact kt h _ e
  · intro M' p e hp
    walk_at "g"
    exact q _ (e.alloc hp _)
/-- the signs that can stand first, as they are come to -/
def ahead (A : Alph) (row : List Str) : List Str := (List.range row.length).filterMap fun k => match row[k]? with
  | some a => if (row.take k).all (fun b => fr A a b) then some a else none
  | none => none
theorem fstB_all (g : GoodA A) : ∀ {r : List Str} {s : Str}, fstB A r s = true ↔ ∃ k, r[k]? = some s ∧ (r.take k).all (fun b => fr A s b) = true
  | [], s => by simp [fstB]
  | t :: r, s => by
    unfold fstB
    by_cases e : t = s
    · rw [if_pos e]
      exact ⟨fun _ => ⟨0, by simp [e], rfl⟩, fun _ => rfl⟩
    · rw [if_neg e, Bool.and_eq_true, fstB_all g]
      constructor
      · rintro ⟨hf, k, h1, h2⟩
        exact ⟨k + 1, by simpa using h1, by simp only [List.take_succ_cons, List.all_cons, h2, Bool.and_true]; rw [fr_comm]; exact hf⟩
      · rintro ⟨k, h1, h2⟩
        cases k with
        | zero => simp at h1; exact absurd h1 e
        | succ k =>
          simp only [List.take_succ_cons, List.all_cons, Bool.and_eq_true] at h2
          exact ⟨by rw [fr_comm]; exact h2.1, k, by simpa using h1, h2.2⟩
theorem s_law_firsts (g : GoodA A) (hl : row.length ≤ 10000) (hr : InA A row) (q : ∀ M' l, Ext M M' → M l = none → M' l = some (.lst ((firsts A row).map .str)) → Q (.ref l) M') : sp__law_firsts K [aD A, Enc.d row] M Q noX := by
  refine go__law_firsts ?_
  delta t__law_firsts
  walk_at "g"
  intro l hl1
  walk_at "g"
  refine for_inv (numD (row.map .str)) (fun i σ' M' => (∃ u v y, σ' = [some (aD A), some (Enc.d row), some (.ref l), u, v, y]) ∧ Ext M M' ∧ ∃ found : List Str, M' l = some (.lst (found.map .str)) ∧ found.Nodup ∧ found.length ≤ i ∧ ∀ s, s ∈ found ↔ ∃ k, k < i ∧ row[k]? = some s ∧ (row.take k).all (fun b => fr A s b) = true) (fun i σ' M' _ _ => itE_at rfl) ⟨⟨_, _, _, rfl⟩, by walk_at "x", [], put_same, .nil, Nat.le_refl _, by simp⟩ ?_ ?_
  · rintro i c σ' M2 hc ⟨⟨u, v, y, rfl⟩, e2, found, hf, hnd, hlen, hmem⟩ Kt kt
    obtain ⟨s, hx, rfl⟩ := numD_get' hc
    have hi := (List.getElem?_eq_some_iff.mp hx).1
    walk_at "g"
    refine nmem_encL (α := Str) (xs := found) (b := decide (s ∈ found)) hf decide_eq_true_iff (by decide) ?_
    cases hin : decide (s ∈ found)
    · walk_at "g"
      rw [cut_to, ← List.map_take]
      refine lc_pure (row.take i) .str (fun b => !fr A s b) .str (fun _ _ _ _ => rfl) (by rw [List.length_take]; exact Nat.le_trans (Nat.min_le_right _ _) (Nat.le_trans hl (by size_fits))) ?_ ?_
      · intro j b M3 hb e3 KT KF kt2 kf2
        walk_at "g"
        refine s_law_is_free ?_
        walk_at "g"
        cases hfb : fr A s b
        · walk_at "g"
          exact kt2 (by rw [hfb]; rfl) _ e3
        · walk_at "g"
          exact kf2 (by rw [hfb]; rfl) _ e3
      · intro M3 p e3 hp
        walk_at "g"
        intro n hn
        have hp1 : put (put M3 p (.lst (((row.take i).filter fun b => !fr A s b).map .str))) n (.lst []) p = some (.lst (((row.take i).filter fun b => !fr A s b).map .str)) := by rw [put_ne (ne_of_new put_same hn)]; exact put_same
        have hn1 : put (put M3 p (.lst (((row.take i).filter fun b => !fr A s b).map .str))) n (.lst []) n = some (.lst []) := put_same
        have e4 : Ext M2 (put (put M3 p (.lst (((row.take i).filter fun b => !fr A s b).map .str))) n (.lst [])) := (e3.alloc hp _).alloc hn _
        revert hp1 hn1 e4
        generalize put (put M3 p (.lst (((row.take i).filter fun b => !fr A s b).map .str))) n (.lst []) = M4
        intro hp1 hn1 e4
        have hall : (row.take i).all (fun b => fr A s b) = true ↔ (row.take i).filter (fun b => !fr A s b) = [] := by
          rw [List.filter_eq_nil_iff, List.all_eq_true]
          exact ⟨fun h b hb => by rw [h b hb]; simp, fun h b hb => by simpa using h b hb⟩
        refine eq_encL (α := Str) (ys := []) (c := (row.take i).all (fun b => fr A s b)) hp1 hn1 hall (by decide) ?_
        cases ha : (row.take i).all (fun b => fr A s b)
        · walk_at "g"
          refine kt _ _ ⟨⟨_, _, _, rfl⟩, e2.trans e4, found, e4 _ _ hf, hnd, by omega, fun z => ?_⟩
          rw [hmem]
          constructor
          · rintro ⟨k, hk, r⟩; exact ⟨k, by omega, r⟩
          · rintro ⟨k, hk, h1, h2⟩
            refine ⟨k, ?_, h1, h2⟩
            by_cases e : k = i
            · subst e
              rw [hx] at h1
              cases h1
              rw [ha] at h2; cases h2
            · omega
        · walk_at "g"
          refine w_app (e4 _ _ hf) (by rw [List.length_map]; exact Nat.lt_of_le_of_lt (by omega : found.length ≤ 10000) (by size_fits)) ?_
          walk_at "g"
          have hns : s ∉ found := of_decide_eq_false hin
          refine kt _ _ ⟨⟨_, _, _, rfl⟩, fun a o e => ?_, found ++ [s], by rw [put_same, List.map_append]; rfl, ?_, by rw [List.length_append]; simp; omega, fun z => ?_⟩
          · have h5 : a ≠ l := ne_of_new e hl1
            rw [put_ne h5]; exact e4 _ _ (e2 _ _ e)
          · exact List.nodup_append.mpr ⟨hnd, by simp, fun a ha b hb => by rw [List.mem_singleton.mp hb]; exact fun z => hns (z ▸ ha)⟩
          · rw [List.mem_append, List.mem_singleton, hmem]
            constructor
            · rintro (⟨k, hk, r⟩ | rfl)
              · exact ⟨k, by omega, r⟩
              · exact ⟨i, by omega, hx, ha⟩
            · rintro ⟨k, hk, h1, h2⟩
              by_cases e : k = i
              · subst e
                rw [hx] at h1; cases h1; exact .inr rfl
              · exact .inl ⟨k, by omega, h1, h2⟩
    · have hs := of_decide_eq_true hin
      walk_at "g"
      refine kt _ _ ⟨⟨_, _, _, rfl⟩, e2, found, hf, hnd, by omega, fun z => ?_⟩
      rw [hmem]
      constructor
      · rintro ⟨k, hk, r⟩; exact ⟨k, by omega, r⟩
      · rintro ⟨k, hk, h1, h2⟩
        by_cases e : k = i
        · subst e
          rw [hx] at h1; cases h1
          exact (hmem s).mp hs
        · exact ⟨k, by omega, h1, h2⟩
  · rintro σ' M2 ⟨⟨u, v, y, rfl⟩, e2, found, hf, hnd, hlen, hmem⟩
    rw [numD_length, List.length_map] at hmem
    walk_at "g"
    have hperm : found.Perm (firsts A row) := by
      refine (List.perm_ext_iff_of_nodup hnd ?_).mpr fun s => ?_
      · exact g.nodup.filter _
      · rw [hmem]
        unfold firsts
        rw [List.mem_filter, fstB_all g]
        constructor
        · rintro ⟨k, hk, h1, h2⟩; exact ⟨hr s (List.mem_of_getElem? h1), k, h1, h2⟩
        · rintro ⟨_, k, h1, h2⟩; exact ⟨k, (List.getElem?_eq_some_iff.mp h1).1, h1, h2⟩
    refine w_sortStr hf hperm (g.sorted.filter _) fun p hp => ?_
    refine q _ p (e2.alloc hp _) ?_ put_same
    cases z : M p with
    | none => rfl
    | some o => rw [e2 _ _ z] at hp; cases hp
end
end Dt

set_option Elab.async false
set_option autoImplicit false
set_option linter.all false
set_option maxRecDepth 100000
set_option maxHeartbeats 400000
namespace Dt
open PySem PySem.Spec PyProof.Rows L2 LamX RZ PySem.P
local macro_rules | `(tactic| walk_at "w1") => `(tactic| with_reducible refine StepW.go ?_)
local macro_rules | `(tactic| walk_at "w") => `(tactic| ((repeat walk_at "w1"); try (with_reducible conv => whnf)))
local macro_rules | `(tactic| walk_at "m") => `(tactic| first | with_reducible assumption | with_reducible exact put_same | (with_reducible apply Ext.get; (with_reducible assumption); walk_at "m") | (with_reducible apply Ext.get; (with_reducible apply Ext.new); (with_reducible assumption); walk_at "m"))
local macro_rules | `(tactic| walk_at "x") => `(tactic| first | with_reducible assumption | with_reducible exact Ext.refl | (with_reducible refine Ext.alloc ?_ (by with_reducible assumption) _; walk_at "x") | (with_reducible refine Ext.trans ?_ (by with_reducible assumption); walk_at "x"))
local macro_rules | `(tactic| walk_at "lk") => `(tactic| first | with_reducible exact look1 | ((with_reducible apply lookS); (with_unfolding_all decide); walk_at "lk"))
local macro_rules | `(tactic| walk_at "h1") => `(tactic| (first
  | with_reducible refine StepW.go ?_
  | with_reducible refine StepG.go ?_
  | with_reducible refine w_isTup ?_
  | ((with_reducible refine w_sz ?sz ?_); (case sz => size_fits))
  | ((with_reducible refine w_len ?sz ?_); (case sz => rfl))
  | ((with_reducible refine w_obj (by walk_at "m") ?ob2 ?_); (case ob2 => walk_at "ln"))
  | (with_reducible refine w_lenL (by walk_at "m") ?_) | (with_reducible refine w_seqL (by walk_at "m") ?_) | (with_reducible refine tup_list (by walk_at "m") ?_)
  | (with_reducible refine w_isLst (by walk_at "m") ?_) | (with_reducible refine w_slL (by walk_at "m") ?_)
  | ((with_reducible refine fld_ok (by walk_at "m") ?cl (by walk_at "lk") ?_); (case cl => walk_at "cl"))
  | (with_reducible refine w_lstL (by walk_at "m") ?_) | (with_reducible refine w_dic (by walk_at "m") ?_)
  ))
local macro_rules | `(tactic| walk_at "g1") => `(tactic| first | walk_at "h1" | with_reducible refine StepP.go ?_)
local macro_rules | `(tactic| walk_at "h") => `(tactic| ((repeat walk_at "h1"); try (with_reducible conv => whnf)))
local macro_rules | `(tactic| walk_at "g") => `(tactic| ((repeat walk_at "g1"); try (with_reducible conv => whnf)))
local macro_rules | `(tactic| walk_at "ln") => `(tactic| first | exact look_none (ns := ["row", "signs", "dependent", "places", "taken"]) rfl (by decide) | exact look_none (ns := ["alphabet", "due", "its_left", "signs", "parting"]) rfl (by decide) | exact look_none (ns := ["alphabet", "its_lag", "parting"]) rfl (by decide))
local macro_rules | `(tactic| walk_at "cl") => `(tactic| first | exact CF.get (by with_reducible assumption) (by decide) | exact LF.row (by with_reducible assumption) | exact LF.signs (by with_reducible assumption) | exact LF.dependent (by with_reducible assumption) | exact LF.places (by with_reducible assumption) | exact LF.taken (by with_reducible assumption))
/-! ### repr(found) == repr(due) and found == due, of equal values -/
/-- a value that can be shown, of weight n at most -/
structure Fit (p : PyData) (n : Nat) : Prop where
  short : p.leavesShort 13 = true
  show_ : p.showable = true
  w : p.weight ≤ n
structure Fits (ps : List PyData) (n : Nat) : Prop where
  short : PyData.leavesShortAll 13 ps = true
  show_ : PyData.showableAll ps = true
  w : PyData.weightAll ps ≤ n
theorem Fit.mono {p : PyData} {n m : Nat} (h : Fit p n) (k : n ≤ m) : Fit p m := ⟨h.short, h.show_, Nat.le_trans h.w k⟩
theorem fit_non : Fit .none 0 := ⟨rfl, rfl, by simp [PyData.weight]⟩
theorem fit_bool {b : Bool} : Fit (.bool b) 0 := ⟨rfl, rfl, by simp [PyData.weight]⟩
theorem fit_int {i : Int} (h : i.natAbs < 10 ^ 12) : Fit (.int i) 41 := by
  have hlog : i.natAbs.log2 < 40 := by
    by_cases z : i.natAbs = 0
    · rw [z]; decide
    · exact (Nat.log2_lt z).mpr (Nat.lt_of_lt_of_le h (by decide))
  refine ⟨?_, ?_, ?_⟩
  · simp only [PyData.leavesShort]
    exact decide_eq_true (PyData.shown_int_le h)
  · simp only [PyData.showable]
    exact decide_eq_true (by omega)
  · simp only [PyData.weight]
    split <;> omega
/-- a short text -/
def ShS (s : Str) : Prop := s.cps.size ≤ 8 ∧ ∀ c ∈ s.cps.toList, c < 16 ^ 8
theorem fit_str {s : Str} (h : ShS s) : Fit (.str s) 8 := by
  refine ⟨?_, rfl, ?_⟩
  · simp only [PyData.leavesShort, List.all_eq_true, decide_eq_true_eq]
    exact h.2
  · simp only [PyData.weight]; exact h.1
theorem fits_nil : Fits [] 0 := ⟨rfl, rfl, by simp [PyData.weightAll]⟩
theorem fits_cons {p : PyData} {ps : List PyData} {n m : Nat} (h : Fit p n) (k : Fits ps m) : Fits (p :: ps) (n + 1 + m) := by
  refine ⟨?_, ?_, ?_⟩
  · simp only [PyData.leavesShortAll, h.short, k.short, Bool.and_self]
  · simp only [PyData.showableAll, h.show_, k.show_, Bool.and_self]
  · simp only [PyData.weightAll]
    have := h.w
    have := k.w
    omega
theorem fit_tup {ps : List PyData} {n : Nat} (h : Fits ps n) : Fit (.tuple ps) n := by
  refine ⟨?_, ?_, ?_⟩
  · simp only [PyData.leavesShort]; exact h.short
  · simp only [PyData.showable]; exact h.show_
  · simp only [PyData.weight]; exact h.w
theorem fit_lst {ps : List PyData} {n : Nat} (h : Fits ps n) : Fit (.list ps) n := by
  refine ⟨?_, ?_, ?_⟩
  · simp only [PyData.leavesShort]; exact h.short
  · simp only [PyData.showable]; exact h.show_
  · simp only [PyData.weight]; exact h.w
theorem fits_map {α : Type} (f : α → PyData) {k : Nat} : ∀ {xs : List α}, (∀ x ∈ xs, Fit (f x) k) → Fits (xs.map f) (xs.length * (k + 1))
  | [], _ => by simpa using fits_nil
  | x :: xs, h => by
    have h1 := fits_cons (h x List.mem_cons_self) (fits_map f fun y hy => h y (List.mem_cons_of_mem _ hy))
    rw [List.map_cons, List.length_cons, Nat.add_mul, Nat.one_mul, Nat.add_comm]
    exact h1
theorem Fits.mono {ps : List PyData} {n m : Nat} (h : Fits ps n) (k : n ≤ m) : Fits ps m := ⟨h.short, h.show_, Nat.le_trans h.w k⟩
theorem fit_row {r : List Str} {n : Nat} (h : ∀ s ∈ r, ShS s) (hl : r.length ≤ n) : Fit (Enc.p r) (n * 9) := (fit_tup (fits_map PyData.str fun s hs => fit_str (h s hs))).mono (Nat.mul_le_mul_right 9 hl)
theorem plain_eqv_self {M : DM} {n : Nat} {d : D} {p : PyData} (h : PyOf M n d p) : PyData.eqv p p = true := eqv_self p h.shape.1
where
  eqv_self : ∀ p : PyData, p.plain = true → PyData.eqv p p = true
    | .none, _ => by simp [PyData.eqv]
    | .bool b, _ => by simp [PyData.eqv]
    | .int i, _ => by simp [PyData.eqv]
    | .str x, _ => by simp [PyData.eqv]
    | .list xs, h => by simp only [PyData.plain] at h; simp only [PyData.eqv]; exact eqvs_self xs h
    | .tuple xs, h => by simp only [PyData.plain] at h; simp only [PyData.eqv]; exact eqvs_self xs h
    | .dict _, h => by simp [PyData.plain] at h
  eqvs_self : ∀ ps : List PyData, PyData.plainAll ps = true → PyData.eqvAll ps ps = true
    | [], _ => by simp [PyData.eqvAll]
    | p :: ps, h => by
      simp only [PyData.plainAll, Bool.and_eq_true] at h
      simp only [PyData.eqvAll, eqv_self p h.1, eqvs_self ps h.2, Bool.and_self]
section
variable {K : Bd} {M M' : DM} {Q : DQ} {A : Alph} {row : List Str}
theorem s_law_alike {d e : D} {p : PyData} {n : Nat} (h1 : PyOf M 20 d p) (h2 : PyOf M 20 e p) (f : Fit p n) (hn : n ≤ 2 ^ 20) (q : Q (.bl true) M) : sp__law_alike K [d, e] M Q noX := by
  have hz : p.shown.length ≤ sizeLine := PyData.shown_fits (B := 13) (by decide) (by decide) f.short (Nat.le_trans f.w hn)
  refine go__law_alike ?_
  delta t__law_alike
  walk_at "g"
  refine ⟨p, h1, f.show_, hz, ?_⟩
  walk_at "g"
  refine ⟨p, h2, f.show_, hz, ?_⟩
  walk_at "g"
  rw [decide_eq_true rfl]
  walk_at "g"
  refine ⟨p, p, h1, h2, ?_⟩
  simp only [plain_eqv_self h1]
  exact q
theorem idx_map {α β : Type} [DecidableEq α] [DecidableEq β] (f : α → β) (inj : ∀ a b, f a = f b → a = b) (a : α) : ∀ xs : List α, (xs.map f).idxOf (f a) = xs.idxOf a
  | [] => rfl
  | x :: xs => by
    rw [List.map_cons, List.idxOf_cons, List.idxOf_cons, idx_map f inj a xs]
    by_cases h : x = a
    · subst h; simp
    · rw [show (f x == f a) = false from beq_eq_false_iff_ne.mpr (fun z => h (inj _ _ z)), show (x == a) = false from beq_eq_false_iff_ne.mpr h]
theorem keyNs_strs : ∀ r : List Str, keyNs (r.map D.str) = some (r.map NestedKey.text)
  | [] => rfl
  | s :: r => by
    rw [List.map_cons, keyNs, keyNs_strs r]
    rfl
theorem take_drop_erase {a : Str} : ∀ {r : List Str}, a ∈ r → r.take (r.idxOf a) ++ r.drop (r.idxOf a + 1) = r.erase a
  | [], h => nomatch h
  | x :: r, h => by
    by_cases e : x = a
    · subst e; simp
    · have hm : a ∈ r := by
        cases h with
        | head => exact absurd rfl e
        | tail _ h => exact h
      rw [List.idxOf_cons, show (x == a) = false from beq_eq_false_iff_ne.mpr e, List.erase_cons_tail (by simpa using e), ← take_drop_erase hm]
      rfl
theorem s_law_without (hl : row.length ≤ 10000) {a : Str} (ha : a ∈ row) (q : Q (Enc.d (row.erase a)) M) : sp__law_without K [Enc.d row, .str a] M Q noX := by
  refine go__law_without ?_
  delta t__law_without
  walk_at "g"
  refine ⟨⟨_, rfl⟩, ?_⟩
  walk_at "g"
  refine ⟨row.map D.str, row.map .text, .text a, rfl, keyNs_strs row, rfl, by simp [NestedKey.depth], List.mem_map_of_mem ha, ?_⟩
  have hidx : (row.map NestedKey.text).idxOf (.text a) = row.idxOf a := idx_map _ (fun _ _ h => NestedKey.text.inj h) a row
  rw [hidx]
  walk_at "g"
  rw [cut_to, show ((row.idxOf a : Nat) : Int) + 1 = ((row.idxOf a + 1 : Nat) : Int) from by omega, cut_from]
  refine add_tup ?_ ?_
  · rw [List.length_take, List.length_drop, List.length_map]
    exact Nat.le_trans (show _ ≤ 20000 by omega) (by size_fits)
  rw [← List.map_take, ← List.map_drop, ← List.map_append, take_drop_erase ha]
  walk_at "g"
  exact q
theorem s_law_normal (g : GoodA A) (hl : row.length ≤ 10000) (hr : InA A row) (q : ∀ M', Ext M M' → Q (Enc.d (nf A row)) M') : sp__law_normal K [aD A, Enc.d row] M Q noX := by
  refine go__law_normal ?_
  delta t__law_normal
  walk_at "g"
  refine wh_inv (fun m σ' M' => ∃ (r found : List Str) (v : Option D), σ' = [some (aD A), some (Enc.d r), some (Enc.d found), v] ∧ Ext M M' ∧ r.length = m ∧ InA A r ∧ found.length + m ≤ 10000 ∧ found ++ nfN A m r = nf A row) row.length ⟨row, [], _, rfl, .refl, rfl, hr, by simpa using hl, by simp [nf]⟩ ?_
  rintro m σ' M2 ⟨r, found, v, rfl, e2, hm, hin, hlen, hnf⟩ Kt kt
  walk_at "g"
  refine ne_enc (α := List Str) (a := r) (b := []) decide_eq_true_iff (by decide) ?_
  cases hz : decide (r = [])
  · have hne : r ≠ [] := of_decide_eq_false hz
    obtain ⟨s, hs1, hs2, hs3⟩ := firsts_some hin hne
    walk_at "g"
    refine s_law_firsts g (by omega) hin fun M3 l e3 hl3 hf3 => ?_
    walk_at "g"
    refine ix_lst (n := 0) hf3 (by rw [List.getElem?_map, hs1]; rfl) ?_
    walk_at "g"
    refine add_tup ?_ ?_
    · rw [List.length_map]; exact Nat.le_trans (show found.length + 1 ≤ 20000 by omega) (by size_fits)
    rw [show (found.map Enc.d ++ [D.str s]) = (found ++ [s]).map Enc.d from by rw [List.map_append]; rfl]
    walk_at "g"
    have hms := fstB_mem hs3
    refine s_law_without (by omega) hms ?_
    walk_at "g"
    have hel := List.length_erase_of_mem hms
    have hpos := List.length_pos_of_mem hms
    refine kt (m - 1) _ _ (by omega) ⟨r.erase s, found ++ [s], _, rfl, e2.trans e3, by omega, hin.erase, by rw [List.length_append]; simp; omega, ?_⟩
    rw [← hnf, show m = m - 1 + 1 by omega, nfN_some hs1, List.append_assoc]
    rfl
  · have hne : r = [] := of_decide_eq_true hz
    subst hne
    have : m = 0 := by simpa using hm.symm
    subst this
    simp only [nfN, List.append_nil] at hnf
    walk_at "g"
    rw [hnf]
    exact q _ e2
end
end Dt

set_option Elab.async false
set_option autoImplicit false
set_option linter.all false
set_option maxRecDepth 100000
set_option maxHeartbeats 8000000
namespace Dt
open PySem PySem.Spec PyProof.Rows L2 LamX RZ PySem.P
local macro_rules | `(tactic| walk_at "w1") => `(tactic| with_reducible refine StepW.go ?_)
local macro_rules | `(tactic| walk_at "w") => `(tactic| ((repeat walk_at "w1"); try (with_reducible conv => whnf)))
local macro_rules | `(tactic| walk_at "m") => `(tactic| first | with_reducible assumption | with_reducible exact put_same | (with_reducible apply Ext.get; (with_reducible assumption); walk_at "m") | (with_reducible apply Ext.get; (with_reducible apply Ext.new); (with_reducible assumption); walk_at "m"))
local macro_rules | `(tactic| walk_at "x") => `(tactic| first | with_reducible assumption | with_reducible exact Ext.refl | (with_reducible refine Ext.alloc ?_ (by with_reducible assumption) _; walk_at "x") | (with_reducible refine Ext.trans ?_ (by with_reducible assumption); walk_at "x"))
local macro_rules | `(tactic| walk_at "lk") => `(tactic| first | with_reducible exact look1 | ((with_reducible apply lookS); (with_unfolding_all decide); walk_at "lk"))
local macro_rules | `(tactic| walk_at "h1") => `(tactic| (first
  | with_reducible refine StepW.go ?_
  | with_reducible refine StepG.go ?_
  | with_reducible refine w_isTup ?_
  | ((with_reducible refine w_sz ?sz ?_); (case sz => size_fits))
  | ((with_reducible refine w_len ?sz ?_); (case sz => rfl))
  | ((with_reducible refine w_obj (by walk_at "m") ?ob2 ?_); (case ob2 => walk_at "ln"))
  | (with_reducible refine w_lenL (by walk_at "m") ?_) | (with_reducible refine w_seqL (by walk_at "m") ?_) | (with_reducible refine tup_list (by walk_at "m") ?_)
  | (with_reducible refine w_isLst (by walk_at "m") ?_) | (with_reducible refine w_slL (by walk_at "m") ?_)
  | ((with_reducible refine fld_ok (by walk_at "m") ?cl (by walk_at "lk") ?_); (case cl => walk_at "cl"))
  | (with_reducible refine w_lstL (by walk_at "m") ?_) | (with_reducible refine w_dic (by walk_at "m") ?_)
  ))
local macro_rules | `(tactic| walk_at "g1") => `(tactic| first | walk_at "h1" | with_reducible refine StepP.go ?_)
local macro_rules | `(tactic| walk_at "h") => `(tactic| ((repeat walk_at "h1"); try (with_reducible conv => whnf)))
local macro_rules | `(tactic| walk_at "g") => `(tactic| ((repeat walk_at "g1"); try (with_reducible conv => whnf)))
local macro_rules | `(tactic| walk_at "ln") => `(tactic| first | exact look_none (ns := ["row", "signs", "dependent", "places", "taken"]) rfl (by decide) | exact look_none (ns := ["alphabet", "due", "its_left", "signs", "parting"]) rfl (by decide) | exact look_none (ns := ["alphabet", "its_lag", "parting"]) rfl (by decide))
local macro_rules | `(tactic| walk_at "cl") => `(tactic| first | exact CF.get (by with_reducible assumption) (by decide) | exact LF.row (by with_reducible assumption) | exact LF.signs (by with_reducible assumption) | exact LF.dependent (by with_reducible assumption) | exact LF.places (by with_reducible assumption) | exact LF.taken (by with_reducible assumption))
theorem in_one {A : Alph} {s : Str} (hs : s ∈ A.signs) : InA A [s] := fun a ha => by rw [List.mem_singleton.mp ha]; exact hs
theorem in_nil {A : Alph} : InA A [] := fun a ha => nomatch ha
section
variable {K : Bd} {M M' : DM} {Q : DQ} {E : DX} {A : Alph} {row : List Str} {b c : Addr}
theorem none_of {M M1 : DM} (e : Ext M M1) {p : Addr} (h : M1 p = none) : M p = none := by
  cases z : M p with
  | none => rfl
  | some o => rw [e _ _ z] at h; cases h
theorem bx_none {M M1 : DM} (e : Bx b M M1) {p : Addr} (hb : p ≠ b) (h : M1 p = none) : M p = none := by
  cases z : M p with
  | none => rfl
  | some o => rw [e _ _ hb z] at h; cases h
theorem lc_both (g : GoodA A) {x y : List Str} (hly : y.length ≤ 10000) (hy : InA A y) {l : Addr} (hf : M l = some (.lst ((firsts A x).map .str))) {s1 s3 s4 s5 : Option D} (q : ∀ M' p, Ext M M' → M' p = some (.lst ((boths A x y).map .str)) → Q (.ref p) M') :
    ∃ n, lcN (itL l) (gNm 5) (dB (dOp (memD false) (dVar 5) (dCall (sp__law_firsts K) (dCons (dVar 0) (dCons (dVar 2) dNil))))) (dVar 5) [5] [some (aD A), s1, some (Enc.d y), s3, s4, s5] Q n 0 M [] := by
  refine lc_pure (firsts A x) .str (fun s => fstB A y s) .str (fun i M' e4 _ => itL_is (e4 _ _ hf) i) (Nat.le_trans (List.length_filter_le _ _) (Nat.le_trans g.short (by size_fits))) ?_ ?_
  · intro i s M4 hs e4 KT KF kt kf
    have hsA := (List.mem_filter.mp (List.mem_of_getElem? hs)).1
    walk_at "g"
    refine s_law_firsts g hly hy fun M5 l5 e5 _ hf5 => ?_
    have hb : fstB A y s = true ↔ s ∈ firsts A y := by
      unfold firsts
      rw [List.mem_filter]
      exact ⟨fun h => ⟨hsA, h⟩, fun h => h.2⟩
    refine mem_encL (α := Str) (xs := firsts A y) (b := fstB A y s) hf5 hb (by decide) ?_
    cases hc : fstB A y s
    · walk_at "g"
      exact kf hc _ (e4.trans e5)
    · walk_at "g"
      exact kt hc _ (e4.trans e5)
  · intro M4 p e4 hp
    exact q _ p (e4.alloc hp _) put_same
theorem s_law_lag (g : GoodA A) {x y : List Str} (hlx : x.length ≤ 5000) (hly : y.length ≤ 5000) (hx : InA A x) (hy : InA A y) (q : ∀ M', Ext M M' → Q (.tup [Enc.d (nf A (cm A x y).1), Enc.d (nf A (cm A x y).2.1), Enc.d (nf A (cm A x y).2.2)]) M') : sp__law_lag K [aD A, Enc.d x, Enc.d y] M Q noX := by
  have c := cm_ok (y := y) g hx
  have hc1 := c.in1 g hx
  have hc2 := c.in2 g hy
  have hcl := c.len
  refine go__law_lag ?_
  delta t__law_lag
  walk_at "w1"
  walk_at "w1"
  walk_at "w1"
  walk_at "g"
  refine s_law_firsts g (by omega) hx fun M1 l e1 hl1 hf => ?_
  walk_at "g"
  refine lc_both g (by omega) hy hf fun M4 p e4 hp => ?_
  walk_at "g"
  refine wh_inv (fun m σ' M' => ∃ (x' y' found : List Str) (p : Addr) (v : Option D), σ' = [some (aD A), some (Enc.d x'), some (Enc.d y'), some (Enc.d found), some (.ref p), v] ∧ Ext M M' ∧ M' p = some (.lst ((boths A x' y').map .str)) ∧ x'.length = m ∧ y'.length ≤ 5000 ∧ InA A x' ∧ InA A y' ∧ found.length + m = x.length ∧ InA A found ∧ (found ++ (cmN A m x' y').1, (cmN A m x' y').2) = cm A x y) x.length ⟨x, y, [], p, _, rfl, e1.trans e4, hp, rfl, hly, hx, hy, by simp, in_nil, rfl⟩ ?_
  rintro m σ' M2 ⟨x', y', found, p, v, rfl, e2, hp2, hm, hy5, hx', hy', hfl, hfi, hcm⟩ Kt kt
  walk_at "g"
  intro n hn
  have hp3 : put M2 n (.lst []) p = some (.lst ((boths A x' y').map Enc.d)) := by rw [put_ne (ne_of_new hp2 hn)]; exact hp2
  have hn3 : put M2 n (.lst []) n = some (.lst []) := put_same
  have e3 := e2.alloc hn (.lst [])
  revert hp3 hn3 e3
  generalize put M2 n (.lst []) = M3
  intro hp3 hn3 e3
  cases hbo : boths A x' y' with
  | nil =>
    rw [hbo] at hp3
    refine ne_encL (α := Str) (xs := []) (ys := []) (c := true) hp3 hn3 (by simp) (by decide) ?_
    rw [cmN_none (by rw [hbo]; rfl), List.append_nil] at hcm
    rw [← hcm] at q
    walk_at "g"
    refine s_law_normal g (by omega) hfi fun M5 e5 => ?_
    walk_at "g"
    refine s_law_normal g (by omega) hx' fun M6 e6 => ?_
    walk_at "g"
    refine s_law_normal g (by omega) hy' fun M7 e7 => ?_
    walk_at "g"
    exact q _ (e3.trans (e5.trans (e6.trans e7)))
  | cons s bs =>
    rw [hbo] at hp3
    have hb0 : (boths A x' y')[0]? = some s := by rw [hbo]; rfl
    obtain ⟨hs, hs1, hs2⟩ := boths_some hb0
    have hm1 := fstB_mem hs1
    have hm2 := fstB_mem hs2
    have l1 := List.length_erase_of_mem hm1
    have l2 := List.length_erase_of_mem hm2
    have p1 := List.length_pos_of_mem hm1
    refine ne_encL (α := Str) (xs := s :: bs) (ys := []) (c := false) hp3 hn3 (by simp) (by decide) ?_
    walk_at "g"
    refine ix_lst (n := 0) hp3 rfl ?_
    walk_at "g"
    refine add_tup ?_ ?_
    · rw [List.length_map]; exact Nat.le_trans (show found.length + 1 ≤ 20000 by omega) (by size_fits)
    rw [show (found.map Enc.d ++ [Enc.d s]) = (found ++ [s]).map Enc.d from by rw [List.map_append]; rfl]
    walk_at "g"
    refine ix_lst (n := 0) hp3 rfl ?_
    walk_at "g"
    refine s_law_without (by omega) hm1 ?_
    walk_at "g"
    refine ix_lst (n := 0) hp3 rfl ?_
    walk_at "g"
    refine s_law_without (by omega) hm2 ?_
    walk_at "g"
    refine s_law_firsts g (by omega) hx'.erase fun M4 l4 e4 hl4 hf4 => ?_
    walk_at "g"
    refine lc_both g (by omega) hy'.erase hf4 fun M5 p5 e5 h5 => ?_
    walk_at "g"
    refine kt (m - 1) _ _ (by omega) ⟨x'.erase s, y'.erase s, found ++ [s], p5, _, rfl, e3.trans (e4.trans e5), h5, by omega, by omega, hx'.erase, hy'.erase, by rw [List.length_append]; simp; omega, hfi.app (in_one hs), ?_⟩
    rw [← hcm, show m = m - 1 + 1 by omega, cmN_some hb0, List.append_assoc]
    rfl
end
end Dt

set_option Elab.async false
set_option autoImplicit false
set_option linter.all false
set_option maxRecDepth 100000
set_option maxHeartbeats 8000000
namespace Dt
open PySem PySem.Spec PyProof.Rows L2 LamX RZ PySem.P
local macro_rules | `(tactic| walk_at "w1") => `(tactic| with_reducible refine StepW.go ?_)
local macro_rules | `(tactic| walk_at "w") => `(tactic| ((repeat walk_at "w1"); try (with_reducible conv => whnf)))
local macro_rules | `(tactic| walk_at "m") => `(tactic| first | with_reducible assumption | with_reducible exact put_same | (with_reducible apply Ext.get; (with_reducible assumption); walk_at "m") | (with_reducible apply Ext.get; (with_reducible apply Ext.new); (with_reducible assumption); walk_at "m"))
local macro_rules | `(tactic| walk_at "x") => `(tactic| first | with_reducible assumption | with_reducible exact Ext.refl | (with_reducible refine Ext.alloc ?_ (by with_reducible assumption) _; walk_at "x") | (with_reducible refine Ext.trans ?_ (by with_reducible assumption); walk_at "x"))
local macro_rules | `(tactic| walk_at "lk") => `(tactic| first | with_reducible exact look1 | ((with_reducible apply lookS); (with_unfolding_all decide); walk_at "lk"))
local macro_rules | `(tactic| walk_at "h1") => `(tactic| (first
  | with_reducible refine StepW.go ?_
  | with_reducible refine StepG.go ?_
  | with_reducible refine w_isTup ?_
  | ((with_reducible refine w_sz ?sz ?_); (case sz => size_fits))
  | ((with_reducible refine w_len ?sz ?_); (case sz => rfl))
  | ((with_reducible refine w_obj (by walk_at "m") ?ob2 ?_); (case ob2 => walk_at "ln"))
  | (with_reducible refine w_lenL (by walk_at "m") ?_) | (with_reducible refine w_seqL (by walk_at "m") ?_) | (with_reducible refine tup_list (by walk_at "m") ?_)
  | (with_reducible refine w_isLst (by walk_at "m") ?_) | (with_reducible refine w_slL (by walk_at "m") ?_)
  | ((with_reducible refine fld_ok (by walk_at "m") ?cl (by walk_at "lk") ?_); (case cl => walk_at "cl"))
  | (with_reducible refine w_lstL (by walk_at "m") ?_) | (with_reducible refine w_dic (by walk_at "m") ?_)
  ))
local macro_rules | `(tactic| walk_at "g1") => `(tactic| first | walk_at "h1" | with_reducible refine StepP.go ?_)
local macro_rules | `(tactic| walk_at "h") => `(tactic| ((repeat walk_at "h1"); try (with_reducible conv => whnf)))
local macro_rules | `(tactic| walk_at "g") => `(tactic| ((repeat walk_at "g1"); try (with_reducible conv => whnf)))
local macro_rules | `(tactic| walk_at "ln") => `(tactic| first | exact look_none (ns := ["row", "signs", "dependent", "places", "taken"]) rfl (by decide) | exact look_none (ns := ["alphabet", "due", "its_left", "signs", "parting"]) rfl (by decide) | exact look_none (ns := ["alphabet", "its_lag", "parting"]) rfl (by decide))
local macro_rules | `(tactic| walk_at "cl") => `(tactic| first | exact CF.get (by with_reducible assumption) (by decide) | exact LF.row (by with_reducible assumption) | exact LF.signs (by with_reducible assumption) | exact LF.dependent (by with_reducible assumption) | exact LF.places (by with_reducible assumption) | exact LF.taken (by with_reducible assumption))
section
variable {K : Bd} {M M' : DM} {Q : DQ} {E : DX} {A : Alph} {row : List Str} {b c : Addr}
theorem s_law_row (h : BagAt M b c) {signs : List Str} (h0 : signs ≠ []) (hl : signs.length ≤ 1000) {most : Nat} (hm : most ≤ 1000) (q : ∀ M' (r : List Str), (∀ s ∈ r, s ∈ signs) → r.length ≤ most → Bx b M M' → BagAt M' b c → Q (Enc.d r) M') : sp__law_row K [.ref b, Enc.d signs, .int (most : Nat)] M Q noX := by
  refine go__law_row ?_
  delta t__law_row
  walk_at "g"
  rw [show ((most : Nat) : Int) + 1 = ((most + 1 : Nat) : Int) from by omega]
  refine s_law_take h (by omega) (by omega) fun M1 v hv k1 h1 => ?_
  walk_at "g"
  refine ⟨⟨by omega, by omega⟩, ?_⟩
  refine lc_inv ((List.range v).map fun k : Nat => D.int (0 + (k : Int))) (fun i acc M' => Bx b M M' ∧ BagAt M' b c ∧ ∃ r : List Str, acc = r.map .str ∧ r.length = i ∧ ∀ s ∈ r, s ∈ signs) (fun i acc M' _ hi => by
    rw [List.length_map, List.length_range] at hi
    exact itR_at 0 _ i M' (by simpa using hi)) ⟨k1, h1, [], rfl, rfl, by simp⟩ (by rw [List.length_map, List.length_range]; exact Nat.le_trans (show v ≤ 2000 by omega) (by size_fits)) (fun i acc M' h => by obtain ⟨_, _, r, rfl, rfl, _⟩ := h; simp) ?_ ?_
  · rintro i d acc M2 hd ⟨k2, h2, r, rfl, hri, hrs⟩ KT KF kt kf
    rw [List.getElem?_map] at hd
    cases hx : (List.range v)[i]? with
    | none => rw [hx] at hd; cases hd
    | some j =>
      rw [hx] at hd; cases hd
      walk_at "g"
      refine s_law_some (α := Str) h2 h0 (by omega) fun M3 s hs k3 h3 => ?_
      refine kt _ _ ⟨k2.trans k3, h3, r ++ [s], by rw [List.map_append]; rfl, by rw [List.length_append]; simp; omega, fun z hz => ?_⟩
      rcases List.mem_append.mp hz with z1 | z1
      · exact hrs z z1
      · rw [List.mem_singleton.mp z1]; exact hs
  · rintro acc M2 p ⟨k2, h2, r, rfl, hri, hrs⟩ hp
    rw [List.length_map, List.length_range] at hri
    walk_at "g"
    exact q _ r hrs (by omega) (k2.trans (Ext.new hp _).bx) (h2.ext (Ext.new hp _))
theorem s_law_alphabet (h : BagAt M b c) {xs : List Str} (hs : xs.Pairwise sLt) (hl : xs.length ≤ 10) (q : ∀ M' A, A.signs = xs → GoodA A → Bx b M M' → BagAt M' b c → Q (aD A) M') : sp__law_alphabet K [.ref b, Enc.d xs] M Q noX := by
  refine go__law_alphabet ?_
  delta t__law_alphabet
  walk_at "g"
  intro l hl1
  have hlb : l ≠ b := fun z => by
    obtain ⟨x, y, z', cells, e1, _⟩ := h.ex
    rw [z, e1] at hl1; cases hl1
  walk_at "g"
  refine for_inv (numD (xs.map .str)) (fun i σ' M' => (∃ u v, σ' = [some (.ref b), some (Enc.d xs), some (.ref l), u, v, none]) ∧ (∀ a o, a ≠ b → a ≠ l → M a = some o → M' a = some o) ∧ BagAt M' b c ∧ ∃ cs : List (Str × Str), M' l = some (.lst (cs.map Enc.d)) ∧ (∀ p ∈ cs, sLt p.1 p.2) ∧ cs.length ≤ i * 10) (fun i σ' M' _ _ => itE_at rfl) ⟨⟨_, _, rfl⟩, fun a o _ hal e => by rw [put_ne hal]; exact e, h.ext (Ext.new hl1 _), [], put_same, by simp, by simp⟩ ?_ ?_
  · rintro i d σ' M2 hd ⟨⟨u, v, rfl⟩, k2, h2, cs, hcs, hlt, hlen⟩ Kt kt
    obtain ⟨a, hx, rfl⟩ := numD_get' hd
    have hi := (List.getElem?_eq_some_iff.mp hx).1
    walk_at "g"
    rw [show ((i : Int) + 1) = ((i + 1 : Nat) : Int) from by omega, cut_from, ← List.map_drop]
    have hdl : (xs.drop (i + 1)).length ≤ 10 := by rw [List.length_drop]; omega
    refine lc_inv ((xs.drop (i + 1)).map .str) (fun j acc M' => Bx b M2 M' ∧ BagAt M' b c ∧ ∃ ps : List (Str × Str), acc = ps.map Enc.d ∧ (∀ p ∈ ps, sLt p.1 p.2) ∧ ps.length ≤ j) (fun i acc M' _ hi => rfl) ⟨Bx.refl, h2, [], rfl, by simp, by simp⟩ (by rw [List.length_map]; exact Nat.le_trans hdl (by size_fits)) (fun i acc M' h => by obtain ⟨_, _, ps, rfl, _, h3⟩ := h; simpa using h3) ?_ ?_
    · rintro j d acc M3 hd3 ⟨k3, h3, ps, rfl, hps, hpl⟩ KT KF kt2 kf2
      rw [List.getElem?_map] at hd3
      cases hy : (xs.drop (i + 1))[j]? with
      | none => rw [hy] at hd3; cases hd3
      | some e =>
        rw [hy] at hd3; cases hd3
        have hae : sLt a e := by
          rw [List.getElem?_drop] at hy
          exact List.pairwise_iff_getElem.mp hs i (i + 1 + j) hi (List.getElem?_eq_some_iff.mp hy).1 (by omega) |> fun z => by
            rw [(List.getElem?_eq_some_iff.mp hx).2, (List.getElem?_eq_some_iff.mp hy).2] at z
            exact z
        walk_at "g"
        refine s_law_take h3 (many := 5) (by decide) (by decide) fun M4 v hv k4 h4 => ?_
        walk_at "g"
        cases hv3 : decide ((v : Int) < 3)
        · walk_at "g"
          exact kf2 _ ⟨k3.trans k4, h4, ps, rfl, hps, by omega⟩
        · walk_at "g"
          refine kt2 _ _ ⟨k3.trans k4, h4, ps ++ [(a, e)], by rw [List.map_append]; rfl, fun p hp => ?_, by rw [List.length_append]; simp; omega⟩
          rcases List.mem_append.mp hp with z | z
          · exact hps p z
          · rw [List.mem_singleton.mp z]; exact hae
    · rintro acc M3 p ⟨k3, h3, ps, rfl, hps, hpl⟩ hp
      rw [List.length_map] at hpl
      have e3 := Ext.new hp (.lst (ps.map Enc.d))
      have hl4 := e3 _ _ (k3 _ _ hlb hcs)
      walk_at "g"
      refine ⟨l, cs.map Enc.d, ps.map Enc.d, rfl, hl4, put_same, by rw [List.length_map, List.length_map]; exact Nat.le_trans (show _ ≤ 200 by omega) (by size_fits), ?_⟩
      walk_at "g"
      refine kt _ _ ⟨⟨_, _, rfl⟩, fun a' o hab hal e => by rw [put_ne hal]; exact e3 _ _ (k3 _ _ hab (k2 _ _ hab hal e)), (h3.ext e3).mono (fun a' o ha e => ?_), cs ++ ps, by rw [put_same, List.map_append], fun p hp => ?_, by rw [List.length_append]; omega⟩
      · have : a' ≠ l := by
          rcases ha with rfl | rfl
          · exact Ne.symm hlb
          · intro z
            obtain ⟨x, y, z', cells, e1, e2, _⟩ := h.ex
            rw [z, hl1] at e2; cases e2
        rw [put_ne this]; exact e
      · rcases List.mem_append.mp hp with z | z
        · exact hlt p z
        · exact hps p z
  · rintro σ' M2 ⟨⟨u, v, rfl⟩, k2, h2, cs, hcs, hlt, hlen⟩
    walk_at "g"
    refine q M2 ⟨xs, cs⟩ rfl ⟨hs, by show xs.length ≤ 100; omega, hlt⟩ (fun a o hab e => k2 _ _ hab (ne_of_new e hl1) e) h2
end
end Dt

set_option Elab.async false
set_option autoImplicit false
set_option linter.all false
set_option maxRecDepth 100000
set_option maxHeartbeats 8000000
namespace Dt
open PySem PySem.Spec PyProof.Rows L2 LamX RZ PySem.P
local macro_rules | `(tactic| walk_at "w1") => `(tactic| with_reducible refine StepW.go ?_)
local macro_rules | `(tactic| walk_at "w") => `(tactic| ((repeat walk_at "w1"); try (with_reducible conv => whnf)))
local macro_rules | `(tactic| walk_at "m") => `(tactic| first | with_reducible assumption | with_reducible exact put_same | (with_reducible apply Ext.get; (with_reducible assumption); walk_at "m") | (with_reducible apply Ext.get; (with_reducible apply Ext.new); (with_reducible assumption); walk_at "m"))
local macro_rules | `(tactic| walk_at "x") => `(tactic| first | with_reducible assumption | with_reducible exact Ext.refl | (with_reducible refine Ext.alloc ?_ (by with_reducible assumption) _; walk_at "x") | (with_reducible refine Ext.trans ?_ (by with_reducible assumption); walk_at "x"))
local macro_rules | `(tactic| walk_at "lk") => `(tactic| first | with_reducible exact look1 | ((with_reducible apply lookS); (with_unfolding_all decide); walk_at "lk"))
local macro_rules | `(tactic| walk_at "h1") => `(tactic| (first
  | with_reducible refine StepW.go ?_
  | with_reducible refine StepG.go ?_
  | with_reducible refine w_isTup ?_
  | ((with_reducible refine w_sz ?sz ?_); (case sz => size_fits))
  | ((with_reducible refine w_len ?sz ?_); (case sz => rfl))
  | ((with_reducible refine w_obj (by walk_at "m") ?ob2 ?_); (case ob2 => walk_at "ln"))
  | (with_reducible refine w_lenL (by walk_at "m") ?_) | (with_reducible refine w_seqL (by walk_at "m") ?_) | (with_reducible refine tup_list (by walk_at "m") ?_)
  | (with_reducible refine w_isLst (by walk_at "m") ?_) | (with_reducible refine w_slL (by walk_at "m") ?_)
  | ((with_reducible refine fld_ok (by walk_at "m") ?cl (by walk_at "lk") ?_); (case cl => walk_at "cl"))
  | (with_reducible refine w_lstL (by walk_at "m") ?_) | (with_reducible refine w_dic (by walk_at "m") ?_)
  ))
local macro_rules | `(tactic| walk_at "g1") => `(tactic| first | walk_at "h1" | with_reducible refine StepP.go ?_)
local macro_rules | `(tactic| walk_at "h") => `(tactic| ((repeat walk_at "h1"); try (with_reducible conv => whnf)))
local macro_rules | `(tactic| walk_at "g") => `(tactic| ((repeat walk_at "g1"); try (with_reducible conv => whnf)))
local macro_rules | `(tactic| walk_at "ln") => `(tactic| first | exact look_none (ns := ["row", "signs", "dependent", "places", "taken"]) rfl (by decide) | exact look_none (ns := ["alphabet", "due", "its_left", "signs", "parting"]) rfl (by decide) | exact look_none (ns := ["alphabet", "its_lag", "parting"]) rfl (by decide))
local macro_rules | `(tactic| walk_at "cl") => `(tactic| first | exact CF.get (by with_reducible assumption) (by decide) | exact LF.row (by with_reducible assumption) | exact LF.signs (by with_reducible assumption) | exact LF.dependent (by with_reducible assumption) | exact LF.places (by with_reducible assumption) | exact LF.taken (by with_reducible assumption))
section
variable {K : Bd} {M M' : DM} {Q : DQ} {E : DX} {A : Alph} {row : List Str} {b c : Addr}
/-- a row as a key -/
def nk (r : List Str) : NestedKey := .tup (r.map .text)
theorem nk_inj {r s : List Str} (h : nk r = nk s) : r = s := by
  have := NestedKey.tup.inj h
  exact List.map_injective (fun a b e => NestedKey.text.inj e) this
where
  List.map_injective {α β : Type} {f : α → β} (hf : ∀ a b, f a = f b → a = b) : ∀ {xs ys : List α}, xs.map f = ys.map f → xs = ys
    | [], [], _ => rfl
    | [], _ :: _, h => by simp at h
    | _ :: _, [], h => by simp at h
    | x :: xs, y :: ys, h => by
      simp only [List.map_cons, List.cons.injEq] at h
      rw [hf _ _ h.1, List.map_injective hf h.2]
theorem keyN_row (r : List Str) : keyN (.tup (r.map .str)) = some (nk r) := by
  rw [keyN, keyNs_strs]; rfl
theorem depth_text (r : List Str) : (nk r).depth ≤ 8 := by
  unfold nk
  simp only [NestedKey.depth]
  have : NestedKey.depthAll (r.map .text) ≤ 1 := by
    induction r with
    | nil => simp [NestedKey.depthAll]
    | cons s r ih => simp only [List.map_cons, NestedKey.depthAll, NestedKey.depth]; omega
  omega
theorem nkD_row (r : List Str) : nkD (nk r) = Enc.d r := (keyN_eq (keyN_row r)).symm
theorem nkP_row (r : List Str) : nkP (nk r) = Enc.p r := by
  unfold nk
  rw [nkP]
  show PyData.tuple _ = PyData.tuple _
  congr 1
  induction r with
  | nil => rfl
  | cons s r ih => rw [List.map_cons, nkPs, ih]; rfl
/-- a dict of rows -/
def rowsO (rows : List (List Str)) : DO := .dT (rows.map fun r => (nk r, D.bl true))
theorem rows_val (rows : List (List Str)) (r : List Str) : (valD (rows.map fun r => (nk r, D.bl true)) (nk r)).isSome = decide (r ∈ rows) := by
  rw [Bool.eq_iff_iff, valD_isSome, decide_eq_true_iff, List.map_map, List.mem_map]
  constructor
  · rintro ⟨s, hs, e⟩
    rw [← nk_inj e]; exact hs
  · intro h; exact ⟨r, h, rfl⟩
theorem rows_put {rows : List (List Str)} {r : List Str} (h : r ∉ rows) : putD (rows.map fun r => (nk r, D.bl true)) (nk r) (.bl true) = (rows ++ [r]).map fun r => (nk r, D.bl true) := by
  rw [putD_new, List.map_append]; rfl
  rw [List.map_map, List.mem_map]
  rintro ⟨s, hs, e⟩
  rw [nk_inj e] at hs
  exact h hs
theorem w_dinR {a : Addr} {rows : List (List Str)} {r : List Str} (e : M a = some (rowsO rows)) (q : Q (.bl (!decide (r ∈ rows))) M) : dinD true (Enc.d r) (.ref a) M Q :=
  ⟨a, _, rfl, .t e (keyN_row r) (depth_text r), by rw [rows_val]; exact q⟩
theorem alike_strs : ∀ u v : List Str, PySem.W.alikeAll (u.map PyData.str) (v.map PyData.str) = true
  | [], [] => rfl
  | [], _ :: _ => rfl
  | _ :: _, [] => rfl
  | x :: u, y :: v => by rw [List.map_cons, List.map_cons, PySem.W.alikeAll, alike_strs u v]; rfl
theorem canSort_rows {rows : List (List Str)} (h : (∀ r ∈ rows, r ≠ []) ∨ rows.length < 2) : CanSort (rows.map (Enc.p (α := List Str))) := by
  refine ⟨fun d hd e he => ?_, fun p hp => ?_, ?_⟩
  · obtain ⟨u, _, rfl⟩ := List.mem_map.mp hd
    obtain ⟨v, _, rfl⟩ := List.mem_map.mp he
    exact alike_strs u v
  · obtain ⟨u, _, rfl⟩ := List.mem_map.mp hp
    exact fun z => nomatch z
  · rcases h with h | h
    · refine .inl (.inl fun d hd => ?_)
      obtain ⟨u, hu, rfl⟩ := List.mem_map.mp hd
      cases u with
      | nil => exact absurd rfl (h _ hu)
      | cons x u => exact ⟨_, _, rfl⟩
    · exact .inr (by rw [List.length_map]; exact h)
theorem w_sortRows {a : Addr} {rows : List (List Str)} (e : M a = some (rowsO rows)) (h : (∀ r ∈ rows, r ≠ []) ∨ rows.length < 2) (q : ∀ p (rs : List (List Str)), rs.Perm rows → M p = none → Q (.ref p) (put M p (.lst (rs.map Enc.d)))) : sortD [.ref a] M Q := by
  have e1 : keysP (rows.map fun r => (nk r, D.bl true)) = rows.map Enc.p := by
    rw [show keysP (rows.map fun r => (nk r, D.bl true)) = (rows.map fun r => (nk r, D.bl true)).map fun x => nkP x.1 from rfl, List.map_map]
    exact List.map_congr_left fun r _ => nkP_row r
  have e2 : ((rows.map fun r => (nk r, D.bl true)).map fun p => nkD p.1) = rows.map Enc.d := by
    rw [List.map_map]
    exact List.map_congr_left fun r _ => nkD_row r
  refine .inr ⟨_, e, by rw [e1]; exact canSort_rows h, fun p hp => ?_⟩
  rw [e1, e2, srt_enc]
  exact q p _ (List.mergeSort_perm _ _) hp
theorem swap_length {here : List Str} {k : Nat} {x y : Str} (h1 : here[k]? = some x) (h2 : here[k + 1]? = some y) : (here.take k ++ [y, x] ++ here.drop (k + 2)).length = here.length := by
  have h3 := (List.getElem?_eq_some_iff.mp h2).1
  rw [List.length_append, List.length_append, List.length_take, List.length_drop]
  simp only [List.length_cons, List.length_nil]
  omega
theorem split_two {x y : Str} : ∀ {here : List Str} {j : Nat}, here[j]? = some x → here[j + 1]? = some y → here.take j ++ [x, y] ++ here.drop (j + 2) = here
  | a :: b :: l, 0, h1, h2 => by
    simp at h1 h2
    subst h1; subst h2
    rfl
  | [a], 0, h1, h2 => by simp at h2
  | a :: l, j + 1, h1, h2 => by
    have ih := split_two (here := l) (j := j) (by simpa using h1) (by simpa using h2)
    rw [List.take_succ_cons, List.cons_append, List.cons_append, show j + 1 + 2 = (j + 2) + 1 from rfl, List.drop_succ_cons, ih]
  | [], _, h1, _ => by simp at h1
theorem swap_tq (g : GoodA A) {here : List Str} {j : Nat} {x y : Str} (h : fr A x y = true) (h1 : here[j]? = some x) (h2 : here[j + 1]? = some y) : Tq A (here.take j ++ [y, x] ++ here.drop (j + 2)) here := by
  have F : Tr.Free (fr A) [y] [x] := fun a ha b hb => by
    rw [List.mem_singleton.mp ha, List.mem_singleton.mp hb, fr_comm A]; exact h
  have z : Tq A (here.take j ++ ([y] ++ [x]) ++ here.drop (j + 2)) (here.take j ++ ([x] ++ [y]) ++ here.drop (j + 2)) := ((Tr.Tq.refl).app (F.swap (fr_fs g) fr_fc)).app .refl
  exact z.trans (by rw [show [x] ++ [y] = [x, y] from rfl, split_two h1 h2]; exact Tr.Tq.refl)
/-- a row of the class -/
structure Cls (A : Alph) (row r : List Str) : Prop where
  inA : InA A r
  len : r.length = row.length
  tq : Tq A r row
theorem s_law_class (g : GoodA A) (hl : row.length ≤ 1000) (hr : InA A row) {most : Nat} (hm1 : 1 ≤ most) (hm : most ≤ 100000) (q : ∀ M' d, Ext M M' → ((d = .str "many" ∧ ∃ fs : List (List Str), fs.Nodup ∧ most ≤ fs.length ∧ ∀ r ∈ fs, Cls A row r) ∨ ∃ (p : Addr) (rows : List (List Str)), d = .ref p ∧ M p = none ∧ M' p = some (.lst (rows.map Enc.d)) ∧ rows ≠ [] ∧ rows.length ≤ most ∧ ∀ r ∈ rows, Cls A row r) → Q d M') : sp__law_class K [aD A, Enc.d row, .int (most : Nat)] M Q noX := by
  refine go__law_class ?_
  delta t__law_class
  walk_at "w1"
  walk_at "w1"
  walk_at "w1"
  unfold dOneT
  walk_at "g"
  refine ⟨row.map .str, nk row, rfl, keyN_row row, depth_text row, fun f hf => ?_⟩
  walk_at "g"
  intro l hl1
  have hfl : f ≠ l := ne_of_new put_same hl1
  walk_at "g"
  refine wh_inv (fun m σ' M' => (∃ u v y, σ' = [some (aD A), some (Enc.d row), some (.int (most : Nat)), some (.ref f), some (.ref l), u, v, y]) ∧ Ext M M' ∧ ∃ (rows line : List (List Str)), M' f = some (rowsO rows) ∧ M' l = some (.lst (line.map Enc.d)) ∧ rows.Nodup ∧ rows ≠ [] ∧ rows.length ≤ most ∧ (∀ r ∈ rows, Cls A row r) ∧ (∀ r ∈ line, Cls A row r) ∧ line.length ≤ most ∧ line.length + 2 * (most - rows.length) ≤ m ∧ line.length ≤ rows.length) (1 + 2 * most) ⟨⟨_, _, _, rfl⟩, by walk_at "x", [row], [row], by rw [put_ne hfl]; exact put_same, put_same, by simp, by simp, by simpa using hm1, fun r h' => by rw [List.mem_singleton.mp h']; exact ⟨hr, rfl, Tr.Tq.refl⟩, fun r h' => by rw [List.mem_singleton.mp h']; exact ⟨hr, rfl, Tr.Tq.refl⟩, by simpa using hm1, by simp; omega, by simp⟩ ?_
  rintro m σ' M2 ⟨⟨u, v, y, rfl⟩, e2, rows, line, hrf, hll, hnd, hne, hlen, hall, hline, hlm, hmeas, hlr⟩ Kt kt
  walk_at "g"
  intro n hn
  have hrf3 : put M2 n (.lst []) f = some (rowsO rows) := by rw [put_ne (ne_of_new hrf hn)]; exact hrf
  have hll3 : put M2 n (.lst []) l = some (.lst (line.map Enc.d)) := by rw [put_ne (ne_of_new hll hn)]; exact hll
  have hn3 : put M2 n (.lst []) n = some (.lst []) := put_same
  have e3 := e2.alloc hn (.lst [])
  revert hrf3 hll3 hn3 e3
  generalize put M2 n (.lst []) = M3
  intro hrf3 hll3 hn3 e3
  refine ne_encL (α := List Str) (xs := line) (ys := []) (c := decide (line = [])) hll3 hn3 (by simp) (by decide) ?_
  cases hz : decide (line = [])
  · have hlne : line ≠ [] := of_decide_eq_false hz
    obtain ⟨ls, here, rfl⟩ : ∃ ls here, line = ls ++ [here] := ⟨line.dropLast, line.getLast hlne, (List.dropLast_concat_getLast hlne).symm⟩
    obtain ⟨hin, hlh, hth⟩ := hline here (by simp)
    have hfl2 : f ≠ l := fun z => by rw [z, hll3] at hrf3; cases hrf3
    rw [List.map_append] at hll3
    walk_at "g"
    refine ⟨l, ls.map Enc.d, Enc.d here, rfl, hll3, ?_⟩
    have hrf4 : put M3 l (.lst (ls.map Enc.d)) f = some (rowsO rows) := by rw [put_ne hfl2]; exact hrf3
    have hll4 : put M3 l (.lst (ls.map Enc.d)) l = some (.lst (ls.map Enc.d)) := put_same
    have e4 : Ext M (put M3 l (.lst (ls.map Enc.d))) := fun a o e => by
      have h1 := ne_of_new ((Ext.new hf (.dT [(nk row, D.bl true)])) _ _ e) hl1
      rw [put_ne h1]; exact e3 _ _ e
    revert hrf4 hll4 e4
    generalize put M3 l (.lst (ls.map Enc.d)) = M4
    intro hrf4 hll4 e4
    walk_at "g"
    refine ⟨⟨by omega, by omega⟩, ?_⟩
    have hj : ((here.length : Int) - 1).toNat = here.length - 1 := by omega
    rw [hj]
    have hls : ls.length + 1 + 2 * (most - rows.length) ≤ m := by
      rw [List.length_append] at hmeas; simpa using hmeas
    have hlsr : ls.length + 1 ≤ rows.length := by rw [List.length_append] at hlr; simpa using hlr
    refine for_inv ((List.range (here.length - 1)).map fun k : Nat => D.int (0 + (k : Int))) (fun i σ' M' => (∃ v y, σ' = [some (aD A), some (Enc.d row), some (.int (most : Nat)), some (.ref f), some (.ref l), some (Enc.d here), v, y]) ∧ Ext M M' ∧ ∃ (rows line : List (List Str)), M' f = some (rowsO rows) ∧ M' l = some (.lst (line.map Enc.d)) ∧ rows.Nodup ∧ rows ≠ [] ∧ rows.length ≤ most ∧ (∀ r ∈ rows, Cls A row r) ∧ (∀ r ∈ line, Cls A row r) ∧ line.length + 1 + 2 * (most - rows.length) ≤ m ∧ line.length + 1 ≤ rows.length) (fun i σ' M' _ hi => by
      rw [List.length_map, List.length_range] at hi
      exact itR_at 0 _ i M' (by simpa using hi)) ⟨⟨_, _, rfl⟩, e4, rows, ls, hrf4, hll4, hnd, hne, hlen, hall, fun r hr => hline r (List.mem_append_left _ hr), hls, hlsr⟩ ?_ ?_
    · clear hrf4 hll4 hnd hne hlen hall hls hlsr hmeas hlr hrf hll hrf3 hll3 e4 hlm hline hlne hz
      rintro i d σ' M5 hd ⟨⟨v, y, rfl⟩, e5, rows, line, hrf5, hll5, hnd, hne, hlen, hall, hline, hmeas, hlr⟩ Kt2 kt2
      rw [List.getElem?_map] at hd
      cases hx : (List.range (here.length - 1))[i]? with
      | none => rw [hx] at hd; cases hd
      | some j =>
        rw [hx] at hd; cases hd
        have hij : i < here.length - 1 ∧ j = i := by
          obtain ⟨h1, h2⟩ := List.getElem?_eq_some_iff.mp hx
          rw [List.length_range] at h1
          rw [List.getElem_range] at h2
          exact ⟨h1, h2.symm⟩
        obtain ⟨hi, rfl⟩ := hij
        have hg1 : here[j]? = some (here[j]'(by omega)) := List.getElem?_eq_getElem (by omega)
        have hg2 : here[j + 1]? = some (here[j + 1]'(by omega)) := List.getElem?_eq_getElem (by omega)
        generalize here[j]'(by omega) = x at hg1
        generalize here[j + 1]'(by omega) = y' at hg2
        have hix1 : (here.map (Enc.d (α := Str)))[j]? = some (.str x) := by rw [List.getElem?_map, hg1]; rfl
        have hix2 : (here.map (Enc.d (α := Str)))[j + 1]? = some (.str y') := by rw [List.getElem?_map, hg2]; rfl
        have ez : (0 : Int) + (j : Int) = ((j : Nat) : Int) := by omega
        have ez1 : ((j : Nat) : Int) + 1 = ((j + 1 : Nat) : Int) := by omega
        have ez2 : ((j : Nat) : Int) + 2 = ((j + 2 : Nat) : Int) := by omega
        have step : ∀ σ2, (∃ v y, σ2 = [some (aD A), some (Enc.d row), some (.int (most : Nat)), some (.ref f), some (.ref l), some (Enc.d here), v, y]) → Kt2 σ2 M5 := fun σ2 hσ => kt2 _ _ ⟨hσ, e5, rows, line, hrf5, hll5, hnd, hne, hlen, hall, hline, hmeas, hlr⟩
        show gNm 6 (.int (0 + (j : Int))) _ _ _ _
        rw [ez]
        walk_at "g"
        refine ix_tup (n := j) hix1 ?_
        walk_at "g"
        rw [ez1]
        refine ix_tup (n := j + 1) hix2 ?_
        walk_at "g"
        refine s_law_is_free ?_
        walk_at "g"
        cases hfr : fr A x y'
        · walk_at "g"
          exact step _ ⟨_, _, rfl⟩
        · walk_at "g"
          rw [ez1]
          refine ix_tup (n := j + 1) hix2 ?_
          walk_at "g"
          refine ix_tup (n := j) hix1 ?_
          walk_at "g"
          rw [cut_to, ← List.map_take]
          refine add_tup ?_ ?_
          · rw [List.length_map, List.length_take]
            exact Nat.le_trans (show min j here.length + 2 ≤ 2000 by omega) (by size_fits)
          walk_at "g"
          rw [ez2, cut_from, ← List.map_drop]
          refine add_tup ?_ ?_
          · rw [List.length_append, List.length_map, List.length_map, List.length_take, List.length_drop]
            exact Nat.le_trans (show min j here.length + 2 + (here.length - (j + 2)) ≤ 5000 by omega) (by size_fits)
          rw [show ((here.take j).map (Enc.d (α := Str)) ++ [D.str y', D.str x] ++ (here.drop (j + 2)).map Enc.d) = (here.take j ++ [y', x] ++ here.drop (j + 2)).map Enc.d from by rw [List.map_append, List.map_append]; rfl]
          have hsl := swap_length hg1 hg2
          have htq := (swap_tq g hfr hg1 hg2).trans hth
          have hsi : InA A (here.take j ++ [y', x] ++ here.drop (j + 2)) := by
            intro s hs
            rcases List.mem_append.mp hs with h | h
            · rcases List.mem_append.mp h with h | h
              · exact hin s (List.mem_of_mem_take h)
              · simp only [List.mem_cons, List.not_mem_nil, or_false] at h
                rcases h with rfl | rfl
                · exact hin _ (List.mem_of_getElem? hg2)
                · exact hin _ (List.mem_of_getElem? hg1)
            · exact hin s (List.mem_of_mem_drop h)
          generalize here.take j ++ [y', x] ++ here.drop (j + 2) = other at hsl hsi htq
          walk_at "g"
          refine w_dinR (r := other) hrf5 ?_
          cases hmem : decide (other ∈ rows)
          · have hnm := of_decide_eq_false hmem
            walk_at "g"
            refine .inr ⟨_, hrf5, ?_⟩
            rw [List.length_map]
            walk_at "g"
            cases hge : decide ((most : Int) ≤ ((rows.length : Nat) : Int))
            · have hlt : rows.length < most := by have := of_decide_eq_false hge; omega
              walk_at "g"
              refine ⟨f, _, rfl, .t hrf5 (keyN_row other) (depth_text other) (by rw [List.length_map]; exact Nat.lt_of_le_of_lt (show rows.length ≤ 100000 by omega) (by size_fits)), ?_⟩
              rw [rows_put hnm]
              have hfl5 : l ≠ f := fun z => by rw [z, hrf5] at hll5; cases hll5
              have hll6 : put M5 f (.dT ((rows ++ [other]).map fun r => (nk r, D.bl true))) l = some (.lst (line.map Enc.d)) := by rw [put_ne hfl5]; exact hll5
              walk_at "g"
              refine w_app hll6 (by rw [List.length_map]; exact Nat.lt_of_le_of_lt (show line.length ≤ 100000 by omega) (by size_fits)) ?_
              walk_at "g"
              refine kt2 _ _ ⟨⟨_, _, rfl⟩, fun a o e => ?_, rows ++ [other], line ++ [other], ?_, by rw [put_same, List.map_append]; rfl, ?_, by simp, by rw [List.length_append]; simp only [List.length_singleton]; omega, fun r hr => ?_, fun r hr => ?_, by rw [List.length_append, List.length_append]; simp only [List.length_singleton]; omega, by rw [List.length_append, List.length_append]; simp only [List.length_singleton]; omega⟩
              · have h1 : a ≠ f := ne_of_new e hf
                have h2 : a ≠ l := ne_of_new ((Ext.new hf (.dT [(nk row, D.bl true)])) _ _ e) hl1
                rw [put_ne h2, put_ne h1]; exact e5 _ _ e
              · rw [put_ne (Ne.symm hfl5), put_same]; rfl
              · exact List.nodup_append.mpr ⟨hnd, by simp, fun a ha b hb => by rw [List.mem_singleton.mp hb]; exact fun z => hnm (z ▸ ha)⟩
              · rcases List.mem_append.mp hr with h | h
                · exact hall r h
                · rw [List.mem_singleton.mp h]; exact ⟨hsi, hsl.trans hlh, htq⟩
              · rcases List.mem_append.mp hr with h | h
                · exact hline r h
                · rw [List.mem_singleton.mp h]; exact ⟨hsi, hsl.trans hlh, htq⟩
            · walk_at "g"
              exact q _ _ e5 (.inl ⟨rfl, rows, hnd, by have := of_decide_eq_true hge; omega, hall⟩)
          · walk_at "g"
            exact step _ ⟨_, _, rfl⟩
    · rintro σ' M5 ⟨⟨v, y, rfl⟩, e5, rows, line, hrf5, hll5, hnd, hne, hlen, hall, hline, hmeas, hlr⟩
      walk_at "g"
      exact kt (m - 1) _ _ (by omega) ⟨⟨_, _, _, rfl⟩, e5, rows, line, hrf5, hll5, hnd, hne, hlen, hall, hline, by omega, by omega, by omega⟩
  · walk_at "g"
    refine w_sortRows hrf3 ?_ fun p rs hp hpn => ?_
    · by_cases h0 : row.length = 0
      · right
        have hone : ∀ r ∈ rows, r = [] := fun r hr => List.length_eq_zero_iff.mp ((hall r hr).len.trans h0)
        cases rows with
        | nil => simp
        | cons r1 rs1 =>
          cases rs1 with
          | nil => simp
          | cons r2 rs2 =>
            have h1 := hone r1 (by simp)
            have h2 := hone r2 (by simp)
            subst h1
            subst h2
            simp at hnd
      · left
        intro r hr e
        rw [e] at hr
        have := (hall [] hr).len
        simp at this
        omega
    · refine q _ _ (e3.alloc hpn _) (.inr ⟨p, rs, rfl, none_of e3 hpn, put_same, fun e => ?_, by rw [hp.length_eq]; exact hlen, fun r hr => hall r (hp.mem_iff.mp hr)⟩)
      rw [e] at hp
      exact hne (List.Perm.nil_eq hp).symm
end
end Dt

set_option Elab.async false
set_option autoImplicit false
set_option linter.all false
set_option maxRecDepth 100000
set_option maxHeartbeats 400000
namespace Dt
open PySem PySem.Spec PyProof.Rows L2 LamX RZ PySem.P
local macro_rules | `(tactic| walk_at "w1") => `(tactic| with_reducible refine StepW.go ?_)
local macro_rules | `(tactic| walk_at "w") => `(tactic| ((repeat walk_at "w1"); try (with_reducible conv => whnf)))
local macro_rules | `(tactic| walk_at "m") => `(tactic| first | with_reducible assumption | with_reducible exact put_same | (with_reducible apply Ext.get; (with_reducible assumption); walk_at "m") | (with_reducible apply Ext.get; (with_reducible apply Ext.new); (with_reducible assumption); walk_at "m"))
local macro_rules | `(tactic| walk_at "x") => `(tactic| first | with_reducible assumption | with_reducible exact Ext.refl | (with_reducible refine Ext.alloc ?_ (by with_reducible assumption) _; walk_at "x") | (with_reducible refine Ext.trans ?_ (by with_reducible assumption); walk_at "x"))
local macro_rules | `(tactic| walk_at "lk") => `(tactic| first | with_reducible exact look1 | ((with_reducible apply lookS); (with_unfolding_all decide); walk_at "lk"))
local macro_rules | `(tactic| walk_at "h1") => `(tactic| (first
  | with_reducible refine StepW.go ?_
  | with_reducible refine StepG.go ?_
  | with_reducible refine w_isTup ?_
  | ((with_reducible refine w_sz ?sz ?_); (case sz => size_fits))
  | ((with_reducible refine w_len ?sz ?_); (case sz => rfl))
  | ((with_reducible refine w_obj (by walk_at "m") ?ob2 ?_); (case ob2 => walk_at "ln"))
  | (with_reducible refine w_lenL (by walk_at "m") ?_) | (with_reducible refine w_seqL (by walk_at "m") ?_) | (with_reducible refine tup_list (by walk_at "m") ?_)
  | (with_reducible refine w_isLst (by walk_at "m") ?_) | (with_reducible refine w_slL (by walk_at "m") ?_)
  | ((with_reducible refine fld_ok (by walk_at "m") ?cl (by walk_at "lk") ?_); (case cl => walk_at "cl"))
  | (with_reducible refine w_lstL (by walk_at "m") ?_) | (with_reducible refine w_dic (by walk_at "m") ?_)
  ))
local macro_rules | `(tactic| walk_at "g1") => `(tactic| first | walk_at "h1" | with_reducible refine StepP.go ?_)
local macro_rules | `(tactic| walk_at "h") => `(tactic| ((repeat walk_at "h1"); try (with_reducible conv => whnf)))
local macro_rules | `(tactic| walk_at "g") => `(tactic| ((repeat walk_at "g1"); try (with_reducible conv => whnf)))
local macro_rules | `(tactic| walk_at "ln") => `(tactic| first | exact look_none (ns := ["row", "signs", "dependent", "places", "taken"]) rfl (by decide) | exact look_none (ns := ["alphabet", "due", "its_left", "signs", "parting"]) rfl (by decide) | exact look_none (ns := ["alphabet", "its_lag", "parting"]) rfl (by decide))
local macro_rules | `(tactic| walk_at "cl") => `(tactic| first | exact CF.get (by with_reducible assumption) (by decide) | exact LF.row (by with_reducible assumption) | exact LF.signs (by with_reducible assumption) | exact LF.dependent (by with_reducible assumption) | exact LF.places (by with_reducible assumption) | exact LF.taken (by with_reducible assumption))
section
variable {K : Bd} {M M' : DM} {Q : DQ} {E : DX} {A : Alph} {row : List Str} {b c : Addr}
theorem countP_str (s : Str) : ∀ r : List Str, (r.map (Enc.p (α := Str))).countP (fun z => PyData.eqv z (Enc.p s)) = r.count s
  | [] => rfl
  | t :: r => by
    rw [List.map_cons, List.countP_cons, List.count_cons, countP_str s r]
    congr 1
theorem w_cnt {r : List Str} {s : Str} (q : Q (.int ((r.count s : Nat) : Int)) M) : tcntD (.tup (r.map .str)) [.str s] M Q := by
  refine ⟨r.map .str, r.map Enc.p, Enc.p s, rfl, pyOfs_map M 20 (by decide) r, .str, ?_⟩
  rw [countP_str]; exact q
theorem nodup_le {α : Type} [DecidableEq α] : ∀ {xs ys : List α}, xs.Nodup → (∀ x ∈ xs, x ∈ ys) → xs.length ≤ ys.length
  | [], _, _, _ => Nat.zero_le _
  | x :: xs, ys, nd, h => by
    have hx := h x List.mem_cons_self
    obtain ⟨n1, n2⟩ := List.nodup_cons.mp nd
    have ih := nodup_le (ys := ys.erase x) n2 fun z hz => (List.mem_erase_of_ne (fun e => by subst e; exact n1 hz)).mpr (h z (List.mem_cons_of_mem _ hz))
    rw [List.length_erase_of_mem hx] at ih
    have : 0 < ys.length := List.length_pos_of_mem hx
    rw [List.length_cons]; omega
/-- sorted(set(row)): the signs of the row, each once -/
theorem w_sortSet {r : List Str} (hl : r.length ≤ 4000) (q : ∀ ys : List Str, ys.Nodup → (∀ k, k ∈ ys ↔ k ∈ r) → ys.length ≤ r.length → ∀ p, M p = none → Q (.ref p) (put M p (.lst (ys.map .str)))) : sortSetD (.tup (r.map .str)) M Q := by
  refine ⟨r, rfl, hl, fun ys nd mem p hp => ?_⟩
  have e : srt (ys.map D.str) (ys.map PyData.str) = (ys.mergeSort (PySem.W.dataLe false (Enc.p (α := Str)))).map D.str := srt_enc ys
  rw [e]
  have pm := List.mergeSort_perm ys (PySem.W.dataLe false (Enc.p (α := Str)))
  have m2 : ∀ k, k ∈ ys.mergeSort (PySem.W.dataLe false (Enc.p (α := Str))) ↔ k ∈ r := fun k => pm.mem_iff.trans (mem k)
  have n2 := pm.nodup_iff.mpr nd
  exact q _ n2 m2 (nodup_le n2 fun x hx => (m2 x).mp hx) p hp
theorem s_counts (hl : A.signs.length ≤ 10000) (q : ∀ M', Ext M M' → Q (.tup (A.signs.map fun s => .int ((row.count s : Nat) : Int))) M') : sp_counts K [aD A, Enc.d row] M Q noX := by
  refine go_counts ?_
  delta t_counts
  walk_at "g"
  refine ix_tup (n := 0) rfl ?_
  walk_at "g"
  refine lc_pure A.signs D.str (fun _ => true) (fun s => .int ((row.count s : Nat) : Int)) (fun i M2 e2 _ => itT_at _ i M2) (Nat.le_trans hl (by size_fits)) ?_ ?_
  · intro i x M2 hx e2 KT KF kt kf
    walk_at "g"
    refine ⟨⟨_, rfl⟩, ?_⟩
    walk_at "g"
    exact w_cnt (kt rfl _ e2)
  · intro M2 p2 e2 hp2
    walk_at "g"
    have e : A.signs.filter (fun _ => true) = A.signs := List.filter_eq_self.mpr fun _ _ => rfl
    rw [e]
    exact q _ (e2.alloc hp2 _)
theorem s_turned {u v : List Str} (q : Q (Enc.d (v, u)) M) : sp_turned K [Enc.d (u, v)] M Q noX := by
  refine go_turned ?_
  delta t_turned
  walk_at "g"
  refine ix_tup (n := 1) rfl ?_
  walk_at "g"
  refine ix_tup (n := 0) rfl ?_
  walk_at "g"
  exact q
end
end Dt

set_option Elab.async false
set_option autoImplicit false
set_option linter.all false
set_option maxRecDepth 100000
set_option maxHeartbeats 400000
namespace Dt
open PySem PySem.Spec PyProof.Rows L2 LamX RZ PySem.P
local macro_rules | `(tactic| walk_at "w1") => `(tactic| with_reducible refine StepW.go ?_)
local macro_rules | `(tactic| walk_at "w") => `(tactic| ((repeat walk_at "w1"); try (with_reducible conv => whnf)))
local macro_rules | `(tactic| walk_at "m") => `(tactic| first | with_reducible assumption | with_reducible exact put_same | (with_reducible apply Ext.get; (with_reducible assumption); walk_at "m") | (with_reducible apply Ext.get; (with_reducible apply Ext.new); (with_reducible assumption); walk_at "m"))
local macro_rules | `(tactic| walk_at "x") => `(tactic| first | with_reducible assumption | with_reducible exact Ext.refl | (with_reducible refine Ext.alloc ?_ (by with_reducible assumption) _; walk_at "x") | (with_reducible refine Ext.trans ?_ (by with_reducible assumption); walk_at "x"))
local macro_rules | `(tactic| walk_at "lk") => `(tactic| first | with_reducible exact look1 | ((with_reducible apply lookS); (with_unfolding_all decide); walk_at "lk"))
local macro_rules | `(tactic| walk_at "h1") => `(tactic| (first
  | with_reducible refine StepW.go ?_
  | with_reducible refine StepG.go ?_
  | with_reducible refine w_isTup ?_
  | ((with_reducible refine w_sz ?sz ?_); (case sz => size_fits))
  | ((with_reducible refine w_len ?sz ?_); (case sz => rfl))
  | ((with_reducible refine w_obj (by walk_at "m") ?ob2 ?_); (case ob2 => walk_at "ln"))
  | (with_reducible refine w_lenL (by walk_at "m") ?_) | (with_reducible refine w_seqL (by walk_at "m") ?_) | (with_reducible refine tup_list (by walk_at "m") ?_)
  | (with_reducible refine w_isLst (by walk_at "m") ?_) | (with_reducible refine w_slL (by walk_at "m") ?_)
  | ((with_reducible refine fld_ok (by walk_at "m") ?cl (by walk_at "lk") ?_); (case cl => walk_at "cl"))
  | (with_reducible refine w_lstL (by walk_at "m") ?_) | (with_reducible refine w_dic (by walk_at "m") ?_)
  ))
local macro_rules | `(tactic| walk_at "g1") => `(tactic| first | walk_at "h1" | with_reducible refine StepP.go ?_)
local macro_rules | `(tactic| walk_at "h") => `(tactic| ((repeat walk_at "h1"); try (with_reducible conv => whnf)))
local macro_rules | `(tactic| walk_at "g") => `(tactic| ((repeat walk_at "g1"); try (with_reducible conv => whnf)))
local macro_rules | `(tactic| walk_at "ln") => `(tactic| first | exact look_none (ns := ["row", "signs", "dependent", "places", "taken"]) rfl (by decide) | exact look_none (ns := ["alphabet", "due", "its_left", "signs", "parting"]) rfl (by decide) | exact look_none (ns := ["alphabet", "its_lag", "parting"]) rfl (by decide))
local macro_rules | `(tactic| walk_at "cl") => `(tactic| first | exact CF.get (by with_reducible assumption) (by decide) | exact LF.row (by with_reducible assumption) | exact LF.signs (by with_reducible assumption) | exact LF.dependent (by with_reducible assumption) | exact LF.places (by with_reducible assumption) | exact LF.taken (by with_reducible assumption))
section
variable {K : Bd} {M M' : DM} {Q : DQ} {E : DX} {A : Alph} {row : List Str} {b c : Addr}
def fitsB (A : Alph) (u v : List Str) : Bool := u.all fun a => v.all fun b => fr A a b
theorem fitsB_iff {u v : List Str} : fitsB A u v = true ↔ Tr.Free (fr A) u v := by
  unfold fitsB Tr.Free
  simp only [List.all_eq_true]
theorem all_mem {α : Type} {p : α → Bool} {xs ys : List α} (h : ∀ k, k ∈ xs ↔ k ∈ ys) : xs.all p = ys.all p := by
  rw [Bool.eq_iff_iff, List.all_eq_true, List.all_eq_true]
  exact ⟨fun z k hk => z k ((h k).mpr hk), fun z k hk => z k ((h k).mp hk)⟩
theorem s_fits {u v : List Str} (hu : InA A u) (hv : InA A v) (lu : u.length ≤ 100) (lv : v.length ≤ 100) (q : ∀ M', Ext M M' → Q (.bl (fitsB A u v)) M') : sp_fits K [aD A, Enc.d (u, v)] M Q noX := by
  refine go_fits ?_
  delta t_fits
  walk_at "g"
  refine w_sortSet (r := u) (by omega) fun xs nx mx lx p hp => ?_
  walk_at "g"
  have hx : ∀ k ∈ xs, k ∈ A.signs := fun k hk => hu k ((mx k).mp hk)
  refine lc2_inv (xs.map .str) (fun i acc M1 => Ext (put M p (.lst (xs.map .str))) M1 ∧ ∃ bs : List Bool, acc = bs.map .bl ∧ bs.length ≤ i * 100 ∧ bs.all id = (xs.take i).all fun a => v.all fun b => fr A a b) (fun i acc M1 h _ => itL_is (h.1 _ _ put_same) i) ⟨.refl, [], rfl, Nat.zero_le _, rfl⟩ ?_ ?_
  · rintro i d acc M1 hd ⟨e, bs, rfl, hl, ha⟩ C cc
    rw [List.getElem?_map] at hd
    cases hx1 : xs[i]? with
    | none => rw [hx1] at hd; cases hd
    | some x =>
      rw [hx1] at hd; cases hd
      have hxA : x ∈ A.signs := hx x (List.mem_of_getElem? hx1)
      have hi : i < 100 := by have := (List.getElem?_eq_some_iff.mp hx1).1; omega
      walk_at "g"
      refine w_sortSet (r := v) (by omega) fun ys ny my ly p2 hp2 => ?_
      walk_at "g"
      refine lc2In_inv (ys.map .str) (fun k acc M2 => Ext (put M1 p2 (.lst (ys.map .str))) M2 ∧ ∃ cs : List Bool, acc = (bs ++ cs).map .bl ∧ cs.length ≤ k ∧ cs.all id = (ys.take k).all fun b => fr A x b) (fun k acc M2 h _ => itL_is (h.1 _ _ put_same) k) ⟨.refl, [], by simp, Nat.le_refl _, rfl⟩ (fun k acc M2 h hk => ?_) ?_ ?_
      · obtain ⟨_, cs, rfl, h2, _⟩ := h
        rw [List.length_map, List.length_append]
        rw [List.length_map] at hk
        have : i * 100 ≤ 99 * 100 := Nat.mul_le_mul_right _ (by omega)
        exact Nat.lt_of_lt_of_le (show bs.length + cs.length < 20000 by omega) (by size_fits)
      · rintro k d2 acc2 M2 hd2 ⟨e2, cs, rfl, h2, h3⟩ KT KF kt kf
        rw [List.getElem?_map] at hd2
        cases hy : ys[k]? with
        | none => rw [hy] at hd2; cases hd2
        | some y =>
          rw [hy] at hd2; cases hd2
          have hyA : y ∈ A.signs := hv y ((my y).mp (List.mem_of_getElem? hy))
          walk_at "g"
          refine s_are_independent hxA hyA ?_
          refine kt _ _ ⟨e2, cs ++ [fr A x y], by simp, by rw [List.length_append]; exact Nat.succ_le_succ h2, ?_⟩
          rw [take_succ_get hy, List.all_append, List.all_append, h3]
          simp
      · rintro acc2 M2 ⟨e2, cs, rfl, h2, h3⟩
        refine cc _ _ ⟨(e.alloc hp2 _).trans e2, bs ++ cs, rfl, ?_, ?_⟩
        · rw [List.length_map] at h2
          rw [List.length_append]
          omega
        · rw [List.length_map, List.take_length] at h3
          rw [take_succ_get hx1, List.all_append, List.all_append, ha, h3]
          simp only [List.all_cons, List.all_nil, Bool.and_true]
          rw [all_mem my]
  · rintro acc M1 p3 ⟨e, bs, rfl, _, ha⟩ hp3
    walk_at "g"
    refine w_all (bs := bs) put_same ?_
    rw [List.length_map, List.take_length] at ha
    rw [ha, all_mem mx]
    exact q _ (((Ext.refl).alloc hp _).trans (e.alloc hp3 _))
end
end Dt

set_option Elab.async false
set_option autoImplicit false
set_option linter.all false
set_option maxRecDepth 100000
set_option maxHeartbeats 400000
namespace Dt
open PySem PySem.Spec PyProof.Rows L2 LamX RZ PySem.P
local macro_rules | `(tactic| walk_at "w1") => `(tactic| with_reducible refine StepW.go ?_)
local macro_rules | `(tactic| walk_at "w") => `(tactic| ((repeat walk_at "w1"); try (with_reducible conv => whnf)))
local macro_rules | `(tactic| walk_at "m") => `(tactic| first | with_reducible assumption | with_reducible exact put_same | (with_reducible apply Ext.get; (with_reducible assumption); walk_at "m") | (with_reducible apply Ext.get; (with_reducible apply Ext.new); (with_reducible assumption); walk_at "m"))
local macro_rules | `(tactic| walk_at "x") => `(tactic| first | with_reducible assumption | with_reducible exact Ext.refl | (with_reducible refine Ext.alloc ?_ (by with_reducible assumption) _; walk_at "x") | (with_reducible refine Ext.trans ?_ (by with_reducible assumption); walk_at "x"))
local macro_rules | `(tactic| walk_at "lk") => `(tactic| first | with_reducible exact look1 | ((with_reducible apply lookS); (with_unfolding_all decide); walk_at "lk"))
local macro_rules | `(tactic| walk_at "h1") => `(tactic| (first
  | with_reducible refine StepW.go ?_
  | with_reducible refine StepG.go ?_
  | with_reducible refine w_isTup ?_
  | ((with_reducible refine w_sz ?sz ?_); (case sz => size_fits))
  | ((with_reducible refine w_len ?sz ?_); (case sz => rfl))
  | ((with_reducible refine w_obj (by walk_at "m") ?ob2 ?_); (case ob2 => walk_at "ln"))
  | (with_reducible refine w_lenL (by walk_at "m") ?_) | (with_reducible refine w_seqL (by walk_at "m") ?_) | (with_reducible refine tup_list (by walk_at "m") ?_)
  | (with_reducible refine w_isLst (by walk_at "m") ?_) | (with_reducible refine w_slL (by walk_at "m") ?_)
  | ((with_reducible refine fld_ok (by walk_at "m") ?cl (by walk_at "lk") ?_); (case cl => walk_at "cl"))
  | (with_reducible refine w_lstL (by walk_at "m") ?_) | (with_reducible refine w_dic (by walk_at "m") ?_)
  ))
local macro_rules | `(tactic| walk_at "g1") => `(tactic| first | walk_at "h1" | with_reducible refine StepP.go ?_)
local macro_rules | `(tactic| walk_at "h") => `(tactic| ((repeat walk_at "h1"); try (with_reducible conv => whnf)))
local macro_rules | `(tactic| walk_at "g") => `(tactic| ((repeat walk_at "g1"); try (with_reducible conv => whnf)))
local macro_rules | `(tactic| walk_at "ln") => `(tactic| first | exact look_none (ns := ["row", "signs", "dependent", "places", "taken"]) rfl (by decide) | exact look_none (ns := ["alphabet", "due", "its_left", "signs", "parting"]) rfl (by decide) | exact look_none (ns := ["alphabet", "its_lag", "parting"]) rfl (by decide))
local macro_rules | `(tactic| walk_at "cl") => `(tactic| first | exact CF.get (by with_reducible assumption) (by decide) | exact LF.row (by with_reducible assumption) | exact LF.signs (by with_reducible assumption) | exact LF.dependent (by with_reducible assumption) | exact LF.places (by with_reducible assumption) | exact LF.taken (by with_reducible assumption))
section
variable {K : Bd} {M M' : DM} {Q : DQ} {E : DX} {A : Alph} {row : List Str} {b c : Addr}
theorem s_least_ends {u v : List Str} (hu : InA A u) (hv : InA A v) (lu : u.length ≤ 100) (lv : v.length ≤ 100) (q : fitsB A u v = true → ∀ M', Ext M M' → Q (Enc.d (v, u)) M') (qx : fitsB A u v = false → ∀ M', Ext M M' → E (He.ga K.K "Nothing") [] M') : sp_least_ends K [aD A, Enc.d (u, v)] M Q E := by
  refine go_least_ends ?_
  delta t_least_ends
  walk_at "g"
  refine s_fits hu hv lu lv fun M1 e1 => ?_
  cases h : fitsB A u v
  · walk_at "g"
    exact qx h _ e1
  · walk_at "g"
    refine ix_tup (n := 1) rfl ?_
    walk_at "g"
    refine ix_tup (n := 0) rfl ?_
    walk_at "g"
    exact q h _ e1
end
end Dt

set_option Elab.async false
set_option autoImplicit false
set_option linter.all false
set_option maxRecDepth 100000
set_option maxHeartbeats 400000
namespace Dt
open PySem PySem.Spec PyProof.Rows L2 LamX RZ PySem.P
local macro_rules | `(tactic| walk_at "w1") => `(tactic| with_reducible refine StepW.go ?_)
local macro_rules | `(tactic| walk_at "w") => `(tactic| ((repeat walk_at "w1"); try (with_reducible conv => whnf)))
local macro_rules | `(tactic| walk_at "m") => `(tactic| first | with_reducible assumption | with_reducible exact put_same | (with_reducible apply Ext.get; (with_reducible assumption); walk_at "m") | (with_reducible apply Ext.get; (with_reducible apply Ext.new); (with_reducible assumption); walk_at "m"))
local macro_rules | `(tactic| walk_at "x") => `(tactic| first | with_reducible assumption | with_reducible exact Ext.refl | (with_reducible refine Ext.alloc ?_ (by with_reducible assumption) _; walk_at "x") | (with_reducible refine Ext.trans ?_ (by with_reducible assumption); walk_at "x"))
local macro_rules | `(tactic| walk_at "lk") => `(tactic| first | with_reducible exact look1 | ((with_reducible apply lookS); (with_unfolding_all decide); walk_at "lk"))
local macro_rules | `(tactic| walk_at "h1") => `(tactic| (first
  | with_reducible refine StepW.go ?_
  | with_reducible refine StepG.go ?_
  | with_reducible refine w_isTup ?_
  | ((with_reducible refine w_sz ?sz ?_); (case sz => size_fits))
  | ((with_reducible refine w_len ?sz ?_); (case sz => rfl))
  | ((with_reducible refine w_obj (by walk_at "m") ?ob2 ?_); (case ob2 => walk_at "ln"))
  | (with_reducible refine w_lenL (by walk_at "m") ?_) | (with_reducible refine w_seqL (by walk_at "m") ?_) | (with_reducible refine tup_list (by walk_at "m") ?_)
  | (with_reducible refine w_isLst (by walk_at "m") ?_) | (with_reducible refine w_slL (by walk_at "m") ?_)
  | ((with_reducible refine fld_ok (by walk_at "m") ?cl (by walk_at "lk") ?_); (case cl => walk_at "cl"))
  | (with_reducible refine w_lstL (by walk_at "m") ?_) | (with_reducible refine w_dic (by walk_at "m") ?_)
  ))
local macro_rules | `(tactic| walk_at "g1") => `(tactic| first | walk_at "h1" | with_reducible refine StepP.go ?_)
local macro_rules | `(tactic| walk_at "h") => `(tactic| ((repeat walk_at "h1"); try (with_reducible conv => whnf)))
local macro_rules | `(tactic| walk_at "g") => `(tactic| ((repeat walk_at "g1"); try (with_reducible conv => whnf)))
local macro_rules | `(tactic| walk_at "ln") => `(tactic| first | exact look_none (ns := ["row", "signs", "dependent", "places", "taken"]) rfl (by decide) | exact look_none (ns := ["alphabet", "due", "its_left", "signs", "parting"]) rfl (by decide) | exact look_none (ns := ["alphabet", "its_lag", "parting"]) rfl (by decide))
local macro_rules | `(tactic| walk_at "cl") => `(tactic| first | exact CF.get (by with_reducible assumption) (by decide) | exact LF.row (by with_reducible assumption) | exact LF.signs (by with_reducible assumption) | exact LF.dependent (by with_reducible assumption) | exact LF.places (by with_reducible assumption) | exact LF.taken (by with_reducible assumption))
section
variable {K : Bd} {M M' : DM} {Q : DQ} {E : DX} {A : Alph} {row : List Str} {b c : Addr}
theorem s_law_fits {u v : List Str} (lv : v.length ≤ 10000) (q : ∀ M', Ext M M' → Q (.bl (fitsB A u v)) M') : sp__law_fits K [aD A, Enc.d u, Enc.d v] M Q noX := by
  refine go__law_fits ?_
  delta t__law_fits
  walk_at "g"
  refine for_inv (u.map .str) (fun i σ' M' => ∃ w : Option D, σ' = [some (aD A), some (Enc.d u), some (Enc.d v), w, none] ∧ Ext M M' ∧ fitsB A u v = fitsB A (u.drop i) v) (fun i σ' M' _ hi => rfl) ⟨_, rfl, .refl, rfl⟩ ?_ ?_
  · rintro i d σ' M2 hd ⟨w, rfl, e2, hf⟩ Kt kt
    rw [List.getElem?_map] at hd
    cases hx : u[i]? with
    | none => rw [hx] at hd; cases hd
    | some a =>
      rw [hx] at hd; cases hd
      rw [drop_get hx] at hf
      have hf2 : fitsB A u v = ((v.all fun b => fr A a b) && fitsB A (u.drop (i + 1)) v) := hf
      walk_at "g"
      refine lc_pure v D.str (fun b => !fr A a b) D.str (fun i M2 e2 _ => itT_at _ i M2) (Nat.le_trans lv (by size_fits)) ?_ ?_
      · intro k y M3 hy e3 KT KF kt kf
        walk_at "g"
        refine s_law_is_free ?_
        cases h : fr A a y
        · walk_at "g"
          exact kt (by rw [h]; rfl) _ e3
        · walk_at "g"
          exact kf (by rw [h]; rfl) _ e3
      · intro M3 p e3 hp
        walk_at "g"
        intro p2 hp2
        have hne : p ≠ p2 := fun e => by rw [← e, put_same] at hp2; cases hp2
        refine ne_encL (α := Str) (xs := v.filter fun b => !fr A a b) (ys := []) (c := v.all fun b => fr A a b) (by rw [put_ne hne]; exact put_same) put_same ?_ (by decide) ?_
        · rw [List.filter_eq_nil_iff, List.all_eq_true]
          simp
        · have ex : Ext M (put (put M3 p (.lst ((v.filter fun b => !fr A a b).map D.str))) p2 (.lst [])) := (e2.trans e3).alloc hp _ |>.alloc hp2 _
          cases h : v.all fun b => fr A a b
          · rw [h] at hf2
            walk_at "g"
            rw [hf2] at q
            exact q _ ex
          · rw [h] at hf2
            walk_at "g"
            exact kt _ _ ⟨_, rfl, ex, hf2⟩
  · rintro σ' M2 ⟨w, rfl, e2, hf⟩
    walk_at "g"
    have : fitsB A u v = true := by rw [hf, List.length_map, List.drop_length]; rfl
    rw [this] at q
    exact q _ e2
end
end Dt

set_option Elab.async false
set_option autoImplicit false
set_option linter.all false
set_option maxRecDepth 100000
set_option maxHeartbeats 400000
namespace Dt
open PySem PySem.Spec PyProof.Rows L2 LamX RZ PySem.P
local macro_rules | `(tactic| walk_at "w1") => `(tactic| with_reducible refine StepW.go ?_)
local macro_rules | `(tactic| walk_at "w") => `(tactic| ((repeat walk_at "w1"); try (with_reducible conv => whnf)))
local macro_rules | `(tactic| walk_at "m") => `(tactic| first | with_reducible assumption | with_reducible exact put_same | (with_reducible apply Ext.get; (with_reducible assumption); walk_at "m") | (with_reducible apply Ext.get; (with_reducible apply Ext.new); (with_reducible assumption); walk_at "m"))
local macro_rules | `(tactic| walk_at "x") => `(tactic| first | with_reducible assumption | with_reducible exact Ext.refl | (with_reducible refine Ext.alloc ?_ (by with_reducible assumption) _; walk_at "x") | (with_reducible refine Ext.trans ?_ (by with_reducible assumption); walk_at "x"))
local macro_rules | `(tactic| walk_at "lk") => `(tactic| first | with_reducible exact look1 | ((with_reducible apply lookS); (with_unfolding_all decide); walk_at "lk"))
local macro_rules | `(tactic| walk_at "h1") => `(tactic| (first
  | with_reducible refine StepW.go ?_
  | with_reducible refine StepG.go ?_
  | with_reducible refine w_isTup ?_
  | ((with_reducible refine w_sz ?sz ?_); (case sz => size_fits))
  | ((with_reducible refine w_len ?sz ?_); (case sz => rfl))
  | ((with_reducible refine w_obj (by walk_at "m") ?ob2 ?_); (case ob2 => walk_at "ln"))
  | (with_reducible refine w_lenL (by walk_at "m") ?_) | (with_reducible refine w_seqL (by walk_at "m") ?_) | (with_reducible refine tup_list (by walk_at "m") ?_)
  | (with_reducible refine w_isLst (by walk_at "m") ?_) | (with_reducible refine w_slL (by walk_at "m") ?_)
  | ((with_reducible refine fld_ok (by walk_at "m") ?cl (by walk_at "lk") ?_); (case cl => walk_at "cl"))
  | (with_reducible refine w_lstL (by walk_at "m") ?_) | (with_reducible refine w_dic (by walk_at "m") ?_)
  ))
local macro_rules | `(tactic| walk_at "g1") => `(tactic| first | walk_at "h1" | with_reducible refine StepP.go ?_)
local macro_rules | `(tactic| walk_at "h") => `(tactic| ((repeat walk_at "h1"); try (with_reducible conv => whnf)))
local macro_rules | `(tactic| walk_at "g") => `(tactic| ((repeat walk_at "g1"); try (with_reducible conv => whnf)))
local macro_rules | `(tactic| walk_at "ln") => `(tactic| first | exact look_none (ns := ["row", "signs", "dependent", "places", "taken"]) rfl (by decide) | exact look_none (ns := ["alphabet", "due", "its_left", "signs", "parting"]) rfl (by decide) | exact look_none (ns := ["alphabet", "its_lag", "parting"]) rfl (by decide))
local macro_rules | `(tactic| walk_at "cl") => `(tactic| first | exact CF.get (by with_reducible assumption) (by decide) | exact LF.row (by with_reducible assumption) | exact LF.signs (by with_reducible assumption) | exact LF.dependent (by with_reducible assumption) | exact LF.places (by with_reducible assumption) | exact LF.taken (by with_reducible assumption))
section
variable {K : Bd} {M M' : DM} {Q : DQ} {E : DX} {A : Alph} {row : List Str} {b c : Addr}
/-- one couple is alike in both rows -/
def okp (A : Alph) (x y : List Str) (a b : Str) : Prop := fr A a b = false → Tr.cut a b x = Tr.cut a b y
theorem okp_comm {x y : List Str} {a b : Str} (h : okp A x y a b) : okp A x y b a := fun e => by
  have sw : ∀ r : List Str, Tr.cut b a r = Tr.cut a b r := fun r => by
    unfold Tr.cut
    congr 1
    funext s
    simp [or_comm]
  rw [sw, sw]
  exact h (by rw [fr_fc]; exact e)
theorem tq_of_okp (g : GoodA A) {x y ys : List Str} (my : ∀ k, k ∈ ys ↔ k ∈ x ++ y) (h : ∀ a ∈ ys, ∀ b ∈ ys, okp A x y a b) : Tq A x y := by
  have out : ∀ {a b : Str} {r : List Str}, a ∉ r → Tr.cut a b r = Tr.cut b b r := fun {a b r} n => by
    unfold Tr.cut
    refine List.filter_congr fun s hs => ?_
    have : s ≠ a := fun e => n (e ▸ hs)
    simp [this]
  have none_ : ∀ {a : Str} {r : List Str}, a ∉ r → Tr.cut a a r = [] := fun {a r} n => by
    unfold Tr.cut
    refine List.filter_eq_nil_iff.mpr fun s hs => ?_
    have : s ≠ a := fun e => n (e ▸ hs)
    simp [this]
  have one : ∀ b, Tr.cut b b x = Tr.cut b b y := fun b => by
    by_cases hb : b ∈ ys
    · exact h b hb b hb (fr_fs g b)
    · rw [my, List.mem_append, not_or] at hb
      rw [none_ hb.1, none_ hb.2]
  intro a b e
  by_cases ha : a ∈ ys
  · by_cases hb : b ∈ ys
    · exact h a ha b hb e
    · have hb' := hb
      rw [my, List.mem_append, not_or] at hb'
      have sw : ∀ r : List Str, Tr.cut a b r = Tr.cut b a r := fun r => by
        unfold Tr.cut
        congr 1
        funext s
        simp [or_comm]
      rw [sw, sw, out hb'.1, out hb'.2]
      exact one a
  · rw [my, List.mem_append, not_or] at ha
    rw [out ha.1, out ha.2]
    exact one b
end
end Dt

set_option Elab.async false
set_option autoImplicit false
set_option linter.all false
set_option maxRecDepth 100000
set_option maxHeartbeats 400000
namespace Dt
open PySem PySem.Spec PyProof.Rows L2 LamX RZ PySem.P
local macro_rules | `(tactic| walk_at "w1") => `(tactic| with_reducible refine StepW.go ?_)
local macro_rules | `(tactic| walk_at "w") => `(tactic| ((repeat walk_at "w1"); try (with_reducible conv => whnf)))
local macro_rules | `(tactic| walk_at "m") => `(tactic| first | with_reducible assumption | with_reducible exact put_same | (with_reducible apply Ext.get; (with_reducible assumption); walk_at "m") | (with_reducible apply Ext.get; (with_reducible apply Ext.new); (with_reducible assumption); walk_at "m"))
local macro_rules | `(tactic| walk_at "x") => `(tactic| first | with_reducible assumption | with_reducible exact Ext.refl | (with_reducible refine Ext.alloc ?_ (by with_reducible assumption) _; walk_at "x") | (with_reducible refine Ext.trans ?_ (by with_reducible assumption); walk_at "x"))
local macro_rules | `(tactic| walk_at "lk") => `(tactic| first | with_reducible exact look1 | ((with_reducible apply lookS); (with_unfolding_all decide); walk_at "lk"))
local macro_rules | `(tactic| walk_at "h1") => `(tactic| (first
  | with_reducible refine StepW.go ?_
  | with_reducible refine StepG.go ?_
  | with_reducible refine w_isTup ?_
  | ((with_reducible refine w_sz ?sz ?_); (case sz => size_fits))
  | ((with_reducible refine w_len ?sz ?_); (case sz => rfl))
  | ((with_reducible refine w_obj (by walk_at "m") ?ob2 ?_); (case ob2 => walk_at "ln"))
  | (with_reducible refine w_lenL (by walk_at "m") ?_) | (with_reducible refine w_seqL (by walk_at "m") ?_) | (with_reducible refine tup_list (by walk_at "m") ?_)
  | (with_reducible refine w_isLst (by walk_at "m") ?_) | (with_reducible refine w_slL (by walk_at "m") ?_)
  | ((with_reducible refine fld_ok (by walk_at "m") ?cl (by walk_at "lk") ?_); (case cl => walk_at "cl"))
  | (with_reducible refine w_lstL (by walk_at "m") ?_) | (with_reducible refine w_dic (by walk_at "m") ?_)
  ))
local macro_rules | `(tactic| walk_at "g1") => `(tactic| first | walk_at "h1" | with_reducible refine StepP.go ?_)
local macro_rules | `(tactic| walk_at "h") => `(tactic| ((repeat walk_at "h1"); try (with_reducible conv => whnf)))
local macro_rules | `(tactic| walk_at "g") => `(tactic| ((repeat walk_at "g1"); try (with_reducible conv => whnf)))
local macro_rules | `(tactic| walk_at "ln") => `(tactic| first | exact look_none (ns := ["row", "signs", "dependent", "places", "taken"]) rfl (by decide) | exact look_none (ns := ["alphabet", "due", "its_left", "signs", "parting"]) rfl (by decide) | exact look_none (ns := ["alphabet", "its_lag", "parting"]) rfl (by decide))
local macro_rules | `(tactic| walk_at "cl") => `(tactic| first | exact CF.get (by with_reducible assumption) (by decide) | exact LF.row (by with_reducible assumption) | exact LF.signs (by with_reducible assumption) | exact LF.dependent (by with_reducible assumption) | exact LF.places (by with_reducible assumption) | exact LF.taken (by with_reducible assumption))
section
variable {K : Bd} {M M' : DM} {Q : DQ} {E : DX} {A : Alph} {row : List Str} {b c : Addr}
theorem s_law_by_swaps (g : GoodA A) {x y : List Str} (lx : x.length ≤ 1000) (ly : y.length ≤ 1000) (q : ∀ (r : Bool) M', (r = true ↔ Tq A x y) → Ext M M' → Q (.bl r) M') : sp__law_by_swaps K [aD A, Enc.d x, Enc.d y] M Q noX := by
  have hzx : x.length ≤ sizeLine := Nat.le_trans lx (by size_fits)
  have hzy : y.length ≤ sizeLine := Nat.le_trans ly (by size_fits)
  refine go__law_by_swaps ?_
  delta t__law_by_swaps
  walk_at "g"
  refine add_tup (by rw [List.length_map, List.length_map]; exact Nat.le_trans (show x.length + y.length ≤ 2000 by omega) (by size_fits)) ?_
  rw [← List.map_append]
  refine w_sortSet (r := x ++ y) (by rw [List.length_append]; omega) fun ys ny my lys p hp => ?_
  walk_at "g"
  refine for_inv (numD (ys.map .str)) (fun i σ' M1 => ∃ w1 w2 w3 : Option D, σ' = [some (aD A), some (Enc.d x), some (Enc.d y), some (.ref p), w1, w2, w3] ∧ Ext (put M p (.lst (ys.map .str))) M1 ∧ ∀ i' j a b, i' < i → i' ≤ j → ys[i']? = some a → ys[j]? = some b → okp A x y a b) (fun i σ' M1 h hi => itE_at (itL_is (by obtain ⟨_, _, _, _, e, _⟩ := h; exact e _ _ put_same) i)) ⟨_, _, _, rfl, .refl, fun i' j a b h => by omega⟩ ?_ ?_
  · rintro i d σ' M1 hd ⟨w1, w2, w3, rfl, e1, hok⟩ Kt kt
    obtain ⟨a, ha, rfl⟩ := numD_get' hd
    walk_at "g"
    intro p2 hp2
    walk_at "g"
    rw [cut_from, ← List.map_drop]
    refine for_inv ((ys.drop i).map .str) (fun k σ' M2 => ∃ w3 : Option D, σ' = [some (aD A), some (Enc.d x), some (Enc.d y), some (.ref p), some (.int (i : Nat)), some (.str a), w3] ∧ Ext (put M1 p2 (.lst ((ys.drop i).map .str))) M2 ∧ ∀ j b, j < k → ys[i + j]? = some b → okp A x y a b) (fun k σ' M2 h hi => itL_is (by obtain ⟨_, _, e, _⟩ := h; exact e _ _ put_same) k) ⟨_, rfl, .refl, fun j b h => by omega⟩ ?_ ?_
    · rintro k d2 σ2 M2 hd2 ⟨w4, rfl, e2, hok2⟩ Kt2 kt2
      rw [List.getElem?_map, List.getElem?_drop] at hd2
      cases hy : ys[i + k]? with
      | none => rw [hy] at hd2; cases hd2
      | some b =>
        rw [hy] at hd2; cases hd2
        have more : okp A x y a b → ∀ j b', j < k + 1 → ys[i + j]? = some b' → okp A x y a b' := fun h j b' hj e => by
          by_cases hjk : j = k
          · subst hjk; rw [hy] at e; cases e; exact h
          · exact hok2 j b' (by omega) e
        walk_at "g"
        refine s_law_is_free ?_
        cases hf : fr A a b
        · walk_at "g"
          refine s_law_cut hzx fun M3 e3 => ?_
          walk_at "g"
          refine s_law_cut hzy fun M4 e4 => ?_
          walk_at "g"
          refine ne_enc (α := List Str) (c := decide (Tr.cut a b x = Tr.cut a b y)) decide_eq_true_iff (by decide) ?_
          by_cases hc : Tr.cut a b x = Tr.cut a b y
          · rw [decide_eq_true hc]
            walk_at "g"
            exact kt2 _ _ ⟨_, rfl, (e2.trans e3).trans e4, more fun _ => hc⟩
          · rw [decide_eq_false hc]
            walk_at "g"
            refine q false _ ⟨(fun z => nomatch z), fun z => absurd (z a b hf) hc⟩ ?_
            exact ((((Ext.refl).alloc hp _).trans e1).trans (((Ext.refl).alloc hp2 _).trans e2)).trans (e3.trans e4)
        · walk_at "g"
          exact kt2 _ _ ⟨_, rfl, e2, more fun z => by rw [hf] at z; cases z⟩
    · rintro σ2 M2 ⟨w4, rfl, e2, hok2⟩
      walk_at "g"
      refine kt _ _ ⟨_, _, _, rfl, e1.trans (((Ext.refl).alloc hp2 _).trans e2), fun i' j a' b' h1 h2 h3 h4 => ?_⟩
      by_cases hi : i' = i
      · subst hi
        rw [ha] at h3; cases h3
        have hj : j - i' < ((ys.drop i').map D.str).length := by
          rw [List.length_map, List.length_drop]
          have := (List.getElem?_eq_some_iff.mp h4).1
          omega
        exact hok2 (j - i') b' hj (by rw [show i' + (j - i') = j from by omega]; exact h4)
      · exact hok i' j a' b' (by omega) h2 h3 h4
  · rintro σ' M1 ⟨w1, w2, w3, rfl, e1, hok⟩
    walk_at "g"
    refine q true _ ⟨fun _ => tq_of_okp g my fun a ha b hb => ?_, fun _ => rfl⟩ (((Ext.refl).alloc hp _).trans e1)
    obtain ⟨i, hi, rfl⟩ := List.mem_iff_getElem.mp ha
    obtain ⟨j, hj, rfl⟩ := List.mem_iff_getElem.mp hb
    rw [numD_length, List.length_map] at hok
    by_cases h : i ≤ j
    · exact hok i j _ _ hi h (List.getElem?_eq_getElem hi) (List.getElem?_eq_getElem hj)
    · exact okp_comm (hok j i _ _ hj (by omega) (List.getElem?_eq_getElem hj) (List.getElem?_eq_getElem hi))
end
end Dt

set_option Elab.async false
set_option autoImplicit false
set_option linter.all false
set_option maxRecDepth 100000
set_option maxHeartbeats 400000
namespace Dt
open PySem PySem.Spec PyProof.Rows L2 LamX RZ PySem.P
local macro_rules | `(tactic| walk_at "w1") => `(tactic| with_reducible refine StepW.go ?_)
local macro_rules | `(tactic| walk_at "w") => `(tactic| ((repeat walk_at "w1"); try (with_reducible conv => whnf)))
local macro_rules | `(tactic| walk_at "m") => `(tactic| first | with_reducible assumption | with_reducible exact put_same | (with_reducible apply Ext.get; (with_reducible assumption); walk_at "m") | (with_reducible apply Ext.get; (with_reducible apply Ext.new); (with_reducible assumption); walk_at "m"))
local macro_rules | `(tactic| walk_at "x") => `(tactic| first | with_reducible assumption | with_reducible exact Ext.refl | (with_reducible refine Ext.alloc ?_ (by with_reducible assumption) _; walk_at "x") | (with_reducible refine Ext.trans ?_ (by with_reducible assumption); walk_at "x"))
local macro_rules | `(tactic| walk_at "lk") => `(tactic| first | with_reducible exact look1 | ((with_reducible apply lookS); (with_unfolding_all decide); walk_at "lk"))
local macro_rules | `(tactic| walk_at "h1") => `(tactic| (first
  | with_reducible refine StepW.go ?_
  | with_reducible refine StepG.go ?_
  | with_reducible refine w_isTup ?_
  | ((with_reducible refine w_sz ?sz ?_); (case sz => size_fits))
  | ((with_reducible refine w_len ?sz ?_); (case sz => rfl))
  | ((with_reducible refine w_obj (by walk_at "m") ?ob2 ?_); (case ob2 => walk_at "ln"))
  | (with_reducible refine w_lenL (by walk_at "m") ?_) | (with_reducible refine w_seqL (by walk_at "m") ?_) | (with_reducible refine tup_list (by walk_at "m") ?_)
  | (with_reducible refine w_isLst (by walk_at "m") ?_) | (with_reducible refine w_slL (by walk_at "m") ?_)
  | ((with_reducible refine fld_ok (by walk_at "m") ?cl (by walk_at "lk") ?_); (case cl => walk_at "cl"))
  | (with_reducible refine w_lstL (by walk_at "m") ?_) | (with_reducible refine w_dic (by walk_at "m") ?_)
  ))
local macro_rules | `(tactic| walk_at "g1") => `(tactic| first | walk_at "h1" | with_reducible refine StepP.go ?_)
local macro_rules | `(tactic| walk_at "h") => `(tactic| ((repeat walk_at "h1"); try (with_reducible conv => whnf)))
local macro_rules | `(tactic| walk_at "g") => `(tactic| ((repeat walk_at "g1"); try (with_reducible conv => whnf)))
local macro_rules | `(tactic| walk_at "ln") => `(tactic| first | exact look_none (ns := ["row", "signs", "dependent", "places", "taken"]) rfl (by decide) | exact look_none (ns := ["alphabet", "due", "its_left", "signs", "parting"]) rfl (by decide) | exact look_none (ns := ["alphabet", "its_lag", "parting"]) rfl (by decide))
local macro_rules | `(tactic| walk_at "cl") => `(tactic| first | exact CF.get (by with_reducible assumption) (by decide) | exact LF.row (by with_reducible assumption) | exact LF.signs (by with_reducible assumption) | exact LF.dependent (by with_reducible assumption) | exact LF.places (by with_reducible assumption) | exact LF.taken (by with_reducible assumption))
section
variable {K : Bd} {M M' : DM} {Q : DQ} {E : DX} {A : Alph} {row : List Str} {b c : Addr}
theorem s_law_lag_of (g : GoodA A) {x y : List Str} (hlx : x.length ≤ 5000) (hly : y.length ≤ 5000) (hx : InA A x) (hy : InA A y) (q : ∀ M', Ext M M' → Q (Enc.d (lagL A x y)) M') : sp__law_lag_of K [aD A, Enc.d x, Enc.d y] M Q noX := by
  refine go__law_lag_of ?_
  delta t__law_lag_of
  walk_at "g"
  refine s_law_lag g hlx hly hx hy fun M1 e1 => ?_
  walk_at "g"
  exact q _ e1
theorem ext_put {M1 : DM} {p : Addr} {o : DO} (e : Ext M M1) (hp : M p = none) : Ext M (put M1 p o) := fun a u h => by
  rw [put_ne (fun z => by rw [z, hp] at h; cases h)]
  exact e a u h
theorem s_law_couples {l : Addr} {rs : List (List Str)} (hl : rs.length ≤ 100) (el : M l = some (.lst (rs.map Enc.d))) (q : ∀ M' p, Ext M M' → M' p = some (.lst ((rs.flatMap fun r => rs.map fun s => (r, s)).map Enc.d)) → Q (.ref p) M') : sp__law_couples K [.ref l] M Q noX := by
  refine go__law_couples ?_
  delta t__law_couples
  walk_at "g"
  intro p hp
  walk_at "g"
  refine for_inv (rs.map Enc.d) (fun i σ' M1 => ∃ w1 : Option D, σ' = [some (.ref l), some (.ref p), w1, none] ∧ Ext M M1 ∧ M1 p = some (.lst (((rs.take i).flatMap fun r => rs.map fun s => (r, s)).map Enc.d)) ∧ ((rs.take i).flatMap fun r => rs.map fun s => (r, s)).length ≤ i * 100) (fun i σ' M1 h hi => itL_is (by obtain ⟨_, _, e, _⟩ := h; exact e _ _ el) i) ⟨_, rfl, (Ext.refl).alloc hp _, put_same, Nat.zero_le _⟩ ?_ ?_
  · rintro i d σ' M1 hd ⟨w1, rfl, e1, ep, hlen⟩ Kt kt
    rw [List.getElem?_map] at hd
    cases hx : rs[i]? with
    | none => rw [hx] at hd; cases hd
    | some r =>
      rw [hx] at hd; cases hd
      have hi : i < rs.length := (List.getElem?_eq_some_iff.mp hx).1
      walk_at "g"
      refine lc_pure rs Enc.d (fun _ => true) (fun s => Enc.d (r, s)) (fun k M2 e2 _ => itL_is (e2 _ _ (e1 _ _ el)) k) (Nat.le_trans hl (by size_fits)) ?_ ?_
      · intro k y M2 hy e2 KT KF kt2 kf
        walk_at "g"
        exact kt2 rfl _ e2
      · intro M2 p2 e2 hp2
        have hf : rs.filter (fun _ => true) = rs := List.filter_eq_self.mpr fun _ _ => rfl
        rw [hf]
        have ep2 := e2 _ _ ep
        have hne : p ≠ p2 := fun e => by rw [← e, ep2] at hp2; cases hp2
        have hi2 : i * 100 ≤ 99 * 100 := Nat.mul_le_mul_right _ (by omega)
        walk_at "g"
        refine ⟨p, _, _, rfl, by rw [put_ne hne]; exact ep2, put_same, ?_, ?_⟩
        · rw [List.length_map, List.length_map]
          exact Nat.le_trans (show _ ≤ 20000 by omega) (by size_fits)
        · refine kt _ _ ⟨_, rfl, ext_put ((e1.trans e2).alloc hp2 _) hp, ?_, ?_⟩
          · rw [put_same, take_succ_get hx, List.flatMap_append, List.map_append]
            simp
          · rw [take_succ_get hx, List.flatMap_append, List.length_append]
            simp only [List.flatMap_cons, List.flatMap_nil, List.append_nil, List.length_map]
            omega
  · rintro σ' M1 ⟨w1, rfl, e1, ep, _⟩
    walk_at "g"
    rw [List.length_map, List.take_length] at ep
    exact q _ _ e1 ep
end
end Dt

set_option Elab.async false
set_option autoImplicit false
set_option linter.all false
set_option maxRecDepth 100000
set_option maxHeartbeats 400000
namespace Dt
open PySem PySem.Spec PyProof.Rows L2 LamX RZ PySem.P
local macro_rules | `(tactic| walk_at "w1") => `(tactic| with_reducible refine StepW.go ?_)
local macro_rules | `(tactic| walk_at "w") => `(tactic| ((repeat walk_at "w1"); try (with_reducible conv => whnf)))
local macro_rules | `(tactic| walk_at "m") => `(tactic| first | with_reducible assumption | with_reducible exact put_same | (with_reducible apply Ext.get; (with_reducible assumption); walk_at "m") | (with_reducible apply Ext.get; (with_reducible apply Ext.new); (with_reducible assumption); walk_at "m"))
local macro_rules | `(tactic| walk_at "x") => `(tactic| first | with_reducible assumption | with_reducible exact Ext.refl | (with_reducible refine Ext.alloc ?_ (by with_reducible assumption) _; walk_at "x") | (with_reducible refine Ext.trans ?_ (by with_reducible assumption); walk_at "x"))
local macro_rules | `(tactic| walk_at "lk") => `(tactic| first | with_reducible exact look1 | ((with_reducible apply lookS); (with_unfolding_all decide); walk_at "lk"))
local macro_rules | `(tactic| walk_at "h1") => `(tactic| (first
  | with_reducible refine StepW.go ?_
  | with_reducible refine StepG.go ?_
  | with_reducible refine w_isTup ?_
  | ((with_reducible refine w_sz ?sz ?_); (case sz => size_fits))
  | ((with_reducible refine w_len ?sz ?_); (case sz => rfl))
  | ((with_reducible refine w_obj (by walk_at "m") ?ob2 ?_); (case ob2 => walk_at "ln"))
  | (with_reducible refine w_lenL (by walk_at "m") ?_) | (with_reducible refine w_seqL (by walk_at "m") ?_) | (with_reducible refine tup_list (by walk_at "m") ?_)
  | (with_reducible refine w_isLst (by walk_at "m") ?_) | (with_reducible refine w_slL (by walk_at "m") ?_)
  | ((with_reducible refine fld_ok (by walk_at "m") ?cl (by walk_at "lk") ?_); (case cl => walk_at "cl"))
  | (with_reducible refine w_lstL (by walk_at "m") ?_) | (with_reducible refine w_dic (by walk_at "m") ?_)
  ))
local macro_rules | `(tactic| walk_at "g1") => `(tactic| first | walk_at "h1" | with_reducible refine StepP.go ?_)
local macro_rules | `(tactic| walk_at "h") => `(tactic| ((repeat walk_at "h1"); try (with_reducible conv => whnf)))
local macro_rules | `(tactic| walk_at "g") => `(tactic| ((repeat walk_at "g1"); try (with_reducible conv => whnf)))
local macro_rules | `(tactic| walk_at "ln") => `(tactic| first | exact look_none (ns := ["row", "signs", "dependent", "places", "taken"]) rfl (by decide) | exact look_none (ns := ["alphabet", "due", "its_left", "signs", "parting"]) rfl (by decide) | exact look_none (ns := ["alphabet", "its_lag", "parting"]) rfl (by decide))
local macro_rules | `(tactic| walk_at "cl") => `(tactic| first | exact CF.get (by with_reducible assumption) (by decide) | exact LF.row (by with_reducible assumption) | exact LF.signs (by with_reducible assumption) | exact LF.dependent (by with_reducible assumption) | exact LF.places (by with_reducible assumption) | exact LF.taken (by with_reducible assumption))
section
variable {K : Bd} {M M' : DM} {Q : DQ} {E : DX} {A : Alph} {row : List Str} {b c : Addr}
def diffL (A : Alph) (x y : List Str) : List (Str × Int) := (A.signs.filter fun s => decide (x.count s ≠ y.count s)).map fun s => (s, (x.count s : Int) - (y.count s : Int))
theorem numD_str (xs : List Str) : numD (xs.map .str) = xs.zipIdx.map fun p => D.pair [.int (p.2 : Nat), .str p.1] := by
  unfold numD
  rw [List.zipIdx_map, List.map_map]
  rfl
theorem filter_zip {p : Str → Bool} : ∀ (xs : List Str) (k : Nat), ((xs.zipIdx k).filter fun z => p z.1).map (·.1) = xs.filter p
  | [], _ => rfl
  | x :: xs, k => by
    rw [List.zipIdx_cons, List.filter_cons, List.filter_cons]
    cases h : p x
    · simpa using filter_zip xs (k + 1)
    · simp [filter_zip xs (k + 1)]
theorem s_difference (hl : A.signs.length ≤ 10000) {x y : List Str} (q : ∀ M', Ext M M' → Q (.tup ((diffL A x y).map fun p => .tup [.str p.1, .int p.2])) M') : sp_difference K [aD A, Enc.d x, Enc.d y] M Q noX := by
  refine go_difference ?_
  delta t_difference
  walk_at "g"
  refine s_counts hl fun M1 e1 => ?_
  walk_at "g"
  refine s_counts hl fun M2 e2 => ?_
  walk_at "g"
  refine ix_tup (n := 0) rfl ?_
  walk_at "g"
  refine lc_pure A.signs.zipIdx (fun p => D.pair [.int (p.2 : Nat), .str p.1]) (fun p => decide (x.count p.1 ≠ y.count p.1)) (fun p => .tup [.str p.1, .int ((x.count p.1 : Int) - (y.count p.1 : Int))]) (fun i M2 e2 _ => by rw [← numD_str]; exact itE_at rfl) (by rw [List.length_zipIdx]; exact Nat.le_trans hl (by size_fits)) ?_ ?_
  · rintro i ⟨s, k⟩ M3 hx e3 KT KF kt kf
    rw [List.getElem?_zipIdx] at hx
    cases hs : A.signs[i]? with
    | none => rw [hs] at hx; cases hx
    | some s' =>
      rw [hs] at hx
      cases hx
      have g1 : (A.signs.map fun s => D.int ((x.count s : Nat) : Int))[i]? = some (.int ((x.count s : Nat) : Int)) := by rw [List.getElem?_map, hs]; rfl
      have g2 : (A.signs.map fun s => D.int ((y.count s : Nat) : Int))[i]? = some (.int ((y.count s : Nat) : Int)) := by rw [List.getElem?_map, hs]; rfl
      walk_at "g"
      refine ix_tup (n := 0 + i) (by rw [Nat.zero_add]; exact g1) ?_
      walk_at "g"
      refine ix_tup (n := 0 + i) (by rw [Nat.zero_add]; exact g2) ?_
      walk_at "g"
      by_cases hc : ((x.count s : Nat) : Int) = ((y.count s : Nat) : Int)
      · rw [decide_eq_true hc]
        walk_at "g"
        exact kf (by simp [Int.ofNat_inj.mp hc]) _ e3
      · rw [decide_eq_false hc]
        walk_at "g"
        refine ix_tup (n := 0 + i) (by rw [Nat.zero_add]; exact g1) ?_
        walk_at "g"
        refine ix_tup (n := 0 + i) (by rw [Nat.zero_add]; exact g2) ?_
        walk_at "g"
        exact kt (by simpa using fun z => hc (by rw [z])) _ e3
  · intro M3 p e3 hp
    walk_at "g"
    have e : ((A.signs.zipIdx.filter fun p => decide (x.count p.1 ≠ y.count p.1)).map fun p => D.tup [.str p.1, .int ((x.count p.1 : Int) - (y.count p.1 : Int))]) = (diffL A x y).map fun p => .tup [.str p.1, .int p.2] := by
      unfold diffL
      rw [List.map_map, ← filter_zip A.signs 0, List.map_map]
      rfl
    rw [e]
    exact q _ (((e1.trans e2).trans e3).alloc hp _)
end
end Dt

set_option Elab.async false
set_option autoImplicit false
set_option linter.all false
set_option maxRecDepth 100000
set_option maxHeartbeats 400000
namespace Dt
open PySem PySem.Spec PyProof.Rows L2 LamX RZ PySem.P
local macro_rules | `(tactic| walk_at "w1") => `(tactic| with_reducible refine StepW.go ?_)
local macro_rules | `(tactic| walk_at "w") => `(tactic| ((repeat walk_at "w1"); try (with_reducible conv => whnf)))
local macro_rules | `(tactic| walk_at "m") => `(tactic| first | with_reducible assumption | with_reducible exact put_same | (with_reducible apply Ext.get; (with_reducible assumption); walk_at "m") | (with_reducible apply Ext.get; (with_reducible apply Ext.new); (with_reducible assumption); walk_at "m"))
local macro_rules | `(tactic| walk_at "x") => `(tactic| first | with_reducible assumption | with_reducible exact Ext.refl | (with_reducible refine Ext.alloc ?_ (by with_reducible assumption) _; walk_at "x") | (with_reducible refine Ext.trans ?_ (by with_reducible assumption); walk_at "x"))
local macro_rules | `(tactic| walk_at "lk") => `(tactic| first | with_reducible exact look1 | ((with_reducible apply lookS); (with_unfolding_all decide); walk_at "lk"))
local macro_rules | `(tactic| walk_at "h1") => `(tactic| (first
  | with_reducible refine StepW.go ?_
  | with_reducible refine StepG.go ?_
  | with_reducible refine w_isTup ?_
  | ((with_reducible refine w_sz ?sz ?_); (case sz => size_fits))
  | ((with_reducible refine w_len ?sz ?_); (case sz => rfl))
  | ((with_reducible refine w_obj (by walk_at "m") ?ob2 ?_); (case ob2 => walk_at "ln"))
  | (with_reducible refine w_lenL (by walk_at "m") ?_) | (with_reducible refine w_seqL (by walk_at "m") ?_) | (with_reducible refine tup_list (by walk_at "m") ?_)
  | (with_reducible refine w_isLst (by walk_at "m") ?_) | (with_reducible refine w_slL (by walk_at "m") ?_)
  | ((with_reducible refine fld_ok (by walk_at "m") ?cl (by walk_at "lk") ?_); (case cl => walk_at "cl"))
  | (with_reducible refine w_lstL (by walk_at "m") ?_) | (with_reducible refine w_dic (by walk_at "m") ?_)
  ))
local macro_rules | `(tactic| walk_at "g1") => `(tactic| first | walk_at "h1" | with_reducible refine StepP.go ?_)
local macro_rules | `(tactic| walk_at "h") => `(tactic| ((repeat walk_at "h1"); try (with_reducible conv => whnf)))
local macro_rules | `(tactic| walk_at "g") => `(tactic| ((repeat walk_at "g1"); try (with_reducible conv => whnf)))
local macro_rules | `(tactic| walk_at "ln") => `(tactic| first | exact look_none (ns := ["row", "signs", "dependent", "places", "taken"]) rfl (by decide) | exact look_none (ns := ["alphabet", "due", "its_left", "signs", "parting"]) rfl (by decide) | exact look_none (ns := ["alphabet", "its_lag", "parting"]) rfl (by decide))
local macro_rules | `(tactic| walk_at "cl") => `(tactic| first | exact CF.get (by with_reducible assumption) (by decide) | exact LF.row (by with_reducible assumption) | exact LF.signs (by with_reducible assumption) | exact LF.dependent (by with_reducible assumption) | exact LF.places (by with_reducible assumption) | exact LF.taken (by with_reducible assumption))
section
variable {K : Bd} {M M' : DM} {Q : DQ} {E : DX} {A : Alph} {row : List Str} {b c : Addr}
/-- is_row of a tuple of texts -/
theorem s_is_row {r : List Str} (hl : r.length ≤ 10000) (q : ∀ M', Ext M M' → Q (.bl (r.all fun s => decide (s ∈ A.signs))) M') : sp_is_row K [aD A, Enc.d r] M Q noX := by
  refine go_is_row ?_
  delta t_is_row
  walk_at "g"
  refine ⟨"tuple", true, rfl, rfl, ?_⟩
  walk_at "g"
  refine lc_pure r D.str (fun _ => true) (fun s => .bl (decide (s ∈ A.signs))) (fun i M2 e2 _ => itT_at _ i M2) (Nat.le_trans hl (by size_fits)) ?_ ?_
  · intro i x M2 hx e2 KT KF kt kf
    walk_at "g"
    refine ⟨"str", true, rfl, rfl, ?_⟩
    walk_at "g"
    refine ix_tup (n := 0) rfl ?_
    walk_at "g"
    refine mem_enc (α := Str) (xs := A.signs) (b := decide (x ∈ A.signs)) decide_eq_true_iff (by decide) ?_
    exact kt rfl _ e2
  · intro M2 p e2 hp
    walk_at "g"
    have hf : r.filter (fun _ => true) = r := List.filter_eq_self.mpr fun _ _ => rfl
    rw [hf]
    refine w_all (bs := r.map fun s => decide (s ∈ A.signs)) (by rw [List.map_map]; exact put_same) ?_
    rw [List.all_map]
    exact q _ (e2.alloc hp _)
/-- .. of what is no tuple -/
theorem s_is_row_no {d : D} {U : String} (h : typD d M = some U) (h2 : isi_tuple U = some false) (q : Q (.bl false) M) : sp_is_row K [aD A, d] M Q noX := by
  refine go_is_row ?_
  delta t_is_row
  walk_at "g"
  refine ⟨U, false, h, h2, ?_⟩
  walk_at "g"
  exact q
end
end Dt

set_option Elab.async false
set_option autoImplicit false
set_option linter.all false
set_option maxRecDepth 100000
set_option maxHeartbeats 400000
namespace Dt
open PySem PySem.Spec PyProof.Rows L2 LamX RZ PySem.P
local macro_rules | `(tactic| walk_at "w1") => `(tactic| with_reducible refine StepW.go ?_)
local macro_rules | `(tactic| walk_at "w") => `(tactic| ((repeat walk_at "w1"); try (with_reducible conv => whnf)))
local macro_rules | `(tactic| walk_at "m") => `(tactic| first | with_reducible assumption | with_reducible exact put_same | (with_reducible apply Ext.get; (with_reducible assumption); walk_at "m") | (with_reducible apply Ext.get; (with_reducible apply Ext.new); (with_reducible assumption); walk_at "m"))
local macro_rules | `(tactic| walk_at "x") => `(tactic| first | with_reducible assumption | with_reducible exact Ext.refl | (with_reducible refine Ext.alloc ?_ (by with_reducible assumption) _; walk_at "x") | (with_reducible refine Ext.trans ?_ (by with_reducible assumption); walk_at "x"))
local macro_rules | `(tactic| walk_at "lk") => `(tactic| first | with_reducible exact look1 | ((with_reducible apply lookS); (with_unfolding_all decide); walk_at "lk"))
local macro_rules | `(tactic| walk_at "h1") => `(tactic| (first
  | with_reducible refine StepW.go ?_
  | with_reducible refine StepG.go ?_
  | with_reducible refine w_isTup ?_
  | ((with_reducible refine w_sz ?sz ?_); (case sz => size_fits))
  | ((with_reducible refine w_len ?sz ?_); (case sz => rfl))
  | ((with_reducible refine w_obj (by walk_at "m") ?ob2 ?_); (case ob2 => walk_at "ln"))
  | (with_reducible refine w_lenL (by walk_at "m") ?_) | (with_reducible refine w_seqL (by walk_at "m") ?_) | (with_reducible refine tup_list (by walk_at "m") ?_)
  | (with_reducible refine w_isLst (by walk_at "m") ?_) | (with_reducible refine w_slL (by walk_at "m") ?_)
  | ((with_reducible refine fld_ok (by walk_at "m") ?cl (by walk_at "lk") ?_); (case cl => walk_at "cl"))
  | (with_reducible refine w_lstL (by walk_at "m") ?_) | (with_reducible refine w_dic (by walk_at "m") ?_)
  ))
local macro_rules | `(tactic| walk_at "g1") => `(tactic| first | walk_at "h1" | with_reducible refine StepP.go ?_)
local macro_rules | `(tactic| walk_at "h") => `(tactic| ((repeat walk_at "h1"); try (with_reducible conv => whnf)))
local macro_rules | `(tactic| walk_at "g") => `(tactic| ((repeat walk_at "g1"); try (with_reducible conv => whnf)))
local macro_rules | `(tactic| walk_at "ln") => `(tactic| first | exact look_none (ns := ["row", "signs", "dependent", "places", "taken"]) rfl (by decide) | exact look_none (ns := ["alphabet", "due", "its_left", "signs", "parting"]) rfl (by decide) | exact look_none (ns := ["alphabet", "its_lag", "parting"]) rfl (by decide))
local macro_rules | `(tactic| walk_at "cl") => `(tactic| first | exact CF.get (by with_reducible assumption) (by decide) | exact LF.row (by with_reducible assumption) | exact LF.signs (by with_reducible assumption) | exact LF.dependent (by with_reducible assumption) | exact LF.places (by with_reducible assumption) | exact LF.taken (by with_reducible assumption))
section
variable {K : Bd} {M M' : DM} {Q : DQ} {E : DX} {A : Alph} {row : List Str} {b c : Addr}
/-- is_row of (0,) -/
theorem s_is_row_int {i : Int} (q : ∀ M', Ext M M' → Q (.bl false) M') : sp_is_row K [aD A, .tup [.int i]] M Q noX := by
  refine go_is_row ?_
  delta t_is_row
  walk_at "g"
  refine ⟨"tuple", true, rfl, rfl, ?_⟩
  walk_at "g"
  refine lc_pure [i] D.int (fun _ => true) (fun _ => .bl false) (fun i M2 e2 _ => itT_at _ i M2) (by size_fits) ?_ ?_
  · intro k x M2 hx e2 KT KF kt kf
    walk_at "g"
    refine ⟨"int", false, rfl, rfl, ?_⟩
    walk_at "g"
    exact kt rfl _ e2
  · intro M2 p e2 hp
    walk_at "g"
    refine w_all (bs := [false]) put_same ?_
    exact q _ (e2.alloc hp _)
theorem s_law_is_normal_row (g : GoodA A) {r : List Str} (hl : r.length ≤ 5000) (q : ∀ M', Ext M M' → Q (.bl ((r.all fun s => decide (s ∈ A.signs)) && decide (nf A r = r))) M') : sp__law_is_normal_row K [aD A, Enc.d r] M Q noX := by
  refine go__law_is_normal_row ?_
  delta t__law_is_normal_row
  walk_at "g"
  refine ⟨"tuple", true, rfl, rfl, ?_⟩
  walk_at "g"
  refine lc_pure r D.str (fun s => !decide (s ∈ A.signs)) D.str (fun i M2 e2 _ => itT_at _ i M2) (Nat.le_trans hl (by size_fits)) ?_ ?_
  · intro i x M2 hx e2 KT KF kt kf
    walk_at "g"
    refine ⟨"str", true, rfl, rfl, ?_⟩
    walk_at "g"
    refine ix_tup (n := 0) rfl ?_
    walk_at "g"
    refine nmem_enc (α := Str) (xs := A.signs) (b := decide (x ∈ A.signs)) decide_eq_true_iff (by decide) ?_
    cases h : decide (x ∈ A.signs)
    · walk_at "g"
      exact kt (by rw [h]; rfl) _ e2
    · walk_at "g"
      exact kf (by rw [h]; rfl) _ e2
  · intro M2 p e2 hp
    walk_at "g"
    intro p2 hp2
    have hne : p ≠ p2 := fun e => by rw [← e, put_same] at hp2; cases hp2
    refine ne_encL (α := Str) (xs := r.filter fun s => !decide (s ∈ A.signs)) (ys := []) (c := r.all fun s => decide (s ∈ A.signs)) (by rw [put_ne hne]; exact put_same) put_same ?_ (by decide) ?_
    · rw [List.filter_eq_nil_iff, List.all_eq_true]
      simp
    · have ex : Ext M (put (put M2 p (.lst ((r.filter fun s => !decide (s ∈ A.signs)).map D.str))) p2 (.lst [])) := (e2.alloc hp _).alloc hp2 _
      cases h : r.all fun s => decide (s ∈ A.signs)
      · rw [h] at q
        walk_at "g"
        exact q _ ex
      · have hin : InA A r := fun s hs => of_decide_eq_true (List.all_eq_true.mp h s hs)
        rw [h] at q
        walk_at "g"
        refine s_law_normal g (Nat.le_trans hl (by decide)) hin fun M3 e3 => ?_
        walk_at "g"
        exact eq_enc (α := List Str) (c := decide (nf A r = r)) decide_eq_true_iff (by decide) (q _ (ex.trans e3))
end
end Dt

set_option Elab.async false
set_option autoImplicit false
set_option linter.all false
set_option maxRecDepth 100000
set_option maxHeartbeats 400000
namespace Dt
open PySem PySem.Spec PyProof.Rows L2 LamX RZ PySem.P
local macro_rules | `(tactic| walk_at "w1") => `(tactic| with_reducible refine StepW.go ?_)
local macro_rules | `(tactic| walk_at "w") => `(tactic| ((repeat walk_at "w1"); try (with_reducible conv => whnf)))
local macro_rules | `(tactic| walk_at "m") => `(tactic| first | with_reducible assumption | with_reducible exact put_same | (with_reducible apply Ext.get; (with_reducible assumption); walk_at "m") | (with_reducible apply Ext.get; (with_reducible apply Ext.new); (with_reducible assumption); walk_at "m"))
local macro_rules | `(tactic| walk_at "x") => `(tactic| first | with_reducible assumption | with_reducible exact Ext.refl | (with_reducible refine Ext.alloc ?_ (by with_reducible assumption) _; walk_at "x") | (with_reducible refine Ext.trans ?_ (by with_reducible assumption); walk_at "x"))
local macro_rules | `(tactic| walk_at "lk") => `(tactic| first | with_reducible exact look1 | ((with_reducible apply lookS); (with_unfolding_all decide); walk_at "lk"))
local macro_rules | `(tactic| walk_at "h1") => `(tactic| (first
  | with_reducible refine StepW.go ?_
  | with_reducible refine StepG.go ?_
  | with_reducible refine w_isTup ?_
  | ((with_reducible refine w_sz ?sz ?_); (case sz => size_fits))
  | ((with_reducible refine w_len ?sz ?_); (case sz => rfl))
  | ((with_reducible refine w_obj (by walk_at "m") ?ob2 ?_); (case ob2 => walk_at "ln"))
  | (with_reducible refine w_lenL (by walk_at "m") ?_) | (with_reducible refine w_seqL (by walk_at "m") ?_) | (with_reducible refine tup_list (by walk_at "m") ?_)
  | (with_reducible refine w_isLst (by walk_at "m") ?_) | (with_reducible refine w_slL (by walk_at "m") ?_)
  | ((with_reducible refine fld_ok (by walk_at "m") ?cl (by walk_at "lk") ?_); (case cl => walk_at "cl"))
  | (with_reducible refine w_lstL (by walk_at "m") ?_) | (with_reducible refine w_dic (by walk_at "m") ?_)
  ))
local macro_rules | `(tactic| walk_at "g1") => `(tactic| first | walk_at "h1" | with_reducible refine StepP.go ?_)
local macro_rules | `(tactic| walk_at "h") => `(tactic| ((repeat walk_at "h1"); try (with_reducible conv => whnf)))
local macro_rules | `(tactic| walk_at "g") => `(tactic| ((repeat walk_at "g1"); try (with_reducible conv => whnf)))
local macro_rules | `(tactic| walk_at "ln") => `(tactic| first | exact look_none (ns := ["row", "signs", "dependent", "places", "taken"]) rfl (by decide) | exact look_none (ns := ["alphabet", "due", "its_left", "signs", "parting"]) rfl (by decide) | exact look_none (ns := ["alphabet", "its_lag", "parting"]) rfl (by decide))
local macro_rules | `(tactic| walk_at "cl") => `(tactic| first | exact CF.get (by with_reducible assumption) (by decide) | exact LF.row (by with_reducible assumption) | exact LF.signs (by with_reducible assumption) | exact LF.dependent (by with_reducible assumption) | exact LF.places (by with_reducible assumption) | exact LF.taken (by with_reducible assumption))
section
variable {K : Bd} {M M' : DM} {Q : DQ} {E : DX} {A : Alph} {row : List Str} {b c : Addr}
def inB (A : Alph) (r : List Str) : Bool := r.all fun s => decide (s ∈ A.signs)
theorem inB_iff {r : List Str} : inB A r = true ↔ InA A r := by
  unfold inB InA
  simp [List.all_eq_true]
def lagB (A : Alph) (u v : List Str) : Bool := (inB A u && decide (nf A u = u)) && (inB A v && decide (nf A v = v)) && decide ((cm A u v).1 = [])
theorem s_is_lag (F : LF K) (g : GoodA A) {u v : List Str} (lu : u.length ≤ 5000) (lv : v.length ≤ 5000) (q : ∀ M', Ext M M' → Q (.bl (lagB A u v)) M') : sp_is_lag K [aD A, Enc.d (u, v)] M Q noX := by
  refine go_is_lag ?_
  delta t_is_lag
  walk_at "g"
  refine ⟨"tuple", true, rfl, rfl, ?_⟩
  walk_at "g"
  refine w_lenT (xs := [Enc.d u, Enc.d v]) ?_
  walk_at "g"
  refine lc_pure [u, v] Enc.d (fun _ => true) (fun r => .bl (inB A r)) (fun i M2 e2 _ => itT_at _ i M2) (by size_fits) ?_ ?_
  · intro i x M2 hx e2 KT KF kt kf
    have hx2 : x.length ≤ 10000 := by
      have := List.mem_of_getElem? hx
      simp only [List.mem_cons, List.not_mem_nil, or_false] at this
      rcases this with rfl | rfl <;> omega
    walk_at "g"
    refine s_is_row hx2 fun M3 e3 => ?_
    exact kt rfl _ (e2.trans e3)
  · intro M2 p e2 hp
    walk_at "g"
    refine w_all (bs := [inB A u, inB A v]) put_same ?_
    have ex := e2.alloc hp (.lst ([inB A u, inB A v].map D.bl))
    cases h : inB A u && inB A v
    · have z : lagB A u v = false := by
        unfold lagB
        cases h1 : inB A u <;> cases h2 : inB A v <;> rw [h1, h2] at h <;> simp at h ⊢
      rw [z] at q
      have h' : [inB A u, inB A v].all id = false := by simpa using h
      rw [h']
      walk_at "g"
      exact q _ ex
    · have h' : [inB A u, inB A v].all id = true := by simpa using h
      rw [h']
      obtain ⟨h1, h2⟩ := Bool.and_eq_true_iff.mp h
      have hu := inB_iff.mp h1
      have hv := inB_iff.mp h2
      walk_at "g"
      refine lc_pure [u, v] Enc.d (fun _ => true) (fun r => .bl (decide (nf A r = r))) (fun i M2 e2 _ => itT_at _ i M2) (by size_fits) ?_ ?_
      · intro i x M3 hx e3 KT KF kt kf
        have hx2 : x.length ≤ 10000 ∧ InA A x := by
          have := List.mem_of_getElem? hx
          simp only [List.mem_cons, List.not_mem_nil, or_false] at this
          rcases this with rfl | rfl
          · exact ⟨by omega, hu⟩
          · exact ⟨by omega, hv⟩
        walk_at "g"
        refine s_normal F g hx2.1 hx2.2 fun M4 e4 => ?_
        walk_at "g"
        exact eq_enc (α := List Str) (c := decide (nf A x = x)) decide_eq_true_iff (by decide) (kt rfl _ (e3.trans e4))
      · intro M3 p3 e3 hp3
        walk_at "g"
        refine w_all (bs := [decide (nf A u = u), decide (nf A v = v)]) put_same ?_
        have ex3 := (ex.trans e3).alloc hp3 (.lst ([decide (nf A u = u), decide (nf A v = v)].map D.bl))
        cases h3 : decide (nf A u = u) && decide (nf A v = v)
        · have z : lagB A u v = false := by
            unfold lagB
            cases h4 : decide (nf A u = u) <;> cases h5 : decide (nf A v = v) <;> rw [h4, h5] at h3 <;> simp at h3 ⊢
          rw [z] at q
          have h' : [decide (nf A u = u), decide (nf A v = v)].all id = false := by simpa using h3
          rw [h']
          walk_at "g"
          exact q _ ex3
        · have h' : [decide (nf A u = u), decide (nf A v = v)].all id = true := by simpa using h3
          rw [h']
          obtain ⟨h4, h5⟩ := Bool.and_eq_true_iff.mp h3
          have z : lagB A u v = decide ((cm A u v).1 = []) := by unfold lagB; rw [h1, h2, h4, h5]; rfl
          rw [z] at q
          walk_at "g"
          refine ix_tup (n := 0) rfl ?_
          walk_at "g"
          refine ix_tup (n := 1) rfl ?_
          walk_at "g"
          refine s_common F g (Nat.le_trans lu (by decide)) (Nat.le_trans lv (by decide)) hu hv fun M4 e4 => ?_
          walk_at "g"
          refine eq_enc (α := List Str) (b := []) (c := decide ((cm A u v).1 = [])) ?_ (by decide) (q _ (ex3.trans e4))
          rw [decide_eq_true_iff]
          exact (nf_nil_iff ((cm_ok (y := v) g hu).in1 g hu).1).symm
end
end Dt

set_option Elab.async false
set_option autoImplicit false
set_option linter.all false
set_option maxRecDepth 100000
set_option maxHeartbeats 400000
namespace Dt
open PySem PySem.Spec PyProof.Rows L2 LamX RZ PySem.P
local macro_rules | `(tactic| walk_at "w1") => `(tactic| with_reducible refine StepW.go ?_)
local macro_rules | `(tactic| walk_at "w") => `(tactic| ((repeat walk_at "w1"); try (with_reducible conv => whnf)))
local macro_rules | `(tactic| walk_at "m") => `(tactic| first | with_reducible assumption | with_reducible exact put_same | (with_reducible apply Ext.get; (with_reducible assumption); walk_at "m") | (with_reducible apply Ext.get; (with_reducible apply Ext.new); (with_reducible assumption); walk_at "m"))
local macro_rules | `(tactic| walk_at "x") => `(tactic| first | with_reducible assumption | with_reducible exact Ext.refl | (with_reducible refine Ext.alloc ?_ (by with_reducible assumption) _; walk_at "x") | (with_reducible refine Ext.trans ?_ (by with_reducible assumption); walk_at "x"))
local macro_rules | `(tactic| walk_at "lk") => `(tactic| first | with_reducible exact look1 | ((with_reducible apply lookS); (with_unfolding_all decide); walk_at "lk"))
local macro_rules | `(tactic| walk_at "h1") => `(tactic| (first
  | with_reducible refine StepW.go ?_
  | with_reducible refine StepG.go ?_
  | with_reducible refine w_isTup ?_
  | ((with_reducible refine w_sz ?sz ?_); (case sz => size_fits))
  | ((with_reducible refine w_len ?sz ?_); (case sz => rfl))
  | ((with_reducible refine w_obj (by walk_at "m") ?ob2 ?_); (case ob2 => walk_at "ln"))
  | (with_reducible refine w_lenL (by walk_at "m") ?_) | (with_reducible refine w_seqL (by walk_at "m") ?_) | (with_reducible refine tup_list (by walk_at "m") ?_)
  | (with_reducible refine w_isLst (by walk_at "m") ?_) | (with_reducible refine w_slL (by walk_at "m") ?_)
  | ((with_reducible refine fld_ok (by walk_at "m") ?cl (by walk_at "lk") ?_); (case cl => walk_at "cl"))
  | (with_reducible refine w_lstL (by walk_at "m") ?_) | (with_reducible refine w_dic (by walk_at "m") ?_)
  ))
local macro_rules | `(tactic| walk_at "g1") => `(tactic| first | walk_at "h1" | with_reducible refine StepP.go ?_)
local macro_rules | `(tactic| walk_at "h") => `(tactic| ((repeat walk_at "h1"); try (with_reducible conv => whnf)))
local macro_rules | `(tactic| walk_at "g") => `(tactic| ((repeat walk_at "g1"); try (with_reducible conv => whnf)))
local macro_rules | `(tactic| walk_at "ln") => `(tactic| first | exact look_none (ns := ["row", "signs", "dependent", "places", "taken"]) rfl (by decide) | exact look_none (ns := ["alphabet", "due", "its_left", "signs", "parting"]) rfl (by decide) | exact look_none (ns := ["alphabet", "its_lag", "parting"]) rfl (by decide))
local macro_rules | `(tactic| walk_at "cl") => `(tactic| first | exact CF.get (by with_reducible assumption) (by decide) | exact LF.row (by with_reducible assumption) | exact LF.signs (by with_reducible assumption) | exact LF.dependent (by with_reducible assumption) | exact LF.places (by with_reducible assumption) | exact LF.taken (by with_reducible assumption))
section
variable {K : Bd} {M M' : DM} {Q : DQ} {E : DX} {A : Alph} {row : List Str} {b c : Addr}
theorem s_law_is_lag (g : GoodA A) {u v : List Str} (lu : u.length ≤ 5000) (lv : v.length ≤ 5000) (q : ∀ M', Ext M M' → Q (.bl (lagB A u v)) M') : sp__law_is_lag K [aD A, Enc.d (u, v)] M Q noX := by
  refine go__law_is_lag ?_
  delta t__law_is_lag
  walk_at "g"
  refine ⟨"tuple", true, rfl, rfl, ?_⟩
  walk_at "g"
  refine w_lenT (xs := [Enc.d u, Enc.d v]) ?_
  walk_at "g"
  refine ix_tup (n := 0) rfl ?_
  walk_at "g"
  refine s_law_is_normal_row g lu fun M1 e1 => ?_
  have e0 : (u.all fun s => decide (s ∈ A.signs)) = inB A u := rfl
  have e0v : (v.all fun s => decide (s ∈ A.signs)) = inB A v := rfl
  rw [e0]
  cases h : inB A u && decide (nf A u = u)
  · have z : lagB A u v = false := by unfold lagB; rw [h]; rfl
    rw [z] at q
    walk_at "g"
    exact q _ e1
  · walk_at "g"
    refine ix_tup (n := 1) rfl ?_
    walk_at "g"
    refine s_law_is_normal_row g lv fun M2 e2 => ?_
    rw [e0v]
    cases h2 : inB A v && decide (nf A v = v)
    · have z : lagB A u v = false := by unfold lagB; rw [h, h2]; rfl
      rw [z] at q
      walk_at "g"
      exact q _ (e1.trans e2)
    · have z : lagB A u v = decide ((cm A u v).1 = []) := by unfold lagB; rw [h, h2]; rfl
      rw [z] at q
      have hu := inB_iff.mp (Bool.and_eq_true_iff.mp h).1
      have hv := inB_iff.mp (Bool.and_eq_true_iff.mp h2).1
      walk_at "g"
      refine ix_tup (n := 0) rfl ?_
      walk_at "g"
      refine ix_tup (n := 1) rfl ?_
      walk_at "g"
      refine s_law_lag g lu lv hu hv fun M3 e3 => ?_
      walk_at "g"
      refine ix_tup (n := 0) rfl ?_
      walk_at "g"
      refine eq_enc (α := List Str) (b := []) (c := decide ((cm A u v).1 = [])) ?_ (by decide) (q _ ((e1.trans e2).trans e3))
      rw [decide_eq_true_iff]
      exact (nf_nil_iff ((cm_ok (y := v) g hu).in1 g hu).1).symm
end
end Dt

set_option Elab.async false
set_option autoImplicit false
set_option linter.all false
set_option maxRecDepth 100000
set_option maxHeartbeats 400000
namespace Dt
open PySem PySem.Spec PyProof.Rows L2 LamX RZ PySem.P
local macro_rules | `(tactic| walk_at "w1") => `(tactic| with_reducible refine StepW.go ?_)
local macro_rules | `(tactic| walk_at "w") => `(tactic| ((repeat walk_at "w1"); try (with_reducible conv => whnf)))
local macro_rules | `(tactic| walk_at "m") => `(tactic| first | with_reducible assumption | with_reducible exact put_same | (with_reducible apply Ext.get; (with_reducible assumption); walk_at "m") | (with_reducible apply Ext.get; (with_reducible apply Ext.new); (with_reducible assumption); walk_at "m"))
local macro_rules | `(tactic| walk_at "x") => `(tactic| first | with_reducible assumption | with_reducible exact Ext.refl | (with_reducible refine Ext.alloc ?_ (by with_reducible assumption) _; walk_at "x") | (with_reducible refine Ext.trans ?_ (by with_reducible assumption); walk_at "x"))
local macro_rules | `(tactic| walk_at "lk") => `(tactic| first | with_reducible exact look1 | ((with_reducible apply lookS); (with_unfolding_all decide); walk_at "lk"))
local macro_rules | `(tactic| walk_at "h1") => `(tactic| (first
  | with_reducible refine StepW.go ?_
  | with_reducible refine StepG.go ?_
  | with_reducible refine w_isTup ?_
  | ((with_reducible refine w_sz ?sz ?_); (case sz => size_fits))
  | ((with_reducible refine w_len ?sz ?_); (case sz => rfl))
  | ((with_reducible refine w_obj (by walk_at "m") ?ob2 ?_); (case ob2 => walk_at "ln"))
  | (with_reducible refine w_lenL (by walk_at "m") ?_) | (with_reducible refine w_seqL (by walk_at "m") ?_) | (with_reducible refine tup_list (by walk_at "m") ?_)
  | (with_reducible refine w_isLst (by walk_at "m") ?_) | (with_reducible refine w_slL (by walk_at "m") ?_)
  | ((with_reducible refine fld_ok (by walk_at "m") ?cl (by walk_at "lk") ?_); (case cl => walk_at "cl"))
  | (with_reducible refine w_lstL (by walk_at "m") ?_) | (with_reducible refine w_dic (by walk_at "m") ?_)
  ))
local macro_rules | `(tactic| walk_at "g1") => `(tactic| first | walk_at "h1" | with_reducible refine StepP.go ?_)
local macro_rules | `(tactic| walk_at "h") => `(tactic| ((repeat walk_at "h1"); try (with_reducible conv => whnf)))
local macro_rules | `(tactic| walk_at "g") => `(tactic| ((repeat walk_at "g1"); try (with_reducible conv => whnf)))
local macro_rules | `(tactic| walk_at "ln") => `(tactic| first | exact look_none (ns := ["row", "signs", "dependent", "places", "taken"]) rfl (by decide) | exact look_none (ns := ["alphabet", "due", "its_left", "signs", "parting"]) rfl (by decide) | exact look_none (ns := ["alphabet", "its_lag", "parting"]) rfl (by decide))
local macro_rules | `(tactic| walk_at "cl") => `(tactic| first | exact CF.get (by with_reducible assumption) (by decide) | exact LF.row (by with_reducible assumption) | exact LF.signs (by with_reducible assumption) | exact LF.dependent (by with_reducible assumption) | exact LF.places (by with_reducible assumption) | exact LF.taken (by with_reducible assumption))
section
variable {K : Bd} {M M' : DM} {Q : DQ} {E : DX} {A : Alph} {row : List Str} {b c : Addr}
/-- what is no tuple is no lag -/
theorem s_is_lag_no {d : D} {U : String} (h : typD d M = some U) (h2 : isi_tuple U = some false) (q : Q (.bl false) M) : sp_is_lag K [aD A, d] M Q noX := by
  refine go_is_lag ?_
  delta t_is_lag
  walk_at "g"
  refine ⟨U, false, h, h2, ?_⟩
  walk_at "g"
  exact q
theorem s_law_is_lag_no {d : D} {U : String} (h : typD d M = some U) (h2 : isi_tuple U = some false) (q : Q (.bl false) M) : sp__law_is_lag K [aD A, d] M Q noX := by
  refine go__law_is_lag ?_
  delta t__law_is_lag
  walk_at "g"
  refine ⟨U, false, h, h2, ?_⟩
  walk_at "g"
  exact q
/-- a tuple of one -/
theorem s_is_lag_one {d : D} (q : Q (.bl false) M) : sp_is_lag K [aD A, .tup [d]] M Q noX := by
  refine go_is_lag ?_
  delta t_is_lag
  walk_at "g"
  refine ⟨"tuple", true, rfl, rfl, ?_⟩
  walk_at "g"
  exact q
theorem s_law_is_lag_one {d : D} (q : Q (.bl false) M) : sp__law_is_lag K [aD A, .tup [d]] M Q noX := by
  refine go__law_is_lag ?_
  delta t__law_is_lag
  walk_at "g"
  refine ⟨"tuple", true, rfl, rfl, ?_⟩
  walk_at "g"
  exact q
end
end Dt

set_option Elab.async false
set_option autoImplicit false
set_option linter.all false
set_option maxRecDepth 100000
set_option maxHeartbeats 400000
namespace Dt
open PySem PySem.Spec PyProof.Rows L2 LamX RZ PySem.P
local macro_rules | `(tactic| walk_at "w1") => `(tactic| with_reducible refine StepW.go ?_)
local macro_rules | `(tactic| walk_at "w") => `(tactic| ((repeat walk_at "w1"); try (with_reducible conv => whnf)))
local macro_rules | `(tactic| walk_at "m") => `(tactic| first | with_reducible assumption | with_reducible exact put_same | (with_reducible apply Ext.get; (with_reducible assumption); walk_at "m") | (with_reducible apply Ext.get; (with_reducible apply Ext.new); (with_reducible assumption); walk_at "m"))
local macro_rules | `(tactic| walk_at "x") => `(tactic| first | with_reducible assumption | with_reducible exact Ext.refl | (with_reducible refine Ext.alloc ?_ (by with_reducible assumption) _; walk_at "x") | (with_reducible refine Ext.trans ?_ (by with_reducible assumption); walk_at "x"))
local macro_rules | `(tactic| walk_at "lk") => `(tactic| first | with_reducible exact look1 | ((with_reducible apply lookS); (with_unfolding_all decide); walk_at "lk"))
local macro_rules | `(tactic| walk_at "h1") => `(tactic| (first
  | with_reducible refine StepW.go ?_
  | with_reducible refine StepG.go ?_
  | with_reducible refine w_isTup ?_
  | ((with_reducible refine w_sz ?sz ?_); (case sz => size_fits))
  | ((with_reducible refine w_len ?sz ?_); (case sz => rfl))
  | ((with_reducible refine w_obj (by walk_at "m") ?ob2 ?_); (case ob2 => walk_at "ln"))
  | (with_reducible refine w_lenL (by walk_at "m") ?_) | (with_reducible refine w_seqL (by walk_at "m") ?_) | (with_reducible refine tup_list (by walk_at "m") ?_)
  | (with_reducible refine w_isLst (by walk_at "m") ?_) | (with_reducible refine w_slL (by walk_at "m") ?_)
  | ((with_reducible refine fld_ok (by walk_at "m") ?cl (by walk_at "lk") ?_); (case cl => walk_at "cl"))
  | (with_reducible refine w_lstL (by walk_at "m") ?_) | (with_reducible refine w_dic (by walk_at "m") ?_)
  ))
local macro_rules | `(tactic| walk_at "g1") => `(tactic| first | walk_at "h1" | with_reducible refine StepP.go ?_)
local macro_rules | `(tactic| walk_at "h") => `(tactic| ((repeat walk_at "h1"); try (with_reducible conv => whnf)))
local macro_rules | `(tactic| walk_at "g") => `(tactic| ((repeat walk_at "g1"); try (with_reducible conv => whnf)))
local macro_rules | `(tactic| walk_at "ln") => `(tactic| first | exact look_none (ns := ["row", "signs", "dependent", "places", "taken"]) rfl (by decide) | exact look_none (ns := ["alphabet", "due", "its_left", "signs", "parting"]) rfl (by decide) | exact look_none (ns := ["alphabet", "its_lag", "parting"]) rfl (by decide))
local macro_rules | `(tactic| walk_at "cl") => `(tactic| first | exact CF.get (by with_reducible assumption) (by decide) | exact LF.row (by with_reducible assumption) | exact LF.signs (by with_reducible assumption) | exact LF.dependent (by with_reducible assumption) | exact LF.places (by with_reducible assumption) | exact LF.taken (by with_reducible assumption))
section
variable {K : Bd} {M M' : DM} {Q : DQ} {E : DX} {A : Alph} {row : List Str} {b c : Addr}
/-- how a part of a thing answers is_row -/
def RowSays (K : Bd) (A : Alph) (M : DM) (d : D) (r : Bool) : Prop := ∀ (M1 : DM) (Q : DQ), Ext M M1 → (∀ M2, Ext M1 M2 → Q (.bl r) M2) → sp_is_row K [aD A, d] M1 Q noX
theorem s_is_lag_two {d1 d2 : D} {r1 r2 : Bool} (h1 : RowSays K A M d1 r1) (h2 : RowSays K A M d2 r2) (h : (r1 && r2) = false) (q : ∀ M', Ext M M' → Q (.bl false) M') : sp_is_lag K [aD A, .tup [d1, d2]] M Q noX := by
  refine go_is_lag ?_
  delta t_is_lag
  walk_at "g"
  refine ⟨"tuple", true, rfl, rfl, ?_⟩
  walk_at "g"
  refine lc_pure [(d1, r1), (d2, r2)] (fun p => p.1) (fun _ => true) (fun p => .bl p.2) (fun i M2 e2 _ => itT_at _ i M2) (by size_fits) ?_ ?_
  · intro i x M2 hx e2 KT KF kt kf
    have hx2 : RowSays K A M x.1 x.2 := by
      have := List.mem_of_getElem? hx
      simp only [List.mem_cons, List.not_mem_nil, or_false] at this
      rcases this with rfl | rfl
      · exact h1
      · exact h2
    walk_at "g"
    refine hx2 _ _ e2 fun M3 e3 => ?_
    exact kt rfl _ (e2.trans e3)
  · intro M2 p e2 hp
    walk_at "g"
    refine w_all (bs := [r1, r2]) put_same ?_
    have h' : [r1, r2].all id = false := by simpa using h
    rw [h']
    walk_at "g"
    exact q _ (e2.alloc hp _)
end
end Dt

set_option Elab.async false
set_option autoImplicit false
set_option linter.all false
set_option maxRecDepth 100000
set_option maxHeartbeats 400000
namespace Dt
open PySem PySem.Spec PyProof.Rows L2 LamX RZ PySem.P
local macro_rules | `(tactic| walk_at "w1") => `(tactic| with_reducible refine StepW.go ?_)
local macro_rules | `(tactic| walk_at "w") => `(tactic| ((repeat walk_at "w1"); try (with_reducible conv => whnf)))
local macro_rules | `(tactic| walk_at "m") => `(tactic| first | with_reducible assumption | with_reducible exact put_same | (with_reducible apply Ext.get; (with_reducible assumption); walk_at "m") | (with_reducible apply Ext.get; (with_reducible apply Ext.new); (with_reducible assumption); walk_at "m"))
local macro_rules | `(tactic| walk_at "x") => `(tactic| first | with_reducible assumption | with_reducible exact Ext.refl | (with_reducible refine Ext.alloc ?_ (by with_reducible assumption) _; walk_at "x") | (with_reducible refine Ext.trans ?_ (by with_reducible assumption); walk_at "x"))
local macro_rules | `(tactic| walk_at "lk") => `(tactic| first | with_reducible exact look1 | ((with_reducible apply lookS); (with_unfolding_all decide); walk_at "lk"))
local macro_rules | `(tactic| walk_at "h1") => `(tactic| (first
  | with_reducible refine StepW.go ?_
  | with_reducible refine StepG.go ?_
  | with_reducible refine w_isTup ?_
  | ((with_reducible refine w_sz ?sz ?_); (case sz => size_fits))
  | ((with_reducible refine w_len ?sz ?_); (case sz => rfl))
  | ((with_reducible refine w_obj (by walk_at "m") ?ob2 ?_); (case ob2 => walk_at "ln"))
  | (with_reducible refine w_lenL (by walk_at "m") ?_) | (with_reducible refine w_seqL (by walk_at "m") ?_) | (with_reducible refine tup_list (by walk_at "m") ?_)
  | (with_reducible refine w_isLst (by walk_at "m") ?_) | (with_reducible refine w_slL (by walk_at "m") ?_)
  | ((with_reducible refine fld_ok (by walk_at "m") ?cl (by walk_at "lk") ?_); (case cl => walk_at "cl"))
  | (with_reducible refine w_lstL (by walk_at "m") ?_) | (with_reducible refine w_dic (by walk_at "m") ?_)
  ))
local macro_rules | `(tactic| walk_at "g1") => `(tactic| first | walk_at "h1" | with_reducible refine StepP.go ?_)
local macro_rules | `(tactic| walk_at "h") => `(tactic| ((repeat walk_at "h1"); try (with_reducible conv => whnf)))
local macro_rules | `(tactic| walk_at "g") => `(tactic| ((repeat walk_at "g1"); try (with_reducible conv => whnf)))
local macro_rules | `(tactic| walk_at "ln") => `(tactic| first | exact look_none (ns := ["row", "signs", "dependent", "places", "taken"]) rfl (by decide) | exact look_none (ns := ["alphabet", "due", "its_left", "signs", "parting"]) rfl (by decide) | exact look_none (ns := ["alphabet", "its_lag", "parting"]) rfl (by decide))
local macro_rules | `(tactic| walk_at "cl") => `(tactic| first | exact CF.get (by with_reducible assumption) (by decide) | exact LF.row (by with_reducible assumption) | exact LF.signs (by with_reducible assumption) | exact LF.dependent (by with_reducible assumption) | exact LF.places (by with_reducible assumption) | exact LF.taken (by with_reducible assumption))
section
variable {K : Bd} {M M' : DM} {Q : DQ} {E : DX} {A : Alph} {row : List Str} {b c : Addr}
def NormSays (K : Bd) (A : Alph) (M : DM) (d : D) (r : Bool) : Prop := ∀ (M1 : DM) (Q : DQ), Ext M M1 → (∀ M2, Ext M1 M2 → Q (.bl r) M2) → sp__law_is_normal_row K [aD A, d] M1 Q noX
theorem s_norm_no {d : D} {U : String} (h : typD d M = some U) (h2 : isi_tuple U = some false) (q : Q (.bl false) M) : sp__law_is_normal_row K [aD A, d] M Q noX := by
  refine go__law_is_normal_row ?_
  delta t__law_is_normal_row
  walk_at "g"
  refine ⟨U, false, h, h2, ?_⟩
  walk_at "g"
  exact q
theorem s_norm_int {i : Int} (q : ∀ M', Ext M M' → Q (.bl false) M') : sp__law_is_normal_row K [aD A, .tup [.int i]] M Q noX := by
  refine go__law_is_normal_row ?_
  delta t__law_is_normal_row
  walk_at "g"
  refine ⟨"tuple", true, rfl, rfl, ?_⟩
  walk_at "g"
  refine lc_pure [i] D.int (fun _ => true) D.int (fun i M2 e2 _ => itT_at _ i M2) (by size_fits) ?_ ?_
  · intro k x M2 hx e2 KT KF kt kf
    walk_at "g"
    refine ⟨"int", false, rfl, rfl, ?_⟩
    walk_at "g"
    exact kt rfl _ e2
  · intro M2 p e2 hp
    walk_at "g"
    intro p2 hp2
    have hne : p ≠ p2 := fun e => by rw [← e, put_same] at hp2; cases hp2
    refine ne_encL (α := Int) (xs := [i]) (ys := []) (c := false) (by rw [put_ne hne]; exact put_same) put_same (by simp) (by decide) ?_
    walk_at "g"
    exact q _ ((e2.alloc hp _).alloc hp2 _)
theorem s_law_is_lag_two {d1 d2 : D} {r1 r2 : Bool} (h1 : NormSays K A M d1 r1) (h2 : NormSays K A M d2 r2) (h : (r1 && r2) = false) (q : ∀ M', Ext M M' → Q (.bl false) M') : sp__law_is_lag K [aD A, .tup [d1, d2]] M Q noX := by
  refine go__law_is_lag ?_
  delta t__law_is_lag
  walk_at "g"
  refine ⟨"tuple", true, rfl, rfl, ?_⟩
  walk_at "g"
  refine ix_tup (n := 0) rfl ?_
  walk_at "g"
  refine h1 _ _ .refl fun M1 e1 => ?_
  cases r1
  · walk_at "g"
    exact q _ e1
  · walk_at "g"
    refine ix_tup (n := 1) rfl ?_
    walk_at "g"
    refine h2 _ _ e1 fun M2 e2 => ?_
    cases r2
    · walk_at "g"
      exact q _ (e1.trans e2)
    · cases h
end
end Dt

set_option Elab.async false
set_option autoImplicit false
set_option linter.all false
set_option maxRecDepth 100000
set_option maxHeartbeats 400000
namespace Dt
open PySem PySem.Spec PyProof.Rows L2 LamX RZ PySem.P
local macro_rules | `(tactic| walk_at "w1") => `(tactic| with_reducible refine StepW.go ?_)
local macro_rules | `(tactic| walk_at "w") => `(tactic| ((repeat walk_at "w1"); try (with_reducible conv => whnf)))
local macro_rules | `(tactic| walk_at "m") => `(tactic| first | with_reducible assumption | with_reducible exact put_same | (with_reducible apply Ext.get; (with_reducible assumption); walk_at "m") | (with_reducible apply Ext.get; (with_reducible apply Ext.new); (with_reducible assumption); walk_at "m"))
local macro_rules | `(tactic| walk_at "x") => `(tactic| first | with_reducible assumption | with_reducible exact Ext.refl | (with_reducible refine Ext.alloc ?_ (by with_reducible assumption) _; walk_at "x") | (with_reducible refine Ext.trans ?_ (by with_reducible assumption); walk_at "x"))
local macro_rules | `(tactic| walk_at "lk") => `(tactic| first | with_reducible exact look1 | ((with_reducible apply lookS); (with_unfolding_all decide); walk_at "lk"))
local macro_rules | `(tactic| walk_at "h1") => `(tactic| (first
  | with_reducible refine StepW.go ?_
  | with_reducible refine StepG.go ?_
  | with_reducible refine w_isTup ?_
  | ((with_reducible refine w_sz ?sz ?_); (case sz => size_fits))
  | ((with_reducible refine w_len ?sz ?_); (case sz => rfl))
  | ((with_reducible refine w_obj (by walk_at "m") ?ob2 ?_); (case ob2 => walk_at "ln"))
  | (with_reducible refine w_lenL (by walk_at "m") ?_) | (with_reducible refine w_seqL (by walk_at "m") ?_) | (with_reducible refine tup_list (by walk_at "m") ?_)
  | (with_reducible refine w_isLst (by walk_at "m") ?_) | (with_reducible refine w_slL (by walk_at "m") ?_)
  | ((with_reducible refine fld_ok (by walk_at "m") ?cl (by walk_at "lk") ?_); (case cl => walk_at "cl"))
  | (with_reducible refine w_lstL (by walk_at "m") ?_) | (with_reducible refine w_dic (by walk_at "m") ?_)
  ))
local macro_rules | `(tactic| walk_at "g1") => `(tactic| first | walk_at "h1" | with_reducible refine StepP.go ?_)
local macro_rules | `(tactic| walk_at "h") => `(tactic| ((repeat walk_at "h1"); try (with_reducible conv => whnf)))
local macro_rules | `(tactic| walk_at "g") => `(tactic| ((repeat walk_at "g1"); try (with_reducible conv => whnf)))
local macro_rules | `(tactic| walk_at "ln") => `(tactic| first | exact look_none (ns := ["row", "signs", "dependent", "places", "taken"]) rfl (by decide) | exact look_none (ns := ["alphabet", "due", "its_left", "signs", "parting"]) rfl (by decide) | exact look_none (ns := ["alphabet", "its_lag", "parting"]) rfl (by decide))
local macro_rules | `(tactic| walk_at "cl") => `(tactic| first | exact CF.get (by with_reducible assumption) (by decide) | exact LF.row (by with_reducible assumption) | exact LF.signs (by with_reducible assumption) | exact LF.dependent (by with_reducible assumption) | exact LF.places (by with_reducible assumption) | exact LF.taken (by with_reducible assumption))
section
variable {K : Bd} {M M' : DM} {Q : DQ} {E : DX} {A : Alph} {row : List Str} {b c : Addr}
/-- rows of signs, each of at most k -/
structure RowsOk (signs : List Str) (k n : Nat) (rs : List (List Str)) : Prop where
  of : ∀ r ∈ rs, (∀ s ∈ r, s ∈ signs) ∧ r.length ≤ k
  le : rs.length ≤ n
theorem s_law_rows {signs : List Str} (hl : signs.length ≤ 3) (q : ∀ M' p (rs : List (List Str)), Ext M M' → M' p = some (.lst (rs.map Enc.d)) → RowsOk signs 3 100 rs → Q (.ref p) M') : sp__law_rows K [Enc.d signs, .int 3] M Q noX := by
  refine go__law_rows ?_
  delta t__law_rows
  walk_at "g"
  intro pf hpf
  walk_at "g"
  intro pl hpl
  have hpf' : pf ≠ pl := ne_of_new put_same hpl
  walk_at "g"
  refine ⟨⟨by decide, by decide⟩, ?_⟩
  refine for_inv ((List.range 3).map fun k : Nat => D.int (0 + (k : Int))) (fun i σ' M1 => ∃ w2 w5 w6 w7 pf pl fs ls, σ' = [some (Enc.d signs), some (.int 3), w2, some (.ref pf), some (.ref pl), w5, w6, w7] ∧ Ext M M1 ∧ M1 pf = some (.lst (fs.map Enc.d)) ∧ M1 pl = some (.lst (ls.map Enc.d)) ∧ RowsOk signs i (1 + i * 27) fs ∧ RowsOk signs i (3 ^ i) ls) (fun i σ' M1 _ hi => itR_at 0 3 i M1 (by simpa using hi)) ⟨_, _, _, _, pf, pl, [[]], [[]], rfl, ((Ext.refl).alloc hpf _).alloc hpl _, by rw [put_ne hpf']; exact put_same, put_same, ⟨by simp, by simp⟩, ⟨by simp, by simp⟩⟩ ?_ ?_
  · rintro i d σ' M1 hd ⟨w2, w5, w6, w7, pf, pl, fs, ls, rfl, e1, ef, el, hfs, hls⟩ Kt kt
    rw [List.getElem?_map] at hd
    cases hx : (List.range 3)[i]? with
    | none => rw [hx] at hd; cases hd
    | some j =>
      rw [hx] at hd; cases hd
      have hi : i < 3 := by simpa using (List.getElem?_eq_some_iff.mp hx).1
      have h3 : 3 ^ i ≤ 9 := Nat.le_trans (Nat.pow_le_pow_right (by decide) (show i ≤ 2 by omega)) (by decide)
      have hll := hls.le
      have hfl := hfs.le
      walk_at "g"
      intro p5 hp5
      have n1 : pf ≠ p5 := ne_of_new ef hp5
      have n2 : pl ≠ p5 := ne_of_new el hp5
      walk_at "g"
      refine for_inv (ls.map Enc.d) (fun j σ' M2 => ∃ w6 w7 gs, σ' = [some (Enc.d signs), some (.int 3), some _, some (.ref pf), some (.ref pl), some (.ref p5), w6, w7] ∧ Ext M1 M2 ∧ M2 p5 = some (.lst (gs.map Enc.d)) ∧ RowsOk signs (i + 1) (j * 3) gs) (fun j σ' M2 h hj => itL_is (by obtain ⟨_, _, _, _, e, _⟩ := h; exact e _ _ el) j) ⟨_, _, [], rfl, (Ext.refl).alloc hp5 _, put_same, ⟨by simp, by simp⟩⟩ ?_ ?_
      · rintro j d σ' M2 hd ⟨w6, w7, gs, rfl, e2, eg, hgs⟩ Kt2 kt2
        rw [List.getElem?_map] at hd
        cases hy : ls[j]? with
        | none => rw [hy] at hd; cases hd
        | some r =>
          rw [hy] at hd; cases hd
          have hj : j < ls.length := (List.getElem?_eq_some_iff.mp hy).1
          have hr := hls.of r (List.mem_of_getElem? hy)
          have hgl := hgs.le
          walk_at "g"
          refine lc_pure signs Enc.d (fun _ => true) (fun s => Enc.d (r ++ [s])) (fun k M3 e3 _ => itT_at _ k M3) (Nat.le_trans hl (by size_fits)) ?_ ?_
          · intro k y M3 hy e3 KT KF kt3 kf
            walk_at "g"
            refine add_tup (by rw [List.length_map]; exact Nat.le_trans (show r.length + 1 ≤ 100 by omega) (by size_fits)) ?_
            rw [show r.map (Enc.d (α := Str)) ++ [Enc.d y] = (r ++ [y]).map Enc.d from by rw [List.map_append]; rfl]
            exact kt3 rfl _ e3
          · intro M3 p2 e3 hp2
            rw [show signs.filter (fun _ => true) = signs from List.filter_eq_self.mpr fun _ _ => rfl]
            have eg2 := e3 _ _ eg
            have hne : p5 ≠ p2 := ne_of_new eg2 hp2
            walk_at "g"
            refine ⟨p5, _, _, rfl, by rw [put_ne hne]; exact eg2, put_same, ?_, ?_⟩
            · rw [List.length_map, List.length_map]
              exact Nat.le_trans (show _ ≤ 2000 by omega) (by size_fits)
            · refine kt2 _ _ ⟨_, _, gs ++ signs.map (fun s => r ++ [s]), rfl, ext_put ((e2.trans e3).alloc hp2 _) hp5, ?_, ⟨?_, ?_⟩⟩
              · rw [put_same, List.map_append]
                simp
              · intro z hz
                rcases List.mem_append.mp hz with hz | hz
                · exact hgs.of z hz
                · obtain ⟨s, hs, rfl⟩ := List.mem_map.mp hz
                  refine ⟨fun y hy => ?_, by rw [List.length_append, List.length_singleton]; omega⟩
                  rcases List.mem_append.mp hy with hy | hy
                  · exact hr.1 y hy
                  · rw [List.mem_singleton.mp hy]; exact hs
              · rw [List.length_append, List.length_map]; omega
      · rintro σ' M2 ⟨w6, w7, gs, rfl, e2, eg, hgs⟩
        rw [List.length_map] at hgs
        have hgl := hgs.le
        walk_at "g"
        refine add_lst (e2 _ _ ef) eg (by rw [List.length_map, List.length_map]; exact Nat.le_trans (show _ ≤ 200 by omega) (by size_fits)) fun p6 hp6 => ?_
        have n3 : p5 ≠ p6 := ne_of_new eg hp6
        walk_at "g"
        refine kt _ _ ⟨_, _, _, _, p6, p5, fs ++ gs, gs, rfl, (e1.trans e2).alloc hp6 _, by rw [put_same, List.map_append], by rw [put_ne n3]; exact eg, ⟨fun z hz => ?_, ?_⟩, ⟨hgs.of, ?_⟩⟩
        · rcases List.mem_append.mp hz with hz | hz
          · exact ⟨(hfs.of z hz).1, Nat.le_succ_of_le (hfs.of z hz).2⟩
          · exact hgs.of z hz
        · rw [List.length_append]; omega
        · rw [Nat.pow_succ]; omega
  · rintro σ' M1 ⟨w2, w5, w6, w7, pf, pl, fs, ls, rfl, e1, ef, el, hfs, hls⟩
    walk_at "g"
    simp only [List.length_map, List.length_range] at hfs
    exact q _ _ fs e1 ef ⟨hfs.of, Nat.le_trans hfs.le (by decide)⟩
end
end Dt

set_option Elab.async false
set_option autoImplicit false
set_option linter.all false
set_option maxRecDepth 100000
set_option maxHeartbeats 400000
namespace Dt
open PySem PySem.Spec PyProof.Rows L2 LamX RZ PySem.P
local macro_rules | `(tactic| walk_at "w1") => `(tactic| with_reducible refine StepW.go ?_)
local macro_rules | `(tactic| walk_at "w") => `(tactic| ((repeat walk_at "w1"); try (with_reducible conv => whnf)))
local macro_rules | `(tactic| walk_at "m") => `(tactic| first | with_reducible assumption | with_reducible exact put_same | (with_reducible apply Ext.get; (with_reducible assumption); walk_at "m") | (with_reducible apply Ext.get; (with_reducible apply Ext.new); (with_reducible assumption); walk_at "m"))
local macro_rules | `(tactic| walk_at "x") => `(tactic| first | with_reducible assumption | with_reducible exact Ext.refl | (with_reducible refine Ext.alloc ?_ (by with_reducible assumption) _; walk_at "x") | (with_reducible refine Ext.trans ?_ (by with_reducible assumption); walk_at "x"))
local macro_rules | `(tactic| walk_at "lk") => `(tactic| first | with_reducible exact look1 | ((with_reducible apply lookS); (with_unfolding_all decide); walk_at "lk"))
local macro_rules | `(tactic| walk_at "h1") => `(tactic| (first
  | with_reducible refine StepW.go ?_
  | with_reducible refine StepG.go ?_
  | with_reducible refine w_isTup ?_
  | ((with_reducible refine w_sz ?sz ?_); (case sz => size_fits))
  | ((with_reducible refine w_len ?sz ?_); (case sz => rfl))
  | ((with_reducible refine w_obj (by walk_at "m") ?ob2 ?_); (case ob2 => walk_at "ln"))
  | (with_reducible refine w_lenL (by walk_at "m") ?_) | (with_reducible refine w_seqL (by walk_at "m") ?_) | (with_reducible refine tup_list (by walk_at "m") ?_)
  | (with_reducible refine w_isLst (by walk_at "m") ?_) | (with_reducible refine w_slL (by walk_at "m") ?_)
  | ((with_reducible refine fld_ok (by walk_at "m") ?cl (by walk_at "lk") ?_); (case cl => walk_at "cl"))
  | (with_reducible refine w_lstL (by walk_at "m") ?_) | (with_reducible refine w_dic (by walk_at "m") ?_)
  ))
local macro_rules | `(tactic| walk_at "g1") => `(tactic| first | walk_at "h1" | with_reducible refine StepP.go ?_)
local macro_rules | `(tactic| walk_at "h") => `(tactic| ((repeat walk_at "h1"); try (with_reducible conv => whnf)))
local macro_rules | `(tactic| walk_at "g") => `(tactic| ((repeat walk_at "g1"); try (with_reducible conv => whnf)))
local macro_rules | `(tactic| walk_at "ln") => `(tactic| first | exact look_none (ns := ["row", "signs", "dependent", "places", "taken"]) rfl (by decide) | exact look_none (ns := ["alphabet", "due", "its_left", "signs", "parting"]) rfl (by decide) | exact look_none (ns := ["alphabet", "its_lag", "parting"]) rfl (by decide))
local macro_rules | `(tactic| walk_at "cl") => `(tactic| first | exact CF.get (by with_reducible assumption) (by decide) | exact LF.row (by with_reducible assumption) | exact LF.signs (by with_reducible assumption) | exact LF.dependent (by with_reducible assumption) | exact LF.places (by with_reducible assumption) | exact LF.taken (by with_reducible assumption))
section
variable {A : Alph} {x y c d u v o du dv : List Str}
/-- what the law uses of a lag -/
structure LagOf (A : Alph) (x y du dv : List Str) : Prop where
  ex : ∃ k, Tq A (k ++ du) x ∧ Tq A (k ++ dv) y
  apart : Tr.Apart (fr A) du dv
  nu : nf A du = du
  nv : nf A dv = dv
  inu : InA A du
  inv : InA A dv
theorem lag_of (g : GoodA A) (hx : InA A x) (hy : InA A y) : LagOf A x y (lagL A x y).1 (lagL A x y).2 := by
  have h := cm_ok g (y := y) hx
  have i1 := (h.in1 g hx).2
  have i2 := h.in2 g hy
  exact ⟨⟨_, (Tr.Tq.app .refl (nf_tq g i1).symm).trans h.one, (Tr.Tq.app .refl (nf_tq g i2).symm).trans h.other⟩, Tr.Apart.tq (fr_fs g) h.apart (nf_tq g i1) (nf_tq g i2), nf_nf g i1, nf_nf g i2, nf_in g i1, nf_in g i2⟩
theorem lag_nil (g : GoodA A) (hx : InA A x) (hy : InA A y) (h : Tq A x y) : lagL A x y = ([], []) := by
  have l := lag_of g hx hy
  obtain ⟨k, e1, e2⟩ := l.ex
  have z : Tq A (lagL A x y).1 (lagL A x y).2 := Tr.Tq.left ((e1.trans h).trans e2.symm)
  have ap := l.apart
  cases h1 : (lagL A x y).1 with
  | nil =>
    rw [h1] at z
    exact Prod.ext h1 (Tr.Tq.nil (fr_fs g) z)
  | cons a r =>
    rw [h1] at z ap
    exact absurd ⟨Tr.fst_head, z.fst (fr_fs g) Tr.fst_head⟩ (ap a)
theorem LagOf.ends (l : LagOf A x y du dv) (h : Tq A (x ++ c) (y ++ d)) : Tq A (du ++ c) (dv ++ d) := by
  obtain ⟨k, e1, e2⟩ := l.ex
  have z : Tq A (k ++ (du ++ c)) (k ++ (dv ++ d)) := by
    rw [← List.append_assoc, ← List.append_assoc]
    exact ((e1.app .refl).trans h).trans (e2.app .refl).symm
  exact Tr.Tq.left z
theorem LagOf.free (g : GoodA A) (l : LagOf A x y du dv) (h : Tq A (x ++ c) (y ++ d)) : Tr.Free (fr A) du dv := Tr.apart_free (fr_fs g) fr_fc l.apart (l.ends h)
theorem LagOf.join (g : GoodA A) (l : LagOf A x y du dv) (F : Tr.Free (fr A) du dv) : Tq A (x ++ dv) (y ++ du) := by
  obtain ⟨k, e1, e2⟩ := l.ex
  have z : Tq A ((k ++ du) ++ dv) ((k ++ dv) ++ du) := by
    rw [List.append_assoc, List.append_assoc]
    exact Tr.Tq.app .refl (F.swap (fr_fs g) fr_fc)
  exact ((e1.symm.app .refl).trans z).trans (e2.app .refl)
theorem free_none (g : GoodA A) (F : Tr.Free (fr A) du dv) : du.filter (fun a => decide (a ∈ dv)) = [] :=
  List.filter_eq_nil_iff.mpr fun a ha h => by
    have z := F a ha a (of_decide_eq_true h)
    rw [fr_fs g] at z; cases z
theorem LagOf.count (g : GoodA A) (l : LagOf A x y du dv) (s : Str) : (du.count s : Int) - (dv.count s : Int) = (x.count s : Int) - (y.count s : Int) := by
  obtain ⟨k, e1, e2⟩ := l.ex
  have h1 := Tr.Tq.count (fr_fs g) e1 s
  have h2 := Tr.Tq.count (fr_fs g) e2 s
  rw [List.count_append] at h1 h2
  omega
theorem LagOf.only (g : GoodA A) (l : LagOf A x y du dv) (F : Tr.Free (fr A) du dv) (hu : InA A u) (hv : InA A v) (h : Tq A ((u ++ dv) ++ o) ((v ++ du) ++ o)) : lagL A u v = (du, dv) := by
  have l2 := lag_of g hu hv
  have h := l2.ends (Tr.Tq.right h)
  obtain ⟨e1, e2⟩ := Tr.lag_only (fr_fs g) fr_fc l2.apart F h
  refine Prod.ext ?_ ?_
  · rw [← l2.nu, nf_congr g e1, l.nu]
  · rw [← l2.nv, nf_congr g e2, l.nv]
/-- all rows of n signs -/
def allRows (signs : List Str) : Nat → List (List Str)
  | 0 => [[]]
  | n + 1 => signs.flatMap fun s => (allRows signs n).map (s :: ·)
theorem allRows_mem {signs : List Str} : ∀ {r : List Str}, (∀ s ∈ r, s ∈ signs) → r ∈ allRows signs r.length
  | [], _ => by simp [allRows]
  | s :: r, h => by
    rw [List.length_cons, allRows]
    exact List.mem_flatMap.mpr ⟨s, h s List.mem_cons_self, List.mem_map.mpr ⟨r, allRows_mem fun z hz => h z (List.mem_cons_of_mem _ hz), rfl⟩⟩
theorem sum_const {α : Type} (n : Nat) : ∀ l : List α, (l.map fun _ => n).sum = l.length * n
  | [] => by simp
  | a :: l => by rw [List.map_cons, List.sum_cons, sum_const n l, List.length_cons, Nat.succ_mul]; omega
theorem allRows_len {signs : List Str} : ∀ n : Nat, (allRows signs n).length = signs.length ^ n
  | 0 => rfl
  | n + 1 => by
    rw [allRows, List.length_flatMap]
    simp only [List.length_map]
    rw [sum_const, allRows_len n, Nat.pow_succ, Nat.mul_comm]
/-- so many rows of a length there are at most -/
theorem rows_few {signs : List Str} {n k : Nat} {fs : List (List Str)} (nd : fs.Nodup) (h : ∀ r ∈ fs, (∀ s ∈ r, s ∈ signs) ∧ r.length = n) (hl : signs.length ≤ k) : fs.length ≤ k ^ n :=
  Nat.le_trans (nodup_le (ys := allRows signs n) nd fun r hr => by have := allRows_mem (h r hr).1; rw [(h r hr).2] at this; exact this) (by rw [allRows_len]; exact Nat.pow_le_pow_left hl n)
end
end Dt

set_option Elab.async false
set_option autoImplicit false
set_option linter.all false
set_option maxRecDepth 100000
set_option maxHeartbeats 400000
namespace Dt
open PySem PySem.Spec PyProof.Rows L2 LamX RZ PySem.P
local macro_rules | `(tactic| walk_at "w1") => `(tactic| with_reducible refine StepW.go ?_)
local macro_rules | `(tactic| walk_at "w") => `(tactic| ((repeat walk_at "w1"); try (with_reducible conv => whnf)))
local macro_rules | `(tactic| walk_at "m") => `(tactic| first | with_reducible assumption | with_reducible exact put_same | (with_reducible apply Ext.get; (with_reducible assumption); walk_at "m") | (with_reducible apply Ext.get; (with_reducible apply Ext.new); (with_reducible assumption); walk_at "m"))
local macro_rules | `(tactic| walk_at "x") => `(tactic| first | with_reducible assumption | with_reducible exact Ext.refl | (with_reducible refine Ext.alloc ?_ (by with_reducible assumption) _; walk_at "x") | (with_reducible refine Ext.trans ?_ (by with_reducible assumption); walk_at "x"))
local macro_rules | `(tactic| walk_at "lk") => `(tactic| first | with_reducible exact look1 | ((with_reducible apply lookS); (with_unfolding_all decide); walk_at "lk"))
local macro_rules | `(tactic| walk_at "h1") => `(tactic| (first
  | with_reducible refine StepW.go ?_
  | with_reducible refine StepG.go ?_
  | with_reducible refine w_isTup ?_
  | ((with_reducible refine w_sz ?sz ?_); (case sz => size_fits))
  | ((with_reducible refine w_len ?sz ?_); (case sz => rfl))
  | ((with_reducible refine w_obj (by walk_at "m") ?ob2 ?_); (case ob2 => walk_at "ln"))
  | (with_reducible refine w_lenL (by walk_at "m") ?_) | (with_reducible refine w_seqL (by walk_at "m") ?_) | (with_reducible refine tup_list (by walk_at "m") ?_)
  | (with_reducible refine w_isLst (by walk_at "m") ?_) | (with_reducible refine w_slL (by walk_at "m") ?_)
  | ((with_reducible refine fld_ok (by walk_at "m") ?cl (by walk_at "lk") ?_); (case cl => walk_at "cl"))
  | (with_reducible refine w_lstL (by walk_at "m") ?_) | (with_reducible refine w_dic (by walk_at "m") ?_)
  ))
local macro_rules | `(tactic| walk_at "g1") => `(tactic| first | walk_at "h1" | with_reducible refine StepP.go ?_)
local macro_rules | `(tactic| walk_at "h") => `(tactic| ((repeat walk_at "h1"); try (with_reducible conv => whnf)))
local macro_rules | `(tactic| walk_at "g") => `(tactic| ((repeat walk_at "g1"); try (with_reducible conv => whnf)))
local macro_rules | `(tactic| walk_at "ln") => `(tactic| first | exact look_none (ns := ["row", "signs", "dependent", "places", "taken"]) rfl (by decide) | exact look_none (ns := ["alphabet", "due", "its_left", "signs", "parting"]) rfl (by decide) | exact look_none (ns := ["alphabet", "its_lag", "parting"]) rfl (by decide))
local macro_rules | `(tactic| walk_at "cl") => `(tactic| first | exact CF.get (by with_reducible assumption) (by decide) | exact LF.row (by with_reducible assumption) | exact LF.signs (by with_reducible assumption) | exact LF.dependent (by with_reducible assumption) | exact LF.places (by with_reducible assumption) | exact LF.taken (by with_reducible assumption))
section
variable {K : Bd} {M M' : DM} {Q : DQ} {E : DX} {A : Alph} {row x y one other du dv : List Str} {b c : Addr} {en eb ec : Std → DM → Prop} {ex : Std → DX}
/-- the program and the law say the same of a thing -/
structure Thing (K : Bd) (A : Alph) (M : DM) (d : D) : Prop where
  ex : ∃ r : Bool, (∀ (M1 : DM) (Q : DQ), Ext M M1 → (∀ M2, Ext M1 M2 → Q (.bl r) M2) → sp_is_lag K [aD A, d] M1 Q noX) ∧ (∀ (M1 : DM) (Q : DQ), Ext M M1 → (∀ M2, Ext M1 M2 → Q (.bl r) M2) → sp__law_is_lag K [aD A, d] M1 Q noX)
theorem thing_two (F : LF K) (g : GoodA A) {u v : List Str} (lu : u.length ≤ 5000) (lv : v.length ≤ 5000) : Thing K A M (Enc.d (u, v)) :=
  ⟨lagB A u v, fun M1 Q e q => s_is_lag F g lu lv q, fun M1 Q e q => s_law_is_lag g lu lv q⟩
theorem thing_no {d : D} {U : String} (h : ∀ M1, Ext M M1 → typD d M1 = some U) (h2 : isi_tuple U = some false) : Thing K A M d :=
  ⟨false, fun M1 Q e q => s_is_lag_no (h M1 e) h2 (q _ .refl), fun M1 Q e q => s_law_is_lag_no (h M1 e) h2 (q _ .refl)⟩
theorem thing_one {d : D} : Thing K A M (.tup [d]) := ⟨false, fun M1 Q e q => s_is_lag_one (q _ .refl), fun M1 Q e q => s_law_is_lag_one (q _ .refl)⟩
theorem RowSays.ext {d : D} {r : Bool} (h : RowSays K A M d r) (e : Ext M M') : RowSays K A M' d r := fun M1 Q e1 q => h M1 Q (e.trans e1) q
theorem NormSays.ext {d : D} {r : Bool} (h : NormSays K A M d r) (e : Ext M M') : NormSays K A M' d r := fun M1 Q e1 q => h M1 Q (e.trans e1) q
theorem thing_pair {d1 d2 : D} {r1 r2 s1 s2 : Bool} (h1 : RowSays K A M d1 r1) (h2 : RowSays K A M d2 r2) (k1 : NormSays K A M d1 s1) (k2 : NormSays K A M d2 s2) (h : (r1 && r2) = false) (k : (s1 && s2) = false) : Thing K A M (.tup [d1, d2]) :=
  ⟨false, fun M1 Q e q => s_is_lag_two (h1.ext e) (h2.ext e) h q, fun M1 Q e q => s_law_is_lag_two (k1.ext e) (k2.ext e) k q⟩
theorem row_says {r : List Str} (hl : r.length ≤ 5000) : RowSays K A M (Enc.d r) (r.all fun s => decide (s ∈ A.signs)) := fun M1 Q e q => s_is_row (Nat.le_trans hl (by decide)) q
theorem norm_says (g : GoodA A) {r : List Str} (hl : r.length ≤ 5000) : NormSays K A M (Enc.d r) ((r.all fun s => decide (s ∈ A.signs)) && decide (nf A r = r)) := fun M1 Q e q => s_law_is_normal_row g hl q
theorem row_no {d : D} {U : String} (h : ∀ M1, Ext M M1 → typD d M1 = some U) (h2 : isi_tuple U = some false) : RowSays K A M d false := fun M1 Q e q => s_is_row_no (h M1 e) h2 (q _ .refl)
theorem norm_no {d : D} {U : String} (h : ∀ M1, Ext M M1 → typD d M1 = some U) (h2 : isi_tuple U = some false) : NormSays K A M d false := fun M1 Q e q => s_norm_no (h M1 e) h2 (q _ .refl)
theorem Thing.ext' {d : D} (h : Thing K A M d) (e : Ext M M') : Thing K A M' d := by
  obtain ⟨r, h1, h2⟩ := h
  exact ⟨r, fun M1 Q e1 q => h1 M1 Q (e.trans e1) q, fun M1 Q e1 q => h2 M1 Q (e.trans e1) q⟩
theorem typ_lst {l : Addr} {xs : List D} (h : M l = some (.lst xs)) : ∀ M1, Ext M M1 → typD (.ref l) M1 = some "list" := fun M1 e => by
  have := e _ _ h
  show typO (M1 l) = _
  rw [this]; rfl
theorem law_things {ds : List D} {l : Addr} (hl : M l = some (.lst ds)) (h : ∀ d ∈ ds, Thing K A M d)
    {s0 s1 s2 s3 s5 s6 s7 s8 s9 s10 s11 s13 s14 s15 s16 s17 s18 s19 s20 s21 s22 s23 s24 s25 s26 : Option D}
    (q : ∀ M' s13, Ext M M' → en [s0, s1, s2, s3, some (aD A), s5, s6, s7, s8, s9, s10, s11, some (.ref l), s13, s14, s15, s16, s17, s18, s19, s20, s21, s22, s23, s24, s25, s26] M') :
    t_law_l2 K ⟨en, Q, eb, ec, ex⟩ [s0, s1, s2, s3, some (aD A), s5, s6, s7, s8, s9, s10, s11, some (.ref l), s13, s14, s15, s16, s17, s18, s19, s20, s21, s22, s23, s24, s25, s26] M := by
  delta t_law_l2
  walk_at "g"
  refine for_inv ds (fun i σ' M1 => ∃ s13, σ' = [s0, s1, s2, s3, some (aD A), s5, s6, s7, s8, s9, s10, s11, some (.ref l), s13, s14, s15, s16, s17, s18, s19, s20, s21, s22, s23, s24, s25, s26] ∧ Ext M M1) (fun i σ' M1 h _ => itL_is (by obtain ⟨_, _, e⟩ := h; exact e _ _ hl) i) ⟨_, rfl, .refl⟩ ?_ ?_
  · rintro i d σ' M1 hd ⟨s13, rfl, e1⟩ Kt kt
    obtain ⟨r, h1, h2⟩ := h d (List.mem_of_getElem? hd)
    walk_at "g"
    refine h1 _ _ e1 fun M2 e2 => ?_
    walk_at "g"
    refine h2 _ _ (e1.trans e2) fun M3 e3 => ?_
    walk_at "g"
    refine s_law_alike .bl .bl fit_bool (by decide) ?_
    walk_at "g"
    exact kt _ _ ⟨_, rfl, e1.trans (e2.trans e3)⟩
  · rintro σ' M1 ⟨s13, rfl, e1⟩
    walk_at "g"
    exact q _ _ e1
end
end Dt

set_option Elab.async false
set_option autoImplicit false
set_option linter.all false
set_option maxRecDepth 100000
set_option maxHeartbeats 400000
namespace Dt
open PySem PySem.Spec PyProof.Rows L2 LamX RZ PySem.P
local macro_rules | `(tactic| walk_at "w1") => `(tactic| with_reducible refine StepW.go ?_)
local macro_rules | `(tactic| walk_at "w") => `(tactic| ((repeat walk_at "w1"); try (with_reducible conv => whnf)))
local macro_rules | `(tactic| walk_at "m") => `(tactic| first | with_reducible assumption | with_reducible exact put_same | (with_reducible apply Ext.get; (with_reducible assumption); walk_at "m") | (with_reducible apply Ext.get; (with_reducible apply Ext.new); (with_reducible assumption); walk_at "m"))
local macro_rules | `(tactic| walk_at "x") => `(tactic| first | with_reducible assumption | with_reducible exact Ext.refl | (with_reducible refine Ext.alloc ?_ (by with_reducible assumption) _; walk_at "x") | (with_reducible refine Ext.trans ?_ (by with_reducible assumption); walk_at "x"))
local macro_rules | `(tactic| walk_at "lk") => `(tactic| first | with_reducible exact look1 | ((with_reducible apply lookS); (with_unfolding_all decide); walk_at "lk"))
local macro_rules | `(tactic| walk_at "h1") => `(tactic| (first
  | with_reducible refine StepW.go ?_
  | with_reducible refine StepG.go ?_
  | with_reducible refine w_isTup ?_
  | ((with_reducible refine w_sz ?sz ?_); (case sz => size_fits))
  | ((with_reducible refine w_len ?sz ?_); (case sz => rfl))
  | ((with_reducible refine w_obj (by walk_at "m") ?ob2 ?_); (case ob2 => walk_at "ln"))
  | (with_reducible refine w_lenL (by walk_at "m") ?_) | (with_reducible refine w_seqL (by walk_at "m") ?_) | (with_reducible refine tup_list (by walk_at "m") ?_)
  | (with_reducible refine w_isLst (by walk_at "m") ?_) | (with_reducible refine w_slL (by walk_at "m") ?_)
  | ((with_reducible refine fld_ok (by walk_at "m") ?cl (by walk_at "lk") ?_); (case cl => walk_at "cl"))
  | (with_reducible refine w_lstL (by walk_at "m") ?_) | (with_reducible refine w_dic (by walk_at "m") ?_)
  ))
local macro_rules | `(tactic| walk_at "g1") => `(tactic| first | walk_at "h1" | with_reducible refine StepP.go ?_)
local macro_rules | `(tactic| walk_at "h") => `(tactic| ((repeat walk_at "h1"); try (with_reducible conv => whnf)))
local macro_rules | `(tactic| walk_at "g") => `(tactic| ((repeat walk_at "g1"); try (with_reducible conv => whnf)))
local macro_rules | `(tactic| walk_at "ln") => `(tactic| first | exact look_none (ns := ["row", "signs", "dependent", "places", "taken"]) rfl (by decide) | exact look_none (ns := ["alphabet", "due", "its_left", "signs", "parting"]) rfl (by decide) | exact look_none (ns := ["alphabet", "its_lag", "parting"]) rfl (by decide))
local macro_rules | `(tactic| walk_at "cl") => `(tactic| first | exact CF.get (by with_reducible assumption) (by decide) | exact LF.row (by with_reducible assumption) | exact LF.signs (by with_reducible assumption) | exact LF.dependent (by with_reducible assumption) | exact LF.places (by with_reducible assumption) | exact LF.taken (by with_reducible assumption))
section
variable {K : Bd} {M M' : DM} {Q : DQ} {E : DX} {A : Alph} {row x y one other du dv : List Str} {b c : Addr} {en eb ec : Std → DM → Prop} {ex : Std → DX}
theorem law_p4 (F : LF K) (g : GoodA A) (ld : du.length ≤ 100 ∧ dv.length ≤ 100) (lx : x.length ≤ 100 ∧ y.length ≤ 100) (lo : one.length ≤ 100)
    {s0 s1 s2 s3 s6 s7 s8 s9 s10 s11 s12 s13 s14 s17 s18 s20 s21 s22 s23 s24 s25 s26 : Option D}
    (q : ∀ M' s12 s13, Ext M M' → en [s0, s1, s2, s3, some (aD A), some (Enc.d (du, dv)), s6, s7, s8, s9, s10, s11, s12, s13, s14, some (Enc.d x), some (Enc.d y), s17, s18, some (Enc.d one), s20, s21, s22, s23, s24, s25, s26] M') :
    t_law_p4 K ⟨en, Q, eb, ec, ex⟩ [s0, s1, s2, s3, some (aD A), some (Enc.d (du, dv)), s6, s7, s8, s9, s10, s11, s12, s13, s14, some (Enc.d x), some (Enc.d y), s17, s18, some (Enc.d one), s20, s21, s22, s23, s24, s25, s26] M := by
  walk_at "g"
  refine ix_tup (n := 0) rfl ?_
  walk_at "g"
  refine ix_tup (n := 0) rfl ?_
  walk_at "g"
  refine w_lstT (xs := [Enc.d du, Enc.d dv]) fun p1 hp1 => ?_
  walk_at "g"
  show slD (.tup [Enc.d du, Enc.d dv]) _ _ _ _
  walk_at "g"
  refine ix_tup (n := 0) rfl ?_
  walk_at "g"
  refine ix_tup (n := 1) rfl ?_
  walk_at "g"
  intro p2 hp2
  walk_at "g"
  refine ix_tup (n := 0) rfl ?_
  walk_at "g"
  show revD (.tup (du.map Enc.d)) _ _
  walk_at "g"
  refine ix_tup (n := 1) rfl ?_
  walk_at "g"
  intro p3 hp3
  walk_at "g"
  have n12 : p1 ≠ p2 := ne_of_new put_same hp2
  have n23 : p2 ≠ p3 := ne_of_new put_same hp3
  have n13 : p1 ≠ p3 := ne_of_new (by rw [put_ne n12]; exact put_same) hp3
  have ee := (((Ext.refl (M := M)).alloc hp1 (.lst [Enc.d du, Enc.d dv])).alloc hp2 (.lst (dv.map Enc.d))).alloc hp3
  refine law_things (l := p3) put_same (fun d hd => ?_) fun M1 s13 e1 => q _ _ _ ((ee _).trans e1)
  simp only [List.mem_cons, List.not_mem_nil, or_false] at hd
  rcases hd with rfl | rfl | rfl | rfl | rfl | rfl | rfl | rfl | rfl | rfl | rfl | rfl | rfl
  · exact thing_two F g (by omega) (by omega)
  · exact thing_two F g (u := x) (v := y) (by omega) (by omega)
  · exact thing_two F g (u := one) (v := one) (by omega) (by omega)
  · exact thing_two F g (u := du) (v := du) (by omega) (by omega)
  · exact thing_two F g (u := []) (v := []) (by decide) (by decide)
  · exact thing_no (typ_lst (by rw [put_ne n13, put_ne n12]; exact put_same)) rfl
  · exact thing_no (U := "NoneType") (fun _ _ => rfl) rfl
  · rw [show ((1 : Int)) = ((1 : Nat) : Int) from rfl, cut_to]
    exact thing_one
  · exact thing_pair (row_says (r := du) (by omega)) (row_no (typ_lst (by rw [put_ne n23]; exact put_same)) rfl) (norm_says g (r := du) (by omega)) (norm_no (typ_lst (by rw [put_ne n23]; exact put_same)) rfl) (Bool.and_false _) (Bool.and_false _)
  · exact thing_two F g (u := ["zz"]) (v := []) (by decide) (by decide)
  · exact thing_pair (r1 := false) (s1 := false) (fun M1 Q e q => s_is_row_int q) (row_says (r := []) (by decide)) (fun M1 Q e q => s_norm_int q) (norm_says g (r := []) (by decide)) rfl rfl
  · rw [← List.map_reverse]
    exact thing_two F g (u := du.reverse) (v := dv) (by rw [List.length_reverse]; omega) (by omega)
  · exact thing_pair (r1 := false) (s1 := false) (row_no (U := "NoneType") (fun _ _ => rfl) rfl) (row_says (r := []) (by decide)) (norm_no (U := "NoneType") (fun _ _ => rfl) rfl) (norm_says g (r := []) (by decide)) rfl rfl
end
end Dt

set_option Elab.async false
set_option autoImplicit false
set_option linter.all false
set_option maxRecDepth 100000
set_option maxHeartbeats 400000
namespace Dt
open PySem PySem.Spec PyProof.Rows L2 LamX RZ PySem.P
local macro_rules | `(tactic| walk_at "w1") => `(tactic| with_reducible refine StepW.go ?_)
local macro_rules | `(tactic| walk_at "w") => `(tactic| ((repeat walk_at "w1"); try (with_reducible conv => whnf)))
local macro_rules | `(tactic| walk_at "m") => `(tactic| first | with_reducible assumption | with_reducible exact put_same | (with_reducible apply Ext.get; (with_reducible assumption); walk_at "m") | (with_reducible apply Ext.get; (with_reducible apply Ext.new); (with_reducible assumption); walk_at "m"))
local macro_rules | `(tactic| walk_at "x") => `(tactic| first | with_reducible assumption | with_reducible exact Ext.refl | (with_reducible refine Ext.alloc ?_ (by with_reducible assumption) _; walk_at "x") | (with_reducible refine Ext.trans ?_ (by with_reducible assumption); walk_at "x"))
local macro_rules | `(tactic| walk_at "lk") => `(tactic| first | with_reducible exact look1 | ((with_reducible apply lookS); (with_unfolding_all decide); walk_at "lk"))
local macro_rules | `(tactic| walk_at "h1") => `(tactic| (first
  | with_reducible refine StepW.go ?_
  | with_reducible refine StepG.go ?_
  | with_reducible refine w_isTup ?_
  | ((with_reducible refine w_sz ?sz ?_); (case sz => size_fits))
  | ((with_reducible refine w_len ?sz ?_); (case sz => rfl))
  | ((with_reducible refine w_obj (by walk_at "m") ?ob2 ?_); (case ob2 => walk_at "ln"))
  | (with_reducible refine w_lenL (by walk_at "m") ?_) | (with_reducible refine w_seqL (by walk_at "m") ?_) | (with_reducible refine tup_list (by walk_at "m") ?_)
  | (with_reducible refine w_isLst (by walk_at "m") ?_) | (with_reducible refine w_slL (by walk_at "m") ?_)
  | ((with_reducible refine fld_ok (by walk_at "m") ?cl (by walk_at "lk") ?_); (case cl => walk_at "cl"))
  | (with_reducible refine w_lstL (by walk_at "m") ?_) | (with_reducible refine w_dic (by walk_at "m") ?_)
  ))
local macro_rules | `(tactic| walk_at "g1") => `(tactic| first | walk_at "h1" | with_reducible refine StepP.go ?_)
local macro_rules | `(tactic| walk_at "h") => `(tactic| ((repeat walk_at "h1"); try (with_reducible conv => whnf)))
local macro_rules | `(tactic| walk_at "g") => `(tactic| ((repeat walk_at "g1"); try (with_reducible conv => whnf)))
local macro_rules | `(tactic| walk_at "ln") => `(tactic| first | exact look_none (ns := ["row", "signs", "dependent", "places", "taken"]) rfl (by decide) | exact look_none (ns := ["alphabet", "due", "its_left", "signs", "parting"]) rfl (by decide) | exact look_none (ns := ["alphabet", "its_lag", "parting"]) rfl (by decide))
local macro_rules | `(tactic| walk_at "cl") => `(tactic| first | exact CF.get (by with_reducible assumption) (by decide) | exact LF.row (by with_reducible assumption) | exact LF.signs (by with_reducible assumption) | exact LF.dependent (by with_reducible assumption) | exact LF.places (by with_reducible assumption) | exact LF.taken (by with_reducible assumption))
section
variable {K : Bd} {M M' : DM} {Q : DQ} {E : DX} {A : Alph} {row x y o one other du dv : List Str} {b c : Addr} {en eb ec : Std → DM → Prop} {ex : Std → DX}
theorem add_rows {xs ys : List Str} (h : xs.length + ys.length ≤ 1000) (q : Q (Enc.d (xs ++ ys)) M) : addD (Enc.d xs) (Enc.d ys) M Q :=
  add_tup (by rw [List.length_map, List.length_map]; exact Nat.le_trans h (by size_fits)) (by rw [← List.map_append]; exact q)
theorem law_p6 (F : LF K) (g : GoodA A) (hne : A.signs ≠ []) (hs : A.signs.length ≤ 3) (l : LagOf A one other du dv) (fr : Tr.Free (fr A) du dv) (ld : du.length ≤ 100 ∧ dv.length ≤ 100) (lo : o.length ≤ 100) (hb : BagAt M b c)
    {s0 s2 s6 s7 s8 s9 s10 s11 s12 s13 s14 s15 s16 s18 s19 s20 s21 s22 s23 s24 s25 s26 : Option D}
    (q : ∀ M' s24 s25, Bx b M M' → BagAt M' b c → en [s0, some (.ref b), s2, some (Enc.d A.signs), some (aD A), some (Enc.d (du, dv)), s6, s7, s8, s9, s10, s11, s12, s13, s14, s15, s16, some (Enc.d o), s18, s19, s20, s21, s22, s23, s24, s25, s26] M') :
    t_law_p6 K ⟨en, Q, eb, ec, ex⟩ [s0, some (.ref b), s2, some (Enc.d A.signs), some (aD A), some (Enc.d (du, dv)), s6, s7, s8, s9, s10, s11, s12, s13, s14, s15, s16, some (Enc.d o), s18, s19, s20, s21, s22, s23, s24, s25, s26] M := by
  walk_at "g"
  refine s_law_row (signs := A.signs) (most := 3) hb hne (by omega) (by decide) fun M1 u hu hul k1 hb1 => ?_
  walk_at "g"
  refine s_law_row (signs := A.signs) (most := 3) hb1 hne (by omega) (by decide) fun M2 v hv hvl k2 hb2 => ?_
  have k12 := k1.trans k2
  walk_at "g"
  refine ix_tup (n := 1) rfl ?_
  walk_at "g"
  refine add_rows (by simp only []; omega) ?_
  walk_at "g"
  refine add_rows (by rw [List.length_append]; simp only []; omega) ?_
  walk_at "g"
  refine ix_tup (n := 0) rfl ?_
  walk_at "g"
  refine add_rows (by simp only []; omega) ?_
  walk_at "g"
  refine add_rows (by rw [List.length_append]; simp only []; omega) ?_
  walk_at "g"
  refine s_law_by_swaps g (by rw [List.length_append, List.length_append]; simp only []; omega) (by rw [List.length_append, List.length_append]; simp only []; omega) fun r M3 hr e3 => ?_
  have hb3 := hb2.ext e3
  cases r with
  | false =>
    walk_at "g"
    exact q _ _ _ (k12.trans e3.bx) hb3
  | true =>
    walk_at "g"
    refine s_lag F g (by omega) (by omega) hu hv fun M4 e4 => ?_
    rw [l.only g fr hu hv (hr.mp rfl)]
    walk_at "g"
    refine ne_enc (c := true) (by simp) (by decide) ?_
    walk_at "g"
    exact q _ _ _ (k12.trans (e3.trans e4).bx) (hb3.ext e4)
end
end Dt

set_option Elab.async false
set_option autoImplicit false
set_option linter.all false
set_option maxRecDepth 100000
set_option maxHeartbeats 400000
namespace Dt
open PySem PySem.Spec PyProof.Rows L2 LamX RZ PySem.P
local macro_rules | `(tactic| walk_at "w1") => `(tactic| with_reducible refine StepW.go ?_)
local macro_rules | `(tactic| walk_at "w") => `(tactic| ((repeat walk_at "w1"); try (with_reducible conv => whnf)))
local macro_rules | `(tactic| walk_at "m") => `(tactic| first | with_reducible assumption | with_reducible exact put_same | (with_reducible apply Ext.get; (with_reducible assumption); walk_at "m") | (with_reducible apply Ext.get; (with_reducible apply Ext.new); (with_reducible assumption); walk_at "m"))
local macro_rules | `(tactic| walk_at "x") => `(tactic| first | with_reducible assumption | with_reducible exact Ext.refl | (with_reducible refine Ext.alloc ?_ (by with_reducible assumption) _; walk_at "x") | (with_reducible refine Ext.trans ?_ (by with_reducible assumption); walk_at "x"))
local macro_rules | `(tactic| walk_at "lk") => `(tactic| first | with_reducible exact look1 | ((with_reducible apply lookS); (with_unfolding_all decide); walk_at "lk"))
local macro_rules | `(tactic| walk_at "h1") => `(tactic| (first
  | with_reducible refine StepW.go ?_
  | with_reducible refine StepG.go ?_
  | with_reducible refine w_isTup ?_
  | ((with_reducible refine w_sz ?sz ?_); (case sz => size_fits))
  | ((with_reducible refine w_len ?sz ?_); (case sz => rfl))
  | ((with_reducible refine w_obj (by walk_at "m") ?ob2 ?_); (case ob2 => walk_at "ln"))
  | (with_reducible refine w_lenL (by walk_at "m") ?_) | (with_reducible refine w_seqL (by walk_at "m") ?_) | (with_reducible refine tup_list (by walk_at "m") ?_)
  | (with_reducible refine w_isLst (by walk_at "m") ?_) | (with_reducible refine w_slL (by walk_at "m") ?_)
  | ((with_reducible refine fld_ok (by walk_at "m") ?cl (by walk_at "lk") ?_); (case cl => walk_at "cl"))
  | (with_reducible refine w_lstL (by walk_at "m") ?_) | (with_reducible refine w_dic (by walk_at "m") ?_)
  ))
local macro_rules | `(tactic| walk_at "g1") => `(tactic| first | walk_at "h1" | with_reducible refine StepP.go ?_)
local macro_rules | `(tactic| walk_at "h") => `(tactic| ((repeat walk_at "h1"); try (with_reducible conv => whnf)))
local macro_rules | `(tactic| walk_at "g") => `(tactic| ((repeat walk_at "g1"); try (with_reducible conv => whnf)))
local macro_rules | `(tactic| walk_at "ln") => `(tactic| first | exact look_none (ns := ["row", "signs", "dependent", "places", "taken"]) rfl (by decide) | exact look_none (ns := ["alphabet", "due", "its_left", "signs", "parting"]) rfl (by decide) | exact look_none (ns := ["alphabet", "its_lag", "parting"]) rfl (by decide))
local macro_rules | `(tactic| walk_at "cl") => `(tactic| first | exact CF.get (by with_reducible assumption) (by decide) | exact LF.row (by with_reducible assumption) | exact LF.signs (by with_reducible assumption) | exact LF.dependent (by with_reducible assumption) | exact LF.places (by with_reducible assumption) | exact LF.taken (by with_reducible assumption))
section
variable {K : Bd} {M M' : DM} {Q : DQ} {E : DX} {A : Alph} {row x y o one other du dv : List Str} {b c pg : Addr} {en eb ec : Std → DM → Prop} {ex : Std → DX}
def gapL (A : Alph) (u v : List Str) : List (Str × Int) := A.signs.map fun s => (s, (u.count s : Int) - (v.count s : Int))
def gapD (A : Alph) (u v : List Str) : List D := (gapL A u v).map fun p => .tup [.str p.1, .int p.2]
theorem gapL_eq (g : GoodA A) (l : LagOf A one other du dv) : gapL A du dv = gapL A one other :=
  List.map_congr_left fun s _ => by rw [l.count g s]
theorem gapL_nodup (g : GoodA A) {u v : List Str} : ((gapL A u v).map (·.1)).Nodup := by
  unfold gapL
  rw [List.map_map]
  show (A.signs.map id).Nodup
  rw [List.map_id]
  exact g.nodup
theorem gapD_map {u v : List Str} : A.signs.map (fun s => D.tup [.str s, .int ((u.count s : Int) - (v.count s : Int))]) = gapD A u v := by
  unfold gapD gapL
  rw [List.map_map]; rfl
theorem fit_two (sh : ∀ s ∈ A.signs, ShS s) {u v : List Str} (hu : InA A u) (hv : InA A v) (lu : u.length ≤ 100) (lv : v.length ≤ 100) : Fit (Enc.p (u, v)) 1802 :=
  (fit_tup (fits_cons (fit_row (fun s hs => sh s (hu s hs)) lu) (fits_cons (fit_row (fun s hs => sh s (hv s hs)) lv) fits_nil))).mono (by decide)
theorem law_p8 (F : LF K) (g : GoodA A) (sh : ∀ s ∈ A.signs, ShS s) (hne : A.signs ≠ []) (hs : A.signs.length ≤ 3) (l : LagOf A one other du dv) (fr : Tr.Free (fr A) du dv) (ld : du.length ≤ 100 ∧ dv.length ≤ 100) (lo : o.length ≤ 100) (l1 : one.length ≤ 100 ∧ other.length ≤ 100) (hb : BagAt M b c) (hg : M pg = some (.lst (gapD A one other)))
    {s0 s2 s6 s8 s9 s10 s11 s12 s13 s14 s15 s16 s18 s21 s22 s23 s24 s25 s26 : Option D}
    (q : ∀ M' s22 s24 s25, Bx b M M' → BagAt M' b c → en [s0, some (.ref b), s2, some (Enc.d A.signs), some (aD A), some (Enc.d (du, dv)), s6, some (.ref pg), s8, s9, s10, s11, s12, s13, s14, s15, s16, some (Enc.d o), s18, some (Enc.d one), some (Enc.d other), s21, s22, s23, s24, s25, s26] M') :
    t_law_p8 K ⟨en, Q, eb, ec, ex⟩ [s0, some (.ref b), s2, some (Enc.d A.signs), some (aD A), some (Enc.d (du, dv)), s6, some (.ref pg), s8, s9, s10, s11, s12, s13, s14, s15, s16, some (Enc.d o), s18, some (Enc.d one), some (Enc.d other), s21, s22, s23, s24, s25, s26] M := by
  have hfit : fitsB A du dv = true := fitsB_iff.mpr fr
  walk_at "h"
  refine s_least_ends l.inu l.inv ld.1 ld.2 (fun _ M1 e1 => ?_) (fun h => absurd (hfit.symm.trans h) (by decide))
  walk_at "h"
  show revD (.tup [Enc.d du, Enc.d dv]) _ _
  walk_at "h"
  refine s_law_alike (p := Enc.p (dv, du)) (n := 2000) (Enc.of _ 20 (dv, du) (by decide)) (Enc.of _ 20 (dv, du) (by decide)) ((fit_two sh l.inv l.inu ld.2 ld.1).mono (by decide)) (by decide) ?_
  walk_at "h"
  simp only [Bool.not_true]
  walk_at "h"
  refine ix_tup (n := 1) rfl ?_
  walk_at "h"
  refine add_rows (by simp only []; omega) ?_
  walk_at "h"
  refine ix_tup (n := 0) rfl ?_
  walk_at "h"
  refine add_rows (by simp only []; omega) ?_
  walk_at "h"
  refine s_law_by_swaps g (by rw [List.length_append]; simp only []; omega) (by rw [List.length_append]; simp only []; omega) fun r M2 hr e2 => ?_
  obtain rfl := hr.mpr (l.join g fr)
  walk_at "g"
  simp only [Bool.not_true]
  walk_at "g"
  refine ix_tup (n := 0) rfl ?_
  walk_at "g"
  refine lc_pure du Enc.d (fun s => decide (s ∈ dv)) Enc.d (fun i M3 e3 _ => itT_at _ i M3) (by exact Nat.le_trans ld.1 (by size_fits)) ?_ ?_
  · intro i s M3 hs3 e3 KT KF kt kf
    walk_at "g"
    refine ix_tup (n := 1) rfl ?_
    walk_at "g"
    refine mem_enc (b := decide (s ∈ dv)) (by simp) (by decide) ?_
    cases hk : decide (s ∈ dv)
    · walk_at "g"
      exact kf hk _ e3
    · walk_at "g"
      exact kt hk _ e3
  · intro M3 p3 e3 hp3
    rw [free_none g fr]
    walk_at "g"
    intro p4 hp4
    walk_at "g"
    refine ne_encL (α := Str) (xs := []) (ys := []) (c := true) (by rw [put_ne (ne_of_new put_same hp4)]; exact put_same) put_same (by simp) (by decide) ?_
    have e5 := (e2.trans (e3.alloc hp3 (.lst []))).alloc hp4 (.lst [])
    walk_at "g"
    refine lc_pure A.signs D.str (fun _ => true) (fun s => D.tup [.str s, .int ((du.count s : Int) - (dv.count s : Int))]) (fun i M6 e6 _ => itT_at _ i M6) (by exact Nat.le_trans hs (by size_fits)) ?_ ?_
    · intro i s M6 hs6 e6 KT KF kt kf
      walk_at "g"
      refine ix_tup (n := 0) rfl ?_
      walk_at "g"
      refine ⟨⟨_, rfl⟩, ?_⟩
      walk_at "g"
      refine w_cnt ?_
      walk_at "g"
      refine ix_tup (n := 1) rfl ?_
      walk_at "g"
      refine ⟨⟨_, rfl⟩, ?_⟩
      walk_at "g"
      refine w_cnt ?_
      walk_at "g"
      exact kt rfl _ e6
    · intro M6 p6 e6 hp6
      rw [show A.signs.filter (fun _ => true) = A.signs from List.filter_eq_self.mpr fun _ _ => rfl, gapD_map]
      walk_at "g"
      refine w_pairs (ks := gapL A du dv) put_same (gapL_nodup g) fun p7 hp7 => ?_
      walk_at "g"
      have e16 : Ext M M6 := e1.trans (e5.trans e6)
      have n6 : pg ≠ p6 := ne_of_new (e16 _ _ hg) hp6
      have hg6 : put M6 p6 (.lst (gapD A du dv)) pg = some (.lst (gapD A one other)) := by rw [put_ne n6]; exact e16 _ _ hg
      have n7 : pg ≠ p7 := ne_of_new hg6 hp7
      refine w_pairs (ks := gapL A one other) (by rw [put_ne n7]; exact hg6) (gapL_nodup g) fun p8 hp8 => ?_
      walk_at "g"
      have n78 : p7 ≠ p8 := ne_of_new put_same hp8
      refine w_neSame (ks := gapL A one other) (by rw [put_ne n78, put_same, gapL_eq g l]) put_same (gapL_nodup g) ?_
      have e8 := ((e16.alloc hp6 (.lst (gapD A du dv))).alloc hp7 (.dK (siD (gapL A du dv)))).alloc hp8 (.dK (siD (gapL A one other)))
      revert e8
      generalize put (put (put M6 p6 (.lst (gapD A du dv))) p7 (.dK (siD (gapL A du dv)))) p8 (.dK (siD (gapL A one other))) = M8
      intro e8
      walk_at "h"
      exact law_p6 F g hne hs l fr ld lo (hb.ext e8) fun M' s24 s25 k h => q M' _ _ _ (e8.bx.trans k) h
end
end Dt

set_option Elab.async false
set_option autoImplicit false
set_option linter.all false
set_option maxRecDepth 100000
set_option maxHeartbeats 400000
namespace Dt
open PySem PySem.Spec PyProof.Rows L2 LamX RZ PySem.P
local macro_rules | `(tactic| walk_at "w1") => `(tactic| with_reducible refine StepW.go ?_)
local macro_rules | `(tactic| walk_at "w") => `(tactic| ((repeat walk_at "w1"); try (with_reducible conv => whnf)))
local macro_rules | `(tactic| walk_at "m") => `(tactic| first | with_reducible assumption | with_reducible exact put_same | (with_reducible apply Ext.get; (with_reducible assumption); walk_at "m") | (with_reducible apply Ext.get; (with_reducible apply Ext.new); (with_reducible assumption); walk_at "m"))
local macro_rules | `(tactic| walk_at "x") => `(tactic| first | with_reducible assumption | with_reducible exact Ext.refl | (with_reducible refine Ext.alloc ?_ (by with_reducible assumption) _; walk_at "x") | (with_reducible refine Ext.trans ?_ (by with_reducible assumption); walk_at "x"))
local macro_rules | `(tactic| walk_at "lk") => `(tactic| first | with_reducible exact look1 | ((with_reducible apply lookS); (with_unfolding_all decide); walk_at "lk"))
local macro_rules | `(tactic| walk_at "h1") => `(tactic| (first
  | with_reducible refine StepW.go ?_
  | with_reducible refine StepG.go ?_
  | with_reducible refine w_isTup ?_
  | ((with_reducible refine w_sz ?sz ?_); (case sz => size_fits))
  | ((with_reducible refine w_len ?sz ?_); (case sz => rfl))
  | ((with_reducible refine w_obj (by walk_at "m") ?ob2 ?_); (case ob2 => walk_at "ln"))
  | (with_reducible refine w_lenL (by walk_at "m") ?_) | (with_reducible refine w_seqL (by walk_at "m") ?_) | (with_reducible refine tup_list (by walk_at "m") ?_)
  | (with_reducible refine w_isLst (by walk_at "m") ?_) | (with_reducible refine w_slL (by walk_at "m") ?_)
  | ((with_reducible refine fld_ok (by walk_at "m") ?cl (by walk_at "lk") ?_); (case cl => walk_at "cl"))
  | (with_reducible refine w_lstL (by walk_at "m") ?_) | (with_reducible refine w_dic (by walk_at "m") ?_)
  ))
local macro_rules | `(tactic| walk_at "g1") => `(tactic| first | walk_at "h1" | with_reducible refine StepP.go ?_)
local macro_rules | `(tactic| walk_at "h") => `(tactic| ((repeat walk_at "h1"); try (with_reducible conv => whnf)))
local macro_rules | `(tactic| walk_at "g") => `(tactic| ((repeat walk_at "g1"); try (with_reducible conv => whnf)))
local macro_rules | `(tactic| walk_at "ln") => `(tactic| first | exact look_none (ns := ["row", "signs", "dependent", "places", "taken"]) rfl (by decide) | exact look_none (ns := ["alphabet", "due", "its_left", "signs", "parting"]) rfl (by decide) | exact look_none (ns := ["alphabet", "its_lag", "parting"]) rfl (by decide))
local macro_rules | `(tactic| walk_at "cl") => `(tactic| first | exact CF.get (by with_reducible assumption) (by decide) | exact LF.row (by with_reducible assumption) | exact LF.signs (by with_reducible assumption) | exact LF.dependent (by with_reducible assumption) | exact LF.places (by with_reducible assumption) | exact LF.taken (by with_reducible assumption))
section
variable {K : Bd} {M M' : DM} {Q : DQ} {E : DX} {A : Alph} {row x y o one other du dv : List Str} {b c pg : Addr} {en eb ec : Std → DM → Prop} {ex : Std → DX}
/-- what holds of the law's rows in a lap -/
structure Lap (A : Alph) (x y o p one other du dv : List Str) : Prop where
  g : GoodA A
  sh : ∀ s ∈ A.signs, ShS s
  ne : A.signs ≠ []
  few : A.signs.length ≤ 3
  l : LagOf A one other du dv
  ld : du.length ≤ 100 ∧ dv.length ≤ 100
  lo : o.length ≤ 100 ∧ p.length ≤ 100
  lx : x.length ≤ 100 ∧ y.length ≤ 100
  l1 : one.length ≤ 100 ∧ other.length ≤ 100
  io : InA A o ∧ InA A p
  i1 : InA A one ∧ InA A other
theorem law_p9 (F : LF K) {p : List Str} {tr : Bool} (hf : fitsB A du dv = tr) (L : Lap A x y o p one other du dv) (hb : BagAt M b c) (hg : M pg = some (.lst (gapD A one other)))
    {s0 s2 s8 s9 s10 s11 s12 s13 s14 s18 s21 s22 s23 s24 s25 s26 : Option D}
    (q : ∀ M' s12 s13 s22 s24 s25, Bx b M M' → BagAt M' b c → en [s0, some (.ref b), s2, some (Enc.d A.signs), some (aD A), some (Enc.d (du, dv)), some (.bl tr), some (.ref pg), s8, s9, s10, s11, s12, s13, s14, some (Enc.d x), some (Enc.d y), some (Enc.d o), s18, some (Enc.d one), some (Enc.d other), s21, s22, s23, s24, s25, s26] M') :
    t_law_p9 K ⟨en, Q, eb, ec, ex⟩ [s0, some (.ref b), s2, some (Enc.d A.signs), some (aD A), some (Enc.d (du, dv)), some (.bl tr), some (.ref pg), s8, s9, s10, s11, s12, s13, s14, some (Enc.d x), some (Enc.d y), some (Enc.d o), s18, some (Enc.d one), some (Enc.d other), s21, s22, s23, s24, s25, s26] M := by
  cases tr
  · walk_at "g1"
    walk_at "h"
    refine s_least_ends L.l.inu L.l.inv L.ld.1 L.ld.2 (fun h => absurd (hf.symm.trans h) (by decide)) (fun _ M1 e1 => ⟨rfl, ?_⟩)
    walk_at "h"
    refine ne_enc (α := List Str) (a := ["nothing"]) (b := ["nothing"]) (c := true) (by simp) (by decide) ?_
    walk_at "h"
    try simp only [Bool.not_true]
    walk_at "h"
    exact law_p4 F L.g L.ld L.lx L.l1.1 fun M2 s12 s13 e2 => q _ _ _ _ _ _ (e1.trans e2).bx (hb.ext (e1.trans e2))
  · walk_at "g1"
    walk_at "h"
    refine law_p8 F L.g L.sh L.ne L.few L.l (fitsB_iff.mp hf) L.ld L.lo.1 L.l1 hb hg fun M2 s22 s24 s25 k2 hb2 => ?_
    exact law_p4 F L.g L.ld L.lx L.l1.1 fun M3 s12 s13 e3 => q _ _ _ _ _ _ (k2.trans e3.bx) (hb2.ext e3)
end
end Dt

set_option Elab.async false
set_option autoImplicit false
set_option linter.all false
set_option maxRecDepth 100000
set_option maxHeartbeats 400000
namespace Dt
open PySem PySem.Spec PyProof.Rows L2 LamX RZ PySem.P
local macro_rules | `(tactic| walk_at "w1") => `(tactic| with_reducible refine StepW.go ?_)
local macro_rules | `(tactic| walk_at "w") => `(tactic| ((repeat walk_at "w1"); try (with_reducible conv => whnf)))
local macro_rules | `(tactic| walk_at "m") => `(tactic| first | with_reducible assumption | with_reducible exact put_same | (with_reducible apply Ext.get; (with_reducible assumption); walk_at "m") | (with_reducible apply Ext.get; (with_reducible apply Ext.new); (with_reducible assumption); walk_at "m"))
local macro_rules | `(tactic| walk_at "x") => `(tactic| first | with_reducible assumption | with_reducible exact Ext.refl | (with_reducible refine Ext.alloc ?_ (by with_reducible assumption) _; walk_at "x") | (with_reducible refine Ext.trans ?_ (by with_reducible assumption); walk_at "x"))
local macro_rules | `(tactic| walk_at "lk") => `(tactic| first | with_reducible exact look1 | ((with_reducible apply lookS); (with_unfolding_all decide); walk_at "lk"))
local macro_rules | `(tactic| walk_at "h1") => `(tactic| (first
  | with_reducible refine StepW.go ?_
  | with_reducible refine StepG.go ?_
  | with_reducible refine w_isTup ?_
  | ((with_reducible refine w_sz ?sz ?_); (case sz => size_fits))
  | ((with_reducible refine w_len ?sz ?_); (case sz => rfl))
  | ((with_reducible refine w_obj (by walk_at "m") ?ob2 ?_); (case ob2 => walk_at "ln"))
  | (with_reducible refine w_lenL (by walk_at "m") ?_) | (with_reducible refine w_seqL (by walk_at "m") ?_) | (with_reducible refine tup_list (by walk_at "m") ?_)
  | (with_reducible refine w_isLst (by walk_at "m") ?_) | (with_reducible refine w_slL (by walk_at "m") ?_)
  | ((with_reducible refine fld_ok (by walk_at "m") ?cl (by walk_at "lk") ?_); (case cl => walk_at "cl"))
  | (with_reducible refine w_lstL (by walk_at "m") ?_) | (with_reducible refine w_dic (by walk_at "m") ?_)
  ))
local macro_rules | `(tactic| walk_at "g1") => `(tactic| first | walk_at "h1" | with_reducible refine StepP.go ?_)
local macro_rules | `(tactic| walk_at "h") => `(tactic| ((repeat walk_at "h1"); try (with_reducible conv => whnf)))
local macro_rules | `(tactic| walk_at "g") => `(tactic| ((repeat walk_at "g1"); try (with_reducible conv => whnf)))
local macro_rules | `(tactic| walk_at "ln") => `(tactic| first | exact look_none (ns := ["row", "signs", "dependent", "places", "taken"]) rfl (by decide) | exact look_none (ns := ["alphabet", "due", "its_left", "signs", "parting"]) rfl (by decide) | exact look_none (ns := ["alphabet", "its_lag", "parting"]) rfl (by decide))
local macro_rules | `(tactic| walk_at "cl") => `(tactic| first | exact CF.get (by with_reducible assumption) (by decide) | exact LF.row (by with_reducible assumption) | exact LF.signs (by with_reducible assumption) | exact LF.dependent (by with_reducible assumption) | exact LF.places (by with_reducible assumption) | exact LF.taken (by with_reducible assumption))
section
variable {K : Bd} {M M' : DM} {Q : DQ} {E : DX} {A : Alph} {row x y o p one other du dv : List Str} {b c pg pc pe pr : Addr} {en eb ec : Std → DM → Prop} {ex : Std → DX}
theorem law_p10 (F : LF K) {tr : Bool} (hf : fitsB A du dv = tr) (L : Lap A x y o p one other du dv) (hb : BagAt M b c) (hg : M pg = some (.lst (gapD A one other))) {es : List (List Str × List Str)} (he : M pe = some (.lst (es.map Enc.d))) (hl : es.length ≤ 10000) (hes : ∀ e ∈ es, (InA A e.1 ∧ e.1.length ≤ 3) ∧ (InA A e.2 ∧ e.2.length ≤ 3) ∧ Tq A (one ++ e.1) (other ++ e.2))
    {s0 s2 s8 s9 s10 s12 s13 s14 s18 s21 s22 s23 s24 s25 s26 : Option D}
    (q : ∀ M' s12 s13 s22 s23 s24 s25, Bx b M M' → BagAt M' b c → en [s0, some (.ref b), s2, some (Enc.d A.signs), some (aD A), some (Enc.d (du, dv)), some (.bl tr), some (.ref pg), s8, s9, s10, some (.ref pe), s12, s13, s14, some (Enc.d x), some (Enc.d y), some (Enc.d o), s18, some (Enc.d one), some (Enc.d other), s21, s22, s23, s24, s25, s26] M') :
    t_law_p10 K ⟨en, Q, eb, ec, ex⟩ [s0, some (.ref b), s2, some (Enc.d A.signs), some (aD A), some (Enc.d (du, dv)), some (.bl tr), some (.ref pg), s8, s9, s10, some (.ref pe), s12, s13, s14, some (Enc.d x), some (Enc.d y), some (Enc.d o), s18, some (Enc.d one), some (Enc.d other), s21, s22, s23, s24, s25, s26] M := by
  have hfit : es ≠ [] → tr = true := fun h => by
    obtain ⟨e, r, rfl⟩ := List.exists_cons_of_ne_nil h
    rw [← hf]
    exact fitsB_iff.mpr (L.l.free L.g (hes e List.mem_cons_self).2.2)
  walk_at "g1"
  walk_at "h"
  intro p1 hp1
  walk_at "h"
  have n1 : pe ≠ p1 := ne_of_new he hp1
  refine ne_encL (α := List Str × List Str) (xs := es) (ys := []) (c := decide (es = [])) (by rw [put_ne n1]; exact he) put_same (by simp) (by decide) ?_
  have e1 : Ext M (put M p1 (.lst [])) := (Ext.refl).alloc hp1 _
  revert e1
  generalize put M p1 (.lst []) = M1
  intro e1
  have he1 := e1 _ _ he
  have hg1 := e1 _ _ hg
  have hb1 := hb.ext e1
  -- the second question
  have snd : ∀ (Qc : DQ), (∀ M2 p2, Ext M1 M2 → M2 p2 = none → Qc (.ref p2) (put M2 p2 (.lst []))) → ∃ n, lcN (itL pe) (gNm 23) (dB (dOp neD (dCall (sp_behind K) (dCons (dVar 4) (dCons (dVar 5) (dCons (dOp ixD (dVar 23) (dC (.int 0))) (dCons (dOp ixD (dVar 23) (dC (.int 1))) dNil))))) (dTup (dCons (dTup dNil) (dCons (dTup dNil) dNil))))) (dVar 23) [23] [s0, some (.ref b), s2, some (Enc.d A.signs), some (aD A), some (Enc.d (du, dv)), some (.bl tr), some (.ref pg), s8, s9, s10, some (.ref pe), s12, s13, s14, some (Enc.d x), some (Enc.d y), some (Enc.d o), s18, some (Enc.d one), some (Enc.d other), s21, s22, s23, s24, s25, s26] Qc n 0 M1 [] := by
    intro Qc kk
    refine lc_inv (es.map Enc.d) (fun i acc M' => Ext M1 M' ∧ acc = []) (fun i acc M' h hi => itL_is (h.1 _ _ he1) i) ⟨.refl, rfl⟩ (by rw [List.length_map]; exact Nat.le_trans hl (by size_fits)) (fun i acc M' h => by rw [h.2]; exact Nat.zero_le _) ?_ ?_
    · rintro i d acc M2 hd ⟨e2, rfl⟩ KT KF kt kf
      rw [List.getElem?_map] at hd
      cases hx : es[i]? with
      | none => rw [hx] at hd; cases hd
      | some z =>
        rw [hx] at hd; cases hd
        obtain ⟨⟨i1, l1⟩, ⟨i2, l2⟩, tq⟩ := hes z (List.mem_of_getElem? hx)
        obtain ⟨z1, z2⟩ := z
        simp only [] at i1 l1 i2 l2 tq
        have := L.ld
        walk_at "g"
        refine ix_tup (n := 0) rfl ?_
        walk_at "g"
        refine ix_tup (n := 1) rfl ?_
        walk_at "g"
        refine s_behind F L.g (by simp only []; omega) (by simp only []; omega) L.l.inu L.l.inv i1 i2 fun M3 e3 => ?_
        rw [lag_nil L.g (L.l.inu.app i1) (L.l.inv.app i2) (L.l.ends tq)]
        walk_at "g"
        refine ne_enc (α := List Str × List Str) (a := ([], [])) (b := ([], [])) (c := true) (by simp) (by decide) ?_
        walk_at "g"
        exact kf _ ⟨e2.trans e3, rfl⟩
    · rintro acc M2 p2 ⟨e2, rfl⟩ hp2
      exact kk _ _ e2 hp2
  have nxt : ∀ M2, Ext M1 M2 → t_law_p9 K ⟨en, Q, eb, ec, ex⟩ [s0, some (.ref b), s2, some (Enc.d A.signs), some (aD A), some (Enc.d (du, dv)), some (.bl tr), some (.ref pg), s8, s9, s10, some (.ref pe), s12, s13, s14, some (Enc.d x), some (Enc.d y), some (Enc.d o), s18, some (Enc.d one), some (Enc.d other), s21, s22, s23, s24, s25, s26] M2 := fun M2 e2 =>
    law_p9 F hf L (hb1.ext e2) (e2 _ _ hg1) fun M3 s12 s13 s22 s24 s25 k3 h3 => q _ _ _ _ _ _ _ ((e1.trans e2).bx.trans k3) h3
  cases hz : decide (es = [])
  · obtain rfl := hfit (of_decide_eq_false hz)
    walk_at "h"
    try simp only [Bool.not_true]
    walk_at "h"
    refine snd _ fun M2 p2 e2 hp2 => ?_
    walk_at "h"
    intro p3 hp3
    walk_at "h"
    refine ne_encL (α := Str) (xs := []) (ys := []) (c := true) (by rw [put_ne (ne_of_new put_same hp3)]; exact put_same) put_same (by simp) (by decide) ?_
    walk_at "h"
    try simp only [Bool.not_true]
    walk_at "h"
    exact nxt _ ((e2.alloc hp2 _).alloc hp3 _)
  · walk_at "h"
    try simp only [Bool.not_true]
    walk_at "h"
    refine snd _ fun M2 p2 e2 hp2 => ?_
    walk_at "h"
    intro p3 hp3
    walk_at "h"
    refine ne_encL (α := Str) (xs := []) (ys := []) (c := true) (by rw [put_ne (ne_of_new put_same hp3)]; exact put_same) put_same (by simp) (by decide) ?_
    walk_at "h"
    try simp only [Bool.not_true]
    walk_at "h"
    exact nxt _ ((e2.alloc hp2 _).alloc hp3 _)
end
end Dt

set_option Elab.async false
set_option autoImplicit false
set_option linter.all false
set_option maxRecDepth 100000
set_option maxHeartbeats 400000
namespace Dt
open PySem PySem.Spec PyProof.Rows L2 LamX RZ PySem.P
local macro_rules | `(tactic| walk_at "w1") => `(tactic| with_reducible refine StepW.go ?_)
local macro_rules | `(tactic| walk_at "w") => `(tactic| ((repeat walk_at "w1"); try (with_reducible conv => whnf)))
local macro_rules | `(tactic| walk_at "m") => `(tactic| first | with_reducible assumption | with_reducible exact put_same | (with_reducible apply Ext.get; (with_reducible assumption); walk_at "m") | (with_reducible apply Ext.get; (with_reducible apply Ext.new); (with_reducible assumption); walk_at "m"))
local macro_rules | `(tactic| walk_at "x") => `(tactic| first | with_reducible assumption | with_reducible exact Ext.refl | (with_reducible refine Ext.alloc ?_ (by with_reducible assumption) _; walk_at "x") | (with_reducible refine Ext.trans ?_ (by with_reducible assumption); walk_at "x"))
local macro_rules | `(tactic| walk_at "lk") => `(tactic| first | with_reducible exact look1 | ((with_reducible apply lookS); (with_unfolding_all decide); walk_at "lk"))
local macro_rules | `(tactic| walk_at "h1") => `(tactic| (first
  | with_reducible refine StepW.go ?_
  | with_reducible refine StepG.go ?_
  | with_reducible refine w_isTup ?_
  | ((with_reducible refine w_sz ?sz ?_); (case sz => size_fits))
  | ((with_reducible refine w_len ?sz ?_); (case sz => rfl))
  | ((with_reducible refine w_obj (by walk_at "m") ?ob2 ?_); (case ob2 => walk_at "ln"))
  | (with_reducible refine w_lenL (by walk_at "m") ?_) | (with_reducible refine w_seqL (by walk_at "m") ?_) | (with_reducible refine tup_list (by walk_at "m") ?_)
  | (with_reducible refine w_isLst (by walk_at "m") ?_) | (with_reducible refine w_slL (by walk_at "m") ?_)
  | ((with_reducible refine fld_ok (by walk_at "m") ?cl (by walk_at "lk") ?_); (case cl => walk_at "cl"))
  | (with_reducible refine w_lstL (by walk_at "m") ?_) | (with_reducible refine w_dic (by walk_at "m") ?_)
  ))
local macro_rules | `(tactic| walk_at "g1") => `(tactic| first | walk_at "h1" | with_reducible refine StepP.go ?_)
local macro_rules | `(tactic| walk_at "h") => `(tactic| ((repeat walk_at "h1"); try (with_reducible conv => whnf)))
local macro_rules | `(tactic| walk_at "g") => `(tactic| ((repeat walk_at "g1"); try (with_reducible conv => whnf)))
local macro_rules | `(tactic| walk_at "ln") => `(tactic| first | exact look_none (ns := ["row", "signs", "dependent", "places", "taken"]) rfl (by decide) | exact look_none (ns := ["alphabet", "due", "its_left", "signs", "parting"]) rfl (by decide) | exact look_none (ns := ["alphabet", "its_lag", "parting"]) rfl (by decide))
local macro_rules | `(tactic| walk_at "cl") => `(tactic| first | exact CF.get (by with_reducible assumption) (by decide) | exact LF.row (by with_reducible assumption) | exact LF.signs (by with_reducible assumption) | exact LF.dependent (by with_reducible assumption) | exact LF.places (by with_reducible assumption) | exact LF.taken (by with_reducible assumption))
section
variable {K : Bd} {M M' : DM} {Q : DQ} {E : DX} {A : Alph} {row x y o p one other du dv : List Str} {b c pg pc pe pr : Addr} {en eb ec : Std → DM → Prop} {ex : Std → DX}
theorem law_p11 (F : LF K) {tr : Bool} (hf : fitsB A du dv = tr) (L : Lap A x y o p one other du dv) (hb : BagAt M b c) (hg : M pg = some (.lst (gapD A one other))) {cs : List (List Str × List Str)} (hc : M pc = some (.lst (cs.map Enc.d))) (hl : cs.length ≤ 10000) (hcs : ∀ e ∈ cs, (InA A e.1 ∧ e.1.length ≤ 3) ∧ (InA A e.2 ∧ e.2.length ≤ 3))
    {s0 s2 s8 s9 s11 s12 s13 s14 s18 s21 s22 s23 s24 s25 s26 : Option D}
    (q : ∀ M' s11 s12 s13 s22 s23 s24 s25, Bx b M M' → BagAt M' b c → en [s0, some (.ref b), s2, some (Enc.d A.signs), some (aD A), some (Enc.d (du, dv)), some (.bl tr), some (.ref pg), s8, s9, some (.ref pc), s11, s12, s13, s14, some (Enc.d x), some (Enc.d y), some (Enc.d o), s18, some (Enc.d one), some (Enc.d other), s21, s22, s23, s24, s25, s26] M') :
    t_law_p11 K ⟨en, Q, eb, ec, ex⟩ [s0, some (.ref b), s2, some (Enc.d A.signs), some (aD A), some (Enc.d (du, dv)), some (.bl tr), some (.ref pg), s8, s9, some (.ref pc), s11, s12, s13, s14, some (Enc.d x), some (Enc.d y), some (Enc.d o), s18, some (Enc.d one), some (Enc.d other), s21, s22, s23, s24, s25, s26] M := by
  walk_at "g1"
  walk_at "h"
  refine lc_inv (cs.map Enc.d) (fun i acc M' => Ext M M' ∧ ∃ es : List (List Str × List Str), acc = es.map Enc.d ∧ es.length ≤ i ∧ ∀ e ∈ es, (InA A e.1 ∧ e.1.length ≤ 3) ∧ (InA A e.2 ∧ e.2.length ≤ 3) ∧ Tq A (one ++ e.1) (other ++ e.2)) (fun i acc M' h hi => itL_is (h.1 _ _ hc) i) ⟨.refl, [], rfl, Nat.le_refl _, by simp⟩ (by rw [List.length_map]; exact Nat.le_trans hl (by size_fits)) (fun i acc M' h => by obtain ⟨_, es, rfl, h, _⟩ := h; rw [List.length_map]; exact h) ?_ ?_
  · rintro i d acc M2 hd ⟨e2, es, rfl, hlen, hes⟩ KT KF kt kf
    rw [List.getElem?_map] at hd
    cases hx : cs[i]? with
    | none => rw [hx] at hd; cases hd
    | some z =>
      rw [hx] at hd; cases hd
      obtain ⟨⟨i1, l1⟩, ⟨i2, l2⟩⟩ := hcs z (List.mem_of_getElem? hx)
      obtain ⟨z1, z2⟩ := z
      simp only [] at i1 l1 i2 l2
      have := L.l1
      walk_at "g"
      refine ix_tup (n := 0) rfl ?_
      walk_at "g"
      refine add_rows (by simp only []; omega) ?_
      walk_at "g"
      refine ix_tup (n := 1) rfl ?_
      walk_at "g"
      refine add_rows (by simp only []; omega) ?_
      walk_at "g"
      refine s_law_by_swaps L.g (by rw [List.length_append]; simp only []; omega) (by rw [List.length_append]; simp only []; omega) fun r M3 hr e3 => ?_
      cases r with
      | false =>
        walk_at "g"
        exact kf _ ⟨e2.trans e3, es, rfl, Nat.le_succ_of_le hlen, hes⟩
      | true =>
        walk_at "g"
        refine kt _ _ ⟨e2.trans e3, es ++ [(z1, z2)], by rw [List.map_append]; rfl, by rw [List.length_append, List.length_singleton]; omega, fun e he => ?_⟩
        rcases List.mem_append.mp he with h | h
        · exact hes e h
        · rw [List.mem_singleton.mp h]
          exact ⟨⟨i1, l1⟩, ⟨i2, l2⟩, hr.mp rfl⟩
  · rintro acc M2 p2 ⟨e2, es, rfl, hlen, hes⟩ hp2
    rw [List.length_map] at hlen
    have e3 := e2.alloc hp2 (.lst (es.map Enc.d))
    walk_at "h"
    exact law_p10 F hf L (hb.ext e3) (e3 _ _ hg) put_same (by omega) hes fun M3 s12 s13 s22 s23 s24 s25 k3 h3 => q _ _ _ _ _ _ _ _ (e3.bx.trans k3) h3
theorem law_p13 (F : LF K) {tr : Bool} (hf : fitsB A du dv = tr) (L : Lap A x y o p one other du dv) (hb : BagAt M b c) (hg : M pg = some (.lst (gapD A one other)))
    {s0 s2 s8 s9 s10 s11 s12 s13 s14 s18 s21 s22 s23 s24 s25 s26 : Option D}
    (q : ∀ M' s9 s10 s11 s12 s13 s22 s23 s24 s25, Bx b M M' → BagAt M' b c → en [s0, some (.ref b), s2, some (Enc.d A.signs), some (aD A), some (Enc.d (du, dv)), some (.bl tr), some (.ref pg), s8, s9, s10, s11, s12, s13, s14, some (Enc.d x), some (Enc.d y), some (Enc.d o), s18, some (Enc.d one), some (Enc.d other), s21, s22, s23, s24, s25, s26] M') :
    t_law_p13 K ⟨en, Q, eb, ec, ex⟩ [s0, some (.ref b), s2, some (Enc.d A.signs), some (aD A), some (Enc.d (du, dv)), some (.bl tr), some (.ref pg), s8, s9, s10, s11, s12, s13, s14, some (Enc.d x), some (Enc.d y), some (Enc.d o), s18, some (Enc.d one), some (Enc.d other), s21, s22, s23, s24, s25, s26] M := by
  walk_at "g1"
  walk_at "h"
  refine s_law_rows L.few fun M1 p1 rs e1 h1 hrs => ?_
  walk_at "h"
  walk_at "g1"
  walk_at "h"
  intro p2 hp2
  rw [show (20 : Int) = ((20 : Nat) : Int) from rfl, cut_to, ← List.map_take]
  walk_at "h"
  have e2 := e1.alloc hp2 (.lst ((rs.take 20).map Enc.d))
  refine s_law_couples (rs := rs.take 20) (Nat.le_trans (List.length_take_le _ _) (by decide)) put_same fun M3 p3 e3 h3 => ?_
  walk_at "h"
  have e13 := e2.trans e3
  refine law_p11 F hf L (hb.ext e13) (e13 _ _ hg) h3 ?_ ?_ fun M4 s11 s12 s13 s22 s23 s24 s25 k4 h4 => q _ _ _ _ _ _ _ _ _ _ (e13.bx.trans k4) h4
  · rw [List.length_flatMap]
    simp only [List.length_map]
    rw [sum_const]
    have : (rs.take 20).length ≤ 20 := List.length_take_le _ _
    exact Nat.le_trans (Nat.mul_le_mul this this) (by decide)
  · intro e he
    obtain ⟨r, hr, he⟩ := List.mem_flatMap.mp he
    obtain ⟨s, hs, rfl⟩ := List.mem_map.mp he
    exact ⟨hrs.of r (List.mem_of_mem_take hr), hrs.of s (List.mem_of_mem_take hs)⟩
end
end Dt

set_option Elab.async false
set_option autoImplicit false
set_option linter.all false
set_option maxRecDepth 100000
set_option maxHeartbeats 400000
namespace Dt
open PySem PySem.Spec PyProof.Rows L2 LamX RZ PySem.P
local macro_rules | `(tactic| walk_at "w1") => `(tactic| with_reducible refine StepW.go ?_)
local macro_rules | `(tactic| walk_at "w") => `(tactic| ((repeat walk_at "w1"); try (with_reducible conv => whnf)))
local macro_rules | `(tactic| walk_at "m") => `(tactic| first | with_reducible assumption | with_reducible exact put_same | (with_reducible apply Ext.get; (with_reducible assumption); walk_at "m") | (with_reducible apply Ext.get; (with_reducible apply Ext.new); (with_reducible assumption); walk_at "m"))
local macro_rules | `(tactic| walk_at "x") => `(tactic| first | with_reducible assumption | with_reducible exact Ext.refl | (with_reducible refine Ext.alloc ?_ (by with_reducible assumption) _; walk_at "x") | (with_reducible refine Ext.trans ?_ (by with_reducible assumption); walk_at "x"))
local macro_rules | `(tactic| walk_at "lk") => `(tactic| first | with_reducible exact look1 | ((with_reducible apply lookS); (with_unfolding_all decide); walk_at "lk"))
local macro_rules | `(tactic| walk_at "h1") => `(tactic| (first
  | with_reducible refine StepW.go ?_
  | with_reducible refine StepG.go ?_
  | with_reducible refine w_isTup ?_
  | ((with_reducible refine w_sz ?sz ?_); (case sz => size_fits))
  | ((with_reducible refine w_len ?sz ?_); (case sz => rfl))
  | ((with_reducible refine w_obj (by walk_at "m") ?ob2 ?_); (case ob2 => walk_at "ln"))
  | (with_reducible refine w_lenL (by walk_at "m") ?_) | (with_reducible refine w_seqL (by walk_at "m") ?_) | (with_reducible refine tup_list (by walk_at "m") ?_)
  | (with_reducible refine w_isLst (by walk_at "m") ?_) | (with_reducible refine w_slL (by walk_at "m") ?_)
  | ((with_reducible refine fld_ok (by walk_at "m") ?cl (by walk_at "lk") ?_); (case cl => walk_at "cl"))
  | (with_reducible refine w_lstL (by walk_at "m") ?_) | (with_reducible refine w_dic (by walk_at "m") ?_)
  ))
local macro_rules | `(tactic| walk_at "g1") => `(tactic| first | walk_at "h1" | with_reducible refine StepP.go ?_)
local macro_rules | `(tactic| walk_at "h") => `(tactic| ((repeat walk_at "h1"); try (with_reducible conv => whnf)))
local macro_rules | `(tactic| walk_at "g") => `(tactic| ((repeat walk_at "g1"); try (with_reducible conv => whnf)))
local macro_rules | `(tactic| walk_at "ln") => `(tactic| first | exact look_none (ns := ["row", "signs", "dependent", "places", "taken"]) rfl (by decide) | exact look_none (ns := ["alphabet", "due", "its_left", "signs", "parting"]) rfl (by decide) | exact look_none (ns := ["alphabet", "its_lag", "parting"]) rfl (by decide))
local macro_rules | `(tactic| walk_at "cl") => `(tactic| first | exact CF.get (by with_reducible assumption) (by decide) | exact LF.row (by with_reducible assumption) | exact LF.signs (by with_reducible assumption) | exact LF.dependent (by with_reducible assumption) | exact LF.places (by with_reducible assumption) | exact LF.taken (by with_reducible assumption))
section
variable {K : Bd} {M M' : DM} {Q : DQ} {E : DX} {A : Alph} {row x y o p one other du dv : List Str} {b c pg pc pe pr pf : Addr} {en eb ec : Std → DM → Prop} {ex : Std → DX}
theorem gap_diff : (gapL A x y).filter (fun z => !decide (z.2 = 0)) = diffL A x y := by
  unfold gapL diffL
  rw [List.filter_map]
  congr 1
  refine List.filter_congr fun s _ => ?_
  show (!decide ((x.count s : Int) - (y.count s : Int) = 0)) = decide (x.count s ≠ y.count s)
  rw [Bool.eq_iff_iff]
  simp only [Bool.not_eq_true', decide_eq_false_iff_not, decide_eq_true_eq]
  omega
theorem fit_diffs (sh : ∀ s ∈ A.signs, ShS s) (hf : A.signs.length ≤ 3) (hx : x.length ≤ 100) (hy : y.length ≤ 100) : Fit (Enc.p (diffL A x y)) 156 := by
  have h : Fits ((diffL A x y).map (Enc.p (α := Str × Int))) ((diffL A x y).length * (51 + 1)) := fits_map _ fun z hz => by
    obtain ⟨s, hs, rfl⟩ := List.mem_map.mp hz
    have h1 : x.count s ≤ x.length := List.count_le_length
    have h2 : y.count s ≤ y.length := List.count_le_length
    have h3 : (101 : Nat) < 10 ^ 12 := by decide
    exact fit_tup (fits_cons (fit_str (sh s (List.mem_filter.mp hs).1)) (fits_cons (fit_int (by omega)) fits_nil))
  refine (fit_tup h).mono ?_
  have : (diffL A x y).length ≤ 3 := by
    unfold diffL
    rw [List.length_map]
    exact Nat.le_trans (List.length_filter_le _ _) hf
  exact Nat.mul_le_mul_right 52 this
theorem law_p15 (F : LF K) {tr : Bool} (hf : fitsB A du dv = tr) (L : Lap A x y o p one other du dv) (hlag : lagL A one other = (du, dv)) (hb : BagAt M b c) (hg : M pg = some (.lst (gapD A one other)))
    {s0 s2 s8 s9 s10 s11 s12 s13 s14 s21 s22 s23 s24 s25 s26 : Option D}
    (q : ∀ M' s8 s9 s10 s11 s12 s13 s22 s23 s24 s25, Bx b M M' → BagAt M' b c → en [s0, some (.ref b), s2, some (Enc.d A.signs), some (aD A), some (Enc.d (du, dv)), some (.bl tr), some (.ref pg), s8, s9, s10, s11, s12, s13, s14, some (Enc.d x), some (Enc.d y), some (Enc.d o), some (Enc.d p), some (Enc.d one), some (Enc.d other), s21, s22, s23, s24, s25, s26] M') :
    t_law_p15 K ⟨en, Q, eb, ec, ex⟩ [s0, some (.ref b), s2, some (Enc.d A.signs), some (aD A), some (Enc.d (du, dv)), some (.bl tr), some (.ref pg), s8, s9, s10, s11, s12, s13, s14, some (Enc.d x), some (Enc.d y), some (Enc.d o), some (Enc.d p), some (Enc.d one), some (Enc.d other), s21, s22, s23, s24, s25, s26] M := by
  have := L.l1
  have := L.ld
  have := L.lo
  walk_at "g1"
  walk_at "h"
  refine s_lag F L.g (by omega) (by omega) L.i1.1 L.i1.2 fun M1 e1 => ?_
  rw [hlag]
  walk_at "h"
  refine s_fits L.l.inu L.l.inv L.ld.1 L.ld.2 fun M2 e2 => ?_
  rw [hf]
  walk_at "h"
  refine s_turned ?_
  walk_at "h"
  refine s_difference (by have := L.few; omega) fun M3 e3 => ?_
  rw [show (D.tup ((diffL A one other).map fun p => D.tup [.str p.1, .int p.2])) = Enc.d (diffL A one other) from rfl]
  walk_at "h"
  refine s_behind F L.g (by omega) (by omega) L.l.inu L.l.inv L.io.1 L.io.2 fun M4 e4 => ?_
  have hbe := lag_behind L.g L.i1.1 L.i1.2 L.io.1 L.io.2
  rw [hlag] at hbe
  simp only [] at hbe
  rw [hbe]
  walk_at "h"
  intro pf hpf
  walk_at "h"
  have e14 := e1.trans (e2.trans (e3.trans e4))
  revert e14
  have hpf2 : put M4 pf (DO.lst [Enc.d (du, dv), D.bl tr, Enc.d (dv, du), Enc.d (diffL A one other), Enc.d (lagL A (one ++ o) (other ++ p))]) pf = some (DO.lst [Enc.d (du, dv), D.bl tr, Enc.d (dv, du), Enc.d (diffL A one other), Enc.d (lagL A (one ++ o) (other ++ p))]) := put_same
  have hs5 := (Ext.refl (M := M4)).alloc hpf (DO.lst [Enc.d (du, dv), D.bl tr, Enc.d (dv, du), Enc.d (diffL A one other), Enc.d (lagL A (one ++ o) (other ++ p))])
  revert hpf2 hs5
  generalize put M4 pf (DO.lst [Enc.d (du, dv), D.bl tr, Enc.d (dv, du), Enc.d (diffL A one other), Enc.d (lagL A (one ++ o) (other ++ p))]) = M5
  intro hpf2 hs5 e14
  have e15 := e14.trans hs5
  have hg5 := e15 _ _ hg
  walk_at "g1"
  walk_at "h"
  show revD (.tup [Enc.d du, Enc.d dv]) _ _
  walk_at "h"
  refine lc_pure (gapL A one other) (fun z => D.tup [.str z.1, .int z.2]) (fun z => !decide (z.2 = 0)) Enc.d (fun i M6 e6 _ => itL_is (e6 _ _ hg5) i) ?_ ?_ ?_
  · unfold gapL
    rw [List.length_map]
    exact Nat.le_trans L.few (by size_fits)
  · intro i z M6 hz e6 KT KF kt kf
    walk_at "g"
    refine ix_tup (n := 1) rfl ?_
    walk_at "g"
    cases hk : decide (z.2 = 0)
    · walk_at "g"
      exact kt (by rw [hk]; rfl) _ e6
    · walk_at "g"
      exact kf (by rw [hk]; rfl) _ e6
  · intro M6 p6 e6 hp6
    rw [gap_diff]
    walk_at "h"
    have l1 := L.l1
    have lo := L.lo
    refine add_rows (by omega) ?_
    walk_at "h"
    refine add_rows (by omega) ?_
    walk_at "h"
    refine s_law_lag_of L.g (by rw [List.length_append]; omega) (by rw [List.length_append]; omega) (L.i1.1.app L.io.1) (L.i1.2.app L.io.2) fun M7 e7 => ?_
    walk_at "h"
    intro p8 hp8
    walk_at "h"
    have e57 : Ext M5 M7 := (e6.alloc hp6 _).trans e7
    have e8 := e57.alloc hp8 (DO.lst [Enc.d (du, dv), D.bl tr, Enc.d (dv, du), Enc.d (diffL A one other), Enc.d (lagL A (one ++ o) (other ++ p))])
    have hof : ∀ MM : DM, PyOfs MM 19 [Enc.d (du, dv), D.bl tr, Enc.d (dv, du), Enc.d (diffL A one other), Enc.d (lagL A (one ++ o) (other ++ p))] [Enc.p (du, dv), .bool tr, Enc.p (dv, du), Enc.p (diffL A one other), Enc.p (lagL A (one ++ o) (other ++ p))] := fun MM =>
      .cons (Enc.of _ 19 (du, dv) (by decide)) (.cons .bl (.cons (Enc.of _ 19 (dv, du) (by decide)) (.cons (Enc.of _ 19 (diffL A one other) (by decide)) (.cons (Enc.of _ 19 (lagL A (one ++ o) (other ++ p)) (by decide)) .nil))))
    obtain ⟨ll1, ll2⟩ := lag_length L.g (L.i1.1.app L.io.1) (L.i1.2.app L.io.2)
    obtain ⟨li1, li2⟩ := lag_in L.g (L.i1.1.app L.io.1) (L.i1.2.app L.io.2)
    rw [List.length_append] at ll1 ll2
    have hfl : Fit (Enc.p (lagL A (one ++ o) (other ++ p))) 5000 := (fit_tup (fits_cons (fit_row (n := 200) (fun s hs => L.sh s (li1 s hs)) (by omega)) (fits_cons (fit_row (n := 200) (fun s hs => L.sh s (li2 s hs)) (by omega)) fits_nil))).mono (by decide)
    refine s_law_alike (.lst (e8 _ _ hpf2) (hof _)) (.lst put_same (hof _)) (fit_lst (fits_cons (fit_two L.sh L.l.inu L.l.inv L.ld.1 L.ld.2) (fits_cons fit_bool (fits_cons (fit_two L.sh L.l.inv L.l.inu L.ld.2 L.ld.1) (fits_cons (fit_diffs L.sh L.few L.l1.1 L.l1.2) (fits_cons hfl fits_nil)))))) (by decide) ?_
    walk_at "h"
    try simp only [Bool.not_true]
    walk_at "h"
    exact law_p13 F hf L (hb.ext (e15.trans e8)) (e8 _ _ hg5) fun M' s9 s10 s11 s12 s13 s22 s23 s24 s25 k h => q _ _ _ _ _ _ _ _ _ _ _ ((e15.trans e8).bx.trans k) h
end
end Dt

set_option Elab.async false
set_option autoImplicit false
set_option linter.all false
set_option maxRecDepth 100000
set_option maxHeartbeats 400000
namespace Dt
open PySem PySem.Spec PyProof.Rows L2 LamX RZ PySem.P
local macro_rules | `(tactic| walk_at "w1") => `(tactic| with_reducible refine StepW.go ?_)
local macro_rules | `(tactic| walk_at "w") => `(tactic| ((repeat walk_at "w1"); try (with_reducible conv => whnf)))
local macro_rules | `(tactic| walk_at "m") => `(tactic| first | with_reducible assumption | with_reducible exact put_same | (with_reducible apply Ext.get; (with_reducible assumption); walk_at "m") | (with_reducible apply Ext.get; (with_reducible apply Ext.new); (with_reducible assumption); walk_at "m"))
local macro_rules | `(tactic| walk_at "x") => `(tactic| first | with_reducible assumption | with_reducible exact Ext.refl | (with_reducible refine Ext.alloc ?_ (by with_reducible assumption) _; walk_at "x") | (with_reducible refine Ext.trans ?_ (by with_reducible assumption); walk_at "x"))
local macro_rules | `(tactic| walk_at "lk") => `(tactic| first | with_reducible exact look1 | ((with_reducible apply lookS); (with_unfolding_all decide); walk_at "lk"))
local macro_rules | `(tactic| walk_at "h1") => `(tactic| (first
  | with_reducible refine StepW.go ?_
  | with_reducible refine StepG.go ?_
  | with_reducible refine w_isTup ?_
  | ((with_reducible refine w_sz ?sz ?_); (case sz => size_fits))
  | ((with_reducible refine w_len ?sz ?_); (case sz => rfl))
  | ((with_reducible refine w_obj (by walk_at "m") ?ob2 ?_); (case ob2 => walk_at "ln"))
  | (with_reducible refine w_lenL (by walk_at "m") ?_) | (with_reducible refine w_seqL (by walk_at "m") ?_) | (with_reducible refine tup_list (by walk_at "m") ?_)
  | (with_reducible refine w_isLst (by walk_at "m") ?_) | (with_reducible refine w_slL (by walk_at "m") ?_)
  | ((with_reducible refine fld_ok (by walk_at "m") ?cl (by walk_at "lk") ?_); (case cl => walk_at "cl"))
  | (with_reducible refine w_lstL (by walk_at "m") ?_) | (with_reducible refine w_dic (by walk_at "m") ?_)
  ))
local macro_rules | `(tactic| walk_at "g1") => `(tactic| first | walk_at "h1" | with_reducible refine StepP.go ?_)
local macro_rules | `(tactic| walk_at "h") => `(tactic| ((repeat walk_at "h1"); try (with_reducible conv => whnf)))
local macro_rules | `(tactic| walk_at "g") => `(tactic| ((repeat walk_at "g1"); try (with_reducible conv => whnf)))
local macro_rules | `(tactic| walk_at "ln") => `(tactic| first | exact look_none (ns := ["row", "signs", "dependent", "places", "taken"]) rfl (by decide) | exact look_none (ns := ["alphabet", "due", "its_left", "signs", "parting"]) rfl (by decide) | exact look_none (ns := ["alphabet", "its_lag", "parting"]) rfl (by decide))
local macro_rules | `(tactic| walk_at "cl") => `(tactic| first | exact CF.get (by with_reducible assumption) (by decide) | exact LF.row (by with_reducible assumption) | exact LF.signs (by with_reducible assumption) | exact LF.dependent (by with_reducible assumption) | exact LF.places (by with_reducible assumption) | exact LF.taken (by with_reducible assumption))
section
variable {K : Bd} {M M' : DM} {Q : DQ} {E : DX} {A : Alph} {row x y o p one other du dv : List Str} {b c pg pc pe pr pf : Addr} {en eb ec : Std → DM → Prop} {ex : Std → DX}
/-- what is known of the rows drawn -/
structure Rows5 (A : Alph) (x y o p one other : List Str) : Prop where
  g : GoodA A
  sh : ∀ s ∈ A.signs, ShS s
  ne : A.signs ≠ []
  few : A.signs.length ≤ 3
  lo : o.length ≤ 100 ∧ p.length ≤ 100
  lx : x.length ≤ 100 ∧ y.length ≤ 100
  l1 : one.length ≤ 100 ∧ other.length ≤ 100
  io : InA A o ∧ InA A p
  i1 : InA A one ∧ InA A other
theorem Rows5.lap (R : Rows5 A x y o p one other) (h : lagL A one other = (du, dv)) : Lap A x y o p one other du dv := by
  have l := lag_of R.g R.i1.1 R.i1.2
  obtain ⟨h1, h2⟩ := lag_length R.g R.i1.1 R.i1.2
  rw [h] at l h1 h2
  simp only [] at l h1 h2
  have := R.l1
  exact ⟨R.g, R.sh, R.ne, R.few, l, ⟨by omega, by omega⟩, R.lo, R.lx, R.l1, R.io, R.i1⟩
theorem law_p18 (F : LF K) (R : Rows5 A x y o p one other) (hb : BagAt M b c)
    {s0 s2 s5 s6 s7 s8 s9 s10 s11 s12 s13 s14 s21 s22 s23 s24 s25 s26 : Option D}
    (q : ∀ M' s5 s6 s7 s8 s9 s10 s11 s12 s13 s22 s23 s24 s25, Bx b M M' → BagAt M' b c → en [s0, some (.ref b), s2, some (Enc.d A.signs), some (aD A), s5, s6, s7, s8, s9, s10, s11, s12, s13, s14, some (Enc.d x), some (Enc.d y), some (Enc.d o), some (Enc.d p), some (Enc.d one), some (Enc.d other), s21, s22, s23, s24, s25, s26] M') :
    t_law_p18 K ⟨en, Q, eb, ec, ex⟩ [s0, some (.ref b), s2, some (Enc.d A.signs), some (aD A), s5, s6, s7, s8, s9, s10, s11, s12, s13, s14, some (Enc.d x), some (Enc.d y), some (Enc.d o), some (Enc.d p), some (Enc.d one), some (Enc.d other), s21, s22, s23, s24, s25, s26] M := by
  have l1 := R.l1
  rcases hlag : lagL A one other with ⟨du, dv⟩
  have L := R.lap hlag
  walk_at "g1"
  walk_at "h"
  refine s_law_lag_of L.g (by omega) (by omega) L.i1.1 L.i1.2 fun M1 e1 => ?_
  rw [hlag]
  walk_at "h"
  walk_at "g1"
  walk_at "h"
  refine ix_tup (n := 0) rfl ?_
  walk_at "h"
  refine ix_tup (n := 1) rfl ?_
  walk_at "h"
  refine s_law_fits (by have := L.ld; simp only []; omega) fun M2 e2 => ?_
  simp only []
  generalize hf : fitsB A du dv = tr
  walk_at "h"
  walk_at "g1"
  walk_at "h"
  refine lc_pure A.signs D.str (fun _ => true) (fun s => D.tup [.str s, .int ((one.count s : Int) - (other.count s : Int))]) (fun i M6 e6 _ => itT_at _ i M6) (by exact Nat.le_trans L.few (by size_fits)) ?_ ?_
  · intro i s M6 hs6 e6 KT KF kt kf
    walk_at "g"
    refine ⟨⟨_, rfl⟩, ?_⟩
    walk_at "g"
    refine w_cnt ?_
    walk_at "g"
    refine ⟨⟨_, rfl⟩, ?_⟩
    walk_at "g"
    refine w_cnt ?_
    walk_at "g"
    exact kt rfl _ e6
  · intro M6 p6 e6 hp6
    rw [show A.signs.filter (fun _ => true) = A.signs from List.filter_eq_self.mpr fun _ _ => rfl, gapD_map]
    walk_at "h"
    have e7 := (e1.trans (e2.trans e6)).alloc hp6 (.lst (gapD A one other))
    exact law_p15 F hf L hlag (hb.ext e7) put_same fun M' s8 s9 s10 s11 s12 s13 s22 s23 s24 s25 k h => q _ _ _ _ _ _ _ _ _ _ _ _ _ _ (e7.bx.trans k) h
end
end Dt

set_option Elab.async false
set_option autoImplicit false
set_option linter.all false
set_option maxRecDepth 100000
set_option maxHeartbeats 400000
namespace Dt
open PySem PySem.Spec PyProof.Rows L2 LamX RZ PySem.P
local macro_rules | `(tactic| walk_at "w1") => `(tactic| with_reducible refine StepW.go ?_)
local macro_rules | `(tactic| walk_at "w") => `(tactic| ((repeat walk_at "w1"); try (with_reducible conv => whnf)))
local macro_rules | `(tactic| walk_at "m") => `(tactic| first | with_reducible assumption | with_reducible exact put_same | (with_reducible apply Ext.get; (with_reducible assumption); walk_at "m") | (with_reducible apply Ext.get; (with_reducible apply Ext.new); (with_reducible assumption); walk_at "m"))
local macro_rules | `(tactic| walk_at "x") => `(tactic| first | with_reducible assumption | with_reducible exact Ext.refl | (with_reducible refine Ext.alloc ?_ (by with_reducible assumption) _; walk_at "x") | (with_reducible refine Ext.trans ?_ (by with_reducible assumption); walk_at "x"))
local macro_rules | `(tactic| walk_at "lk") => `(tactic| first | with_reducible exact look1 | ((with_reducible apply lookS); (with_unfolding_all decide); walk_at "lk"))
local macro_rules | `(tactic| walk_at "h1") => `(tactic| (first
  | with_reducible refine StepW.go ?_
  | with_reducible refine StepG.go ?_
  | with_reducible refine w_isTup ?_
  | ((with_reducible refine w_sz ?sz ?_); (case sz => size_fits))
  | ((with_reducible refine w_len ?sz ?_); (case sz => rfl))
  | ((with_reducible refine w_obj (by walk_at "m") ?ob2 ?_); (case ob2 => walk_at "ln"))
  | (with_reducible refine w_lenL (by walk_at "m") ?_) | (with_reducible refine w_seqL (by walk_at "m") ?_) | (with_reducible refine tup_list (by walk_at "m") ?_)
  | (with_reducible refine w_isLst (by walk_at "m") ?_) | (with_reducible refine w_slL (by walk_at "m") ?_)
  | ((with_reducible refine fld_ok (by walk_at "m") ?cl (by walk_at "lk") ?_); (case cl => walk_at "cl"))
  | (with_reducible refine w_lstL (by walk_at "m") ?_) | (with_reducible refine w_dic (by walk_at "m") ?_)
  ))
local macro_rules | `(tactic| walk_at "g1") => `(tactic| first | walk_at "h1" | with_reducible refine StepP.go ?_)
local macro_rules | `(tactic| walk_at "h") => `(tactic| ((repeat walk_at "h1"); try (with_reducible conv => whnf)))
local macro_rules | `(tactic| walk_at "g") => `(tactic| ((repeat walk_at "g1"); try (with_reducible conv => whnf)))
local macro_rules | `(tactic| walk_at "ln") => `(tactic| first | exact look_none (ns := ["row", "signs", "dependent", "places", "taken"]) rfl (by decide) | exact look_none (ns := ["alphabet", "due", "its_left", "signs", "parting"]) rfl (by decide) | exact look_none (ns := ["alphabet", "its_lag", "parting"]) rfl (by decide))
local macro_rules | `(tactic| walk_at "cl") => `(tactic| first | exact CF.get (by with_reducible assumption) (by decide) | exact LF.row (by with_reducible assumption) | exact LF.signs (by with_reducible assumption) | exact LF.dependent (by with_reducible assumption) | exact LF.places (by with_reducible assumption) | exact LF.taken (by with_reducible assumption))
section
variable {K : Bd} {M M' : DM} {Q : DQ} {E : DX} {A : Alph} {row x y o p one other du dv : List Str} {b c pg pc pe pr pf : Addr} {en eb ec : Std → DM → Prop} {ex : Std → DX}
abbrev xyz : List Str := ["x", "y", "z"]
theorem xyz_sorted : xyz.Pairwise sLt := by
  unfold sLt
  decide
theorem xyz_short : ∀ s ∈ xyz, ShS s := by
  unfold ShS
  decide
theorem BagAt.atB (h : BagAt M b c) : ∃ o, M b = some o := by
  obtain ⟨x, y, z, cells, e1, _⟩ := h.ex
  exact ⟨_, e1⟩
theorem s_law (F : LF K) {script : List Int} (q : ∀ M', Q (.bl true) M') : sp_law K [.scr (script.map .int)] M Q noX := by
  refine go_law ?_
  delta t_law
  walk_at "h"
  refine s_law_bag fun M0 b c e0 hb0 => ?_
  walk_at "g"
  delta t_law_l23
  walk_at "g"
  refine ⟨⟨by decide, by decide⟩, ?_⟩
  refine for_inv ((List.range 4).map fun k : Nat => D.int (0 + (k : Int))) (fun i σ' M' => ∃ s2 s3 s4 s5 s6 s7 s8 s9 s10 s11 s12 s13 s14 s15 s16 s17 s18 s19 s20 s21 s22 s23 s24 s25 s26, σ' = [some (.scr (script.map .int)), some (.ref b), s2, s3, s4, s5, s6, s7, s8, s9, s10, s11, s12, s13, s14, s15, s16, s17, s18, s19, s20, s21, s22, s23, s24, s25, s26] ∧ BagAt M' b c) (fun i σ' M' _ hi => itR_at 0 4 i M' (by simpa using hi)) ⟨_, _, _, _, _, _, _, _, _, _, _, _, _, _, _, _, _, _, _, _, _, _, _, _, _, rfl, hb0⟩ ?_ ?_
  · rintro i d σ' M1 hd ⟨s2, s3, s4, s5, s6, s7, s8, s9, s10, s11, s12, s13, s14, s15, s16, s17, s18, s19, s20, s21, s22, s23, s24, s25, s26, rfl, hb1⟩ Kt kt
    walk_at "g"
    refine s_law_take hb1 (many := 3) (by decide) (by decide) fun M2 v hv k2 hb2 => ?_
    walk_at "g"
    rw [show (1 : Int) + (v : Int) = ((1 + v : Nat) : Int) by omega, cut_to]
    rw [show ([D.str "x", D.str "y", D.str "z"] : List D).take (1 + v) = (xyz.take (1 + v)).map Enc.d from by rw [List.map_take]; rfl]
    have hfew : (xyz.take (1 + v)).length ≤ 3 := Nat.le_trans (List.length_take_le' _ _) (by decide)
    refine s_law_alphabet hb2 (xs := xyz.take (1 + v)) (xyz_sorted.sublist (List.take_sublist _ _)) (by omega) fun M3 A hA g k3 hb3 => ?_
    have sh : ∀ s ∈ A.signs, ShS s := fun s hs => xyz_short s (List.mem_of_mem_take (by rw [← hA]; exact hs))
    have hne : A.signs ≠ [] := by
      rw [hA]
      intro z
      have := congrArg List.length z
      rw [List.length_take] at this
      simp at this
    rw [← hA] at hfew ⊢
    clear hA
    walk_at "g"
    refine ⟨⟨by decide, by decide⟩, ?_⟩
    refine lc_inv ((List.range 5).map fun k : Nat => D.int (0 + (k : Int))) (fun i acc M' => Bx b M3 M' ∧ BagAt M' b c ∧ ∃ rs : List (List Str), acc = rs.map Enc.d ∧ rs.length = i ∧ ∀ r ∈ rs, InA A r ∧ r.length ≤ 3) (fun i acc M' _ hi => itR_at 0 5 i M' (by simpa using hi)) ⟨fun _ _ _ e => e, hb3, [], rfl, rfl, by simp⟩ (by simp; size_fits) (fun i acc M' h => by obtain ⟨_, _, rs, rfl, rfl, _⟩ := h; simp) ?_ ?_
    · rintro i d acc M4 hd ⟨k4, hb4, rs, rfl, hri, hrs⟩ KT KF kt kf
      rw [List.getElem?_map] at hd
      cases hx : (List.range 5)[i]? with
      | none => rw [hx] at hd; cases hd
      | some j =>
        rw [hx] at hd; cases hd
        walk_at "g"
        refine s_law_row (signs := A.signs) (most := 3) hb4 hne (by omega) (by decide) fun M5 r hr hrl k5 hb5 => ?_
        refine kt _ _ ⟨k4.trans k5, hb5, rs ++ [r], by rw [List.map_append]; rfl, by rw [List.length_append, List.length_singleton, hri], fun z hz => ?_⟩
        rcases List.mem_append.mp hz with h | h
        · exact hrs z h
        · rw [List.mem_singleton.mp h]; exact ⟨hr, hrl⟩
    · rintro acc M4 p4 ⟨k4, hb4, rs, rfl, hri, hrs⟩ hp4
      rw [List.length_map, List.length_range] at hri
      obtain ⟨g0, x, y, o, p, rfl⟩ : ∃ g0 x y o p, rs = [g0, x, y, o, p] := by
        match rs, hri with
        | [g0, x, y, o, p], _ => exact ⟨g0, x, y, o, p, rfl⟩
      obtain ⟨ig, lg⟩ := hrs g0 (by simp)
      obtain ⟨ix, lx⟩ := hrs x (by simp)
      obtain ⟨iy, ly⟩ := hrs y (by simp)
      obtain ⟨io, lo⟩ := hrs o (by simp)
      obtain ⟨ip, lp⟩ := hrs p (by simp)
      have hb5 := hb4.ext ((Ext.refl).alloc hp4 (.lst ([g0, x, y, o, p].map Enc.d)))
      refine ⟨_, put_same, rfl, ?_⟩
      revert hb5
      generalize put M4 p4 (.lst ([g0, x, y, o, p].map Enc.d)) = M5
      intro hb5
      show gConsD _ _ [Enc.d g0, Enc.d x, Enc.d y, Enc.d o, Enc.d p] _ _ _ _
      walk_at "h"
      walk_at "g1"
      walk_at "h"
      refine add_rows (by omega) ?_
      walk_at "h"
      refine s_law_class g (by omega) ig (most := 500) (by decide) (by decide) fun M6 every e6 hev => ?_
      have hb6 := hb5.ext e6
      rcases hev with ⟨rfl, fs, nd, hle, hall⟩ | ⟨p7, rows, rfl, hp7, hm7, hrne, hrlen, hall⟩
      · exfalso
        have h1 := rows_few (n := g0.length) (k := 3) nd (fun r hr => ⟨(hall r hr).inA, (hall r hr).len⟩) hfew
        have h2 : 3 ^ g0.length ≤ 3 ^ 3 := Nat.pow_le_pow_right (by decide) lg
        have h3 : (3 : Nat) ^ 3 = 27 := by decide
        omega
      · walk_at "h"
        have f7 : p7 ≠ b := by
          obtain ⟨ob, hbb⟩ := hb5.atB
          exact Ne.symm (ne_of_new hbb hp7)
        refine s_law_someL (α := List Str) hb6 hm7 f7 hrne (by omega) fun M8 h0 hh0 k8 hb8 => ?_
        have hc := hall h0 hh0
        have hl0 := hc.len
        walk_at "h"
        refine add_rows (by omega) ?_
        walk_at "h"
        have R : Rows5 A x y o p (g0 ++ x) (h0 ++ y) := ⟨g, sh, hne, hfew, ⟨by omega, by omega⟩, ⟨by omega, by omega⟩, ⟨by rw [List.length_append]; omega, by rw [List.length_append]; omega⟩, ⟨io, ip⟩, ⟨ig.app ix, hc.inA.app iy⟩⟩
        exact law_p18 F R hb8 fun M' s5 s6 s7 s8 s9 s10 s11 s12 s13 s22 s23 s24 s25 k h => kt _ _ ⟨_, _, _, _, _, _, _, _, _, _, _, _, _, _, _, _, _, _, _, _, _, _, _, _, _, rfl, h⟩
  · rintro σ' M1 ⟨s2, s3, s4, s5, s6, s7, s8, s9, s10, s11, s12, s13, s14, s15, s16, s17, s18, s19, s20, s21, s22, s23, s24, s25, s26, rfl, hb1⟩
    walk_at "g"
    exact q _
end
end Dt

set_option Elab.async false
set_option autoImplicit false
set_option linter.all false
set_option maxRecDepth 100000
set_option maxHeartbeats 400000
namespace Dt
open PySem PySem.Spec PyProof.Rows L2 LamX RZ PySem.P
local macro_rules | `(tactic| walk_at "w1") => `(tactic| with_reducible refine StepW.go ?_)
local macro_rules | `(tactic| walk_at "w") => `(tactic| ((repeat walk_at "w1"); try (with_reducible conv => whnf)))
local macro_rules | `(tactic| walk_at "m") => `(tactic| first | with_reducible assumption | with_reducible exact put_same | (with_reducible apply Ext.get; (with_reducible assumption); walk_at "m") | (with_reducible apply Ext.get; (with_reducible apply Ext.new); (with_reducible assumption); walk_at "m"))
local macro_rules | `(tactic| walk_at "x") => `(tactic| first | with_reducible assumption | with_reducible exact Ext.refl | (with_reducible refine Ext.alloc ?_ (by with_reducible assumption) _; walk_at "x") | (with_reducible refine Ext.trans ?_ (by with_reducible assumption); walk_at "x"))
local macro_rules | `(tactic| walk_at "lk") => `(tactic| first | with_reducible exact look1 | ((with_reducible apply lookS); (with_unfolding_all decide); walk_at "lk"))
local macro_rules | `(tactic| walk_at "h1") => `(tactic| (first
  | with_reducible refine StepW.go ?_
  | with_reducible refine StepG.go ?_
  | with_reducible refine w_isTup ?_
  | ((with_reducible refine w_sz ?sz ?_); (case sz => size_fits))
  | ((with_reducible refine w_len ?sz ?_); (case sz => rfl))
  | ((with_reducible refine w_obj (by walk_at "m") ?ob2 ?_); (case ob2 => walk_at "ln"))
  | (with_reducible refine w_lenL (by walk_at "m") ?_) | (with_reducible refine w_seqL (by walk_at "m") ?_) | (with_reducible refine tup_list (by walk_at "m") ?_)
  | (with_reducible refine w_isLst (by walk_at "m") ?_) | (with_reducible refine w_slL (by walk_at "m") ?_)
  | ((with_reducible refine fld_ok (by walk_at "m") ?cl (by walk_at "lk") ?_); (case cl => walk_at "cl"))
  | (with_reducible refine w_lstL (by walk_at "m") ?_) | (with_reducible refine w_dic (by walk_at "m") ?_)
  ))
local macro_rules | `(tactic| walk_at "g1") => `(tactic| first | walk_at "h1" | with_reducible refine StepP.go ?_)
local macro_rules | `(tactic| walk_at "h") => `(tactic| ((repeat walk_at "h1"); try (with_reducible conv => whnf)))
local macro_rules | `(tactic| walk_at "g") => `(tactic| ((repeat walk_at "g1"); try (with_reducible conv => whnf)))
local macro_rules | `(tactic| walk_at "ln") => `(tactic| first | exact look_none (ns := ["row", "signs", "dependent", "places", "taken"]) rfl (by decide) | exact look_none (ns := ["alphabet", "due", "its_left", "signs", "parting"]) rfl (by decide) | exact look_none (ns := ["alphabet", "its_lag", "parting"]) rfl (by decide))
local macro_rules | `(tactic| walk_at "cl") => `(tactic| first | exact CF.get (by with_reducible assumption) (by decide) | exact LF.row (by with_reducible assumption) | exact LF.signs (by with_reducible assumption) | exact LF.dependent (by with_reducible assumption) | exact LF.places (by with_reducible assumption) | exact LF.taken (by with_reducible assumption))
section
variable {P : Program} {w : World} {K : PySem.W.Frag}
theorem LF.of {K : Bd} (h : CF K "Left" leftNs) : LF K := ⟨h.get (by decide), h.get (by decide), h.get (by decide), h.get (by decide), h.get (by decide)⟩
theorem dvs_ints {B : Bd} {H : Hp} : ∀ ns : List Int, DVs B H (ns.map .int) (ns.map V.int)
  | [] => .nil
  | n :: ns => .cons .int (dvs_ints ns)
theorem law_true (f : CF ⟨K, P, w⟩ "Left" leftNs) {H : Hp} {a : Addr} {ns : List Int} (hT : Tabs (tbs K) H) (hS : SqZ K H a (ns.map V.int)) :
    lSp ⟨K, P, w⟩ (sp_law ⟨K, P, w⟩) [.ref a] H (fun v _ => v = .bl true) (fun _ _ _ => False) :=
  ⟨[.scr (ns.map .int)], fun _ => none, fun d _ => d = .bl true, .cons (.scr hS (dvs_ints ns)) .nil, ⟨(fun _ _ z => nomatch z), hT⟩, s_law (LF.of f) (fun _ => rfl), fun d v M' H' dv R k e => by
    subst e; cases dv; rfl⟩
end
end Dt

set_option Elab.async false
set_option autoImplicit false
set_option linter.all false
set_option maxRecDepth 100000
set_option maxHeartbeats 0
namespace Hd
open PySem PySem.Spec PyProof.Rows L2
def top (i : Nat) : Stmt := PySem.Challenge.pw_anyarrive_k30_whole_lags_of_two_rows.main.body.getD i (.Pass ⟨0, 0, 0, 0⟩)
def names0 : List PySem.Str := ["_wall", "ArriveError", "Nothing", "check_sign", "are_independent", "dependent_couples", "counts", "Left", "normal", "left_of", "common", "lag", "fits", "is_row", "is_lag", "behind", "turned", "least_ends", "difference", "_law_bag", "_law_take", "_law_some", "_law_alike", "_law_alphabet", "_law_is_free", "_law_cut", "_law_by_swaps", "_law_firsts", "_law_without", "_law_normal"]
def names1 : List PySem.Str := ["_law_lag", "_law_fits", "_law_class", "_law_row", "_law_rows", "_law_lag_of", "_law_is_normal_row", "_law_is_lag", "_law_heard", "_law_couples"]
def names : List PySem.Str := names0 ++ names1
abbrev s0 : Stmt := top 5
def d0 : He.FnD := ⟨("check_sign", none), "check_sign", "check_sign", defArgs s0, defBody s0, defScope s0⟩
abbrev s1 : Stmt := top 6
def d1 : He.FnD := ⟨("are_independent", none), "are_independent", "are_independent", defArgs s1, defBody s1, defScope s1⟩
abbrev s2 : Stmt := top 7
def d2 : He.FnD := ⟨("dependent_couples", none), "dependent_couples", "dependent_couples", defArgs s2, defBody s2, defScope s2⟩
abbrev s3 : Stmt := top 8
def d3 : He.FnD := ⟨("counts", none), "counts", "counts", defArgs s3, defBody s3, defScope s3⟩
abbrev s4 : Stmt := inClass (top 10) 0
def d4 : He.FnD := ⟨("Left", some "__init__"), "__init__", "Left.__init__", defArgs s4, defBody s4, defScope s4⟩
abbrev s5 : Stmt := inClass (top 10) 1
def d5 : He.FnD := ⟨("Left", some "place"), "place", "Left.place", defArgs s5, defBody s5, defScope s5⟩
abbrev s6 : Stmt := inClass (top 10) 2
def d6 : He.FnD := ⟨("Left", some "can_be_first"), "can_be_first", "Left.can_be_first", defArgs s6, defBody s6, defScope s6⟩
abbrev s7 : Stmt := inClass (top 10) 3
def d7 : He.FnD := ⟨("Left", some "firsts"), "firsts", "Left.firsts", defArgs s7, defBody s7, defScope s7⟩
abbrev s8 : Stmt := inClass (top 10) 4
def d8 : He.FnD := ⟨("Left", some "take"), "take", "Left.take", defArgs s8, defBody s8, defScope s8⟩
abbrev s9 : Stmt := inClass (top 10) 5
def d9 : He.FnD := ⟨("Left", some "left"), "left", "Left.left", defArgs s9, defBody s9, defScope s9⟩
abbrev s10 : Stmt := top 11
def d10 : He.FnD := ⟨("normal", none), "normal", "normal", defArgs s10, defBody s10, defScope s10⟩
abbrev s11 : Stmt := top 13
def d11 : He.FnD := ⟨("left_of", none), "left_of", "left_of", defArgs s11, defBody s11, defScope s11⟩
abbrev s12 : Stmt := top 14
def d12 : He.FnD := ⟨("common", none), "common", "common", defArgs s12, defBody s12, defScope s12⟩
abbrev s13 : Stmt := top 16
def d13 : He.FnD := ⟨("lag", none), "lag", "lag", defArgs s13, defBody s13, defScope s13⟩
abbrev s14 : Stmt := top 17
def d14 : He.FnD := ⟨("fits", none), "fits", "fits", defArgs s14, defBody s14, defScope s14⟩
abbrev s15 : Stmt := top 18
def d15 : He.FnD := ⟨("is_row", none), "is_row", "is_row", defArgs s15, defBody s15, defScope s15⟩
abbrev s16 : Stmt := top 19
def d16 : He.FnD := ⟨("is_lag", none), "is_lag", "is_lag", defArgs s16, defBody s16, defScope s16⟩
abbrev s17 : Stmt := top 20
def d17 : He.FnD := ⟨("behind", none), "behind", "behind", defArgs s17, defBody s17, defScope s17⟩
abbrev s18 : Stmt := top 21
def d18 : He.FnD := ⟨("turned", none), "turned", "turned", defArgs s18, defBody s18, defScope s18⟩
abbrev s19 : Stmt := top 22
def d19 : He.FnD := ⟨("least_ends", none), "least_ends", "least_ends", defArgs s19, defBody s19, defScope s19⟩
abbrev s20 : Stmt := top 23
def d20 : He.FnD := ⟨("difference", none), "difference", "difference", defArgs s20, defBody s20, defScope s20⟩
abbrev s21 : Stmt := top 25
def d21 : He.FnD := ⟨("_law_bag", none), "_law_bag", "_law_bag", defArgs s21, defBody s21, defScope s21⟩
abbrev s22 : Stmt := top 26
def d22 : He.FnD := ⟨("_law_take", none), "_law_take", "_law_take", defArgs s22, defBody s22, defScope s22⟩
abbrev s23 : Stmt := top 27
def d23 : He.FnD := ⟨("_law_some", none), "_law_some", "_law_some", defArgs s23, defBody s23, defScope s23⟩
abbrev s24 : Stmt := top 28
def d24 : He.FnD := ⟨("_law_alike", none), "_law_alike", "_law_alike", defArgs s24, defBody s24, defScope s24⟩
abbrev s25 : Stmt := top 29
def d25 : He.FnD := ⟨("_law_alphabet", none), "_law_alphabet", "_law_alphabet", defArgs s25, defBody s25, defScope s25⟩
abbrev s26 : Stmt := top 30
def d26 : He.FnD := ⟨("_law_is_free", none), "_law_is_free", "_law_is_free", defArgs s26, defBody s26, defScope s26⟩
abbrev s27 : Stmt := top 31
def d27 : He.FnD := ⟨("_law_cut", none), "_law_cut", "_law_cut", defArgs s27, defBody s27, defScope s27⟩
abbrev s28 : Stmt := top 32
def d28 : He.FnD := ⟨("_law_by_swaps", none), "_law_by_swaps", "_law_by_swaps", defArgs s28, defBody s28, defScope s28⟩
abbrev s29 : Stmt := top 33
def d29 : He.FnD := ⟨("_law_firsts", none), "_law_firsts", "_law_firsts", defArgs s29, defBody s29, defScope s29⟩
abbrev s30 : Stmt := top 34
def d30 : He.FnD := ⟨("_law_without", none), "_law_without", "_law_without", defArgs s30, defBody s30, defScope s30⟩
abbrev s31 : Stmt := top 35
def d31 : He.FnD := ⟨("_law_normal", none), "_law_normal", "_law_normal", defArgs s31, defBody s31, defScope s31⟩
abbrev s32 : Stmt := top 36
def d32 : He.FnD := ⟨("_law_lag", none), "_law_lag", "_law_lag", defArgs s32, defBody s32, defScope s32⟩
abbrev s33 : Stmt := top 37
def d33 : He.FnD := ⟨("_law_fits", none), "_law_fits", "_law_fits", defArgs s33, defBody s33, defScope s33⟩
abbrev s34 : Stmt := top 38
def d34 : He.FnD := ⟨("_law_class", none), "_law_class", "_law_class", defArgs s34, defBody s34, defScope s34⟩
abbrev s35 : Stmt := top 39
def d35 : He.FnD := ⟨("_law_row", none), "_law_row", "_law_row", defArgs s35, defBody s35, defScope s35⟩
abbrev s36 : Stmt := top 40
def d36 : He.FnD := ⟨("_law_rows", none), "_law_rows", "_law_rows", defArgs s36, defBody s36, defScope s36⟩
abbrev s37 : Stmt := top 41
def d37 : He.FnD := ⟨("_law_lag_of", none), "_law_lag_of", "_law_lag_of", defArgs s37, defBody s37, defScope s37⟩
abbrev s38 : Stmt := top 42
def d38 : He.FnD := ⟨("_law_is_normal_row", none), "_law_is_normal_row", "_law_is_normal_row", defArgs s38, defBody s38, defScope s38⟩
abbrev s39 : Stmt := top 43
def d39 : He.FnD := ⟨("_law_is_lag", none), "_law_is_lag", "_law_is_lag", defArgs s39, defBody s39, defScope s39⟩
abbrev s40 : Stmt := top 44
def d40 : He.FnD := ⟨("_law_heard", none), "_law_heard", "_law_heard", defArgs s40, defBody s40, defScope s40⟩
abbrev s41 : Stmt := top 45
def d41 : He.FnD := ⟨("_law_couples", none), "_law_couples", "_law_couples", defArgs s41, defBody s41, defScope s41⟩
abbrev s42 : Stmt := top 46
def d42 : He.FnD := ⟨("law", none), "law", "law", defArgs s42, defBody s42, defScope s42⟩
def fn : List He.FnD := [d0, d1, d2, d3, d4, d5, d6, d7, d8, d9, d10, d11, d12, d13, d14, d15, d16, d17, d18, d19, d20, d21, d22, d23, d24, d25, d26, d27, d28, d29, d30, d31, d32, d33, d34, d35, d36, d37, d38, d39, d40, d41, d42]
def fa0 : List He.Fa := [.free "isinstance", .free "str", .free "max", .free "min", .glo "check_sign", .free "tuple", .free "enumerate", .glo "dependent_couples", .free "len", .free "all", .cls "Left", .meth "Left" "place", .meth "Left" "can_be_first", .free "range", .meth "Left" "take", .meth "Left" "firsts", .mkr "Left", .glo "Left", .meth "Left" "left", .glo "normal", .glo "left_of", .glo "common", .free "sorted", .free "set", .glo "are_independent", .glo "is_row", .glo "lag", .glo "fits", .exc "Nothing", .glo "Nothing"]
def fa1 : List He.Fa := [.glo "counts", .free "abs", .free "int", .glo "_law_take", .free "repr", .glo "_law_cut", .glo "_law_is_free", .glo "_law_without", .glo "_law_firsts", .glo "_law_normal", .glo "_law_some", .glo "_law_lag", .glo "_law_is_normal_row", .glo "_law_is_lag", .glo "is_lag", .glo "_law_alike", .free "list", .glo "_law_by_swaps", .glo "_law_row", .free "dict", .glo "least_ends", .exm "Nothing" "Nothing" true, .glo "_law_heard", .keep "_law_heard", .glo "behind", .glo "_law_couples", .glo "_law_rows", .glo "_law_lag_of", .glo "difference", .glo "turned"]
def fa2 : List He.Fa := [.glo "_law_fits", .glo "_law_class", .glo "_law_alphabet", .glo "_law_bag", .keep "check_sign", .keep "are_independent", .keep "dependent_couples", .keep "counts", .meth "Left" "__init__", .keep "normal", .keep "left_of", .keep "common", .keep "lag", .keep "fits", .keep "is_row", .keep "is_lag", .keep "behind", .keep "turned", .keep "least_ends", .keep "difference", .keep "_law_bag", .keep "_law_take", .keep "_law_some", .keep "_law_alike", .keep "_law_alphabet", .keep "_law_is_free", .keep "_law_cut", .keep "_law_by_swaps", .keep "_law_firsts", .keep "_law_without"]
def fa3 : List He.Fa := [.keep "_law_normal", .keep "_law_lag", .keep "_law_fits", .keep "_law_class", .keep "_law_row", .keep "_law_rows", .keep "_law_lag_of", .keep "_law_is_normal_row", .keep "_law_is_lag", .keep "_law_couples", .keep "law", .noat "Left" "row", .noat "Left" "signs", .noat "Left" "dependent", .noat "Left" "places", .noat "Left" "taken", .glo "law"]
def fa : List He.Fa := fa0 ++ fa1 ++ fa2 ++ fa3
abbrev R : PySem.W.OpenRow := PySem.W.OpenLaw.row PySem.Challenge.rw_anyarrive_k30_whole_lags_of_two_rows
def tf : List He.Defn := [("law", none)]
abbrev hk : PySem.W.Hook := Dt.hookL 4 fa fn tf (Dt.tblB tf)
def ob (s : PySem.W.SharedT) : Dt.AlL := Dt.obsL 4 fa fn tf (Dt.tblB tf) (HandSHeadRun.getT s)
theorem ob_eq (s : PySem.W.SharedT) : ob s = hk.obs s.abs := Dt.obsL_eq (HandSHeadRun.getT_eq s)
theorem run (w : World) : HandSHeadRun.RunEq R (PySem.W.view R.prog [46]) hk ob 3000 names w := by
  intro os
  kernel_rfl
end Hd

set_option Elab.async false
set_option autoImplicit false
set_option linter.all false
set_option maxRecDepth 100000
set_option maxHeartbeats 0
namespace Dt
open PySem PySem.Spec PyProof.Rows L2 LamX RZ PySem.P
abbrev Pg : Program := PySem.Challenge.rw_anyarrive_k30_whole_lags_of_two_rows.prog
section
variable {w : World} {K : PySem.W.Frag} {mg : Str → Option Value} {base : Heap} (KX : K.In base) (G : base.Ns mainGlobals mg) (c : He.SaysE Hd.fa Hd.fn K)
include KX G c
theorem ok_check_sign  : FnE Pg w K mg base 1 (He.ga K "check_sign") ["alphabet", "sign"] (sp_check_sign ⟨K, Pg, w⟩) := by
  obtain ⟨oc, od, osl, kV, doc, pm, an, cdv, ct, lk, hcd⟩ := c.def_ 0
  refine fnE_of (x := "check_sign") (qual := "check_sign") (st := Hd.s0) (f := (He.ga K "check_sign")) (N := N_check_sign) (t := t_check_sign ⟨K, Pg, w⟩) lk hcd (He.keep_ok (c.fact 64)) ⟨rfl, rfl, rfl, by decide +kernel, rfl, by decide +kernel, by decide +kernel⟩ (fun _ _ _ h => h.1) (fun us hl => match us, hl with | [_, _], _ => rfl) ?_ (fun _ _ _ h => h.2)
  intro cdv A outer s H E hr
  have hu := hr.units
  delta t_check_sign
  exact (ds_one (ds_if (PW.pt (dw_or (dt_not (dt_val (de_isi (T := "") isi_str_ok (by rfl) (He.free_ok KX G (c.fact 0)) (by rfl) (He.free_ok KX G (c.fact 1)) boot_str (de_var (pv 1)) (fun h => pe_callB call_isi (by rfl) (He.free_ok KX G (c.fact 0)) boot_isinstance h) (fun h k => pa_cons h (pa_cons k pa_nil))))) (dw_or1 (dt_cmp (op_nmemD hu) o_mem (de_var (pv 1)) (de_ix (de_var (pv 0)) de_int))))) (ds_one ds_never) ds_nil))
theorem ok_are_independent (h_check_sign : FnE Pg w K mg base 1 (He.ga K "check_sign") ["alphabet", "sign"] (sp_check_sign ⟨K, Pg, w⟩)) : FnE Pg w K mg base 2 (He.ga K "are_independent") ["alphabet", "a", "b"] (sp_are_independent ⟨K, Pg, w⟩) := by
  obtain ⟨fd_check_sign, F_check_sign, b_check_sign, kp_check_sign⟩ := h_check_sign
  obtain ⟨oc, od, osl, kV, doc, pm, an, cdv, ct, lk, hcd⟩ := c.def_ 1
  refine fnE_of (x := "are_independent") (qual := "are_independent") (st := Hd.s1) (f := (He.ga K "are_independent")) (N := N_are_independent) (t := t_are_independent ⟨K, Pg, w⟩) lk hcd (He.keep_ok (c.fact 65)) ⟨rfl, rfl, rfl, by decide +kernel, rfl, by decide +kernel, by decide +kernel⟩ (fun _ _ _ h => h.1) (fun us hl => match us, hl with | [_, _, _], _ => rfl) ?_ (fun _ _ _ h => h.2)
  intro cdv A outer s H E hr
  have hu := hr.units
  delta t_are_independent
  exact (ds_cons (ds_expr (de_call F_check_sign (hr.mono (by decide)) (by rfl) (He.glo_ok KX G (c.fact 4)) kp_check_sign b_check_sign (da_cons (de_var (pv 0)) (da_cons (de_var (pv 1)) da_nil)))) (ds_cons (ds_expr (de_call F_check_sign (hr.mono (by decide)) (by rfl) (He.glo_ok KX G (c.fact 4)) kp_check_sign b_check_sign (da_cons (de_var (pv 0)) (da_cons (de_var (pv 2)) da_nil)))) (ds_one (ds_ret (de_cmp (op_memD hu) o_mem (de_tup (da_cons (de_cb (pe_callB (call_min2A rfl) (by rfl) (He.free_ok KX G (c.fact 3)) boot_min (da_cons (de_var (pv 1)) (da_cons (de_var (pv 2)) da_nil))) c_min2) (da_cons (de_cb (pe_callB (call_max2A rfl) (by rfl) (He.free_ok KX G (c.fact 2)) boot_max (da_cons (de_var (pv 1)) (da_cons (de_var (pv 2)) da_nil))) c_max2) da_nil))) (de_ix (de_var (pv 0)) de_int))))))
theorem ok_dependent_couples  : FnE Pg w K mg base 1 (He.ga K "dependent_couples") ["alphabet"] (sp_dependent_couples ⟨K, Pg, w⟩) := by
  obtain ⟨oc, od, osl, kV, doc, pm, an, cdv, ct, lk, hcd⟩ := c.def_ 2
  refine fnE_of (x := "dependent_couples") (qual := "dependent_couples") (st := Hd.s2) (f := (He.ga K "dependent_couples")) (N := N_dependent_couples) (t := t_dependent_couples ⟨K, Pg, w⟩) lk hcd (He.keep_ok (c.fact 66)) ⟨rfl, rfl, rfl, by decide +kernel, rfl, by decide +kernel, by decide +kernel⟩ (fun _ _ _ h => h.1) (fun us hl => match us, hl with | [_], _ => rfl) ?_ (fun _ _ _ h => h.2)
  intro cdv A outer s H E hr
  have hu := hr.units
  delta t_dependent_couples
  exact (ds_cons (ds_set (ps_set (i := 1) nd_dependent_couples rfl (Or.inr rfl) (de_ix (de_var (pv 0)) de_int))) (ds_cons (ds_setLc2 (ps_setLc2 (i := 2) rfl nd_dependent_couples rfl rfl (sw_true rfl rfl rfl (by decide +kernel)) (di_enum (pi_enumA (by rfl) (He.free_ok KX G (c.fact 6)) (da_cons (de_var (pv 1)) da_nil))) (blkOk_by (own := [("at", 4), ("a", 5), ("b", 3)]) (by kernel_rfl)) (by decide) (fun _ _ _ _ _ => (dg_un rfl (dgs_cons (dg_name (pg_name (i := 4) nd_dependent_couples rfl (Or.inl rfl)) (by decide)) (dgs_cons (dg_name (pg_name (i := 5) nd_dependent_couples rfl (Or.inl rfl)) (by decide)) dgs_nil)))) (fun _ _ _ _ _ => dts_nil) (fun _ _ _ _ _ => (di_seq (de_sl (de_var (pv 1)) (do_some (de_op op_addA o_add (de_var (pv 4)) de_int)) do_no))) (fun _ _ _ _ _ => (dg_name (pg_name (i := 3) nd_dependent_couples rfl (Or.inl rfl)) (by decide))) (fun _ _ _ _ _ => dts_nil) (fun _ _ _ _ _ => (de_tup (da_cons (de_var (pv 5)) (da_cons (de_var (pv 3)) da_nil)))))) (ds_one (ds_ret (de_cb (pe_callTy call_tupleF (by rfl) (He.free_ok KX G (c.fact 5)) boot_tuple (da_cons (de_lc (pe_lc rfl nd_dependent_couples (di_seq (de_var (pv 2))) (blkOk_by (own := [("couple", 6)]) (by kernel_rfl)) (fun _ _ _ _ _ => (dg_name (pg_name (i := 6) nd_dependent_couples rfl (Or.inl rfl)) (by decide))) (fun _ _ _ _ _ => (dts_one (dt_cmp (op_nmemD hu) o_mem (de_var (pv 6)) (de_ix (de_var (pv 0)) de_int)))) (fun _ _ _ _ _ => (de_var (pv 6))))) da_nil)) c_tup)))))
theorem ok_counts  : FnE Pg w K mg base 1 (He.ga K "counts") ["alphabet", "row"] (sp_counts ⟨K, Pg, w⟩) := by
  obtain ⟨oc, od, osl, kV, doc, pm, an, cdv, ct, lk, hcd⟩ := c.def_ 3
  refine fnE_of (x := "counts") (qual := "counts") (st := Hd.s3) (f := (He.ga K "counts")) (N := N_counts) (t := t_counts ⟨K, Pg, w⟩) lk hcd (He.keep_ok (c.fact 67)) ⟨rfl, rfl, rfl, by decide +kernel, rfl, by decide +kernel, by decide +kernel⟩ (fun _ _ _ h => h.1) (fun us hl => match us, hl with | [_, _], _ => rfl) ?_ (fun _ _ _ h => h.2)
  intro cdv A outer s H E hr
  have hu := hr.units
  delta t_counts
  exact (ds_one (ds_ret (de_cb (pe_callTy call_tupleF (by rfl) (He.free_ok KX G (c.fact 5)) boot_tuple (da_cons (de_lc (pe_lc rfl nd_counts (di_seq (de_ix (de_var (pv 0)) de_int)) (blkOk_by (own := [("sign", 2)]) (by kernel_rfl)) (fun _ _ _ _ _ => (dg_name (pg_name (i := 2) nd_counts rfl (Or.inl rfl)) (by decide))) (fun _ _ _ _ _ => dts_nil) (fun _ _ _ _ _ => (de_tm (pe_tm F.slot_tuple_count F.type_tuple_count (mt_tcnt hu) (de_var (pv 1)) (da_cons (de_var (pv 2)) da_nil)) m_tcnt)))) da_nil)) c_tup)))
theorem ok_Left___init__ (h_dependent_couples : FnE Pg w K mg base 1 (He.ga K "dependent_couples") ["alphabet"] (sp_dependent_couples ⟨K, Pg, w⟩)) : FnE Pg w K mg base 2 (He.ma K (He.ga K "Left") "__init__") ["self", "alphabet", "row"] (sp_Left___init__ ⟨K, Pg, w⟩) := by
  obtain ⟨fd_dependent_couples, F_dependent_couples, b_dependent_couples, kp_dependent_couples⟩ := h_dependent_couples
  obtain ⟨oc, od, osl, kV, doc, pm, an, cdv, ct, lk, hcd⟩ := c.def_ 4
  refine fnE_of (x := "__init__") (qual := "Left.__init__") (st := Hd.s4) (f := (He.ma K (He.ga K "Left") "__init__")) (N := N_Left___init__) (t := t_Left___init__ ⟨K, Pg, w⟩) lk hcd (He.meth_ok (c.fact 68)).kp ⟨rfl, rfl, rfl, by decide +kernel, rfl, by decide +kernel, by decide +kernel⟩ (fun _ _ _ h => h.1) (fun us hl => match us, hl with | [_, _, _], _ => rfl) ?_ (fun _ _ _ h => h.2)
  intro cdv A outer s H E hr
  have hu := hr.units
  delta t_Left___init__
  exact (ds_cons (ds_fld (de_var (pv 0)) (de_var (pv 2))) (ds_cons (ds_fld (de_var (pv 0)) (de_ix (de_var (pv 1)) de_int)) (ds_cons (ds_setDc (ps_setDc (i := 3) rfl nd_Left___init__ rfl rfl (sw_dict rfl rfl rfl (by decide +kernel)) (di_seq (de_fld (de_var (pv 0)))) (blkOk_by (own := [("sign", 6)]) (by kernel_rfl)) (fun _ _ _ _ _ => (dg_name (pg_name (i := 6) nd_Left___init__ rfl (Or.inl rfl)) (by decide))) (fun _ _ _ _ _ => dts_nil) (fun _ _ _ _ _ => (de_var (pv 6))) (fun _ _ _ _ _ => (de_lst (da_cons (de_var (pv 6)) da_nil))))) (ds_cons (ds_for (vs := [4, 5]) PassesOwn.never rfl (di_seq (de_call F_dependent_couples (hr.mono (by decide)) (by rfl) (He.glo_ok KX G (c.fact 7)) kp_dependent_couples b_dependent_couples (da_cons (de_var (pv 1)) da_nil))) (dg_un rfl (dgs_cons (dg_name (pg_name (i := 4) nd_Left___init__ rfl (Or.inl rfl)) (by decide)) (dgs_cons (dg_name (pg_name (i := 5) nd_Left___init__ rfl (Or.inl rfl)) (by decide)) dgs_nil))) (ds_cons (ds_expr (de_bm (pe_bm F.plainAttrs_list F.slot_list_append F.type_list_append mt_append (de_dget hu (de_var (pv 3)) (de_var (pv 4)) (fun _ _ => rfl)) (da_cons (de_var (pv 5)) da_nil)) tyd_lst m_app)) (ds_one (ds_expr (de_bm (pe_bm F.plainAttrs_list F.slot_list_append F.type_list_append mt_append (de_dget hu (de_var (pv 3)) (de_var (pv 5)) (fun _ _ => rfl)) (da_cons (de_var (pv 4)) da_nil)) tyd_lst m_app))))) (ds_cons (ds_fld (de_var (pv 0)) (de_var (pv 3))) (ds_cons (ds_fld (de_var (pv 0)) (de_dc (pe_dc rfl nd_Left___init__ (di_seq (de_fld (de_var (pv 0)))) (blkOk_by (own := [("sign", 6)]) (by kernel_rfl)) (fun _ _ _ _ _ => (dg_name (pg_name (i := 6) nd_Left___init__ rfl (Or.inr rfl)) (by decide))) (fun _ _ _ _ _ => dts_nil) (fun _ _ _ _ _ => (de_var (pv 6))) (fun _ _ _ _ _ => (de_lc (pe_lc rfl nd_Left___init__ (di_enum (pi_enumA (by rfl) (He.free_ok KX G (c.fact 6)) (da_cons (de_var (pv 2)) da_nil))) (blkOk_by (own := [("at", 7), ("one", 8)]) (by kernel_rfl)) (fun _ _ _ _ _ => (dg_un rfl (dgs_cons (dg_name (pg_name (i := 7) nd_Left___init__ rfl (Or.inl rfl)) (by decide)) (dgs_cons (dg_name (pg_name (i := 8) nd_Left___init__ rfl (Or.inl rfl)) (by decide)) dgs_nil)))) (fun _ _ _ _ _ => (dts_one (dt_cmp (op_eqP hu) o_eqp (de_var (pv 8)) (de_var (pv 6))))) (fun _ _ _ _ _ => (de_var (pv 7))))))))) (ds_one (ds_fld (de_var (pv 0)) (de_dc (pe_dc rfl nd_Left___init__ (di_seq (de_fld (de_var (pv 0)))) (blkOk_by (own := [("sign", 6)]) (by kernel_rfl)) (fun _ _ _ _ _ => (dg_name (pg_name (i := 6) nd_Left___init__ rfl (Or.inl rfl)) (by decide))) (fun _ _ _ _ _ => dts_nil) (fun _ _ _ _ _ => (de_var (pv 6))) (fun _ _ _ _ _ => de_int)))))))))))
theorem ok_Left_place  : FnE Pg w K mg base 1 (He.ma K (He.ga K "Left") "place") ["self", "sign"] (sp_Left_place ⟨K, Pg, w⟩) := by
  obtain ⟨oc, od, osl, kV, doc, pm, an, cdv, ct, lk, hcd⟩ := c.def_ 5
  refine fnE_of (x := "place") (qual := "Left.place") (st := Hd.s5) (f := (He.ma K (He.ga K "Left") "place")) (N := N_Left_place) (t := t_Left_place ⟨K, Pg, w⟩) lk hcd (He.meth_ok (c.fact 11)).kp ⟨rfl, rfl, rfl, by decide +kernel, rfl, by decide +kernel, by decide +kernel⟩ (fun _ _ _ h => h.1) (fun us hl => match us, hl with | [_, _], _ => rfl) ?_ (fun _ _ _ h => h.2)
  intro cdv A outer s H E hr
  have hu := hr.units
  delta t_Left_place
  exact (ds_cons (ds_set (ps_set (i := 2) nd_Left_place rfl (Or.inl rfl) (de_dget hu (de_fld (de_var (pv 0))) (de_var (pv 1)) (fun _ _ => rfl)))) (ds_one (ds_ret (de_ifExp (dt_cmp (op_ltD hu) o_cmp (de_var (pv 2)) (de_cb (pe_callB call_lenA (by rfl) (He.free_ok KX G (c.fact 8)) boot_len (da_cons (de_dget hu (de_fld (de_var (pv 0))) (de_var (pv 1)) (fun _ _ => rfl)) da_nil)) c_len)) (de_ix (de_dget hu (de_fld (de_var (pv 0))) (de_var (pv 1)) (fun _ _ => rfl)) (de_var (pv 2))) de_non))))
theorem ok_Left_can_be_first (h_Left_place : FnE Pg w K mg base 1 (He.ma K (He.ga K "Left") "place") ["self", "sign"] (sp_Left_place ⟨K, Pg, w⟩)) : FnE Pg w K mg base 2 (He.ma K (He.ga K "Left") "can_be_first") ["self", "sign"] (sp_Left_can_be_first ⟨K, Pg, w⟩) := by
  obtain ⟨fd_Left_place, F_Left_place, b_Left_place, kp_Left_place⟩ := h_Left_place
  obtain ⟨oc, od, osl, kV, doc, pm, an, cdv, ct, lk, hcd⟩ := c.def_ 6
  refine fnE_of (x := "can_be_first") (qual := "Left.can_be_first") (st := Hd.s6) (f := (He.ma K (He.ga K "Left") "can_be_first")) (N := N_Left_can_be_first) (t := t_Left_can_be_first ⟨K, Pg, w⟩) lk hcd (He.meth_ok (c.fact 12)).kp ⟨rfl, rfl, rfl, by decide +kernel, rfl, by decide +kernel, by decide +kernel⟩ (fun _ _ _ h => h.1) (fun us hl => match us, hl with | [_, _], _ => rfl) ?_ (fun _ _ _ h => h.2)
  intro cdv A outer s H E hr
  have hu := hr.units
  delta t_Left_can_be_first
  exact (ds_cons (ds_set (ps_set (i := 2) nd_Left_can_be_first rfl (Or.inr rfl) (de_meth (pe_meth (de_var (pv 0)) (He.cls_ok (c.fact 10)) (He.meth_ok (c.fact 11)) F_Left_place (hr.mono (by decide)) b_Left_place .nil pass0 (da_cons (de_var (pv 1)) da_nil))))) (ds_cons (ds_if (dt_cmp op_isN o_isN (de_var (pv 2)) de_non) (ds_one (ds_ret de_bl)) ds_nil) (ds_cons (ds_setLc (ps_setLc (i := 3) rfl nd_Left_can_be_first rfl rfl (sw_true rfl rfl rfl (by decide +kernel)) (di_seq (de_dget hu (de_fld (de_var (pv 0))) (de_var (pv 1)) (fun _ _ => rfl))) (blkOk_by (own := [("other", 4)]) (by kernel_rfl)) (fun _ _ _ _ _ => (dg_name (pg_name (i := 4) nd_Left_can_be_first rfl (Or.inl rfl)) (by decide))) (fun _ _ _ _ _ => (dts_one (dt_cmp (op_neP hu) o_eqp (de_var (pv 4)) (de_var (pv 1))))) (fun _ _ _ _ _ => (de_meth (pe_meth (de_var (pv 0)) (He.cls_ok (c.fact 10)) (He.meth_ok (c.fact 11)) F_Left_place (hr.mono (by decide)) b_Left_place .nil pass0 (da_cons (de_var (pv 4)) da_nil)))))) (ds_one (ds_ret (de_cb (pe_callB (cr_all rfl) (by rfl) (He.free_ok KX G (c.fact 9)) boot_all (da_cons (de_lc (pe_lc rfl nd_Left_can_be_first (di_seq (de_var (pv 3))) (blkOk_by (own := [("there", 5)]) (by kernel_rfl)) (fun _ _ _ _ _ => (dg_name (pg_name (i := 5) nd_Left_can_be_first rfl (Or.inl rfl)) (by decide))) (fun _ _ _ _ _ => dts_nil) (fun _ _ _ _ _ => (de_or (de_cmp op_isN o_isN (de_var (pv 5)) de_non) (de_one (de_cmp (op_gtD hu) o_cmp (de_var (pv 5)) (de_var (pv 2)))))))) da_nil)) c_all))))))
theorem ok_Left_firsts (h_Left_can_be_first : FnE Pg w K mg base 2 (He.ma K (He.ga K "Left") "can_be_first") ["self", "sign"] (sp_Left_can_be_first ⟨K, Pg, w⟩)) : FnE Pg w K mg base 3 (He.ma K (He.ga K "Left") "firsts") ["self"] (sp_Left_firsts ⟨K, Pg, w⟩) := by
  obtain ⟨fd_Left_can_be_first, F_Left_can_be_first, b_Left_can_be_first, kp_Left_can_be_first⟩ := h_Left_can_be_first
  obtain ⟨oc, od, osl, kV, doc, pm, an, cdv, ct, lk, hcd⟩ := c.def_ 7
  refine fnE_of (x := "firsts") (qual := "Left.firsts") (st := Hd.s7) (f := (He.ma K (He.ga K "Left") "firsts")) (N := N_Left_firsts) (t := t_Left_firsts ⟨K, Pg, w⟩) lk hcd (He.meth_ok (c.fact 15)).kp ⟨rfl, rfl, rfl, by decide +kernel, rfl, by decide +kernel, by decide +kernel⟩ (fun _ _ _ h => h.1) (fun us hl => match us, hl with | [_], _ => rfl) ?_ (fun _ _ _ h => h.2)
  intro cdv A outer s H E hr
  have hu := hr.units
  delta t_Left_firsts
  exact (ds_one (ds_ret (de_lc (pe_lc rfl nd_Left_firsts (di_seq (de_fld (de_var (pv 0)))) (blkOk_by (own := [("sign", 1)]) (by kernel_rfl)) (fun _ _ _ _ _ => (dg_name (pg_name (i := 1) nd_Left_firsts rfl (Or.inl rfl)) (by decide))) (fun _ _ _ _ _ => (dts_one (dt_val (de_meth (pe_meth (de_var (pv 0)) (He.cls_ok (c.fact 10)) (He.meth_ok (c.fact 12)) F_Left_can_be_first (hr.mono (by decide)) b_Left_can_be_first .nil pass0 (da_cons (de_var (pv 1)) da_nil)))))) (fun _ _ _ _ _ => (de_var (pv 1)))))))
theorem ok_Left_take  : FnE Pg w K mg base 1 (He.ma K (He.ga K "Left") "take") ["self", "sign"] (sp_Left_take ⟨K, Pg, w⟩) := by
  obtain ⟨oc, od, osl, kV, doc, pm, an, cdv, ct, lk, hcd⟩ := c.def_ 8
  refine fnE_of (x := "take") (qual := "Left.take") (st := Hd.s8) (f := (He.ma K (He.ga K "Left") "take")) (N := N_Left_take) (t := t_Left_take ⟨K, Pg, w⟩) lk hcd (He.meth_ok (c.fact 14)).kp ⟨rfl, rfl, rfl, by decide +kernel, rfl, by decide +kernel, by decide +kernel⟩ (fun _ _ _ h => h.1) (fun us hl => match us, hl with | [_, _], _ => rfl) ?_ (fun _ _ _ h => h.2)
  intro cdv A outer s H E hr
  have hu := hr.units
  delta t_Left_take
  exact (ds_one (ds_daug o_int0 hu (de_fld (de_var (pv 0))) (de_var (pv 1)) de_int (in_of iop_add)))
theorem ok_Left_left  : FnE Pg w K mg base 1 (He.ma K (He.ga K "Left") "left") ["self"] (sp_Left_left ⟨K, Pg, w⟩) := by
  obtain ⟨oc, od, osl, kV, doc, pm, an, cdv, ct, lk, hcd⟩ := c.def_ 9
  refine fnE_of (x := "left") (qual := "Left.left") (st := Hd.s9) (f := (He.ma K (He.ga K "Left") "left")) (N := N_Left_left) (t := t_Left_left ⟨K, Pg, w⟩) lk hcd (He.meth_ok (c.fact 18)).kp ⟨rfl, rfl, rfl, by decide +kernel, rfl, by decide +kernel, by decide +kernel⟩ (fun _ _ _ h => h.1) (fun us hl => match us, hl with | [_], _ => rfl) ?_ (fun _ _ _ h => h.2)
  intro cdv A outer s H E hr
  have hu := hr.units
  delta t_Left_left
  exact (ds_cons (ds_set (ps_set (i := 1) nd_Left_left rfl (Or.inr rfl) (de_dc2 (pe_dc2 rfl nd_Left_left (di_seq (de_fld (de_var (pv 0)))) (blkOk_by (own := [("sign", 2), ("at", 3)]) (by kernel_rfl)) (by decide) (fun _ _ _ _ _ => (dg_name (pg_name (i := 2) nd_Left_left rfl (Or.inl rfl)) (by decide))) (fun _ _ _ _ _ => dts_nil) (fun _ _ _ _ _ => (di_seq (de_sl (de_dget hu (de_fld (de_var (pv 0))) (de_var (pv 2)) (fun _ _ => rfl)) do_no (do_some (de_dget hu (de_fld (de_var (pv 0))) (de_var (pv 2)) (fun _ _ => rfl)))))) (fun _ _ _ _ _ => (dg_name (pg_name (i := 3) nd_Left_left rfl (Or.inl rfl)) (by decide))) (fun _ _ _ _ _ => dts_nil) (fun _ _ _ _ _ => (de_var (pv 3))) (fun _ _ _ _ _ => de_bl))))) (ds_one (ds_ret (de_cb (pe_callTy call_tupleF (by rfl) (He.free_ok KX G (c.fact 5)) boot_tuple (da_cons (de_lc (pe_lc rfl nd_Left_left (di_enum (pi_enumA (by rfl) (He.free_ok KX G (c.fact 6)) (da_cons (de_fld (de_var (pv 0))) da_nil))) (blkOk_by (own := [("at", 3), ("sign", 2)]) (by kernel_rfl)) (fun _ _ _ _ _ => (dg_un rfl (dgs_cons (dg_name (pg_name (i := 3) nd_Left_left rfl (Or.inl rfl)) (by decide)) (dgs_cons (dg_name (pg_name (i := 2) nd_Left_left rfl (Or.inl rfl)) (by decide)) dgs_nil)))) (fun _ _ _ _ _ => (dts_one (dt_dnin hu (de_var (pv 3)) (de_var (pv 1))))) (fun _ _ _ _ _ => (de_var (pv 2))))) da_nil)) c_tup))))
theorem ok_normal (h_Left___init__ : FnE Pg w K mg base 2 (He.ma K (He.ga K "Left") "__init__") ["self", "alphabet", "row"] (sp_Left___init__ ⟨K, Pg, w⟩)) (h_Left_firsts : FnE Pg w K mg base 3 (He.ma K (He.ga K "Left") "firsts") ["self"] (sp_Left_firsts ⟨K, Pg, w⟩)) (h_Left_take : FnE Pg w K mg base 1 (He.ma K (He.ga K "Left") "take") ["self", "sign"] (sp_Left_take ⟨K, Pg, w⟩)) : FnE Pg w K mg base 4 (He.ga K "normal") ["alphabet", "row"] (sp_normal ⟨K, Pg, w⟩) := by
  obtain ⟨fd_Left___init__, F_Left___init__, b_Left___init__, kp_Left___init__⟩ := h_Left___init__
  obtain ⟨fd_Left_firsts, F_Left_firsts, b_Left_firsts, kp_Left_firsts⟩ := h_Left_firsts
  obtain ⟨fd_Left_take, F_Left_take, b_Left_take, kp_Left_take⟩ := h_Left_take
  obtain ⟨oc, od, osl, kV, doc, pm, an, cdv, ct, lk, hcd⟩ := c.def_ 10
  refine fnE_of (x := "normal") (qual := "normal") (st := Hd.s10) (f := (He.ga K "normal")) (N := N_normal) (t := t_normal ⟨K, Pg, w⟩) lk hcd (He.keep_ok (c.fact 69)) ⟨rfl, rfl, rfl, by decide +kernel, rfl, by decide +kernel, by decide +kernel⟩ (fun _ _ _ h => h.1) (fun us hl => match us, hl with | [_, _], _ => rfl) ?_ (fun _ _ _ h => h.2)
  intro cdv A outer s H E hr
  have hu := hr.units
  delta t_normal
  exact (ds_cons (ds_par (ps_par (i := 3) (j := 4) rfl nd_normal rfl rfl (by decide) rfl rfl (da_cons (de_make (pe_make (He.mkr_ok (c.fact 16)) F_Left___init__ (hr.mono (by decide)) (by rfl) (He.glo_ok KX G (c.fact 17)) b_Left___init__ .nil pass0 (da_cons (de_var (pv 0)) (da_cons (de_var (pv 1)) da_nil)))) (da_cons (de_lst da_nil) da_nil)) (by first | rfl | decide +kernel))) (ds_cons (ds_for (vs := [2]) PassesOwn.never rfl (di_rng1 (pi_range1 (by rfl) (He.free_ok KX G (c.fact 13)) (da_cons (de_cb (pe_callB call_lenA (by rfl) (He.free_ok KX G (c.fact 8)) boot_len (da_cons (de_var (pv 1)) da_nil)) c_len) da_nil))) (dg_name (pg_name (i := 2) nd_normal rfl (Or.inl rfl)) (by decide)) (ds_cons (ds_set (ps_set (i := 5) nd_normal rfl (Or.inl rfl) (de_ix (de_meth0 (pe_meth0 (de_var (pv 3)) (He.cls_ok (c.fact 10)) (He.meth_ok (c.fact 15)) F_Left_firsts (hr.mono (by decide)) b_Left_firsts .nil pass0)) de_int))) (ds_cons (ds_expr (de_meth (pe_meth (de_var (pv 3)) (He.cls_ok (c.fact 10)) (He.meth_ok (c.fact 14)) F_Left_take (hr.mono (by decide)) b_Left_take .nil pass0 (da_cons (de_var (pv 5)) da_nil)))) (ds_one (ds_expr (de_bm (pe_bm F.plainAttrs_list F.slot_list_append F.type_list_append mt_append (de_var (pv 4)) (da_cons (de_var (pv 5)) da_nil)) tyd_lst m_app)))))) (ds_one (ds_ret (de_cb (pe_callTy call_tupleF (by rfl) (He.free_ok KX G (c.fact 5)) boot_tuple (da_cons (de_var (pv 4)) da_nil)) c_tup)))))
theorem ok_left_of (h_Left___init__ : FnE Pg w K mg base 2 (He.ma K (He.ga K "Left") "__init__") ["self", "alphabet", "row"] (sp_Left___init__ ⟨K, Pg, w⟩)) (h_Left_can_be_first : FnE Pg w K mg base 2 (He.ma K (He.ga K "Left") "can_be_first") ["self", "sign"] (sp_Left_can_be_first ⟨K, Pg, w⟩)) (h_Left_left : FnE Pg w K mg base 1 (He.ma K (He.ga K "Left") "left") ["self"] (sp_Left_left ⟨K, Pg, w⟩)) (h_Left_take : FnE Pg w K mg base 1 (He.ma K (He.ga K "Left") "take") ["self", "sign"] (sp_Left_take ⟨K, Pg, w⟩)) (h_normal : FnE Pg w K mg base 4 (He.ga K "normal") ["alphabet", "row"] (sp_normal ⟨K, Pg, w⟩)) : FnE Pg w K mg base 5 (He.ga K "left_of") ["alphabet", "g", "x"] (sp_left_of ⟨K, Pg, w⟩) := by
  obtain ⟨fd_Left___init__, F_Left___init__, b_Left___init__, kp_Left___init__⟩ := h_Left___init__
  obtain ⟨fd_Left_can_be_first, F_Left_can_be_first, b_Left_can_be_first, kp_Left_can_be_first⟩ := h_Left_can_be_first
  obtain ⟨fd_Left_left, F_Left_left, b_Left_left, kp_Left_left⟩ := h_Left_left
  obtain ⟨fd_Left_take, F_Left_take, b_Left_take, kp_Left_take⟩ := h_Left_take
  obtain ⟨fd_normal, F_normal, b_normal, kp_normal⟩ := h_normal
  obtain ⟨oc, od, osl, kV, doc, pm, an, cdv, ct, lk, hcd⟩ := c.def_ 11
  refine fnE_of (x := "left_of") (qual := "left_of") (st := Hd.s11) (f := (He.ga K "left_of")) (N := N_left_of) (t := t_left_of ⟨K, Pg, w⟩) lk hcd (He.keep_ok (c.fact 70)) ⟨rfl, rfl, rfl, by decide +kernel, rfl, by decide +kernel, by decide +kernel⟩ (fun _ _ _ h => h.1) (fun us hl => match us, hl with | [_, _, _], _ => rfl) ?_ (fun _ _ _ h => h.2)
  intro cdv A outer s H E hr
  have hu := hr.units
  delta t_left_of
  exact (ds_cons (ds_set (ps_set (i := 3) nd_left_of rfl (Or.inl rfl) (de_make (pe_make (He.mkr_ok (c.fact 16)) F_Left___init__ (hr.mono (by decide)) (by rfl) (He.glo_ok KX G (c.fact 17)) b_Left___init__ .nil pass0 (da_cons (de_var (pv 0)) (da_cons (de_var (pv 2)) da_nil)))))) (ds_cons (ds_for (vs := [4]) PassesOwn.never rfl (di_seq (de_var (pv 1))) (dg_name (pg_name (i := 4) nd_left_of rfl (Or.inl rfl)) (by decide)) (ds_cons (ds_if (dt_not (dt_val (de_meth (pe_meth (de_var (pv 3)) (He.cls_ok (c.fact 10)) (He.meth_ok (c.fact 12)) F_Left_can_be_first (hr.mono (by decide)) b_Left_can_be_first .nil pass0 (da_cons (de_var (pv 4)) da_nil))))) (ds_one (ds_ret de_non)) ds_nil) (ds_one (ds_expr (de_meth (pe_meth (de_var (pv 3)) (He.cls_ok (c.fact 10)) (He.meth_ok (c.fact 14)) F_Left_take (hr.mono (by decide)) b_Left_take .nil pass0 (da_cons (de_var (pv 4)) da_nil))))))) (ds_one (ds_ret (de_call F_normal (hr.mono (by decide)) (by rfl) (He.glo_ok KX G (c.fact 19)) kp_normal b_normal (da_cons (de_var (pv 0)) (da_cons (de_meth0 (pe_meth0 (de_var (pv 3)) (He.cls_ok (c.fact 10)) (He.meth_ok (c.fact 18)) F_Left_left (hr.mono (by decide)) b_Left_left .nil pass0)) da_nil)))))))
theorem ok_common (h_Left___init__ : FnE Pg w K mg base 2 (He.ma K (He.ga K "Left") "__init__") ["self", "alphabet", "row"] (sp_Left___init__ ⟨K, Pg, w⟩)) (h_Left_can_be_first : FnE Pg w K mg base 2 (He.ma K (He.ga K "Left") "can_be_first") ["self", "sign"] (sp_Left_can_be_first ⟨K, Pg, w⟩)) (h_Left_firsts : FnE Pg w K mg base 3 (He.ma K (He.ga K "Left") "firsts") ["self"] (sp_Left_firsts ⟨K, Pg, w⟩)) (h_Left_take : FnE Pg w K mg base 1 (He.ma K (He.ga K "Left") "take") ["self", "sign"] (sp_Left_take ⟨K, Pg, w⟩)) (h_normal : FnE Pg w K mg base 4 (He.ga K "normal") ["alphabet", "row"] (sp_normal ⟨K, Pg, w⟩)) : FnE Pg w K mg base 5 (He.ga K "common") ["alphabet", "x", "y"] (sp_common ⟨K, Pg, w⟩) := by
  obtain ⟨fd_Left___init__, F_Left___init__, b_Left___init__, kp_Left___init__⟩ := h_Left___init__
  obtain ⟨fd_Left_can_be_first, F_Left_can_be_first, b_Left_can_be_first, kp_Left_can_be_first⟩ := h_Left_can_be_first
  obtain ⟨fd_Left_firsts, F_Left_firsts, b_Left_firsts, kp_Left_firsts⟩ := h_Left_firsts
  obtain ⟨fd_Left_take, F_Left_take, b_Left_take, kp_Left_take⟩ := h_Left_take
  obtain ⟨fd_normal, F_normal, b_normal, kp_normal⟩ := h_normal
  obtain ⟨oc, od, osl, kV, doc, pm, an, cdv, ct, lk, hcd⟩ := c.def_ 12
  refine fnE_of (x := "common") (qual := "common") (st := Hd.s12) (f := (He.ga K "common")) (N := N_common) (t := t_common ⟨K, Pg, w⟩) lk hcd (He.keep_ok (c.fact 71)) ⟨rfl, rfl, rfl, by decide +kernel, rfl, by decide +kernel, by decide +kernel⟩ (fun _ _ _ h => h.1) (fun us hl => match us, hl with | [_, _, _], _ => rfl) ?_ (fun _ _ _ h => h.2)
  intro cdv A outer s H E hr
  have hu := hr.units
  delta t_common
  exact (ds_cons (ds_asg (vs := [3, 4, 5]) (de_tup (da_cons (de_make (pe_make (He.mkr_ok (c.fact 16)) F_Left___init__ (hr.mono (by decide)) (by rfl) (He.glo_ok KX G (c.fact 17)) b_Left___init__ .nil pass0 (da_cons (de_var (pv 0)) (da_cons (de_var (pv 1)) da_nil)))) (da_cons (de_make (pe_make (He.mkr_ok (c.fact 16)) F_Left___init__ (hr.mono (by decide)) (by rfl) (He.glo_ok KX G (c.fact 17)) b_Left___init__ .nil pass0 (da_cons (de_var (pv 0)) (da_cons (de_var (pv 2)) da_nil)))) (da_cons (de_lst da_nil) da_nil)))) (dg_un rfl (dgs_cons (dg_name (pg_name (i := 3) nd_common rfl (Or.inl rfl)) (by decide)) (dgs_cons (dg_name (pg_name (i := 4) nd_common rfl (Or.inr rfl)) (by decide)) (dgs_cons (dg_name (pg_name (i := 5) nd_common rfl (Or.inl rfl)) (by decide)) dgs_nil))))) (ds_one (ds_while PassesOwn.never (dt_val de_bl) (ds_cons (ds_setLc (ps_setLc (i := 6) rfl nd_common rfl rfl (sw_true rfl rfl rfl (by decide +kernel)) (di_seq (de_meth0 (pe_meth0 (de_var (pv 3)) (He.cls_ok (c.fact 10)) (He.meth_ok (c.fact 15)) F_Left_firsts (hr.mono (by decide)) b_Left_firsts .nil pass0))) (blkOk_by (own := [("sign", 7)]) (by kernel_rfl)) (fun _ _ _ _ _ => (dg_name (pg_name (i := 7) nd_common rfl (Or.inl rfl)) (by decide))) (fun _ _ _ _ _ => (dts_one (dt_val (de_meth (pe_meth (de_var (pv 4)) (He.cls_ok (c.fact 10)) (He.meth_ok (c.fact 12)) F_Left_can_be_first (hr.mono (by decide)) b_Left_can_be_first .nil pass0 (da_cons (de_var (pv 7)) da_nil)))))) (fun _ _ _ _ _ => (de_var (pv 7))))) (ds_cons (ds_if (dt_cmp (op_eqP hu) o_eqp (de_var (pv 6)) (de_lst da_nil)) (ds_one (ds_ret (de_call F_normal (hr.mono (by decide)) (by rfl) (He.glo_ok KX G (c.fact 19)) kp_normal b_normal (da_cons (de_var (pv 0)) (da_cons (de_cb (pe_callTy call_tupleF (by rfl) (He.free_ok KX G (c.fact 5)) boot_tuple (da_cons (de_var (pv 5)) da_nil)) c_tup) da_nil))))) ds_nil) (ds_cons (ds_expr (de_meth (pe_meth (de_var (pv 3)) (He.cls_ok (c.fact 10)) (He.meth_ok (c.fact 14)) F_Left_take (hr.mono (by decide)) b_Left_take .nil pass0 (da_cons (de_ix (de_var (pv 6)) de_int) da_nil)))) (ds_cons (ds_expr (de_meth (pe_meth (de_var (pv 4)) (He.cls_ok (c.fact 10)) (He.meth_ok (c.fact 14)) F_Left_take (hr.mono (by decide)) b_Left_take .nil pass0 (da_cons (de_ix (de_var (pv 6)) de_int) da_nil)))) (ds_one (ds_expr (de_bm (pe_bm F.plainAttrs_list F.slot_list_append F.type_list_append mt_append (de_var (pv 5)) (da_cons (de_ix (de_var (pv 6)) de_int) da_nil)) tyd_lst m_app))))))))))
theorem ok_lag (h_common : FnE Pg w K mg base 5 (He.ga K "common") ["alphabet", "x", "y"] (sp_common ⟨K, Pg, w⟩)) (h_left_of : FnE Pg w K mg base 5 (He.ga K "left_of") ["alphabet", "g", "x"] (sp_left_of ⟨K, Pg, w⟩)) : FnE Pg w K mg base 6 (He.ga K "lag") ["alphabet", "one", "other"] (sp_lag ⟨K, Pg, w⟩) := by
  obtain ⟨fd_common, F_common, b_common, kp_common⟩ := h_common
  obtain ⟨fd_left_of, F_left_of, b_left_of, kp_left_of⟩ := h_left_of
  obtain ⟨oc, od, osl, kV, doc, pm, an, cdv, ct, lk, hcd⟩ := c.def_ 13
  refine fnE_of (x := "lag") (qual := "lag") (st := Hd.s13) (f := (He.ga K "lag")) (N := N_lag) (t := t_lag ⟨K, Pg, w⟩) lk hcd (He.keep_ok (c.fact 72)) ⟨rfl, rfl, rfl, by decide +kernel, rfl, by decide +kernel, by decide +kernel⟩ (fun _ _ _ h => h.1) (fun us hl => match us, hl with | [_, _, _], _ => rfl) ?_ (fun _ _ _ h => h.2)
  intro cdv A outer s H E hr
  have hu := hr.units
  delta t_lag
  exact (ds_cons (ds_set (ps_set (i := 3) nd_lag rfl (Or.inl rfl) (de_call F_common (hr.mono (by decide)) (by rfl) (He.glo_ok KX G (c.fact 21)) kp_common b_common (da_cons (de_var (pv 0)) (da_cons (de_var (pv 1)) (da_cons (de_var (pv 2)) da_nil)))))) (ds_one (ds_ret (de_tup (da_cons (de_call F_left_of (hr.mono (by decide)) (by rfl) (He.glo_ok KX G (c.fact 20)) kp_left_of b_left_of (da_cons (de_var (pv 0)) (da_cons (de_var (pv 3)) (da_cons (de_var (pv 1)) da_nil)))) (da_cons (de_call F_left_of (hr.mono (by decide)) (by rfl) (He.glo_ok KX G (c.fact 20)) kp_left_of b_left_of (da_cons (de_var (pv 0)) (da_cons (de_var (pv 3)) (da_cons (de_var (pv 2)) da_nil)))) da_nil))))))
theorem ok_fits (h_are_independent : FnE Pg w K mg base 2 (He.ga K "are_independent") ["alphabet", "a", "b"] (sp_are_independent ⟨K, Pg, w⟩)) : FnE Pg w K mg base 3 (He.ga K "fits") ["alphabet", "told"] (sp_fits ⟨K, Pg, w⟩) := by
  obtain ⟨fd_are_independent, F_are_independent, b_are_independent, kp_are_independent⟩ := h_are_independent
  obtain ⟨oc, od, osl, kV, doc, pm, an, cdv, ct, lk, hcd⟩ := c.def_ 14
  refine fnE_of (x := "fits") (qual := "fits") (st := Hd.s14) (f := (He.ga K "fits")) (N := N_fits) (t := t_fits ⟨K, Pg, w⟩) lk hcd (He.keep_ok (c.fact 73)) ⟨rfl, rfl, rfl, by decide +kernel, rfl, by decide +kernel, by decide +kernel⟩ (fun _ _ _ h => h.1) (fun us hl => match us, hl with | [_, _], _ => rfl) ?_ (fun _ _ _ h => h.2)
  intro cdv A outer s H E hr
  have hu := hr.units
  delta t_fits
  exact (ds_cons (ds_asg (vs := [2, 3]) (de_var (pv 1)) (dg_un rfl (dgs_cons (dg_name (pg_name (i := 2) nd_fits rfl (Or.inl rfl)) (by decide)) (dgs_cons (dg_name (pg_name (i := 3) nd_fits rfl (Or.inr rfl)) (by decide)) dgs_nil)))) (ds_one (ds_ret (de_cb (pe_callB (cr_all rfl) (by rfl) (He.free_ok KX G (c.fact 9)) boot_all (da_cons (de_lc2 (pe_lc2 rfl nd_fits (di_seq (de_sortSet rfl hu (by rfl) (He.free_ok KX G (c.fact 22)) (by rfl) (He.free_ok KX G (c.fact 23)) (de_var (pv 2)))) (blkOk_by (own := [("a", 4), ("b", 5)]) (by kernel_rfl)) (by decide) (fun _ _ _ _ _ => (dg_name (pg_name (i := 4) nd_fits rfl (Or.inl rfl)) (by decide))) (fun _ _ _ _ _ => dts_nil) (fun _ _ _ _ _ => (di_seq (de_sortSet rfl hu (by rfl) (He.free_ok KX G (c.fact 22)) (by rfl) (He.free_ok KX G (c.fact 23)) (de_var (pv 3))))) (fun _ _ _ _ _ => (dg_name (pg_name (i := 5) nd_fits rfl (Or.inl rfl)) (by decide))) (fun _ _ _ _ _ => dts_nil) (fun _ _ _ _ _ => (de_call F_are_independent (hr.mono (by decide)) (by rfl) (He.glo_ok KX G (c.fact 24)) kp_are_independent b_are_independent (da_cons (de_var (pv 0)) (da_cons (de_var (pv 4)) (da_cons (de_var (pv 5)) da_nil))))))) da_nil)) c_all))))
theorem ok_is_row  : FnE Pg w K mg base 1 (He.ga K "is_row") ["alphabet", "thing"] (sp_is_row ⟨K, Pg, w⟩) := by
  obtain ⟨oc, od, osl, kV, doc, pm, an, cdv, ct, lk, hcd⟩ := c.def_ 15
  refine fnE_of (x := "is_row") (qual := "is_row") (st := Hd.s15) (f := (He.ga K "is_row")) (N := N_is_row) (t := t_is_row ⟨K, Pg, w⟩) lk hcd (He.keep_ok (c.fact 74)) ⟨rfl, rfl, rfl, by decide +kernel, rfl, by decide +kernel, by decide +kernel⟩ (fun _ _ _ h => h.1) (fun us hl => match us, hl with | [_, _], _ => rfl) ?_ (fun _ _ _ h => h.2)
  intro cdv A outer s H E hr
  have hu := hr.units
  delta t_is_row
  exact (ds_one (ds_ret (de_and (de_isi (T := "") isi_tuple_ok (by rfl) (He.free_ok KX G (c.fact 0)) (by rfl) (He.free_ok KX G (c.fact 5)) boot_tuple (de_var (pv 1)) (fun h => pe_callB call_isi (by rfl) (He.free_ok KX G (c.fact 0)) boot_isinstance h) (fun h k => pa_cons h (pa_cons k pa_nil))) (de_one (de_cb (pe_callB (cr_all rfl) (by rfl) (He.free_ok KX G (c.fact 9)) boot_all (da_cons (de_lc (pe_lc rfl nd_is_row (di_seq (de_var (pv 1))) (blkOk_by (own := [("one", 2)]) (by kernel_rfl)) (fun _ _ _ _ _ => (dg_name (pg_name (i := 2) nd_is_row rfl (Or.inl rfl)) (by decide))) (fun _ _ _ _ _ => dts_nil) (fun _ _ _ _ _ => (de_and (de_isi (T := "") isi_str_ok (by rfl) (He.free_ok KX G (c.fact 0)) (by rfl) (He.free_ok KX G (c.fact 1)) boot_str (de_var (pv 2)) (fun h => pe_callB call_isi (by rfl) (He.free_ok KX G (c.fact 0)) boot_isinstance h) (fun h k => pa_cons h (pa_cons k pa_nil))) (de_one (de_cmp (op_memD hu) o_mem (de_var (pv 2)) (de_ix (de_var (pv 0)) de_int))))))) da_nil)) c_all)))))
theorem ok_is_lag (h_common : FnE Pg w K mg base 5 (He.ga K "common") ["alphabet", "x", "y"] (sp_common ⟨K, Pg, w⟩)) (h_is_row : FnE Pg w K mg base 1 (He.ga K "is_row") ["alphabet", "thing"] (sp_is_row ⟨K, Pg, w⟩)) (h_normal : FnE Pg w K mg base 4 (He.ga K "normal") ["alphabet", "row"] (sp_normal ⟨K, Pg, w⟩)) : FnE Pg w K mg base 6 (He.ga K "is_lag") ["alphabet", "thing"] (sp_is_lag ⟨K, Pg, w⟩) := by
  obtain ⟨fd_common, F_common, b_common, kp_common⟩ := h_common
  obtain ⟨fd_is_row, F_is_row, b_is_row, kp_is_row⟩ := h_is_row
  obtain ⟨fd_normal, F_normal, b_normal, kp_normal⟩ := h_normal
  obtain ⟨oc, od, osl, kV, doc, pm, an, cdv, ct, lk, hcd⟩ := c.def_ 16
  refine fnE_of (x := "is_lag") (qual := "is_lag") (st := Hd.s16) (f := (He.ga K "is_lag")) (N := N_is_lag) (t := t_is_lag ⟨K, Pg, w⟩) lk hcd (He.keep_ok (c.fact 75)) ⟨rfl, rfl, rfl, by decide +kernel, rfl, by decide +kernel, by decide +kernel⟩ (fun _ _ _ h => h.1) (fun us hl => match us, hl with | [_, _], _ => rfl) ?_ (fun _ _ _ h => h.2)
  intro cdv A outer s H E hr
  have hu := hr.units
  delta t_is_lag
  exact (ds_cons (ds_if (PW.pt (dw_or (dt_not (dt_val (de_isi (T := "") isi_tuple_ok (by rfl) (He.free_ok KX G (c.fact 0)) (by rfl) (He.free_ok KX G (c.fact 5)) boot_tuple (de_var (pv 1)) (fun h => pe_callB call_isi (by rfl) (He.free_ok KX G (c.fact 0)) boot_isinstance h) (fun h k => pa_cons h (pa_cons k pa_nil))))) (dw_or (dt_cmp (op_neP hu) o_eqp (de_cb (pe_callB call_lenA (by rfl) (He.free_ok KX G (c.fact 8)) boot_len (da_cons (de_var (pv 1)) da_nil)) c_len) de_int) (dw_or1 (dt_not (dt_val (de_cb (pe_callB (cr_all rfl) (by rfl) (He.free_ok KX G (c.fact 9)) boot_all (da_cons (de_lc (pe_lc rfl nd_is_lag (di_seq (de_var (pv 1))) (blkOk_by (own := [("one", 2)]) (by kernel_rfl)) (fun _ _ _ _ _ => (dg_name (pg_name (i := 2) nd_is_lag rfl (Or.inl rfl)) (by decide))) (fun _ _ _ _ _ => dts_nil) (fun _ _ _ _ _ => (de_call F_is_row (hr.mono (by decide)) (by rfl) (He.glo_ok KX G (c.fact 25)) kp_is_row b_is_row (da_cons (de_var (pv 0)) (da_cons (de_var (pv 2)) da_nil)))))) da_nil)) c_all))))))) (ds_one (ds_ret de_bl)) ds_nil) (ds_cons (ds_if (dt_not (dt_val (de_cb (pe_callB (cr_all rfl) (by rfl) (He.free_ok KX G (c.fact 9)) boot_all (da_cons (de_lc (pe_lc rfl nd_is_lag (di_seq (de_var (pv 1))) (blkOk_by (own := [("one", 2)]) (by kernel_rfl)) (fun _ _ _ _ _ => (dg_name (pg_name (i := 2) nd_is_lag rfl (Or.inl rfl)) (by decide))) (fun _ _ _ _ _ => dts_nil) (fun _ _ _ _ _ => (de_cmp (op_eqP hu) o_eqp (de_call F_normal (hr.mono (by decide)) (by rfl) (He.glo_ok KX G (c.fact 19)) kp_normal b_normal (da_cons (de_var (pv 0)) (da_cons (de_var (pv 2)) da_nil))) (de_var (pv 2)))))) da_nil)) c_all))) (ds_one (ds_ret de_bl)) ds_nil) (ds_one (ds_ret (de_cmp (op_eqP hu) o_eqp (de_call F_common (hr.mono (by decide)) (by rfl) (He.glo_ok KX G (c.fact 21)) kp_common b_common (da_cons (de_var (pv 0)) (da_cons (de_ix (de_var (pv 1)) de_int) (da_cons (de_ix (de_var (pv 1)) de_int) da_nil)))) (de_tup da_nil))))))
theorem ok_behind (h_lag : FnE Pg w K mg base 6 (He.ga K "lag") ["alphabet", "one", "other"] (sp_lag ⟨K, Pg, w⟩)) : FnE Pg w K mg base 7 (He.ga K "behind") ["alphabet", "told", "one", "other"] (sp_behind ⟨K, Pg, w⟩) := by
  obtain ⟨fd_lag, F_lag, b_lag, kp_lag⟩ := h_lag
  obtain ⟨oc, od, osl, kV, doc, pm, an, cdv, ct, lk, hcd⟩ := c.def_ 17
  refine fnE_of (x := "behind") (qual := "behind") (st := Hd.s17) (f := (He.ga K "behind")) (N := N_behind) (t := t_behind ⟨K, Pg, w⟩) lk hcd (He.keep_ok (c.fact 76)) ⟨rfl, rfl, rfl, by decide +kernel, rfl, by decide +kernel, by decide +kernel⟩ (fun _ _ _ h => h.1) (fun us hl => match us, hl with | [_, _, _, _], _ => rfl) ?_ (fun _ _ _ h => h.2)
  intro cdv A outer s H E hr
  have hu := hr.units
  delta t_behind
  exact (ds_one (ds_ret (de_call F_lag (hr.mono (by decide)) (by rfl) (He.glo_ok KX G (c.fact 26)) kp_lag b_lag (da_cons (de_var (pv 0)) (da_cons (de_op op_addA o_add (de_ix (de_var (pv 1)) de_int) (de_var (pv 2))) (da_cons (de_op op_addA o_add (de_ix (de_var (pv 1)) de_int) (de_var (pv 3))) da_nil))))))
theorem ok_turned  : FnE Pg w K mg base 1 (He.ga K "turned") ["told"] (sp_turned ⟨K, Pg, w⟩) := by
  obtain ⟨oc, od, osl, kV, doc, pm, an, cdv, ct, lk, hcd⟩ := c.def_ 18
  refine fnE_of (x := "turned") (qual := "turned") (st := Hd.s18) (f := (He.ga K "turned")) (N := N_turned) (t := t_turned ⟨K, Pg, w⟩) lk hcd (He.keep_ok (c.fact 77)) ⟨rfl, rfl, rfl, by decide +kernel, rfl, by decide +kernel, by decide +kernel⟩ (fun _ _ _ h => h.1) (fun us hl => match us, hl with | [_], _ => rfl) ?_ (fun _ _ _ h => h.2)
  intro cdv A outer s H E hr
  have hu := hr.units
  delta t_turned
  exact (ds_one (ds_ret (de_tup (da_cons (de_ix (de_var (pv 0)) de_int) (da_cons (de_ix (de_var (pv 0)) de_int) da_nil)))))
theorem ok_least_ends (h_fits : FnE Pg w K mg base 3 (He.ga K "fits") ["alphabet", "told"] (sp_fits ⟨K, Pg, w⟩)) : FnX Pg w K mg base 4 (He.ga K "least_ends") ["alphabet", "told"] (sp_least_ends ⟨K, Pg, w⟩) := by
  obtain ⟨fd_fits, F_fits, b_fits, kp_fits⟩ := h_fits
  obtain ⟨oc, od, osl, kV, doc, pm, an, cdv, ct, lk, hcd⟩ := c.def_ 19
  refine fnX_of (x := "least_ends") (qual := "least_ends") (st := Hd.s19) (f := (He.ga K "least_ends")) (N := N_least_ends) (t := t_least_ends ⟨K, Pg, w⟩) lk hcd (He.keep_ok (c.fact 78)) ⟨rfl, rfl, rfl, by decide +kernel, rfl, by decide +kernel, by decide +kernel⟩ (fun _ _ _ _ h => h.1) (fun us hl => match us, hl with | [_, _], _ => rfl) ?_ (fun _ _ _ _ h => h.2)
  intro cdv A outer s H E hr
  have hu := hr.units
  delta t_least_ends
  exact (ds_cons (ds_if (dt_not (dt_val (de_call F_fits (hr.mono (by decide)) (by rfl) (He.glo_ok KX G (c.fact 27)) kp_fits b_fits (da_cons (de_var (pv 0)) (da_cons (de_var (pv 1)) da_nil))))) (ds_one (ds_raise0 rfl takesX (c.fact 28) (He.glo_ok KX G (c.fact 29)) (by rfl))) ds_nil) (ds_one (ds_ret (de_tup (da_cons (de_ix (de_var (pv 1)) de_int) (da_cons (de_ix (de_var (pv 1)) de_int) da_nil))))))
theorem ok_difference (h_counts : FnE Pg w K mg base 1 (He.ga K "counts") ["alphabet", "row"] (sp_counts ⟨K, Pg, w⟩)) : FnE Pg w K mg base 2 (He.ga K "difference") ["alphabet", "one", "other"] (sp_difference ⟨K, Pg, w⟩) := by
  obtain ⟨fd_counts, F_counts, b_counts, kp_counts⟩ := h_counts
  obtain ⟨oc, od, osl, kV, doc, pm, an, cdv, ct, lk, hcd⟩ := c.def_ 20
  refine fnE_of (x := "difference") (qual := "difference") (st := Hd.s20) (f := (He.ga K "difference")) (N := N_difference) (t := t_difference ⟨K, Pg, w⟩) lk hcd (He.keep_ok (c.fact 79)) ⟨rfl, rfl, rfl, by decide +kernel, rfl, by decide +kernel, by decide +kernel⟩ (fun _ _ _ h => h.1) (fun us hl => match us, hl with | [_, _, _], _ => rfl) ?_ (fun _ _ _ h => h.2)
  intro cdv A outer s H E hr
  have hu := hr.units
  delta t_difference
  exact (ds_cons (ds_asg (vs := [3, 4]) (de_tup (da_cons (de_call F_counts (hr.mono (by decide)) (by rfl) (He.glo_ok KX G (c.fact 30)) kp_counts b_counts (da_cons (de_var (pv 0)) (da_cons (de_var (pv 1)) da_nil))) (da_cons (de_call F_counts (hr.mono (by decide)) (by rfl) (He.glo_ok KX G (c.fact 30)) kp_counts b_counts (da_cons (de_var (pv 0)) (da_cons (de_var (pv 2)) da_nil))) da_nil))) (dg_un rfl (dgs_cons (dg_name (pg_name (i := 3) nd_difference rfl (Or.inr rfl)) (by decide)) (dgs_cons (dg_name (pg_name (i := 4) nd_difference rfl (Or.inr rfl)) (by decide)) dgs_nil)))) (ds_one (ds_ret (de_cb (pe_callTy call_tupleF (by rfl) (He.free_ok KX G (c.fact 5)) boot_tuple (da_cons (de_lc (pe_lc rfl nd_difference (di_enum (pi_enumA (by rfl) (He.free_ok KX G (c.fact 6)) (da_cons (de_ix (de_var (pv 0)) de_int) da_nil))) (blkOk_by (own := [("at", 5), ("sign", 6)]) (by kernel_rfl)) (fun _ _ _ _ _ => (dg_un rfl (dgs_cons (dg_name (pg_name (i := 5) nd_difference rfl (Or.inl rfl)) (by decide)) (dgs_cons (dg_name (pg_name (i := 6) nd_difference rfl (Or.inl rfl)) (by decide)) dgs_nil)))) (fun _ _ _ _ _ => (dts_one (dt_cmp (op_neP hu) o_eqp (de_ix (de_var (pv 3)) (de_var (pv 5))) (de_ix (de_var (pv 4)) (de_var (pv 5)))))) (fun _ _ _ _ _ => (de_tup (da_cons (de_var (pv 6)) (da_cons (de_op op_sub o_int0 (de_ix (de_var (pv 3)) (de_var (pv 5))) (de_ix (de_var (pv 4)) (de_var (pv 5)))) da_nil)))))) da_nil)) c_tup))))
theorem ok__law_bag  : FnE Pg w K mg base 1 (He.ga K "_law_bag") ["script"] (sp__law_bag ⟨K, Pg, w⟩) := by
  obtain ⟨oc, od, osl, kV, doc, pm, an, cdv, ct, lk, hcd⟩ := c.def_ 21
  refine fnE_of (x := "_law_bag") (qual := "_law_bag") (st := Hd.s21) (f := (He.ga K "_law_bag")) (N := N__law_bag) (t := t__law_bag ⟨K, Pg, w⟩) lk hcd (He.keep_ok (c.fact 80)) ⟨rfl, rfl, rfl, by decide +kernel, rfl, by decide +kernel, by decide +kernel⟩ (fun _ _ _ h => h.1) (fun us hl => match us, hl with | [_], _ => rfl) ?_ (fun _ _ _ h => h.2)
  intro cdv A outer s H E hr
  have hu := hr.units
  delta t__law_bag
  exact (ds_one (ds_ret (de_lst (da_cons de_int (da_cons de_int (da_cons de_int (da_cons (de_lc (pe_lc rfl nd__law_bag (di_seq (de_sl (de_var (pv 0)) do_no (do_some de_int))) (blkOk_by (own := [("cell", 1)]) (by kernel_rfl)) (fun _ _ _ _ _ => (dg_name (pg_name (i := 1) nd__law_bag rfl (Or.inl rfl)) (by decide))) (fun _ _ _ _ _ => dts_nil) (fun _ _ _ _ _ => (de_cb (pe_callB call_abs (by rfl) (He.free_ok KX G (c.fact 31)) boot_abs (da_cons (de_var (pv 1)) da_nil)) c_abs)))) da_nil)))))))
theorem ok__law_take  : FnE Pg w K mg base 1 (He.ga K "_law_take") ["bag", "many"] (sp__law_take ⟨K, Pg, w⟩) := by
  obtain ⟨oc, od, osl, kV, doc, pm, an, cdv, ct, lk, hcd⟩ := c.def_ 22
  refine fnE_of (x := "_law_take") (qual := "_law_take") (st := Hd.s22) (f := (He.ga K "_law_take")) (N := N__law_take) (t := t__law_take ⟨K, Pg, w⟩) lk hcd (He.keep_ok (c.fact 81)) ⟨rfl, rfl, rfl, by decide +kernel, rfl, by decide +kernel, by decide +kernel⟩ (fun _ _ _ h => h.1) (fun us hl => match us, hl with | [_, _], _ => rfl) ?_ (fun _ _ _ h => h.2)
  intro cdv A outer s H E hr
  have hu := hr.units
  delta t__law_take
  exact (ds_cons (ds_if (dt_cmp (op_eqP hu) o_eqp (de_ix (de_var (pv 0)) de_int) de_int) (ds_cons (ds_set (ps_set (i := 4) nd__law_take rfl (Or.inl rfl) (de_ix (de_op op_addA o_add (de_sl (de_ix (de_var (pv 0)) de_int) (do_some (de_ix (de_var (pv 0)) de_int)) do_no) (de_lst (da_cons de_int da_nil))) de_int))) (ds_cons (ds_ixaug o_int0 (de_var (pv 0)) de_int de_int (op_pip iop_add) (fun h1 h2 h3 h4 => ps_augS h1 h2 get_list h3 h4 set_list)) (ds_cons (ds_if (dt_cmp (op_geD hu) o_cmp (de_var (pv 4)) (de_op op_pow o_int de_int de_int)) (ds_one (ds_asg (vs := []) (de_var (pv 4)) (dg_ix (de_var (pv 0)) de_int (fun h k => pg_sub h k set_list)))) ds_nil) (ds_cons (ds_set (ps_set (i := 5) nd__law_take rfl (Or.inl rfl) (de_op op_addA o_add (de_op op_addA o_add (de_op op_mul o_int (de_ix (de_var (pv 0)) de_int) de_int) (de_op op_mod o_int (de_cb (pe_callTy call_int1 (by rfl) (He.free_ok KX G (c.fact 32)) boot_int (da_cons (de_var (pv 4)) da_nil)) c_int) de_int)) (de_op op_mul o_int de_int (de_ix (de_var (pv 0)) de_int))))) (ds_one (ds_asg (vs := []) (de_op op_mod o_int (de_cb (pe_callTy call_int1 (by rfl) (He.free_ok KX G (c.fact 32)) boot_int (da_cons (de_var (pv 5)) da_nil)) c_int) de_int) (dg_ix (de_var (pv 0)) de_int (fun h k => pg_sub h k set_list)))))))) ds_nil) (ds_cons (ds_if (dt_cmp (op_gtD hu) o_cmp (de_ix (de_var (pv 0)) de_int) de_int) (ds_cons (ds_set (ps_set (i := 6) nd__law_take rfl (Or.inl rfl) (de_op op_mod o_int (de_cb (pe_callTy call_int1 (by rfl) (He.free_ok KX G (c.fact 32)) boot_int (da_cons (de_ix (de_var (pv 0)) de_int) da_nil)) c_int) (de_var (pv 1))))) (ds_cons (ds_asg (vs := []) (de_op op_fdiv o_int (de_cb (pe_callTy call_int1 (by rfl) (He.free_ok KX G (c.fact 32)) boot_int (da_cons (de_ix (de_var (pv 0)) de_int) da_nil)) c_int) (de_var (pv 1))) (dg_ix (de_var (pv 0)) de_int (fun h k => pg_sub h k set_list))) (ds_one (ds_ret (de_var (pv 6)))))) ds_nil) (ds_cons (ds_set (ps_set (i := 2) nd__law_take rfl (Or.inl rfl) (de_op op_mod o_int (de_cb (pe_callTy call_int1 (by rfl) (He.free_ok KX G (c.fact 32)) boot_int (da_cons (de_op op_mul o_int (de_op op_addA o_add (de_ix (de_var (pv 0)) de_int) de_int) de_int) da_nil)) c_int) de_int))) (ds_cons (ds_set (ps_set (i := 3) nd__law_take rfl (Or.inl rfl) (de_op op_mod o_int (de_cb (pe_callTy call_int1 (by rfl) (He.free_ok KX G (c.fact 32)) boot_int (da_cons (de_op op_mul o_int (de_op op_mod o_int (de_cb (pe_callTy call_int1 (by rfl) (He.free_ok KX G (c.fact 32)) boot_int (da_cons (de_op op_mul o_int (de_var (pv 2)) (de_var (pv 2))) da_nil)) c_int) de_int) de_int) da_nil)) c_int) de_int))) (ds_one (ds_ret (de_op op_mod o_int (de_cb (pe_callTy call_int1 (by rfl) (He.free_ok KX G (c.fact 32)) boot_int (da_cons (de_op op_fdiv o_int (de_var (pv 3)) de_int) da_nil)) c_int) (de_var (pv 1)))))))))
theorem ok__law_some (h__law_take : FnE Pg w K mg base 1 (He.ga K "_law_take") ["bag", "many"] (sp__law_take ⟨K, Pg, w⟩)) : FnE Pg w K mg base 2 (He.ga K "_law_some") ["bag", "things"] (sp__law_some ⟨K, Pg, w⟩) := by
  obtain ⟨fd__law_take, F__law_take, b__law_take, kp__law_take⟩ := h__law_take
  obtain ⟨oc, od, osl, kV, doc, pm, an, cdv, ct, lk, hcd⟩ := c.def_ 23
  refine fnE_of (x := "_law_some") (qual := "_law_some") (st := Hd.s23) (f := (He.ga K "_law_some")) (N := N__law_some) (t := t__law_some ⟨K, Pg, w⟩) lk hcd (He.keep_ok (c.fact 82)) ⟨rfl, rfl, rfl, by decide +kernel, rfl, by decide +kernel, by decide +kernel⟩ (fun _ _ _ h => h.1) (fun us hl => match us, hl with | [_, _], _ => rfl) ?_ (fun _ _ _ h => h.2)
  intro cdv A outer s H E hr
  have hu := hr.units
  delta t__law_some
  exact (ds_one (ds_ret (de_ix (de_var (pv 1)) (de_call F__law_take (hr.mono (by decide)) (by rfl) (He.glo_ok KX G (c.fact 33)) kp__law_take b__law_take (da_cons (de_var (pv 0)) (da_cons (de_cb (pe_callB call_lenA (by rfl) (He.free_ok KX G (c.fact 8)) boot_len (da_cons (de_var (pv 1)) da_nil)) c_len) da_nil))))))
theorem ok__law_alike  : FnT Pg w K mg base 1 (He.ga K "_law_alike") ["found", "due"] (sp__law_alike ⟨K, Pg, w⟩) := by
  obtain ⟨oc, od, osl, kV, doc, pm, an, cdv, ct, lk, hcd⟩ := c.def_ 24
  refine fnT_of (x := "_law_alike") (qual := "_law_alike") (st := Hd.s24) (f := (He.ga K "_law_alike")) (N := N__law_alike) (t := t__law_alike ⟨K, Pg, w⟩) lk hcd (He.keep_ok (c.fact 83)) ⟨rfl, rfl, rfl, by decide +kernel, rfl, by decide +kernel, by decide +kernel⟩ (fun _ _ _ h => h.1) (fun us hl => match us, hl with | [_, _], _ => rfl) ?_ (fun _ _ _ h => h.2)
  intro cdv A outer s H E st hr
  have hu := hr.units
  delta t__law_alike
  exact (ds_one (ds_ret (de_and (de_cmp (op_eqP hu) o_eqp (de_cb (pe_callB (call_reprP st hu) (by rfl) (He.free_ok KX G (c.fact 34)) boot_repr (da_cons (de_var (pv 0)) da_nil)) c_repr) (de_cb (pe_callB (call_reprP st hu) (by rfl) (He.free_ok KX G (c.fact 34)) boot_repr (da_cons (de_var (pv 1)) da_nil)) c_repr)) (de_one (de_cmp (op_eqP hu) o_eqp (de_var (pv 0)) (de_var (pv 1)))))))
theorem ok__law_alphabet (h__law_take : FnE Pg w K mg base 1 (He.ga K "_law_take") ["bag", "many"] (sp__law_take ⟨K, Pg, w⟩)) : FnE Pg w K mg base 2 (He.ga K "_law_alphabet") ["bag", "signs"] (sp__law_alphabet ⟨K, Pg, w⟩) := by
  obtain ⟨fd__law_take, F__law_take, b__law_take, kp__law_take⟩ := h__law_take
  obtain ⟨oc, od, osl, kV, doc, pm, an, cdv, ct, lk, hcd⟩ := c.def_ 25
  refine fnE_of (x := "_law_alphabet") (qual := "_law_alphabet") (st := Hd.s25) (f := (He.ga K "_law_alphabet")) (N := N__law_alphabet) (t := t__law_alphabet ⟨K, Pg, w⟩) lk hcd (He.keep_ok (c.fact 84)) ⟨rfl, rfl, rfl, by decide +kernel, rfl, by decide +kernel, by decide +kernel⟩ (fun _ _ _ h => h.1) (fun us hl => match us, hl with | [_, _], _ => rfl) ?_ (fun _ _ _ h => h.2)
  intro cdv A outer s H E hr
  have hu := hr.units
  delta t__law_alphabet
  exact (ds_cons (ds_set (ps_set (i := 2) nd__law_alphabet rfl (Or.inl rfl) (de_lst da_nil))) (ds_cons (ds_for (vs := [3, 4]) PassesOwn.never rfl (di_enum (pi_enumA (by rfl) (He.free_ok KX G (c.fact 6)) (da_cons (de_var (pv 1)) da_nil))) (dg_un rfl (dgs_cons (dg_name (pg_name (i := 3) nd__law_alphabet rfl (Or.inl rfl)) (by decide)) (dgs_cons (dg_name (pg_name (i := 4) nd__law_alphabet rfl (Or.inr rfl)) (by decide)) dgs_nil))) (ds_one (ds_expr (de_bm (pe_bm F.plainAttrs_list F.slot_list_extend F.type_list_extend mt_extend (de_var (pv 2)) (da_cons (de_lc (pe_lc rfl nd__law_alphabet (di_seq (de_sl (de_var (pv 1)) (do_some (de_op op_addA o_add (de_var (pv 3)) de_int)) do_no)) (blkOk_by (own := [("b", 5)]) (by kernel_rfl)) (fun _ _ _ _ _ => (dg_name (pg_name (i := 5) nd__law_alphabet rfl (Or.inl rfl)) (by decide))) (fun _ _ _ _ _ => (dts_one (dt_cmp (op_ltD hu) o_cmp (de_call F__law_take (hr.mono (by decide)) (by rfl) (He.glo_ok KX G (c.fact 33)) kp__law_take b__law_take (da_cons (de_var (pv 0)) (da_cons de_int da_nil))) de_int))) (fun _ _ _ _ _ => (de_tup (da_cons (de_var (pv 4)) (da_cons (de_var (pv 5)) da_nil)))))) da_nil)) tyd_lst m_ext)))) (ds_one (ds_ret (de_tup (da_cons (de_cb (pe_callTy call_tupleF (by rfl) (He.free_ok KX G (c.fact 5)) boot_tuple (da_cons (de_var (pv 1)) da_nil)) c_tup) (da_cons (de_cb (pe_callTy call_tupleF (by rfl) (He.free_ok KX G (c.fact 5)) boot_tuple (da_cons (de_var (pv 2)) da_nil)) c_tup) da_nil)))))))
theorem ok__law_is_free  : FnE Pg w K mg base 1 (He.ga K "_law_is_free") ["alphabet", "a", "b"] (sp__law_is_free ⟨K, Pg, w⟩) := by
  obtain ⟨oc, od, osl, kV, doc, pm, an, cdv, ct, lk, hcd⟩ := c.def_ 26
  refine fnE_of (x := "_law_is_free") (qual := "_law_is_free") (st := Hd.s26) (f := (He.ga K "_law_is_free")) (N := N__law_is_free) (t := t__law_is_free ⟨K, Pg, w⟩) lk hcd (He.keep_ok (c.fact 85)) ⟨rfl, rfl, rfl, by decide +kernel, rfl, by decide +kernel, by decide +kernel⟩ (fun _ _ _ h => h.1) (fun us hl => match us, hl with | [_, _, _], _ => rfl) ?_ (fun _ _ _ h => h.2)
  intro cdv A outer s H E hr
  have hu := hr.units
  delta t__law_is_free
  exact (ds_one (ds_ret (de_cmp (op_memD hu) o_mem (de_tup (da_cons (de_cb (pe_callB (call_min2A rfl) (by rfl) (He.free_ok KX G (c.fact 3)) boot_min (da_cons (de_var (pv 1)) (da_cons (de_var (pv 2)) da_nil))) c_min2) (da_cons (de_cb (pe_callB (call_max2A rfl) (by rfl) (He.free_ok KX G (c.fact 2)) boot_max (da_cons (de_var (pv 1)) (da_cons (de_var (pv 2)) da_nil))) c_max2) da_nil))) (de_ix (de_var (pv 0)) de_int))))
theorem ok__law_cut  : FnE Pg w K mg base 1 (He.ga K "_law_cut") ["row", "signs"] (sp__law_cut ⟨K, Pg, w⟩) := by
  obtain ⟨oc, od, osl, kV, doc, pm, an, cdv, ct, lk, hcd⟩ := c.def_ 27
  refine fnE_of (x := "_law_cut") (qual := "_law_cut") (st := Hd.s27) (f := (He.ga K "_law_cut")) (N := N__law_cut) (t := t__law_cut ⟨K, Pg, w⟩) lk hcd (He.keep_ok (c.fact 86)) ⟨rfl, rfl, rfl, by decide +kernel, rfl, by decide +kernel, by decide +kernel⟩ (fun _ _ _ h => h.1) (fun us hl => match us, hl with | [_, _], _ => rfl) ?_ (fun _ _ _ h => h.2)
  intro cdv A outer s H E hr
  have hu := hr.units
  delta t__law_cut
  exact (ds_one (ds_ret (de_cb (pe_callTy call_tupleF (by rfl) (He.free_ok KX G (c.fact 5)) boot_tuple (da_cons (de_lc (pe_lc rfl nd__law_cut (di_seq (de_var (pv 0))) (blkOk_by (own := [("a", 2)]) (by kernel_rfl)) (fun _ _ _ _ _ => (dg_name (pg_name (i := 2) nd__law_cut rfl (Or.inl rfl)) (by decide))) (fun _ _ _ _ _ => (dts_one (dt_cmp (op_memD hu) o_mem (de_var (pv 2)) (de_var (pv 1))))) (fun _ _ _ _ _ => (de_var (pv 2))))) da_nil)) c_tup)))
theorem ok__law_by_swaps (h__law_cut : FnE Pg w K mg base 1 (He.ga K "_law_cut") ["row", "signs"] (sp__law_cut ⟨K, Pg, w⟩)) (h__law_is_free : FnE Pg w K mg base 1 (He.ga K "_law_is_free") ["alphabet", "a", "b"] (sp__law_is_free ⟨K, Pg, w⟩)) : FnE Pg w K mg base 2 (He.ga K "_law_by_swaps") ["alphabet", "one", "other"] (sp__law_by_swaps ⟨K, Pg, w⟩) := by
  obtain ⟨fd__law_cut, F__law_cut, b__law_cut, kp__law_cut⟩ := h__law_cut
  obtain ⟨fd__law_is_free, F__law_is_free, b__law_is_free, kp__law_is_free⟩ := h__law_is_free
  obtain ⟨oc, od, osl, kV, doc, pm, an, cdv, ct, lk, hcd⟩ := c.def_ 28
  refine fnE_of (x := "_law_by_swaps") (qual := "_law_by_swaps") (st := Hd.s28) (f := (He.ga K "_law_by_swaps")) (N := N__law_by_swaps) (t := t__law_by_swaps ⟨K, Pg, w⟩) lk hcd (He.keep_ok (c.fact 87)) ⟨rfl, rfl, rfl, by decide +kernel, rfl, by decide +kernel, by decide +kernel⟩ (fun _ _ _ h => h.1) (fun us hl => match us, hl with | [_, _, _], _ => rfl) ?_ (fun _ _ _ h => h.2)
  intro cdv A outer s H E hr
  have hu := hr.units
  delta t__law_by_swaps
  exact (ds_cons (ds_set (ps_set (i := 3) nd__law_by_swaps rfl (Or.inl rfl) (de_sortSet rfl hu (by rfl) (He.free_ok KX G (c.fact 22)) (by rfl) (He.free_ok KX G (c.fact 23)) (de_op op_addA o_add (de_var (pv 1)) (de_var (pv 2)))))) (ds_cons (ds_for (vs := [4, 5]) PassesOwn.never rfl (di_enum (pi_enumA (by rfl) (He.free_ok KX G (c.fact 6)) (da_cons (de_var (pv 3)) da_nil))) (dg_un rfl (dgs_cons (dg_name (pg_name (i := 4) nd__law_by_swaps rfl (Or.inl rfl)) (by decide)) (dgs_cons (dg_name (pg_name (i := 5) nd__law_by_swaps rfl (Or.inl rfl)) (by decide)) dgs_nil))) (ds_one (ds_for (vs := [6]) PassesOwn.never rfl (di_seq (de_sl (de_var (pv 3)) (do_some (de_var (pv 4))) do_no)) (dg_name (pg_name (i := 6) nd__law_by_swaps rfl (Or.inl rfl)) (by decide)) (ds_one (ds_if (PW.pt (dw_and (dt_not (dt_val (de_call F__law_is_free (hr.mono (by decide)) (by rfl) (He.glo_ok KX G (c.fact 36)) kp__law_is_free b__law_is_free (da_cons (de_var (pv 0)) (da_cons (de_var (pv 5)) (da_cons (de_var (pv 6)) da_nil)))))) (dw_and1 (dt_cmp (op_neP hu) o_eqp (de_call F__law_cut (hr.mono (by decide)) (by rfl) (He.glo_ok KX G (c.fact 35)) kp__law_cut b__law_cut (da_cons (de_var (pv 1)) (da_cons (de_tup (da_cons (de_var (pv 5)) (da_cons (de_var (pv 6)) da_nil))) da_nil))) (de_call F__law_cut (hr.mono (by decide)) (by rfl) (He.glo_ok KX G (c.fact 35)) kp__law_cut b__law_cut (da_cons (de_var (pv 2)) (da_cons (de_tup (da_cons (de_var (pv 5)) (da_cons (de_var (pv 6)) da_nil))) da_nil))))))) (ds_one (ds_ret de_bl)) ds_nil))))) (ds_one (ds_ret de_bl))))
theorem ok__law_firsts (h__law_is_free : FnE Pg w K mg base 1 (He.ga K "_law_is_free") ["alphabet", "a", "b"] (sp__law_is_free ⟨K, Pg, w⟩)) : FnE Pg w K mg base 2 (He.ga K "_law_firsts") ["alphabet", "row"] (sp__law_firsts ⟨K, Pg, w⟩) := by
  obtain ⟨fd__law_is_free, F__law_is_free, b__law_is_free, kp__law_is_free⟩ := h__law_is_free
  obtain ⟨oc, od, osl, kV, doc, pm, an, cdv, ct, lk, hcd⟩ := c.def_ 29
  refine fnE_of (x := "_law_firsts") (qual := "_law_firsts") (st := Hd.s29) (f := (He.ga K "_law_firsts")) (N := N__law_firsts) (t := t__law_firsts ⟨K, Pg, w⟩) lk hcd (He.keep_ok (c.fact 88)) ⟨rfl, rfl, rfl, by decide +kernel, rfl, by decide +kernel, by decide +kernel⟩ (fun _ _ _ h => h.1) (fun us hl => match us, hl with | [_, _], _ => rfl) ?_ (fun _ _ _ h => h.2)
  intro cdv A outer s H E hr
  have hu := hr.units
  delta t__law_firsts
  exact (ds_cons (ds_set (ps_set (i := 2) nd__law_firsts rfl (Or.inl rfl) (de_lst da_nil))) (ds_cons (ds_for (vs := [3, 4]) PassesOwn.never rfl (di_enum (pi_enumA (by rfl) (He.free_ok KX G (c.fact 6)) (da_cons (de_var (pv 1)) da_nil))) (dg_un rfl (dgs_cons (dg_name (pg_name (i := 3) nd__law_firsts rfl (Or.inl rfl)) (by decide)) (dgs_cons (dg_name (pg_name (i := 4) nd__law_firsts rfl (Or.inr rfl)) (by decide)) dgs_nil))) (ds_one (ds_if (PW.pt (dw_and (dt_cmp (op_nmemD hu) o_mem (de_var (pv 4)) (de_var (pv 2))) (dw_and1 (dt_cmp (op_eqP hu) o_eqp (de_lc (pe_lc rfl nd__law_firsts (di_seq (de_sl (de_var (pv 1)) do_no (do_some (de_var (pv 3))))) (blkOk_by (own := [("b", 5)]) (by kernel_rfl)) (fun _ _ _ _ _ => (dg_name (pg_name (i := 5) nd__law_firsts rfl (Or.inl rfl)) (by decide))) (fun _ _ _ _ _ => (dts_one (dt_not (dt_val (de_call F__law_is_free (hr.mono (by decide)) (by rfl) (He.glo_ok KX G (c.fact 36)) kp__law_is_free b__law_is_free (da_cons (de_var (pv 0)) (da_cons (de_var (pv 4)) (da_cons (de_var (pv 5)) da_nil)))))))) (fun _ _ _ _ _ => (de_var (pv 5))))) (de_lst da_nil))))) (ds_one (ds_expr (de_bm (pe_bm F.plainAttrs_list F.slot_list_append F.type_list_append mt_append (de_var (pv 2)) (da_cons (de_var (pv 4)) da_nil)) tyd_lst m_app))) ds_nil))) (ds_one (ds_ret (de_cb (pe_callB (call_sortA rfl hu) (by rfl) (He.free_ok KX G (c.fact 22)) boot_sorted (da_cons (de_var (pv 2)) da_nil)) c_sort)))))
theorem ok__law_without  : FnE Pg w K mg base 1 (He.ga K "_law_without") ["row", "a"] (sp__law_without ⟨K, Pg, w⟩) := by
  obtain ⟨oc, od, osl, kV, doc, pm, an, cdv, ct, lk, hcd⟩ := c.def_ 30
  refine fnE_of (x := "_law_without") (qual := "_law_without") (st := Hd.s30) (f := (He.ga K "_law_without")) (N := N__law_without) (t := t__law_without ⟨K, Pg, w⟩) lk hcd (He.keep_ok (c.fact 89)) ⟨rfl, rfl, rfl, by decide +kernel, rfl, by decide +kernel, by decide +kernel⟩ (fun _ _ _ h => h.1) (fun us hl => match us, hl with | [_, _], _ => rfl) ?_ (fun _ _ _ h => h.2)
  intro cdv A outer s H E hr
  have hu := hr.units
  delta t__law_without
  exact (ds_cons (ds_set (ps_set (i := 2) nd__law_without rfl (Or.inl rfl) (de_tm (pe_tm F.slot_tuple_index F.type_tuple_index (mt_tidx hu) (de_var (pv 0)) (da_cons (de_var (pv 1)) da_nil)) m_tidx))) (ds_one (ds_ret (de_op op_addA o_add (de_sl (de_var (pv 0)) do_no (do_some (de_var (pv 2)))) (de_sl (de_var (pv 0)) (do_some (de_op op_addA o_add (de_var (pv 2)) de_int)) do_no)))))
theorem ok__law_normal (h__law_firsts : FnE Pg w K mg base 2 (He.ga K "_law_firsts") ["alphabet", "row"] (sp__law_firsts ⟨K, Pg, w⟩)) (h__law_without : FnE Pg w K mg base 1 (He.ga K "_law_without") ["row", "a"] (sp__law_without ⟨K, Pg, w⟩)) : FnE Pg w K mg base 3 (He.ga K "_law_normal") ["alphabet", "row"] (sp__law_normal ⟨K, Pg, w⟩) := by
  obtain ⟨fd__law_firsts, F__law_firsts, b__law_firsts, kp__law_firsts⟩ := h__law_firsts
  obtain ⟨fd__law_without, F__law_without, b__law_without, kp__law_without⟩ := h__law_without
  obtain ⟨oc, od, osl, kV, doc, pm, an, cdv, ct, lk, hcd⟩ := c.def_ 31
  refine fnE_of (x := "_law_normal") (qual := "_law_normal") (st := Hd.s31) (f := (He.ga K "_law_normal")) (N := N__law_normal) (t := t__law_normal ⟨K, Pg, w⟩) lk hcd (He.keep_ok (c.fact 90)) ⟨rfl, rfl, rfl, by decide +kernel, rfl, by decide +kernel, by decide +kernel⟩ (fun _ _ _ h => h.1) (fun us hl => match us, hl with | [_, _], _ => rfl) ?_ (fun _ _ _ h => h.2)
  intro cdv A outer s H E hr
  have hu := hr.units
  delta t__law_normal
  exact (ds_cons (ds_set (ps_set (i := 2) nd__law_normal rfl (Or.inl rfl) (de_tup da_nil))) (ds_cons (ds_while PassesOwn.never (dt_cmp (op_neP hu) o_eqp (de_var (pv 1)) (de_tup da_nil)) (ds_cons (ds_set (ps_set (i := 3) nd__law_normal rfl (Or.inl rfl) (de_ix (de_call F__law_firsts (hr.mono (by decide)) (by rfl) (He.glo_ok KX G (c.fact 38)) kp__law_firsts b__law_firsts (da_cons (de_var (pv 0)) (da_cons (de_var (pv 1)) da_nil))) de_int))) (ds_one (ds_par (ps_par (i := 2) (j := 1) rfl nd__law_normal rfl rfl (by decide) rfl rfl (da_cons (de_op op_addA o_add (de_var (pv 2)) (de_tup (da_cons (de_var (pv 3)) da_nil))) (da_cons (de_call F__law_without (hr.mono (by decide)) (by rfl) (He.glo_ok KX G (c.fact 37)) kp__law_without b__law_without (da_cons (de_var (pv 1)) (da_cons (de_var (pv 3)) da_nil))) da_nil)) (by first | rfl | decide +kernel)))))) (ds_one (ds_ret (de_var (pv 2))))))
theorem ok__law_lag (h__law_firsts : FnE Pg w K mg base 2 (He.ga K "_law_firsts") ["alphabet", "row"] (sp__law_firsts ⟨K, Pg, w⟩)) (h__law_normal : FnE Pg w K mg base 3 (He.ga K "_law_normal") ["alphabet", "row"] (sp__law_normal ⟨K, Pg, w⟩)) (h__law_without : FnE Pg w K mg base 1 (He.ga K "_law_without") ["row", "a"] (sp__law_without ⟨K, Pg, w⟩)) : FnE Pg w K mg base 4 (He.ga K "_law_lag") ["alphabet", "one", "other"] (sp__law_lag ⟨K, Pg, w⟩) := by
  obtain ⟨fd__law_firsts, F__law_firsts, b__law_firsts, kp__law_firsts⟩ := h__law_firsts
  obtain ⟨fd__law_normal, F__law_normal, b__law_normal, kp__law_normal⟩ := h__law_normal
  obtain ⟨fd__law_without, F__law_without, b__law_without, kp__law_without⟩ := h__law_without
  obtain ⟨oc, od, osl, kV, doc, pm, an, cdv, ct, lk, hcd⟩ := c.def_ 32
  refine fnE_of (x := "_law_lag") (qual := "_law_lag") (st := Hd.s32) (f := (He.ga K "_law_lag")) (N := N__law_lag) (t := t__law_lag ⟨K, Pg, w⟩) lk hcd (He.keep_ok (c.fact 91)) ⟨rfl, rfl, rfl, by decide +kernel, rfl, by decide +kernel, by decide +kernel⟩ (fun _ _ _ h => h.1) (fun us hl => match us, hl with | [_, _, _], _ => rfl) ?_ (fun _ _ _ h => h.2)
  intro cdv A outer s H E hr
  have hu := hr.units
  delta t__law_lag
  exact (ds_cons (ds_par (ps_par (i := 3) (j := 4) rfl nd__law_lag rfl rfl (by decide) rfl rfl (da_cons (de_tup da_nil) (da_cons (de_lc (pe_lc rfl nd__law_lag (di_seq (de_call F__law_firsts (hr.mono (by decide)) (by rfl) (He.glo_ok KX G (c.fact 38)) kp__law_firsts b__law_firsts (da_cons (de_var (pv 0)) (da_cons (de_var (pv 1)) da_nil)))) (blkOk_by (own := [("a", 5)]) (by kernel_rfl)) (fun _ _ _ _ _ => (dg_name (pg_name (i := 5) nd__law_lag rfl (Or.inl rfl)) (by decide))) (fun _ _ _ _ _ => (dts_one (dt_cmp (op_memD hu) o_mem (de_var (pv 5)) (de_call F__law_firsts (hr.mono (by decide)) (by rfl) (He.glo_ok KX G (c.fact 38)) kp__law_firsts b__law_firsts (da_cons (de_var (pv 0)) (da_cons (de_var (pv 2)) da_nil)))))) (fun _ _ _ _ _ => (de_var (pv 5))))) da_nil)) (by first | rfl | decide +kernel))) (ds_cons (ds_while PassesOwn.never (dt_cmp (op_neP hu) o_eqp (de_var (pv 4)) (de_lst da_nil)) (ds_cons (ds_set (ps_set (i := 3) nd__law_lag rfl (Or.inl rfl) (de_op op_addA o_add (de_var (pv 3)) (de_tup (da_cons (de_ix (de_var (pv 4)) de_int) da_nil))))) (ds_cons (ds_asg (vs := [1, 2]) (de_tup (da_cons (de_call F__law_without (hr.mono (by decide)) (by rfl) (He.glo_ok KX G (c.fact 37)) kp__law_without b__law_without (da_cons (de_var (pv 1)) (da_cons (de_ix (de_var (pv 4)) de_int) da_nil))) (da_cons (de_call F__law_without (hr.mono (by decide)) (by rfl) (He.glo_ok KX G (c.fact 37)) kp__law_without b__law_without (da_cons (de_var (pv 2)) (da_cons (de_ix (de_var (pv 4)) de_int) da_nil))) da_nil))) (dg_un rfl (dgs_cons (dg_name (pg_name (i := 1) nd__law_lag rfl (Or.inl rfl)) (by decide)) (dgs_cons (dg_name (pg_name (i := 2) nd__law_lag rfl (Or.inr rfl)) (by decide)) dgs_nil)))) (ds_one (ds_setLc (ps_setLc (i := 4) rfl nd__law_lag rfl rfl (sw_true rfl rfl rfl (by decide +kernel)) (di_seq (de_call F__law_firsts (hr.mono (by decide)) (by rfl) (He.glo_ok KX G (c.fact 38)) kp__law_firsts b__law_firsts (da_cons (de_var (pv 0)) (da_cons (de_var (pv 1)) da_nil)))) (blkOk_by (own := [("a", 5)]) (by kernel_rfl)) (fun _ _ _ _ _ => (dg_name (pg_name (i := 5) nd__law_lag rfl (Or.inl rfl)) (by decide))) (fun _ _ _ _ _ => (dts_one (dt_cmp (op_memD hu) o_mem (de_var (pv 5)) (de_call F__law_firsts (hr.mono (by decide)) (by rfl) (He.glo_ok KX G (c.fact 38)) kp__law_firsts b__law_firsts (da_cons (de_var (pv 0)) (da_cons (de_var (pv 2)) da_nil)))))) (fun _ _ _ _ _ => (de_var (pv 5))))))))) (ds_one (ds_ret (de_tup (da_cons (de_call F__law_normal (hr.mono (by decide)) (by rfl) (He.glo_ok KX G (c.fact 39)) kp__law_normal b__law_normal (da_cons (de_var (pv 0)) (da_cons (de_var (pv 3)) da_nil))) (da_cons (de_call F__law_normal (hr.mono (by decide)) (by rfl) (He.glo_ok KX G (c.fact 39)) kp__law_normal b__law_normal (da_cons (de_var (pv 0)) (da_cons (de_var (pv 1)) da_nil))) (da_cons (de_call F__law_normal (hr.mono (by decide)) (by rfl) (He.glo_ok KX G (c.fact 39)) kp__law_normal b__law_normal (da_cons (de_var (pv 0)) (da_cons (de_var (pv 2)) da_nil))) da_nil))))))))
theorem ok__law_fits (h__law_is_free : FnE Pg w K mg base 1 (He.ga K "_law_is_free") ["alphabet", "a", "b"] (sp__law_is_free ⟨K, Pg, w⟩)) : FnE Pg w K mg base 2 (He.ga K "_law_fits") ["alphabet", "one", "other"] (sp__law_fits ⟨K, Pg, w⟩) := by
  obtain ⟨fd__law_is_free, F__law_is_free, b__law_is_free, kp__law_is_free⟩ := h__law_is_free
  obtain ⟨oc, od, osl, kV, doc, pm, an, cdv, ct, lk, hcd⟩ := c.def_ 33
  refine fnE_of (x := "_law_fits") (qual := "_law_fits") (st := Hd.s33) (f := (He.ga K "_law_fits")) (N := N__law_fits) (t := t__law_fits ⟨K, Pg, w⟩) lk hcd (He.keep_ok (c.fact 92)) ⟨rfl, rfl, rfl, by decide +kernel, rfl, by decide +kernel, by decide +kernel⟩ (fun _ _ _ h => h.1) (fun us hl => match us, hl with | [_, _, _], _ => rfl) ?_ (fun _ _ _ h => h.2)
  intro cdv A outer s H E hr
  have hu := hr.units
  delta t__law_fits
  exact (ds_cons (ds_for (vs := [3]) PassesOwn.never rfl (di_seq (de_var (pv 1))) (dg_name (pg_name (i := 3) nd__law_fits rfl (Or.inr rfl)) (by decide)) (ds_one (ds_if (dt_cmp (op_neP hu) o_eqp (de_lc (pe_lc rfl nd__law_fits (di_seq (de_var (pv 2))) (blkOk_by (own := [("b", 4)]) (by kernel_rfl)) (fun _ _ _ _ _ => (dg_name (pg_name (i := 4) nd__law_fits rfl (Or.inl rfl)) (by decide))) (fun _ _ _ _ _ => (dts_one (dt_not (dt_val (de_call F__law_is_free (hr.mono (by decide)) (by rfl) (He.glo_ok KX G (c.fact 36)) kp__law_is_free b__law_is_free (da_cons (de_var (pv 0)) (da_cons (de_var (pv 3)) (da_cons (de_var (pv 4)) da_nil)))))))) (fun _ _ _ _ _ => (de_var (pv 4))))) (de_lst da_nil)) (ds_one (ds_ret de_bl)) ds_nil))) (ds_one (ds_ret de_bl)))
theorem ok__law_class (h__law_is_free : FnE Pg w K mg base 1 (He.ga K "_law_is_free") ["alphabet", "a", "b"] (sp__law_is_free ⟨K, Pg, w⟩)) : FnE Pg w K mg base 2 (He.ga K "_law_class") ["alphabet", "row", "most"] (sp__law_class ⟨K, Pg, w⟩) := by
  obtain ⟨fd__law_is_free, F__law_is_free, b__law_is_free, kp__law_is_free⟩ := h__law_is_free
  obtain ⟨oc, od, osl, kV, doc, pm, an, cdv, ct, lk, hcd⟩ := c.def_ 34
  refine fnE_of (x := "_law_class") (qual := "_law_class") (st := Hd.s34) (f := (He.ga K "_law_class")) (N := N__law_class) (t := t__law_class ⟨K, Pg, w⟩) lk hcd (He.keep_ok (c.fact 93)) ⟨rfl, rfl, rfl, by decide +kernel, rfl, by decide +kernel, by decide +kernel⟩ (fun _ _ _ h => h.1) (fun us hl => match us, hl with | [_, _, _], _ => rfl) ?_ (fun _ _ _ h => h.2)
  intro cdv A outer s H E hr
  have hu := hr.units
  delta t__law_class
  exact (ds_cons (ds_par (ps_par (i := 3) (j := 4) rfl nd__law_class rfl rfl (by decide) rfl rfl (da_cons (de_oneT hu (de_var (pv 1)) de_bl) (da_cons (de_lst (da_cons (de_var (pv 1)) da_nil)) da_nil)) (by first | rfl | decide +kernel))) (ds_cons (ds_while PassesOwn.never (dt_cmp (op_neP hu) o_eqp (de_var (pv 4)) (de_lst da_nil)) (ds_cons (ds_set (ps_set (i := 5) nd__law_class rfl (Or.inl rfl) (de_bm0 (pe_bm0 F.plainAttrs_list F.slot_list_pop F.type_list_pop mt_pop (de_var (pv 4))) tyd_lst m_pop))) (ds_one (ds_for (vs := [6]) PassesOwn.never rfl (di_rng1 (pi_range1 (by rfl) (He.free_ok KX G (c.fact 13)) (da_cons (de_op op_sub o_int0 (de_cb (pe_callB call_lenA (by rfl) (He.free_ok KX G (c.fact 8)) boot_len (da_cons (de_var (pv 5)) da_nil)) c_len) de_int) da_nil))) (dg_name (pg_name (i := 6) nd__law_class rfl (Or.inl rfl)) (by decide)) (ds_one (ds_if (dt_val (de_call F__law_is_free (hr.mono (by decide)) (by rfl) (He.glo_ok KX G (c.fact 36)) kp__law_is_free b__law_is_free (da_cons (de_var (pv 0)) (da_cons (de_ix (de_var (pv 5)) (de_var (pv 6))) (da_cons (de_ix (de_var (pv 5)) (de_op op_addA o_add (de_var (pv 6)) de_int)) da_nil))))) (ds_cons (ds_set (ps_set (i := 7) nd__law_class rfl (Or.inl rfl) (de_op op_addA o_add (de_op op_addA o_add (de_sl (de_var (pv 5)) do_no (do_some (de_var (pv 6)))) (de_tup (da_cons (de_ix (de_var (pv 5)) (de_op op_addA o_add (de_var (pv 6)) de_int)) (da_cons (de_ix (de_var (pv 5)) (de_var (pv 6))) da_nil)))) (de_sl (de_var (pv 5)) (do_some (de_op op_addA o_add (de_var (pv 6)) de_int)) do_no)))) (ds_one (ds_if (dt_dnin hu (de_var (pv 7)) (de_var (pv 3))) (ds_cons (ds_if (dt_cmp (op_geD hu) o_cmp (de_cb (pe_callB call_lenA (by rfl) (He.free_ok KX G (c.fact 8)) boot_len (da_cons (de_var (pv 3)) da_nil)) c_len) (de_var (pv 2))) (ds_one (ds_ret de_str)) ds_nil) (ds_cons (ds_dput hu (de_var (pv 3)) (de_var (pv 7)) de_bl) (ds_one (ds_expr (de_bm (pe_bm F.plainAttrs_list F.slot_list_append F.type_list_append mt_append (de_var (pv 4)) (da_cons (de_var (pv 7)) da_nil)) tyd_lst m_app))))) ds_nil))) ds_nil)))))) (ds_one (ds_ret (de_cb (pe_callB (call_sortA rfl hu) (by rfl) (He.free_ok KX G (c.fact 22)) boot_sorted (da_cons (de_var (pv 3)) da_nil)) c_sort)))))
theorem ok__law_row (h__law_some : FnE Pg w K mg base 2 (He.ga K "_law_some") ["bag", "things"] (sp__law_some ⟨K, Pg, w⟩)) (h__law_take : FnE Pg w K mg base 1 (He.ga K "_law_take") ["bag", "many"] (sp__law_take ⟨K, Pg, w⟩)) : FnE Pg w K mg base 3 (He.ga K "_law_row") ["bag", "signs", "most"] (sp__law_row ⟨K, Pg, w⟩) := by
  obtain ⟨fd__law_some, F__law_some, b__law_some, kp__law_some⟩ := h__law_some
  obtain ⟨fd__law_take, F__law_take, b__law_take, kp__law_take⟩ := h__law_take
  obtain ⟨oc, od, osl, kV, doc, pm, an, cdv, ct, lk, hcd⟩ := c.def_ 35
  refine fnE_of (x := "_law_row") (qual := "_law_row") (st := Hd.s35) (f := (He.ga K "_law_row")) (N := N__law_row) (t := t__law_row ⟨K, Pg, w⟩) lk hcd (He.keep_ok (c.fact 94)) ⟨rfl, rfl, rfl, by decide +kernel, rfl, by decide +kernel, by decide +kernel⟩ (fun _ _ _ h => h.1) (fun us hl => match us, hl with | [_, _, _], _ => rfl) ?_ (fun _ _ _ h => h.2)
  intro cdv A outer s H E hr
  have hu := hr.units
  delta t__law_row
  exact (ds_one (ds_ret (de_cb (pe_callTy call_tupleF (by rfl) (He.free_ok KX G (c.fact 5)) boot_tuple (da_cons (de_lc (pe_lc rfl nd__law_row (di_rng1 (pi_range1 (by rfl) (He.free_ok KX G (c.fact 13)) (da_cons (de_call F__law_take (hr.mono (by decide)) (by rfl) (He.glo_ok KX G (c.fact 33)) kp__law_take b__law_take (da_cons (de_var (pv 0)) (da_cons (de_op op_addA o_add (de_var (pv 2)) de_int) da_nil))) da_nil))) (blkOk_by (own := [("k", 3)]) (by kernel_rfl)) (fun _ _ _ _ _ => (dg_name (pg_name (i := 3) nd__law_row rfl (Or.inl rfl)) (by decide))) (fun _ _ _ _ _ => dts_nil) (fun _ _ _ _ _ => (de_call F__law_some (hr.mono (by decide)) (by rfl) (He.glo_ok KX G (c.fact 40)) kp__law_some b__law_some (da_cons (de_var (pv 0)) (da_cons (de_var (pv 1)) da_nil)))))) da_nil)) c_tup)))
theorem ok__law_rows  : FnE Pg w K mg base 1 (He.ga K "_law_rows") ["signs", "most"] (sp__law_rows ⟨K, Pg, w⟩) := by
  obtain ⟨oc, od, osl, kV, doc, pm, an, cdv, ct, lk, hcd⟩ := c.def_ 36
  refine fnE_of (x := "_law_rows") (qual := "_law_rows") (st := Hd.s36) (f := (He.ga K "_law_rows")) (N := N__law_rows) (t := t__law_rows ⟨K, Pg, w⟩) lk hcd (He.keep_ok (c.fact 95)) ⟨rfl, rfl, rfl, by decide +kernel, rfl, by decide +kernel, by decide +kernel⟩ (fun _ _ _ h => h.1) (fun us hl => match us, hl with | [_, _], _ => rfl) ?_ (fun _ _ _ h => h.2)
  intro cdv A outer s H E hr
  have hu := hr.units
  delta t__law_rows
  exact (ds_cons (ds_par (ps_par (i := 3) (j := 4) rfl nd__law_rows rfl rfl (by decide) rfl rfl (da_cons (de_lst (da_cons (de_tup da_nil) da_nil)) (da_cons (de_lst (da_cons (de_tup da_nil) da_nil)) da_nil)) (by first | rfl | decide +kernel))) (ds_cons (ds_for (vs := [2]) PassesOwn.never rfl (di_rng1 (pi_range1 (by rfl) (He.free_ok KX G (c.fact 13)) (da_cons (de_var (pv 1)) da_nil))) (dg_name (pg_name (i := 2) nd__law_rows rfl (Or.inl rfl)) (by decide)) (ds_cons (ds_set (ps_set (i := 5) nd__law_rows rfl (Or.inl rfl) (de_lst da_nil))) (ds_cons (ds_for (vs := [6]) PassesOwn.never rfl (di_seq (de_var (pv 4))) (dg_name (pg_name (i := 6) nd__law_rows rfl (Or.inr rfl)) (by decide)) (ds_one (ds_expr (de_bm (pe_bm F.plainAttrs_list F.slot_list_extend F.type_list_extend mt_extend (de_var (pv 5)) (da_cons (de_lc (pe_lc rfl nd__law_rows (di_seq (de_var (pv 0))) (blkOk_by (own := [("a", 7)]) (by kernel_rfl)) (fun _ _ _ _ _ => (dg_name (pg_name (i := 7) nd__law_rows rfl (Or.inl rfl)) (by decide))) (fun _ _ _ _ _ => dts_nil) (fun _ _ _ _ _ => (de_op op_addA o_add (de_var (pv 6)) (de_tup (da_cons (de_var (pv 7)) da_nil)))))) da_nil)) tyd_lst m_ext)))) (ds_one (ds_par (ps_par (i := 3) (j := 4) rfl nd__law_rows rfl rfl (by decide) rfl rfl (da_cons (de_op op_addA o_add (de_var (pv 3)) (de_var (pv 5))) (da_cons (de_var (pv 5)) da_nil)) (by first | rfl | decide +kernel))))))) (ds_one (ds_ret (de_var (pv 3))))))
theorem ok__law_lag_of (h__law_lag : FnE Pg w K mg base 4 (He.ga K "_law_lag") ["alphabet", "one", "other"] (sp__law_lag ⟨K, Pg, w⟩)) : FnE Pg w K mg base 5 (He.ga K "_law_lag_of") ["alphabet", "one", "other"] (sp__law_lag_of ⟨K, Pg, w⟩) := by
  obtain ⟨fd__law_lag, F__law_lag, b__law_lag, kp__law_lag⟩ := h__law_lag
  obtain ⟨oc, od, osl, kV, doc, pm, an, cdv, ct, lk, hcd⟩ := c.def_ 37
  refine fnE_of (x := "_law_lag_of") (qual := "_law_lag_of") (st := Hd.s37) (f := (He.ga K "_law_lag_of")) (N := N__law_lag_of) (t := t__law_lag_of ⟨K, Pg, w⟩) lk hcd (He.keep_ok (c.fact 96)) ⟨rfl, rfl, rfl, by decide +kernel, rfl, by decide +kernel, by decide +kernel⟩ (fun _ _ _ h => h.1) (fun us hl => match us, hl with | [_, _, _], _ => rfl) ?_ (fun _ _ _ h => h.2)
  intro cdv A outer s H E hr
  have hu := hr.units
  delta t__law_lag_of
  exact (ds_one (ds_ret (de_sl (de_call F__law_lag (hr.mono (by decide)) (by rfl) (He.glo_ok KX G (c.fact 41)) kp__law_lag b__law_lag (da_cons (de_var (pv 0)) (da_cons (de_var (pv 1)) (da_cons (de_var (pv 2)) da_nil)))) (do_some de_int) do_no)))
theorem ok__law_is_normal_row (h__law_normal : FnE Pg w K mg base 3 (He.ga K "_law_normal") ["alphabet", "row"] (sp__law_normal ⟨K, Pg, w⟩)) : FnE Pg w K mg base 4 (He.ga K "_law_is_normal_row") ["alphabet", "thing"] (sp__law_is_normal_row ⟨K, Pg, w⟩) := by
  obtain ⟨fd__law_normal, F__law_normal, b__law_normal, kp__law_normal⟩ := h__law_normal
  obtain ⟨oc, od, osl, kV, doc, pm, an, cdv, ct, lk, hcd⟩ := c.def_ 38
  refine fnE_of (x := "_law_is_normal_row") (qual := "_law_is_normal_row") (st := Hd.s38) (f := (He.ga K "_law_is_normal_row")) (N := N__law_is_normal_row) (t := t__law_is_normal_row ⟨K, Pg, w⟩) lk hcd (He.keep_ok (c.fact 97)) ⟨rfl, rfl, rfl, by decide +kernel, rfl, by decide +kernel, by decide +kernel⟩ (fun _ _ _ h => h.1) (fun us hl => match us, hl with | [_, _], _ => rfl) ?_ (fun _ _ _ h => h.2)
  intro cdv A outer s H E hr
  have hu := hr.units
  delta t__law_is_normal_row
  exact (ds_cons (ds_if (PW.pt (dw_or (dt_not (dt_val (de_isi (T := "") isi_tuple_ok (by rfl) (He.free_ok KX G (c.fact 0)) (by rfl) (He.free_ok KX G (c.fact 5)) boot_tuple (de_var (pv 1)) (fun h => pe_callB call_isi (by rfl) (He.free_ok KX G (c.fact 0)) boot_isinstance h) (fun h k => pa_cons h (pa_cons k pa_nil))))) (dw_or1 (dt_cmp (op_neP hu) o_eqp (de_lc (pe_lc rfl nd__law_is_normal_row (di_seq (de_var (pv 1))) (blkOk_by (own := [("one", 2)]) (by kernel_rfl)) (fun _ _ _ _ _ => (dg_name (pg_name (i := 2) nd__law_is_normal_row rfl (Or.inl rfl)) (by decide))) (fun _ _ _ _ _ => (dts_one (PW.pt (dw_or (dt_not (dt_val (de_isi (T := "") isi_str_ok (by rfl) (He.free_ok KX G (c.fact 0)) (by rfl) (He.free_ok KX G (c.fact 1)) boot_str (de_var (pv 2)) (fun h => pe_callB call_isi (by rfl) (He.free_ok KX G (c.fact 0)) boot_isinstance h) (fun h k => pa_cons h (pa_cons k pa_nil))))) (dw_or1 (dt_cmp (op_nmemD hu) o_mem (de_var (pv 2)) (de_ix (de_var (pv 0)) de_int))))))) (fun _ _ _ _ _ => (de_var (pv 2))))) (de_lst da_nil))))) (ds_one (ds_ret de_bl)) ds_nil) (ds_one (ds_ret (de_cmp (op_eqP hu) o_eqp (de_call F__law_normal (hr.mono (by decide)) (by rfl) (He.glo_ok KX G (c.fact 39)) kp__law_normal b__law_normal (da_cons (de_var (pv 0)) (da_cons (de_var (pv 1)) da_nil))) (de_var (pv 1))))))
theorem ok__law_is_lag (h__law_is_normal_row : FnE Pg w K mg base 4 (He.ga K "_law_is_normal_row") ["alphabet", "thing"] (sp__law_is_normal_row ⟨K, Pg, w⟩)) (h__law_lag : FnE Pg w K mg base 4 (He.ga K "_law_lag") ["alphabet", "one", "other"] (sp__law_lag ⟨K, Pg, w⟩)) : FnE Pg w K mg base 5 (He.ga K "_law_is_lag") ["alphabet", "thing"] (sp__law_is_lag ⟨K, Pg, w⟩) := by
  obtain ⟨fd__law_is_normal_row, F__law_is_normal_row, b__law_is_normal_row, kp__law_is_normal_row⟩ := h__law_is_normal_row
  obtain ⟨fd__law_lag, F__law_lag, b__law_lag, kp__law_lag⟩ := h__law_lag
  obtain ⟨oc, od, osl, kV, doc, pm, an, cdv, ct, lk, hcd⟩ := c.def_ 39
  refine fnE_of (x := "_law_is_lag") (qual := "_law_is_lag") (st := Hd.s39) (f := (He.ga K "_law_is_lag")) (N := N__law_is_lag) (t := t__law_is_lag ⟨K, Pg, w⟩) lk hcd (He.keep_ok (c.fact 98)) ⟨rfl, rfl, rfl, by decide +kernel, rfl, by decide +kernel, by decide +kernel⟩ (fun _ _ _ h => h.1) (fun us hl => match us, hl with | [_, _], _ => rfl) ?_ (fun _ _ _ h => h.2)
  intro cdv A outer s H E hr
  have hu := hr.units
  delta t__law_is_lag
  exact (ds_cons (ds_if (PW.pt (dw_or (dt_not (dt_val (de_isi (T := "") isi_tuple_ok (by rfl) (He.free_ok KX G (c.fact 0)) (by rfl) (He.free_ok KX G (c.fact 5)) boot_tuple (de_var (pv 1)) (fun h => pe_callB call_isi (by rfl) (He.free_ok KX G (c.fact 0)) boot_isinstance h) (fun h k => pa_cons h (pa_cons k pa_nil))))) (dw_or (dt_cmp (op_neP hu) o_eqp (de_cb (pe_callB call_lenA (by rfl) (He.free_ok KX G (c.fact 8)) boot_len (da_cons (de_var (pv 1)) da_nil)) c_len) de_int) (dw_or (dt_not (dt_val (de_call F__law_is_normal_row (hr.mono (by decide)) (by rfl) (He.glo_ok KX G (c.fact 42)) kp__law_is_normal_row b__law_is_normal_row (da_cons (de_var (pv 0)) (da_cons (de_ix (de_var (pv 1)) de_int) da_nil))))) (dw_or1 (dt_not (dt_val (de_call F__law_is_normal_row (hr.mono (by decide)) (by rfl) (He.glo_ok KX G (c.fact 42)) kp__law_is_normal_row b__law_is_normal_row (da_cons (de_var (pv 0)) (da_cons (de_ix (de_var (pv 1)) de_int) da_nil)))))))))) (ds_one (ds_ret de_bl)) ds_nil) (ds_one (ds_ret (de_cmp (op_eqP hu) o_eqp (de_ix (de_call F__law_lag (hr.mono (by decide)) (by rfl) (He.glo_ok KX G (c.fact 41)) kp__law_lag b__law_lag (da_cons (de_var (pv 0)) (da_cons (de_ix (de_var (pv 1)) de_int) (da_cons (de_ix (de_var (pv 1)) de_int) da_nil)))) de_int) (de_tup da_nil)))))
theorem ok__law_couples  : FnE Pg w K mg base 1 (He.ga K "_law_couples") ["rows"] (sp__law_couples ⟨K, Pg, w⟩) := by
  obtain ⟨oc, od, osl, kV, doc, pm, an, cdv, ct, lk, hcd⟩ := c.def_ 41
  refine fnE_of (x := "_law_couples") (qual := "_law_couples") (st := Hd.s41) (f := (He.ga K "_law_couples")) (N := N__law_couples) (t := t__law_couples ⟨K, Pg, w⟩) lk hcd (He.keep_ok (c.fact 99)) ⟨rfl, rfl, rfl, by decide +kernel, rfl, by decide +kernel, by decide +kernel⟩ (fun _ _ _ h => h.1) (fun us hl => match us, hl with | [_], _ => rfl) ?_ (fun _ _ _ h => h.2)
  intro cdv A outer s H E hr
  have hu := hr.units
  delta t__law_couples
  exact (ds_cons (ds_set (ps_set (i := 1) nd__law_couples rfl (Or.inl rfl) (de_lst da_nil))) (ds_cons (ds_for (vs := [2]) PassesOwn.never rfl (di_seq (de_var (pv 0))) (dg_name (pg_name (i := 2) nd__law_couples rfl (Or.inr rfl)) (by decide)) (ds_one (ds_expr (de_bm (pe_bm F.plainAttrs_list F.slot_list_extend F.type_list_extend mt_extend (de_var (pv 1)) (da_cons (de_lc (pe_lc rfl nd__law_couples (di_seq (de_var (pv 0))) (blkOk_by (own := [("other", 3)]) (by kernel_rfl)) (fun _ _ _ _ _ => (dg_name (pg_name (i := 3) nd__law_couples rfl (Or.inl rfl)) (by decide))) (fun _ _ _ _ _ => dts_nil) (fun _ _ _ _ _ => (de_tup (da_cons (de_var (pv 2)) (da_cons (de_var (pv 3)) da_nil)))))) da_nil)) tyd_lst m_ext)))) (ds_one (ds_ret (de_var (pv 1))))))
theorem ok_law (U : Tbl K mg base ("law", none)) (h__law_alike : FnT Pg w K mg base 1 (He.ga K "_law_alike") ["found", "due"] (sp__law_alike ⟨K, Pg, w⟩)) (h__law_alphabet : FnE Pg w K mg base 2 (He.ga K "_law_alphabet") ["bag", "signs"] (sp__law_alphabet ⟨K, Pg, w⟩)) (h__law_bag : FnE Pg w K mg base 1 (He.ga K "_law_bag") ["script"] (sp__law_bag ⟨K, Pg, w⟩)) (h__law_by_swaps : FnE Pg w K mg base 2 (He.ga K "_law_by_swaps") ["alphabet", "one", "other"] (sp__law_by_swaps ⟨K, Pg, w⟩)) (h__law_class : FnE Pg w K mg base 2 (He.ga K "_law_class") ["alphabet", "row", "most"] (sp__law_class ⟨K, Pg, w⟩)) (h__law_couples : FnE Pg w K mg base 1 (He.ga K "_law_couples") ["rows"] (sp__law_couples ⟨K, Pg, w⟩)) (h__law_fits : FnE Pg w K mg base 2 (He.ga K "_law_fits") ["alphabet", "one", "other"] (sp__law_fits ⟨K, Pg, w⟩)) (h__law_is_lag : FnE Pg w K mg base 5 (He.ga K "_law_is_lag") ["alphabet", "thing"] (sp__law_is_lag ⟨K, Pg, w⟩)) (h__law_lag_of : FnE Pg w K mg base 5 (He.ga K "_law_lag_of") ["alphabet", "one", "other"] (sp__law_lag_of ⟨K, Pg, w⟩)) (h__law_row : FnE Pg w K mg base 3 (He.ga K "_law_row") ["bag", "signs", "most"] (sp__law_row ⟨K, Pg, w⟩)) (h__law_rows : FnE Pg w K mg base 1 (He.ga K "_law_rows") ["signs", "most"] (sp__law_rows ⟨K, Pg, w⟩)) (h__law_some : FnE Pg w K mg base 2 (He.ga K "_law_some") ["bag", "things"] (sp__law_some ⟨K, Pg, w⟩)) (h__law_take : FnE Pg w K mg base 1 (He.ga K "_law_take") ["bag", "many"] (sp__law_take ⟨K, Pg, w⟩)) (h_behind : FnE Pg w K mg base 7 (He.ga K "behind") ["alphabet", "told", "one", "other"] (sp_behind ⟨K, Pg, w⟩)) (h_difference : FnE Pg w K mg base 2 (He.ga K "difference") ["alphabet", "one", "other"] (sp_difference ⟨K, Pg, w⟩)) (h_fits : FnE Pg w K mg base 3 (He.ga K "fits") ["alphabet", "told"] (sp_fits ⟨K, Pg, w⟩)) (h_is_lag : FnE Pg w K mg base 6 (He.ga K "is_lag") ["alphabet", "thing"] (sp_is_lag ⟨K, Pg, w⟩)) (h_lag : FnE Pg w K mg base 6 (He.ga K "lag") ["alphabet", "one", "other"] (sp_lag ⟨K, Pg, w⟩)) (h_least_ends : FnX Pg w K mg base 4 (He.ga K "least_ends") ["alphabet", "told"] (sp_least_ends ⟨K, Pg, w⟩)) (h_turned : FnE Pg w K mg base 1 (He.ga K "turned") ["told"] (sp_turned ⟨K, Pg, w⟩)) : FnT Pg w K mg base 8 (He.ga K "law") ["script"] (sp_law ⟨K, Pg, w⟩) := by
  obtain ⟨fd__law_alike, F__law_alike, b__law_alike, kp__law_alike⟩ := h__law_alike
  obtain ⟨fd__law_alphabet, F__law_alphabet, b__law_alphabet, kp__law_alphabet⟩ := h__law_alphabet
  obtain ⟨fd__law_bag, F__law_bag, b__law_bag, kp__law_bag⟩ := h__law_bag
  obtain ⟨fd__law_by_swaps, F__law_by_swaps, b__law_by_swaps, kp__law_by_swaps⟩ := h__law_by_swaps
  obtain ⟨fd__law_class, F__law_class, b__law_class, kp__law_class⟩ := h__law_class
  obtain ⟨fd__law_couples, F__law_couples, b__law_couples, kp__law_couples⟩ := h__law_couples
  obtain ⟨fd__law_fits, F__law_fits, b__law_fits, kp__law_fits⟩ := h__law_fits
  obtain ⟨fd__law_is_lag, F__law_is_lag, b__law_is_lag, kp__law_is_lag⟩ := h__law_is_lag
  obtain ⟨fd__law_lag_of, F__law_lag_of, b__law_lag_of, kp__law_lag_of⟩ := h__law_lag_of
  obtain ⟨fd__law_row, F__law_row, b__law_row, kp__law_row⟩ := h__law_row
  obtain ⟨fd__law_rows, F__law_rows, b__law_rows, kp__law_rows⟩ := h__law_rows
  obtain ⟨fd__law_some, F__law_some, b__law_some, kp__law_some⟩ := h__law_some
  obtain ⟨fd__law_take, F__law_take, b__law_take, kp__law_take⟩ := h__law_take
  obtain ⟨fd_behind, F_behind, b_behind, kp_behind⟩ := h_behind
  obtain ⟨fd_difference, F_difference, b_difference, kp_difference⟩ := h_difference
  obtain ⟨fd_fits, F_fits, b_fits, kp_fits⟩ := h_fits
  obtain ⟨fd_is_lag, F_is_lag, b_is_lag, kp_is_lag⟩ := h_is_lag
  obtain ⟨fd_lag, F_lag, b_lag, kp_lag⟩ := h_lag
  obtain ⟨fd_least_ends, F_least_ends, b_least_ends, kp_least_ends⟩ := h_least_ends
  obtain ⟨fd_turned, F_turned, b_turned, kp_turned⟩ := h_turned
  obtain ⟨oc, od, osl, kV, doc, pm, an, cdv, ct, lk, hcd⟩ := c.def_ 42
  refine fnT_ofC ("law", none) (x := "law") (qual := "law") (st := Hd.s42) (f := (He.ga K "law")) (N := N_law) (t := t_law ⟨K, Pg, w⟩) rfl lk hcd (He.keep_ok (c.fact 100)) ⟨rfl, rfl, rfl, by decide +kernel, rfl, by decide +kernel, by decide +kernel⟩ (fun _ _ _ h => h.1) (fun us hl => match us, hl with | [_], _ => rfl) ?_ (fun _ _ _ h => h.2)
  intro A outer s H E st hr
  have hu := hr.units
  delta t_law t_law_p1 t_law_l2 t_law_p3 t_law_p4 t_law_p5 t_law_p6 t_law_p7 t_law_p8 t_law_p9 t_law_p10 t_law_p11 t_law_p12 t_law_p13 t_law_p14 t_law_p15 t_law_p16 t_law_p17 t_law_p18 t_law_p19 t_law_p20 t_law_p21 t_law_p22 t_law_l23 t_law_p24
  exact (ds_cons (ds_set (ps_set (i := 1) nd_law rfl (Or.inr rfl) (de_call F__law_bag (hr.mono (by decide)) (by rfl) (He.glo_ok KX G (c.fact 63)) kp__law_bag b__law_bag (da_cons (de_var (pv 0)) da_nil)))) (ds_cons (ds_for (vs := [2]) PassesOwn.never rfl (di_rng1 (pi_range1 (by rfl) (He.free_ok KX G (c.fact 13)) (da_cons de_int da_nil))) (dg_name (pg_name (i := 2) nd_law rfl (Or.inl rfl)) (by decide)) (ds_cons (ds_set (ps_set (i := 3) nd_law rfl (Or.inr rfl) (de_sl (de_tup (da_cons de_str (da_cons de_str (da_cons de_str da_nil)))) do_no (do_some (de_op op_addA o_add de_int (de_call F__law_take (hr.mono (by decide)) (by rfl) (He.glo_ok KX G (c.fact 33)) kp__law_take b__law_take (da_cons (de_var (pv 1)) (da_cons de_int da_nil)))))))) (ds_cons (ds_set (ps_set (i := 4) nd_law rfl (Or.inr rfl) (de_call F__law_alphabet (hr.mono (by decide)) (by rfl) (He.glo_ok KX G (c.fact 62)) kp__law_alphabet b__law_alphabet (da_cons (de_var (pv 1)) (da_cons (de_var (pv 3)) da_nil))))) (ds_cons (ds_asg (vs := [14, 15, 16, 17, 18]) (de_lc (pe_lc rfl nd_law (di_rng1 (pi_range1 (by rfl) (He.free_ok KX G (c.fact 13)) (da_cons de_int da_nil))) (blkOk_by (own := [("k", 21)]) (by kernel_rfl)) (fun _ _ _ _ _ => (dg_name (pg_name (i := 21) nd_law rfl (Or.inl rfl)) (by decide))) (fun _ _ _ _ _ => dts_nil) (fun _ _ _ _ _ => (de_call F__law_row (hr.mono (by decide)) (by rfl) (He.glo_ok KX G (c.fact 48)) kp__law_row b__law_row (da_cons (de_var (pv 1)) (da_cons (de_var (pv 3)) (da_cons de_int da_nil))))))) (dg_un rfl (dgs_cons (dg_name (pg_name (i := 14) nd_law rfl (Or.inl rfl)) (by decide)) (dgs_cons (dg_name (pg_name (i := 15) nd_law rfl (Or.inl rfl)) (by decide)) (dgs_cons (dg_name (pg_name (i := 16) nd_law rfl (Or.inl rfl)) (by decide)) (dgs_cons (dg_name (pg_name (i := 17) nd_law rfl (Or.inl rfl)) (by decide)) (dgs_cons (dg_name (pg_name (i := 18) nd_law rfl (Or.inl rfl)) (by decide)) dgs_nil))))))) (ds_cons (ds_asg (vs := [19, 20]) (de_tup (da_cons (de_op op_addA o_add (de_var (pv 14)) (de_var (pv 15))) (da_cons (de_op op_addA o_add (de_call F__law_some (hr.mono (by decide)) (by rfl) (He.glo_ok KX G (c.fact 40)) kp__law_some b__law_some (da_cons (de_var (pv 1)) (da_cons (de_call F__law_class (hr.mono (by decide)) (by rfl) (He.glo_ok KX G (c.fact 61)) kp__law_class b__law_class (da_cons (de_var (pv 4)) (da_cons (de_var (pv 14)) (da_cons de_int da_nil)))) da_nil))) (de_var (pv 16))) da_nil))) (dg_un rfl (dgs_cons (dg_name (pg_name (i := 19) nd_law rfl (Or.inr rfl)) (by decide)) (dgs_cons (dg_name (pg_name (i := 20) nd_law rfl (Or.inr rfl)) (by decide)) dgs_nil)))) (ds_cons (ds_set (ps_set (i := 5) nd_law rfl (Or.inr rfl) (de_call F__law_lag_of (hr.mono (by decide)) (by rfl) (He.glo_ok KX G (c.fact 57)) kp__law_lag_of b__law_lag_of (da_cons (de_var (pv 4)) (da_cons (de_var (pv 19)) (da_cons (de_var (pv 20)) da_nil)))))) (ds_cons (ds_set (ps_set (i := 6) nd_law rfl (Or.inl rfl) (de_call F__law_fits (hr.mono (by decide)) (by rfl) (He.glo_ok KX G (c.fact 60)) kp__law_fits b__law_fits (da_cons (de_var (pv 4)) (da_cons (de_ix (de_var (pv 5)) de_int) (da_cons (de_ix (de_var (pv 5)) de_int) da_nil)))))) (ds_cons (ds_setLc (ps_setLc (i := 7) rfl nd_law rfl rfl (sw_true rfl rfl rfl (by decide +kernel)) (di_seq (de_var (pv 3))) (blkOk_by (own := [("a", 22)]) (by kernel_rfl)) (fun _ _ _ _ _ => (dg_name (pg_name (i := 22) nd_law rfl (Or.inl rfl)) (by decide))) (fun _ _ _ _ _ => dts_nil) (fun _ _ _ _ _ => (de_tup (da_cons (de_var (pv 22)) (da_cons (de_op op_sub o_int0 (de_tm (pe_tm F.slot_tuple_count F.type_tuple_count (mt_tcnt hu) (de_var (pv 19)) (da_cons (de_var (pv 22)) da_nil)) m_tcnt) (de_tm (pe_tm F.slot_tuple_count F.type_tuple_count (mt_tcnt hu) (de_var (pv 20)) (da_cons (de_var (pv 22)) da_nil)) m_tcnt)) da_nil)))))) (ds_cons (ds_set (ps_set (i := 8) nd_law rfl (Or.inl rfl) (de_lst (da_cons (de_call F_lag (hr.mono (by decide)) (by rfl) (He.glo_ok KX G (c.fact 26)) kp_lag b_lag (da_cons (de_var (pv 4)) (da_cons (de_var (pv 19)) (da_cons (de_var (pv 20)) da_nil)))) (da_cons (de_call F_fits (hr.mono (by decide)) (by rfl) (He.glo_ok KX G (c.fact 27)) kp_fits b_fits (da_cons (de_var (pv 4)) (da_cons (de_var (pv 5)) da_nil))) (da_cons (de_call F_turned (hr.mono (by decide)) (by rfl) (He.glo_ok KX G (c.fact 59)) kp_turned b_turned (da_cons (de_var (pv 5)) da_nil)) (da_cons (de_call F_difference (hr.mono (by decide)) (by rfl) (He.glo_ok KX G (c.fact 58)) kp_difference b_difference (da_cons (de_var (pv 4)) (da_cons (de_var (pv 19)) (da_cons (de_var (pv 20)) da_nil)))) (da_cons (de_call F_behind (hr.mono (by decide)) (by rfl) (He.glo_ok KX G (c.fact 54)) kp_behind b_behind (da_cons (de_var (pv 4)) (da_cons (de_var (pv 5)) (da_cons (de_var (pv 17)) (da_cons (de_var (pv 18)) da_nil))))) da_nil)))))))) (ds_cons (ds_if (dt_not (dt_val (de_callT F__law_alike st (hr.mono (by decide)) (by rfl) (He.glo_ok KX G (c.fact 45)) kp__law_alike b__law_alike (da_cons (de_var (pv 8)) (da_cons (de_lst (da_cons (de_var (pv 5)) (da_cons (de_var (pv 6)) (da_cons (de_rev (de_var (pv 5))) (da_cons (de_cb (pe_callTy call_tupleF (by rfl) (He.free_ok KX G (c.fact 5)) boot_tuple (da_cons (de_lc (pe_lc rfl nd_law (di_seq (de_var (pv 7))) (blkOk_by (own := [("pair", 26)]) (by kernel_rfl)) (fun _ _ _ _ _ => (dg_name (pg_name (i := 26) nd_law rfl (Or.inl rfl)) (by decide))) (fun _ _ _ _ _ => (dts_one (dt_cmp (op_neP hu) o_eqp (de_ix (de_var (pv 26)) de_int) de_int))) (fun _ _ _ _ _ => (de_var (pv 26))))) da_nil)) c_tup) (da_cons (de_call F__law_lag_of (hr.mono (by decide)) (by rfl) (He.glo_ok KX G (c.fact 57)) kp__law_lag_of b__law_lag_of (da_cons (de_var (pv 4)) (da_cons (de_op op_addA o_add (de_var (pv 19)) (de_var (pv 17))) (da_cons (de_op op_addA o_add (de_var (pv 20)) (de_var (pv 18))) da_nil)))) da_nil)))))) da_nil))))) (ds_one (ds_ret de_bl)) ds_nil) (ds_cons (ds_set (ps_set (i := 9) nd_law rfl (Or.inl rfl) (de_call F__law_rows (hr.mono (by decide)) (by rfl) (He.glo_ok KX G (c.fact 56)) kp__law_rows b__law_rows (da_cons (de_var (pv 3)) (da_cons de_int da_nil))))) (ds_cons (ds_set (ps_set (i := 10) nd_law rfl (Or.inl rfl) (de_call F__law_couples (hr.mono (by decide)) (by rfl) (He.glo_ok KX G (c.fact 55)) kp__law_couples b__law_couples (da_cons (de_sl (de_var (pv 9)) do_no (do_some de_int)) da_nil)))) (ds_cons (ds_setLc (ps_setLc (i := 11) rfl nd_law rfl rfl (sw_true rfl rfl rfl (by decide +kernel)) (di_seq (de_var (pv 10))) (blkOk_by (own := [("couple", 23)]) (by kernel_rfl)) (fun _ _ _ _ _ => (dg_name (pg_name (i := 23) nd_law rfl (Or.inl rfl)) (by decide))) (fun _ _ _ _ _ => (dts_one (dt_val (de_call F__law_by_swaps (hr.mono (by decide)) (by rfl) (He.glo_ok KX G (c.fact 47)) kp__law_by_swaps b__law_by_swaps (da_cons (de_var (pv 4)) (da_cons (de_op op_addA o_add (de_var (pv 19)) (de_ix (de_var (pv 23)) de_int)) (da_cons (de_op op_addA o_add (de_var (pv 20)) (de_ix (de_var (pv 23)) de_int)) da_nil))))))) (fun _ _ _ _ _ => (de_var (pv 23))))) (ds_cons (ds_if (PW.pt (dw_or (PW.pt (dw_and (dt_cmp (op_neP hu) o_eqp (de_var (pv 11)) (de_lst da_nil)) (dw_and1 (dt_not (dt_val (de_var (pv 6))))))) (dw_or1 (dt_cmp (op_neP hu) o_eqp (de_lc (pe_lc rfl nd_law (di_seq (de_var (pv 11))) (blkOk_by (own := [("couple", 23)]) (by kernel_rfl)) (fun _ _ _ _ _ => (dg_name (pg_name (i := 23) nd_law rfl (Or.inl rfl)) (by decide))) (fun _ _ _ _ _ => (dts_one (dt_cmp (op_neP hu) o_eqp (de_call F_behind (hr.mono (by decide)) (by rfl) (He.glo_ok KX G (c.fact 54)) kp_behind b_behind (da_cons (de_var (pv 4)) (da_cons (de_var (pv 5)) (da_cons (de_ix (de_var (pv 23)) de_int) (da_cons (de_ix (de_var (pv 23)) de_int) da_nil))))) (de_tup (da_cons (de_tup da_nil) (da_cons (de_tup da_nil) da_nil)))))) (fun _ _ _ _ _ => (de_var (pv 23))))) (de_lst da_nil))))) (ds_one (ds_ret de_bl)) ds_nil) (ds_cons (ds_if (dt_val (de_var (pv 6))) (ds_cons (ds_if (PW.pt (dw_or (dt_not (dt_val (de_callT F__law_alike st (hr.mono (by decide)) (by rfl) (He.glo_ok KX G (c.fact 45)) kp__law_alike b__law_alike (da_cons (de_callXX F_least_ends LamX.takes0 (hr.mono (by decide)) (by rfl) (He.glo_ok KX G (c.fact 50)) kp_least_ends b_least_ends (da_cons (de_var (pv 4)) (da_cons (de_var (pv 5)) da_nil))) (da_cons (de_rev (de_var (pv 5))) da_nil))))) (dw_or1 (dt_not (dt_val (de_call F__law_by_swaps (hr.mono (by decide)) (by rfl) (He.glo_ok KX G (c.fact 47)) kp__law_by_swaps b__law_by_swaps (da_cons (de_var (pv 4)) (da_cons (de_op op_addA o_add (de_var (pv 19)) (de_ix (de_var (pv 5)) de_int)) (da_cons (de_op op_addA o_add (de_var (pv 20)) (de_ix (de_var (pv 5)) de_int)) da_nil))))))))) (ds_one (ds_ret de_bl)) ds_nil) (ds_cons (ds_if (PW.pt (dw_or (dt_cmp (op_neP hu) o_eqp (de_lc (pe_lc rfl nd_law (di_seq (de_ix (de_var (pv 5)) de_int)) (blkOk_by (own := [("a", 22)]) (by kernel_rfl)) (fun _ _ _ _ _ => (dg_name (pg_name (i := 22) nd_law rfl (Or.inl rfl)) (by decide))) (fun _ _ _ _ _ => (dts_one (dt_cmp (op_memD hu) o_mem (de_var (pv 22)) (de_ix (de_var (pv 5)) de_int)))) (fun _ _ _ _ _ => (de_var (pv 22))))) (de_lst da_nil)) (dw_or1 (dt_cmp (op_ne_dictA (Nat.lt_of_le_of_lt (Nat.le_add_right _ _) hu)) o_neSame (de_cb (pe_callTy (call_dictP rfl) (by rfl) (He.free_ok KX G (c.fact 49)) boot_dict (da_cons (de_lc (pe_lc rfl nd_law (di_seq (de_var (pv 3))) (blkOk_by (own := [("a", 22)]) (by kernel_rfl)) (fun _ _ _ _ _ => (dg_name (pg_name (i := 22) nd_law rfl (Or.inl rfl)) (by decide))) (fun _ _ _ _ _ => dts_nil) (fun _ _ _ _ _ => (de_tup (da_cons (de_var (pv 22)) (da_cons (de_op op_sub o_int0 (de_tm (pe_tm F.slot_tuple_count F.type_tuple_count (mt_tcnt hu) (de_ix (de_var (pv 5)) de_int) (da_cons (de_var (pv 22)) da_nil)) m_tcnt) (de_tm (pe_tm F.slot_tuple_count F.type_tuple_count (mt_tcnt hu) (de_ix (de_var (pv 5)) de_int) (da_cons (de_var (pv 22)) da_nil)) m_tcnt)) da_nil)))))) da_nil)) c_pairs) (de_cb (pe_callTy (call_dictP rfl) (by rfl) (He.free_ok KX G (c.fact 49)) boot_dict (da_cons (de_var (pv 7)) da_nil)) c_pairs))))) (ds_one (ds_ret de_bl)) ds_nil) (ds_cons (ds_par (ps_par (i := 24) (j := 25) rfl nd_law rfl rfl (by decide) rfl rfl (da_cons (de_call F__law_row (hr.mono (by decide)) (by rfl) (He.glo_ok KX G (c.fact 48)) kp__law_row b__law_row (da_cons (de_var (pv 1)) (da_cons (de_var (pv 3)) (da_cons de_int da_nil)))) (da_cons (de_call F__law_row (hr.mono (by decide)) (by rfl) (He.glo_ok KX G (c.fact 48)) kp__law_row b__law_row (da_cons (de_var (pv 1)) (da_cons (de_var (pv 3)) (da_cons de_int da_nil)))) da_nil)) (by first | rfl | decide +kernel))) (ds_one (ds_if (PW.pt (dw_and (dt_val (de_call F__law_by_swaps (hr.mono (by decide)) (by rfl) (He.glo_ok KX G (c.fact 47)) kp__law_by_swaps b__law_by_swaps (da_cons (de_var (pv 4)) (da_cons (de_op op_addA o_add (de_op op_addA o_add (de_var (pv 24)) (de_ix (de_var (pv 5)) de_int)) (de_var (pv 17))) (da_cons (de_op op_addA o_add (de_op op_addA o_add (de_var (pv 25)) (de_ix (de_var (pv 5)) de_int)) (de_var (pv 17))) da_nil))))) (dw_and1 (dt_cmp (op_neP hu) o_eqp (de_call F_lag (hr.mono (by decide)) (by rfl) (He.glo_ok KX G (c.fact 26)) kp_lag b_lag (da_cons (de_var (pv 4)) (da_cons (de_var (pv 24)) (da_cons (de_var (pv 25)) da_nil)))) (de_var (pv 5)))))) (ds_one (ds_ret de_bl)) ds_nil))))) (ds_one (ds_if (dt_cmp (op_neP hu) o_eqp (de_heard (k := 4) (x := "_law_heard") (st := Hd.s40) (Ng := N__law_heard) (a := "act") (e := "Nothing") (d := ("law", none)) (told := "told") (none_ := "nothing") (c.def_ 40 (d := Hd.d40)) (by rfl) (He.glo_ok KX G (c.fact 52)) (He.keep_ok (c.fact 53)) (fun _ _ _ _ _ _ us hl => match us, hl with | [_], _ => rfl) ⟨rfl, rfl, rfl, by decide +kernel, rfl, by decide +kernel, by decide +kernel⟩ (by rfl) (.inl rfl) (fun _ => rfl) (by rfl) (by rfl) (He.glo_ok KX G (c.fact 29)) (c.fact 51) U rfl rfl (hr.mono (by decide)) (by kernel_rfl) rfl (fun _ _ _ _ _ => rfl) (fun A outer s H E f c' hr => have hu := hr.units; (de_callXX F_least_ends lam_takes (hr.mono (by decide)) (by rfl) (He.glo_ok KX G (c.fact 50)) kp_least_ends b_least_ends (da_cons (de_var (pv 4)) (da_cons (de_var (pv 5)) da_nil))))) (de_tup (da_cons de_str da_nil))) (ds_one (ds_ret de_bl)) ds_nil))) (ds_cons (ds_set (ps_set (i := 12) nd_law rfl (Or.inl rfl) (de_lst (da_cons (de_var (pv 5)) (da_cons (de_tup (da_cons (de_var (pv 15)) (da_cons (de_var (pv 16)) da_nil))) (da_cons (de_tup (da_cons (de_var (pv 19)) (da_cons (de_var (pv 19)) da_nil))) (da_cons (de_tup (da_cons (de_ix (de_var (pv 5)) de_int) (da_cons (de_ix (de_var (pv 5)) de_int) da_nil))) (da_cons (de_tup (da_cons (de_tup da_nil) (da_cons (de_tup da_nil) da_nil))) (da_cons (de_cb (pe_callTy call_list_of (by rfl) (He.free_ok KX G (c.fact 46)) boot_list (da_cons (de_var (pv 5)) da_nil)) c_lst) (da_cons de_non (da_cons (de_sl (de_var (pv 5)) do_no (do_some de_int)) (da_cons (de_tup (da_cons (de_ix (de_var (pv 5)) de_int) (da_cons (de_cb (pe_callTy call_list_of (by rfl) (He.free_ok KX G (c.fact 46)) boot_list (da_cons (de_ix (de_var (pv 5)) de_int) da_nil)) c_lst) da_nil))) (da_cons (de_tup (da_cons (de_tup (da_cons de_str da_nil)) (da_cons (de_tup da_nil) da_nil))) (da_cons (de_tup (da_cons (de_tup (da_cons de_int da_nil)) (da_cons (de_tup da_nil) da_nil))) (da_cons (de_tup (da_cons (de_rev (de_ix (de_var (pv 5)) de_int)) (da_cons (de_ix (de_var (pv 5)) de_int) da_nil))) (da_cons (de_tup (da_cons de_non (da_cons (de_tup da_nil) da_nil))) da_nil)))))))))))))))) (ds_one (ds_for (vs := [13]) PassesOwn.never rfl (di_seq (de_var (pv 12))) (dg_name (pg_name (i := 13) nd_law rfl (Or.inl rfl)) (by decide)) (ds_one (ds_if (dt_not (dt_val (de_callT F__law_alike st (hr.mono (by decide)) (by rfl) (He.glo_ok KX G (c.fact 45)) kp__law_alike b__law_alike (da_cons (de_call F_is_lag (hr.mono (by decide)) (by rfl) (He.glo_ok KX G (c.fact 44)) kp_is_lag b_is_lag (da_cons (de_var (pv 4)) (da_cons (de_var (pv 13)) da_nil))) (da_cons (de_call F__law_is_lag (hr.mono (by decide)) (by rfl) (He.glo_ok KX G (c.fact 43)) kp__law_is_lag b__law_is_lag (da_cons (de_var (pv 4)) (da_cons (de_var (pv 13)) da_nil))) da_nil))))) (ds_one (ds_ret de_bl)) ds_nil)))))))))))))))))))) (ds_one (ds_ret de_bl))))
end
end Dt

set_option maxRecDepth 100000
set_option maxHeartbeats 4000000
namespace Dt
open PySem PySem.Spec PyProof.Rows L2 LamX RZ PySem.P
theorem CF.nil {K : Bd} {C : String} : CF K C [] := fun _ h => nomatch h
theorem CF.cons {K : Bd} {C : String} {f : Str} {fs : List Str} (h : L2.Cls K (He.ga K.K C) ∧ NoAttr K (He.ga K.K C) f) (t : CF K C fs) : CF K C (f :: fs) := fun g hg => by
  rcases List.mem_cons.mp hg with rfl | hg
  · exact h
  · exact t g hg
theorem facts {w : World} {K : PySem.W.Frag} (c : He.SaysE Hd.fa Hd.fn K) :
    CF ⟨K, Pg, w⟩ "Left" ["row", "signs", "dependent", "places", "taken"] := by
  exact (CF.cons ⟨He.cls_ok (c.fact 10), He.noat_ok (c.fact 101)⟩ (CF.cons ⟨He.cls_ok (c.fact 10), He.noat_ok (c.fact 102)⟩ (CF.cons ⟨He.cls_ok (c.fact 10), He.noat_ok (c.fact 103)⟩ (CF.cons ⟨He.cls_ok (c.fact 10), He.noat_ok (c.fact 104)⟩ (CF.cons ⟨He.cls_ok (c.fact 10), He.noat_ok (c.fact 105)⟩ CF.nil)))))
theorem okLaw {w : World} {K : PySem.W.Frag} {mg : Str → Option Value} {base h : Heap} (KX : K.In base) (G : base.Ns mainGlobals mg) (C : SaysL Hd.fa Hd.fn Hd.tf (tblB Hd.tf) h K) (tb : ∀ p ∈ Hd.tf.map (He.cT K), TabB base mg p.1 p.2) : FnT Pg w K mg base 8 (He.ga K "law") ["script"] (sp_law ⟨K, Pg, w⟩) := by
  have c := C.e
  have U_law : Tbl K mg base ("law", none) := tbl_of C.more (by simp [Hd.tf]) tb
  have h_check_sign := ok_check_sign (w := w) KX G c
  have h_are_independent := ok_are_independent (w := w) KX G c h_check_sign
  have h_dependent_couples := ok_dependent_couples (w := w) KX G c
  have h_counts := ok_counts (w := w) KX G c
  have h_Left___init__ := ok_Left___init__ (w := w) KX G c h_dependent_couples
  have h_Left_place := ok_Left_place (w := w) KX G c
  have h_Left_can_be_first := ok_Left_can_be_first (w := w) KX G c h_Left_place
  have h_Left_firsts := ok_Left_firsts (w := w) KX G c h_Left_can_be_first
  have h_Left_take := ok_Left_take (w := w) KX G c
  have h_Left_left := ok_Left_left (w := w) KX G c
  have h_normal := ok_normal (w := w) KX G c h_Left___init__ h_Left_firsts h_Left_take
  have h_left_of := ok_left_of (w := w) KX G c h_Left___init__ h_Left_can_be_first h_Left_left h_Left_take h_normal
  have h_common := ok_common (w := w) KX G c h_Left___init__ h_Left_can_be_first h_Left_firsts h_Left_take h_normal
  have h_lag := ok_lag (w := w) KX G c h_common h_left_of
  have h_fits := ok_fits (w := w) KX G c h_are_independent
  have h_is_row := ok_is_row (w := w) KX G c
  have h_is_lag := ok_is_lag (w := w) KX G c h_common h_is_row h_normal
  have h_behind := ok_behind (w := w) KX G c h_lag
  have h_turned := ok_turned (w := w) KX G c
  have h_least_ends := ok_least_ends (w := w) KX G c h_fits
  have h_difference := ok_difference (w := w) KX G c h_counts
  have h__law_bag := ok__law_bag (w := w) KX G c
  have h__law_take := ok__law_take (w := w) KX G c
  have h__law_some := ok__law_some (w := w) KX G c h__law_take
  have h__law_alike := ok__law_alike (w := w) KX G c
  have h__law_alphabet := ok__law_alphabet (w := w) KX G c h__law_take
  have h__law_is_free := ok__law_is_free (w := w) KX G c
  have h__law_cut := ok__law_cut (w := w) KX G c
  have h__law_by_swaps := ok__law_by_swaps (w := w) KX G c h__law_cut h__law_is_free
  have h__law_firsts := ok__law_firsts (w := w) KX G c h__law_is_free
  have h__law_without := ok__law_without (w := w) KX G c
  have h__law_normal := ok__law_normal (w := w) KX G c h__law_firsts h__law_without
  have h__law_lag := ok__law_lag (w := w) KX G c h__law_firsts h__law_normal h__law_without
  have h__law_fits := ok__law_fits (w := w) KX G c h__law_is_free
  have h__law_class := ok__law_class (w := w) KX G c h__law_is_free
  have h__law_row := ok__law_row (w := w) KX G c h__law_some h__law_take
  have h__law_rows := ok__law_rows (w := w) KX G c
  have h__law_lag_of := ok__law_lag_of (w := w) KX G c h__law_lag
  have h__law_is_normal_row := ok__law_is_normal_row (w := w) KX G c h__law_normal
  have h__law_is_lag := ok__law_is_lag (w := w) KX G c h__law_is_normal_row h__law_lag
  have h__law_couples := ok__law_couples (w := w) KX G c
  have h_law := ok_law (w := w) KX G c U_law h__law_alike h__law_alphabet h__law_bag h__law_by_swaps h__law_class h__law_couples h__law_fits h__law_is_lag h__law_lag_of h__law_row h__law_rows h__law_some h__law_take h_behind h_difference h_fits h_is_lag h_lag h_least_ends h_turned
  exact h_law
end Dt
open PySem PySem.W PySem.Calls PyProof.Rows in
theorem PySem.Challenge.cw_anyarrive_k30_whole_lags_of_two_rows_holds : PySem.Challenge.rw_anyarrive_k30_whole_lags_of_two_rows.Holds := by
  w_on; o_law
  refine HandSHeadRun.head_any (r := OpenLaw.row PySem.Challenge.rw_anyarrive_k30_whole_lags_of_two_rows) (q := view (OpenLaw.row PySem.Challenge.rw_anyarrive_k30_whole_lags_of_two_rows).prog [46]) (H := Hd.hk) (ob := Hd.ob) (M := 3000) (loose := Hd.names) (d := HandSHeadRun.topDef (OpenLaw.row PySem.Challenge.rw_anyarrive_k30_whole_lags_of_two_rows).prog 46) (kwd := []) Hd.ob_eq
    (by kernel_rfl) (fun s => by kernel_rfl) Hd.run (by kernel_rfl) (by kernel_rfl) (by kernel_rfl) (by rfl) (by first | assumption | decide +kernel) (by decide +kernel) ⟨rfl, rfl, rfl, rfl, rfl, by decide +kernel⟩ ?hw ?hc
  case hw => w_witness2
  case hc =>
    refine Dt.walk_stillT (l := PySem.Challenge.rw_anyarrive_k30_whole_lags_of_two_rows) (n := 63) (k := 8) (x := "script") (CX := L2.CX0) rfl (by decide) (by kernel_rfl) ⟨rfl, by decide, by decide⟩ ?F (fun _ _ _ _ z => z)
    intro w mg fa h Y G hmg0
    obtain ⟨K, KX, c⟩ := Y
    have hmg : mg ("law" : PySem.Str) = some (.ref fa) := by
      have e : (HandSHeadRun.topDef (OpenLaw.row PySem.Challenge.rw_anyarrive_k30_whole_lags_of_two_rows).prog 46).name = ("law" : PySem.Str) := by kernel_rfl
      rw [← e]
      exact hmg0
    have e := hmg.symm.trans (He.glo_ok KX G (c.e.fact 106 (f := .glo "law") rfl))
    cases e
    refine ⟨K, Hd.tf.map (He.cT K), Dt.lSp ⟨K, Dt.Pg, w⟩ (Dt.sp_law ⟨K, Dt.Pg, w⟩), KX, c.tables KX, fun H a ns hl hbits hT hS => ?_, fun base KX2 G2 tb => ?_⟩
    · exact Dt.law_true (Dt.facts (w := w) c.e) (Dt.tabs_of c.more hT) hS
    · obtain ⟨fd, F, b, kp⟩ := Dt.okLaw (w := w) KX2 G2 c tb
      exact ⟨fd, F, b⟩

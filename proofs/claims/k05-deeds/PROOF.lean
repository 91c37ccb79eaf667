import PyProof.Rows.All
import Wide.All
import OpenK.AllK
import Wide.FinOn
import KE.KStateDown
import KE.SortData
import KE.KDictKeyed
import KE.KDictWalk
import KE.KRevSl
import KE.KLam
import HandS.ForMost
import HandS.Ends
import HandS.More
import HandS.Words
import HandS.WordsExc
import HandS.Defaults
import HandS.Lambda
import HandS.EndTab
import HandS.Head0
import HandS.Head1
import HandS.Head2
import HandS.HeadEnd
import HandS.HeadHook1
import HandS.HeadHook2
import HandS.HeadHook3
import HandS.HeadHook4
import HandS.HeadWalk
import HandS.Zip
import HandS.Deep
import HandS.Style
import HandS.IsInst
import HandS.SetFor
import HandS.TupSets
import HandS.SortKw
import HandS.DictComp
import HandS.Flow
import HandS.TupLen
import PyProof.Rows.TupDisplay
import KE.KDictSum
import KE.KDictCopyH
import KE.SortKeyed
import KE.KSortKey
import KE.KDictZip
import HandS.Zip0
import KE.DataMinMax
import KE.GoesMore
import KE.GoesEnum
import HandS.Walk
import HandS.Iter
import HandS.Set
import HandS.Keys
import KE.DatumOrd
import PySem.Challenge.RW_laytogether_k05_whole_numbers_of_deeds
import HandS.TupAny
import HandS.Sort
import HandS.TupLe
import PyProof.ListRange
import PyProof.Rows.GenSrcRange
set_option Elab.async false
set_option linter.all false
set_option maxRecDepth 100000
set_option maxHeartbeats 4000000
namespace K5
open PySem PySem.Spec PyProof.Rows L2 LamX

/-! ### data on the heap -/
abbrev Row := List Int
abbrev Tab := List (List Int)
/-- tuples stay -/
def KT (H H' : Hp) : Prop := ∀ b xs, H b = some (.tup xs) → H' b = some (.tup xs)
def IsRow (H : Hp) (a : Addr) (r : Row) : Prop := H a = some (.tup (r.map V.int))
def IsTab (H : Hp) (a : Addr) (t : Tab) : Prop := ∃ as : List Addr, H a = some (.tup (as.map V.ref)) ∧ Paired (IsRow H) as t
theorem KT.refl (H : Hp) : KT H H := fun _ _ h => h
theorem KT.trans {H H1 H2 : Hp} (a : KT H H1) (b : KT H1 H2) : KT H H2 := fun c o h => b c o (a c o h)
theorem IsRow.kt {H H' : Hp} {a : Addr} {r : Row} (h : IsRow H a r) (k : KT H H') : IsRow H' a r := k _ _ h
theorem rows_kt {H H' : Hp} {as : List Addr} {t : Tab} (h : Paired (IsRow H) as t) (k : KT H H') : Paired (IsRow H') as t := Paired.mapP h fun _ _ z => z.kt k
theorem IsTab.kt {H H' : Hp} {a : Addr} {t : Tab} (h : IsTab H a t) (k : KT H H') : IsTab H' a t := by
  obtain ⟨as, h1, h2⟩ := h
  exact ⟨as, k _ _ h1, rows_kt h2 k⟩
theorem tabs_kt {H H' : Hp} {as : List Addr} {ts : List Tab} (h : Paired (IsTab H) as ts) (k : KT H H') : Paired (IsTab H') as ts := Paired.mapP h fun _ _ z => z.kt k
theorem KT.new {H : Hp} {p : Addr} {o : HO} (h : H p = none) : KT H (upd H p o) := fun b xs e => by
  rw [upd_ne (ne_of_none e h)]
  exact e
theorem KT.mut {H : Hp} {p : Addr} {o o' : HO} (h : H p = some o) (n : ∀ xs, o ≠ .tup xs) : KT H (upd H p o') := fun b xs e => by
  have hb : b ≠ p := fun z => by
    rw [z, h] at e
    exact n xs (Option.some.inj e)
  rw [upd_ne hb]
  exact e

/-! ### what a call leaves -/
/-- all that stood stands, but the tables of code objects, which grow -/
structure Ext (T : List (Addr × Str)) (H H' : Hp) : Prop where
  keep : ∀ b o, H b = some o → (∀ ps, o ≠ .tbl ps) → H' b = some o
  dom : ∀ b, H b ≠ none → H' b ≠ none
  tabs : Tabs T H → Tabs T H'
section
variable {T : List (Addr × Str)} {H H0 H1 H' : Hp} {p : Addr} {o o' : HO}
theorem Ext.refl (T : List (Addr × Str)) (H : Hp) : Ext T H H := ⟨fun _ _ h _ => h, fun _ h => h, fun h => h⟩
theorem Ext.trans (a : Ext T H H1) (b : Ext T H1 H') : Ext T H H' :=
  ⟨fun c o h n => b.keep c o (a.keep c o h n) n, fun c h => b.dom c (a.dom c h), fun h => b.tabs (a.tabs h)⟩
theorem Ext.same (s : Same H H') : Ext T H H' :=
  ⟨fun b o h _ => s b o h, fun b h => by
    cases e : H b with
    | none => exact absurd e h
    | some o => rw [s b o e]; simp, fun h => h.ext s⟩
theorem Ext.new (h : H p = none) : Ext T H (upd H p o) := Ext.same fun b o' e => by
  rw [upd_ne (ne_of_none e h)]
  exact e
theorem Ext.add (e : Ext T H0 H) (h : H p = none) : Ext T H0 (upd H p o) := e.trans (.new h)
theorem Ext.kt (e : Ext T H H') : KT H H' := fun b xs h => e.keep b _ h fun ps z => nomatch z
theorem Ext.lst (e : Ext T H H') {xs : List V} (h : H p = some (.lst xs)) : H' p = some (.lst xs) := e.keep p _ h fun ps z => nomatch z
theorem Ext.tup (e : Ext T H H') {xs : List V} (h : H p = some (.tup xs)) : H' p = some (.tup xs) := e.keep p _ h fun ps z => nomatch z
theorem Ext.ext (e : Ext T H H') {f : Heap → Prop} (h : H p = some (.ext f)) : H' p = some (.ext f) := e.keep p _ h fun ps z => nomatch z
theorem Ext.row (e : Ext T H H') {r : Row} (h : IsRow H p r) : IsRow H' p r := h.kt e.kt
theorem Ext.tab (e : Ext T H H') {t : Tab} (h : IsTab H p t) : IsTab H' p t := h.kt e.kt
theorem Ext.free (e : Ext T H H') (h : H' p = none) : H p = none := by
  cases q : H p with
  | none => rfl
  | some o => exact absurd h (e.dom p (by rw [q]; simp))
theorem Ext.ne (e : Ext T H H') (h : H p ≠ none) {q : Addr} (hq : H' q = none) : p ≠ q := fun z => e.dom p h (by rw [z]; exact hq)
theorem Ext.sql {K : PySem.W.Frag} (e : Ext T H H') {xs : List V} (h : SqL K H p xs) : SqL K H' p xs := by
  rcases h with (h | ⟨o, h⟩) | h
  · exact .inl (.inl (e.lst h))
  · exact .inl (.inr ⟨o, e.keep _ _ h fun ps z => nomatch z⟩)
  · exact .inr h
/-- what may be written while the tables stand -/
def Soft (o : HO) : Prop := (∀ ps, o ≠ .tbl ps) ∧ ∀ c q, o ≠ CodeO c q
theorem soft_lst (xs : List V) : Soft (.lst xs) := ⟨fun _ z => (nomatch z), fun c q z => by
  unfold CodeO at z
  cases z⟩
theorem tabs_mut (h : H p = some o) (so : Soft o) (t : Tabs T H) : Tabs T (upd H p o') := fun x hx => by
  obtain ⟨ps, h1, h2, h3⟩ := t x hx
  have n1 : x.1 ≠ p := fun z => by
    rw [z, h] at h1
    exact so.1 ps (Option.some.inj h1)
  refine ⟨ps, by rw [upd_ne n1]; exact h1, h2, fun pos cv hc => ?_⟩
  obtain ⟨c, e1, e2⟩ := h3 pos cv hc
  have n2 : c ≠ p := fun z => by
    rw [z, h] at e2
    exact so.2 p _ (Option.some.inj e2)
  exact ⟨c, e1, by rw [upd_ne n2]; exact e2⟩
/-- a thing of ours is written -/
theorem Ext.mut (e : Ext T H0 H) (h0 : H0 p = none) (h : H p = some o) (so : Soft o) : Ext T H0 (upd H p o') := by
  refine ⟨fun b u hb n => ?_, fun b hb => ?_, fun t => tabs_mut h so (e.tabs t)⟩
  · rw [upd_ne (ne_of_none hb h0)]
    exact e.keep b u hb n
  · by_cases z : b = p
    · rw [z, upd_same]
      simp
    · rw [upd_ne z]
      exact e.dom b hb
theorem Ext.mutL (e : Ext T H0 H) (h0 : H0 p = none) {xs : List V} (h : H p = some (.lst xs)) : Ext T H0 (upd H p o') := e.mut h0 h (soft_lst xs)
end
/-- the same, but the one at q, which is written -/
structure ExtX (T : List (Addr × Str)) (q : Addr) (H H' : Hp) : Prop where
  keep : ∀ b o, b ≠ q → H b = some o → (∀ ps, o ≠ .tbl ps) → H' b = some o
  dom : ∀ b, H b ≠ none → H' b ≠ none
  tabs : Tabs T H → Tabs T H'
section
variable {T : List (Addr × Str)} {H H0 H1 H' : Hp} {p q : Addr} {o o' : HO}
theorem ExtX.refl (T : List (Addr × Str)) (q : Addr) (H : Hp) : ExtX T q H H := ⟨fun _ _ _ h _ => h, fun _ h => h, fun h => h⟩
theorem ExtX.trans (a : ExtX T q H H1) (b : ExtX T q H1 H') : ExtX T q H H' :=
  ⟨fun c o z h n => b.keep c o z (a.keep c o z h n) n, fun c h => b.dom c (a.dom c h), fun h => b.tabs (a.tabs h)⟩
theorem Ext.x (e : Ext T H H') : ExtX T q H H' := ⟨fun b o _ h n => e.keep b o h n, e.dom, e.tabs⟩
theorem ExtX.mutL {xs : List V} (h : H q = some (.lst xs)) : ExtX T q H (upd H q o') := by
  refine ⟨fun b u z hb _ => by rw [upd_ne z]; exact hb, fun b hb => ?_, fun t => tabs_mut h (soft_lst xs) t⟩
  by_cases z : b = q
  · rw [z, upd_same]
    simp
  · rw [upd_ne z]
    exact hb
theorem ExtX.free (e : ExtX T q H H') (h : H' p = none) : H p = none := by
  cases z : H p with
  | none => rfl
  | some o => exact absurd h (e.dom p (by rw [z]; simp))
/-- where it stood not yet, all that stood stands -/
theorem ExtX.ext (e : Ext T H0 H) (h0 : H0 q = none) (x : ExtX T q H H') : Ext T H0 H' :=
  ⟨fun b o h n => x.keep b o (ne_of_none h h0) (e.keep b o h n) n, fun b h => x.dom b (e.dom b h), fun t => x.tabs (e.tabs t)⟩
theorem ExtX.kt {xs : List V} (h : H q = some (.lst xs)) (e : ExtX T q H H') : KT H H' := fun b ys hb => e.keep b _ (fun z => by
  rw [z, h] at hb
  cases hb) hb fun ps z => nomatch z
end
end K5
namespace K5
open PySem PySem.Spec PyProof.Rows L2 LamX

/-! ### tables as keys -/
def tabN (t : Tab) : NestedKey := .tup (t.map fun r => .tup (r.map .num))
theorem nums_inj : ∀ a b : List Int, a.map NestedKey.num = b.map NestedKey.num → a = b
  | [], [], _ => rfl
  | [], _ :: _, e => by simp at e
  | _ :: _, [], e => by simp at e
  | x :: xs, y :: ys, e => by
    rw [List.map_cons, List.map_cons] at e
    injection e with e1 e2
    injection e1 with e1
    rw [e1, nums_inj xs ys e2]
theorem rowsN_inj : ∀ a b : Tab, (a.map fun r => NestedKey.tup (r.map .num)) = (b.map fun r => NestedKey.tup (r.map .num)) → a = b
  | [], [], _ => rfl
  | [], _ :: _, e => by simp at e
  | _ :: _, [], e => by simp at e
  | x :: xs, y :: ys, e => by
    rw [List.map_cons, List.map_cons] at e
    injection e with e1 e2
    injection e1 with e1
    rw [nums_inj x y e1, rowsN_inj xs ys e2]
theorem tabN_inj {a b : Tab} (e : tabN a = tabN b) : a = b := by
  unfold tabN at e
  injection e with e
  exact rowsN_inj a b e
theorem nums_depth : ∀ r : Row, NestedKey.depthAll (r.map .num) = 0
  | [] => by simp [NestedKey.depthAll]
  | x :: xs => by simp [NestedKey.depthAll, NestedKey.depth, nums_depth xs]
theorem rowsN_depth : ∀ t : Tab, NestedKey.depthAll (t.map fun r => NestedKey.tup (r.map .num)) ≤ 1
  | [] => by simp [NestedKey.depthAll]
  | x :: xs => by
    have := rowsN_depth xs
    simp only [List.map_cons, NestedKey.depthAll, NestedKey.depth, nums_depth x]
    omega
theorem tabN_depth (t : Tab) : (tabN t).depth ≤ 8 := by
  have := rowsN_depth t
  simp only [tabN, NestedKey.depth]
  omega
def tabKind (P : Program) (w : World) : HeapKind P w Tab where
  is := fun h t a => (nestedKind P w).is h (tabN t) a
  hash := fun t => (nestedKind P w).hash (tabN t)
  draws := fun t => (nestedKind P w).draws (tabN t)
  room := (nestedKind P w).room
  inj := fun hx hy => tabN_inj ((nestedKind P w).inj hx hy)
  keeps := fun x ho hd hs => (nestedKind P w).keeps x ho hd hs
  pyHash := fun hu hk h => (nestedKind P w).pyHash hu hk h
  eqBool := fun {A E s x y a b Q} hu hx hy h => (nestedKind P w).eqBool hu hx hy (by
    have e : decide (tabN x = tabN y) = decide (x = y) := by
      by_cases z : x = y
      · rw [z]; simp
      · rw [decide_eq_false z, decide_eq_false fun q => z (tabN_inj q)]
    rw [e]
    exact h)
  quiet := fun hk h => (nestedKind P w).quiet hk h
section
variable {P : Program} {w : World} {H : Hp} {h : Heap} {a : Addr}
theorem nums_are : ∀ {r : Row} {us : List Value}, Vals (r.map V.int) us → NestedAll h (r.map .num) us
  | [], _, q => by
    rw [List.map_nil] at q
    cases q
    exact .nil
  | x :: xs, _, q => by
    rw [List.map_cons] at q
    cases q with
    | cons q1 q2 =>
      obtain ⟨t, rfl⟩ := q1
      exact .cons (.int _ _) (nums_are q2)
theorem row_is (ok : HOk P w H h) {r : Row} (e : IsRow H a r) : NestedIs h (.tup (r.map .num)) (.ref a) := by
  obtain ⟨_, its, q, o, h1, h2, n, h3⟩ := (show ObjOk P w H h a (.tup (r.map V.int)) from ok a _ e)
  exact .tup h1 h2 h3 (by simpa using nums_are q)
theorem rows_are (ok : HOk P w H h) : ∀ {as : List Addr} {t : Tab} {us : List Value}, Paired (IsRow H) as t → Vals (as.map V.ref) us → NestedAll h (t.map fun r => .tup (r.map .num)) us
  | [], _, _, p, q => by
    rw [List.map_nil] at q
    cases p
    cases q
    exact .nil
  | b :: bs, _, _, p, q => by
    rw [List.map_cons] at q
    cases p with
    | cons p1 p2 =>
      cases q with
      | cons q1 q2 =>
        cases q1
        exact .cons (row_is ok p1) (rows_are ok p2 q2)
theorem tab_key (ok : HOk P w H h) {t : Tab} (e : IsTab H a t) : (tabKind P w).is h t a := by
  obtain ⟨as, e1, p⟩ := e
  obtain ⟨_, its, q, o, h1, h2, n, h3⟩ := (show ObjOk P w H h a (.tup (as.map V.ref)) from ok a _ e1)
  exact ⟨.tup h1 h2 h3 (by simpa using rows_are ok p q), tabN_depth t⟩
end

/-! ### a dict with tables as keys -/
/-- its entries: the key, the key's address, the value -/
abbrev DnL := List (Tab × Addr × V)
def EnR (p : Tab × Addr × V) (q : Tab × Addr × Value) : Prop := p.1 = q.1 ∧ p.2.1 = q.2.1 ∧ RelV p.2.2 q.2.2
def DnR (P : Program) (w : World) (d : Addr) (L : DnL) (h : Heap) : Prop := (d == sysModules) = false ∧ L.length ≤ sizeLine ∧ ∃ xs : List (Tab × Addr × Value), Paired EnR L xs ∧
  ∃ o es ep, h.get? d = some o ∧ o.ExactDict ∧ o.data = .dict es ep ∧ es.toList = xs.map (entryOfKey (tabKind P w)) ∧ (xs.map (·.1)).Nodup
def DnO (P : Program) (w : World) (d : Addr) (L : DnL) : HO := .ext (DnR P w d L)
theorem dnO_ok {P : Program} {w : World} {H : Hp} {h : Heap} {d : Addr} {L : DnL} (z : DnR P w d L h) : ObjOk P w H h d (DnO P w d L) := by
  refine ⟨z, ?_, fun h1 h2 z k => ?_⟩
  · obtain ⟨_, _, _, _, o, _, _, e, _⟩ := z
    exact ⟨o, e⟩
  · obtain ⟨z1, z2, xs, r, o, es, ep, e, c⟩ := z
    exact ⟨z1, z2, xs, r, o, es, ep, k o e, c⟩
theorem dnO_soft (P : Program) (w : World) (d : Addr) (L : DnL) : Soft (DnO P w d L) := by
  refine ⟨fun ps z => (nomatch z), fun c q z => ?_⟩
  unfold DnO CodeO at z
  have z' := HO.ext.inj z
  have big : ∃ h : Heap, ∀ b, b ≤ c → h.get? b = some { cls := .none, data := .fields #[.none, .str q 0] } ∧ ∀ b, ∀ o, h.get? b = some o → o = { cls := .none, data := .fields #[.none, .str q 0] } := by
    refine ⟨{ objs := Array.replicate (c + 1) { cls := .none, data := .fields #[.none, .str q 0] } }, fun b hb => ⟨?_, fun b o e => ?_⟩⟩
    · unfold Heap.get?
      have : b < c + 1 := Nat.lt_succ_of_le hb
      simp [this, Obj.isFreed]
    · unfold Heap.get? at e
      by_cases hb : b < c + 1
      · simp [hb, Obj.isFreed] at e
        exact e.symm
      · simp [hb] at e
  obtain ⟨h, hh⟩ := big
  have t : (∃ (oc : Obj) (vs : Array Value) (t : Tok), h.get? c = some oc ∧ oc.data = .fields vs ∧ vs[1]? = some (.str q t)) := ⟨_, _, 0, (hh c (Nat.le_refl _)).1, rfl, rfl⟩
  have z2 := congrFun z' h
  rw [← z2] at t
  obtain ⟨_, _, xs, _, o, es, ep, e, _, e2, _⟩ := t
  have := (hh c (Nat.le_refl _)).2 d o e
  rw [this] at e2
  cases e2
/-- the dict at d may be read: keys and values -/
def DictN (P : Program) (w : World) (H : Hp) (d : Addr) (kvs : List (Tab × V)) : Prop := ∃ L : DnL, Rd H d (DnO P w d L) ∧ kvs = L.map (fun x => (x.1, x.2.2)) ∧ ∀ x ∈ L, IsTab H x.2.1 x.1
/-- it may be written -/
def DictW (P : Program) (w : World) (H : Hp) (d : Addr) (kvs : List (Tab × V)) : Prop := ∃ L : DnL, H d = some (DnO P w d L) ∧ kvs = L.map (fun x => (x.1, x.2.2)) ∧ ∀ x ∈ L, IsTab H x.2.1 x.1
theorem DictW.n {P : Program} {w : World} {H : Hp} {d : Addr} {kvs : List (Tab × V)} (x : DictW P w H d kvs) : DictN P w H d kvs := let ⟨L, h, r⟩ := x; ⟨L, .inl h, r⟩
theorem DictW.ext {P : Program} {w : World} {T : List (Addr × Str)} {H H' : Hp} {d : Addr} {kvs : List (Tab × V)} (x : DictW P w H d kvs) (e : Ext T H H') : DictW P w H' d kvs := by
  obtain ⟨L, h, r, k⟩ := x
  exact ⟨L, e.ext h, r, fun y hy => e.tab (k y hy)⟩
theorem DictN.ext {P : Program} {w : World} {T : List (Addr × Str)} {H H' : Hp} {d : Addr} {kvs : List (Tab × V)} (x : DictN P w H d kvs) (e : Ext T H H') : DictN P w H' d kvs := by
  obtain ⟨L, h, r, k⟩ := x
  refine ⟨L, ?_, r, fun y hy => e.tab (k y hy)⟩
  rcases h with h | ⟨o, h⟩
  · exact .inl (e.ext h)
  · exact .inr ⟨o, e.keep _ _ h fun ps z => nomatch z⟩

section
variable {κ : Type} [DecidableEq κ]
theorem enr_val {L : DnL} {xs : List (Tab × Addr × Value)} (r : Paired EnR L xs) (k : Tab) : RelO (valV (L.map fun x => (x.1, x.2.2)) k) ((atKey xs k).map (·.2)) := by
  induction r with
  | nil => exact True.intro
  | @cons p q ps qs h t ih =>
    obtain ⟨h1, _, h2⟩ := h
    rw [List.map_cons]
    by_cases e : p.1 = k
    · have b : atKey (q :: qs) k = some q.2 := by simp [atKey, List.find?_cons, h1.symm.trans e]
      rw [valV_pos (p := (p.1, p.2.2)) e, b]; exact h2
    · have e' : ¬ q.1 = k := fun z => e (h1.trans z)
      have b : atKey (q :: qs) k = atKey qs k := by simp [atKey, List.find?_cons, e']
      rw [valV_neg (p := (p.1, p.2.2)) e, b]; exact ih
/-- the entries behind d[k] = v -/
def putL (L : DnL) (k : Tab) (a : Addr) (v : V) : DnL := if (L.any fun x => decide (x.1 = k)) = true then L.map (fun x => if x.1 = k then (x.1, x.2.1, v) else x) else L ++ [(k, a, v)]
theorem putL_kvs (L : DnL) (k : Tab) (a : Addr) (v : V) : (putL L k a v).map (fun x => (x.1, x.2.2)) = putK (L.map fun x => (x.1, x.2.2)) k v := by
  unfold putL putK
  have e : ((L.map fun x => (x.1, x.2.2)).any fun kv => decide (kv.1 = k)) = L.any fun x => decide (x.1 = k) := by rw [List.any_map]; rfl
  rw [e]
  split
  · rw [List.map_map, List.map_map]
    refine List.map_congr_left fun x _ => ?_
    by_cases h : x.1 = k <;> simp [h]
  · simp
theorem enr_map {L : DnL} {xs : List (Tab × Addr × Value)} (r : Paired EnR L xs) (k : Tab) {v : V} {u : Value} (rv : RelV v u) : Paired EnR (L.map fun x => if x.1 = k then (x.1, x.2.1, v) else x) (xs.map (putAt k u)) := by
  induction r with
  | nil => exact .nil
  | @cons p q ps qs h t ih =>
    rw [List.map_cons, List.map_cons]
    refine .cons ?_ ih
    obtain ⟨h1, h2, h3⟩ := h
    unfold putAt
    by_cases e : p.1 = k
    · rw [if_pos e, if_pos (h1.symm.trans e)]; exact ⟨h1, h2, rv⟩
    · rw [if_neg e, if_neg fun z => e (h1.trans z)]; exact ⟨h1, h2, h3⟩
theorem enr_put {L : DnL} {xs : List (Tab × Addr × Value)} (r : Paired EnR L xs) (k : Tab) (a : Addr) {v : V} {u : Value} (rv : RelV v u) : Paired EnR (putL L k a v) (storedH xs k a u) := by
  have e : (L.any fun x => decide (x.1 = k)) = (atKey xs k).isSome := by
    have q := (enr_val r k).isSome_eq
    rw [Option.isSome_map, ← valV_any, List.any_map] at q
    exact q
  unfold putL storedH
  rw [e]
  split
  · exact enr_map r k rv
  · exact Paired.snoc r ⟨rfl, rfl, rv⟩
theorem putL_len (L : DnL) (k : Tab) (a : Addr) (v : V) : (putL L k a v).length ≤ L.length + 1 := by
  unfold putL
  split <;> simp
theorem putL_mem {L : DnL} {k : Tab} {a : Addr} {v : V} {x : Tab × Addr × V} (h : x ∈ putL L k a v) : (∃ y ∈ L, y.1 = x.1 ∧ y.2.1 = x.2.1) ∨ (x.1 = k ∧ x.2.1 = a) := by
  unfold putL at h
  split at h
  · obtain ⟨y, hy, e⟩ := List.mem_map.mp h
    refine .inl ⟨y, hy, ?_⟩
    rw [← e]
    split <;> exact ⟨rfl, rfl⟩
  · rcases List.mem_append.mp h with h | h
    · exact .inl ⟨x, h, rfl, rfl⟩
    · have e : x = (k, a, v) := by simpa using h
      rw [e]
      exact .inr ⟨rfl, rfl⟩
end

section
variable {P : Program} {w : World} {H : Hp} {h : Heap} {d : Addr} {L : DnL}
/-- the library's telling -/
theorem dn_of (ok : HOk P w H h) (e : Rd H d (DnO P w d L)) (k : ∀ x ∈ L, IsTab H x.2.1 x.1) : (d == sysModules) = false ∧ L.length ≤ sizeLine ∧ ∃ xs, Paired EnR L xs ∧ h.DictOfH (tabKind P w) d xs := by
  obtain ⟨⟨z1, z2, xs, r, o, es, ep, e1, e2, e3, e4, e5⟩, _, _⟩ := (show ObjOk P w H h d (DnO P w d L) from e.ok ok)
  refine ⟨z1, z2, xs, r, o, es, ep, e1, e2, e3, e4, ?_, e5⟩
  have all : ∀ {l : DnL} {m : List (Tab × Addr × Value)}, Paired EnR l m → (∀ x ∈ l, IsTab H x.2.1 x.1) → ∀ y ∈ m, (tabKind P w).is h y.1 y.2.1 := by
    intro l m q
    induction q with
    | nil => intro _ y hy; exact nomatch hy
    | @cons p q ps qs hq t ih =>
      intro kk y hy
      rcases List.mem_cons.mp hy with e | hy
      · subst e
        have := tab_key ok (kk p List.mem_cons_self)
        rw [hq.1, hq.2.1] at this
        exact this
      · exact ih (fun x hx => kk x (List.mem_cons_of_mem _ hx)) y hy
  exact all r k
theorem dn_back {xs : List (Tab × Addr × Value)} (z1 : (d == sysModules) = false) (z2 : L.length ≤ sizeLine) (r : Paired EnR L xs) (m : h.DictOfH (tabKind P w) d xs) : DnR P w d L h := by
  obtain ⟨o, es, ep, e1, e2, e3, e4, _, e5⟩ := m
  exact ⟨z1, z2, xs, r, o, es, ep, e1, e2, e3, e4, e5⟩
end
theorem KTmut {P : Program} {w : World} {H : Hp} {d : Addr} {L : DnL} {o : HO} (h : H d = some (DnO P w d L)) : KT H (upd H d o) := KT.mut h fun xs z => nomatch z

section
variable {X : Cx} {pins : List (Addr × Obj)} {σ : L2.St} {H : Hp} {s : Shared} {d a : Addr} {kvs : List (Tab × V)} {t : Tab} {v : V} {u r : Value} {A : Around} {E : Value → Shared → Prop}
theorem n_getItem {Q : Value → Shared → Prop} (hu : A.units + 64 < cLine) (I : Inv X pins σ H s) (g : DictN X.prog X.w H d kvs) (ht : IsTab H a t) (hv : valV kvs t = some v) (h : ∀ w' s', Inv X pins σ H s' → RelV v w' → Q w' s') :
    wpAny (model X.prog X.w) A (getItem (.ref d) (.ref a)) Q E s := by
  obtain ⟨L, e, e2, k⟩ := g
  obtain ⟨z1, z2, xs, r, m⟩ := dn_of I.hok e k
  subst e2
  obtain ⟨w', hw, rw'⟩ := RelO.some_of (v := v) (o := (atKey xs t).map (·.2)) (by rw [← hv]; exact enr_val r t)
  obtain ⟨p, hp, hp2⟩ := Option.map_eq_some_iff.mp hw
  refine wpAny_getItem_heap (knd := tabKind X.prog X.w) (show A.units + 1 + 8 < cLine by omega) (tab_key I.hok ht) m hp ?_
  rw [hp2]
  exact h w' _ (I.tok _) rw'
theorem n_in {Q : Value → Shared → Prop} (hu : A.units + 64 < cLine) (I : Inv X pins σ H s) (g : DictN X.prog X.w H d kvs) (ht : IsTab H a t) (h : ∀ s', Inv X pins σ H s' → Q (.bool (valV kvs t).isSome) s') :
    wpAny (model X.prog X.w) A (compareOp .In (.ref a) (.ref d)) Q E s := by
  obtain ⟨L, e, e2, k⟩ := g
  obtain ⟨z1, z2, xs, r, m⟩ := dn_of I.hok e k
  subst e2
  refine wpAny_in_heap (knd := tabKind X.prog X.w) (show A.units + 1 + 8 < cLine by omega) (tab_key I.hok ht) z1 m ?_
  have q := (enr_val r t).isSome_eq
  rw [Option.isSome_map] at q
  rw [← q]
  exact h _ (I.tok _)
theorem n_notIn {Q : Value → Shared → Prop} (hu : A.units + 64 < cLine) (I : Inv X pins σ H s) (g : DictN X.prog X.w H d kvs) (ht : IsTab H a t) (h : ∀ s', Inv X pins σ H s' → Q (.bool (!(valV kvs t).isSome)) s') :
    wpAny (model X.prog X.w) A (compareOp .NotIn (.ref a) (.ref d)) Q E s := by
  obtain ⟨L, e, e2, k⟩ := g
  obtain ⟨z1, z2, xs, r, m⟩ := dn_of I.hok e k
  subst e2
  refine wpAny_notIn_heap (knd := tabKind X.prog X.w) (show A.units + 1 + 8 < cLine by omega) (tab_key I.hok ht) z1 m ?_
  have q := (enr_val r t).isSome_eq
  rw [Option.isSome_map] at q
  rw [← q]
  exact h _ (I.tok _)
/-- the entries are written -/
theorem n_wrote {h' : Heap} {t' : Nat} {L : DnL} {xs : List (Tab × Addr × Value)} (I : Inv X pins σ H s) (e : H d = some (DnO X.prog X.w d L)) (k : ∀ x ∈ L, IsTab H x.2.1 x.1) (hz : L.length < sizeLine) (z1 : (d == sysModules) = false) (r : Paired EnR L xs) (ht : IsTab H a t) (rv : RelV v u)
    (m : h'.DictOfH (tabKind X.prog X.w) d (storedH xs t a u)) (sb : Heap.SameBut d s.heap h') :
    Inv X pins σ (upd H d (DnO X.prog X.w d (putL L t a v))) { s with heap := h', toks := t' } ∧ DictW X.prog X.w (upd H d (DnO X.prog X.w d (putL L t a v))) d (putK (L.map fun x => (x.1, x.2.2)) t v) := by
  have he : ∃ q, h'.get? d = some q := let ⟨q, _, _, hq, _⟩ := m; ⟨q, hq⟩
  have hl := putL_len L t a v
  refine ⟨I.write (x := d) (e := d) (by rw [e]; exact True.intro) (.inl rfl) (fun b q hb z => (sb.2 b hb).trans z) he (dnO_ok (dn_back z1 (by omega) (enr_put r t a rv) m)), putL L t a v, upd_same, (putL_kvs L t a v).symm, fun x hx => ?_⟩
  rcases putL_mem hx with ⟨y, hy, e1, e2⟩ | ⟨e1, e2⟩
  · rw [← e1, ← e2]
    exact (k y hy).kt (KTmut e)
  · rw [e1, e2]
    exact ht.kt (KTmut e)
theorem n_setItem {Q : Unit → Shared → Prop} (hu : A.units + 64 < cLine) (I : Inv X pins σ H s) (g : DictW X.prog X.w H d kvs) (ht : IsTab H a t) (hz : kvs.length < sizeLine) (rv : RelV v u)
    (h : ∀ o s', DictW X.prog X.w (upd H d o) d (putK kvs t v) → Inv X pins σ (upd H d o) s' → Q () s') : wpAny (model X.prog X.w) A (setItem (.ref d) (.ref a) u) Q E s := by
  obtain ⟨L, e, e2, k⟩ := g
  obtain ⟨z1, z2, xs, r, m⟩ := dn_of I.hok (.inl e) k
  subst e2
  rw [List.length_map] at hz
  refine wpAny_setItem_heap (knd := tabKind X.prog X.w) (hsz := by rw [← Paired.length r]; exact z2) (show A.units + 1 + 8 < cLine by omega) (tab_key I.hok ht) m fun h' m' sb => ?_
  obtain ⟨I', D'⟩ := n_wrote (t' := s.toks + (tabKind X.prog X.w).draws t) I e k hz z1 r ht rv m' sb
  exact h _ _ D' I'
theorem n_dictSet {Q : Unit → Shared → Prop} (hu : A.units + 64 < cLine) (I : Inv X pins σ H s) (g : DictW X.prog X.w H d kvs) (ht : IsTab H a t) (hz : kvs.length < sizeLine) (rv : RelV v u)
    (h : ∀ o s', DictW X.prog X.w (upd H d o) d (putK kvs t v) → Inv X pins σ (upd H d o) s' → Q () s') : wpAny (model X.prog X.w) A (dictSet d (.ref a) u) Q E s := by
  obtain ⟨L, e, e2, k⟩ := g
  obtain ⟨z1, z2, xs, r, m⟩ := dn_of I.hok (.inl e) k
  subst e2
  rw [List.length_map] at hz
  refine wpAny_dictSet_heap (knd := tabKind X.prog X.w) (hsz := by rw [← Paired.length r]; exact z2) (show A.units + 8 < cLine by omega) (tab_key I.hok ht) m fun h' m' sb => ?_
  obtain ⟨I', D'⟩ := n_wrote (t' := s.toks + (tabKind X.prog X.w).draws t) I e k hz z1 r ht rv m' sb
  exact h _ _ D' I'
theorem n_get1 {Q : Value → Shared → Prop} (hu : A.units + 64 < cLine) (I : Inv X pins σ H s) (g : DictN X.prog X.w H d kvs) (ht : IsTab H a t) (h : ∀ w' s', Inv X pins σ H s' → RelV ((valV kvs t).getD .non) w' → Q w' s') :
    wpAny (model X.prog X.w) A (call (.builtin "dict.get") [.ref d, .ref a]) Q E s := by
  obtain ⟨L, e, e2, k⟩ := g
  obtain ⟨z1, z2, xs, r, m⟩ := dn_of I.hok e k
  subst e2
  exact call_meetsIn PySem.F.slot_dict_get m.typeIs PySem.F.entry_dict_get (PySem.F.args_dict_get_2 _ _) (meetsH_dict_get (tabKind X.prog X.w) d a z1) ⟨show A.units + 1 + 8 < cLine by omega, t, xs, tab_key I.hok ht, m, h _ _ (I.tok _) ((enr_val r t).getD rfl)⟩
theorem n_get2 {Q : Value → Shared → Prop} (hu : A.units + 64 < cLine) (I : Inv X pins σ H s) (g : DictN X.prog X.w H d kvs) (ht : IsTab H a t) (rd : RelV v r) (h : ∀ w' s', Inv X pins σ H s' → RelV ((valV kvs t).getD v) w' → Q w' s') :
    wpAny (model X.prog X.w) A (call (.builtin "dict.get") [.ref d, .ref a, r]) Q E s := by
  obtain ⟨L, e, e2, k⟩ := g
  obtain ⟨z1, z2, xs, rr, m⟩ := dn_of I.hok e k
  subst e2
  exact call_meetsIn PySem.F.slot_dict_get m.typeIs PySem.F.entry_dict_get (PySem.F.args_dict_get_3 _ _ _) (meetsH_dict_get_default (tabKind X.prog X.w) d a z1 r) ⟨show A.units + 1 + 8 < cLine by omega, t, xs, tab_key I.hok ht, m, h _ _ (I.tok _) ((enr_val rr t).getD rd)⟩
theorem n_at (I : Inv X pins σ H s) (g : DictN X.prog X.w H d kvs) : s.TypeIs (.ref d) "dict" ∧ (∀ b, Value.ref d = .ref b → ∃ ob, s.heap.get? b = some ob ∧ ob.dict = none) := by
  obtain ⟨L, e, e2, k⟩ := g
  obtain ⟨z1, z2, xs, rr, m⟩ := dn_of I.hok e k
  refine ⟨m.typeIs, fun b q => ?_⟩
  cases q
  obtain ⟨ob, _, _, h1, h2, _⟩ := m
  exact ⟨ob, h1, h2.2.1⟩
theorem n_len {Q : Value → Shared → Prop} (I : Inv X pins σ H s) (g : DictN X.prog X.w H d kvs) (h : ∀ t s', Inv X pins σ H s' → Q (.int kvs.length t) s') : wpAny (model X.prog X.w) A (call (.builtin "len") [.ref d]) Q E s := by
  obtain ⟨L, e, e2, k⟩ := g
  obtain ⟨z1, z2, xs, rr, m⟩ := dn_of I.hok e k
  subst e2
  have hl : L.length = xs.length := Paired.length rr
  refine call_len_dictH (knd := tabKind X.prog X.w) z1 m (by rw [← hl]; rw [sizeLine_eq] at z2; omega) ?_
  rw [List.length_map] at h
  rw [← hl]
  exact h _ _ (I.tok _)
end

/-! ### readings and rules -/
section
variable {X : Cx} {o i e f value : Expr} {pos pos' tpos apos cpos : Pos} {td ty tv tx : TE}
abbrev DN (X : Cx) (H : Hp) (d : Addr) (kvs : List (Tab × V)) : Prop := DictN X.prog X.w H d kvs
abbrev DW (X : Cx) (H : Hp) (d : Addr) (kvs : List (Tab × V)) : Prop := DictW X.prog X.w H d kvs
/-- d[k] -/
def tNGet (P : Program) (w : World) (td ty : TE) : TE := fun σ H Q => td σ H fun x H1 => ty σ H1 fun y H2 => ∃ d a kvs t v, x = .ref d ∧ y = .ref a ∧ DictN P w H2 d kvs ∧ IsTab H2 a t ∧ valV kvs t = some v ∧ Q v H2
theorem pe_nget (hu : X.A.units + 64 < cLine) (ho : PE X o td) (hi : PE X i ty) (hs : NoSl i) : PE X (.Subscript o i pos) (tNGet X.prog X.w td ty) := by
  refine ⟨fun pins s σ H Q I h => ?_⟩
  refine subD_of PySem.F.slot_dict_getitem.lookup hs (thn (ho.run pins s σ H _ I h) fun u s1 ⟨x, H1, I1, rx, q1⟩ => thn (hi.run pins s1 σ H1 _ I1 q1) fun iv s2 ⟨y, H2, I2, ry, d, a, kvs, t, v, ex, ey, g, ht, hv, q2⟩ => ?_)
  subst ex ey
  obtain rfl : u = Value.ref d := rx
  obtain rfl : iv = Value.ref a := ry
  exact ⟨(n_at I2 g).1, n_getItem hu I2 g ht hv fun w' s3 I3 rw' => ⟨v, H2, I3, rw', q2⟩⟩
def tNIn (P : Program) (w : World) (neg : Bool) (ty td : TE) : TE := fun σ H Q => ty σ H fun y H1 => td σ H1 fun x H2 => ∃ d a kvs t, x = .ref d ∧ y = .ref a ∧ DictN P w H2 d kvs ∧ IsTab H2 a t ∧ Q (.bl (if neg = true then !(valV kvs t).isSome else (valV kvs t).isSome)) H2
theorem pc_nin (hu : X.A.units + 64 < cLine) (hi : PE X i ty) (ho : PE X o td) : PC X .In i o (tNIn X.prog X.w false ty td) := by
  refine ⟨fun pins s σ H Q I h => ?_⟩
  refine thn (hi.run pins s σ H _ I h) fun iv s1 ⟨y, H1, I1, ry, q1⟩ => thn (ho.run pins s1 σ H1 _ I1 q1) fun u s2 ⟨x, H2, I2, rx, d, a, kvs, t, ex, ey, g, ht, q2⟩ => ?_
  subst ex ey
  obtain rfl : u = Value.ref d := rx
  obtain rfl : iv = Value.ref a := ry
  exact n_in hu I2 g ht fun s3 I3 => ⟨.bl _, H2, I3, rfl, q2⟩
theorem pc_nnotin (hu : X.A.units + 64 < cLine) (hi : PE X i ty) (ho : PE X o td) : PC X .NotIn i o (tNIn X.prog X.w true ty td) := by
  refine ⟨fun pins s σ H Q I h => ?_⟩
  refine thn (hi.run pins s σ H _ I h) fun iv s1 ⟨y, H1, I1, ry, q1⟩ => thn (ho.run pins s1 σ H1 _ I1 q1) fun u s2 ⟨x, H2, I2, rx, d, a, kvs, t, ex, ey, g, ht, q2⟩ => ?_
  subst ex ey
  obtain rfl : u = Value.ref d := rx
  obtain rfl : iv = Value.ref a := ry
  exact n_notIn hu I2 g ht fun s3 I3 => ⟨.bl _, H2, I3, rfl, q2⟩
/-- d[k] = v -/
def sNPut (P : Program) (w : World) (td ty tv : TE) : TS := fun D σ H => tv σ H fun v H1 => td σ H1 fun x H2 => ty σ H2 fun y H3 => ∃ d a kvs t, x = .ref d ∧ y = .ref a ∧ DictW P w H3 d kvs ∧ IsTab H3 a t ∧ kvs.length < sizeLine ∧
  ∀ o, DictW P w (upd H3 d o) d (putK kvs t v) → D.nx σ (upd H3 d o)
theorem ps_nput (hu : X.A.units + 64 < cLine) (ho : PE X o td) (hi : PE X i ty) (hv : PE X value tv) (hs : swapsWith value (some (.Subscript o i pos')) pos.line X.env = pure false) :
    PS X (.Assign [.Subscript o i pos'] value pos) (sNPut X.prog X.w td ty tv) := by
  refine ⟨fun pins s σ H D I h => ?_⟩
  refine wpAny_Assign_Subscript (thn (hv.run pins s σ H _ I h) fun r s1 ⟨v, H1, I1, rv, q1⟩ => thn (ho.run pins s1 σ H1 _ I1 q1) fun u s2 ⟨x, H2, I2, rx, q2⟩ => thn (hi.run pins s2 σ H2 _ I2 q2) fun iv s3 ⟨y, H3, I3, ry, d, a, kvs, t, ex, ey, g, ht, hz, q3⟩ => ?_) hs
  subst ex ey
  obtain rfl : u = Value.ref d := rx
  obtain rfl : iv = Value.ref a := ry
  exact n_setItem hu I3 g ht hz rv fun o s4 D4 I4 => ⟨σ, _, I4, q3 o D4⟩
/-- d[k] += n, ints -/
def sNAug (P : Program) (w : World) (td ty tv : TE) : TS := fun D σ H => td σ H fun x H1 => ty σ H1 fun y H2 => ∃ d a kvs t n, x = .ref d ∧ y = .ref a ∧ DictN P w H2 d kvs ∧ IsTab H2 a t ∧ valV kvs t = some (.int n) ∧
  tv σ H2 fun z H3 => ∃ m, z = .int m ∧ DictW P w H3 d kvs ∧ IsTab H3 a t ∧ kvs.length < sizeLine ∧ ∀ o, DictW P w (upd H3 d o) d (putK kvs t (.int (n + m))) → D.nx σ (upd H3 d o)
theorem ps_naug (hu : X.A.units + 64 < cLine) (ho : PE X o td) (hi : PE X i ty) (hv : PE X value tv)
    (ha : ∀ ov iv new, augStore i ov iv new = (do holding [new, ov, iv] (setItem ov iv new); release [new, ov, iv] []; pure .next)) : PS X (.AugAssign (.Subscript o i tpos) .Add value pos) (sNAug X.prog X.w td ty tv) := by
  refine ⟨fun pins s σ H D I h => ?_⟩
  refine wpAny_AugAssign_SubscriptAny (thn (ho.run pins s σ H _ I h) fun u s1 ⟨x, H1, I1, rx, q1⟩ => thn (hi.run pins s1 σ H1 _ I1 q1) fun iv s2 ⟨y, H2, I2, ry, d, a, kvs, t, n, ex, ey, g, ht, hn, q2⟩ => ?_) ha
  subst ex ey
  obtain rfl : u = Value.ref d := rx
  obtain rfl : iv = Value.ref a := ry
  refine n_getItem hu I2 g ht hn fun w' s3 I3 rw' => thn (hv.run pins s3 σ H2 _ I3 q2) fun w2 s4 ⟨y2, H3, I4, ry2, m, ez, g3, ht3, hz, q3⟩ => ?_
  subst ez
  obtain ⟨t1, rfl⟩ := rw'
  obtain ⟨t2, rfl⟩ := ry2
  refine iadd_int ?_
  exact n_setItem (v := .int (n + m)) hu (I4.tok _) g3 ht3 hz ⟨_, rfl⟩ fun o s4 D4 I4 => ⟨σ, _, I4, q3 o D4⟩
/-- d.get(k), d.get(k, x) -/
def tNGet1 (P : Program) (w : World) (td ty : TE) : TE := fun σ H Q => td σ H fun x H1 => ∃ d kvs, x = .ref d ∧ DictN P w H1 d kvs ∧ ty σ H1 fun y H2 => ∃ a t, y = .ref a ∧ DictN P w H2 d kvs ∧ IsTab H2 a t ∧ Q ((valV kvs t).getD .non) H2
def tNGet2 (P : Program) (w : World) (td ty tx : TE) : TE := fun σ H Q => td σ H fun x H1 => ∃ d kvs, x = .ref d ∧ DictN P w H1 d kvs ∧ ty σ H1 fun y H2 => tx σ H2 fun z H3 => ∃ a t, y = .ref a ∧ DictN P w H3 d kvs ∧ IsTab H3 a t ∧ Q ((valV kvs t).getD z) H3
theorem pe_nget1 (hu : X.A.units + 64 < cLine) (ho : PE X o td) (he : PE X e ty) (m : M1 X o "get" apos e cpos) : PE X (.Call (.Attribute o "get" apos) [e] [] cpos) (tNGet1 X.prog X.w td ty) := by
  refine ⟨fun pins s σ H Q I h => ?_⟩
  refine wpAny_Call_method m.base m.few m.line PySem.F.plainAttrs_dict PySem.F.slot_dict_get PySem.F.type_dict_get (thn (ho.run pins s σ H _ I h) fun u s1 ⟨x, H1, I1, rx, d, kvs, ex, g, q1⟩ => ?_)
  subst ex
  obtain rfl : u = Value.ref d := rx
  obtain ⟨t1, t2⟩ := n_at I1 g
  refine ⟨t1, t2, ?_⟩
  rw [m.trees]
  refine Calls.callWith_builtin rfl (Calls.evalArgs_plain (Calls.spliced_cons (thn (he.run pins s1 σ H1 _ I1 q1) fun iv s2 ⟨y, H2, I2, ry, a, t, ey, g2, ht, q2⟩ => Calls.spliced_nil ?_)))
  subst ey
  obtain rfl : iv = Value.ref a := ry
  exact n_get1 hu I2 g2 ht fun w' s3 I3 rw' => ⟨_, H2, I3, rw', q2⟩
theorem pe_nget2 (hu : X.A.units + 64 < cLine) (ho : PE X o td) (he : PE X e ty) (hf : PE X f tx) (m : M2 X o "get" apos e f cpos) : PE X (.Call (.Attribute o "get" apos) [e, f] [] cpos) (tNGet2 X.prog X.w td ty tx) := by
  refine ⟨fun pins s σ H Q I h => ?_⟩
  refine wpAny_Call_method m.base m.few m.line PySem.F.plainAttrs_dict PySem.F.slot_dict_get PySem.F.type_dict_get (thn (ho.run pins s σ H _ I h) fun u s1 ⟨x, H1, I1, rx, d, kvs, ex, g, q1⟩ => ?_)
  subst ex
  obtain rfl : u = Value.ref d := rx
  obtain ⟨t1, t2⟩ := n_at I1 g
  refine ⟨t1, t2, ?_⟩
  rw [m.trees]
  refine Calls.callWith_builtin rfl (Calls.evalArgs_plain (Calls.spliced_cons (thn (he.run pins s1 σ H1 _ I1 q1) fun iv s2 ⟨y, H2, I2, ry, q2⟩ => Calls.spliced_cons (thn (hf.run pins s2 σ H2 _ I2 q2) fun fv s3 ⟨z, H3, I3, rz, a, t, ey, g3, ht, q3⟩ => Calls.spliced_nil ?_))))
  subst ey
  obtain rfl : iv = Value.ref a := ry
  exact n_get2 hu I3 g3 ht rz fun w' s4 I4 rw' => ⟨_, H3, I4, rw', q3⟩
/-- len(d) -/
theorem call_nlen : CallR X (.builtin "len") (fun xs H Q => ∃ d kvs, xs = [.ref d] ∧ DictN X.prog X.w H d kvs ∧ Q (.int kvs.length) H) := by
  intro pins s σ H xs us Q I r ⟨d, kvs, ex, g, q⟩
  subst ex
  obtain ⟨u, eu, rx⟩ := vals1 r
  subst eu
  cases rx
  exact n_len I g fun t s' I' => ⟨.int kvs.length, H, I', ⟨t, rfl⟩, q⟩

/-! ### displays, comprehensions -/
theorem dn_empty (h : Heap) (hb : sysModules < h.objs.size) : DnR X.prog X.w h.objs.size [] (h.push { cls := .type "dict", data := .dict #[] }) :=
  ⟨beq_eq_false_iff_ne.mpr (Ne.symm (Nat.ne_of_lt hb)), Nat.zero_le _, [], .nil, _, #[], 0, Heap.get?_push_size _ rfl, ⟨rfl, rfl, rfl⟩, rfl, rfl, List.nodup_nil⟩
/-- a new dict at p, and nothing else -/
def NewD (P : Program) (w : World) (H : Hp) (p : Addr) (H' : Hp) : Prop := H p = none ∧ ∃ o, H' = upd H p o ∧ DictW P w H' p []
theorem newD {P : Program} {w : World} {H : Hp} {p : Addr} (h : H p = none) : NewD P w H p (upd H p (DnO P w p [])) := ⟨h, _, rfl, [], upd_same, rfl, fun _ z => nomatch z⟩
theorem n_new {pins : List (Addr × Obj)} {σ : L2.St} {H : Hp} {s : Shared} (I : Inv X pins σ H s) : Inv X pins σ (upd H s.heap.objs.size (DnO X.prog X.w s.heap.objs.size [])) { s with heap := s.heap.push { cls := .type "dict", data := .dict #[] } } :=
  I.laid (a := s.heap.objs.size) (o := DnO X.prog X.w s.heap.objs.size []) (t' := s.toks) (fun _ _ q => Heap.get?_push_of_some _ q) (Nat.le_refl _) (dnO_ok (dn_empty s.heap I.big))
/-- {} -/
def tNNew (P : Program) (w : World) : TE := fun _ H Q => ∀ p H', NewD P w H p H' → Q (.ref p) H'
theorem pe_nnew : PE X (.Dict [] [] pos) (tNNew X.prog X.w) := ⟨fun pins s σ H Q I h =>
  wpAny_Dict_empty ⟨.ref s.heap.objs.size, _, n_new I, rfl, h _ _ (newD (I.hok.fresh (Nat.le_refl _)))⟩⟩
/-- {k: v} -/
def tNOne (P : Program) (w : World) (tk tv : TE) : TE := fun σ H Q => ∀ p H0, NewD P w H p H0 → tk σ H0 fun x H1 => tv σ H1 fun y H2 => ∃ a t, x = .ref a ∧ DictW P w H2 p [] ∧ IsTab H2 a t ∧ ∀ o, DictW P w (upd H2 p o) p [(t, y)] → Q (.ref p) (upd H2 p o)
theorem pe_none1 {k v : Expr} (hu : X.A.units + 64 < cLine) (hk : PE X k ty) (hv : PE X v tv) : PE X (.Dict [some k] [v] pos) (tNOne X.prog X.w ty tv) := by
  refine ⟨fun pins s σ H Q I h => ?_⟩
  refine wpAny_Dict_any rfl rfl (by simp) (by simp) ?_
  have I0 := n_new I
  refine pairTrees_cons_walk (thn (hk.run pins _ σ _ _ I0 (h _ _ (newD (I.hok.fresh (Nat.le_refl _))))) fun u s1 ⟨x, H1, I1, rx, q1⟩ => thn (hv.run pins s1 σ H1 _ I1 q1) fun r s2 ⟨y, H2, I2, ry, a, t, ex, g, ht, q2⟩ => pairTrees_nil_walk ?_)
  subst ex
  obtain rfl : u = Value.ref a := rx
  unfold storeAll
  rw [List.forIn_cons]
  refine wpAny_bind (wpAny_bind (n_dictSet hu I2 g ht (by rw [sizeLine_eq]; decide) ry fun o s3 D3 I3 => wpAny_pure ?_))
  show wpAny _ _ (forIn [] PUnit.unit _) _ _ _
  exact wpAny_pure ⟨.ref s.heap.objs.size, _, I3, rfl, q2 o D3⟩
end
end K5
namespace K5
open PySem PySem.Spec PyProof.Rows PySem.W L2 LamX

/-! ### tables as data -/
def rowD (r : Row) : PyData := .tuple (r.map .int)
def tabD (t : Tab) : PyData := .tuple (t.map rowD)
theorem ints_read {h : Heap} : ∀ {r : Row} {us : List Value}, Vals (r.map V.int) us → ReadsAll h us (r.map .int) []
  | [], _, q => by
    rw [List.map_nil] at q
    cases q
    exact .nil
  | x :: xs, _, q => by
    rw [List.map_cons] at q
    cases q with
    | cons q1 q2 =>
      obtain ⟨t, rfl⟩ := q1
      exact .cons (.int x t) (ints_read q2)
section
variable {P : Program} {w : World} {H : Hp} {h : Heap} {a : Addr}
theorem row_read (ok : HOk P w H h) {r : Row} (e : IsRow H a r) : Reads h (.ref a) (rowD r) [] := by
  obtain ⟨_, its, q, o, h1, h2, n, h3⟩ := (show ObjOk P w H h a (.tup (r.map V.int)) from ok a _ e)
  exact .tuple h1 h2 h3 (by simpa using ints_read q)
theorem rows_read (ok : HOk P w H h) : ∀ {as : List Addr} {t : Tab} {us : List Value}, Paired (IsRow H) as t → Vals (as.map V.ref) us → ReadsAll h us (t.map rowD) []
  | [], _, _, p, q => by
    rw [List.map_nil] at q
    cases p
    cases q
    exact .nil
  | b :: bs, _, _, p, q => by
    rw [List.map_cons] at q
    cases p with
    | cons p1 p2 =>
      cases q with
      | cons q1 q2 =>
        cases q1
        exact .cons (row_read ok p1) (rows_read ok p2 q2)
theorem tab_read (ok : HOk P w H h) {t : Tab} (e : IsTab H a t) : Reads h (.ref a) (tabD t) [] := by
  obtain ⟨as, e1, p⟩ := e
  obtain ⟨_, its, q, o, h1, h2, n, h3⟩ := (show ObjOk P w H h a (.tup (as.map V.ref)) from ok a _ e1)
  exact .tuple h1 h2 h3 (by simpa using rows_read ok p q)
end

/-! ### sorted -/
/-- ys stand for bs, which read as data -/
structure Sd {β : Type} (H : Hp) (ys : List V) (bs : List β) (enc : β → PyData) (R : V → β → Prop) : Prop where
  r : Paired R ys bs
  d : ∀ {P : Program} {w : World} {h : Heap}, HOk P w H h → ∀ y b v, R y b → RelV y v → Reads h v (enc b) []
  al : AllAlike (bs.map enc)
  so : Sortable (bs.map enc)
  dp : ∀ b ∈ bs, (enc b).depth ≤ 8
theorem vals_each : ∀ {xs : List V} {us : List Value}, xs.length = us.length → (∀ (i : Nat) (x : V) (u : Value), xs[i]? = some x → us[i]? = some u → RelV x u) → Vals xs us
  | [], [], _, _ => .nil
  | [], _ :: _, e, _ => by simp at e
  | _ :: _, [], e, _ => by simp at e
  | x :: xs, u :: us, e, h => .cons (h 0 x u rfl rfl) (vals_each (by simpa using e) fun i y v h1 h2 => h (i + 1) y v (by simpa using h1) (by simpa using h2))
section
variable {β : Type} {R : V → β → Prop}
theorem each_of : ∀ {ys : List V} {vs : List Value} {bs : List β}, Paired R ys bs → Vals ys vs → EachIs (fun v b => ∃ y, RelV y v ∧ R y b) vs bs
  | [], _, _, p, q => by
    cases p
    cases q
    exact .nil
  | y :: ys, _, _, p, q => by
    cases p with
    | cons p1 p2 =>
      cases q with
      | cons q1 q2 => exact .cons ⟨y, q1, p1⟩ (each_of p2 q2)
theorem of_each : ∀ {vs : List Value} {bs : List β}, EachIs (fun v b => ∃ y, RelV y v ∧ R y b) vs bs → ∃ zs : List V, Vals zs vs ∧ Paired R zs bs
  | _, _, .nil => ⟨[], .nil, .nil⟩
  | _, _, .cons ⟨y, h1, h2⟩ t => by
    obtain ⟨zs, k1, k2⟩ := of_each t
    exact ⟨y :: zs, .cons h1 k1, .cons h2 k2⟩
end
section
variable {X : Cx} {pins : List (Addr × Obj)} {σ : L2.St} {H : Hp} {s : Shared} {A : Around} {E : Value → Shared → Prop} {β : Type} {ys : List V} {vs : List Value} {bs : List β} {enc : β → PyData} {R : V → β → Prop}
/-- the new list of the values is put in order -/
theorem sort_new {Q : Shared → Prop} (I : Inv X pins σ H s) (hu : A.units + 64 < cLine) (S : Sd H ys bs enc R) (hv : Vals ys vs) (hz : ys.length ≤ sizeLine)
    (h : ∀ zs s', Paired R zs (bs.mergeSort (dataLe false enc)) → Inv X pins σ (upd H s.heap.objs.size (.lst zs)) s' → Q s') :
    wpAny (model X.prog X.w) A (call (.builtin "list.sort") [.ref s.heap.objs.size]) (fun _ s' => Q s') E { s with heap := s.heap.push (seqObj "list" vs.toArray 0) } := by
  have ho : (s.heap.push (seqObj "list" vs.toArray 0)).get? s.heap.objs.size = some (seqObj "list" vs.toArray 0) := Heap.get?_push_size _ rfl
  have e := each_of S.r hv
  have lb : ys.length = bs.length := Paired.length S.r
  have rd : EachIs (fun v b => ∃ as, Reads (s.heap.push (seqObj "list" vs.toArray 0)) v (enc b) as ∧ s.heap.objs.size ∉ as) vs bs :=
    e.mono fun v b ⟨y, ry, rb⟩ => ⟨[], PyProof.Rows.Reads.keeps (fun _ _ q => Heap.get?_push_of_some _ q) (S.d I.hok y b v rb ry), fun z => nomatch z⟩
  refine list_sort_data (vs := vs) (s := { s with heap := s.heap.push (seqObj "list" vs.toArray 0) }) ho e rd S.al S.so (by omega) (fun b hb => by have := S.dp b hb; omega) fun out hl ho' => ?_
  obtain ⟨zs, k1, k2⟩ := of_each ho'
  obtain ⟨c, hc⟩ := sortedHeap_at (out := List.toArray out) ho
  have lz := k1.length
  refine h zs _ k2 (I.laid (t' := s.toks) (fun b u q => ?_) (Nat.le_refl _) (show ObjOk X.prog X.w _ _ _ (.lst zs) from ⟨by omega, out, c, k1, hc⟩))
  have hb : b < s.heap.objs.size := Heap.lt_size q
  rw [sortedHeap_old (Nat.ne_of_lt hb) (by rw [size_push']; exact Nat.lt_succ_of_lt hb)]
  exact Heap.get?_push_of_some _ q
/-- sorted(..), behind the collecting -/
theorem sort_rest {Q : V → Hp → Prop} (I : Inv X pins σ H s) (hu : A.units + 64 < cLine) (S : Sd H ys bs enc R) (hv : Vals ys vs) (hz : ys.length ≤ sizeLine)
    (h : ∀ p zs, H p = none → Paired R zs (bs.mergeSort (dataLe false enc)) → Q (.ref p) (upd H p (.lst zs))) :
    wpAny (model X.prog X.w) A (do let l ← newList vs; let _ ← holding [l] (call (.builtin "list.sort") [l] []); ret l) (fun fin s' => ∃ u, fin = .done (.ret u) ∧ EP X pins σ Q u s') E s := by
  refine wpAny_bind (wpAny_newList ?_ (by rw [← hv.length]; exact hz))
  refine wpAny_bind (wpAny_holding (sort_new I hu S hv hz fun zs s' p J => ?_))
  exact wpAny_pure ⟨_, rfl, .ref s.heap.objs.size, _, J, rfl, h _ zs (I.hok.fresh (Nat.le_refl _)) p⟩
/-- what a list or a tuple holds, collected -/
theorem gather {l : Addr} {T : String} {o : Obj} {n : Nat} {Q : List Value → Shared → Prop} (hT : T = "list" ∨ T = "tuple") (ho : s.heap.get? l = some o) (hc : o.cls = .type T) (hd : o.data = .seq vs.toArray n) (hz : vs.length ≤ sizeLine)
    (h : ∀ h', (∀ b u, s.heap.get? b = some u → h'.get? b = some u) → Q vs { s with heap := h' }) : wpAny (model X.prog X.w) A (collect (.ref l)) Q E s := by
  unfold collect
  refine wpAny_bind (wpAny_runValue (codeAny_builtin entry_proto_collect' (wpAny_bind (wpAny_newList (wpAny_pure ⟨Code.quiet_builtin _ (by decide +kernel), codeAny_builtin entry_list_iadd' ?_⟩)))))
  generalize hN : s.heap.objs.size = N
  have k1 : ∀ b u, s.heap.get? b = some u → (s.heap.push (seqObj "list" #[] 0)).get? b = some u := fun b u q => Heap.get?_push_of_some _ q
  have new : (s.heap.push (seqObj "list" #[] 0)).get? N = some (seqObj "list" #[] 0) := by rw [← hN]; exact Heap.get?_push_size _ rfl
  show wpAny _ _ (Builtin.List.listExtendWith (.ref N) (.ref l) (.ref N)) _ _ { s with heap := s.heap.push (seqObj "list" #[] 0) }
  unfold Builtin.List.listExtendWith
  refine wpAny_bind (wpAny_typeOf (T := T) ⟨o, k1 _ _ ho, hc⟩ ?_)
  rw [if_pos (by rcases hT with rfl | rfl <;> simp)]
  refine wpAny_bind (listItems_at (k1 _ _ ho) hd (wpAny_bind (listItems_at (xs := #[]) (n := 0) new rfl ?_)))
  rw [if_neg (by simp)]
  refine wpAny_bind (listUpdate_at (xs := #[]) (n := 0) new rfl (wpAny_pure ?_) (Nat.zero_le _) (by simp; omega))
  have old : ∀ b u, s.heap.get? b = some u → ((s.heap.push (seqObj "list" #[] 0)).update N (Obj.mapSeq (· ++ vs.toArray))).get? b = some u := fun b u q =>
    (Heap.get?_update_other _ _ (Nat.ne_of_gt (by rw [← hN]; exact Heap.lt_size q))).trans (k1 b u q)
  refine wpAny_bind (wpAny_load (get?_update_seq new _) ?_)
  show wpAny _ _ (pure ((#[] : Array Value) ++ vs.toArray).toList) Q E _
  rw [show ((#[] : Array Value) ++ vs.toArray).toList = vs by simp]
  exact wpAny_pure (h _ old)
end
section
variable {X : Cx}
/-- sorted(a list, a tuple) -/
theorem call_sortL (hu : X.A.units + 66 < cLine) : CallR X (.builtin "sorted") (fun xs H Q => ∃ (β : Type) (a : Addr) (ys : List V) (bs : List β) (enc : β → PyData) (R : V → β → Prop), xs = [.ref a] ∧ (SqL X.K H a ys ∨ SqT X.K H a ys) ∧ Sd H ys bs enc R ∧
    ∀ p zs, H p = none → Paired R zs (bs.mergeSort (dataLe false enc)) → Q (.ref p) (upd H p (.lst zs))) := by
  intro pins s σ H xs us Q I r ⟨β, a, ys, bs, enc, R, ex, hq, S, q⟩
  subst ex
  obtain ⟨u, eu, rx⟩ := vals1 r
  subst eu
  cases rx
  obtain ⟨its, T, o, n, rv, hz, hT, ho, hc, hd⟩ : ∃ (its : List Value) (T : String) (o : Obj) (n : Nat), Vals ys its ∧ ys.length ≤ sizeLine ∧ (T = "list" ∨ T = "tuple") ∧ s.heap.get? a = some o ∧ o.cls = .type T ∧ o.data = .seq its.toArray n := by
    rcases hq with hq | hq
    · obtain ⟨its, rv, ⟨o, n, ho, hc, _, hd⟩, hz⟩ := I.list hq
      exact ⟨its, _, o, n, rv, hz, .inl rfl, ho, hc, hd⟩
    · obtain ⟨its, rv, ⟨o, ho, hc, n, hd⟩, hz⟩ := I.tuple hq
      exact ⟨its, _, o, n, rv, hz, .inr rfl, ho, hc, hd⟩
  refine Calls.call_function_entry kind_sorted plain_sorted entry_sorted (args_sorted1 _) ?_
  unfold Builtin.«sorted»
  refine wpAny_bind (m := checkCount "sorted" 1 1 _) (wpAny_pure (wpAny_bind (gather hT ho hc hd (by rw [← rv.length]; exact hz) fun h' k => ?_)))
  exact sort_rest (I.kept (t' := s.toks) k) (by show X.A.units + 1 + 64 < cLine; omega) S rv hz q
/-- sorted(a dict): its keys -/
theorem call_sortN (hcalm : X.calm = true) (hu : X.A.units + 66 < cLine) : CallR X (.builtin "sorted") (fun xs H Q => ∃ (d : Addr) (L : DnL), xs = [.ref d] ∧ Rd H d (DnO X.prog X.w d L) ∧ (∀ x ∈ L, IsTab H x.2.1 x.1) ∧
    ∃ (R : V → Tab → Prop), Sd H (L.map fun x => .ref x.2.1) (L.map (·.1)) tabD R ∧
    ∀ p zs, H p = none → Paired R zs ((L.map (·.1)).mergeSort (dataLe false tabD)) → Q (.ref p) (upd H p (.lst zs))) := by
  intro pins s σ H xs us Q I r ⟨d, L, ex, e, k, R, S, q⟩
  subst ex
  obtain ⟨u, eu, rx⟩ := vals1 r
  subst eu
  cases rx
  obtain ⟨z1, z2, rows, rr, m⟩ := dn_of I.hok e k
  obtain ⟨es, ep, raw, hsz, hes⟩ := m.raw
  have hl : L.length = rows.length := Paired.length rr
  refine Calls.call_function_entry kind_sorted plain_sorted entry_sorted (args_sorted1 _) ?_
  unfold Builtin.«sorted»
  refine wpAny_bind (m := checkCount "sorted" 1 1 _) (wpAny_pure (wpAny_bind (kdu_collect (KdlSrc.rawDict (es := es) (ep := ep) z1) (I.ok.hd hcalm) raw (by omega) fun h' tk acc kk hacc => ?_)))
  have hv : Vals (L.map fun x => V.ref x.2.1) acc.toList := by
    have h1 : acc.toList.length = L.length := by rw [Array.length_toList, hacc.1]; omega
    refine vals_each (by simp [h1]) fun i x v hx hv => ?_
    obtain ⟨hi, ev⟩ := hacc.2 i v (by rw [← Array.getElem?_toList]; exact hv)
    obtain ⟨y, hy, e1, _, _⟩ := hes i hi
    rw [List.getElem?_map] at hx
    obtain ⟨x0, hx0, ex0⟩ := Option.map_eq_some_iff.mp hx
    obtain ⟨y', hy', _, e2, _⟩ := paired_get rr hx0
    rw [hy] at hy'
    cases hy'
    rw [← ex0, ev, e1, ← e2]
    rfl
  exact sort_rest (I.kept kk) (by show X.A.units + 1 + 64 < cLine; omega) S hv (by rw [List.length_map]; exact z2) q
/-- list(a dict): its keys -/
theorem call_listN (hcalm : X.calm = true) : CallR X (.type "list") (fun xs H Q => ∃ (d : Addr) (L : DnL), xs = [.ref d] ∧ Rd H d (DnO X.prog X.w d L) ∧ (∀ x ∈ L, IsTab H x.2.1 x.1) ∧
    ∀ p, H p = none → Q (.ref p) (upd H p (.lst (L.map fun x => .ref x.2.1)))) := by
  intro pins s σ H xs us Q I r ⟨d, L, ex, e, k, q⟩
  subst ex
  obtain ⟨u, eu, rx⟩ := vals1 r
  subst eu
  cases rx
  obtain ⟨z1, z2, rows, rr, m⟩ := dn_of I.hok e k
  obtain ⟨es, ep, raw, hsz, hes⟩ := m.raw
  have hl : L.length = rows.length := Paired.length rr
  refine kdl_call (KdlSrc.rawDict (es := es) (ep := ep) z1) (I.ok.hd hcalm) raw (by omega) fun h' tk acc c' kk hD hacc => ?_
  have hv : Vals (L.map fun x => V.ref x.2.1) acc.toList := by
    have h1 : acc.toList.length = L.length := by rw [Array.length_toList, hacc.1]; omega
    refine vals_each (by simp [h1]) fun i x v hx hv => ?_
    obtain ⟨hi, ev⟩ := hacc.2 i v (by rw [← Array.getElem?_toList]; exact hv)
    obtain ⟨y, hy, e1, _, _⟩ := hes i hi
    rw [List.getElem?_map] at hx
    obtain ⟨x0, hx0, ex0⟩ := Option.map_eq_some_iff.mp hx
    obtain ⟨y', hy', _, e2, _⟩ := paired_get rr hx0
    rw [hy] at hy'
    cases hy'
    rw [← ex0, ev, e1, ← e2]
    rfl
  exact ⟨.ref s.heap.objs.size, _, I.laid (t' := tk) kk (Nat.le_refl _) (show ObjOk X.prog X.w _ _ _ (.lst (L.map fun x => .ref x.2.1)) from ⟨by rw [List.length_map]; exact z2, acc.toList, c', hv, by rw [Array.toArray_toList]; exact hD⟩), rfl, q _ (I.hok.fresh (Nat.le_refl _))⟩
end
end K5
namespace K5
open PySem PySem.Spec PyProof.Rows PySem.W L2 LamX

/-! ### a lambda of one parameter -/
section
variable {X : Cx} {pins : List (Addr × Obj)} {σ : L2.St} {H : Hp} {s : Shared} {T : List (Addr × Str)}
/-- it is made: the table may grow -/
theorem lam_new {c P : Addr} {params : Arguments} {body : Expr} {scope : Scope} {pos : Pos} {E : Value → Shared → Prop} {Q : Value → Shared → Prop} (I : Inv X pins σ H s) (TB : TabB X.base X.mg c P) (hcode : X.env.code = .ref c)
    (hm : (P, X.env.qual ++ "<lambda>") ∈ T) (hu : ∀ p ∈ T, p.1 = P → p.2 = X.env.qual ++ "<lambda>") (hT : Tabs T H) (hdef : defaultsOf params X.env = ([], [])) (hcl : closureFor scope X.env = pure [])
    (h : ∀ (f c' : Addr) (pm ctv : Value) (H1 : Hp) (s' : Shared), Inv X pins σ H1 s' → Ext T H H1 → Tabs T H1 →
      s'.heap.get? f = some (kla_obj "<lambda>" (X.env.qual ++ "<lambda>") params body scope [] pm c' ctv) → H1 f = none → f ∉ frs X.stack → H1 c' = some (CodeO c' (X.env.qual ++ "<lambda>")) → Q (.ref f) s') :
    wpAny (model X.prog X.w) X.A (eval (.Lambda params body scope pos) X.env) Q E s := by
  obtain ⟨ps, hP, ht, ha⟩ := hT _ hm
  have hP' : s.heap.get? P = some { cls := .none, data := .fields ps } := I.hok P _ hP
  have off : ∀ f, s.heap.objs.size ≤ f → f ∉ frs X.stack := fun f hf z => by
    rcases List.mem_cons.mp (I.stkSub _ z) with e | e
    · exact Nat.lt_irrefl _ (Nat.lt_of_lt_of_le (e ▸ I.lt) hf)
    · exact I.nofs hf e
  refine kla_eval hdef ?_
  cases hc : codeAmong pos ps.toList with
  | some cv =>
    obtain ⟨c', e, hco⟩ := ha pos cv hc
    subst e
    exact kla_makeFunctionHit (mg := X.mg) (c := c) (P := P) (ps := ps) hcl I.ok.glob (I.mod.glob.keeps I.bk) hcode (TB.code.keeps I.bk) hP' ht hc (TB.bm.keeps I.bk) fun ctv h' tk hx hsz =>
      h h'.objs.size c' _ ctv H _ (I.kept (t' := tk) fun b o e => Heap.get?_push_of_some _ (hx b o e)) (.refl T H) hT (Heap.get?_push_size _ rfl) (I.hok.fresh hsz) (off _ hsz) hco
  | none =>
    refine kla_makeFunction (mg := X.mg) (c := c) (P := P) (ps := ps) hcl I.ok.glob (I.mod.glob.keeps I.bk) hcode (TB.code.keeps I.bk) hP' ht hc TB.gP (TB.bm.keeps I.bk) fun c' ctv h' tk hx hge hlt hrec htb => ?_
    obtain ⟨c2, oc, vs, t, e2, hoc, hd, hv⟩ := hrec
    cases e2
    have nC : H c' = none := I.hok.fresh hge
    have hsz : s.heap.objs.size ≤ h'.objs.size := Nat.le_trans hge (Nat.le_of_lt hlt)
    have nPc : P ≠ c' := ne_of_none hP nC
    have J := inv_table (t' := tk) (more := #[rawInt pos.line, rawInt pos.col, .ref c']) (h' := h'.push (kla_obj "<lambda>" (X.env.qual ++ "<lambda>") params body scope [] ((X.mg "__name__").getD .none) c' ctv)) I hP
      (fun b o hb e => Heap.get?_push_of_some _ (hx b o hb e)) (Heap.get?_push_of_some _ htb) hge ⟨oc, vs, t, Heap.get?_push_of_some _ hoc, hd, hv⟩
    generalize hH1 : upd (upd H P (.tbl (ps ++ #[rawInt pos.line, rawInt pos.col, .ref c']))) c' (CodeO c' (X.env.qual ++ "<lambda>")) = H1 at J
    have atP : H1 P = some (.tbl (ps ++ #[rawInt pos.line, rawInt pos.col, .ref c'])) := by rw [← hH1, upd_ne nPc, upd_same]
    have atC : H1 c' = some (CodeO c' (X.env.qual ++ "<lambda>")) := by rw [← hH1, upd_same]
    have at_ : ∀ b, b ≠ P → b ≠ c' → H1 b = H b := fun b h1 h2 => by rw [← hH1, upd_ne h2, upd_ne h1]
    have keep : ∀ b o, H b = some o → (∀ ps, o ≠ .tbl ps) → H1 b = some o := fun b o e n => by
      rw [at_ b (fun z => n ps (Option.some.inj (e.symm.trans (by rw [z]; exact hP)))) (ne_of_none e nC)]
      exact e
    have eL : (ps ++ #[rawInt pos.line, rawInt pos.col, .ref c']).toList = ps.toList ++ [rawInt pos.line, rawInt pos.col, .ref c'] := by simp
    have tabs : Tabs T H1 := fun p hp => by
      by_cases hb : p.1 = P
      · rw [hu p hp hb, hb]
        refine ⟨_, atP, by rw [eL]; exact PySem.TriplesOk_snoc _ _ _ _ ht, fun p' cv hcv => ?_⟩
        rw [eL] at hcv
        rcases among_app _ ht hcv with z | z
        · obtain ⟨c0, e1, e2⟩ := ha p' cv z
          exact ⟨c0, e1, keep _ _ e2 codeO_ne⟩
        · exact ⟨c', z, atC⟩
      · obtain ⟨ps', a1, a2, a3⟩ := hT p hp
        refine ⟨ps', by rw [at_ _ hb (ne_of_none a1 nC)]; exact a1, a2, fun p' cv hcv => ?_⟩
        obtain ⟨c0, e1, e2⟩ := a3 p' cv hcv
        exact ⟨c0, e1, keep _ _ e2 codeO_ne⟩
    refine h h'.objs.size c' _ ctv H1 _ J ⟨keep, fun b hb => ?_, fun _ => tabs⟩ tabs (Heap.get?_push_size _ rfl) ?_ (off _ hsz) atC
    · by_cases h1 : b = P
      · rw [h1, atP]
        simp
      · by_cases h2 : b = c'
        · rw [h2, atC]
          simp
        · rw [at_ b h1 h2]
          exact hb
    · rw [at_ _ (Nat.ne_of_gt (Nat.lt_of_lt_of_le (Heap.lt_size hP') hsz)) (Nat.ne_of_gt hlt)]
      exact I.hok.fresh hsz
/-- it is called -/
theorem lam_run {A : Around} {f c' : Addr} {qual x : Str} {params : Arguments} {body : Expr} {scope : Scope} {pm ctv : Value} {N : List Str} {k : Nat} {v : V} {u : Value} {Q : VK} (I : Inv X pins σ H s) (hA : A.frames = some X.stack)
    (hf : s.heap.get? f = some (kla_obj "<lambda>" qual params body scope [] pm c' ctv)) (hc : H c' = some (CodeO c' qual)) (S : FnScope N [x] scope) (hbind : bindArgs (kla_fn "<lambda>" qual params body scope [] pm (.ref c') ctv) ⟨[u], []⟩ = pure [(x, u)])
    (hr : Room (k + 1) A) (r : RelV v u)
    (hbody : Room k (A.deeper (envOfC qual scope s.heap.objs.size f (.ref c'))) → ∃ t, PE (cxOf CX0 X.prog X.w X.K X.mg X.base N qual scope f (.ref c') A X.stack s H E0) body t ∧ t (start N [v]) H Q) :
    wpAny (model X.prog X.w) A (call (.ref f) [u]) (EP X pins σ Q) (fun _ _ => False) s := by
  have e0 : Env0 X.prog X.w X.K X.mg X.base A X.stack s H := { I.env0 with frames := hA }
  obtain ⟨⟨oc, vs, t, hoc, hdc, hvc⟩, _, _⟩ := I.hok c' _ hc
  have rc : codeAny (model X.prog X.w) A (.call (.ref f) ⟨[u], []⟩) (CR CX0 X.stack X.prog X.w H s Q E0) s := by
    refine kla_callFunE hr.depth hf rfl S.co S.gen rfl ⟨c', oc, vs, t, rfl, hoc, hdc, hvc⟩ ?_
    rw [hbind]
    refine wpAny_pure (wpAny_newFunctionEnv_cells S.kind (fun y hy => ?_) fun env he s1 x1 => ?_)
    · rw [List.mem_singleton.mp hy]
      rcases S.par x (by simp) with q | q
      · exact .inl q
      · exact .inr ⟨q, cellsFrom_some _ _ _ (.inl q)⟩
    · subst he
      refine ⟨I.nolimit.keeps x1.toInCall.keep, ?_⟩
      obtain ⟨tb, ht, hq⟩ := hbody (hr.deeper _)
      have J : Inv (cxOf CX0 X.prog X.w X.K X.mg X.base N qual scope f (.ref c') A X.stack s H E0) [] (start N [v]) H s1 := inv_start (us := [u]) S hr.hd e0 rfl (.cons r .nil) x1
      refine kla_codeExpr (wpAny_mono (ht.run [] s1 _ H Q J hq) (fun w' s' hw => ?_) fun e s' hw => hw)
      obtain ⟨y, H', J', ry, q⟩ := hw
      exact ⟨y, H', J'.os, J'.bare, J'.base, J'.hok, ry, q⟩
  refine wpAny_call (codeAny_mono rc fun r s' hq => ?_)
  cases r with
  | error e => exact False.elim hq
  | ok fl =>
    cases fl with
    | ret u => exact I.after hq
    | next => exact False.elim hq
    | brk => exact False.elim hq
    | cont => exact False.elim hq
end
end K5
namespace K5
open PySem PySem.Spec PyProof.Rows PySem.W L2 LamX

theorem ns_one {h : Heap} {a : Addr} {m m' : Str → Option Value} (x : h.Ns a m) (y : h.Ns a m') : m = m' := by
  obtain ⟨o, es, ep, e1, e2, _, e3⟩ := x
  obtain ⟨o', es', ep', k1, k2, _, k3⟩ := y
  rw [e1] at k1
  cases k1
  rw [e2] at k2
  cases k2
  exact funext fun n => (e3 n).symm.trans (k3 n)
/-- all the new objects but three -/
def othersOf (g h : Heap) (L k d : Addr) : List (Addr × Obj) := (allNews g h L).filter fun p => decide (p.1 ≠ k ∧ p.1 ≠ d)
theorem mem_others {g h : Heap} {L k d b : Addr} {o : Obj} (h1 : b ≠ L) (h2 : b ≠ k) (h3 : b ≠ d) (h4 : g.get? b = none) (h5 : h.get? b = some o) : (b, o) ∈ othersOf g h L k d :=
  List.mem_filter.mpr ⟨mem_allNews h1 h4 h5, decide_eq_true ⟨h2, h3⟩⟩
theorem others_ne {g h : Heap} {L k d : Addr} {p : Addr × Obj} (hp : p ∈ othersOf g h L k d) : p.1 ≠ k ∧ p.1 ≠ d := of_decide_eq_true (List.mem_filter.mp hp).2
theorem alike_all_ints {β : Type} (k : β → Int) (bs : List β) : AllAlike (bs.map fun b => PyData.int (k b)) := AllAlike.of fun _ _ => by simp [alike]
theorem sortable_ints {β : Type} (k : β → Int) (bs : List β) : Sortable (bs.map fun b => PyData.int (k b)) := Sortable.others (enc := fun b => PyData.int (k b)) fun _ => ⟨fun z => (nomatch z), fun _ z => (nomatch z)⟩

/-- what is known of the lambda at f -/
structure LamAt (X : Cx) (s : Shared) (H : Hp) (f c' : Addr) (qual x : Str) (params : Arguments) (body : Expr) (scope : Scope) (N : List Str) : Prop where
  ob : ∃ pm ctv, s.heap.get? f = some (kla_obj "<lambda>" qual params body scope [] pm c' ctv)
  no : H f = none
  fr : f ∉ frs X.stack
  co : H c' = some (CodeO c' qual)
  sc : FnScope N [x] scope
  bind : ∀ (pm ctv u : Value), bindArgs (kla_fn "<lambda>" qual params body scope [] pm (.ref c') ctv) ⟨[u], []⟩ = pure [(x, u)]
section
variable {X : Cx} {pins : List (Addr × Obj)} {σ : L2.St} {H : Hp} {s : Shared} {T : List (Addr × Str)} {A : Around} {β : Type} {ys : List V} {vs : List Value} {bs : List β} {R : V → β → Prop}
theorem each_val {Hl : Hp} : ∀ {us : List Value} {ns : List Int}, EachIs (fun v n => ∃ t, v = Value.int n t) us ns → ∀ h : Heap, EachIs (fun v d => ∃ as, Reads h v d as) us (ns.map PyData.int)
  | _, _, .nil, _ => .nil
  | _, _, .cons ⟨t, e⟩ r, h => by
    subst e
    exact .cons ⟨[], .int _ t⟩ (each_val (Hl := Hl) r h)
/-- the tree of list.sort with a lambda as key: D the list -/
theorem key_sorted {D : Addr} {n : Nat} {f c' : Addr} {qual x : Str} {params : Arguments} {body : Expr} {scope : Scope} {N : List Str} {k : Nat} {P : PySem.Fin → Shared → Prop} {E : Value → Shared → Prop} (I : Inv X pins σ H s) (hA : A.frames = some X.stack) (hr : Room (k + 1) A)
    (L : LamAt X s H f c' qual x params body scope N) (hD : H D = some (.lst ys)) (raw : s.heap.get? D = some (seqObj "list" vs.toArray n)) (r : Paired R ys bs) (hv : Vals ys vs) (hz : ys.length ≤ sizeLine) (key : β → Int)
    (hkey : ∀ (s' : Shared) (H' : Hp) (y : V) (b : β), b ∈ bs → R y b → (∀ o, Ext T (upd H D (.frz o (.lst []))) H' → Room k (A.deeper (envOfC qual scope s'.heap.objs.size f (.ref c'))) →
      ∃ t, PE (cxOf CX0 X.prog X.w X.K X.mg X.base N qual scope f (.ref c') A X.stack s' H' E0) body t ∧ ∀ Q : VK, (∀ H'', Ext T H' H'' → Q (.int (key b)) H'') → t (start N [y]) H' Q))
    (h : ∀ zs H' s' o, Ext T (upd H D (.frz o (.lst []))) H' → Paired R zs (bs.mergeSort fun a b => decide (key a ≤ key b)) → Inv X pins σ (upd H' D (.lst zs)) s' → P (.done (.ret .none)) s') :
    wpAny (model X.prog X.w) A (ksk_tree D (.ref f) false) P E s := by
  have lv := hv.length
  have lb : ys.length = bs.length := Paired.length r
  have hzv : vs.length ≤ sizeLine := by omega
  have each := each_of r hv
  have lzip := each.length
  obtain ⟨pm, ctv, hf⟩ := L.ob
  have hlt : D < s.heap.objs.size := Heap.lt_size raw
  unfold ksk_tree
  refine wpAny_bind (listItems_at raw rfl ?_)
  refine wpAny_bind (listUpdate_at raw rfl ?_ (by rw [List.size_toArray]; exact hzv) (Nat.zero_le _))
  obtain ⟨e1, raw1⟩ : ∃ e1, (s.heap.update D (Obj.mapSeq fun _ => (#[] : Array Value))).get? D = some (seqObj "list" #[] e1) := ⟨_, get?_update_seq raw fun _ => #[]⟩
  have sb := Heap.SameBut.update s.heap D (Obj.mapSeq fun _ => (#[] : Array Value))
  generalize s.heap.update D (Obj.mapSeq fun _ => (#[] : Array Value)) = h1 at raw1 sb
  have I1 : Inv X pins σ (upd H D (.lst [])) { s with heap := h1 } := I.write (t' := s.toks) (x := D) (e := D) (by rw [hD]; exact True.intro) (.inl rfl) (fun b u hb q => (sb.2 b hb).trans q) ⟨_, raw1⟩
    (show ObjOk X.prog X.w _ _ _ (.lst []) from ⟨Nat.zero_le _, [], e1, .nil, raw1⟩)
  refine wpAny_bind (seqEpoch_at raw1 rfl ?_)
  refine wpAny_bind (wpAny_newTuple ?_ (by show vs.length ≤ _; exact hzv))
  refine wpAny_bind (wpAny_newList ?_ (Nat.zero_le _))
  refine wpAny_holding ?_
  have kk : ∀ b u, h1.get? b = some u → ((h1.push (seqObj "tuple" vs.toArray 0)).push (seqObj "list" #[] 0)).get? b = some u := fun b u q => Heap.get?_push_of_some _ (Heap.get?_push_of_some _ q)
  generalize hS : (h1.push (seqObj "tuple" vs.toArray 0)).objs.size = S
  have rawS : ((h1.push (seqObj "tuple" vs.toArray 0)).push (seqObj "list" #[] 0)).get? S = some (seqObj "list" #[] 0) := by rw [← hS]; exact Heap.get?_push_size _ rfl
  have sz1 : h1.objs.size = s.heap.objs.size := sb.1
  have hSz : h1.objs.size ≤ S := by rw [← hS, size_push']; exact Nat.le_succ _
  show wpAny _ _ (ksk_rest D (.ref f) false vs.toArray e1 (.ref S)) P E { s with heap := (h1.push (seqObj "tuple" vs.toArray 0)).push (seqObj "list" #[] 0) }
  generalize (h1.push (seqObj "tuple" vs.toArray 0)).push (seqObj "list" #[] 0) = h2 at kk rawS ⊢
  have I2 : Inv X pins σ (upd H D (.lst [])) { s with heap := h2 } := I1.kept (s := { s with heap := h1 }) (t' := s.toks) kk
  have nS : H S = none := I.hok.fresh (by rw [← sz1]; exact hSz)
  have SD : S ≠ D := fun z => by rw [z, hD] at nS; cases nS
  obtain ⟨od, I3⟩ := I2.lock (d := D) upd_same True.intro
  rw [upd_upd] at I3
  have nfz : ∀ o' u', X.H_0 D ≠ some (.frz o' u') := I2.nofrz (d := D) upd_same True.intro
  have raw2 : h2.get? D = some (seqObj "list" #[] e1) := kk _ _ raw1
  have eod : od = seqObj "list" #[] e1 := by
    obtain ⟨q, _⟩ := (show ObjOk X.prog X.w _ _ D (.frz od (.lst [])) from I3.hok D _ upd_same)
    rw [raw2] at q
    exact (Option.some.inj q).symm
  subst eod
  generalize hHl : upd H D (.frz (seqObj "list" #[] e1) (.lst [])) = Hl at I3
  have HlD : Hl D = some (.frz (seqObj "list" #[] e1) (.lst [])) := by rw [← hHl, upd_same]
  have fD : f ≠ D := fun z => by
    have q := L.no
    rw [z, hD] at q
    cases q
  have fk : h2.get? f = some (kla_obj "<lambda>" qual params body scope [] pm c' ctv) := kk _ _ ((sb.2 f fD).trans hf)
  have fno : Hl f = none := by rw [← hHl, upd_ne fD]; exact L.no
  have cD : c' ≠ D := fun z => by
    have q := L.co
    rw [z, hD] at q
    unfold CodeO at q
    cases Option.some.inj q
  have fco : Hl c' = some (CodeO c' qual) := by rw [← hHl, upd_ne cD]; exact L.co
  have fpS : FpOk X pins Hl S := I1.fpOk (s := { s with heap := h1 }) (H' := Hl) hSz (by rw [← hHl, upd_ne SD]; exact nS)
  obtain ⟨_, g1, g2, g3, g4, g5⟩ := fpS
  have stk : ∀ b ∈ X.fs, b ∈ frs X.stack := fun b hb => by
    rcases I.ok.stk with e | ⟨e, hf⟩
    · rw [e]; exact hb
    · rw [e]
      unfold frs
      rw [List.filterMap_cons, hf]
      exact List.mem_cons_of_mem _ hb
  have fS : f ≠ S := fun z => by
    rw [z, rawS] at fk
    have q := congrArg Obj.data (Option.some.inj fk)
    exact nomatch (show Data.seq _ _ = Data.func _ from q)
  have fL : f ≠ X.env.locals := fun z => by
    obtain ⟨m, ⟨o, es, ep, q1, q2, _⟩, _⟩ := I3.loc
    have q1 : h2.get? X.env.locals = some o := q1
    rw [← z, fk] at q1
    rw [← Option.some.inj q1] at q2
    cases q2
  unfold ksk_rest
  refine wpAny_bind (wpAny_rule ?_)
  rw [List.forIn_toArray]
  refine wpAny_bind (ksk_fold (fun i s' => ∃ Hi kA e, Inv X pins σ Hi s' ∧ Ext T Hl Hi ∧ s'.heap.get? S = some (seqObj "list" kA e) ∧ Hi S = none ∧ s'.heap.get? f = some (kla_obj "<lambda>" qual params body scope [] pm c' ctv) ∧ Hi f = none ∧
      EachIs (fun v n => ∃ t, v = Value.int n t) kA.toList ((bs.take i).map key)) vs 0 { s with heap := h2 }
    ⟨Hl, #[], 0, I3, .refl T Hl, rawS, by rw [← hHl, upd_ne SD]; exact nS, fk, fno, by rw [List.take_zero]; exact .nil⟩ (fun j u s1 hu hI => ?_) fun s1 hI => ?_)
  · obtain ⟨Hi, kA, e, J, X1, rS, n1, rf, n2, ek⟩ := hI
    simp only [Nat.zero_add] at ek ⊢
    have hj : j < vs.length := (List.getElem?_eq_some_iff.mp hu).1
    obtain ⟨b, hb⟩ : ∃ b, bs[j]? = some b := ⟨_, List.getElem?_eq_getElem (by omega)⟩
    have hkl : kA.size ≤ vs.length := by
      have q := ek.length
      rw [Array.length_toList, List.length_map, List.length_take] at q
      omega
    obtain ⟨y, ry, rb⟩ := each.zip (u, b) (List.mem_of_getElem? (i := j) (by rw [List.getElem?_zip_eq_some]; exact ⟨hu, hb⟩))
    have J2 : Inv X (pins ++ [(S, seqObj "list" kA e), (f, kla_obj "<lambda>" qual params body scope [] pm c' ctv)]) σ Hi s1 := J.pins_of fun p hp => by
      rcases List.mem_append.mp hp with q | q
      · exact J.pin p (List.mem_append_right _ q)
      · rcases List.mem_cons.mp q with q | q
        · rw [q]
          exact ⟨rS, n1, g1, g2, fun v z => nomatch z⟩
        · rw [List.mem_singleton.mp q]
          exact ⟨rf, n2, fL, fun z => L.fr (stk _ z), fun v z => nomatch z⟩
    refine wpAny_bind (wpAny_attempt (wpAny_mono (lam_run (Q := fun w' H' => w' = .int (key b) ∧ Ext T Hi H') J2 hA rf (X1.keep _ _ fco fun ps => codeO_ne ps) L.sc (L.bind pm ctv u) hr ry fun hr2 => ?_) (fun w' s2 he => ?_) fun _ _ z => z.elim))
    · obtain ⟨t, ht, hq⟩ := hkey s1 Hi y b (List.mem_of_getElem? hb) rb _ (by rw [hHl]; exact X1) hr2
      exact ⟨t, ht, hq _ fun H'' x => ⟨rfl, x⟩⟩
    · obtain ⟨w0, H2, J3, rw0, ew, X2⟩ := he
      subst ew
      obtain ⟨t, rfl⟩ := rw0
      have pS := J3.pin (S, seqObj "list" kA e) (List.mem_append_right _ (List.mem_append_right _ (by simp)))
      have pf := J3.pin (f, kla_obj "<lambda>" qual params body scope [] pm c' ctv) (List.mem_append_right _ (List.mem_append_right _ (by simp)))
      have J4 : Inv X pins σ H2 s2 := J3.pins_of fun p hp => J3.pin p (List.mem_append_right _ (List.mem_append_left _ hp))
      obtain ⟨c2, rS2⟩ : ∃ c2, (s2.heap.update S (Obj.mapSeq (·.push (Value.int (key b) t)))).get? S = some (seqObj "list" (kA.push (Value.int (key b) t)) c2) := ⟨_, get?_update_seq pS.1 (·.push _)⟩
      have sb2 := Heap.SameBut.update s2.heap S (Obj.mapSeq (·.push (Value.int (key b) t)))
      refine wpAny_bind (listUpdate_at pS.1 rfl ?_ (Nat.le_trans hkl hzv) (Nat.le_trans (Nat.le_of_eq (Array.size_push ..)) (Nat.succ_le_succ (Nat.le_trans hkl hzv))))
      refine wpAny_pure ⟨rfl, H2, _, c2, J4.turned (t' := s2.toks) (fun b o hb q => (sb2.2 b hb).trans q) pS.2.1 g1 g3 g4 g5, X1.trans X2, rS2, pS.2.1, (sb2.2 f fS).trans pf.1, pf.2.1, ?_⟩
      have e2 : (bs.take (j + 1)).map key = (bs.take j).map key ++ [key b] := by rw [List.take_add_one, hb]; simp
      rw [e2, Array.toList_push]
      exact each_snoc ⟨t, rfl⟩ ek
  · obtain ⟨Hi, kA, e, J, X1, rS, n1, rf, n2, ek⟩ := hI
    rw [Nat.zero_add, List.take_of_length_le (by omega)] at ek
    have HiD := X1.keep _ _ HlD fun ps z => nomatch z
    have rD : s1.heap.get? D = some (seqObj "list" #[] e1) := ((show ObjOk X.prog X.w _ _ D (.frz (seqObj "list" #[] e1) (.lst [])) from J.hok D _ HiD)).1
    obtain ⟨m, F⟩ := J.fr
    have nb : ∀ b, X.base.get? b = none ∨ ∃ o, X.base.get? b = some o := fun b => by
      cases X.base.get? b with
      | none => exact .inl rfl
      | some o => exact .inr ⟨o, rfl⟩
    have bS : X.base.get? S = none := (nb S).elim (fun z => z) fun ⟨o, z⟩ => by
      have q := (J.ok.bs S o z).1
      rcases g3 with w | w
      · exact absurd w (J.ok.noex S o z)
      · exact absurd (Nat.lt_of_lt_of_le (Heap.lt_size q) w) (Nat.lt_irrefl _)
    have bD : X.base.get? D = none := (nb D).elim (fun z => z) fun ⟨o, z⟩ => by
      have q := (J.bs D o z).2
      rw [HiD] at q
      cases q
    have DL : D ≠ X.env.locals := fun z => by
      have q := J.free
      rw [← z, HiD] at q
      cases q
    have News0 : News X.base X.env.locals s1.heap (othersOf X.base s1.heap X.env.locals S D ++ [(S, seqObj "list" kA e), (D, seqObj "list" #[] e1)]) := fun p hp => by
      rcases List.mem_append.mp hp with q | q
      · exact news_all p (List.mem_filter.mp q).1
      · rcases List.mem_cons.mp q with q | q
        · rw [q]
          exact ⟨rS, g1, bS⟩
        · rw [List.mem_singleton.mp q]
          exact ⟨rD, DL, bD⟩
    have hkl : kA.size = vs.length := by
      have q := ek.length
      rw [Array.length_toList, List.length_map] at q
      omega
    have rk := each_val (Hl := Hl) ek s1.heap
    have er : EachIs (fun v d => ∃ as, Reads s1.heap v d as) kA.toList (bs.map fun b => PyData.int (key b)) := by
      have q := rk
      rw [List.map_map] at q
      exact q
    have hal := alike_all_ints key bs
    refine wpAny_bind (listItems_at rS rfl ?_)
    refine key_end (κ := dataKind s1.heap (bs.map fun b => PyData.int (key b))) F News0 SD (fun p hp => (others_ne hp).1) (fun p hp => (others_ne hp).2)
      (SortsAt.data er hal (sortable_ints key bs) fun d hd => ?_) hkl hzv fun h' tk c F' N' => ?_
    · obtain ⟨b, _, rfl⟩ := List.mem_map.mp hd
      have := hr.units
      simp only [PyData.depth]
      omega
    · have kept : ∀ b o, b ≠ X.env.locals → b ≠ S → b ≠ D → s1.heap.get? b = some o → h'.get? b = some o := fun b o q1 q2 q3 q4 => by
        rcases nb b with z | ⟨u, z⟩
        · exact (N' (b, o) (List.mem_cons_of_mem _ (mem_others q1 q2 q3 z q4))).1
        · have w := (J.bs b u z).1
          rw [q4] at w
          cases w
          exact F'.keep b _ z
      have outp : EachIs (fun v b => ∃ y, RelV y v ∧ R y b) (sortVals (dataKind s1.heap (bs.map fun b => PyData.int (key b))) false kA.toList vs) (bs.mergeSort (dataLe false fun b => PyData.int (key b))) :=
        keyedOut_each (fun b => PyData.int (key b)) ⟨s1.heap, kA.toList, hal, rfl, er⟩ each
      obtain ⟨zs, k1, k2⟩ := of_each outp
      rw [dataLe_int] at k2
      have oD := (N' _ List.mem_cons_self).1
      have J1 : Inv X pins σ (upd Hi D (.lst [])) s1 := J.unlock HiD nfz
      refine h zs Hi _ _ (by rw [hHl]; exact X1) k2 ?_
      have nd : ∀ b u, upd Hi D (.lst []) b = some u → (∀ zs, u ≠ .lst zs) → b ≠ D := fun b u q n z => by
        rw [z, upd_same] at q
        exact n [] (Option.some.inj q).symm
      have e2 : upd Hi D (.lst zs) = upd (upd Hi D (.lst [])) D (.lst zs) := upd_upd.symm
      rw [e2]
      have lz := k1.length
      have lo := outp.length
      rw [List.length_mergeSort] at lo
      refine J1.step (g' := s1.gens) (d' := s1.drawn) (ch := [S]) (fun b hb => ?_) (fun b o q1 _ q3 q4 q5 => ?_) (fun b o q1 _ q3 q4 q5 => ?_) (fun b o _ _ q5 => ?_) (fun b o q3 q4 => ?_) (fun b xs q => ?_) (fun b o u q => ?_) (fun b ps q => ?_) (fun m' hm => ?_) (fun b u q => ?_) J1.bare
      · rw [List.mem_singleton.mp hb]
        exact ⟨g3, g1, g4, g5⟩
      · have bD : b ≠ D := fun z => by rw [z, upd_same] at q5; cases q5
        exact kept b o q1 (fun z => q3 (by simp [z])) bD q4
      · have bD : b ≠ D := fun z => by rw [z, upd_same] at q5; cases q5
        exact ⟨o.slots, kept b o q1 (fun z => q3 (by simp [z])) bD q4⟩
      · have bD : b ≠ D := fun z => by rw [z, upd_same] at q5; cases q5
        rw [upd_ne bD]
        exact q5
      · by_cases hb : b = D
        · exact ⟨_, by rw [hb]; exact oD⟩
        · by_cases hb2 : b = X.env.locals
          · obtain ⟨o', _, _, q', _⟩ := F'.ns
            exact ⟨o', by rw [hb2]; exact q'⟩
          · exact ⟨o, kept b o hb2 (fun z => q3 (by simp [z])) hb q4⟩
      · rw [upd_ne (nd b _ q fun zs z => nomatch z)]
        exact q
      · rw [upd_ne (nd b _ q fun zs z => nomatch z)]
        exact q
      · exact ⟨#[], by rw [upd_ne (nd b _ q fun zs z => nomatch z), q]; simp⟩
      · rw [ns_one hm F.ns]
        exact F'.ns
      · by_cases hb : b = D
        · rw [hb, upd_same] at q
          cases q
          rw [hb]
          exact ⟨by omega, _, c, k1, oD⟩
        · rw [upd_ne hb] at q
          have bS2 : ∀ c u, upd Hi D (.lst []) c = some u → c ≠ S := fun c u w z => by
            rw [z, upd_ne SD, n1] at w
            cases w
          have bL2 : ∀ c u, upd Hi D (.lst []) c = some u → c ≠ X.env.locals := fun c u w z => by
            have := J1.free
            rw [← z, w] at this
            cases this
          refine (J1.hok b u q).stay (fun c v hc w => ?_) (fun c w => ?_) fun c xs w => ?_
          · rcases hc with z | z
            · rw [z] at w ⊢
              exact kept b v (bL2 b u q) (bS2 b u q) hb w
            · exact kept c v (bL2 c _ z) (bS2 c _ z) (nd c _ z fun zs z => nomatch z) w
          · rw [upd_ne (nd c _ w fun zs z => nomatch z)]
            exact w
          · rw [upd_ne (nd c _ w fun zs z => nomatch z)]
            exact w
end
end K5
namespace K5
open PySem PySem.Spec PyProof.Rows PySem.W L2 LamX

/-- a list, a tuple, a dict that is gone through: its items -/
def SrcOf (K : PySem.W.Frag) (P : Program) (w : World) (H : Hp) (a : Addr) (ys : List V) : Prop :=
  SqL K H a ys ∨ ∃ L : DnL, Rd H a (DnO P w a L) ∧ (∀ x ∈ L, IsTab H x.2.1 x.1) ∧ ys = L.map fun x => .ref x.2.1
theorem SrcOf.ext {K : PySem.W.Frag} {P : Program} {w : World} {H H' : Hp} {a : Addr} {ys : List V} {T : List (Addr × Str)} (h : SrcOf K P w H a ys) (e : Ext T H H') : SrcOf K P w H' a ys := by
  rcases h with h | ⟨L, h1, h2, h3⟩
  · exact .inl (e.sql h)
  · refine .inr ⟨L, ?_, fun x hx => e.tab (h2 x hx), h3⟩
    rcases h1 with h | ⟨o, h⟩
    · exact .inl (e.ext h)
    · exact .inr ⟨o, e.keep _ _ h fun ps z => nomatch z⟩
section
variable {X : Cx} {pins : List (Addr × Obj)} {σ : L2.St} {H : Hp} {s : Shared} {A : Around} {E : Value → Shared → Prop}
/-- collected -/
theorem gather_src {a : Addr} {ys : List V} {Q : List Value → Shared → Prop} (I : Inv X pins σ H s) (hh : A.handled = none) (src : SrcOf X.K X.prog X.w H a ys)
    (h : ∀ vs h' tk, Vals ys vs → ys.length ≤ sizeLine → (∀ b u, s.heap.get? b = some u → h'.get? b = some u) → Q vs { s with heap := h', toks := tk }) : wpAny (model X.prog X.w) A (collect (.ref a)) Q E s := by
  rcases src with hq | ⟨L, e, k, ey⟩
  · obtain ⟨its, rv, ⟨o, n, ho, hc, _, hd⟩, hz⟩ := I.list hq
    exact gather (.inl rfl) ho hc hd (by rw [← rv.length]; exact hz) fun h' kk => h its h' s.toks rv hz kk
  · obtain ⟨z1, z2, rows, rr, m⟩ := dn_of I.hok e k
    obtain ⟨es, ep, raw, hsz, hes⟩ := m.raw
    have hl : L.length = rows.length := Paired.length rr
    refine kdu_collect (KdlSrc.rawDict (es := es) (ep := ep) z1) hh raw (by omega) fun h' tk acc kk hacc => ?_
    refine h acc.toList h' tk ?_ (by rw [ey, List.length_map]; exact z2) kk
    rw [ey]
    have h1 : acc.toList.length = L.length := by rw [Array.length_toList, hacc.1]; omega
    refine vals_each (by simp [h1]) fun i x v hx hv => ?_
    obtain ⟨hi, ev⟩ := hacc.2 i v (by rw [← Array.getElem?_toList]; exact hv)
    obtain ⟨y, hy, e1, _, _⟩ := hes i hi
    rw [List.getElem?_map] at hx
    obtain ⟨x0, hx0, ex0⟩ := Option.map_eq_some_iff.mp hx
    obtain ⟨y', hy', _, e2, _⟩ := paired_get rr hx0
    rw [hy] at hy'
    cases hy'
    rw [← ex0, ev, e1, ← e2]
    rfl
end
section
variable {X : Cx}
/-- the reading of sorted(e, key=lambda x: body) -/
def tSortK (X : Cx) (T : List (Addr × Str)) (k : Nat) (te : TE) (N : List Str) (body : Expr) (scope : Scope) : TE := fun σ H Q => te σ H fun v H1 => ∃ (a : Addr) (ys : List V) (β : Type) (bs : List β) (R : V → β → Prop) (key : β → Int),
  v = .ref a ∧ SrcOf X.K X.prog X.w H1 a ys ∧ Tabs T H1 ∧ Paired R ys bs ∧
  (∀ (f c' : Addr) (A : Around) (s' : Shared) (H' : Hp) (y : V) (b : β), b ∈ bs → R y b → Ext T H1 H' → Room k (A.deeper (envOfC (X.env.qual ++ "<lambda>") scope s'.heap.objs.size f (.ref c'))) →
    ∃ t, PE (cxOf CX0 X.prog X.w X.K X.mg X.base N (X.env.qual ++ "<lambda>") scope f (.ref c') A X.stack s' H' E0) body t ∧ ∀ Q' : VK, (∀ H'', Ext T H' H'' → Q' (.int (key b)) H'') → t (start N [y]) H' Q') ∧
  ∀ p zs H', H1 p = none → Ext T H1 H' → Paired R zs (bs.mergeSort fun a b => decide (key a ≤ key b)) → H' p = some (.lst zs) → Q (.ref p) H'
theorem pe_sortk {T : List (Addr × Str)} {k : Nat} {c P : Addr} {x : Str} {N : List Str} {params : Arguments} {body e : Expr} {scope : Scope} {lp kp p pos : Pos} {te : TE} (hcalm : X.calm = true) (hr : Room (k + 3) X.A) (TB : TabB X.base X.mg c P) (hcode : X.env.code = .ref c)
    (hm : (P, X.env.qual ++ "<lambda>") ∈ T) (hu : ∀ p ∈ T, p.1 = P → p.2 = X.env.qual ++ "<lambda>") (S : FnScope N [x] scope)
    (hg : Gl X "sorted") (hmg : X.mg "sorted" = none) (he : PE X e te) (hdef : defaultsOf params X.env = ([], []) := by rfl) (hcl : closureFor scope X.env = pure [] := by rfl)
    (hb : ∀ (pm ctv u : Value) (c' : Addr), bindArgs (kla_fn "<lambda>" (X.env.qual ++ "<lambda>") params body scope [] pm (.ref c') ctv) ⟨[u], []⟩ = pure [(x, u)] := by intros; rfl)
    (h1 : backTo pos (starEach [e] X.env) = [(false, eval e X.env)] := by rfl) :
    PE X (.Call (.Name "sorted" p) [e] [⟨some "key", .Lambda params body scope lp, kp⟩] pos) (tSortK X T k te N body scope) := by
  refine ⟨fun pins s σ H Q I h => ?_⟩
  refine wpAny_Call_Name_kw (ld_blt I hg hmg (u := .builtin "sorted") (by first | rfl | decide +kernel) ?_ (by decide) (by decide))
  refine PyProof.Rows.callWith_kw ?_ (by rw [h1]; rfl) (by rw [h1]; rfl) rfl rfl
  rw [h1]
  refine Calls.spliced_cons (thn (he.run pins s σ H _ I h) fun u s1 ⟨v, H1, I1, r1, q1⟩ => Calls.spliced_nil ?_)
  obtain ⟨a, ys, β, bs, R, key, ev, src, hT, pr, hkey, q⟩ := q1
  subst ev
  obtain rfl : u = Value.ref a := r1
  show wpAny _ _ (evalAll ((do let v ← eval (.Lambda params body scope lp) X.env; standAt pos; pure v) :: [])) _ _ s1
  refine wpAny_evalAll_cons (wpAny_bind (lam_new I1 TB hcode hm hu hT hdef hcl fun f c' pm ctv H2 s2 I2 X2 hT2 hf hfn hfr hfc => wpAny_bind (wpAny_standAt (wpAny_pure (wpAny_evalAll_nil ?_)))))
  show wpAny _ _ (call (.builtin "sorted") [.ref a] [(Str.ofString "key", .ref f)]) _ _ _
  refine call_function_entry_kw kind_sorted plain_sorted entry_sorted (ksk_s1 _ _) ?_
  unfold Builtin.«sorted»
  refine wpAny_bind (m := checkCount "sorted" 1 1 _) (wpAny_pure (wpAny_bind (gather_src (A := X.A.in1) I2 (I2.ok.hd hcalm) (src.ext X2) fun vs h' tk hv hz kk => ?_)))
  have I3 : Inv X pins σ H2 { s2 with heap := h', toks := tk } := I2.kept kk
  generalize hs3 : ({ s2 with heap := h', toks := tk } : Shared) = s3 at I3
  have hf3 : s3.heap.get? f = some (kla_obj "<lambda>" (X.env.qual ++ "<lambda>") params body scope [] pm c' ctv) := by rw [← hs3]; exact kk _ _ hf
  refine wpAny_bind (wpAny_newList ?_ (by rw [← hv.length]; exact hz))
  generalize hD : s3.heap.objs.size = D
  have raw : (s3.heap.push (seqObj "list" vs.toArray 0)).get? D = some (seqObj "list" vs.toArray 0) := by rw [← hD]; exact Heap.get?_push_size _ rfl
  have nD : H2 D = none := I3.hok.fresh (Nat.le_of_eq hD)
  have I4 : Inv X pins σ (upd H2 D (.lst ys)) { s3 with heap := s3.heap.push (seqObj "list" vs.toArray 0) } :=
    I3.laid (t' := s3.toks) (fun b u q => Heap.get?_push_of_some _ q) (Nat.le_of_eq hD) (show ObjOk X.prog X.w _ _ _ (.lst ys) from ⟨hz, vs, 0, hv, raw⟩)
  have fD : f ≠ D := fun z => by
    have q := Heap.lt_size hf3
    rw [z, ← hD] at q
    exact Nat.lt_irrefl _ q
  have LA : LamAt X { s3 with heap := s3.heap.push (seqObj "list" vs.toArray 0) } (upd H2 D (.lst ys)) f c' (X.env.qual ++ "<lambda>") x params body scope N :=
    ⟨⟨pm, ctv, Heap.get?_push_of_some _ hf3⟩, by rw [upd_ne fD]; exact hfn, hfr, by rw [upd_ne (ne_of_none hfc nD)]; exact hfc, S, fun pm ctv u => hb pm ctv u c'⟩
  have eU : ∀ o o', upd (upd H2 D o) D o' = upd H2 D o' := fun o o' => upd_upd
  refine wpAny_bind (wpAny_holding (wpAny_call_entry_kw slot_list_sort ⟨_, raw, rfl⟩ entry_list_sort ?_ (ksk_l1 _ _)))
  rw [ksk_t1]
  refine key_sorted (T := T) (k := k) I4 (A := X.A.in1.in1) I4.ok.frames (hr.in1.in1) LA upd_same raw pr hv hz key (fun s' H' y b hb' rb o x' hr' => ?_) fun zs H' s' o x' pz J => ?_
  · rw [eU] at x'
    exact hkey f c' _ s' H' y b hb' rb (X2.trans ((Ext.new nD).trans x')) hr'
  · rw [eU] at x'
    refine ⟨.none, rfl, wpAny_pure ⟨_, rfl, .ref D, _, J, rfl, q D zs _ (X2.free nD) ?_ pz upd_same⟩⟩
    have x1 : Ext T H1 H' := X2.trans ((Ext.new nD).trans x')
    exact x1.mut (X2.free nD) (x'.keep D (.frz o (.lst [])) upd_same fun ps z => nomatch z) ⟨fun ps z => (nomatch z), fun c q z => by
      unfold CodeO at z
      cases z⟩
end
end K5
namespace K5
open PySem PySem.Spec PyProof.Rows PySem.W L2 LamX

/-! ### t[::-1] of a tuple -/
section
variable {prog : Program} {w : World} {A : Around} {E : Value → Shared → Prop} {s : Shared}
theorem pick_back (xs : Array Value) : ((List.range xs.size).filterMap fun (k : Nat) => xs[(((xs.size : Int) - 1) + (k : Int) * (-1)).toNat]?).toArray = xs.toList.reverse.toArray := by
  have e : (List.range xs.size).filterMap (fun (k : Nat) => xs[(((xs.size : Int) - 1) + (k : Int) * (-1)).toNat]?) = ((List.range xs.size).map fun k => xs.size - 1 - k).filterMap (xs[·]?) := by
    rw [List.filterMap_map]
    have all : ∀ l : List Nat, (∀ k ∈ l, k < xs.size) → l.filterMap (fun (k : Nat) => xs[(((xs.size : Int) - 1) + (k : Int) * (-1)).toNat]?) = l.filterMap ((fun x => xs[x]?) ∘ fun k => xs.size - 1 - k) := by
      intro l
      induction l with
      | nil => intro _; rfl
      | cons k l ih =>
        intro hk
        have h1 := hk k List.mem_cons_self
        have e : (((xs.size : Int) - 1) + (k : Int) * (-1)).toNat = xs.size - 1 - k := by omega
        rw [List.filterMap_cons, List.filterMap_cons, ih fun j hj => hk j (List.mem_cons_of_mem _ hj), e]
        rfl
    exact all _ fun k hk => List.mem_range.mp hk
  rw [e, krv_range, List.filterMap_reverse, krv_all]
theorem applied_back {sl : Addr} {vk : Value} {n : Nat} {Q : Int × Int × Nat → Shared → Prop} (hs : s.heap.IsSliceOf sl .none .none vk) (pk : IsPart vk (some (-1))) (h : Q ((n : Int) - 1, -1, n) s) :
    wpAny (model prog w) A (Builtin.Slice.sliceApplied (.ref sl) (pure (n : Int))) Q E s := by
  obtain ⟨os, hos, hcs, hds⟩ := id hs
  unfold Builtin.Slice.sliceApplied Builtin.Slice.sliceFields
  refine wpAny_bind (wpAny_bind (wpAny_field hos hds (x := .none) rfl (wpAny_bind (wpAny_field hos hds (x := .none) rfl (wpAny_bind (wpAny_field hos hds (x := vk) rfl (wpAny_pure ?_)))))))
  refine wpAny_bind (HT.slicePart_ pk ?_)
  show wpAny _ _ (if ((-1 : Int) == 0) = true then _ else _) _ _ s
  rw [if_neg (by decide)]
  refine wpAny_bind (HT.slicePart_ .none (wpAny_bind (HT.slicePart_ .none (wpAny_bind (wpAny_pure ?_)))))
  show wpAny _ _ (pure ((n : Int) - 1, (-1 : Int), Builtin.Slice.slicePlaces ((n : Int) - 1) (-1) (-1))) _ _ s
  have e : Builtin.Slice.slicePlaces ((n : Int) - 1) (-1) (-1) = n := by
    unfold Builtin.Slice.slicePlaces
    rw [if_neg (by decide)]
    split
    · rw [show (- -1 : Int) = 1 by decide, Int.ediv_one]
      omega
    · omega
  rw [e]
  exact wpAny_pure h
theorem item_back {t sl : Addr} {items : Array Value} {vk : Value} {Q : Value → Shared → Prop} (ht : IsTup s.heap t items) (hs : s.heap.IsSliceOf sl .none .none vk) (pk : IsPart vk (some (-1))) (hz : items.size ≤ sizeLine)
    (h : Q (.ref s.heap.objs.size) { s with heap := s.heap.push { cls := .type "tuple", data := .seq items.toList.reverse.toArray } }) : wpAny (model prog w) A (getItem (.ref t) (.ref sl)) Q E s := by
  obtain ⟨os, hos, hcs, hds⟩ := id hs
  have hl : sizeOk (.seq items.toList.reverse.toArray) := by
    show items.toList.reverse.toArray.size ≤ sizeLine
    rw [List.size_toArray, List.length_reverse, Array.length_toList]
    exact hz
  unfold getItem
  try with_reducible refine wpAny_holding ?_
  first | refine wpAny_bind (wpAny_pure ?_) | skip
  refine wpAny_bind (wpAny_sequenceKey ht.typeIs (by decide) (wpAny_bind (wpAny_callSpecial?_slot (name := Str.ofString "__getitem__") ht.typeIs PyProof.Rows.slot_tuple_getitem
    (wpAny_call_entry PyProof.Rows.slot_tuple_getitem ht.typeIs entry_tuple_getitem ?_ (args_tuple_getitem _ _)))))
  show wpAny _ _ (Builtin.Tuple.tupleItemsOf (.ref t) >>= _) _ _ s
  refine wpAny_bind (tupleItemsOf_ ht (wpAny_bind (wpAny_typeOf (T := "slice") ⟨os, hos, hcs⟩ ?_)))
  rw [if_pos (by decide)]
  refine wpAny_bind (applied_back hs pk ?_)
  have hno : ¬ ((((items.size : Int) - 1) == 0 && (-1 : Int) == 1 && items.size == items.size) = true) := by simp
  show wpAny _ _ (if (((items.size : Int) - 1) == 0 && (-1 : Int) == 1 && items.size == items.size) = true then _ else _) _ _ s
  rw [if_neg hno, pick_back]
  first
    | exact wpAny_bind (m := Builtin.Tuple.tupleExact _) (wpAny_newObj_type (wpAny_pure ⟨_, rfl, wpAny_pure h⟩) hl)
    | exact wpAny_bind (m := Builtin.Tuple.tupleExact _) (wpAny_newObj_type (wpAny_bind (wpAny_pure (wpAny_pure ⟨_, rfl, wpAny_pure h⟩))) hl)
    | exact wpAny_bind (wpAny_bind (m := Builtin.Tuple.tupleExact _) (wpAny_newObj_type (wpAny_pure (wpAny_pure ⟨_, rfl, wpAny_pure h⟩)) hl))
    | exact wpAny_bind (wpAny_bind (m := Builtin.Tuple.tupleExact _) (wpAny_newObj_type (wpAny_pure ⟨_, rfl, wpAny_pure h⟩) hl))
end
section
variable {X : Cx}
def tRevT (K : Frag) (te : TE) : TE := fun σ H Q => te σ H fun x H1 => ∃ a xs, x = .ref a ∧ SqT K H1 a xs ∧ ∀ p, H1 p = none → Q (.ref p) (upd H1 p (.tup xs.reverse))
theorem pe_revT {e : Expr} {te : TE} {k : Nat} {p1 p2 p3 pos : Pos} (he : PE X e te) : PE X (.Subscript e (.Slice none none (some (.UnaryOp .USub (.Constant (.int 1) k p1) p2)) p3) pos) (tRevT X.K te) := by
  refine ⟨fun pins s σ H Q I h => ?_⟩
  refine Subscript_ (thn (he.run pins s σ H _ I h) fun v s1 ⟨x, H1, I1, r1, a, xs, ex, hx, q⟩ => ?_)
  subst ex
  cases r1
  have st : PO X (some (.UnaryOp .USub (.Constant (.int 1) k p1) p2)) (tPart (tUn (rU fun i => .int (-i)) (tC (.int 1)))) := po_some (pe_un un_neg pe_int)
  refine wpAny_Slice (thn (po_none.run pins s1 σ H1 (fun o H2 => o = none ∧ H2 = H1) I1 ⟨rfl, rfl⟩) fun vl s2 ⟨l, H2, I2, pl, el, e2⟩ => thn (po_none.run pins s2 σ H2 (fun o H3 => o = none ∧ H3 = H2) I2 ⟨rfl, rfl⟩) fun vu s3 ⟨u, H3, I3, pu, eu, e3⟩ => ?_)
  subst el e2 eu e3
  refine thn (st.run pins s3 σ H3 (fun o H4 => o = some (-1) ∧ H4 = H3) I3 ⟨1, rfl, -1, rfl, rfl, rfl⟩) fun vs s4 ⟨o, H4, I4, ps, eo, e4⟩ => ?_
  subst eo e4
  obtain rfl : vl = Value.none := by cases pl; rfl
  obtain rfl : vu = Value.none := by cases pu; rfl
  have I5 : Inv X pins σ H4 { s4 with heap := s4.heap.push { cls := .type "slice", data := .fields #[.none, .none, vs] } } := I4.kept (t' := s4.toks) fun b ob q => Heap.get?_push_of_some _ q
  obtain ⟨its, r, ht, hz⟩ := I5.tuple hx
  have hlen := r.length
  show wpAny (model X.prog X.w) X.A (subscriptTail e (.Slice none none (some (.UnaryOp .USub (.Constant (.int 1) k p1) p2)) p3) (.ref a) (.ref s4.heap.objs.size)) (EP X pins σ Q) X.xe { s4 with heap := s4.heap.push { cls := .type "slice", data := .fields #[.none, .none, vs] } }
  refine tail_any (ops := [.ref a, .ref s4.heap.objs.size]) ht.typeIs (PyProof.Rows.slot_tuple_getitem.lookup) ?_ (by with_unfolding_all rfl)
  refine item_back ht (Heap.IsSliceOf.new _ .none .none vs) ps (by rw [List.size_toArray]; omega) ?_
  refine ⟨.ref _, _, I5.laid (t' := s4.toks) (o := .tup xs.reverse) (fun b ob q => Heap.get?_push_of_some _ q) (Nat.le_refl _) ?_, rfl, q _ (I5.hok.fresh (Nat.le_refl _))⟩
  exact ⟨by rw [List.length_reverse]; exact hz, _, r.reverse, IsTup.new _ _⟩
end
end K5
namespace K5
open PySem PySem.Spec PyProof.Rows PySem.W L2 LamX RZ

/-! ### zip of two tuples, its pairs kept by a name -/
/-- the zip object: who has its tuple, whether it knows -/
abbrev ZO (h : Heap) (z TI TO : Addr) (o : Value) (f : Bool) : Prop := h.get? z = some { cls := .type "zip", dict := none, data := .fields #[o, .bool f, .bool false, .ref TI, .ref TO], slots := #[] }
def Lent (o : Value) : Prop := o = .none ∨ ∃ T : Nat, o = rawInt T
structure ZSt (h : Heap) (z TI TO i1 i2 a b : Addr) (k : Nat) : Prop where
  ob : ∃ o f, ZO h z TI TO o f ∧ Lent o
  ti : IsPair h TI (.ref i1) (.ref i2)
  to_ : ∃ x y, IsPair h TO x y
  it1 : h.IsTupleIter i1 a k
  it2 : h.IsTupleIter i2 b k
section
variable {prog : Program} {w : World} {A : Around} {E : Value → Shared → Prop} {s : Shared} {z TI TO i1 i2 a b : Addr} {k : Nat} {xs ys : Array Value}
theorem zn_free {o : Value} {f : Bool} {Q : Bool → Shared → Prop} (hz : ZO s.heap z TI TO o f) (hl : Lent o) (h0 : Q true s) (h1 : ∀ h', ZO h' z TI TO o true → Heap.SameBut z s.heap h' → Q false { s with heap := h' }) :
    wpAny (model prog w) A (Builtin.SmallTypes.ownedTupleIsFree (.ref z)) Q E s := by
  rcases hl with e | ⟨T, e⟩
  · subst e
    unfold Builtin.SmallTypes.ownedTupleIsFree
    exact wpAny_bind (wpAny_field hz rfl (x := .none) rfl (wpAny_pure h0))
  · subst e
    cases q : s.heap.get? T with
    | some oT => exact wpAny_tupleHeld_zip (f := f) hz q h1
    | none =>
      unfold Builtin.SmallTypes.ownedTupleIsFree
      refine wpAny_bind (wpAny_field hz rfl (x := rawInt T) rfl ?_)
      show wpAny _ _ (loadIfAlive ((T : Int).toNat) >>= _) _ _ _
      rw [Int.toNat_natCast]
      have go : ∀ {R : Option Obj → Shared → Prop}, R none s → wpAny (model prog w) A (loadIfAlive T) R E s := fun {R} h => by
        have h' : R (s.heap.get? T) s := by rw [q]; exact h
        exact fun _ _ _ => h'
      refine wpAny_bind (go ?_)
      simp only [Option.isNone_none, if_true]
      exact wpAny_pure h0
/-- the next pair -/
theorem zn_item {x y : Value} {Q : Value → Shared → Prop} (D : ZipApart z TI TO i1 i2 a b) (S : ZSt s.heap z TI TO i1 i2 a b k) (ha : s.heap.IsTuple a xs) (hb : s.heap.IsTuple b ys) (hx : xs[k]? = some x) (hy : ys[k]? = some y)
    (hQ : ∀ h', ZSt h' z TI TO i1 i2 a b (k + 1) → IsPair h' s.heap.objs.size x y → h'.objs.size = s.heap.objs.size + 1 → (∀ c o, c ≠ z → c ≠ TO → c ≠ i1 → c ≠ i2 → s.heap.get? c = some o → h'.get? c = some o) → Q (.ref s.heap.objs.size) { s with heap := h' }) :
    wpAny (model prog w) A (Builtin.«zip.__next__» ⟨[.ref z], []⟩) (fun fin s' => ∃ v, fin = .done (.ret v) ∧ Q v s') E s := by
  obtain ⟨⟨o, f, hz, hl⟩, hTI, ⟨p, q, hTO⟩, h1, h2⟩ := S
  show wpAny _ _ (field (.ref z) 2 >>= _) _ _ _
  refine wpAny_bind (wpAny_field hz rfl (x := .bool false) rfl ?_)
  show wpAny _ _ (field (.ref z) 3 >>= _) _ _ _
  refine wpAny_bind (wpAny_field hz rfl (x := .ref TI) rfl (wpAny_bind (wpAny_seqItems hTI rfl ?_)))
  show wpAny _ _ (Builtin.SmallTypes.ownedTupleIsFree (.ref z) >>= _) _ _ _
  refine wpAny_bind (zn_free hz hl ?_ fun g0 hz0 s0 => ?_)
  · simp only [if_true]
    refine wpAny_bind (wpAny_rule (wpAny_bind (wpAny_field hz rfl (x := .ref TO) rfl (wpAny_bind (wpAny_setField_rec hz (by simp) fun g1 hz1 s1 => ?_)))))
    replace hz1 : ZO g1 z TI TO .ellipsis f := hz1
    refine wpAny_bind ?_
    simp only [List.zipIdx_cons, List.zipIdx_nil, List.forIn_cons, List.forIn_nil]
    refine wpAny_bind (wpAny_bind (wpAny_onRaise ?_))
    show wpAny _ _ (Builtin.SmallTypes.nextOf (.ref i1) >>= _) _ _ _
    refine wpAny_bind (nextOf_tuple_item (h1.extBut s1.extBut D.i1z) (ha.extBut s1.extBut D.l1z) hx fun g2 h12 s2 => wpAny_pure ?_)
    have hTO2 : IsPair g2 TO p q := s2.extBut _ _ D.TOi1 (s1.extBut _ _ D.TOz hTO)
    refine wpAny_bind (wpAny_seqItems hTO2 rfl (wpAny_bind (wpAny_updateSeq_pair hTO2 fun g3 hTO3 s3 => ?_)))
    replace hTO3 : IsPair g3 TO x q := hTO3
    refine wpAny_bind (wpAny_letGo (wpAny_pure (wpAny_bind (wpAny_bind (wpAny_onRaise ?_)))))
    show wpAny _ _ (Builtin.SmallTypes.nextOf (.ref i2) >>= _) _ _ _
    refine wpAny_bind (nextOf_tuple_item (((h2.extBut s1.extBut D.i2z).extBut s2.extBut D.i12.symm).extBut s3.extBut D.TOi2.symm) (((hb.extBut s1.extBut D.l2z).extBut s2.extBut D.l2i1).extBut s3.extBut D.l2TO) hy fun g4 h24 s4 => wpAny_pure ?_)
    have hTO4 : IsPair g4 TO x q := s4.extBut _ _ D.TOi2 hTO3
    refine wpAny_bind (wpAny_seqItems hTO4 rfl (wpAny_bind (wpAny_updateSeq_pair hTO4 fun g5 hTO5 s5 => ?_)))
    replace hTO5 : IsPair g5 TO x y := hTO5
    refine wpAny_bind (wpAny_letGo (wpAny_pure (wpAny_pure (wpAny_bind (wpAny_seqItems hTO5 rfl (wpAny_bind (wpAny_newTuple ?_)))))))
    have hsz : g5.objs.size = s.heap.objs.size := by rw [s5.1, s4.1, s3.1, s2.1, s1.1]
    have up5 : ∀ c o, c ≠ z → c ≠ TO → c ≠ i1 → c ≠ i2 → s.heap.get? c = some o → g5.get? c = some o := fun c o c1 c2 c3 c4 e => s5.extBut _ _ c2 (s4.extBut _ _ c4 (s3.extBut _ _ c2 (s2.extBut _ _ c3 (s1.extBut _ _ c1 e))))
    have hz5 : ZO g5 z TI TO .ellipsis f := s5.extBut _ _ D.TOz.symm (s4.extBut _ _ D.i2z.symm (s3.extBut _ _ D.TOz.symm (s2.extBut _ _ D.i1z.symm hz1)))
    have h15 : g5.IsTupleIter i1 a (k + 1) := ((h12.extBut s3.extBut D.TOi1.symm).extBut s4.extBut D.i12).extBut s5.extBut D.TOi1.symm
    have h25 : g5.IsTupleIter i2 b (k + 1) := h24.extBut s5.extBut D.TOi2.symm
    have zlt : z < g5.objs.size := Heap.lt_size hz5
    show wpAny _ _ (Builtin.SmallTypes.ownedTupleHandOut (.ref z) (.ref g5.objs.size) >>= _) _ _ _
    refine wpAny_bind ?_
    unfold Builtin.SmallTypes.ownedTupleHandOut
    have hz6 : ZO (g5.push { cls := .type "tuple", data := .seq #[x, y] }) z TI TO .ellipsis f := Heap.get?_push_of_some _ hz5
    refine wpAny_bind (wpAny_setField_rec hz6 (by simp) fun g7 hz7 s7 => ?_)
    replace hz7 : ZO g7 z TI TO (rawInt g5.objs.size) f := hz7
    refine wpAny_setField_rec hz7 (by simp) fun g8 hz8 s8 => ?_
    replace hz8 : ZO g8 z TI TO (rawInt g5.objs.size) false := hz8
    have up : ∀ c o, c ≠ z → g5.get? c = some o → g8.get? c = some o := fun c o c1 e => s8.extBut _ _ c1 (s7.extBut _ _ c1 (Heap.get?_push_of_some _ e))
    have hT : IsPair g8 g5.objs.size x y := s8.extBut _ _ (Nat.ne_of_gt zlt) (s7.extBut _ _ (Nat.ne_of_gt zlt) (Heap.get?_push_size _ rfl))
    have h8 : g8.objs.size = g5.objs.size + 1 := by rw [s8.1, s7.1, Heap.size_push]
    rw [hsz] at hT h8
    refine wpAny_pure ⟨_, rfl, ?_⟩
    show Q (.ref g5.objs.size) _
    rw [hsz]
    exact hQ g8 ⟨⟨_, _, hz8, .inr ⟨_, rfl⟩⟩, up _ _ D.TIz (up5 _ _ D.TIz D.TITO D.TIi1 D.TIi2 hTI), ⟨x, y, up _ _ D.TOz hTO5⟩, h15.at fun o e => up _ o D.i1z e, h25.at fun o e => up _ o D.i2z e⟩ hT h8
      fun c o c1 c2 c3 c4 e => up c o c1 (up5 c o c1 c2 c3 c4 e)
  · simp only [Bool.false_eq_true, if_false]
    refine wpAny_bind ?_
    rw [← Array.forIn_toList]
    simp only [List.forIn_cons, List.forIn_nil]
    refine wpAny_bind (wpAny_bind (wpAny_holding ?_))
    show wpAny _ _ (Builtin.SmallTypes.nextOf (.ref i1) >>= _) _ _ _
    refine wpAny_bind (nextOf_tuple_item (s := { s with heap := g0 }) (h1.extBut s0.extBut D.i1z) (ha.extBut s0.extBut D.l1z) hx fun g2 h12 s2 => wpAny_pure (wpAny_pure (wpAny_bind (wpAny_bind (wpAny_holding ?_)))))
    show wpAny _ _ (Builtin.SmallTypes.nextOf (.ref i2) >>= _) _ _ _
    refine wpAny_bind (nextOf_tuple_item (s := { s with heap := g2 }) ((h2.extBut s0.extBut D.i2z).extBut s2.extBut D.i12.symm) ((hb.extBut s0.extBut D.l2z).extBut s2.extBut D.l2i1) hy fun g3 h23 s3 => wpAny_pure (wpAny_pure (wpAny_pure ?_)))
    show wpAny _ _ (newTuple [x, y] >>= _) _ _ _
    refine wpAny_bind (wpAny_newTuple (wpAny_pure ⟨_, rfl, ?_⟩))
    have hsz : g3.objs.size = s.heap.objs.size := by rw [s3.1, s2.1, s0.1]
    have up : ∀ c o, c ≠ z → c ≠ TO → c ≠ i1 → c ≠ i2 → s.heap.get? c = some o → (g3.push { cls := .type "tuple", data := .seq #[x, y] }).get? c = some o := fun c o c1 _ c3 c4 e =>
      Heap.get?_push_of_some _ (s3.extBut _ _ c4 (s2.extBut _ _ c3 (s0.extBut _ _ c1 e)))
    have hT : IsPair (g3.push { cls := .type "tuple", data := .seq #[x, y] }) g3.objs.size x y := Heap.get?_push_size _ rfl
    have h8 : (g3.push { cls := .type "tuple", data := .seq #[x, y] }).objs.size = g3.objs.size + 1 := Heap.size_push ..
    show Q (.ref g3.objs.size) _
    rw [hsz] at hT h8 ⊢
    exact hQ _ ⟨⟨o, true, Heap.get?_push_of_some _ (s3.extBut _ _ D.i2z.symm (s2.extBut _ _ D.i1z.symm hz0)), hl⟩, up _ _ D.TIz D.TITO D.TIi1 D.TIi2 hTI,
      ⟨p, q, Heap.get?_push_of_some _ (s3.extBut _ _ D.TOi2 (s2.extBut _ _ D.TOi1 (s0.extBut _ _ D.TOz hTO)))⟩, (h12.extBut s3.extBut D.i12).at fun o e => Heap.get?_push_of_some _ e, h23.at fun o e => Heap.get?_push_of_some _ e⟩ hT h8 up
/-- its end -/
theorem zn_end {Q : Fin → Shared → Prop} (hh : A.handled = none) (D : ZipApart z TI TO i1 i2 a b) (S : ZSt s.heap z TI TO i1 i2 a b k) (ha : s.heap.IsTuple a xs) (hb : s.heap.IsTuple b ys) (hend : xs[k]? = none ∨ ys[k]? = none)
    (hE : ∀ h' e, (∀ c o, c ≠ z → c ≠ TO → c ≠ i1 → c ≠ i2 → s.heap.get? c = some o → h'.get? c = some o) → (∃ o, h'.get? e = some o ∧ o.cls = .type "StopIteration") → E (.ref e) { s with heap := h' }) :
    wpAny (model prog w) A (Builtin.«zip.__next__» ⟨[.ref z], []⟩) Q E s := by
  obtain ⟨⟨o, f, hz, hl⟩, hTI, ⟨p, q, hTO⟩, h1, h2⟩ := S
  show wpAny _ _ (field (.ref z) 2 >>= _) _ _ _
  refine wpAny_bind (wpAny_field hz rfl (x := .bool false) rfl ?_)
  show wpAny _ _ (field (.ref z) 3 >>= _) _ _ _
  refine wpAny_bind (wpAny_field hz rfl (x := .ref TI) rfl (wpAny_bind (wpAny_seqItems hTI rfl ?_)))
  show wpAny _ _ (Builtin.SmallTypes.ownedTupleIsFree (.ref z) >>= _) _ _ _
  refine wpAny_bind (zn_free hz hl ?_ fun g0 hz0 s0 => ?_)
  · simp only [if_true]
    refine wpAny_bind (wpAny_rule (wpAny_bind (wpAny_field hz rfl (x := .ref TO) rfl (wpAny_bind (wpAny_setField_rec hz (by simp) fun g1 hz1 s1 => ?_)))))
    replace hz1 : ZO g1 z TI TO .ellipsis f := hz1
    refine wpAny_bind ?_
    simp only [List.zipIdx_cons, List.zipIdx_nil, List.forIn_cons, List.forIn_nil]
    refine wpAny_bind (wpAny_bind (wpAny_onRaise ?_))
    show wpAny _ _ (Builtin.SmallTypes.nextOf (.ref i1) >>= _) _ _ _
    cases hx : xs[k]? with
    | none =>
      refine wpAny_bind (nextOf_tuple_end hh (h1.extBut s1.extBut D.i1z) (ha.extBut s1.extBut D.l1z) hx fun g2 e s2 he => ?_)
      obtain ⟨oe, hoe, hce⟩ := he
      have hz2 : ZO g2 z TI TO .ellipsis f := s2 _ _ D.i1z.symm hz1
      have ez : e ≠ z := fun x => by subst x; rw [hz2] at hoe; cases hoe; simp at hce
      exact wpAny_setField_rec hz2 (by simp) fun g3 _ s3 => hE g3 e (fun c o c1 _ c3 _ x => s3.extBut _ _ c1 (s2 _ _ c3 (s1.extBut _ _ c1 x))) ⟨oe, s3.extBut _ _ ez hoe, hce⟩
    | some x =>
      have hy : ys[k]? = none := hend.resolve_left fun h => by rw [hx] at h; cases h
      refine wpAny_bind (nextOf_tuple_item (h1.extBut s1.extBut D.i1z) (ha.extBut s1.extBut D.l1z) hx fun g2 h12 s2 => wpAny_pure ?_)
      have hTO2 : IsPair g2 TO p q := s2.extBut _ _ D.TOi1 (s1.extBut _ _ D.TOz hTO)
      refine wpAny_bind (wpAny_seqItems hTO2 rfl (wpAny_bind (wpAny_updateSeq_pair hTO2 fun g3 hTO3 s3 => ?_)))
      refine wpAny_bind (wpAny_letGo (wpAny_pure (wpAny_bind (wpAny_bind (wpAny_onRaise ?_)))))
      show wpAny _ _ (Builtin.SmallTypes.nextOf (.ref i2) >>= _) _ _ _
      refine wpAny_bind (nextOf_tuple_end hh (((h2.extBut s1.extBut D.i2z).extBut s2.extBut D.i12.symm).extBut s3.extBut D.TOi2.symm) (((hb.extBut s1.extBut D.l2z).extBut s2.extBut D.l2i1).extBut s3.extBut D.l2TO) hy fun g4 e s4 he => ?_)
      obtain ⟨oe, hoe, hce⟩ := he
      have hz4 : ZO g4 z TI TO .ellipsis f := s4 _ _ D.i2z.symm (s3.extBut _ _ D.TOz.symm (s2.extBut _ _ D.i1z.symm hz1))
      have ez : e ≠ z := fun x => by subst x; rw [hz4] at hoe; cases hoe; simp at hce
      exact wpAny_setField_rec hz4 (by simp) fun g5 _ s5 => hE g5 e (fun c o c1 c2 c3 c4 x => s5.extBut _ _ c1 (s4 _ _ c4 (s3.extBut _ _ c2 (s2.extBut _ _ c3 (s1.extBut _ _ c1 x))))) ⟨oe, s5.extBut _ _ ez hoe, hce⟩
  · simp only [Bool.false_eq_true, if_false]
    refine wpAny_bind ?_
    rw [← Array.forIn_toList]
    simp only [List.forIn_cons, List.forIn_nil]
    refine wpAny_bind (wpAny_bind (wpAny_holding ?_))
    show wpAny _ _ (Builtin.SmallTypes.nextOf (.ref i1) >>= _) _ _ _
    cases hx : xs[k]? with
    | none => exact wpAny_bind (nextOf_tuple_end (s := { s with heap := g0 }) hh (h1.extBut s0.extBut D.i1z) (ha.extBut s0.extBut D.l1z) hx fun g2 e s2 he => hE g2 e (fun c o c1 _ c3 _ x => s2 _ _ c3 (s0.extBut _ _ c1 x)) he)
    | some x =>
      have hy : ys[k]? = none := hend.resolve_left fun h => by rw [hx] at h; cases h
      refine wpAny_bind (nextOf_tuple_item (s := { s with heap := g0 }) (h1.extBut s0.extBut D.i1z) (ha.extBut s0.extBut D.l1z) hx fun g2 h12 s2 => wpAny_pure (wpAny_pure (wpAny_bind (wpAny_bind (wpAny_holding ?_)))))
      show wpAny _ _ (Builtin.SmallTypes.nextOf (.ref i2) >>= _) _ _ _
      exact wpAny_bind (nextOf_tuple_end (s := { s with heap := g2 }) hh ((h2.extBut s0.extBut D.i2z).extBut s2.extBut D.i12.symm) ((hb.extBut s0.extBut D.l2z).extBut s2.extBut D.l2i1) hy fun g3 e s3 he => hE g3 e (fun c o c1 _ c3 c4 x => s3 _ _ c4 (s2.extBut _ _ c3 (s0.extBut _ _ c1 x))) he)
end
theorem turn_zn {P : Program} {w : World} {K : PySem.W.Frag} {x : Str} {px : Pos} {a b z TI TO i1 i2 : Addr} (D : ZipApart z TI TO i1 i2 a b) : Turn P w K (.Name x px) (ItzT K a b) [z, TI, TO, i1, i2] z (fun i h => ZSt h z TI TO i1 i2 a b i) where
  mem := by simp
  obj := fun i h st c hc => by
    obtain ⟨⟨o, f, hz, _⟩, hTI, ⟨p, q, hTO⟩, ⟨o1, e1, _, d1⟩, ⟨o2, e2, _, d2⟩⟩ := st
    have e' : c = z ∨ c = TI ∨ c = TO ∨ c = i1 ∨ c = i2 := by simpa using hc
    rcases e' with r | r | r | r | r
    · rw [r]; exact ⟨_, hz, fun v q => nomatch q⟩
    · rw [r]; exact ⟨_, hTI, fun v q => nomatch q⟩
    · rw [r]; exact ⟨_, hTO, fun v q => nomatch q⟩
    · rw [r]; exact ⟨o1, e1, fun v q => by rw [d1] at q; cases q⟩
    · rw [r]; exact ⟨o2, e2, fun v q => by rw [d2] at q; cases q⟩
  keep := fun i h h' st kk => by
    obtain ⟨⟨o, f, hz, hl⟩, hTI, ⟨p, q, hTO⟩, h1, h2⟩ := st
    exact ⟨⟨o, f, kk z (by simp) _ hz, hl⟩, kk TI (by simp) _ hTI, ⟨p, q, kk TO (by simp) _ hTO⟩, h1.at fun o q => kk i1 (by simp) o q, h2.at fun o q => kk i2 (by simp) o q⟩
  item := by
    intro X hP hw hK hc i pins s σ H E I hf st hg
    subst hP hw hK
    obtain ⟨xs, ys, x, y, hqx, hqy, hx, hy⟩ := hg
    obtain ⟨its, rv, p1, _⟩ := I.tuple hqx
    obtain ⟨its2, rv2, p2, _⟩ := I.tuple hqy
    obtain ⟨u, hu, ru⟩ := rv.get hx
    obtain ⟨u2, hu2, ru2⟩ := rv2.get hy
    have hT : s.TypeIs (.ref z) "zip" := let ⟨_, _, hz, _⟩ := st.ob; ⟨_, hz, rfl⟩
    have lts : ∀ c ∈ [z, TI, TO, i1, i2], c < s.heap.objs.size := fun c hcm => by
      obtain ⟨⟨o, f, hz, _⟩, hTI, ⟨p, q, hTO⟩, ⟨o1, e1, _, d1⟩, ⟨o2, e2, _, d2⟩⟩ := id st
      have e' : c = z ∨ c = TI ∨ c = TO ∨ c = i1 ∨ c = i2 := by simpa using hcm
      rcases e' with r | r | r | r | r
      · rw [r]; exact Heap.lt_size hz
      · rw [r]; exact Heap.lt_size hTI
      · rw [r]; exact Heap.lt_size hTO
      · rw [r]; exact Heap.lt_size e1
      · rw [r]; exact Heap.lt_size e2
    unfold pyNext
    refine wpAny_bind (wpAny_attempt (wpAny_callSpecial?_slot (name := Str.ofString "__next__") hT F.slot_zip_next (wpAny_call_entry F.slot_zip_next hT F.entry_zip_next
      (zn_item D st (show s.heap.IsTuple a its.toArray from p1) (show s.heap.IsTuple b its2.toArray from p2) (x := u) (y := u2) (by simpa using hu) (by simpa using hu2) fun h' st' hp hsz hk => wpAny_pure ?_) (F.args_zip_next_1 _))))
    have new : ObjOk X.prog X.w (upd H s.heap.objs.size (.tup [x, y])) h' s.heap.objs.size (.tup [x, y]) := ⟨by show 2 ≤ sizeLine; decide, [u, u2], .cons ru (.cons ru2 .nil), ⟨_, hp, rfl, _, rfl⟩⟩
    have J : Inv X pins σ (upd H s.heap.objs.size (.tup [x, y])) { s with heap := h' } :=
      I.turnedNew (t' := s.toks) (ch := [z, TI, TO, i1, i2]) (fun c o hb q => hk c o (fun q' => hb (by simp [q'])) (fun q' => hb (by simp [q'])) (fun q' => hb (by simp [q'])) (fun q' => hb (by simp [q'])) q) hf (Nat.le_refl _) new
    refine ⟨_, rfl, ?_⟩
    unfold letOwnedTupleGo
    refine wpAny_pure ⟨.ref s.heap.objs.size, _, J, rfl, ⟨_, x, y, rfl, I.hok.fresh (Nat.le_refl _), rfl, fun l hl => by rw [I.tuple_inj hl hqx]; exact hx, fun l hl => by rw [I.tuple_inj hl hqy]; exact hy⟩, st', fun c hcm => ?_⟩
    rw [upd_ne (Nat.ne_of_lt (lts c hcm))]
    exact (hf c hcm).1
  done := by
    intro X hP hw hK hc i pins s σ H E I hf st hg
    subst hP hw hK
    obtain ⟨xs, ys, hqx, hqy, hend⟩ := hg
    obtain ⟨its, rv, p1, _⟩ := I.tuple hqx
    obtain ⟨its2, rv2, p2, _⟩ := I.tuple hqy
    have l1 := rv.length
    have l2 := rv2.length
    have he : its.toArray[i]? = none ∨ its2.toArray[i]? = none := by
      rcases hend with q | q
      · exact .inl (by simp; omega)
      · exact .inr (by simp; omega)
    have hT : s.TypeIs (.ref z) "zip" := let ⟨_, _, hz, _⟩ := st.ob; ⟨_, hz, rfl⟩
    unfold pyNext
    refine wpAny_bind (wpAny_attempt (wpAny_callSpecial?_slot (name := Str.ofString "__next__") hT F.slot_zip_next (wpAny_call_entry F.slot_zip_next hT F.entry_zip_next
      (zn_end (I.ok.hd hc) D st (show s.heap.IsTuple a its.toArray from p1) (show s.heap.IsTuple b its2.toArray from p2) he fun h' e hk he => ?_) (F.args_zip_next_1 _))))
    obtain ⟨o, ho, hc⟩ := he
    refine wpAny_bind (wpAny_isInstance (T := "StopIteration") (b := true) ⟨o, ho, hc⟩ isSubtype_stop (wpAny_pure ⟨rfl, ?_⟩))
    exact I.turnedL (t' := s.toks) (ch := [z, TI, TO, i1, i2]) (fun c o hb q => hk c o (fun q' => hb (by simp [q'])) (fun q' => hb (by simp [q'])) (fun q' => hb (by simp [q'])) (fun q' => hb (by simp [q'])) q) hf
  self := fun A i s Q E st h => by
    obtain ⟨o, f, hz, _⟩ := st.ob
    have hT : s.TypeIs (.ref z) "zip" := ⟨_, hz, rfl⟩
    exact wpAny_pyIter_slot hT F.slot_zip_iter (wpAny_call_entry F.slot_zip_iter hT F.entry_zip_iter (wpAny_pure ⟨_, rfl, "zip", _, hT, F.slot_zip_next.lookup, h⟩) (F.args_zip_iter_1 _))
def iZipN (K : PySem.W.Frag) (ta : TA) : TI := fun σ H R => ta σ H fun vs H1 => ∃ a b xs ys, vs = [.ref a, .ref b] ∧ SqT K H1 a xs ∧ SqT K H1 b ys ∧ R (ItzT K a b) H1
theorem pi_zipN {X : Cx} {e e2 : Expr} {ta : TA} {x : Str} {p pos px : Pos} (hg : Gl X "zip") (hm : X.mg "zip" = none) (ha : PA X [e, e2] ta)
    (hs : starEach [e, e2] X.env = (false, eval e X.env) :: starEach [e2] X.env := by rfl) (hpl : (backTo pos (starEach [e2] X.env)).any (·.1) = false := by rfl) :
    PI X (.Name x px) (.Call (.Name "zip" p) [e, e2] [] pos) (iZipN X.K ta) := by
  refine ⟨fun pins s σ H R I h => ?_⟩
  refine Call_ (ld_blt I hg hm PyProof.Rows.boot_zip (PyProof.Rows.callWith_type1 (thn (ha.run pos pins s σ H _ I h) fun us s1 ⟨vs, H1, I1, r1, a, b, xs, ys, ex, hqx, hqy, q⟩ => ?_) hs hpl))
  subst ex
  obtain ⟨u1, u2, rfl, ra, rb⟩ := vals2 r1
  cases ra
  cases rb
  obtain ⟨its, rv, p1, _⟩ := I1.tuple hqx
  obtain ⟨its2, rv2, p2, _⟩ := I1.tuple hqy
  refine call_zipT (show s1.heap.IsTuple a its.toArray from p1) (show s1.heap.IsTuple b its2.toArray from p2) fun h' hz hTI hTO h1 h2 hsz hk => wpAny_pyIter_zip hz ?_
  refine ⟨s1.heap.objs.size + 4, [s1.heap.objs.size + 4, s1.heap.objs.size + 2, s1.heap.objs.size + 3, s1.heap.objs.size, s1.heap.objs.size + 1], _, _, H1, rfl, I1.kept (t' := s1.toks) hk, turn_zn (PySem.W.ktu_apart s1.heap.objs.size a b p1.lt p2.lt),
    ⟨⟨_, _, hz, .inl rfl⟩, hTI, ⟨_, _, hTO⟩, h1, h2⟩, fun c hcm => ?_, q⟩
  have hle : s1.heap.objs.size ≤ c := by
    have e' : c = s1.heap.objs.size + 4 ∨ c = s1.heap.objs.size + 2 ∨ c = s1.heap.objs.size + 3 ∨ c = s1.heap.objs.size ∨ c = s1.heap.objs.size + 1 := by simpa using hcm
    rcases e' with r | r | r | r | r <;> rw [r] <;> first | exact Nat.le_add_right _ _ | exact Nat.le_refl _
  exact I1.fpOk hle (I1.hok.fresh hle)
end K5
namespace K5
open PySem PySem.Spec PyProof.Rows PySem.W L2 LamX

/-! ### max, min of a pair -/
section
variable {X : Cx}
theorem pair_reads {h : Heap} {i j : Int} {us : List Value} (r : Vals [.int i, .int j] us) : ReadsAll h us [.int i, .int j] [] := by
  have := ints_read (h := h) (r := [i, j]) (us := us) r
  exact this
theorem alike2 (i j : Int) : AlikeAll [PyData.int i, PyData.int j] :=
  ⟨fun x hx y hy => by
    have hx' : x = .int i ∨ x = .int j := by simpa using hx
    have hy' : y = .int i ∨ y = .int j := by simpa using hy
    rcases hx' with rfl | rfl <;> rcases hy' with rfl | rfl <;> simp [alike], fun x hx => by
    have hx' : x = .int i ∨ x = .int j := by simpa using hx
    rcases hx' with rfl | rfl <;> exact fun z => nomatch z⟩
theorem call_maxP (hcalm : X.calm = true) (hu : X.A.units + 64 < cLine) : CallR X (.builtin "max") (fun xs H Q => ∃ a i j, xs = [.ref a] ∧ SqT X.K H a [.int i, .int j] ∧ Q (.int (max i j)) H) := by
  intro pins s σ H xs us Q I r ⟨a, i, j, ex, hq, q⟩
  subst ex
  obtain rfl := Vals.ref1 r
  obtain ⟨its, rv, p, hz⟩ := I.tuple hq
  refine max_tuple_data (I.ok.hd hcalm) (show s.heap.IsTuple a its.toArray from p) (by simpa using pair_reads rv) (alike2 i j) (by simp only [PyData.depthAll, PyData.depth]; omega) fun n v h' tk bs hv rd kk => ?_
  have e : maxD (.int i) [.int j] = .int (max i j) := by
    unfold maxD
    simp only [List.foldl_cons, List.foldl_nil, dataLt_int]
    by_cases h : i < j
    · rw [decide_eq_true h, if_pos rfl, Int.max_eq_right (by omega)]
    · rw [decide_eq_false h, if_neg Bool.false_ne_true, Int.max_eq_left (by omega)]
  rw [e] at rd
  cases rd with
  | int _ t => exact ⟨.int (max i j), H, I.kept kk, ⟨t, rfl⟩, q⟩
theorem call_minP (hcalm : X.calm = true) (hu : X.A.units + 64 < cLine) : CallR X (.builtin "min") (fun xs H Q => ∃ a i j, xs = [.ref a] ∧ SqT X.K H a [.int i, .int j] ∧ Q (.int (min i j)) H) := by
  intro pins s σ H xs us Q I r ⟨a, i, j, ex, hq, q⟩
  subst ex
  obtain rfl := Vals.ref1 r
  obtain ⟨its, rv, p, hz⟩ := I.tuple hq
  refine min_tuple_data (I.ok.hd hcalm) (show s.heap.IsTuple a its.toArray from p) (by simpa using pair_reads rv) (alike2 i j) (by simp only [PyData.depthAll, PyData.depth]; omega) fun n v h' tk bs hv rd kk => ?_
  have e : minD (.int i) [.int j] = .int (min i j) := by
    unfold minD
    simp only [List.foldl_cons, List.foldl_nil, dataLt_int]
    by_cases h : j < i
    · rw [decide_eq_true h, if_pos rfl, Int.min_eq_right (by omega)]
    · rw [decide_eq_false h, if_neg Bool.false_ne_true, Int.min_eq_left (by omega)]
  rw [e] at rd
  cases rd with
  | int _ t => exact ⟨.int (min i j), H, I.kept kk, ⟨t, rfl⟩, q⟩
end

/-! ### enumerate(tuple) -/
def IteT (K : Frag) (a : Addr) : It :=
  ⟨fun i H => ∃ (xs : List V) (x : V), SqT K H a xs ∧ xs[i]? = some x, fun i H v H' => ∃ T x, v = .ref T ∧ H T = none ∧ H' = upd H T (.tup [.int (i : Nat), x]) ∧ ∀ xs, SqT K H a xs → xs[i]? = some x, fun i H => ∃ xs : List V, SqT K H a xs ∧ xs.length = i⟩
theorem walk_enumT {K : Frag} {a : Addr} {xs : List V} : Walk (IteT K a) xs.length (fun H => SqT K H a xs) (YPair (fun i => some (.int (i : Nat))) (fun i => xs[i]?)) :=
  ⟨fun i _ hi q => ⟨xs, xs[i], q, by simp [hi]⟩, fun _ q => ⟨xs, q, rfl⟩, fun i H v H' _ q y => by
    obtain ⟨T, x, h1, h2, h3, h4⟩ := y
    exact ⟨T, .int (i : Nat), x, h1, h2, h3, rfl, h4 xs q⟩⟩
theorem turn_enumT {P : Program} {w : World} {K : Frag} {elts : List Expr} {kk : Nat} {tpos : Pos} {a e it : Addr} (hat : a ≠ it) (hae : e ≠ a) :
    Turn P w K (.Tuple elts kk tpos) (IteT K a) [e, it] e (fun i h => (∃ old, IsEnum h e it ((i : Nat) : Int) old) ∧ h.IsTupleIter it a i ∧ e ≠ it) where
  mem := by simp
  obj := fun i h st b hb => by
    obtain ⟨⟨old, he⟩, ⟨o, ho, hc, hd⟩, _⟩ := st
    have e' : b = e ∨ b = it := by simpa using hb
    rcases e' with r | r
    · rw [r]; exact ⟨_, he, fun v q => nomatch q⟩
    · rw [r]; exact ⟨o, ho, fun v q => by rw [hd] at q; cases q⟩
  keep := fun i h h' st k => ⟨st.1.elim fun old he => ⟨old, k e (by simp) _ he⟩, st.2.1.at fun o q => k it (by simp) o q, st.2.2⟩
  item := by
    intro X hP hw hK hc i pins s σ H E I hf st hg
    subst hP hw hK
    obtain ⟨⟨old, he⟩, hit, hne⟩ := st
    obtain ⟨xs, x, hq, hx⟩ := hg
    obtain ⟨its, rv, p, hz⟩ := I.tuple hq
    obtain ⟨u, hu, ru⟩ := rv.get hx
    have pT : s.heap.IsTuple a its.toArray := p
    have il : i < its.toArray.size := by
      rw [List.size_toArray]
      exact (List.getElem?_eq_some_iff.mp hu).1
    have lts : ∀ b ∈ [e, it], b < s.heap.objs.size := fun b hb => by
      obtain ⟨_, q, _⟩ := id hit
      have e' : b = e ∨ b = it := by simpa using hb
      rcases e' with r | r
      · rw [r]; exact Heap.lt_size he
      · rw [r]; exact Heap.lt_size q
    have hel := lts e (by simp)
    refine wpAny_pyNext_enum_itemD (Draws.tuple (A := X.A.in1) (I.ok.hd hc) it a hat its.toArray) he ⟨hit, pT⟩ il hne (by simp; exact ⟨hne, hae⟩) fun v h' tk hv ho st' hT hsz hk => ?_
    obtain rfl : u = v := by
      have q : its[i]? = some v := by simpa using hv
      rw [hu] at q
      exact Option.some.inj q
    refine ⟨_, rfl, wpAny_letOwnedTupleGo_enum (s := { s with heap := h', toks := tk + 1 }) ho fun h'' he' sb => ?_⟩
    have hT2 : h''.get? s.heap.objs.size = some { cls := .type "tuple", data := .seq #[.int i tk, u] } := (sb.2 _ (Nat.ne_of_gt hel)).trans hT
    have J : Inv X pins σ (upd H s.heap.objs.size (.tup [.int (i : Nat), x])) { s with heap := h'', toks := tk + 1 } :=
      I.turnedNew (t' := tk + 1) (ch := [e, it]) (fun b ob hb q => (sb.2 b (fun z => hb (by simp [z]))).trans (hk b ob (fun z => hb (by simp [z])) (fun z => hb (by simp [z])) q)) hf (Nat.le_refl _)
        ⟨by show 2 ≤ sizeLine; decide, [.int i tk, u], .cons ⟨_, rfl⟩ (.cons ru .nil), ⟨_, hT2, rfl, _, rfl⟩⟩
    refine ⟨.ref s.heap.objs.size, _, J, rfl, ⟨_, x, rfl, I.hok.fresh (Nat.le_refl _), rfl, fun ys hy => by rw [I.tuple_inj hy hq]; exact hx⟩, ⟨⟨u, ?_⟩, st'.1.at fun o q => (sb.2 it (Ne.symm hne)).trans q, hne⟩, fun b hb => ?_⟩
    · have e1 : ((i + 1 : Nat) : Int) = (i : Int) + 1 := by omega
      rw [e1]; exact he'
    · rw [upd_ne (Nat.ne_of_lt (lts b hb))]
      exact (hf b hb).1
  done := by
    intro X hP hw hK hc i pins s σ H E I hf st hg
    subst hP hw hK
    obtain ⟨⟨old, he⟩, hit, hne⟩ := st
    obtain ⟨xs, hq, hx⟩ := hg
    obtain ⟨its, rv, p, hz⟩ := I.tuple hq
    obtain ⟨f0, f1, f2, f3, f4, f5⟩ := hf it (by simp)
    have hl := rv.length
    have hs : its.toArray.size = i := by rw [List.size_toArray]; omega
    have D := Draws.tuple (prog := X.prog) (w := X.w) (A := X.A.in1) (I.ok.hd hc) it a hat its.toArray
    rw [hs] at D
    exact wpAny_pyNext_enum_endD D he ⟨hit, p⟩ fun h' eb => ⟨rfl, I.turned (t' := s.toks) (fun b o hb q => eb b o hb q) f0 f1 f3 f4 f5⟩
  self := fun A i s Q E st h => let ⟨⟨_, he⟩, _⟩ := st; wpAny_pyIter_enum he h
theorem meets_enum1 (t : Addr) (items : Array Value) :
    Meets (Builtin.«enumerate.__new__» ⟨[.type "enumerate", .ref t], []⟩) (fun _ R s => s.heap.IsTuple t items ∧
      R (.ok (.ret (.ref (s.heap.push { cls := .type "tuple_iterator", data := .fields #[.ref t, .int 0 0] }).objs.size)))
        { s with heap := (s.heap.push { cls := .type "tuple_iterator", data := .fields #[.ref t, .int 0 0] }).push { cls := .type "enumerate", data := .fields #[.none, .bool false, .ref s.heap.objs.size, rawInt 0, .none, .none] } }) :=
  .of_wp fun prog w A R s h => by
    obtain ⟨hp, g, d, tk, os⟩ := s
    obtain ⟨h1, h⟩ := h
    have hsub := sub_enumerate
    have hL : Heap.IsTuple (Shared.heap ⟨hp, g, d, tk, os⟩) t items := h1
    wp_walk using wpAny_pyIter_tuple hL
    refine wpAny_stack_any fun st => wpAny_pure ?_
    split
    · rename_i c _ _ _ _ _
      cases (c == Value.type "enumerate")
      · wp_walk using wpAny_pyIter_tuple hL
        exact ⟨_, rfl, h⟩
      · wp_walk using wpAny_pyIter_tuple hL
        exact ⟨_, rfl, h⟩
    · wp_walk using wpAny_pyIter_tuple hL
      exact ⟨_, rfl, h⟩
def iEnumT (K : Frag) (ta : TA) : TI := fun σ H R => ta σ H fun vs H1 => ∃ a xs, vs = [.ref a] ∧ SqT K H1 a xs ∧ R (IteT K a) H1
theorem pi_enumT {X : Cx} {e : Expr} {ta : TA} {p pos tpos : Pos} {elts : List Expr} {kk : Nat} (hg : Gl X "enumerate") (hm : X.mg "enumerate" = none) (ha : PA X [e] ta) (hs : starEach [e] X.env = [(false, eval e X.env)] := by rfl) :
    PI X (.Tuple elts kk tpos) (.Call (.Name "enumerate" p) [e] [] pos) (iEnumT X.K ta) := by
  refine ⟨fun pins s σ H R I h => ?_⟩
  refine Call_ (ld_blt I hg hm boot_enumerate (PyProof.Rows.callWith_type1 (thn (ha.run pos pins s σ H _ I h) fun us s1 ⟨vs, H1, I1, r1, a, xs, ex, hq, q⟩ => ?_) hs rfl))
  subst ex
  obtain rfl := Vals.ref1 r1
  obtain ⟨its, rv, p', hz⟩ := I1.tuple hq
  have la : a < s1.heap.objs.size := p'.lt
  refine callType_new F.called_enumerate (by decide) (F.typeCall_enumerate_1 _) (F.newCall_enumerate_1 _) (fun obj => F.args_object_init_2 obj _) F.entry_enumerate_new (meets_enum1 a its.toArray) ⟨p', ?_⟩
  generalize hh : (s1.heap.push { cls := .type "tuple_iterator", data := .fields #[.ref a, .int 0 0] }) = h1
  have z1 : h1.objs.size = s1.heap.objs.size + 1 := by rw [← hh, Heap.size_push]
  have g1 : h1.get? s1.heap.objs.size = some { cls := .type "tuple_iterator", data := .fields #[.ref a, .int 0 0] } := by rw [← hh]; exact Heap.get?_push_size _ rfl
  have k1 : ∀ b u, s1.heap.get? b = some u → h1.get? b = some u := fun b u q => by rw [← hh]; exact Heap.get?_push_of_some _ q
  have he : IsEnum (h1.push { cls := .type "enumerate", data := .fields #[.none, .bool false, .ref s1.heap.objs.size, rawInt 0, .none, .none] }) h1.objs.size s1.heap.objs.size 0 .none := Heap.get?_push_size _ rfl
  have I2 : Inv X pins σ H1 { s1 with heap := h1.push { cls := .type "enumerate", data := .fields #[.none, .bool false, .ref s1.heap.objs.size, rawInt 0, .none, .none] } } := I1.kept (t' := s1.toks) fun b u q => Heap.get?_push_of_some _ (k1 b u q)
  show _ ∧ _
  refine ⟨⟨_, he, rfl⟩, wpAny_pyIter_enum he ?_⟩
  refine ⟨h1.objs.size, [h1.objs.size, s1.heap.objs.size], _, _, H1, rfl, I2, turn_enumT (Nat.ne_of_lt la) (by rw [z1]; exact Nat.ne_of_gt (Nat.lt_succ_of_lt la)), ⟨⟨.none, he⟩, ⟨_, Heap.get?_push_of_some _ g1, rfl, rfl⟩, by rw [z1]; exact Nat.succ_ne_self _⟩, fun b hb => ?_, q⟩
  have hle : s1.heap.objs.size ≤ b := by
    have e' : b = h1.objs.size ∨ b = s1.heap.objs.size := by simpa using hb
    rcases e' with r | r
    · rw [r, z1]; exact Nat.le_succ _
    · rw [r]; exact Nat.le_refl _
  exact I1.fpOk hle (I1.hok.fresh hle)
end K5
namespace K5
open PySem PySem.Spec PyProof.Rows PySem.W L2 LamX

/-! ### for k in d: d is locked when it begins -/
/-- d is locked: it was, or it is from now on -/
def LockS (H : Hp) (d : Addr) (u : HO) (o : Obj) (H' : Hp) : Prop := (H d = some (.frz o u) ∧ H' = H) ∨ (H d = some u ∧ H' = upd H d (.frz o u))
theorem LockS.at {H H' : Hp} {d : Addr} {u : HO} {o : Obj} (h : LockS H d u o H') : H' d = some (.frz o u) := by
  rcases h with ⟨h, rfl⟩ | ⟨h, rfl⟩
  · exact h
  · exact upd_same
theorem LockS.ext {T : List (Addr × Str)} {H0 H H' : Hp} {d : Addr} {u : HO} {o : Obj} (h : LockS H d u o H') (e : Ext T H0 H) (h0 : H0 d = none) (su : Soft u) : Ext T H0 H' := by
  rcases h with ⟨h, rfl⟩ | ⟨h, rfl⟩
  · exact e
  · exact e.mut h0 h su
theorem LockS.kt {H H' : Hp} {d : Addr} {u : HO} {o : Obj} (h : LockS H d u o H') (su : ∀ xs, u ≠ .tup xs) : KT H H' := by
  rcases h with ⟨h, rfl⟩ | ⟨h, rfl⟩
  · exact .refl _
  · exact KT.mut h su
def ItN (P : Program) (w : World) (d : Addr) (o : Obj) (L : DnL) : It :=
  ⟨fun i H => H d = some (.frz o (DnO P w d L)) ∧ i < L.length, fun i H x H' => H' = H ∧ ∃ y, L[i]? = some y ∧ x = .ref y.2.1, fun i H => H d = some (.frz o (DnO P w d L)) ∧ L.length ≤ i⟩
theorem walk_n {P : Program} {w : World} {d : Addr} {o : Obj} {L : DnL} : Walk (ItN P w d o L) L.length (fun H => H d = some (.frz o (DnO P w d L))) (YAt (L.map fun x => .ref x.2.1)) :=
  ⟨fun _ _ hi q => ⟨q, hi⟩, fun _ q => ⟨q, Nat.le_refl _⟩, fun _ _ _ _ _ _ y => by
    obtain ⟨e, y, h1, h2⟩ := y
    exact ⟨e, by rw [List.getElem?_map, h1, h2]; rfl⟩⟩
section
variable {X : Cx} {pins : List (Addr × Obj)} {σ : L2.St} {H : Hp} {s : Shared} {d : Addr} {o : Obj} {L : DnL}
theorem frz_dn (I : Inv X pins σ H s) (h : H d = some (.frz o (DnO X.prog X.w d L))) : (d == sysModules) = false ∧ s.heap.get? d = some o ∧ o.ExactDict ∧ ∃ (es : Array DictEntry) (ep : Nat), o.data = .dict es ep ∧ es.size = L.length ∧ ∀ (i : Nat) (y : Tab × Addr × V), L[i]? = some y → ∃ en : DictEntry, es[i]? = some en ∧ en.key = .ref y.2.1 := by
  obtain ⟨hd, ⟨z1, z2, xs, r, o', es, ep, e1, e2, e3, e4, e5⟩, _, _⟩ := (show ObjOk X.prog X.w H s.heap d (.frz o (DnO X.prog X.w d L)) from I.hok d _ h)
  rw [hd] at e1
  cases e1
  have hl : L.length = xs.length := Paired.length r
  refine ⟨z1, hd, e2, es, ep, e3, by rw [hl]; exact size_of_entries e4, fun i y e => ?_⟩
  obtain ⟨b, hb, q1, q2, _⟩ := paired_get r e
  have q := entry_at e4 i
  rw [hb] at q
  exact ⟨_, q, by rw [q2]; rfl⟩
end
theorem turn_n {P : Program} {w : World} {K : Frag} {tg : Expr} {d : Addr} {o : Obj} {es : Array DictEntry} {ep : Nat} {L : DnL} (it : Addr) (hod : o.data = .dict es ep) : Turn P w K tg (ItN P w d o L) [it] it (fun i h => h.IsKeyIter it d i L.length ep) where
  mem := by simp
  obj := fun i h st b hb => by
    obtain ⟨oi, e, c, dd⟩ := st
    rw [show b = it by simpa using hb]
    exact ⟨oi, e, fun v z => by rw [dd] at z; cases z⟩
  keep := fun i h h' st k => st.at fun oi e => k it (by simp) oi e
  item := by
    intro X hP hw hK hc i pins s σ H E I hf st hg
    subst hP hw hK
    obtain ⟨hd, hi⟩ := hg
    obtain ⟨f0, f1, f2, f3, f4, f5⟩ := hf it (by simp)
    obtain ⟨hs, hgd, hx, es', ep', hdt, hsz, ent⟩ := frz_dn I hd
    obtain ⟨rfl, rfl⟩ := dict_ep hod hdt
    have hy : L[i]? = some L[i] := List.getElem?_eq_getElem hi
    obtain ⟨en, hen, hkey⟩ := ent i _ hy
    refine next_key_item st hgd hdt hsz hen fun h' st' sb => ?_
    obtain ⟨oi, e, c, dd⟩ := id st'
    exact ⟨en.key, rfl, go_of (s := { s with heap := h' }) e c dd (by decide) ⟨.ref L[i].2.1, H, I.turned (t' := s.toks) (fun b ob hb e => (sb.2 b hb).trans e) f0 f1 f3 f4 f5, hkey, ⟨rfl, _, hy, rfl⟩, st', fun b hb => (hf b hb).1⟩⟩
  done := by
    intro X hP hw hK hc i pins s σ H E I hf st hg
    subst hP hw hK
    obtain ⟨hd, hi⟩ := hg
    obtain ⟨f0, f1, f2, f3, f4, f5⟩ := hf it (by simp)
    obtain ⟨hs, hgd, hx, es', ep', hdt, hsz, ent⟩ := frz_dn I hd
    obtain ⟨rfl, rfl⟩ := dict_ep hod hdt
    exact next_key_end (I.ok.hd hc) st hgd hdt hsz hi fun h' eb => ⟨rfl, I.turned (t' := s.toks) (fun b ob hb e => eb b ob hb e) f0 f1 f3 f4 f5⟩
  self := fun A i s Q E st h => wpAny_pyIter_keyiter st h
def iN (P : Program) (w : World) (td : TE) : TI := fun σ H R => td σ H fun x H1 => ∃ d L, x = .ref d ∧ Rd H1 d (DnO P w d L) ∧ ∀ o H2, LockS H1 d (DnO P w d L) o H2 → R (ItN P w d o L) H2
section
variable {X : Cx} {tg e : Expr} {td : TE}
theorem pi_n (he : PE X e td) : PI X tg e (iN X.prog X.w td) := by
  refine ⟨fun pins s σ H R I h => ?_⟩
  refine thn (he.run pins s σ H _ I h) fun u s1 ⟨x, H1, I1, rx, d, L, ex, rd, q⟩ => ?_
  subst ex
  obtain rfl : u = Value.ref d := rx
  obtain ⟨o, H2, hl, I2⟩ : ∃ o H2, LockS H1 d (DnO X.prog X.w d L) o H2 ∧ Inv X pins σ H2 s1 := by
    rcases rd with h | ⟨o, h⟩
    · obtain ⟨o, I2⟩ := I1.lock h (show Mut (some (DnO X.prog X.w d L)) from True.intro)
      exact ⟨o, _, .inr ⟨h, rfl⟩, I2⟩
    · exact ⟨o, H1, .inl ⟨h, rfl⟩, I1⟩
  obtain ⟨hs, hgd, hx, es, ep, hdt, hsz, ent⟩ := frz_dn I2 hl.at
  refine iter_keys hs hgd hx hdt (pi_one (tk := s1.toks) I2 _ (turn_n _ hdt) ⟨_, Heap.get?_push_size _ rfl, rfl, ?_⟩ (q o H2 hl))
  rw [hsz] <;> rfl
end

/-! ### dict comprehensions with tables as keys -/
section
variable {X : Cx}
/-- {k: v for target in iter}: D the new dict; W by the turn and a measure, Nx what a turn is to reach -/
def tNc (P : Program) (w : World) (wi : TI) (g : TG) (tk tv : TE) (vs : List Nat) : TE := fun σ H Q => wi σ H fun J H1 => ∀ D H0, NewD P w H1 D H0 → ∃ W : Nat → Nat → Hp → Prop, (∃ m, W 0 m H0) ∧ ∀ i m H, W i m H →
  (J.stop i H ∧ Q (.ref D) H) ∨ (J.go i H ∧ ∃ Nx : Hp → Prop, (∀ H', Nx H' → ∃ m', m' < m ∧ W (i + 1) m' H') ∧ ∀ x H', J.yld i H x H' → g x (wipe σ vs) H' fun σ2 H2 => wipe σ2 vs = wipe σ vs ∧
    tk σ2 H2 fun y H4 => tv σ2 H4 fun z H5 => ∃ a t kvs, y = .ref a ∧ IsTab H5 a t ∧ DictW P w H5 D kvs ∧ kvs.length < sizeLine ∧ ∀ o, DictW P w (upd H5 D o) D (putK kvs t z) → Nx (upd H5 D o))
theorem pe_ndc {kx vx tg iter : Expr} {scope : Scope} {own : List (Str × Nat)} {pos : Pos} {wi : TI} {g : TG} {tk tv : TE} (hu : X.A.units + 64 < cLine) (hc : X.calm = true) (hN : X.N.Nodup) (hi : PI X tg iter wi) (ok : BlkOk X.N X.env.scope scope own)
    (hg : ∀ (s : Shared) (H : Hp) (C : Addr) (cl : List (Str × Addr)) (fp : List Addr), PG (X.blk s H scope (compEnvC scope cl C X.env) fp) tg g)
    (hk : ∀ (s : Shared) (H : Hp) (C : Addr) (cl : List (Str × Addr)) (fp : List Addr), PE (X.blk s H scope (compEnvC scope cl C X.env) fp) kx tk)
    (hv : ∀ (s : Shared) (H : Hp) (C : Addr) (cl : List (Str × Addr)) (fp : List Addr), PE (X.blk s H scope (compEnvC scope cl C X.env) fp) vx tv) (hs : ∀ x, foldedSetIterable iter X.env x = pure x := by intro _; rfl) :
    PE X (.DictComp kx vx [⟨tg, iter, [], 0⟩] scope pos) (tNc X.prog X.w wi g tk tv (own.map (·.2))) := by
  refine ⟨fun pins s σ H Q I h => ?_⟩
  rw [arm_eval_DictComp]
  have hfree : ∀ y ∈ scope.names, y.2 = .free → ∃ c, X.env.cells.lookup y.1 = some c := fun y hy e => (ok.free y hy e).elim (fun k => I.ok.has _ (.inl k)) fun k => I.ok.has _ (.inr k)
  refine wpAny_comprehension_free (use := none) rfl hs (closure_ok hfree) ok.kind (fun y hy e => by rw [ok.uniq y hy, e]) (thn (hi.run pins s σ H _ I h) fun xv s1 hx => thn hx fun itv s2 ⟨it, fp, tn, J, H2, e, I2, T, st2, f2, q⟩ => ?_)
  subst e
  refine wpAny_newObj_type (newEnv_comp ?_)
  have nw := newD (P := X.prog) (w := X.w) (I2.hok.fresh (Nat.le_refl s2.heap.objs.size))
  have I3 := n_new I2
  obtain ⟨W, ⟨m0, w0⟩, turn⟩ := q _ _ nw
  generalize hD : s2.heap.objs.size = D at nw I3 turn w0
  generalize hH3 : upd H2 D (DnO X.prog X.w D []) = H3 at nw I3 w0
  have nwk : ∀ b, b ≠ D → H3 b = H2 b := fun b hb => by rw [← hH3, upd_ne hb]
  generalize hs3 : ({ s2 with heap := s2.heap.push { cls := .type "dict", data := .dict #[] } } : Shared) = s3 at I3
  have h3 : s3.heap = s2.heap.push { cls := .type "dict", data := .dict #[] } := by rw [← hs3]
  have f3 : ∀ b ∈ fp, FpOk X pins H3 b ∧ b < s3.heap.objs.size := fun b hb => by
    obtain ⟨ob, eb, _⟩ := T.obj _ _ st2 b hb
    have lt := Heap.lt_size eb
    exact ⟨⟨by rw [nwk b (by rw [← hD]; exact Nat.ne_of_lt lt)]; exact (f2 b hb).1, (f2 b hb).2⟩, by rw [h3, Heap.size_push]; exact Nat.lt_succ_of_lt lt⟩
  have nfp : ∀ b ∈ fp, H3 b = none := fun b hb => (f3 b hb).1.1
  have st3 : tn 0 s3.heap := T.keep _ _ _ st2 fun b _ o e => by rw [h3]; exact Heap.get?_push_of_some _ e
  have I4 := block_start I3 ok hN f3
  have pg := hg s3 H3 s3.heap.objs.size (cellsFrom (s3.heap.objs.size + 1) scope.names (cloFrom X.env.cells scope.names [])) fp
  have pk := hk s3 H3 s3.heap.objs.size (cellsFrom (s3.heap.objs.size + 1) scope.names (cloFrom X.env.cells scope.names [])) fp
  have pv := hv s3 H3 s3.heap.objs.size (cellsFrom (s3.heap.objs.size + 1) scope.names (cloFrom X.env.cells scope.names [])) fp
  show codeAny _ _ (.compStart (.DictComp kx vx [⟨tg, iter, [], 0⟩] scope pos) 0 (.ref it) (.ref D) (compEnvC scope (cellsFrom (s3.heap.objs.size + 1) scope.names (cloFrom X.env.cells scope.names [])) s3.heap.objs.size X.env))
    (compPost (model X.prog X.w) X.A X.xe none (EP X pins σ Q) (.ref D) s3.heap.objs.size) { s3 with heap := pushCells (s3.heap.push { cls := .type "dict", data := .dict #[] }) scope.names }
  generalize hce : compEnvC scope (cellsFrom (s3.heap.objs.size + 1) scope.names (cloFrom X.env.cells scope.names [])) s3.heap.objs.size X.env = ce at I4 pg pk pv ⊢
  have cL : ce.locals = s3.heap.objs.size := by subst hce; rfl
  generalize hs4 : ({ s3 with heap := pushCells (s3.heap.push { cls := .type "dict", data := .dict #[] }) scope.names } : Shared) = s4 at I4 ⊢
  have st4 : tn 0 s4.heap := T.keep _ _ _ st3 fun b _ o e => by rw [← hs4]; exact pushCells_keeps _ _ _ _ (Heap.get?_push_of_some _ e)
  generalize hY : X.blk s3 H3 scope ce fp = Y at I4 pg pk pv
  have eY : Y.prog = X.prog ∧ Y.w = X.w ∧ Y.K = X.K ∧ Y.calm = X.calm ∧ Y.A = X.A ∧ Y.env = ce := by subst hY; exact ⟨rfl, rfl, rfl, rfl, rfl, rfl⟩
  have stat : ∀ {σ' : L2.St} {H' : Hp} {s' : Shared}, Inv Y [] σ' H' s' → (∀ b ∈ fp, H' b = none) → ∀ b ∈ fp, FpOk Y [] H' b := by
    subst hY
    exact fun {σ' H' s'} I' hn b hb => ⟨hn b hb, (I'.ok.exf b hb).1, I'.ok.exfs b hb, .inl hb, fun x c e => (I'.ok.exf b hb).2 x c e, fun p hp => absurd (show p ∈ ([] : List (Addr × Obj)) ++ [] from hp) (by simp)⟩
  have back : ∀ {H5 : Hp} {s6 : Shared}, Inv Y [] (wipe σ (own.map (·.2))) H5 s6 → Q (.ref D) H5 → compPost (model X.prog X.w) X.A X.xe none (EP X pins σ Q) (.ref D) s3.heap.objs.size (.ok .next) s6 := by
    intro H5 s6 I6 qq
    subst hY
    have I7 : Inv X pins σ H5 s6 := I3.call' (ch := fp) I6.os I6.base I6.hok I6.bare fun b hb => ⟨(f3 b hb).1.2.2.2.1, (f3 b hb).1.2.1, (f3 b hb).1.2.2.2.2.1, (f3 b hb).1.2.2.2.2.2⟩
    have nC : H5 s3.heap.objs.size = none := by
      have z : H5 ce.locals = none := I6.free
      rw [cL] at z
      exact z
    obtain ⟨m, hn, _⟩ := I6.loc
    have hn : s6.heap.Ns ce.locals m := hn
    rw [cL] at hn
    obtain ⟨g0, g1, g2, g3, g4, g5⟩ := I3.fpOk (Nat.le_refl _) nC
    exact ⟨m, hn, fun h'' sb => ⟨.ref D, H5, I7.turned (t' := s6.toks) (fun b o hb e => (sb.2 b hb).trans e) g0 g1 g3 g4 g5, rfl, qq⟩⟩
  obtain ⟨y1, y2, y3, y4, y5, y6⟩ := eY
  have loop : codeAny (model X.prog X.w) X.A (.compLoop (.DictComp kx vx [⟨tg, iter, [], 0⟩] scope pos) 0 (.ref it) (.ref D) ce) (compPost (model X.prog X.w) X.A X.xe none (EP X pins σ Q) (.ref D) s3.heap.objs.size) s4 := by
    refine compLoop_anyD (fun n s' => ∃ i H', Inv Y [] (wipe σ (own.map (·.2))) H' s' ∧ tn i s'.heap ∧ (∀ b ∈ fp, H' b = none) ∧ W i n H') ?_ m0 ⟨0, H3, I4, st4, nfp, w0⟩
    rintro n s5 ⟨i, H5, I5, st5, n5, w5⟩
    rcases turn i n H5 w5 with ⟨stop, qq⟩ | ⟨go, Nx, hNx, step⟩
    · have td := T.done Y y1 y2 y3 (y4.trans hc) i [] s5 _ H5 (fun _ _ => False) I5 (stat I5 n5) st5 stop
      rw [y5] at td
      exact thnF td fun r s6 ⟨hr, I6⟩ => by
        subst hr
        exact back I6 qq
    · have ti := T.item Y y1 y2 y3 (y4.trans hc) i [] s5 _ H5 (fun _ _ => False) I5 (stat I5 n5) st5 go
      rw [y5] at ti
      refine thnF ti fun r s6 ⟨u, hr, h6⟩ => ?_
      subst hr
      refine thnF h6 fun _ s7 ⟨x, H7, I7, r7, y7, st7, n7⟩ => ?_
      have J7 := I7.pinned (stat I7 n7) (T.obj _ _ st7)
      have fin : ∀ {σ8 : L2.St} {s' : Shared} {H' : Hp}, wipe σ8 (own.map (·.2)) = wipe σ (own.map (·.2)) → Inv Y ([] ++ pinsAt fp s7.heap) σ8 H' s' → Nx H' →
          ∃ m, m < n ∧ ∃ i H', Inv Y [] (wipe σ (own.map (·.2))) H' s' ∧ tn i s'.heap ∧ (∀ b ∈ fp, H' b = none) ∧ W i m H' := fun {σ8 s' H'} hw I' nx => by
        obtain ⟨m', hm, w'⟩ := hNx H' nx
        have pin' : ∀ b ∈ fp, ∀ o, s7.heap.get? b = some o → s'.heap.get? b = some o ∧ H' b = none := fun b hb o e =>
          have z := I'.pin (b, o) (List.mem_append_right _ (List.mem_append_right _ (mem_pinsAt hb e)))
          ⟨z.1, z.2.1⟩
        refine ⟨m', hm, i + 1, H', (I'.unpinned (pins := [])).weak (by rw [← hw, wipe_length]) (fun j v e => ?_), T.keep _ _ _ st7 fun b hb o e => (pin' b hb o e).1, fun b hb => ?_, w'⟩
        · rw [← hw] at e
          exact (wipe_some e).1
        · obtain ⟨o, e, _⟩ := T.obj _ _ st7 b hb
          exact (pin' b hb o e).2
      have nox : Y.xe = fun _ _ => False := by subst hY; rfl
      have rg := pg.run _ s7 _ H7 x u _ J7 r7 (step x H7 y7)
      rw [y1, y2, y5, y6, nox] at rg
      refine thnF rg fun _ s8 ⟨σ8, H8, I8, hw8, q8⟩ => wpAny_tests_nil ?_
      simp only [if_true]
      have rk := pk.run _ s8 σ8 H8 _ I8 q8
      rw [y1, y2, y5, y6, nox] at rk
      refine thnF rk fun z s9 ⟨yk, H9, I9, r9, q9⟩ => ?_
      have rv := pv.run _ s9 σ8 H9 _ I9 q9
      rw [y1, y2, y5, y6, nox] at rv
      refine thnF rv fun z2 s10 ⟨yv, H10, I10, r10, a, t, kvs, ek, ht, hd, hz, nx⟩ => ?_
      subst ek
      obtain rfl : z = Value.ref a := r9
      have put := n_dictSet (A := X.A) (E := fun _ _ => False) (Q := fun _ s' => ∃ m, m < n ∧ ∃ i H', Inv Y [] (wipe σ (own.map (·.2))) H' s' ∧ tn i s'.heap ∧ (∀ b ∈ fp, H' b = none) ∧ W i m H') hu I10 (by rw [y1, y2]; exact hd) ht hz r10
        fun o s11 D11 I11 => fin hw8 I11 (nx o (by rw [y1, y2] at D11; exact D11))
      rw [y1, y2] at put
      exact thnF put fun _ _ z => z
  exact codeAny_compStart_dict loop (T.self X.A 0 _ _ _ st4 loop)
end
/-- a walk as such a comprehension's loop -/
theorem nc_it {P : Program} {w : World} {J : It} {n : Nat} {G : Hp → Prop} {Y : Nat → Hp → V → Hp → Prop} (wk : Walk J n G Y) {g : TG} {tk tv : TE} {vs : List Nat} {σ : L2.St} {H0 : Hp} {D : Addr} {Qd : Hp → Prop} (Pv : Nat → Hp → Prop) (h0 : Pv 0 H0) (hG : ∀ i H, i ≤ n → Pv i H → G H)
    (hs : ∀ i x H H', i < n → Pv i H → Y i H x H' → g x (wipe σ vs) H' fun σ2 H2 => wipe σ2 vs = wipe σ vs ∧
      tk σ2 H2 fun y H4 => tv σ2 H4 fun z H5 => ∃ a t kvs, y = .ref a ∧ IsTab H5 a t ∧ DictW P w H5 D kvs ∧ kvs.length < sizeLine ∧ ∀ o, DictW P w (upd H5 D o) D (putK kvs t z) → Pv (i + 1) (upd H5 D o)) (hd : ∀ H, Pv n H → Qd H) :
    ∃ W : Nat → Nat → Hp → Prop, (∃ m, W 0 m H0) ∧ ∀ i m H, W i m H →
      (J.stop i H ∧ Qd H) ∨ (J.go i H ∧ ∃ Nx : Hp → Prop, (∀ H', Nx H' → ∃ m', m' < m ∧ W (i + 1) m' H') ∧ ∀ x H', J.yld i H x H' → g x (wipe σ vs) H' fun σ2 H2 => wipe σ2 vs = wipe σ vs ∧
        tk σ2 H2 fun y H4 => tv σ2 H4 fun z H5 => ∃ a t kvs, y = .ref a ∧ IsTab H5 a t ∧ DictW P w H5 D kvs ∧ kvs.length < sizeLine ∧ ∀ o, DictW P w (upd H5 D o) D (putK kvs t z) → Nx (upd H5 D o)) := by
  refine ⟨fun i m H => m = n - i ∧ i ≤ n ∧ Pv i H, ⟨n, by simp, Nat.zero_le _, h0⟩, ?_⟩
  rintro i m H ⟨rfl, hi, p⟩
  have q := hG i H hi p
  by_cases hlt : i < n
  · exact .inr ⟨wk.goes i H hlt q, Pv (i + 1), fun H' p' => ⟨n - (i + 1), by omega, rfl, hlt, p'⟩, fun x H' y => hs i x H H' hlt p (wk.yields i H x H' hlt q y)⟩
  · have e : i = n := by omega
    subst e
    exact .inl ⟨wk.stops H q, hd H p⟩
end K5
namespace K5
open PySem PySem.Spec PyProof.Rows PySem.W L2 LamX

/-! ### a set of tables -/
abbrev th (P : Program) (w : World) (t : Tab) : Int := (tabKind P w).hash t
abbrev isK (P : Program) (w : World) (h : Heap) (t : Tab) (a : Addr) : Prop := (tabKind P w).is h t a
section
variable {P : Program} {w : World} {s : Shared}
/-- of no class statement; hashed by value -/
def NoC (P : Program) (w : World) (n : Nat) (s : Shared) (v : Value) : Prop := ∀ (A : Around) (E : Value → Shared → Prop) (Q : Bool → Shared → Prop), Q false s → wpAny (model P w) A (ofAClassStatement n v) Q E s
def ByV (P : Program) (w : World) (n : Nat) (s : Shared) (v : Value) : Prop := ∀ (A : Around) (E : Value → Shared → Prop) (Q : Bool → Shared → Prop), Q true s → wpAny (model P w) A (hashByValue n v) Q E s
theorem noC_tup {n : Nat} {a : Addr} {o : Obj} {vs : Array Value} {m : Nat} (ho : s.heap.get? a = some o) (hc : o.cls = .type "tuple") (hd : o.data = .seq vs m) (hq : ∀ v ∈ vs.toList, NoC P w n s v) : NoC P w (n + 1) s (.ref a) := fun A E Q h => by
  unfold ofAClassStatement
  refine wpAny_bind (wpAny_typeOf (T := "tuple") ⟨o, ho, hc⟩ ?_)
  dsimp only
  have e : (("tuple" : String) == "tuple") = true := by decide
  simp only [e, if_true, Bool.not_true, Bool.false_eq_true, if_false]
  try refine wpAny_bind (wpAny_pure ?_)
  try simp only [Bool.not_true, Bool.false_eq_true, if_false]
  show wpAny _ _ (seqItems? (.ref a) >>= _) _ _ s
  refine wpAny_bind (wpAny_seqItems ho hd ?_)
  dsimp only
  refine wpAny_bind ?_
  show wpAny _ _ (forIn vs _ _) _ _ s
  rw [← Array.forIn_toList]
  refine wpAny_forIn_list _ (fun rest r s' => r.1 = none ∧ s' = s ∧ ∀ v ∈ rest, NoC P w n s v) _ ?_ ?_ _ _ ⟨rfl, rfl, hq⟩
  · rintro v rest r s' ⟨hr, rfl, all⟩
    refine wpAny_bind (all v List.mem_cons_self _ _ _ ?_)
    simp only [Bool.false_eq_true, if_false]
    exact wpAny_pure ⟨rfl, rfl, fun u hu' => all u (List.mem_cons_of_mem _ hu')⟩
  · rintro ⟨r1, r2⟩ s' ⟨hr, rfl, _⟩
    simp only at hr
    subst hr
    exact wpAny_pure h
theorem byV_tup {n : Nat} {a : Addr} {o : Obj} {vs : Array Value} {m : Nat} (ho : s.heap.get? a = some o) (hc : o.cls = .type "tuple") (hd : o.data = .seq vs m) (hq : ∀ v ∈ vs.toList, ByV P w n s v) : ByV P w (n + 1) s (.ref a) := fun A E Q h => by
  unfold hashByValue
  refine wpAny_bind (wpAny_specialOf (T := "tuple") ⟨o, ho, hc⟩ F.slot_tuple_hash.lookup ?_)
  show wpAny _ _ (seqItems? (.ref a) >>= _) _ _ s
  refine wpAny_bind (wpAny_seqItems ho hd (wpAny_bind ?_))
  show wpAny _ _ (forIn vs _ _) _ _ s
  rw [← Array.forIn_toList]
  refine wpAny_forIn_list _ (fun rest r s' => r.1 = none ∧ s' = s ∧ ∀ v ∈ rest, ByV P w n s v) _ ?_ ?_ _ _ ⟨rfl, rfl, hq⟩
  · rintro v rest r s' ⟨hr, rfl, all⟩
    refine wpAny_bind (all v List.mem_cons_self _ _ _ ?_)
    simp only [Bool.not_true, Bool.false_eq_true, if_false]
    exact wpAny_pure ⟨rfl, rfl, fun u hu' => all u (List.mem_cons_of_mem _ hu')⟩
  · rintro ⟨r1, r2⟩ s' ⟨hr, rfl, _⟩
    simp only at hr
    subst hr
    exact wpAny_pure h
theorem num_asks : ∀ {r : Row} {vs : List Value} (n : Nat), NestedAll s.heap (r.map .num) vs → ∀ v ∈ vs, NoC P w n s v ∧ ByV P w n s v
  | [], _, n, x, v, hv => by
    cases x
    cases hv
  | i :: r, _, n, x, v, hv => by
    rw [List.map_cons] at x
    cases x with
    | cons x1 x2 =>
      rcases List.mem_cons.mp hv with e | hv
      · rw [e]
        cases x1 with
        | bool _ => exact ⟨fun A E Q h => by cases n <;> exact wpAny_pure h, fun A E Q h => by cases n <;> exact wpAny_pure h⟩
        | int _ t => exact ⟨fun A E Q h => by cases n <;> exact wpAny_pure h, fun A E Q h => by cases n <;> exact wpAny_pure h⟩
      · exact num_asks n x2 v hv
theorem row_asks : ∀ {t : Tab} {vs : List Value} (n : Nat), NestedAll s.heap (t.map fun r => .tup (r.map .num)) vs → ∀ v ∈ vs, NoC P w (n + 1) s v ∧ ByV P w (n + 1) s v
  | [], _, n, x, v, hv => by
    cases x
    cases hv
  | r :: t, _, n, x, v, hv => by
    rw [List.map_cons] at x
    cases x with
    | cons x1 x2 =>
      rcases List.mem_cons.mp hv with e | hv
      · rw [e]
        cases x1 with
        | tup h1 h2 h3 h4 => exact ⟨noC_tup h1 h2 h3 fun u hu => (num_asks n h4 u hu).1, byV_tup h1 h2 h3 fun u hu => (num_asks n h4 u hu).2⟩
      · exact row_asks n x2 v hv
theorem tab_asks {t : Tab} {a : Addr} (x : isK P w s.heap t a) : NoC P w 8 s (.ref a) ∧ ByV P w 8 s (.ref a) := by
  obtain ⟨x, _⟩ := x
  unfold tabN at x
  cases x with
  | tup h1 h2 h3 h4 => exact ⟨noC_tup (n := 7) h1 h2 h3 fun u hu => (row_asks 6 h4 u hu).1, byV_tup (n := 7) h1 h2 h3 fun u hu => (row_asks 6 h4 u hu).2⟩
theorem isK_keep {h h' : Heap} {t : Tab} {a : Addr} (x : isK P w h t a) (k : ∀ b o vs n, h.get? b = some o → o.data = .seq vs n → h'.get? b = some o) : isK P w h' t a := ⟨NestedIs.at k _ _ x.1, x.2⟩
theorem isK_same {h h' : Heap} {t : Tab} {a b : Addr} {o : Obj} {es : Array (Int × Value)} {ep : Nat} {tb : SetTable} (x : isK P w h t b) (ho : h.get? a = some o) (hd : o.data = .set es ep tb) (hs : Heap.SameBut a h h') : isK P w h' t b :=
  isK_keep x fun c oc vs n hc hv => (hs.2 c fun z => by
    rw [z, ho] at hc
    cases hc
    rw [hd] at hv
    cases hv).trans hc
variable {A : Around} {E : Value → Shared → Prop}
/-- a search among tables shows nothing -/
theorem no_show {t : Tab} {b : Addr} {Q : Bool → Shared → Prop} (hk : isK P w s.heap t b) {ys : List Value} (hy : ∀ y ∈ ys, ∃ t' c, y = Value.ref c ∧ isK P w s.heap t' c) (h : Q false s) : wpAny (model P w) A (searchCouldBeSeen (.ref b) ys) Q E s := by
  unfold searchCouldBeSeen
  refine wpAny_bind (wpAny_forIn_list _ (fun rest r s' => r.1 = none ∧ s' = s ∧ ∀ y ∈ rest, ∃ t' c, y = Value.ref c ∧ isK P w s.heap t' c) _ ?_ ?_ _ _ ⟨rfl, rfl, hy⟩)
  · rintro v rest r s' ⟨hr, rfl, all⟩
    obtain ⟨t', c, rfl, hc⟩ := all v List.mem_cons_self
    have more : ∀ y ∈ rest, ∃ t' c, y = Value.ref c ∧ isK P w s'.heap t' c := fun u hu' => all u (List.mem_cons_of_mem _ hu')
    dsimp only
    by_cases hv : (b == c || (carriedByValue (.ref b) && carriedByValue (.ref c))) = true
    · exact wp_if_pos hv (wpAny_pure ⟨rfl, rfl, more⟩)
    · refine wp_if_neg hv (wpAny_bind ((tabKind P w).quiet hk ?_))
      simp only [Bool.not_true, Bool.false_eq_true, if_false]
      refine wpAny_bind ((tabKind P w).quiet hc ?_)
      simp only [Bool.not_true, Bool.false_eq_true, if_false]
      refine wpAny_bind ((tab_asks hk).1 _ _ _ ?_)
      simp only [Bool.false_eq_true, if_false]
      refine wpAny_bind ((tab_asks hc).1 _ _ _ ?_)
      simp only [Bool.false_eq_true, if_false]
      exact wpAny_pure ⟨rfl, rfl, more⟩
  · rintro ⟨r1, r2⟩ s' ⟨hr, rfl, _⟩
    simp only at hr
    subst hr
    exact wpAny_pure h
end

abbrev KL := List (Addr × Tab)
def rowsK (P : Program) (w : World) (L : KL) : List (Int × Value) := L.map fun p => (th P w p.2, Value.ref p.1)
/-- the set at a holds the tables of L, as its table lays them -/
structure SetK (P : Program) (w : World) (h : Heap) (a : Addr) (L : KL) (es : Array (Int × Value)) (ep : Nat) (t : SetTable) : Prop where
  ob : ∃ o, h.get? a = some o ∧ o.ExactSet ∧ o.data = .set es ep t
  rows : es.toList = rowsK P w L
  tab : TabOk t (L.map fun p => th P w p.2)
  nd : (L.map (·.2)).Nodup
  key : ∀ p ∈ L, isK P w h p.2 p.1
  plain : t.plain = true
  led : w.params.followText "set-order" = true ∨ t.led = true
  room : L.length * 5 < t.mask * 3
  few : L.length ≤ 16
section
variable {P : Program} {w : World} {A : Around} {E : Value → Shared → Prop} {s : Shared} {a : Addr} {L : KL} {es : Array (Int × Value)} {ep : Nat} {t : SetTable}
theorem rowsK_len {es : Array (Int × Value)} {L : KL} (h : es.toList = rowsK P w L) : es.size = L.length := by
  have q := congrArg List.length h
  unfold rowsK at q
  rw [Array.length_toList, List.length_map] at q
  exact q
theorem fits_of {n : Nat} (h1 : t.place.size = n) (h2 : t.dummies = #[]) (h3 : n ≤ t.mask) : t.fits n = true := by
  unfold SetTable.fits SetTable.fill
  rw [h2, Bool.and_eq_true, beq_iff_eq, decide_eq_true_eq]
  show t.place.size = n ∧ t.place.size + 0 ≤ t.mask
  omega
theorem SetK.fits (R : SetK P w s.heap a L es ep t) : t.fits es.size = true := by
  have h1 := R.tab.sz
  rw [List.length_map] at h1
  have h2 := rowsK_len R.rows
  have h3 := R.room
  exact fits_of (by omega) R.tab.dm (by omega)
theorem SetK.entry (R : SetK P w s.heap a L es ep t) {i : Nat} {p : Addr × Tab} (h : L[i]? = some p) : es[i]? = some (th P w p.2, Value.ref p.1) := by
  rw [← Array.getElem?_toList, R.rows]
  unfold rowsK
  rw [List.getElem?_map, h] <;> rfl
theorem SetK.gw (R : SetK P w s.heap a L es ep t) : ¬ t.gaveWay = true := by
  unfold SetTable.gaveWay
  rw [mask_odd R.tab.mok]
  decide
/-- the step of the way, told short -/
abbrev stp (t : SetTable) (h : Int) (c : Nat) : SetTable.Probe := nth t.mask (runAt t.mask (SetTable.bits h % (t.mask + 1)) (SetTable.bits h)) c
theorem stp_add (t : SetTable) (h : Int) (c q : Nat) : nth t.mask (stp t h c) q = stp t h (c + q) := (nth_add t.mask c _ q).symm
theorem stp_dummy (t : SetTable) (h : Int) (c : Nat) : (stp t h c).dummy = none := by
  have key : ∀ (n : Nat) (p : SetTable.Probe), p.dummy = none → (nth t.mask p n).dummy = none := by
    intro n
    induction n with
    | zero => intro p h; exact h
    | succ n ih =>
      intro p h
      refine ih (adv t.mask p) ?_
      unfold adv
      split <;> exact h
  exact key c _ rfl
theorem seek (R : SetK P w s.heap a L es ep t) {x : Addr} {k : Tab} (hx : isK P w s.heap k x) (hu : A.units + 8 < cLine) {K : Nat} (hKf : K < 10 * SetTable.turns t.mask)
    (hK : way t.mask (th P w k) K ∉ t.place.toList) (hKb : ∀ c, c < K → way t.mask (th P w k) c ∈ t.place.toList) {Q : SetFound → Shared → Prop}
    (hin : k ∈ L.map (·.2) → Q (.there none) s) (hout : k ∉ L.map (·.2) → Q (.free (way t.mask (th P w k) K) false) s) :
    ∀ (f c : Nat) (stand : Option SetTable.Probe), stand.getD (t.probeStart (th P w k)) = stp t (th P w k) c → c ≤ K → K - c < f →
      (∀ (i : Nat) p, L[i]? = some p → p.2 = k → ∃ c', c ≤ c' ∧ c' < K ∧ t.place.toList[i]? = some (way t.mask (th P w k) c')) →
      wpAny (model P w) A (setSearchFrom a (.ref x) (th P w k) true f stand) Q E s := by
  obtain ⟨o, ho, hex, hd⟩ := R.ob
  intro f
  induction f with
  | zero => intro c stand _ _ hf; exact absurd hf (Nat.not_lt_zero _)
  | succ f ih =>
    intro c stand hst hc hf hre
    rw [setSearchFrom_succ]
    refine wpAny_bind (wpAny_setState_of ho hd R.fits ?_)
    dsimp only
    refine wp_if_neg R.gw ?_
    try refine wpAny_bind (wpAny_pure ?_)
    have spec := go_spec t R.tab.ris R.tab.dm (fun i => (es[i]?.map (·.1)).getD 0) (th P w k) (10 * SetTable.turns t.mask) (K - c) (stp t (th P w k) c) (stp_dummy t _ c) (by omega)
      (fun q hq => by rw [stp_add]; exact hKb (c + q) (by omega)) (by rw [stp_add, show c + (K - c) = K by omega]; exact hK)
    have hashAt : ∀ (i : Nat) p, L[i]? = some p → (es[i]?.map (·.1)).getD 0 = th P w p.2 := fun i p hp => by rw [R.entry hp] <;> rfl
    rw [stp_add] at spec
    rw [hst]
    rcases spec with ⟨q, i, hq, hi, hh, hno, hpr⟩ | ⟨hno, hpr⟩
    · rw [stp_add] at hi hpr
      rw [stp_add] at hpr
      have hpr' : t.probe (fun i => (es[i]?.map (·.1)).getD 0) (th P w k) (stp t (th P w k) c) = some (.candidate (way t.mask (th P w k) (c + q)) i (stp t (th P w k) (c + (q + 1)))) := hpr
      rw [hpr']
      dsimp only
      have hi : t.place.toList[i]? = some (way t.mask (th P w k) (c + q)) := hi
      have hil : i < L.length := by
        have h1 : i < t.place.toList.length := (List.getElem?_eq_some_iff.mp hi).1
        have h2 := R.tab.sz
        rw [List.length_map] at h2
        rw [Array.length_toList] at h1
        omega
      obtain ⟨p, hp⟩ : ∃ p, L[i]? = some p := ⟨_, List.getElem?_eq_getElem hil⟩
      have hmem : p ∈ L := List.mem_of_getElem? hp
      have rest : wpAny (model P w) A (searchRest a (.ref x) (th P w k) true f es t (way t.mask (th P w k) (c + q)) i (stp t (th P w k) (c + (q + 1)))) Q E s := by
        unfold searchRest
        rw [R.entry hp]
        dsimp only
        refine wpAny_bind (wpAny_holding ((tabKind P w).eqBool (show A.units + 8 < cLine from hu) (R.key p hmem) hx (wpAny_bind (wpAny_setState_of ho hd R.fits ?_))))
        dsimp only
        by_cases hkk : p.2 = k
        · exact wp_if_pos (by simp [hkk]) (wpAny_pure (hin (List.mem_map.mpr ⟨p, hmem, hkk⟩)))
        · refine wp_if_neg (by simp [hkk]) ?_
          try refine wpAny_bind (wpAny_pure ?_)
          rw [sameMem]
          dsimp only
          have hsl : t.slot (way t.mask (th P w k) (c + q)) = .live i := slot_live R.tab.ris hi
          simp only [if_true, hsl, R.entry hp]
          refine wpAny_bind (wpAny_isSame_ref_self (wpAny_bind (wpAny_pure ?_)))
          simp only [if_true]
          refine wp_if_neg (by simp [hkk]) (ih (c + (q + 1)) _ rfl (by omega) (by omega) fun i0 p0 h0 hk0 => ?_)
          obtain ⟨c', a1, a2, a3⟩ := hre i0 p0 h0 hk0
          refine ⟨c', ?_, a2, a3⟩
          rcases Nat.lt_trichotomy c' (c + q) with z | z | z
          · exfalso
            refine hno (c' - c) i0 (by omega) (by rw [stp_add, show c + (c' - c) = c' by omega]; exact a3) ?_
            exact (hashAt i0 p0 h0).trans (congrArg (th P w) hk0)
          · exfalso
            rw [z] at a3
            have s0 := slot_live R.tab.ris a3
            rw [hsl] at s0
            injection s0 with s0
            rw [← s0, hp] at h0
            exact hkk ((congrArg Prod.snd (Option.some.inj h0)).trans hk0)
          · omega
      by_cases hl : t.led = true
      · refine wp_if_neg (by simp [hl]) ?_
        try refine wpAny_bind (wpAny_pure ?_)
        exact rest
      · refine wp_if_pos (by simp [hl]) (wpAny_bind (no_show hx (fun y hy => ?_) ?_))
        · obtain ⟨e, he, ee⟩ := List.mem_map.mp hy
          have he1 : e ∈ es ∧ e.1 = th P w k := by simpa using he
          have he2 : e ∈ es.toList := by simpa using he1.1
          rw [R.rows] at he2
          obtain ⟨p2, hp2, e2⟩ := List.mem_map.mp he2
          exact ⟨p2.2, p2.1, by rw [← ee, ← e2], R.key p2 hp2⟩
        · refine wp_if_neg (by decide) ?_
          try refine wpAny_bind (wpAny_pure ?_)
          exact rest
    · rw [show c + (K - c) = K by omega] at hpr
      have hpr' : t.probe (fun i => (es[i]?.map (·.1)).getD 0) (th P w k) (stp t (th P w k) c) = some (.empty (way t.mask (th P w k) K) none) := hpr
      rw [hpr']
      dsimp only
      refine wpAny_pure (hout fun hm => ?_)
      obtain ⟨p0, h0, hk0⟩ := List.mem_map.mp hm
      obtain ⟨i0, h00⟩ := List.mem_iff_getElem?.mp h0
      obtain ⟨c', a1, a2, a3⟩ := hre i0 p0 h00 hk0
      refine hno (c' - c) i0 (by omega) (by rw [stp_add, show c + (c' - c) = c' by omega]; exact a3) ?_
      exact (hashAt i0 p0 h00).trans (congrArg (th P w) hk0)
theorem seek_at (R : SetK P w s.heap a L es ep t) {x : Addr} {k : Tab} (hx : isK P w s.heap k x) (hu : A.units + 8 < cLine) {Q : SetFound → Shared → Prop}
    (hin : k ∈ L.map (·.2) → Q (.there none) s)
    (hout : ∀ K, k ∉ L.map (·.2) → way t.mask (th P w k) K ∉ t.place.toList → (∀ c, c < K → way t.mask (th P w k) c ∈ t.place.toList) → Q (.free (way t.mask (th P w k) K) false) s) :
    wpAny (model P w) A (setSearch a (.ref x) (th P w k) true) Q E s := by
  have hroom := R.room
  obtain ⟨K, hKf, hK, hKb⟩ := R.tab.first (by rw [List.length_map]; omega) (th P w k)
  have hbig : K < 100000 := by
    have : 10 * SetTable.turns t.mask ≤ 1420 := by
      unfold SetTable.turns
      rcases R.tab.mok with e | e | e <;> omega
    omega
  unfold setSearch
  refine seek R hx hu hKf hK hKb hin (fun hn => hout K hn hK hKb) 100000 0 none rfl (Nat.zero_le _) (by omega) fun i p hp hk => ?_
  have hil : i < t.place.toList.length := by
    have h1 : i < L.length := (List.getElem?_eq_some_iff.mp hp).1
    have h2 := R.tab.sz
    rw [List.length_map] at h2
    rw [Array.length_toList]
    omega
  have hj := List.getElem?_eq_getElem hil
  obtain ⟨c, hc, e⟩ := R.tab.before hK (show (L.map fun p => th P w p.2)[i]? = some (th P w k) by rw [List.getElem?_map, hp, ← hk] <;> rfl) hj
  exact ⟨c, Nat.zero_le _, hc, by rw [hj, e]⟩
end
end K5
namespace K5
open PySem PySem.Spec PyProof.Rows PySem.W L2 LamX

section
variable {P : Program} {w : World} {A : Around} {E : Value → Shared → Prop} {s : Shared} {a : Addr} {L : KL} {es : Array (Int × Value)} {ep : Nat} {t : SetTable}
theorem picks_all {α : Type} (L : List α) : (List.range L.length).filterMap (fun i => L[i]?) = L := by
  have key : ∀ n, n ≤ L.length → (List.range n).filterMap (fun i => L[i]?) = L.take n := by
    intro n
    induction n with
    | zero => intro _; rfl
    | succ n ih =>
      intro hn
      have hlt : n < L.length := hn
      rw [List.range_succ, List.filterMap_append, ih (Nat.le_of_lt hlt), List.take_succ, List.getElem?_eq_getElem hlt, List.filterMap_cons_some (List.getElem?_eq_getElem hlt)] <;> rfl
  rw [key L.length (Nat.le_refl _), List.take_length]
theorem picked (L : KL) (es : Array (Int × Value)) (order : Array Nat) (hr : es.toList = rowsK P w L) (hp : order.toList.Perm (List.range L.length)) :
    ∃ L2, (order.filterMap (es[·]?)).toList = rowsK P w L2 ∧ L2.Perm L ∧ (L2.map fun p => th P w p.2) = order.toList.map fun i => (es.map (·.1)).getD i 0 := by
  have hsz := rowsK_len hr
  have ent : ∀ (i : Nat) (p : Addr × Tab), L[i]? = some p → es[i]? = some (th P w p.2, Value.ref p.1) := fun i p h => by
    rw [← Array.getElem?_toList, hr]
    unfold rowsK
    rw [List.getElem?_map, h] <;> rfl
  have key : ∀ l : List Nat, (∀ i ∈ l, i < L.length) → ∃ L2 : KL, l.filterMap (fun i => es[i]?) = rowsK P w L2 ∧ L2 = l.filterMap (fun i => L[i]?) ∧ (L2.map fun p => th P w p.2) = l.map fun i => (es.map (·.1)).getD i 0 := by
    intro l
    induction l with
    | nil => intro _; exact ⟨[], rfl, rfl, rfl⟩
    | cons i l ih =>
      intro hl
      obtain ⟨p, hi⟩ : ∃ p, L[i]? = some p := ⟨_, List.getElem?_eq_getElem (hl i List.mem_cons_self)⟩
      obtain ⟨L2, e1, e2, e3⟩ := ih fun j hj => hl j (List.mem_cons_of_mem _ hj)
      refine ⟨p :: L2, ?_, ?_, ?_⟩
      · rw [List.filterMap_cons_some (ent i p hi), e1] <;> rfl
      · rw [List.filterMap_cons_some hi, e2]
      · rw [List.map_cons, List.map_cons, e3]
        have e5 : (es.map (·.1))[i]? = some (th P w p.2) := by rw [Array.getElem?_map, ent i p hi] <;> rfl
        have e4 : (es.map (·.1)).getD i 0 = th P w p.2 := by simp [Array.getD_eq_getD_getElem?, e5]
        rw [e4]
  obtain ⟨L2, e1, e2, e3⟩ := key order.toList fun i hi => List.mem_range.mp (hp.mem_iff.mp hi)
  refine ⟨L2, by first | (rw [Array.toList_filterMap]; exact e1) | simpa using e1, ?_, e3⟩
  rw [e2]
  have q := hp.filterMap fun i => L[i]?
  rw [picks_all] at q
  exact q
/-- the table is laid anew -/
theorem relayK {o : Obj} (ho : s.heap.get? a = some o) (hex : o.ExactSet) (hd : o.data = .set es ep t) (hrows : es.toList = rowsK P w L) (hsz : t.place.size = es.size) (hdm : t.dummies = #[]) (hfl : es.size ≤ t.mask)
    (nd : (L.map (·.2)).Nodup) (key : ∀ p ∈ L, isK P w s.heap p.2 p.1) (pl : t.plain = true) (ld : w.params.followText "set-order" = true ∨ t.led = true) (few : L.length ≤ 16) {wanted M : Nat}
    (hw : SetTable.sizeAbove wanted - 1 = M) (hM : MaskOk M) (hw2 : SetTable.sizeAbove wanted ≤ 128) (hn : L.length * 5 < M * 3) {Q : Unit → Shared → Prop}
    (hQ : ∀ h' L' es' ep' t', Heap.SameBut a s.heap h' → SetK P w h' a L' es' ep' t' → L'.Perm L → Q () { s with heap := h' }) : wpAny (model P w) A (setRelay a wanted) Q E s := by
  have hsl := rowsK_len hrows
  obtain ⟨t', order, e, hp, T, em, el, ep', ed⟩ := relaid_ok t (hs := es.map (·.1)) (wanted := wanted) hw hM (by rw [Array.size_map, hsl]; omega)
  rw [Array.size_map, hsl] at hp
  obtain ⟨L2, r1, r2, r3⟩ := picked L es order hrows hp
  rw [← r3] at T
  have hs2 : (order.filterMap (es[·]?)).size = es.size := by rw [rowsK_len r1, r2.length_eq, hsl]
  rw [setRelay_eq]
  refine wpAny_bind (wpAny_setState_of ho hd (fits_of hsz hdm hfl) ?_)
  dsimp only
  refine wp_if_neg (by rw [sizeLine_eq]; omega) ?_
  try refine wpAny_bind (wpAny_pure ?_)
  rw [e]
  dsimp only
  refine wpAny_bind (wp_if_neg (by rw [hs2]; simp) ?_)
  try refine wpAny_bind (wpAny_pure ?_)
  refine wpAny_pure ?_
  dsimp only
  refine wpAny_storeSet_of ho hd ?_ (by rw [hs2, hsl, sizeLine_eq]; omega)
  have sb : Heap.SameBut a s.heap (s.heap.update a (Obj.putSet (order.filterMap (es[·]?)) t')) := Heap.SameBut.update ..
  exact hQ _ L2 (order.filterMap (es[·]?)) (ep + 1) t' sb ⟨⟨_, store_at ho hd, ⟨hex.1, hex.2.1, hex.2.2⟩, rfl⟩, r1, T, (r2.map (·.2)).nodup_iff.mpr nd, fun p hpm => isK_same (key p (r2.mem_iff.mp hpm)) ho hd sb, by rw [ep']; exact pl, by rw [el]; exact ld, by rw [r2.length_eq, em]; exact hn, by rw [r2.length_eq]; exact few⟩ r2
/-- one more -/
theorem addK (R : SetK P w s.heap a L es ep t) {x : Addr} {k : Tab} (hx : isK P w s.heap k x) (hu : A.units + 8 < cLine) (hfew : L.length < 16) {Q : Bool → Shared → Prop}
    (hQ : ∀ b h' L' es' ep' t', Heap.SameBut a s.heap h' → SetK P w h' a L' es' ep' t' → (k ∈ L.map (·.2) → L' = L) → (k ∉ L.map (·.2) → L'.Perm ((x, k) :: L)) → Q b { s with heap := h' }) :
    wpAny (model P w) A (setAddHashed a (.ref x) (th P w k)) Q E s := by
  obtain ⟨o, ho, hex, hd⟩ := R.ob
  have hsl := rowsK_len R.rows
  have hroom := R.room
  unfold setAddHashed
  refine wpAny_holding ?_
  rw [show (100000 : Nat) = 99999 + 1 from rfl, setAddHashedIn_succ]
  refine wpAny_bind (wpAny_setState_of ho hd R.fits ?_)
  dsimp only
  refine wp_if_neg (by simp [byScan, Value.scannable]) ?_
  try refine wpAny_bind (wpAny_pure ?_)
  refine wpAny_bind (seek_at R hx hu (fun hm => ?_) fun K hm hK hb => ?_)
  · dsimp only
    exact wpAny_pure (hQ false s.heap L es ep t (Heap.SameBut.refl a s.heap) R (fun _ => rfl) fun z => absurd hm z)
  · dsimp only
    refine wpAny_bind (wpAny_setState_of ho hd R.fits ?_)
    dsimp only
    obtain ⟨q1, q2, q3, q4, q5, q6, q7, q8, q9⟩ := R.tab.put hK hb
    have hp1 : (t.put (way t.mask (th P w k) K)).1.plain = true := by rw [q6]; exact R.plain
    generalize hpt : t.put (way t.mask (th P w k) K) = pt at q1 q3 q4 q5 q6 q7 q8 q9 hp1 ⊢
    obtain ⟨t1, p⟩ := pt
    dsimp only at q1 q3 q4 q5 q6 q7 q8 q9 hp1 ⊢
    subst q1
    first
      | (refine wpAny_bind ?_; refine wp_if_pos hp1 ?_; refine (tab_asks hx).2 _ _ _ ?_)
      | refine wp_if_pos hp1 (wpAny_bind ((tab_asks hx).2 _ _ _ ?_))
    simp only [if_true]
    generalize hpp : SetTable.below t.place (way t.mask (th P w k) K) = p at q2 q3 ⊢
    have hin : (SetTable.insertAt es p (th P w k, Value.ref x)).toList = rowsK P w (L.take p ++ (x, k) :: L.drop p) := by
      rw [SetTable.toList_insertAt, R.rows]
      unfold rowsK
      rw [List.map_append, List.map_cons, List.map_take, List.map_drop]
    have pm := put_perm L p (x, k)
    have hlen : (L.take p ++ (x, k) :: L.drop p).length = L.length + 1 := pm.length_eq
    have hhs : (L.take p ++ (x, k) :: L.drop p).map (fun p => th P w p.2) = (L.map fun p => th P w p.2).take p ++ th P w k :: (L.map fun p => th P w p.2).drop p := by
      rw [List.map_append, List.map_cons, List.map_take, List.map_drop]
    rw [← hhs] at q3
    have nd1 : ((L.take p ++ (x, k) :: L.drop p).map (·.2)).Nodup := (pm.map (·.2)).nodup_iff.mpr (by rw [List.map_cons]; exact List.nodup_cons.mpr ⟨hm, R.nd⟩)
    have hes := rowsK_len hin
    rw [hlen] at hes
    generalize SetTable.insertAt es p (th P w k, Value.ref x) = es1 at hin hes ⊢
    generalize L.take p ++ (x, k) :: L.drop p = L1 at pm hlen q3 nd1 hin
    refine wpAny_bind (wpAny_storeSet_of ho hd ?_ (by rw [hes, sizeLine_eq]; omega))
    have sb : Heap.SameBut a s.heap (s.heap.update a (Obj.putSet es1 t1)) := Heap.SameBut.update ..
    have ho1 := store_at (es' := es1) (t' := t1) ho hd
    generalize s.heap.update a (Obj.putSet es1 t1) = h1 at sb ho1 ⊢
    have key1 : ∀ p ∈ L1, isK P w h1 p.2 p.1 := fun p hp => by
      rcases List.mem_cons.mp (pm.mem_iff.mp hp) with e | hp
      · rw [e]; exact isK_same hx ho hd sb
      · exact isK_same (R.key p hp) ho hd sb
    have ld1 : w.params.followText "set-order" = true ∨ t1.led = true := by rw [q5]; exact R.led
    by_cases hf : t1.tooFull = true
    · first
        | (refine wpAny_bind ?_; refine wp_if_pos (by simp [hf]) ?_)
        | (refine wp_if_pos (by simp [hf]) ?_; refine wpAny_bind ?_)
      have hfull : (L.length + 1) * 5 ≥ t1.mask * 3 := by
        have h := hf
        unfold SetTable.tooFull at h
        rw [decide_eq_true_eq, q9, List.length_map] at h
        exact h
      rw [hsl]
      have hsz1 : t1.place.size = es1.size := by
        have h := q3.sz
        rw [List.length_map, hlen] at h
        rw [h, hes]
      obtain ⟨m7, l4⟩ : t.mask = 7 ∧ L.length = 4 := by
        rw [q4] at hfull
        rcases R.tab.mok with e | e | e <;> rw [e] at hroom hfull
        · exact ⟨e, by omega⟩
        · omega
        · omega
      refine relayK (s := { s with heap := h1 }) (M := 31) ho1 ⟨hex.1, hex.2.1, hex.2.2⟩ rfl hin hsz1 q3.dm (by rw [hes, q4]; omega) nd1 key1 hp1 ld1 (by rw [hlen]; omega) (by rw [l4, size_20]) (.inr (.inl rfl)) (by rw [l4, size_20]; decide) (by rw [hlen]; omega) ?_
      intro h2 L2 es2 ep2 t2 sb2 R2 pm2
      exact wpAny_pure (hQ true h2 L2 es2 ep2 t2 (sb.trans sb2) R2 (fun z => absurd z hm) fun _ => pm2.trans pm)
    · first
        | refine wp_if_neg (by simp [hf]) ?_
        | (refine wpAny_bind ?_; refine wp_if_neg (by simp [hf]) ?_; refine wpAny_pure ?_)
      refine wpAny_pure (hQ true h1 L1 es1 (ep + 1) t1 sb ⟨⟨_, ho1, ⟨hex.1, hex.2.1, hex.2.2⟩, rfl⟩, hin, q3, nd1, key1, hp1, ld1, ?_, by rw [hlen]; omega⟩ (fun z => absurd z hm) fun _ => pm)
      have h := hf
      unfold SetTable.tooFull at h
      rw [decide_eq_true_eq, q9, List.length_map] at h
      rw [hlen]
      omega
end
/-- what the first i items have put in -/
structure Has (ks : KL) (i : Nat) (L : KL) : Prop where
  sub : ∀ p ∈ L, p ∈ ks.take i
  all : ∀ p ∈ ks.take i, p.2 ∈ L.map (·.2)
  len : L.length ≤ i
theorem Has.same {ks L : KL} {i : Nat} {x : Addr × Tab} (g : Has ks i L) (h : ks[i]? = some x) (hm : x.2 ∈ L.map (·.2)) : Has ks (i + 1) L := by
  refine ⟨fun p hp => ?_, fun p hp => ?_, Nat.le_succ_of_le g.len⟩
  · rw [take_next h]
    exact List.mem_append_left _ (g.sub p hp)
  · rw [take_next h] at hp
    exact (List.mem_append.mp hp).elim (g.all p) fun z => by rw [List.mem_singleton.mp z]; exact hm
theorem Has.more {ks L L' : KL} {i : Nat} {x : Addr × Tab} (g : Has ks i L) (h : ks[i]? = some x) (pm : L'.Perm (x :: L)) : Has ks (i + 1) L' := by
  refine ⟨fun p hp => ?_, fun p hp => ?_, by rw [pm.length_eq, List.length_cons]; exact Nat.succ_le_succ g.len⟩
  · rw [take_next h]
    rcases List.mem_cons.mp (pm.mem_iff.mp hp) with e | z
    · rw [e]; exact List.mem_append_right _ (List.mem_singleton.mpr rfl)
    · exact List.mem_append_left _ (g.sub p z)
  · rw [(pm.map (·.2)).mem_iff, List.map_cons]
    rw [take_next h] at hp
    rcases List.mem_append.mp hp with z | z
    · exact List.mem_cons_of_mem _ (g.all p z)
    · rw [List.mem_singleton.mp z]; exact List.mem_cons_self
section
variable {P : Program} {w : World} {A : Around} {E : Value → Shared → Prop} {s : Shared}
theorem SetK.keep {h h' : Heap} {a : Addr} {L : KL} {es : Array (Int × Value)} {ep : Nat} {t : SetTable} (R : SetK P w h a L es ep t) (ha : ∀ o, h.get? a = some o → h'.get? a = some o) (hk : ∀ p ∈ L, isK P w h' p.2 p.1) : SetK P w h' a L es ep t := by
  obtain ⟨o, ho, r⟩ := R.ob
  exact ⟨⟨o, ha o ho, r⟩, R.rows, R.tab, R.nd, hk, R.plain, R.led, R.room, R.few⟩
theorem setK_new {h : Heap} {a : Addr} (ho : h.get? a = some { cls := .type "set", dict := none, data := .set #[] 0 (.fresh 0 0 (!w.params.followText "set-order")) }) : SetK P w h a [] #[] 0 (.fresh 0 0 (!w.params.followText "set-order")) :=
  ⟨⟨_, ho, ⟨rfl, rfl, rfl⟩, rfl⟩, rfl, ⟨List.Pairwise.nil, rfl, rfl, .inl rfl, fun x hx => (by cases hx), fun i h j hi => (by simp at hi)⟩, List.nodup_nil, fun p hp => (by cases hp), rfl, by
    show _ ∨ (!w.params.followText "set-order") = true
    cases w.params.followText "set-order"
    · exact .inr rfl
    · exact .inl rfl, by show 0 * 5 < 7 * 3; decide, by show 0 ≤ 16; decide⟩
/-- set.update's loop over the list at l -/
theorem fillK {I l : Addr} {items : Array Value} {R : Result → Shared → Prop} (S : Addr) (hSI : S ≠ I) (hSl : S ≠ l) (hlI : l ≠ I) (hh : A.in1.handled = none) (ks : KL) (hit : items.toList = ks.map fun p => Value.ref p.1) (hfew : ks.length ≤ 16)
    (h0 : Heap) (hk : ∀ p ∈ ks, isK P w h0 p.2 p.1) (hS0 : h0.get? S = none) (hI0 : h0.get? I = none) (hu : A.in1.units + 8 < cLine) :
    ∀ (k i : Nat) (s : Shared), ks.length - i = k → i ≤ ks.length → s.heap.IsListIter I l i → s.heap.IsList l items → (∀ b o, h0.get? b = some o → s.heap.get? b = some o) → (∃ L es ep t, SetK P w s.heap S L es ep t ∧ Has ks i L) →
      (∀ (h' : Heap) (tk : Nat) L es ep t, SetK P w h' S L es ep t → Has ks ks.length L → (∀ b o, h0.get? b = some o → h'.get? b = some o) → R (.ok (.ret .none)) { s with heap := h', toks := tk }) →
      codeAny (model P w) A (.builtin "set.update.loop" ⟨[.ref S, .ref I], []⟩) R s := by
  have hsz : items.size = ks.length := by
    have q := congrArg List.length hit
    rw [Array.length_toList, List.length_map] at q
    exact q
  have keyAt : ∀ {h : Heap} {L : KL} {i : Nat}, Has ks i L → (∀ b o, h0.get? b = some o → h.get? b = some o) → ∀ p ∈ L, isK P w h p.2 p.1 := fun {h L i} g kp p hp => isK_keep (hk p (List.mem_of_mem_take (g.sub p hp))) fun b o _ _ q _ => kp b o q
  intro k
  induction k with
  | zero =>
    intro i s hk' hi hst hl hkp ⟨L, es, ep, t, hS, g⟩ hR
    obtain rfl : i = ks.length := by omega
    refine codeAny_builtin F.entry_set_update_loop ?_
    rw [Around.under_plainId F.plain_set_update_loop _]
    show wpAny _ A.in1 (pyNext (.ref I) >>= _) _ _ s
    refine wpAny_bind (wpAny_pyNext_list_end hh hst hl (by rw [← hsz]; exact Array.getElem?_eq_none (Nat.le_refl _)) fun h' eb => ?_)
    show wpAny _ A.in1 (ret Value.none) _ _ _
    have kp' : ∀ b o, h0.get? b = some o → h'.get? b = some o := fun b o e => eb b o (fun z => by rw [z, hI0] at e; cases e) (hkp b o e)
    exact wpAny_pure (hR h' s.toks L es ep t (hS.keep (fun o e => eb S o hSI e) (keyAt g kp')) g kp')
  | succ k ih =>
    intro i s hk' hi hst hl hkp ⟨L, es, ep, t, hS, g⟩ hR
    have hlt : i < ks.length := by omega
    obtain ⟨p, hp⟩ : ∃ p, ks[i]? = some p := ⟨_, List.getElem?_eq_getElem hlt⟩
    have hv : items[i]? = some (Value.ref p.1) := by
      rw [← Array.getElem?_toList, hit, List.getElem?_map, hp] <;> rfl
    refine codeAny_builtin F.entry_set_update_loop ?_
    rw [Around.under_plainId F.plain_set_update_loop _]
    show wpAny _ A.in1 (pyNext (.ref I) >>= _) _ _ s
    refine wpAny_bind (wpAny_pyNext_list_item hst hl hv fun h1 hst1 sb => ?_)
    have kp1 : ∀ b o, h0.get? b = some o → h1.get? b = some o := fun b o e => (sb.2 b (fun z => by rw [z, hI0] at e; cases e)).trans (hkp b o e)
    have hS1 : SetK P w h1 S L es ep t := hS.keep (fun o e => (sb.2 S hSI).trans e) (keyAt g kp1)
    have hx : isK P w h1 p.2 p.1 := isK_keep (hk p (List.mem_of_getElem? hp)) fun b o _ _ q _ => kp1 b o q
    show wpAny _ A.in1 (holding [Value.ref p.1] (setAdd S (.ref p.1)) >>= _) _ _ _
    refine wpAny_bind (wpAny_holding ?_)
    unfold setAdd
    refine wpAny_holding (wpAny_bind ((tabKind P w).pyHash (show A.in1.units + 8 < cLine from hu) hx ?_))
    refine addK (s := { s with heap := h1, toks := s.toks + (tabKind P w).draws p.2 }) hS1 hx hu (by have := g.len; omega) fun b h2 L' es' ep' t' sb2 hS2 c1 c2 => ?_
    have g' : Has ks (i + 1) L' := by
      rcases Classical.em (p.2 ∈ L.map (·.2)) with c | c
      · rw [c1 c]; exact g.same hp c
      · exact g.more hp (c2 c)
    refine wpAny_pure ⟨plainId_quiet F.plain_set_update_loop _, ih (i + 1) _ (by omega) hlt (hst1.at fun o e => (sb2.2 I (Ne.symm hSI)).trans e) ((hl.extBut sb.extBut hlI).at fun o e => (sb2.2 l (Ne.symm hSl)).trans e)
      (fun b o e => (sb2.2 b (fun z => by rw [z, hS0] at e; cases e)).trans (kp1 b o e)) ⟨L', es', ep', t', hS2, g'⟩ fun h' tk L2 es2 ep2 t2 q1 q2 q3 => hR h' tk L2 es2 ep2 t2 q1 q2 q3⟩
end
end K5
namespace K5
open PySem PySem.Spec PyProof.Rows PySem.W L2 LamX

section
variable {P : Program} {w : World} {A : Around} {E : Value → Shared → Prop} {s : Shared}
set_option maxHeartbeats 6400000 in
theorem make_setK {l : Addr} {items : Array Value} (ks : KL) {Q : Value → Shared → Prop} (hh : A.handled = none) (hl : s.heap.IsList l items) (hit : items.toList = ks.map fun p => Value.ref p.1)
    (hk : ∀ p ∈ ks, isK P w s.heap p.2 p.1) (hfew : ks.length ≤ 16) (hu : A.units + 20 < cLine)
    (h : ∀ (h' : Heap) (tk : Nat) L es ep t, SetK P w h' s.heap.objs.size L es ep t → Has ks ks.length L → (∀ b o, s.heap.get? b = some o → h'.get? b = some o) → Q (.ref s.heap.objs.size) { s with heap := h', toks := tk }) :
    wpAny (model P w) A (call (.type "set") [.ref l]) Q E s := by
  obtain ⟨c, tl, hmro⟩ := F.called_set.mro
  have hmade := F.called_set.made
  have hsub := F.called_set.sub
  refine wpAny_call (codeAny_of_tree ?_)
  show wpAny _ _ (callAny (.type "set") _) _ _ _
  refine wpAny_pure ⟨Code.quiet_builtin _ (by decide +kernel), codeAny_builtin F.entry_type_call ?_⟩
  rw [Around.under_plain (weight_type_call_type "set" [.ref l] []) rfl]
  have h1 := F.called_set.notType
  have h2 := F.called_set.canCreate
  have hct := F.typeCall_set_1 (.ref l)
  repeat (any_goals (first | assumption | wp_step))
  generalize hS0 : s.heap.push { cls := .type "set", dict := none, data := .set #[] 0 (.fresh 0 0 (!w.params.followText "set-order")) } = g0
  have k0 : ∀ b o, s.heap.get? b = some o → g0.get? b = some o := fun b o e => by rw [← hS0]; exact Heap.get?_push_of_some _ e
  have z0 : g0.objs.size = s.heap.objs.size + 1 := by rw [← hS0, Heap.size_push]
  generalize hN : s.heap.objs.size = S at h z0 ⊢
  have hS : g0.get? S = some { cls := .type "set", dict := none, data := .set #[] 0 (.fresh 0 0 (!w.params.followText "set-order")) } := by rw [← hS0, ← hN]; exact Heap.get?_push_size _ rfl
  refine codeAny_mono (code_set_led1 (.ref l) (E := E) (Q₁ := fun obj s₁ => obj = .ref S ∧ s₁ = { s with heap := g0 }) (by rw [hS0, hN]; exact ⟨rfl, rfl⟩)) fun r s₁ hr => ?_
  cases r with
  | error e => exact hr
  | ok fl =>
    cases fl with
    | ret obj =>
      obtain ⟨rfl, rfl⟩ := hr
      have hT : Shared.TypeIs { s with heap := g0 } (.ref S) "set" := ⟨_, hS, rfl⟩
      have hli := F.called_set.init.lookup
      have hbi := F.called_set.init.bind (.ref S)
      repeat (any_goals (first | assumption | wp_step))
      refine codeAny_mono (codeAny_call_builtin (R := wants (fun r s₂ => r = .none ∧ ∃ h' tk L es ep t, s₂ = { s with heap := h', toks := tk } ∧ SetK P w h' S L es ep t ∧ Has ks ks.length L ∧ (∀ b o, s.heap.get? b = some o → h'.get? b = some o)) E) F.called_set.init.plain F.entry_set_init (check_set_init_1 hT ?_)) fun r₂ s₂ hr₂ => ?_
      · obtain ⟨⟨ocls, odict, odata, oslots⟩, hol, hcl, nl, hdl⟩ := hl
        simp only at hcl hdl
        subst hcl
        subst hdl
        have hol' : g0.get? l = some { cls := .type "list", dict := odict, data := .seq items nl, slots := oslots } := k0 _ _ hol
        have hsls := F.sub_list_set
        have hslf := F.sub_list_frozenset
        have hne : (Value.type "list" == Value.type "dict") = false := by decide
        have hl1 : g0.IsList l items := ⟨_, hol', rfl, nl, rfl⟩
        unfold Builtin.«set.__init__» noKeywords Builtin.Frozenset.updateFrom
        generalize hPI : pyIter = PI
        wp_walk
        subst hPI
        refine wpAny_pyIter_list hl1 (wpAny_bind (wpAny_runValue ?_))
        have hlS : l < S := by rw [← hN]; exact Heap.lt_size hol
        have hh3 : A.in1.in1.in1.handled = none := by simp [hh]
        have none_of : ∀ b, S ≤ b → s.heap.get? b = none := fun b hb => by
          cases q : s.heap.get? b with
          | none => rfl
          | some o => exact absurd (Nat.lt_of_lt_of_le (Heap.lt_size q) (by rw [hN]; exact hb)) (Nat.lt_irrefl _)
        have hSI : S ≠ g0.objs.size := by rw [z0]; exact Nat.ne_of_lt (Nat.lt_succ_self _)
        refine fillK S hSI (Nat.ne_of_gt hlS) (by rw [z0]; exact Nat.ne_of_lt (Nat.lt_succ_of_lt hlS)) hh3 ks hit hfew s.heap hk (none_of _ (Nat.le_refl _)) (none_of _ (by rw [z0]; exact Nat.le_succ _))
          (by show A.units + 1 + 1 + 1 + 8 < cLine; omega) (ks.length - 0) 0 _ rfl (Nat.zero_le _) ⟨_, Heap.get?_push_size _ rfl, rfl, rfl⟩ (hl1.push _) (fun b o e => Heap.get?_push_of_some _ (k0 b o e))
          ⟨[], #[], 0, _, setK_new (Heap.get?_push_of_some _ hS), fun p h => (by cases h), fun p h => (by simp at h), Nat.le_refl _⟩ fun h' tk L es ep t q1 q2 q3 => ?_
        show wpAny _ _ _ _ _ _
        refine wpAny_pure ?_
        show wpAny _ _ (ret Value.none) _ _ _
        exact wpAny_pure ⟨rfl, h', tk, L, es, ep, t, rfl, q1, q2, q3⟩
      · cases r₂ with
        | error e => exact hr₂
        | ok fl₂ =>
          cases fl₂ with
          | ret r =>
            obtain ⟨rfl, h', tk, L, es, ep, t, rfl, q1, q2, q3⟩ := hr₂
            repeat (any_goals (first | assumption | wp_step))
            exact h _ _ _ _ _ _ q1 q2 q3
          | _ => exact hr₂.elim
    | _ => exact hr.elim
end

/-! ### as a tracked thing -/
def SetKR (P : Program) (w : World) (a : Addr) (L : KL) (h : Heap) : Prop := ∃ es ep t, (∃ o, h.get? a = some o ∧ o.ExactSet ∧ o.data = .set es ep t) ∧ es.toList = rowsK P w L ∧ TabOk t (L.map fun p => th P w p.2) ∧ (L.map (·.2)).Nodup ∧ t.plain = true ∧ (w.params.followText "set-order" = true ∨ t.led = true) ∧ L.length * 5 < t.mask * 3 ∧ L.length ≤ 16
def SetKO (P : Program) (w : World) (a : Addr) (L : KL) : HO := .ext (SetKR P w a L)
theorem setKO_ok {P : Program} {w : World} {H : Hp} {h : Heap} {a : Addr} {L : KL} (z : SetKR P w a L h) : ObjOk P w H h a (SetKO P w a L) := by
  refine ⟨z, ?_, fun h1 h2 z k => ?_⟩
  · obtain ⟨_, _, _, ⟨o, e, _⟩, _⟩ := z
    exact ⟨o, e⟩
  · obtain ⟨es, ep, t, ⟨o, e, r⟩, c⟩ := z
    exact ⟨es, ep, t, ⟨o, k o e, r⟩, c⟩
section
variable {X : Cx}
/-- set(a list of at most 16 tables) -/
theorem call_setL (hcalm : X.calm = true) (hu : X.A.units + 64 < cLine) : CallR X (.type "set") (fun xs H Q => ∃ (l : Addr) (ks : KL), xs = [.ref l] ∧ SqL X.K H l (ks.map fun p => .ref p.1) ∧ (∀ p ∈ ks, IsTab H p.1 p.2) ∧ ks.length ≤ 16 ∧
    ∀ p L, H p = none → (∀ q ∈ L, q ∈ ks) → (∀ q ∈ ks, q.2 ∈ L.map (·.2)) → (L.map (·.2)).Nodup → Q (.ref p) (upd H p (SetKO X.prog X.w p L))) := by
  intro pins s σ H xs us Q I r ⟨l, ks, ex, hq, hk, hf, q⟩
  subst ex
  obtain rfl := Vals.ref1 r
  obtain ⟨its, rv, pl, hz⟩ := I.list hq
  have hit : its = ks.map fun p => Value.ref p.1 := by
    have e : (ks.map fun p => V.ref p.1) = (ks.map (·.1)).map V.ref := by rw [List.map_map]; rfl
    rw [e] at rv
    rw [refs_at rv, List.map_map]
    rfl
  refine make_setK ks (I.ok.hd hcalm) pl.isList (by simpa using hit) (fun p hp => tab_key I.hok (hk p hp)) hf (by omega) fun h' tk L es ep t R g kk => ?_
  refine ⟨.ref s.heap.objs.size, _, I.laid (t' := tk) kk (Nat.le_refl _) (setKO_ok ⟨es, ep, t, R.ob, R.rows, R.tab, R.nd, R.plain, R.led, R.room, R.few⟩), rfl, q _ L (I.hok.fresh (Nat.le_refl _)) (fun p hp => List.mem_of_mem_take (g.sub p hp)) (fun p hp => g.all p ?_) R.nd⟩
  rw [List.take_of_length_le (Nat.le_refl _)]
  exact hp
/-- sorted(such a set) -/
theorem call_sortS (hcalm : X.calm = true) (hu : X.A.units + 66 < cLine) : CallR X (.builtin "sorted") (fun xs H Q => ∃ (a : Addr) (L : KL), xs = [.ref a] ∧ H a = some (SetKO X.prog X.w a L) ∧
    ∃ (R : V → Tab → Prop), (∀ L' : KL, L'.Perm L → Sd H (L'.map fun x => .ref x.1) (L'.map (·.2)) tabD R) ∧
    ∀ (p : Addr) (zs : List V) (L' : KL), H p = none → L'.Perm L → Paired R zs ((L'.map (·.2)).mergeSort (dataLe false tabD)) → Q (.ref p) (upd H p (.lst zs))) := by
  intro pins s σ H xs us Q I r ⟨a, L, ex, ha, R, S, q⟩
  subst ex
  obtain rfl := Vals.ref1 r
  obtain ⟨⟨es, ep, t, ⟨o, ho, hex, hd⟩, rows, tab, nd, pln, led, room, few⟩, _, _⟩ := (show ObjOk X.prog X.w H s.heap a (SetKO X.prog X.w a L) from I.hok a _ ha)
  have hsl := rowsK_len rows
  have hts := tab.sz
  rw [List.length_map] at hts
  refine Calls.call_function_entry kind_sorted plain_sorted entry_sorted (args_sorted1 _) ?_
  unfold Builtin.«sorted»
  refine wpAny_bind (m := checkCount "sorted" 1 1 _) (wpAny_pure (wpAny_bind (collect_set (A := X.A.in1) (I.ok.hd hcalm) ⟨o, ho, hex.1, hd⟩ (fits_of (by omega) tab.dm (by omega)) (by unfold scanBound; omega) tab.ris led fun s1 vs k1 hz g1 o1 pm => ?_)))
  have hes : es.toList.map (·.2) = L.map fun q => Value.ref q.1 := by
    rw [rows]
    unfold rowsK
    rw [List.map_map] <;> rfl
  rw [hes] at pm
  obtain ⟨L', pL, eL⟩ := perm_lift (fun q : Addr × Tab => Value.ref q.1) pm L rfl
  have hv : Vals (L'.map fun x => V.ref x.1) vs := by
    rw [← eL]
    exact vals_each (by simp) fun i x v h1 h2 => by
      rw [List.getElem?_map] at h1 h2
      obtain ⟨y, hy, e⟩ := Option.map_eq_some_iff.mp h1
      rw [hy] at h2
      rw [← e, ← Option.some.inj h2]
      rfl
  have I1 : Inv X pins σ H s1 := by
    have e : s1 = { s with heap := s1.heap, gens := s1.gens, drawn := s1.drawn, toks := s1.toks } := by
      cases s1
      cases s
      cases o1
      rfl
    rw [e]
    exact I.call (ch := []) (Un.kept k1) (I.hok.kept k1) (by rw [g1]; exact I.bare) (fun _ z => nomatch z)
  exact sort_rest I1 (by show X.A.units + 1 + 64 < cLine; omega) (S L' pL) hv (by rw [List.length_map, pL.length_eq, sizeLine_eq]; omega) fun p zs np pz => q p zs L' np pL pz
end
end K5
namespace K5
open PySem PySem.Spec PySem.W PyProof.Rows

/-! ## THE MATHEMATICS -/
/-! ### the order of rows and tables -/
section
variable {α : Type} [DecidableEq α] [DatumOrd α]
theorem listLt_tri (h : ∀ a b : α, DatumOrd.lt a b = false → DatumOrd.lt b a = false → a = b) : ∀ xs ys : List α, listLt xs ys = false → listLt ys xs = false → xs = ys
  | [], [], _, _ => rfl
  | [], _ :: _, h1, _ => by simp [listLt] at h1
  | _ :: _, [], _, h2 => by simp [listLt] at h2
  | x :: xs, y :: ys, h1, h2 => by
    by_cases e : x = y
    · subst e
      simp only [listLt, if_true] at h1 h2
      rw [listLt_tri h xs ys h1 h2]
    · simp only [listLt, if_neg e, if_neg (fun z : y = x => e z.symm)] at h1 h2
      exact absurd (h x y h1 h2) e
end
theorem int_tri (a b : Int) (h1 : DatumOrd.lt a b = false) (h2 : DatumOrd.lt b a = false) : a = b := by
  have h1 : decide (a < b) = false := h1
  have h2 : decide (b < a) = false := h2
  simp at h1 h2
  omega
theorem tup_tri (a b : Tup Int) (h1 : DatumOrd.lt a b = false) (h2 : DatumOrd.lt b a = false) : a = b := by
  have e := listLt_tri int_tri a.items b.items h1 h2
  cases a
  cases b
  simp only at e
  rw [e]
abbrev rowLe : Row → Row → Bool := dataLe false rowD
abbrev tabLe : Tab → Tab → Bool := dataLe false tabD
theorem rowLt_eq (a b : Row) : dataLt (rowD a) (rowD b) = listLt a b := (dataLt_tuple _ _).trans (lexAll_map a b)
theorem tabD_eq (t : Tab) : tabD t = .tuple ((t.map Tup.mk).map Datum.toD) := by
  unfold tabD
  rw [List.map_map]
  rfl
theorem tabLt_eq (a b : Tab) : dataLt (tabD a) (tabD b) = listLt (a.map Tup.mk) (b.map Tup.mk) := by
  rw [tabD_eq, tabD_eq]
  exact (dataLt_tuple _ _).trans (lexAll_map _ _)
theorem rowLe_total : TotalLe rowLe := sortLe_total ..
theorem tabLe_total : TotalLe tabLe := sortLe_total ..
theorem rowLe_anti {a b : Row} (h1 : rowLe a b = true) (h2 : rowLe b a = true) : a = b := by
  have h1 : (!dataLt (rowD b) (rowD a)) = true := h1
  have h2 : (!dataLt (rowD a) (rowD b)) = true := h2
  rw [Bool.not_eq_true', rowLt_eq] at h1 h2
  exact listLt_tri int_tri a b h2 h1
theorem mkTups_inj : ∀ {a b : Tab}, a.map Tup.mk = b.map Tup.mk → a = b
  | [], [], _ => rfl
  | [], _ :: _, e => by simp at e
  | _ :: _, [], e => by simp at e
  | x :: xs, y :: ys, e => by
    rw [List.map_cons, List.map_cons] at e
    injection e with e1 e2
    injection e1 with e1
    rw [e1, mkTups_inj e2]
theorem tabLe_anti {a b : Tab} (h1 : tabLe a b = true) (h2 : tabLe b a = true) : a = b := by
  have h1 : (!dataLt (tabD b) (tabD a)) = true := h1
  have h2 : (!dataLt (tabD a) (tabD b)) = true := h2
  rw [Bool.not_eq_true', tabLt_eq] at h1 h2
  exact mkTups_inj (listLt_tri tup_tri _ _ h2 h1)
theorem sort_pw {α : Type} {le : α → α → Bool} (T : TotalLe le) (l : List α) : (l.mergeSort le).Pairwise (fun a b => le a b = true) :=
  List.pairwise_mergeSort (fun a b c => T.trans a b c) (fun a b => by
    rcases T.total a b with h | h <;> simp [h]) l
/-- sorting forgets the order -/
theorem rows_sort_perm {a b : Tab} (h : a.Perm b) : a.mergeSort rowLe = b.mergeSort rowLe :=
  List.Perm.eq_of_pairwise (le := fun x y => rowLe x y = true) (fun x y _ _ h1 h2 => rowLe_anti h1 h2) (sort_pw rowLe_total a) (sort_pw rowLe_total b) (((List.mergeSort_perm a _).trans h).trans (List.mergeSort_perm b _).symm)
theorem tabs_sort_perm {a b : List Tab} (h : a.Perm b) : a.mergeSort tabLe = b.mergeSort tabLe :=
  List.Perm.eq_of_pairwise (le := fun x y => tabLe x y = true) (fun x y _ _ h1 h2 => tabLe_anti h1 h2) (sort_pw tabLe_total a) (sort_pw tabLe_total b) (((List.mergeSort_perm a _).trans h).trans (List.mergeSort_perm b _).symm)

/-! ### crowds -/
/-- the heaps put in order, the best first -/
def crowd (t : Tab) : Tab := (t.mergeSort rowLe).reverse
theorem crowd_perm (t : Tab) : (crowd t).Perm t := (List.reverse_perm _).trans (List.mergeSort_perm t _)
theorem crowd_of_perm {a b : Tab} (h : a.Perm b) : crowd a = crowd b := by
  unfold crowd
  rw [rows_sort_perm h]
theorem crowd_crowd (t : Tab) : crowd (crowd t) = crowd t := crowd_of_perm (crowd_perm t)
theorem crowd_pw (t : Tab) : (crowd t).Pairwise (fun a b => rowLe b a = true) := by
  unfold crowd
  rw [List.pairwise_reverse]
  exact sort_pw rowLe_total t
/-- n heaps a row, each from 0 to 99 -/
structure Good (n g : Nat) (t : Tab) : Prop where
  len : t.length = n
  wide : ∀ r ∈ t, r.length = g
  heap : ∀ r ∈ t, ∀ x ∈ r, 0 ≤ x ∧ x ≤ 99
theorem Good.perm {n g : Nat} {a b : Tab} (h : Good n g a) (p : b.Perm a) : Good n g b :=
  ⟨p.length_eq.trans h.len, fun r hr => h.wide r (p.mem_iff.mp hr), fun r hr => h.heap r (p.mem_iff.mp hr)⟩
theorem Good.crowd {n g : Nat} {t : Tab} (h : Good n g t) : Good n g (crowd t) := h.perm (crowd_perm t)

/-! ### rows that are over, at odds -/
def overR (a b : Row) : Bool := (a.zip b).all fun p => decide (p.1 ≥ p.2)
def oddsR (a b : Row) : Bool := !overR a b && !overR b a
def highR (a b : Row) : Row := List.zipWith max a b
def lessR (a b : Row) : Row := List.zipWith min a b
theorem oddsR_symm (a b : Row) : oddsR a b = oddsR b a := by
  unfold oddsR
  rw [Bool.and_comm]
theorem over_self : ∀ a : Row, overR a a = true
  | [] => rfl
  | x :: xs => by
    have := over_self xs
    unfold overR at this ⊢
    simp [this]
theorem odds_self (a : Row) : oddsR a a = false := by
  unfold oddsR
  rw [over_self]
  rfl
theorem over_cons (x y : Int) (xs ys : Row) : overR (x :: xs) (y :: ys) = (decide (y ≤ x) && overR xs ys) := by simp [overR]
theorem over_high : ∀ {a b : Row}, a.length = b.length → overR (highR a b) a = true ∧ overR (highR a b) b = true
  | [], [], _ => ⟨rfl, rfl⟩
  | [], _ :: _, e => by simp at e
  | _ :: _, [], e => by simp at e
  | x :: xs, y :: ys, e => by
    obtain ⟨h1, h2⟩ := over_high (a := xs) (b := ys) (by simpa using e)
    show overR (max x y :: highR xs ys) (x :: xs) = true ∧ overR (max x y :: highR xs ys) (y :: ys) = true
    rw [over_cons, over_cons, h1, h2]
    simp
    omega
theorem less_over : ∀ {a b : Row}, a.length = b.length → overR a (lessR a b) = true ∧ overR b (lessR a b) = true
  | [], [], _ => ⟨rfl, rfl⟩
  | [], _ :: _, e => by simp at e
  | _ :: _, [], e => by simp at e
  | x :: xs, y :: ys, e => by
    obtain ⟨h1, h2⟩ := less_over (a := xs) (b := ys) (by simpa using e)
    show overR (x :: xs) (min x y :: lessR xs ys) = true ∧ overR (y :: ys) (min x y :: lessR xs ys) = true
    rw [over_cons, over_cons, h1, h2]
    simp
    omega
theorem over_trans : ∀ {a b c : Row}, a.length = b.length → b.length = c.length → overR a b = true → overR b c = true → overR a c = true
  | [], [], [], _, _, _, _ => rfl
  | x :: xs, y :: ys, z :: zs, e1, e2, h1, h2 => by
    rw [over_cons, Bool.and_eq_true, decide_eq_true_eq] at h1 h2 ⊢
    exact ⟨by omega, over_trans (by simpa using e1) (by simpa using e2) h1.2 h2.2⟩
  | [], _ :: _, _, e, _, _, _ => by simp at e
  | _ :: _, [], _, e, _, _, _ => by simp at e
  | [], [], _ :: _, _, e, _, _ => by simp at e
  | _ :: _, _ :: _, [], _, e, _, _ => by simp at e
theorem high_least : ∀ {a b c : Row}, a.length = b.length → a.length = c.length → overR c a = true → overR c b = true → overR c (highR a b) = true
  | [], [], [], _, _, _, _ => rfl
  | x :: xs, y :: ys, z :: zs, e1, e2, h1, h2 => by
    show overR (z :: zs) (max x y :: highR xs ys) = true
    rw [over_cons, Bool.and_eq_true, decide_eq_true_eq] at h1 h2 ⊢
    exact ⟨by omega, high_least (by simpa using e1) (by simpa using e2) h1.2 h2.2⟩
  | [], _ :: _, _, e, _, _, _ => by simp at e
  | _ :: _, [], _, e, _, _, _ => by simp at e
  | [], [], _ :: _, _, e, _, _ => by simp at e
  | _ :: _, _ :: _, [], _, e, _, _ => by simp at e
theorem less_most : ∀ {a b c : Row}, a.length = b.length → a.length = c.length → overR a c = true → overR b c = true → overR (lessR a b) c = true
  | [], [], [], _, _, _, _ => rfl
  | x :: xs, y :: ys, z :: zs, e1, e2, h1, h2 => by
    show overR (min x y :: lessR xs ys) (z :: zs) = true
    rw [over_cons, Bool.and_eq_true, decide_eq_true_eq] at h1 h2 ⊢
    exact ⟨by omega, less_most (by simpa using e1) (by simpa using e2) h1.2 h2.2⟩
  | [], _ :: _, _, e, _, _, _ => by simp at e
  | _ :: _, [], _, e, _, _, _ => by simp at e
  | [], [], _ :: _, _, e, _, _ => by simp at e
  | _ :: _, _ :: _, [], _, e, _, _ => by simp at e
theorem high_len (a b : Row) : (highR a b).length = min a.length b.length := by simp [highR]
theorem less_len (a b : Row) : (lessR a b).length = min a.length b.length := by simp [lessR]
def o1 (a b : Row) : Nat := if oddsR a b = true then 1 else 0
/-- a deed makes no new odds with a third -/
theorem odds_third {a b c : Row} (e1 : a.length = b.length) (e2 : a.length = c.length) (hab : oddsR a b = true) : o1 c (highR a b) + o1 c (lessR a b) ≤ o1 c a + o1 c b := by
  obtain ⟨ha, hb⟩ := over_high e1
  obtain ⟨la, lb⟩ := less_over e1
  have lh : (highR a b).length = a.length := by rw [high_len]; omega
  have ll : (lessR a b).length = a.length := by rw [less_len]; omega
  have nab : overR a b = false ∧ overR b a = false := by
    unfold oddsR at hab
    simpa using hab
  have hi : o1 c (highR a b) ≤ 1 := by unfold o1; split <;> omega
  have lo : o1 c (lessR a b) ≤ 1 := by unfold o1; split <;> omega
  have no : ∀ {x y : Row}, (overR x y = true ∨ overR y x = true) → o1 x y = 0 := fun {x y} h => by
    unfold o1 oddsR
    rcases h with h | h <;> simp [h]
  have yes : ∀ {x y : Row}, overR x y = false → overR y x = false → o1 x y = 1 := fun {x y} h1 h2 => by
    unfold o1 oddsR
    simp [h1, h2]
  cases q1 : overR c a with
  | true =>
    have z1 : o1 c (lessR a b) = 0 := no (.inl (over_trans e2.symm (by omega) q1 la))
    cases q2 : overR c b with
    | true =>
      have z2 : o1 c (highR a b) = 0 := no (.inl (high_least e1 e2 q1 q2))
      omega
    | false =>
      cases q3 : overR b c with
      | true =>
        have := over_trans (a := b) (b := c) (c := a) (by omega) (by omega) q3 q1
        rw [nab.2] at this
        cases this
      | false =>
        have := yes (x := c) (y := b) q2 q3
        omega
  | false =>
    cases q3 : overR a c with
    | true =>
      have z1 : o1 c (highR a b) = 0 := no (.inr (over_trans (a := highR a b) (b := a) (c := c) (by omega) e2 ha q3))
      cases q2 : overR b c with
      | true =>
        have z2 : o1 c (lessR a b) = 0 := no (.inr (less_most e1 e2 q3 q2))
        omega
      | false =>
        cases q4 : overR c b with
        | true =>
          have := over_trans (a := a) (b := c) (c := b) (by omega) (by omega) q3 q4
          rw [nab.1] at this
          cases this
        | false =>
          have := yes (x := c) (y := b) q4 q2
          omega
    | false =>
      have w1 := yes (x := c) (y := a) q1 q3
      cases q2 : overR c b with
      | true =>
        have z1 : o1 c (lessR a b) = 0 := no (.inl (over_trans (a := c) (b := b) (c := lessR a b) (by omega) (by omega) q2 lb))
        omega
      | false =>
        cases q4 : overR b c with
        | true =>
          have z1 : o1 c (highR a b) = 0 := no (.inr (over_trans (a := highR a b) (b := b) (c := c) (by omega) (by omega) hb q4))
          omega
        | false =>
          have := yes (x := c) (y := b) q2 q4
          omega
end K5
namespace K5
open PySem PySem.Spec PySem.W PyProof.Rows

/-! ### the pairs at odds -/
def oddsOf (t : Tab) (i : Nat) : List (Nat × Nat) := ((List.range' (i + 1) (t.length - (i + 1))).filter fun j => oddsR (t.getD i []) (t.getD j [])).map fun j => (i, j)
def oddsT (t : Tab) : List (Nat × Nat) := (List.range t.length).flatMap (oddsOf t)
def oddsN : Tab → Nat
  | [] => 0
  | r :: t => t.countP (oddsR r) + oddsN t
theorem mem_odds {t : Tab} {p : Nat × Nat} : p ∈ oddsT t ↔ p.1 < p.2 ∧ p.2 < t.length ∧ oddsR (t.getD p.1 []) (t.getD p.2 []) = true := by
  obtain ⟨i, j⟩ := p
  unfold oddsT oddsOf
  simp only [List.mem_flatMap, List.mem_range, List.mem_map, List.mem_filter, List.mem_range'_1, Prod.mk.injEq]
  constructor
  · rintro ⟨a, h1, b, ⟨h2, h3⟩, rfl, rfl⟩
    exact ⟨by omega, by omega, h3⟩
  · rintro ⟨h1, h2, h3⟩
    exact ⟨i, by omega, j, ⟨by omega, h3⟩, rfl, rfl⟩
theorem range'_succ_map (s n : Nat) : List.range' (s + 1) n = (List.range' s n).map (· + 1) := by
  induction n generalizing s with
  | zero => rfl
  | succ n ih => rw [List.range'_succ, List.range'_succ, List.map_cons, ih]
theorem count_range {r : Row} : ∀ (t : Tab), ((List.range' 0 t.length).filter fun j => oddsR r (t.getD j [])).length = t.countP (oddsR r)
  | [] => rfl
  | x :: t => by
    have ih := count_range (r := r) t
    rw [List.length_cons, List.range'_succ, Nat.zero_add, List.filter_cons, List.countP_cons, range'_succ_map, List.filter_map, ← ih]
    have e : (fun j => oddsR r ((x :: t).getD j [])) ∘ (fun x => x + 1) = fun j => oddsR r (t.getD j []) := by
      funext j
      simp
    rw [e]
    by_cases h : oddsR r x = true
    · simp [h]
    · simp [h]
theorem odds_len : ∀ t : Tab, (oddsT t).length = oddsN t
  | [] => rfl
  | r :: t => by
    have ih := odds_len t
    have h0 : (oddsOf (r :: t) 0).length = t.countP (oddsR r) := by
      unfold oddsOf
      rw [List.length_map, List.length_cons, show t.length + 1 - (0 + 1) = t.length by omega, range'_succ_map, List.filter_map, List.length_map, ← count_range t]
      rfl
    have hs : ∀ i, oddsOf (r :: t) (i + 1) = (oddsOf t i).map fun p => (p.1 + 1, p.2 + 1) := by
      intro i
      unfold oddsOf
      rw [List.length_cons, show t.length + 1 - (i + 1 + 1) = t.length - (i + 1) by omega, range'_succ_map, List.filter_map, List.map_map, List.map_map]
      have e : (fun j => oddsR ((r :: t).getD (i + 1) []) ((r :: t).getD j [])) ∘ (fun x => x + 1) = fun j => oddsR (t.getD i []) (t.getD j []) := by
        funext j
        simp
      rw [e]
      rfl
    unfold oddsT oddsN
    rw [List.length_cons, List.range_succ_eq_map, List.flatMap_cons, List.length_append, h0, List.flatMap_map]
    have e : (fun i => oddsOf (r :: t) (Nat.succ i)) = fun i => (oddsOf t i).map fun p => (p.1 + 1, p.2 + 1) := funext hs
    rw [e, ← List.map_flatMap, List.length_map]
    exact congrArg (t.countP (oddsR r) + ·) ih
theorem oddsN_perm {a b : Tab} (h : a.Perm b) : oddsN a = oddsN b := by
  induction h with
  | nil => rfl
  | cons x h ih => simp only [oddsN, ih, h.countP_eq]
  | swap x y l =>
    simp only [oddsN, List.countP_cons, oddsR_symm x y]
    omega
  | trans _ _ h1 h2 => exact h1.trans h2
theorem count_o1 (r : Row) (t : Tab) : t.countP (oddsR r) = (t.map (o1 r)).sum := by
  induction t with
  | nil => rfl
  | cons x t ih =>
    rw [List.countP_cons, List.map_cons, List.sum_cons, ih]
    unfold o1
    split <;> omega

/-! ### a deed -/
def laid (t : Tab) (i j : Nat) : Tab := (t.set i (highR (t.getD i []) (t.getD j []))).set j (lessR (t.getD i []) (t.getD j []))
theorem cut3 {t : Tab} {i j : Nat} (h1 : i < j) (h2 : j < t.length) : ∃ A B C, t = A ++ t.getD i [] :: (B ++ t.getD j [] :: C) ∧ ∀ x y, (t.set i x).set j y = A ++ x :: (B ++ y :: C) := by
  refine ⟨t.take i, (t.drop (i + 1)).take (j - (i + 1)), t.drop (j + 1), ?_, fun x y => ?_⟩
  · have e1 : t.drop i = t.getD i [] :: t.drop (i + 1) := by
      rw [List.drop_eq_getElem_cons (by omega)]
      simp [List.getElem?_eq_getElem (show i < t.length by omega)]
    have e2 : (t.drop (i + 1)).drop (j - (i + 1)) = t.getD j [] :: t.drop (j + 1) := by
      rw [List.drop_drop, show i + 1 + (j - (i + 1)) = j by omega, List.drop_eq_getElem_cons h2]
      simp [List.getElem?_eq_getElem h2]
    rw [← e2, List.take_append_drop, ← e1, List.take_append_drop]
  · apply List.ext_getElem?
    intro k
    rw [List.getElem?_set, List.length_set, List.getElem?_set]
    by_cases hk : k < i
    · rw [if_neg (by omega), if_neg (by omega), List.getElem?_append_left (by rw [List.length_take]; omega), List.getElem?_take_of_lt hk]
    · rw [List.getElem?_append_right (by rw [List.length_take]; omega), List.length_take, show min i t.length = i by omega]
      by_cases hk2 : k = i
      · subst hk2
        rw [if_neg (by omega), if_pos rfl, if_pos (by omega), Nat.sub_self]
        rfl
      · obtain ⟨m, rfl⟩ : ∃ m, k = i + 1 + m := ⟨k - (i + 1), by omega⟩
        rw [show i + 1 + m - i = m + 1 by omega, List.getElem?_cons_succ]
        by_cases hm : i + 1 + m < j
        · rw [if_neg (by omega), if_neg (by omega), List.getElem?_append_left (by rw [List.length_take, List.length_drop]; omega), List.getElem?_take_of_lt (by omega), List.getElem?_drop]
        · rw [List.getElem?_append_right (by rw [List.length_take, List.length_drop]; omega), List.length_take, List.length_drop, show min (j - (i + 1)) (t.length - (i + 1)) = j - (i + 1) by omega]
          by_cases hm2 : i + 1 + m = j
          · rw [if_pos hm2.symm, if_pos h2, show m - (j - (i + 1)) = 0 by omega]
            rfl
          · obtain ⟨q, rfl⟩ : ∃ q, m = j - i + q := ⟨m - (j - i), by omega⟩
            rw [if_neg (by omega), if_neg (by omega), show j - i + q - (j - (i + 1)) = q + 1 by omega, List.getElem?_cons_succ, List.getElem?_drop]
            congr 1
            omega
theorem perm3 (A B C : Tab) (x y : Row) : (A ++ x :: (B ++ y :: C)).Perm (x :: y :: (A ++ B ++ C)) := by
  refine List.perm_middle.trans (List.Perm.cons x ?_)
  rw [← List.append_assoc]
  exact List.perm_middle
theorem laid_odds {n g : Nat} {t : Tab} (G : Good n g t) {p : Nat × Nat} (hp : p ∈ oddsT t) : oddsN (laid t p.1 p.2) < oddsN t := by
  obtain ⟨h1, h2, h3⟩ := mem_odds.mp hp
  obtain ⟨A, B, C, e, hs⟩ := cut3 h1 h2
  have e2 : laid t p.1 p.2 = A ++ highR (t.getD p.1 []) (t.getD p.2 []) :: (B ++ lessR (t.getD p.1 []) (t.getD p.2 []) :: C) := hs _ _
  have wide : ∀ r ∈ t, r.length = g := G.wide
  rw [e2]
  generalize t.getD p.1 [] = a at *
  generalize t.getD p.2 [] = b at *
  have la : a.length = g := wide a (by rw [e]; simp)
  have lb : b.length = g := wide b (by rw [e]; simp)
  have e1 : a.length = b.length := by omega
  have e3 : oddsN t = oddsN (a :: b :: (A ++ B ++ C)) := by rw [e]; exact oddsN_perm (perm3 A B C a b)
  rw [oddsN_perm (perm3 A B C _ _), e3]
  simp only [oddsN, List.countP_cons]
  have z : oddsR (highR a b) (lessR a b) = false := by
    have q := over_trans (a := highR a b) (b := a) (c := lessR a b) (by rw [high_len]; omega) (by rw [less_len]; omega) (over_high e1).1 (less_over e1).1
    unfold oddsR
    rw [q]
    rfl
  rw [z, h3]
  have all : ∀ r ∈ A ++ B ++ C, r.length = g := fun r hr => wide r (by
    rw [e]
    simp only [List.mem_append, List.mem_cons] at hr ⊢
    rcases hr with (h | h) | h
    · exact .inl h
    · exact .inr (.inr (.inl h))
    · exact .inr (.inr (.inr (.inr h))))
  have key : ∀ l : Tab, (∀ r ∈ l, r.length = g) → l.countP (oddsR (highR a b)) + l.countP (oddsR (lessR a b)) ≤ l.countP (oddsR a) + l.countP (oddsR b) := by
    intro l
    induction l with
    | nil => intro _; exact Nat.le_refl _
    | cons c l ih =>
      intro hl
      have i1 := ih fun r hr => hl r (List.mem_cons_of_mem _ hr)
      have i2 := odds_third (c := c) e1 (by rw [la, hl c List.mem_cons_self]) h3
      unfold o1 at i2
      rw [oddsR_symm c, oddsR_symm c (lessR a b), oddsR_symm c a, oddsR_symm c b] at i2
      simp only [List.countP_cons]
      omega
  have := key _ all
  simp only [Bool.false_eq_true, if_false, if_true]
  omega
theorem high_mem {P : Int → Prop} : ∀ {a b : Row}, (∀ x ∈ a, P x) → (∀ x ∈ b, P x) → (∀ x ∈ highR a b, P x) ∧ ∀ x ∈ lessR a b, P x
  | [], _, _, _ => ⟨fun x h => (by simp [highR] at h), fun x h => (by simp [lessR] at h)⟩
  | _ :: _, [], _, _ => ⟨fun x h => (by simp [highR] at h), fun x h => (by simp [lessR] at h)⟩
  | u :: a, v :: b, ha, hb => by
    obtain ⟨i1, i2⟩ := high_mem (P := P) (a := a) (b := b) (fun x h => ha x (List.mem_cons_of_mem _ h)) fun x h => hb x (List.mem_cons_of_mem _ h)
    have hu := ha u List.mem_cons_self
    have hv := hb v List.mem_cons_self
    refine ⟨fun x h => ?_, fun x h => ?_⟩
    · rcases List.mem_cons.mp (show x ∈ max u v :: highR a b from h) with e | h
      · rw [e]
        rcases Int.le_total u v with q | q
        · rw [Int.max_eq_right q]; exact hv
        · rw [Int.max_eq_left q]; exact hu
      · exact i1 x h
    · rcases List.mem_cons.mp (show x ∈ min u v :: lessR a b from h) with e | h
      · rw [e]
        rcases Int.le_total u v with q | q
        · rw [Int.min_eq_left q]; exact hu
        · rw [Int.min_eq_right q]; exact hv
      · exact i2 x h
theorem getD_mem {t : Tab} {i : Nat} (h : i < t.length) : t.getD i [] ∈ t := by
  rw [List.getD_eq_getElem?_getD, List.getElem?_eq_getElem h]
  exact List.getElem_mem h
theorem laid_good {n g : Nat} {t : Tab} (G : Good n g t) {i j : Nat} (hi : i < t.length) (hj : j < t.length) : Good n g (laid t i j) := by
  have ha := getD_mem hi
  have hb := getD_mem hj
  have mem : ∀ r ∈ laid t i j, r ∈ t ∨ r = highR (t.getD i []) (t.getD j []) ∨ r = lessR (t.getD i []) (t.getD j []) := fun r hr => by
    rcases List.mem_or_eq_of_mem_set hr with h | h
    · rcases List.mem_or_eq_of_mem_set h with h | h
      · exact .inl h
      · exact .inr (.inl h)
    · exact .inr (.inr h)
  have wa := G.wide _ ha
  have wb := G.wide _ hb
  obtain ⟨p1, p2⟩ := high_mem (P := fun x => 0 ≤ x ∧ x ≤ 99) (G.heap _ ha) (G.heap _ hb)
  refine ⟨?_, fun r hr => ?_, fun r hr => ?_⟩
  · unfold laid
    rw [List.length_set, List.length_set]
    exact G.len
  · rcases mem r hr with h | h | h
    · exact G.wide r h
    · rw [h, high_len]; omega
    · rw [h, less_len]; omega
  · rcases mem r hr with h | h | h
    · exact G.heap r h
    · rw [h]; exact p1
    · rw [h]; exact p2

/-! ### what comes next -/
def uniq (l : List Tab) : List Tab := l.foldl (fun acc x => if x ∈ acc then acc else acc ++ [x]) []
theorem uniq_go : ∀ (l acc : List Tab), acc.Nodup → (l.foldl (fun acc x => if x ∈ acc then acc else acc ++ [x]) acc).Nodup ∧ ∀ y, y ∈ l.foldl (fun acc x => if x ∈ acc then acc else acc ++ [x]) acc ↔ y ∈ acc ∨ y ∈ l
  | [], acc, h => ⟨h, fun y => by simp⟩
  | x :: l, acc, h => by
    rw [List.foldl_cons]
    by_cases hx : x ∈ acc
    · rw [if_pos hx]
      obtain ⟨h1, h2⟩ := uniq_go l acc h
      refine ⟨h1, fun y => ?_⟩
      rw [h2, List.mem_cons]
      constructor
      · rintro (h | h)
        · exact .inl h
        · exact .inr (.inr h)
      · rintro (h | rfl | h)
        · exact .inl h
        · exact .inl hx
        · exact .inr h
    · rw [if_neg hx]
      have h' : (acc ++ [x]).Nodup := by
        rw [List.nodup_append]
        refine ⟨h, by simp, fun a ha b hb => ?_⟩
        rw [List.mem_singleton.mp hb]
        exact fun z => hx (z ▸ ha)
      obtain ⟨h1, h2⟩ := uniq_go l (acc ++ [x]) h'
      refine ⟨h1, fun y => ?_⟩
      rw [h2, List.mem_append, List.mem_singleton, List.mem_cons, or_assoc]
theorem uniq_nodup (l : List Tab) : (uniq l).Nodup := (uniq_go l [] List.nodup_nil).1
theorem mem_uniq {l : List Tab} {x : Tab} : x ∈ uniq l ↔ x ∈ l := by
  unfold uniq
  rw [(uniq_go l [] List.nodup_nil).2]
  simp
def deeds (t : Tab) : List Tab := (oddsT t).map fun p => crowd (laid t p.1 p.2)
def nexts (t : Tab) : List Tab := (uniq (deeds t)).mergeSort tabLe
theorem nexts_perm (t : Tab) : (nexts t).Perm (uniq (deeds t)) := List.mergeSort_perm _ _
theorem mem_nexts {t x : Tab} : x ∈ nexts t ↔ ∃ p ∈ oddsT t, crowd (laid t p.1 p.2) = x := by
  rw [(nexts_perm t).mem_iff, mem_uniq]
  unfold deeds
  rw [List.mem_map]
theorem nexts_nodup (t : Tab) : (nexts t).Nodup := (nexts_perm t).nodup_iff.mpr (uniq_nodup _)
/-- any list of them, each once, sorted -/
theorem nexts_eq {t : Tab} {l : List Tab} (h : l.Nodup) (m : ∀ x, x ∈ l ↔ x ∈ deeds t) : l.mergeSort tabLe = nexts t :=
  tabs_sort_perm ((List.perm_ext_iff_of_nodup h (uniq_nodup _)).mpr fun x => (m x).trans mem_uniq.symm)
theorem nexts_good {n g : Nat} {t x : Tab} (G : Good n g t) (h : x ∈ nexts t) : Good n g x ∧ oddsN x < oddsN t ∧ crowd x = x := by
  obtain ⟨p, hp, rfl⟩ := mem_nexts.mp h
  obtain ⟨h1, h2, h3⟩ := mem_odds.mp hp
  refine ⟨(laid_good G (by omega) h2).crowd, ?_, crowd_crowd _⟩
  rw [oddsN_perm (crowd_perm _)]
  exact laid_odds G hp
end K5
namespace K5
open PySem PySem.Spec PySem.W PyProof.Rows

/-! ### sums and greatest along the deeds -/
section
variable {β : Type} (op : β → β → β)
def updF (v : Tab → β) (k : Tab) (b : β) : Tab → β := fun x => if x = k then b else v x
def stepF (here : Tab) (v : Tab → β) (told : Tab) : Tab → β := updF v told (op (v told) (v here))
def accF (v : Tab → β) (here : Tab) : Tab → β := (nexts here).foldl (stepF op here) v
def runF (v : Tab → β) (S : List Tab) : Tab → β := S.foldl (accF op) v
theorem steps_at {here : Tab} : ∀ (l : List Tab) (v : Tab → β), l.Nodup → here ∉ l → ∀ x, (l.foldl (stepF op here) v) x = if x ∈ l then op (v x) (v here) else v x
  | [], v, _, _, x => by simp
  | y :: l, v, nd, hn, x => by
    rw [List.foldl_cons]
    obtain ⟨n1, n2⟩ := List.nodup_cons.mp nd
    have h1 : here ≠ y := fun z => hn (z ▸ List.mem_cons_self)
    rw [steps_at l _ n2 (fun z => hn (List.mem_cons_of_mem _ z)) x]
    unfold stepF updF
    rw [if_neg h1]
    by_cases e : x = y
    · subst e
      rw [if_neg n1, if_pos rfl, if_pos List.mem_cons_self]
    · rw [if_neg e]
      by_cases e2 : x ∈ l
      · rw [if_pos e2, if_pos (List.mem_cons_of_mem _ e2)]
      · rw [if_neg e2, if_neg (by simp [e, e2])]
/-- all that S holds is a table; the odds fall along S -/
def Topo (n g : Nat) (S : List Tab) : Prop := (∀ x ∈ S, Good n g x) ∧ S.Pairwise fun y z => oddsN z ≤ oddsN y
theorem run_at {n g : Nat} : ∀ (S : List Tab) (v : Tab → β), Topo n g S → ∀ x, runF op v S x = (S.filter fun y => decide (x ∈ nexts y)).foldl (fun a y => op a (runF op v S y)) (v x)
  | [], v, _, x => rfl
  | s :: S, v, ⟨hg, hp⟩, x => by
    have gs := hg s List.mem_cons_self
    obtain ⟨p1, p2⟩ := List.pairwise_cons.mp hp
    have self : s ∉ nexts s := fun z => by
      have := (nexts_good gs z).2.1
      omega
    have ih := run_at S (accF op v s) ⟨fun y hy => hg y (List.mem_cons_of_mem _ hy), p2⟩
    have av : ∀ y, accF op v s y = if y ∈ nexts s then op (v y) (v s) else v y := steps_at op _ v (nexts_nodup s) self
    have none : (S.filter fun y => decide (s ∈ nexts y)) = [] := by
      rw [List.filter_eq_nil_iff]
      intro y hy z
      have := (nexts_good (hg y (List.mem_cons_of_mem _ hy)) (of_decide_eq_true z)).2.1
      have := p1 y hy
      omega
    have hs : runF op v (s :: S) s = v s := by
      show runF op (accF op v s) S s = v s
      rw [ih, none, List.foldl_nil, av, if_neg self]
    show runF op (accF op v s) S x = _
    rw [ih, av]
    show List.foldl (fun a y => op a (runF op v (s :: S) y)) _ _ = _
    rw [List.filter_cons]
    by_cases e : x ∈ nexts s
    · rw [if_pos e, if_pos (by simpa using e), List.foldl_cons, hs]
    · rw [if_neg e, if_neg (by simpa using e)]
theorem odds_bound : ∀ S : List Tab, ∃ N, ∀ y ∈ S, oddsN y ≤ N
  | [] => ⟨0, fun _ z => nomatch z⟩
  | s :: S => by
    obtain ⟨N, h⟩ := odds_bound S
    refine ⟨N + oddsN s, fun y hy => ?_⟩
    rcases List.mem_cons.mp hy with rfl | hy
    · omega
    · have := h y hy
      omega
/-- in any such order the same comes out -/
theorem run_eq {n g : Nat} (comm : ∀ a b c : β, op (op a b) c = op (op a c) b) {S S' : List Tab} (p : S.Perm S') (v : Tab → β) (h : Topo n g S) (h' : Topo n g S') : runF op v S = runF op v S' := by
  obtain ⟨N, hN⟩ : ∃ N, ∀ y ∈ S, oddsN y ≤ N := odds_bound S
  have key : ∀ k x, N < oddsN x + k → runF op v S x = runF op v S' x := by
    intro k
    induction k with
    | zero =>
      intro x hx
      have none : ∀ U : List Tab, (∀ y ∈ U, y ∈ S) → (U.filter fun y => decide (x ∈ nexts y)) = [] := fun U hU => by
        rw [List.filter_eq_nil_iff]
        intro y hy z
        have := (nexts_good (h.1 y (hU y hy)) (of_decide_eq_true z)).2.1
        have := hN y (hU y hy)
        omega
      rw [run_at op S v h, run_at op S' v h', none S fun y h => h, none S' fun y hy => p.mem_iff.mpr hy]
      rfl
    | succ k ih =>
      intro x hx
      rw [run_at op S v h, run_at op S' v h']
      rw [List.Perm.foldl_eq' (p.filter _) (fun a _ b _ z => comm z _ _) (v x)]
      have go : ∀ (U : List Tab) (a : β), (∀ y ∈ U, y ∈ S') → (U.filter fun y => decide (x ∈ nexts y)).foldl (fun a y => op a (runF op v S y)) a = (U.filter fun y => decide (x ∈ nexts y)).foldl (fun a y => op a (runF op v S' y)) a := by
        intro U
        induction U with
        | nil => intro a _; rfl
        | cons u U iu =>
          intro a hU
          have r := fun b => iu b fun y hy => hU y (List.mem_cons_of_mem _ hy)
          rw [List.filter_cons]
          by_cases e : x ∈ nexts u
          · have := (nexts_good (h'.1 u (hU u List.mem_cons_self)) e).2.1
            rw [if_pos (by simpa using e), List.foldl_cons, List.foldl_cons, ih u (by omega), r]
          · rw [if_neg (by simpa using e), r]
      exact go S' (v x) fun y h => h
  funext x
  exact key (N + 1) x (by omega)
end
/-- the most deeds, and the ways -/
def opM (a b : Nat) : Nat := max a (b + 1)
theorem opM_comm (a b c : Nat) : opM (opM a b) c = opM (opM a c) b := by
  unfold opM
  omega
def opW (a b : Nat) : Nat := a + b
theorem opW_comm (a b c : Nat) : opW (opW a b) c = opW (opW a c) b := by
  unfold opW
  omega

/-! ### columns -/
def col (c : Nat) (t : Tab) : List Int := t.map fun r => r.getD c 0
def Cols (s t : Tab) : Prop := ∀ c, (col c t).Perm (col c s)
theorem Cols.refl (s : Tab) : Cols s s := fun _ => List.Perm.refl _
theorem Cols.trans {a b c : Tab} (h : Cols a b) (k : Cols b c) : Cols a c := fun i => (k i).trans (h i)
theorem Cols.perm {a b : Tab} (h : b.Perm a) : Cols a b := fun _ => h.map _
theorem high_getD : ∀ {a b : Row} (c : Nat), a.length = b.length → (highR a b).getD c 0 = max (a.getD c 0) (b.getD c 0) ∧ (lessR a b).getD c 0 = min (a.getD c 0) (b.getD c 0)
  | [], [], c, _ => by simp [highR, lessR]
  | [], _ :: _, _, e => by simp at e
  | _ :: _, [], _, e => by simp at e
  | x :: a, y :: b, 0, _ => ⟨rfl, rfl⟩
  | x :: a, y :: b, c + 1, e => high_getD (a := a) (b := b) c (by simpa using e)
theorem laid_cols {n g : Nat} {t : Tab} (G : Good n g t) {i j : Nat} (h1 : i < j) (h2 : j < t.length) : Cols t (laid t i j) := by
  intro c
  obtain ⟨A, B, C, e, hs⟩ := cut3 h1 h2
  have e2 : laid t i j = A ++ highR (t.getD i []) (t.getD j []) :: (B ++ lessR (t.getD i []) (t.getD j []) :: C) := hs _ _
  have wa := G.wide _ (getD_mem (show i < t.length by omega))
  have wb := G.wide _ (getD_mem h2)
  rw [e2]
  generalize t.getD i [] = a at *
  generalize t.getD j [] = b at *
  obtain ⟨q1, q2⟩ := high_getD (a := a) (b := b) c (by omega)
  have p1 : (col c (A ++ highR a b :: (B ++ lessR a b :: C))).Perm (col c (highR a b :: lessR a b :: (A ++ B ++ C))) := (perm3 A B C _ _).map _
  have p2 : (col c t).Perm (col c (a :: b :: (A ++ B ++ C))) := by rw [e]; exact (perm3 A B C _ _).map _
  refine p1.trans (List.Perm.trans ?_ p2.symm)
  unfold col
  rw [List.map_cons, List.map_cons, List.map_cons, List.map_cons, q1, q2]
  rcases Int.le_total (a.getD c 0) (b.getD c 0) with z | z
  · rw [Int.max_eq_right z, Int.min_eq_left z]
    exact List.Perm.swap _ _ _
  · rw [Int.max_eq_left z, Int.min_eq_right z]
theorem nexts_cols {n g : Nat} {t x : Tab} (G : Good n g t) (h : x ∈ nexts t) : Cols t x := by
  obtain ⟨p, hp, rfl⟩ := mem_nexts.mp h
  obtain ⟨h1, h2, h3⟩ := mem_odds.mp hp
  exact (laid_cols G h1 h2).trans (Cols.perm (crowd_perm _))
/-! ### how many there can be -/
def ins {α : Type} (x : α) : List α → List (List α)
  | [] => [[x]]
  | y :: l => (x :: y :: l) :: (ins x l).map (y :: ·)
def perms {α : Type} : List α → List (List α)
  | [] => [[]]
  | x :: l => (perms l).flatMap (ins x)
def fac : Nat → Nat
  | 0 => 1
  | n + 1 => fac n * (n + 1)
section
variable {α : Type}
theorem ins_len (x : α) : ∀ l : List α, (ins x l).length = l.length + 1
  | [] => rfl
  | y :: l => by
    show ((x :: y :: l) :: (ins x l).map (y :: ·)).length = _
    rw [List.length_cons, List.length_map, ins_len x l, List.length_cons]
theorem ins_mem (x : α) : ∀ a b : List α, a ++ x :: b ∈ ins x (a ++ b)
  | [], [] => List.mem_cons_self
  | [], y :: b => List.mem_cons_self
  | y :: a, b => List.mem_cons_of_mem _ (List.mem_map_of_mem (ins_mem x a b))
theorem ins_of {x : α} : ∀ {l m : List α}, m ∈ ins x l → m.length = l.length + 1
  | [], m, h => by
    rw [List.mem_singleton.mp h]
    rfl
  | y :: l, m, h => by
    rcases List.mem_cons.mp h with h | h
    · rw [h]
      rfl
    · obtain ⟨k, hk, rfl⟩ := List.mem_map.mp h
      rw [List.length_cons, ins_of hk, List.length_cons]
theorem perms_of : ∀ {l m : List α}, m ∈ perms l → m.length = l.length
  | [], m, h => by
    rw [List.mem_singleton.mp h]
  | x :: l, m, h => by
    obtain ⟨k, hk, hm⟩ := List.mem_flatMap.mp h
    rw [ins_of hm, perms_of hk, List.length_cons]
theorem flat_len {γ δ : Type} (f : γ → List δ) (c : Nat) : ∀ l : List γ, (∀ x ∈ l, (f x).length = c) → (l.flatMap f).length = l.length * c
  | [], _ => by simp
  | x :: l, h => by
    rw [List.flatMap_cons, List.length_append, h x List.mem_cons_self, flat_len f c l fun y hy => h y (List.mem_cons_of_mem _ hy), List.length_cons, Nat.succ_mul]
    omega
theorem perms_len : ∀ l : List α, (perms l).length = fac l.length
  | [] => rfl
  | x :: l => by
    show ((perms l).flatMap (ins x)).length = _
    rw [flat_len (ins x) (l.length + 1) _ fun m hm => by rw [ins_len, perms_of hm], perms_len l]
    rfl
theorem mem_perms : ∀ {l m : List α}, m.Perm l → m ∈ perms l
  | [], m, h => by
    rw [h.eq_nil]
    exact List.mem_cons_self
  | x :: l, m, h => by
    obtain ⟨a, b, rfl⟩ := List.append_of_mem (h.mem_iff.mpr List.mem_cons_self)
    have p : (a ++ b).Perm l := List.Perm.cons_inv (List.perm_middle.symm.trans h)
    exact List.mem_flatMap.mpr ⟨a ++ b, mem_perms p, ins_mem x a b⟩
end
def cands (n : Nat) : List (List Int) → List Tab
  | [] => [List.replicate n []]
  | c :: cs => (perms c).flatMap fun p => (cands n cs).map fun t => List.zipWith List.cons p t
theorem cands_len (n : Nat) : ∀ cs : List (List Int), (∀ c ∈ cs, c.length = n) → (cands n cs).length = fac n ^ cs.length
  | [], _ => rfl
  | c :: cs, h => by
    show ((perms c).flatMap fun p => (cands n cs).map fun t => List.zipWith List.cons p t).length = _
    rw [flat_len _ (fac n ^ cs.length) _ fun p _ => by rw [List.length_map, cands_len n cs fun d hd => h d (List.mem_cons_of_mem _ hd)], perms_len, h c List.mem_cons_self, List.length_cons, Nat.pow_succ, Nat.mul_comm]
theorem zip_back : ∀ (g : Nat) (t : Tab), (∀ r ∈ t, r.length = g + 1) → List.zipWith List.cons (col 0 t) (t.map List.tail) = t
  | _, [], _ => rfl
  | g, r :: t, h => by
    have e := zip_back g t fun x hx => h x (List.mem_cons_of_mem _ hx)
    have hr := h r List.mem_cons_self
    match r, hr with
    | y :: ys, _ =>
      show (y :: ys) :: List.zipWith List.cons (col 0 t) (t.map List.tail) = _
      rw [e]
theorem col_tail (c : Nat) (t : Tab) : col c (t.map List.tail) = col (c + 1) t := by
  unfold col
  rw [List.map_map]
  congr 1
  funext r
  cases r <;> simp
theorem mem_cands (n : Nat) : ∀ (cs : List (List Int)) (t : Tab), t.length = n → (∀ r ∈ t, r.length = cs.length) → (∀ i c, cs[i]? = some c → (col i t).Perm c) → t ∈ cands n cs
  | [], t, hn, hw, _ => by
    have : t = List.replicate n [] := List.eq_replicate_iff.mpr ⟨hn, fun r hr => List.length_eq_zero_iff.mp (hw r hr)⟩
    rw [this]
    exact List.mem_cons_self
  | c :: cs, t, hn, hw, hc => by
    have ih := mem_cands n cs (t.map List.tail) (by rw [List.length_map, hn]) (fun r hr => by
      obtain ⟨u, hu, rfl⟩ := List.mem_map.mp hr
      rw [List.length_tail, hw u hu, List.length_cons, Nat.add_sub_cancel]) fun i d hd => by
      rw [col_tail]
      exact hc (i + 1) d (by simpa using hd)
    refine List.mem_flatMap.mpr ⟨col 0 t, mem_perms (hc 0 c rfl), List.mem_map.mpr ⟨_, ih, zip_back cs.length t hw⟩⟩
theorem row_head {a b : Row} {g : Nat} (ha : a.length = g + 1) (hb : b.length = g + 1) (h : rowLe b a = true) : b.getD 0 0 ≤ a.getD 0 0 := by
  have h : (!dataLt (rowD a) (rowD b)) = true := h
  rw [Bool.not_eq_true', rowLt_eq] at h
  match a, b, ha, hb with
  | y :: a, x :: b, _, _ =>
    show x ≤ y
    by_cases e : y = x
    · omega
    · simp only [listLt, if_neg e] at h
      have h : decide (y < x) = false := h
      simp at h
      omega
theorem col0_eq {n g : Nat} {s t u : Tab} (gt : Good n (g + 1) t) (gu : Good n (g + 1) u) (ct : crowd t = t) (cu : crowd u = u) (kt : Cols s t) (ku : Cols s u) : col 0 t = col 0 u := by
  have pw : ∀ {t : Tab}, Good n (g + 1) t → crowd t = t → (col 0 t).Pairwise fun a b => b ≤ a := fun {t} G e => by
    have p := crowd_pw t
    rw [e] at p
    unfold col
    rw [List.pairwise_map]
    exact p.imp_of_mem fun ha hb h => row_head (G.wide _ ha) (G.wide _ hb) h
  exact List.Perm.eq_of_pairwise (le := fun a b => b ≤ a) (fun a b _ _ h1 h2 => by omega) (pw gt ct) (pw gu cu) ((kt 0).trans (ku 0).symm)
theorem many {n g : Nat} {s : Tab} (gs : Good n (g + 1) s) {K : List Tab} (nd : K.Nodup) (h : ∀ t ∈ K, Good n (g + 1) t ∧ crowd t = t ∧ Cols s t) : K.length ≤ fac n ^ g := by
  match K, nd, h with
  | [], _, _ => exact Nat.zero_le _
  | k0 :: K, nd, h =>
    obtain ⟨g0, c0, k0c⟩ := h k0 List.mem_cons_self
    let cs : List (List Int) := (List.range g).map fun i => col (i + 1) s
    have lcs : cs.length = g := by simp [cs]
    have sub : (k0 :: K) ⊆ (cands n cs).map fun t => List.zipWith List.cons (col 0 k0) t := fun t ht => by
      obtain ⟨gt, ct, kt⟩ := h t ht
      refine List.mem_map.mpr ⟨t.map List.tail, mem_cands n cs _ (by rw [List.length_map, gt.len]) (fun r hr => ?_) fun i c hc => ?_, ?_⟩
      · obtain ⟨u, hu, rfl⟩ := List.mem_map.mp hr
        rw [List.length_tail, gt.wide u hu, lcs, Nat.add_sub_cancel]
      · rw [col_tail]
        rw [List.getElem?_map] at hc
        obtain ⟨j, hj, rfl⟩ := Option.map_eq_some_iff.mp hc
        obtain ⟨_, ej⟩ := List.getElem?_eq_some_iff.mp hj
        rw [List.getElem_range] at ej
        rw [← ej]
        exact kt (i + 1)
      · rw [← col0_eq gt g0 ct c0 kt k0c]
        exact zip_back g t gt.wide
    have := List.Nodup.length_le_of_subset nd sub
    rw [List.length_map, cands_len n cs fun c hc => by
      obtain ⟨i, _, rfl⟩ := List.mem_map.mp hc
      unfold col
      rw [List.length_map, gs.len], lcs] at this
    exact this
/-- the sizes the law draws -/
def Small (n g : Nat) : Prop := 1 ≤ n ∧ 1 ≤ g ∧ ((n ≤ 4 ∧ g ≤ 3) ∨ (n ≤ 5 ∧ g ≤ 2))
theorem few {n g : Nat} {s : Tab} (z : Small n g) (gs : Good n g s) {K : List Tab} (nd : K.Nodup) (h : ∀ t ∈ K, Good n g t ∧ crowd t = t ∧ Cols s t) : K.length ≤ 3000 := by
  obtain ⟨z1, z2, z3⟩ := z
  obtain ⟨g, rfl⟩ : ∃ k, g = k + 1 := ⟨g - 1, by omega⟩
  refine Nat.le_trans (many gs nd h) ?_
  rcases z3 with ⟨a, b⟩ | ⟨a, b⟩
  · have hn : n = 1 ∨ n = 2 ∨ n = 3 ∨ n = 4 := by omega
    have hg : g = 0 ∨ g = 1 ∨ g = 2 := by omega
    rcases hn with rfl | rfl | rfl | rfl <;> rcases hg with rfl | rfl | rfl <;> decide
  · have hn : n = 1 ∨ n = 2 ∨ n = 3 ∨ n = 4 ∨ n = 5 := by omega
    have hg : g = 0 ∨ g = 1 := by omega
    rcases hn with rfl | rfl | rfl | rfl | rfl <;> rcases hg with rfl | rfl <;> decide
end K5
namespace K5
open PySem PySem.Spec PySem.W PyProof.Rows

/-! ### the search in breadth -/
abbrev BF := List (Tab × Nat)
abbrev ks (F : BF) : List Tab := F.map (·.1)
def dOf (F : BF) (x : Tab) : Nat := ((F.find? fun p => decide (p.1 = x)).map (·.2)).getD 0
def bIn (here : Tab) (S : BF × List Tab) (told : Tab) : BF × List Tab := if told ∈ ks S.1 then S else (S.1 ++ [(told, dOf S.1 here + 1)], S.2 ++ [told])
def bHere (S : BF × List Tab) (here : Tab) : BF × List Tab := (nexts here).foldl (bIn here) S
def bRound (F : BF) (rim : List Tab) : BF × List Tab := rim.foldl bHere (F, [])
def bfsGo : Nat → BF → List Tab → BF
  | 0, F, _ => F
  | k + 1, F, rim => if rim = [] then F else bfsGo k (bRound F rim).1 (bRound F rim).2
def bfs (t : Tab) : BF := bfsGo (oddsN t + 1) [(crowd t, 0)] [crowd t]
theorem dOf_app {F : BF} {x : Tab} (h : x ∈ ks F) (p : Tab × Nat) : dOf (F ++ [p]) x = dOf F x := by
  unfold dOf
  rw [List.find?_append]
  obtain ⟨q, hq, e⟩ := List.mem_map.mp h
  have : ∃ r, F.find? (fun p => decide (p.1 = x)) = some r := by
    cases z : F.find? (fun p => decide (p.1 = x)) with
    | some r => exact ⟨r, rfl⟩
    | none =>
      have := List.find?_eq_none.mp z q hq
      exact absurd e (by simpa using this)
  obtain ⟨r, hr⟩ := this
  rw [hr]
  rfl
theorem dOf_new {F : BF} {x : Tab} (h : x ∉ ks F) (m : Nat) : dOf (F ++ [(x, m)]) x = m := by
  unfold dOf
  rw [List.find?_append]
  have : F.find? (fun p => decide (p.1 = x)) = none := by
    rw [List.find?_eq_none]
    intro q hq z
    exact h (List.mem_map.mpr ⟨q, hq, by simpa using z⟩)
  rw [this]
  simp
/-- where the search stands: done, the rest of the rim, and what comes later -/
structure BI (n g : Nat) (t : Tab) (b : Nat) (done rest : List Tab) (S : BF × List Tab) : Prop where
  keys : ks S.1 = done ++ rest ++ S.2
  nd : (ks S.1).Nodup
  good : ∀ x ∈ ks S.1, Good n g x ∧ crowd x = x ∧ Cols t x
  clo : ∀ x ∈ done, ∀ y ∈ nexts x, y ∈ ks S.1
  st : crowd t ∈ ks S.1
  d0 : dOf S.1 (crowd t) = 0
  pred : ∀ x ∈ ks S.1, x = crowd t ∨ ∃ y ∈ ks S.1, x ∈ nexts y ∧ dOf S.1 x = dOf S.1 y + 1
  lv : ∀ x ∈ rest, oddsN x ≤ b
  lv2 : ∀ x ∈ S.2, oddsN x < b
  le : b ≤ oddsN t
section
variable {n g b : Nat} {t here told : Tab} {done rest : List Tab} {S : BF × List Tab}
theorem bIn_inv (h : BI n g t b done (here :: rest) S) (m : told ∈ nexts here) : BI n g t b done (here :: rest) (bIn here S told) ∧ told ∈ ks (bIn here S told).1 ∧ ∀ x ∈ ks S.1, x ∈ ks (bIn here S told).1 := by
  unfold bIn
  by_cases e : told ∈ ks S.1
  · rw [if_pos e]
    exact ⟨h, e, fun x h => h⟩
  · rw [if_neg e]
    have hk : here ∈ ks S.1 := by rw [h.keys]; simp
    obtain ⟨gh, ch, kh⟩ := h.good here hk
    obtain ⟨g1, g2, g3⟩ := nexts_good gh m
    have hl := h.lv here List.mem_cons_self
    have kk : ks (S.1 ++ [(told, dOf S.1 here + 1)]) = ks S.1 ++ [told] := by simp [ks]
    have old : ∀ x ∈ ks S.1, x ∈ ks (S.1 ++ [(told, dOf S.1 here + 1)]) := fun x hx => by rw [kk]; exact List.mem_append_left _ hx
    refine ⟨⟨?_, ?_, ?_, ?_, old _ h.st, ?_, ?_, h.lv, ?_, h.le⟩, by rw [kk]; simp, old⟩
    · rw [kk, h.keys]
      simp
    · rw [kk, List.nodup_append]
      exact ⟨h.nd, by simp, fun a ha c hc => by
        rw [List.mem_singleton.mp hc]
        exact fun z => e (z ▸ ha)⟩
    · intro x hx
      rw [kk] at hx
      rcases List.mem_append.mp hx with hx | hx
      · exact h.good x hx
      · rw [List.mem_singleton.mp hx]
        exact ⟨g1, g3, kh.trans (nexts_cols gh m)⟩
    · exact fun x hx y hy => old y (h.clo x hx y hy)
    · exact (dOf_app h.st _).trans h.d0
    · intro x hx
      rw [kk] at hx
      rcases List.mem_append.mp hx with hx | hx
      · rcases h.pred x hx with q | ⟨y, hy, q1, q2⟩
        · exact .inl q
        · refine .inr ⟨y, old y hy, q1, ?_⟩
          show dOf (S.1 ++ [_]) x = dOf (S.1 ++ [_]) y + 1
          rw [dOf_app hx, dOf_app hy, q2]
      · obtain rfl := List.mem_singleton.mp hx
        refine .inr ⟨here, old here hk, m, ?_⟩
        show dOf (S.1 ++ [_]) x = dOf (S.1 ++ [_]) here + 1
        rw [dOf_new e, dOf_app hk]
    · intro x hx
      rcases List.mem_append.mp hx with hx | hx
      · exact h.lv2 x hx
      · rw [List.mem_singleton.mp hx]
        omega
theorem bIns_inv : ∀ (l : List Tab) {S : BF × List Tab}, (∀ y ∈ l, y ∈ nexts here) → BI n g t b done (here :: rest) S →
    BI n g t b done (here :: rest) (l.foldl (bIn here) S) ∧ (∀ y ∈ l, y ∈ ks (l.foldl (bIn here) S).1) ∧ ∀ x ∈ ks S.1, x ∈ ks (l.foldl (bIn here) S).1
  | [], S, _, h => ⟨h, (fun _ z => nomatch z), fun x h => h⟩
  | y :: l, S, m, h => by
    obtain ⟨h1, h2, h3⟩ := bIn_inv h (m y List.mem_cons_self)
    obtain ⟨k1, k2, k3⟩ := bIns_inv l (fun z hz => m z (List.mem_cons_of_mem _ hz)) h1
    rw [List.foldl_cons]
    refine ⟨k1, fun z hz => ?_, fun x hx => k3 x (h3 x hx)⟩
    rcases List.mem_cons.mp hz with rfl | hz
    · exact k3 _ h2
    · exact k2 z hz
theorem bHere_inv (h : BI n g t b done (here :: rest) S) : BI n g t b (done ++ [here]) rest (bHere S here) := by
  obtain ⟨h1, h2, h3⟩ := bIns_inv (nexts here) (fun _ h => h) h
  refine ⟨?_, h1.nd, h1.good, fun x hx => ?_, h1.st, h1.d0, h1.pred, fun x hx => h1.lv x (List.mem_cons_of_mem _ hx), h1.lv2, h1.le⟩
  · show ks (bHere S here).1 = _
    rw [show ks (bHere S here).1 = _ from h1.keys]
    simp [bHere]
  · rcases List.mem_append.mp hx with hx | hx
    · exact h1.clo x hx
    · rw [List.mem_singleton.mp hx]
      exact h2
theorem bRest_inv : ∀ (rest : List Tab) {done : List Tab} {S : BF × List Tab}, BI n g t b done rest S → BI n g t b (done ++ rest) [] (rest.foldl bHere S)
  | [], done, S, h => by
    rw [List.append_nil]
    exact h
  | here :: rest, done, S, h => by
    have := bRest_inv rest (bHere_inv h)
    rwa [List.append_assoc, List.singleton_append] at this
theorem bTurn_inv {F : BF} {rim : List Tab} (h : BI n g t b done rim (F, [])) : BI n g t (b - 1) (done ++ rim) (bRound F rim).2 ((bRound F rim).1, []) ∧ ((bRound F rim).2 ≠ [] → 1 ≤ b) := by
  have k := bRest_inv rim h
  change BI n g t b (done ++ rim) [] (bRound F rim) at k
  refine ⟨⟨?_, k.nd, k.good, k.clo, k.st, k.d0, k.pred, fun x hx => ?_, fun x hx => (nomatch hx), ?_⟩, fun ne => ?_⟩
  · have := k.keys
    rw [List.append_nil] at this
    rw [List.append_nil]
    exact this
  · have := k.lv2 x hx
    omega
  · have := k.le
    omega
  · match hq : (bRound F rim).2 with
    | [] => exact absurd hq ne
    | x :: _ =>
      have := k.lv2 x (by rw [hq]; exact List.mem_cons_self)
      omega
theorem bStart (G : Good n g t) : BI n g t (oddsN t) [] [crowd t] ([(crowd t, 0)], []) := by
  refine ⟨rfl, by simp, fun x hx => ?_, fun _ z => (nomatch z), by simp, by simp [dOf], fun x hx => ?_, fun x hx => ?_, fun x hx => (nomatch hx), Nat.le_refl _⟩
  · rw [List.mem_singleton.mp hx]
    exact ⟨G.crowd, crowd_crowd t, Cols.perm (crowd_perm t)⟩
  · exact .inl (List.mem_singleton.mp hx)
  · rw [List.mem_singleton.mp hx, oddsN_perm (crowd_perm t)]
    exact Nat.le_refl _
end
/-- what is found in the end -/
structure BfsOk (n g : Nat) (t : Tab) (F : BF) : Prop where
  nd : (ks F).Nodup
  good : ∀ x ∈ ks F, Good n g x ∧ crowd x = x ∧ Cols t x
  clo : ∀ x ∈ ks F, ∀ y ∈ nexts x, y ∈ ks F
  st : crowd t ∈ ks F
  d0 : dOf F (crowd t) = 0
  pred : ∀ x ∈ ks F, x = crowd t ∨ ∃ y ∈ ks F, x ∈ nexts y ∧ dOf F x = dOf F y + 1
theorem BI.ok {n g b : Nat} {t : Tab} {done : List Tab} {F : BF} (h : BI n g t b done [] (F, [])) : BfsOk n g t F := by
  have e : ks F = done := by simpa using h.keys
  exact ⟨h.nd, h.good, fun x hx => h.clo x (e ▸ hx), h.st, h.d0, h.pred⟩
/-- k rounds are enough, and any more -/
def Enough (k b : Nat) (rim : List Tab) : Prop := rim = [] ∨ b < k
theorem Enough.turn {n g b k : Nat} {t : Tab} {done rim : List Tab} {F : BF} (h : BI n g t b done rim (F, [])) (e : Enough (k + 1) b rim) (ne : rim ≠ []) : Enough k (b - 1) (bRound F rim).2 := by
  rcases e with e | e
  · exact absurd e ne
  · by_cases z : (bRound F rim).2 = []
    · exact .inl z
    · have := (bTurn_inv h).2 z
      exact .inr (by omega)
theorem go_ok {n g : Nat} {t : Tab} : ∀ (k b : Nat) {done rim : List Tab} {F : BF}, BI n g t b done rim (F, []) → Enough k b rim → BfsOk n g t (bfsGo k F rim)
  | 0, b, done, rim, F, h, e => by
    rcases e with e | e
    · subst e
      exact h.ok
    · omega
  | k + 1, b, done, rim, F, h, e => by
    show BfsOk n g t (if rim = [] then F else bfsGo k (bRound F rim).1 (bRound F rim).2)
    by_cases z : rim = []
    · rw [if_pos z]
      subst z
      exact h.ok
    · rw [if_neg z]
      exact go_ok k (b - 1) (bTurn_inv h).1 (e.turn h z)
theorem bfs_ok {n g : Nat} {t : Tab} (G : Good n g t) : BfsOk n g t (bfs t) := go_ok _ _ (bStart G) (.inr (by omega))
/-- the keys in order of the odds -/
def negO (t : Tab) : Int := 0 - ((oddsT t).length : Int)
theorem negO_eq (t : Tab) : negO t = 0 - (oddsN t : Int) := by
  unfold negO
  rw [odds_len]
theorem topo_of {n g : Nat} {S : List Tab} (h : ∀ x ∈ S, Good n g x) (p : S.Pairwise fun a b => negO a ≤ negO b) : Topo n g S :=
  ⟨h, p.imp fun {a b} q => by
    rw [negO_eq, negO_eq] at q
    omega⟩
/-- the orders in which the three walk -/
def ordK (K : List Tab) : List Tab := K.mergeSort fun a b => decide (negO a ≤ negO b)
theorem ordK_perm (K : List Tab) : (ordK K).Perm K := List.mergeSort_perm _ _
theorem ordK_topo {n g : Nat} {K : List Tab} (h : ∀ x ∈ K, Good n g x) : Topo n g (ordK K) :=
  topo_of (fun x hx => h x ((ordK_perm K).mem_iff.mp hx)) ((List.pairwise_mergeSort (fun a b c h1 h2 => by
    simp only [decide_eq_true_eq] at h1 h2 ⊢
    omega) (fun a b => by
    simp only [Bool.or_eq_true, decide_eq_true_eq]
    omega) K).imp fun h => by simpa using h)
def mostOf (t : Tab) : Tab → Nat := runF opM (fun _ => 0) (ordK (ks (bfs t)))
def waysOf (t : Tab) : Tab → Nat := runF opW (fun x => if x = crowd t then 1 else 0) (ordK (ks (bfs t)))
end K5
namespace K5
open PySem PySem.Spec PyProof.Rows L2
/-! ## THE PROGRAM: its defs among the top statements -/
def top (i : Nat) : Stmt := PySem.Challenge.pw_laytogether_k05_whole_numbers_of_deeds.main.body.getD i (.Pass ⟨0, 0, 0, 0⟩)
abbrev s_whole : Stmt := top 9
abbrev s_within : Stmt := top 10
abbrev s_tuple_of : Stmt := top 11
abbrev s_is_row : Stmt := top 12
abbrev s_bad_row : Stmt := top 13
abbrev s_need_table : Stmt := top 14
abbrev s_is_table : Stmt := top 15
abbrev s_need_like : Stmt := top 16
abbrev s_is_over_row : Stmt := top 18
abbrev s_are_at_odds : Stmt := top 19
abbrev s_odds_of : Stmt := top 20
abbrev s_crowd_of : Stmt := top 23
abbrev s_laid : Stmt := top 24
abbrev s_nexts_of : Stmt := top 25
abbrev s_spread : Stmt := top 26
abbrev s_all_met : Stmt := top 27
abbrev s_count_met : Stmt := top 28
abbrev s_can_come : Stmt := top 29
abbrev s_least_deeds : Stmt := top 30
abbrev s_most_deeds : Stmt := top 31
abbrev s_count_ways : Stmt := top 32
abbrev s_way : Stmt := top 33
abbrev s_is_row_of_deeds : Stmt := top 34
abbrev s_shows_way : Stmt := top 35
abbrev s_count_by_odds : Stmt := top 36
abbrev s_Ltaken : Stmt := top 38
abbrev s_Lpick : Stmt := top 39
abbrev s_Ltable : Stmt := top 40
abbrev s_Lunlike : Stmt := top 41
abbrev s_Lcrowd : Stmt := top 42
abbrev s_Lhigh : Stmt := top 43
abbrev s_Lless : Stmt := top 44
abbrev s_Llaid : Stmt := top 45
abbrev s_Lover : Stmt := top 46
abbrev s_Lat_odds : Stmt := top 47
abbrev s_Lodds : Stmt := top 48
abbrev s_Lnexts : Stmt := top 49
abbrev s_Lmet : Stmt := top 50
abbrev s_Lalike : Stmt := top 51
abbrev s_Lmixed : Stmt := top 52
abbrev s_Ltower : Stmt := top 53
abbrev s_law : Stmt := top 54
end K5
namespace K5
open PySem PySem.Spec PyProof.Rows L2 LamX RZ

theorem hu66 {A : Around} {k : Nat} (hr : Room k A) : A.units + 66 < cLine := by
  have := hr.un
  omega
theorem hu65 {A : Around} {k : Nat} (hr : Room k A) : A.units + 65 < cLine := by
  have := hr.un
  omega
/-! ### defs by their promises -/
/-- what the walks know of the names of the top -/
structure Fr (mg : Str → Option Value) : Prop where
  len : mg "len" = none
  zip : mg "zip" = none
  all : mg "all" = none
  any : mg "any" = none
  isinstance : mg "isinstance" = none
  int : mg "int" = none
  bool : mg "bool" = none
  tuple : mg "tuple" = none
  list : mg "list" = none
  str : mg "str" = none
  enumerate : mg "enumerate" = none
  range : mg "range" = none
  sorted : mg "sorted" = none
  max : mg "max" = none
  min : mg "min" = none
  set : mg "set" = none
  m_MOST_PEOPLE : ∃ t, mg "MOST_PEOPLE" = some (.int 6 t)
  m_MOST_GOODS : ∃ t, mg "MOST_GOODS" = some (.int 5 t)
  m_MOST_HEAP : ∃ t, mg "MOST_HEAP" = some (.int 99 t)
  m_MOST_MET : ∃ t, mg "MOST_MET" = some (.int 3000 t)
theorem pe_intg {X : Cx} {x : Str} {i : Int} {pos : Pos} (hg : Gl X x) (hm : ∃ t, X.mg x = some (.int i t)) (hd : (x == ("__debug__" : Str)) = false := by decide) : PE X (.Name x pos) (tC (.int i)) :=
  let ⟨_, e⟩ := hm
  pe_glob hg e ⟨_, rfl⟩ hd
/-- the def x keeps its promise -/
structure Kn (P : Program) (w : World) (K : PySem.W.Frag) (mg : Str → Option Value) (base : Heap) (x : Str) (ps : List Str) (k : Nat) (sp : Sp) : Prop where
  ex : ∃ f fd, mg x = some (.ref f) ∧ PySem.W.keepIn K (.ref f) = true ∧ Binds K fd ps [] ∧ FnOk P w K mg base CX0 k f fd ps sp
theorem pe_k {X : Cx} {x : Str} {ps : List Str} {k : Nat} {sp : Sp} {e : Expr} {es : List Expr} {t : TA} {p pos : Pos} (h : Kn X.prog X.w X.K X.mg X.base x ps k sp) (hr : Room k X.A) (hg : Gl X x)
    (ha : PA X (e :: es) t) (hdb : (x == ("__debug__" : Str)) = false := by decide) (he : starEach (e :: es) X.env = (false, eval e X.env) :: starEach es X.env := by rfl) (hpl : (backTo pos (starEach es X.env)).any (·.1) = false := by rfl) :
    PE X (.Call (.Name x p) (e :: es) [] pos) (tCall sp [] E0 t) := by
  obtain ⟨f, fd, m, kp, b, F⟩ := h.ex
  exact pe_call F hr hg m kp b .nil pass0 ha hdb he hpl
abbrev FnP (K : PySem.W.Frag) (x : Str) (st : Stmt) (f : Addr) (fd : FuncData) : Prop := FunD K x x (defArgs st) (defBody st) (defScope st) [] [] f fd

theorem paired_app {α β : Type} {R : α → β → Prop} : ∀ {as : List α} {bs : List β} {as' : List α} {bs' : List β}, Paired R as bs → Paired R as' bs' → Paired R (as ++ as') (bs ++ bs')
  | [], _, _, _, p, q => by
    cases p
    exact q
  | a :: as, _, _, _, p, q => by
    cases p with
    | cons p1 p2 => exact .cons p1 (paired_app p2 q)
theorem paired_rev {α β : Type} {R : α → β → Prop} : ∀ {as : List α} {bs : List β}, Paired R as bs → Paired R as.reverse bs.reverse
  | [], _, p => by
    cases p
    exact .nil
  | a :: as, _, p => by
    cases p with
    | cons p1 p2 =>
      rw [List.reverse_cons, List.reverse_cons]
      exact paired_app (paired_rev p2) (.cons p1 .nil)
theorem paired_at {α β : Type} {R : α → β → Prop} : ∀ {as : List α} {bs : List β} {i : Nat} {a : α}, Paired R as bs → as[i]? = some a → ∃ b, bs[i]? = some b ∧ R a b
  | [], _, _, _, p, e => by simp at e
  | x :: as, _, 0, a, p, e => by
    cases p with
    | cons p1 p2 =>
      have e : x = a := by simpa using e
      exact ⟨_, rfl, e ▸ p1⟩
  | x :: as, _, i + 1, a, p, e => by
    cases p with
    | cons p1 p2 => exact paired_at (i := i) p2 (by simpa using e)
theorem paired_at' {α β : Type} {R : α → β → Prop} : ∀ {as : List α} {bs : List β} {i : Nat} {b : β}, Paired R as bs → bs[i]? = some b → ∃ a, as[i]? = some a ∧ R a b
  | [], _, _, _, p, e => by
    cases p
    simp at e
  | x :: as, _, 0, b, p, e => by
    cases p with
    | cons p1 p2 =>
      rw [List.getElem?_cons_zero] at e
      cases e
      exact ⟨_, rfl, p1⟩
  | x :: as, _, i + 1, b, p, e => by
    cases p with
    | cons p1 p2 => exact paired_at' (i := i) p2 (by simpa using e)
/-- values that stand for data -/
def VInt (_ : Hp) (v : V) (i : Int) : Prop := v = .int i
def VBl (_ : Hp) (v : V) (b : Bool) : Prop := v = .bl b
def VRow (H : Hp) (v : V) (r : Row) : Prop := ∃ a, v = .ref a ∧ IsRow H a r
def VTab (H : Hp) (v : V) (t : Tab) : Prop := ∃ a, v = .ref a ∧ IsTab H a t
def VPair (H : Hp) (v : V) (p : Nat × Nat) : Prop := ∃ a, v = .ref a ∧ H a = some (.tup [.int p.1, .int p.2])
theorem VRow.kt {H H' : Hp} {v : V} {r : Row} (h : VRow H v r) (k : KT H H') : VRow H' v r := let ⟨a, e, h⟩ := h; ⟨a, e, h.kt k⟩
theorem VTab.kt {H H' : Hp} {v : V} {r : Tab} (h : VTab H v r) (k : KT H H') : VTab H' v r := let ⟨a, e, h⟩ := h; ⟨a, e, h.kt k⟩
theorem VPair.kt {H H' : Hp} {v : V} {r : Nat × Nat} (h : VPair H v r) (k : KT H H') : VPair H' v r := let ⟨a, e, h⟩ := h; ⟨a, e, k _ _ h⟩
theorem vints : ∀ {vs : List V} {is : List Int} {H : Hp}, Paired (VInt H) vs is → vs = is.map V.int
  | [], _, _, p => by
    cases p
    rfl
  | v :: vs, _, _, p => by
    cases p with
    | cons p1 p2 => rw [List.map_cons, ← vints p2, show v = _ from p1]
theorem vbls : ∀ {vs : List V} {is : List Bool} {H : Hp}, Paired (VBl H) vs is → vs = is.map V.bl
  | [], _, _, p => by
    cases p
    rfl
  | v :: vs, _, _, p => by
    cases p with
    | cons p1 p2 => rw [List.map_cons, ← vbls p2, show v = _ from p1]
/-- refs to rows: their addresses -/
theorem vrefs {β : Type} {R : Addr → β → Prop} : ∀ {vs : List V} {bs : List β}, Paired (fun v b => ∃ a, v = .ref a ∧ R a b) vs bs → ∃ as : List Addr, vs = as.map V.ref ∧ Paired R as bs
  | [], _, p => by
    cases p
    exact ⟨[], rfl, .nil⟩
  | v :: vs, _, p => by
    cases p with
    | cons p1 p2 =>
      obtain ⟨a, e, h⟩ := p1
      obtain ⟨as, e2, h2⟩ := vrefs p2
      exact ⟨a :: as, by rw [e, e2]; rfl, .cons h h2⟩
theorem refs_v {β : Type} {R : Addr → β → Prop} : ∀ {as : List Addr} {bs : List β}, Paired R as bs → Paired (fun v b => ∃ a, v = V.ref a ∧ R a b) (as.map V.ref) bs
  | [], _, p => by
    cases p
    exact .nil
  | a :: as, _, p => by
    cases p with
    | cons p1 p2 => exact .cons ⟨a, rfl, p1⟩ (refs_v p2)
theorem tab_of_rows {H : Hp} {a : Addr} {vs : List V} {t : Tab} (h : H a = some (.tup vs)) (p : Paired (VRow H) vs t) : IsTab H a t := by
  obtain ⟨as, rfl, q⟩ := vrefs p
  exact ⟨as, h, q⟩
theorem IsTab.rows {H : Hp} {a : Addr} {t : Tab} (h : IsTab H a t) : ∃ vs, H a = some (.tup vs) ∧ Paired (VRow H) vs t := by
  obtain ⟨as, h, q⟩ := h
  exact ⟨_, h, refs_v q⟩
theorem filterMap_map {β : Type} (f : Nat → β) : ∀ n, (List.range n).filterMap (fun i => some (f i)) = (List.range n).map f := fun n => by
  rw [← List.filterMap_eq_map]
  rfl
theorem range_getD {α β : Type} (f : α → β) (d : α) : ∀ l : List α, (List.range l.length).map (fun i => f (l.getD i d)) = l.map f := fun l => by
  apply List.ext_getElem
  · simp
  · intro i h1 h2
    simp at h1 h2
    simp [h2]
theorem neI_false {i j : Int} (h : i = j) : V.bl (!decide (V.int i = V.int j)) = V.bl false := by simp [h]
theorem eqI_true {i j : Int} (h : i = j) : V.bl (decide (V.int i = V.int j)) = V.bl true := by simp [h]
theorem eqI_false {i j : Int} (h : i ≠ j) : V.bl (decide (V.int i = V.int j)) = V.bl false := by simp [h]
theorem neI_true {i j : Int} (h : i ≠ j) : V.bl (!decide (V.int i = V.int j)) = V.bl true := by simp [h]
theorem small_line {n : Nat} (h : n ≤ 100000) : n < sizeLine := by
  rw [sizeLine_eq]
  omega
theorem dom_of {H : Hp} {b : Addr} {o : HO} (h : H b = some o) : H b ≠ none := by rw [h]; exact fun z => nomatch z

theorem walk_zipT {K : PySem.W.Frag} {a b : Addr} {xs ys : List V} {n : Nat} (hn : n = min xs.length ys.length) : Walk (ItzT K a b) n (fun H => SqT K H a xs ∧ SqT K H b ys) (YPair (fun i => xs[i]?) (fun i => ys[i]?)) := by
  subst hn
  refine ⟨fun i _ hi q => ?_, fun _ q => ⟨xs, ys, q.1, q.2, by omega⟩, fun i H v H' _ q y => ?_⟩
  · have h1 : i < xs.length := by omega
    have h2 : i < ys.length := by omega
    exact ⟨xs, ys, xs[i], ys[i], q.1, q.2, by simp [h1], by simp [h2]⟩
  · obtain ⟨T, x, z, h1, h2, h3, h4, h5⟩ := y
    exact ⟨T, x, z, h1, h2, h3, h4 xs q.1, h5 ys q.2⟩
theorem over_range : ∀ {r u : Row}, r.length = u.length → ((List.range r.length).map fun i => decide (r.getD i 0 ≥ u.getD i 0)).all id = overR r u
  | [], [], _ => rfl
  | [], _ :: _, e => by simp at e
  | _ :: _, [], e => by simp at e
  | x :: r, y :: u, e => by
    rw [List.length_cons, List.range_succ_eq_map, List.map_cons, List.map_map, List.all_cons, over_cons, ← over_range (r := r) (u := u) (by simpa using e)]
    rfl
/-! ### comprehensions that give data -/
theorem lc_yes {σ : L2.St} {H : Hp} {A Z : Hp → Prop} (h : A H) : tYes σ H fun b H3 => if b = true then A H3 else Z H3 := by
  show if true = true then A H else Z H
  exact iteT h
/-- what a comprehension makes: out i, if anything, at turn i -/
theorem lc_out {J : It} {n : Nat} {G : Hp → Prop} {Y : Nat → Hp → V → Hp → Prop} (w : Walk J n G Y) {T : List (Addr × Str)} {H1 : Hp} {D : Addr} (nD : H1 D = none) {β : Type} (R : Hp → V → β → Prop)
    (kt : ∀ H H' v b xs, H D = some (.lst xs) → ExtX T D H H' → R H v b → R H' v b) (out : Nat → Option β) (hz : n ≤ sizeLine) (hG : ∀ H, Ext T H1 H → G H) {g : TG} {tt : TT} {te : TE} {vs : List Nat} {σ : L2.St} {Qd : Hp → Prop}
    (hs : ∀ i x H H' (Ad : V → Hp → Prop) (Z : Hp → Prop), i < n → Ext T H1 H → Y i H x H' → (∀ y H4 b, out i = some b → Ext T H H4 → R H4 y b → Ad y H4) → (∀ H3, out i = none → Ext T H H3 → Z H3) →
      g x (wipe σ vs) H' fun σ2 H2 => wipe σ2 vs = wipe σ vs ∧ tt σ2 H2 fun b H3 => if b = true then te σ2 H3 Ad else Z H3)
    (hd : ∀ H acc, Ext T H1 H → H D = some (.lst acc) → Paired (R H) acc ((List.range n).filterMap out) → Qd H) :
    ∃ W : Nat → Nat → Hp → Prop, (∃ m, W 0 m (upd H1 D (.lst []))) ∧ ∀ i m H, W i m H →
      (J.stop i H ∧ Qd H) ∨ (J.go i H ∧ ∃ Nx : Hp → Prop, (∀ H', Nx H' → ∃ m', m' < m ∧ W (i + 1) m' H') ∧ ∀ x H', J.yld i H x H' → g x (wipe σ vs) H' fun σ2 H2 => wipe σ2 vs = wipe σ vs ∧ tt σ2 H2 fun b H3 =>
        if b = true then te σ2 H3 fun y H4 => ∃ acc, H4 D = some (.lst acc) ∧ acc.length < sizeLine ∧ Nx (upd H4 D (.lst (acc ++ [y]))) else Nx H3) := by
  have lens : ∀ i, ((List.range i).filterMap out).length ≤ i := fun i => Nat.le_trans (List.length_filterMap_le _ _) (by simp)
  have kts : ∀ {H H' : Hp} {acc xs : List V} {bs : List β}, H D = some (.lst xs) → ExtX T D H H' → Paired (R H) acc bs → Paired (R H') acc bs := fun h e p => Paired.mapP p fun a b r => kt _ _ a b _ h e r
  refine lc_it w (fun i H => ∃ acc, Ext T H1 H ∧ H D = some (.lst acc) ∧ Paired (R H) acc ((List.range i).filterMap out)) ⟨[], (Ext.refl T H1).add nD, upd_same, .nil⟩ (fun i H _ ⟨acc, e, _⟩ => hG H e) (fun i x H H' hi ⟨acc, e, eD, p⟩ y => ?_) fun H ⟨acc, e, eD, p⟩ => hd H acc e eD p
  refine hs i x H H' _ _ hi e y (fun y H4 b ob e4 r => ?_) fun H3 ob e3 => ?_
  · have eD4 := e4.lst eD
    have l := Paired.length p
    have l2 := lens i
    have e5 : ExtX T D H4 (upd H4 D (.lst (acc ++ [y]))) := .mutL eD4
    refine ⟨acc, eD4, by omega, acc ++ [y], (e.trans e4).mutL nD eD4, upd_same, ?_⟩
    rw [List.range_succ, List.filterMap_append]
    simp only [List.filterMap_cons, ob, List.filterMap_nil]
    exact paired_app (kts eD (e4.x.trans e5) p) (.cons (kt _ _ _ _ _ eD4 e5 r) .nil)
  · refine ⟨acc, e.trans e3, e3.lst eD, ?_⟩
    rw [List.range_succ, List.filterMap_append]
    simp only [List.filterMap_cons, ob, List.filterMap_nil, List.append_nil]
    exact kts eD e3.x p
end K5
namespace K5
open PySem PySem.Spec PyProof.Rows L2 LamX RZ
section
variable {T : List (Addr × Str)} {P : Program} {w : World} {K : PySem.W.Frag} {mg : Str → Option Value} {base : Heap} {f : Addr} {fd : FuncData}
/-! ### checks -/
abbrev n_whole : List Str := ["value"]
theorem sc_whole : FnScope n_whole ["value"] (defScope s_whole) := ⟨rfl, rfl, rfl, by decide +kernel, rfl, by decide +kernel, by decide +kernel⟩
def spWhole : Sp := fun vs H Q _ => ∃ i, vs = [.int i] ∧ Q (.bl true) H
theorem ok_whole (fr : Fr mg) (F : FnP K "whole" s_whole f fd) : FnOk P w K mg base CX0 1 f fd ["value"] spWhole := by
  refine F.ok sc_whole (fun vs H Q E h => ?_) (fun cdv A outer s H vs Q E hr h => ?_)
  · obtain ⟨i, rfl, _⟩ := h
    rfl
  · obtain ⟨i, rfl, q⟩ := h
    have nd := sc_whole.nd
    refine ⟨_, (PSs.nox (pss_one (ps_ret (pe_and (pe_callB call_isi rfl fr.isinstance (by decide +kernel) (pa_cons (pv 0) (pa_cons (pe_bltn (v := .ty "int") rfl fr.int (by decide +kernel) rfl) pa_nil))) (pe_one (pe_not (pe_callB call_isi rfl fr.isinstance (by decide +kernel) (pa_cons (pv 0) (pa_cons (pe_bltn (v := .ty "bool") rfl fr.bool (by decide +kernel) rfl) pa_nil))))))))), ?_⟩
    refine ⟨_, rfl, _, _, _, _, true, rfl, .ty "int", .base (.int i), kit_ty (by decide +kernel), true, rfl, iteT ?_⟩
    exact ⟨_, rfl, _, _, _, _, false, rfl, .ty "bool", .base (.int i), kit_ty (by decide +kernel), false, rfl, q⟩
abbrev n_within : List Str := ["value", "low", "high"]
theorem sc_within : FnScope n_within ["value", "low", "high"] (defScope s_within) := ⟨rfl, rfl, rfl, by decide +kernel, rfl, by decide +kernel, by decide +kernel⟩
def spWithin : Sp := fun vs H Q _ => ∃ i lo hi : Int, vs = [.int i, .int lo, .int hi] ∧ lo ≤ i ∧ i ≤ hi ∧ Q (.bl true) H
theorem ok_within (fr : Fr mg) (g_whole : Kn P w K mg base "whole" ["value"] 1 spWhole) (F : FnP K "within" s_within f fd) : FnOk P w K mg base CX0 2 f fd ["value", "low", "high"] spWithin := by
  refine F.ok sc_within (fun vs H Q E h => ?_) (fun cdv A outer s H vs Q E hr h => ?_)
  · obtain ⟨i, lo, hi, rfl, _⟩ := h
    rfl
  · obtain ⟨i, lo, hi, rfl, h1, h2, q⟩ := h
    have nd := sc_within.nd
    refine ⟨_, (PSs.nox (pss_one (ps_ret (pe_and (pe_k g_whole (hr.mono (by decide)) rfl (pa_cons (pv 0) pa_nil)) (pe_one (pe_chain op_le op_le (pv 1) (pv 0) (pv 2))))))), ?_⟩
    refine ⟨_, rfl, i, rfl, true, rfl, iteT ?_⟩
    refine ⟨_, rfl, _, rfl, lo, i, rfl, rfl, _, rfl, ?_⟩
    rw [decide_eq_true h1]
    refine iteT ⟨_, rfl, i, hi, rfl, rfl, ?_⟩
    show Q (.bl (decide (i ≤ hi))) H
    rw [decide_eq_true h2]
    exact q
abbrev n_tuple_of : List Str := ["value", "low", "high"]
theorem sc_tuple_of : FnScope n_tuple_of ["value", "low", "high"] (defScope s_tuple_of) := ⟨rfl, rfl, rfl, by decide +kernel, rfl, by decide +kernel, by decide +kernel⟩
def spTupleOf : Sp := fun vs H Q _ => ∃ (a : Addr) (xs : List V) (lo hi : Int), vs = [.ref a, .int lo, .int hi] ∧ H a = some (.tup xs) ∧ lo ≤ xs.length ∧ (xs.length : Int) ≤ hi ∧ Q (.bl true) H
theorem ok_tuple_of (fr : Fr mg) (F : FnP K "tuple_of" s_tuple_of f fd) : FnOk P w K mg base CX0 1 f fd ["value", "low", "high"] spTupleOf := by
  refine F.ok sc_tuple_of (fun vs H Q E h => ?_) (fun cdv A outer s H vs Q E hr h => ?_)
  · obtain ⟨a, xs, lo, hi, rfl, _⟩ := h
    rfl
  · obtain ⟨a, xs, lo, hi, rfl, ha, h1, h2, q⟩ := h
    have nd := sc_tuple_of.nd
    refine ⟨_, (PSs.nox (pss_one (ps_ret (pe_and (pe_callB call_isi rfl fr.isinstance (by decide +kernel) (pa_cons (pv 0) (pa_cons (pe_bltn (v := .ty "tuple") rfl fr.tuple (by decide +kernel) rfl) pa_nil))) (pe_one (pe_chain op_le op_le (pv 1) (pe_callB call_len_seq rfl fr.len (by decide +kernel) (pa_cons (pv 0) pa_nil)) (pv 2))))))), ?_⟩
    refine ⟨_, rfl, _, _, _, _, true, rfl, .ty "tuple", .base (.tup ha), kit_ty (by decide +kernel), true, rfl, iteT ?_⟩
    refine ⟨_, rfl, _, rfl, a, xs, rfl, .inr (.inl (.inl ha)), lo, xs.length, rfl, rfl, _, rfl, ?_⟩
    rw [decide_eq_true h1]
    refine iteT ⟨_, rfl, xs.length, hi, rfl, rfl, ?_⟩
    show Q (.bl (decide ((xs.length : Int) ≤ hi))) H
    rw [decide_eq_true h2]
    exact q
abbrev n_is_row : List Str := ["value", "goods", "heap"]
theorem sc_is_row : FnScope n_is_row ["value", "goods"] (defScope s_is_row) := ⟨rfl, rfl, rfl, by decide +kernel, rfl, by decide +kernel, by decide +kernel⟩
def spIsRow (T : List (Addr × Str)) : Sp := fun vs H Q _ => ∃ (a : Addr) (r : Row) (g : Nat), vs = [.ref a, .int g] ∧ IsRow H a r ∧ r.length = g ∧ g ≤ 100 ∧ (∀ x ∈ r, 0 ≤ x ∧ x ≤ 99) ∧ ∀ H', Ext T H H' → Q (.bl true) H'
theorem ok_is_row (fr : Fr mg) (g_within : Kn P w K mg base "within" ["value", "low", "high"] 2 spWithin) (g_tuple_of : Kn P w K mg base "tuple_of" ["value", "low", "high"] 1 spTupleOf) (F : FnP K "is_row" s_is_row f fd) :
    FnOk P w K mg base CX0 3 f fd ["value", "goods"] (spIsRow T) := by
  refine F.ok sc_is_row (fun vs H Q E h => ?_) (fun cdv A outer s H vs Q E hr h => ?_)
  · obtain ⟨a, r, g, rfl, _⟩ := h
    rfl
  · obtain ⟨a, r, g, rfl, ha, hg, g1, hh, q⟩ := h
    have nd := sc_is_row.nd
    refine ⟨_, (PSs.nox (pss_one (ps_ret (pe_and (pe_k g_tuple_of (hr.mono (by decide)) rfl (pa_cons (pv 0) (pa_cons (pv 1) (pa_cons (pv 1) pa_nil)))) (pe_one (pe_callB (cr_all rfl) rfl fr.all (by decide +kernel) (pa_cons (pe_lc (g := (gName 2)) (own := [("heap", 2)]) (tt := tYes) rfl nd (pi_tup (pv 0)) (blkOk_by (N := n_is_row) (own := [("heap", 2)]) (sc := (defScope s_is_row)) (by decide +kernel)) (fun _ _ _ _ _ => (pg_name (i := 2) nd rfl (by first | exact .inl rfl | exact .inr rfl))) (fun _ _ _ _ _ => pts_nil) (fun _ _ _ _ _ => (pe_k g_within (hr.mono (by decide)) rfl (pa_cons (pv 2) (pa_cons pe_int (pa_cons (pe_intg rfl fr.m_MOST_HEAP) pa_nil)))))) pa_nil))))))), ?_⟩
    refine ⟨_, rfl, _, rfl, _, rfl, a, _, _, _, rfl, ha, by rw [List.length_map]; omega, by rw [List.length_map]; omega, true, rfl, iteT ?_⟩
    refine ⟨_, rfl, a, rfl, ⟨_, .inl (.inl ha)⟩, fun D nD => lc_out (walk_tup (xs := r.map V.int)) (T := T) nD VBl (fun _ _ _ _ _ _ _ h => h) (fun _ => some true) (Nat.le_of_lt (small_line (by rw [List.length_map]; omega))) (fun H' e => .inl (.inl (e.tup ha))) (fun i x H1 H1' Ad Z hi e y hA hZ => ?_) fun H1 acc e eD p => ?_⟩
    · obtain ⟨rfl, y2⟩ := y
      refine ⟨rfl, lc_yes ?_⟩
      rw [List.getElem?_map] at y2
      obtain ⟨z, hz, rfl⟩ := Option.map_eq_some_iff.mp y2
      obtain ⟨h1, h2⟩ := hh z (List.mem_of_getElem? hz)
      exact ⟨_, rfl, z, 0, 99, rfl, h1, h2, hA _ _ true rfl (.refl _ _) rfl⟩
    · obtain rfl := vbls p
      refine ⟨D, _, rfl, .inl (.inl eD), ?_⟩
      have e2 : ((List.range (r.map V.int).length).filterMap fun _ => some true).all id = true := by
        rw [List.all_eq_true]
        intro b hb
        obtain ⟨_, _, e⟩ := List.mem_filterMap.mp hb
        cases e
        rfl
      rw [e2]
      exact q _ e
abbrev n_bad_row : List Str := ["table", "goods", "index", "row"]
theorem sc_bad_row : FnScope n_bad_row ["table"] (defScope s_bad_row) := ⟨rfl, rfl, rfl, by decide +kernel, rfl, by decide +kernel, by decide +kernel⟩
/-- a table as the law draws it stands at a -/
structure TabOk (H : Hp) (a : Addr) (n g : Nat) (t : Tab) : Prop where
  tab : IsTab H a t
  good : Good n g t
  small : Small n g
theorem TabOk.ext {H H' : Hp} {a : Addr} {n g : Nat} {t : Tab} (h : TabOk H a n g t) (e : Ext T H H') : TabOk H' a n g t := ⟨e.tab h.tab, h.good, h.small⟩
def spBadRow (T : List (Addr × Str)) (r : V) : Sp := fun vs H Q _ => ∃ (a : Addr) (n g : Nat) (t : Tab), vs = [.ref a] ∧ TabOk H a n g t ∧ ∀ H', Ext T H H' → Q r H'
theorem ok_bad_row (fr : Fr mg) (g_is_row : Kn P w K mg base "is_row" ["value", "goods"] 3 (spIsRow T)) (g_tuple_of : Kn P w K mg base "tuple_of" ["value", "low", "high"] 1 spTupleOf) (F : FnP K "bad_row" s_bad_row f fd) :
    FnOk P w K mg base CX0 4 f fd ["table"] (spBadRow T .non) := by
  refine F.ok sc_bad_row (fun vs H Q E h => ?_) (fun cdv A outer s H vs Q E hr h => ?_)
  · obtain ⟨a, n, g, t, rfl, _⟩ := h
    rfl
  · obtain ⟨a, n, g, t, rfl, ok, q⟩ := h
    have nd := sc_bad_row.nd
    obtain ⟨vs, ha, pr⟩ := ok.tab.rows
    obtain ⟨z1, z2, z3⟩ := ok.small
    have ln := ok.good.len
    have lv := Paired.length pr
    obtain ⟨r0, hr0⟩ : ∃ r, t[0]? = some r := ⟨t[0], List.getElem?_eq_getElem (by omega)⟩
    obtain ⟨v0, hv0, a0, rfl, h0⟩ := paired_at' pr hr0
    have w0 := ok.good.wide r0 (List.mem_of_getElem? hr0)
    refine ⟨_, (PSs.nox (pss_cons (ps_set (i := 1) nd rfl (by first | exact .inl rfl | exact .inr rfl) (pe_ifExp (pt_val (pe_k g_tuple_of (hr.mono (by decide)) rfl (pa_cons (pe_ix ix_tup (pv 0) pe_int (fun _ _ => rfl)) (pa_cons pe_int (pa_cons (pe_intg rfl fr.m_MOST_GOODS) pa_nil))))) (pe_callB call_len_seq rfl fr.len (by decide +kernel) (pa_cons (pe_ix ix_tup (pv 0) pe_int (fun _ _ => rfl)) pa_nil)) pe_non))
      (pss_cons (ps_for PassesOwn.never rfl (pi_enumT rfl fr.enumerate (pa_cons (pv 0) pa_nil)) (pg_tup rfl (pgs_cons (pg_name (i := 2) nd rfl (by first | exact .inl rfl | exact .inr rfl)) (pgs_cons (pg_name (i := 3) nd rfl (by first | exact .inl rfl | exact .inr rfl)) pgs_nil)))
      (pss_one (ps_if (PW.pt (pw_or (pt_cmpR op_isN (pv 1) pe_non (nomark _)) (pw_or1 (pt_not (pt_val (pe_k g_is_row (hr.mono (by decide)) rfl (pa_cons (pv 3) (pa_cons (pv 1) pa_nil)))))))) (pss_one (ps_ret (pv 2))) pss_nil)))
      (pss_one (ps_ret pe_non))))), ?_⟩
    refine ⟨_, rfl, a, _, 0, _, rfl, rfl, .inl (.inl ha), atI_nat hv0, a0, _, 1, 5, rfl, h0, by rw [List.length_map]; omega, by rw [List.length_map]; omega, true, rfl, iteT ?_⟩
    refine ⟨_, rfl, a, _, 0, _, rfl, rfl, .inl (.inl ha), atI_nat hv0, a0, _, rfl, .inr (.inl (.inl h0)), ?_⟩
    refine ⟨_, rfl, a, _, rfl, .inl (.inl ha), ?_⟩
    refine for_it walk_enumT (fun i σ H' => ∃ y2 y3, σ = [some (.ref a), some (.int g), y2, y3] ∧ Ext T H H') ⟨none, none, ?_, .refl _ _⟩ (fun i σ H' _ ⟨_, _, _, e⟩ => .inl (.inl (e.tup ha))) (fun i x σ H' H'' hi ⟨y2, y3, e1, e⟩ y => ?_) fun σ H' ⟨_, _, _, e⟩ => q H' e
    · rw [List.length_map, w0]
      rfl
    · obtain ⟨Tp, x1, x2, rfl, nT, rfl, f1, f2⟩ := y
      obtain rfl := Option.some.inj f1
      subst e1
      refine ⟨Tp, _, rfl, .inl (.inl upd_same), rfl, _, _, rfl, _, _, rfl, rfl, ?_⟩
      obtain ⟨r, hr2, a2, rfl, h2⟩ := paired_at pr f2
      have rin := List.mem_of_getElem? hr2
      refine ⟨_, rfl, rfl, false, rfl, iteF ?_⟩
      refine ⟨_, rfl, _, rfl, a2, r, g, rfl, (e.add nT).row h2, ok.good.wide r rin, by omega, ok.good.heap r rin, fun H3 e3 => ⟨true, rfl, iteF ⟨_, _, rfl, (e.add nT).trans e3⟩⟩⟩
abbrev n_need_table : List Str := ["table", "index"]
theorem sc_need_table : FnScope n_need_table ["table"] (defScope s_need_table) := ⟨rfl, rfl, rfl, by decide +kernel, rfl, by decide +kernel, by decide +kernel⟩
theorem ok_need_table (fr : Fr mg) (g_tuple_of : Kn P w K mg base "tuple_of" ["value", "low", "high"] 1 spTupleOf) (g_bad_row : Kn P w K mg base "bad_row" ["table"] 4 (spBadRow T .non)) (F : FnP K "need_table" s_need_table f fd) :
    FnOk P w K mg base CX0 5 f fd ["table"] (spBadRow T .non) := by
  refine F.ok sc_need_table (fun vs H Q E h => ?_) (fun cdv A outer s H vs Q E hr h => ?_)
  · obtain ⟨a, n, g, t, rfl, _⟩ := h
    rfl
  · obtain ⟨a, n, g, t, rfl, ok, q⟩ := h
    have nd := sc_need_table.nd
    obtain ⟨vs, ha, pr⟩ := ok.tab.rows
    obtain ⟨z1, z2, z3⟩ := ok.small
    have ln := ok.good.len
    have lv := Paired.length pr
    refine ⟨_, (PSs.nox (pss_cons (ps_if (pt_not (pt_val (pe_k g_tuple_of (hr.mono (by decide)) rfl (pa_cons (pv 0) (pa_cons pe_int (pa_cons (pe_intg rfl fr.m_MOST_PEOPLE) pa_nil)))))) (pss_one ps_never) pss_nil)
      (pss_cons (ps_set (i := 1) nd rfl (by first | exact .inl rfl | exact .inr rfl) (pe_k g_bad_row (hr.mono (by decide)) rfl (pa_cons (pv 0) pa_nil)))
      (pss_one (ps_if (pt_cmpR op_notN (pv 1) pe_non (nomark _)) (pss_one ps_never) pss_nil))))), ?_⟩
    refine ⟨_, rfl, a, _, 1, 6, rfl, ha, by omega, by omega, true, rfl, iteF ?_⟩
    refine ⟨_, rfl, a, n, g, t, rfl, ok, fun H' e => ?_⟩
    exact ⟨_, rfl, rfl, false, rfl, iteF (q H' e)⟩
abbrev n_is_table : List Str := ["value"]
theorem sc_is_table : FnScope n_is_table ["value"] (defScope s_is_table) := ⟨rfl, rfl, rfl, by decide +kernel, rfl, by decide +kernel, by decide +kernel⟩
theorem ok_is_table (fr : Fr mg) (g_tuple_of : Kn P w K mg base "tuple_of" ["value", "low", "high"] 1 spTupleOf) (g_bad_row : Kn P w K mg base "bad_row" ["table"] 4 (spBadRow T .non)) (F : FnP K "is_table" s_is_table f fd) :
    FnOk P w K mg base CX0 5 f fd ["value"] (spBadRow T (.bl true)) := by
  refine F.ok sc_is_table (fun vs H Q E h => ?_) (fun cdv A outer s H vs Q E hr h => ?_)
  · obtain ⟨a, n, g, t, rfl, _⟩ := h
    rfl
  · obtain ⟨a, n, g, t, rfl, ok, q⟩ := h
    have nd := sc_is_table.nd
    obtain ⟨vs, ha, pr⟩ := ok.tab.rows
    obtain ⟨z1, z2, z3⟩ := ok.small
    have ln := ok.good.len
    have lv := Paired.length pr
    refine ⟨_, (PSs.nox (pss_one (ps_ret (pe_and (pe_k g_tuple_of (hr.mono (by decide)) rfl (pa_cons (pv 0) (pa_cons pe_int (pa_cons (pe_intg rfl fr.m_MOST_PEOPLE) pa_nil)))) (pe_one (pe_cmpR op_isN (pe_k g_bad_row (hr.mono (by decide)) rfl (pa_cons (pv 0) pa_nil)) pe_non (nomark _))))))), ?_⟩
    refine ⟨_, rfl, a, _, 1, 6, rfl, ha, by omega, by omega, true, rfl, iteT ?_⟩
    refine ⟨_, rfl, a, n, g, t, rfl, ok, fun H' e => ?_⟩
    exact ⟨rfl, q H' e⟩
abbrev n_need_like : List Str := ["one", "other"]
theorem sc_need_like : FnScope n_need_like ["one", "other"] (defScope s_need_like) := ⟨rfl, rfl, rfl, by decide +kernel, rfl, by decide +kernel, by decide +kernel⟩
def spNeedLike (T : List (Addr × Str)) : Sp := fun vs H Q _ => ∃ (a b : Addr) (n g : Nat) (t u : Tab), vs = [.ref a, .ref b] ∧ TabOk H a n g t ∧ TabOk H b n g u ∧ ∀ H', Ext T H H' → Q .non H'
theorem ok_need_like (fr : Fr mg) (g_need_table : Kn P w K mg base "need_table" ["table"] 5 (spBadRow T .non)) (F : FnP K "need_like" s_need_like f fd) :
    FnOk P w K mg base CX0 6 f fd ["one", "other"] (spNeedLike T) := by
  refine F.ok sc_need_like (fun vs H Q E h => ?_) (fun cdv A outer s H vs Q E hr h => ?_)
  · obtain ⟨a, b, n, g, t, u, rfl, _⟩ := h
    rfl
  · obtain ⟨a, b, n, g, t, u, rfl, oa, ob, q⟩ := h
    have nd := sc_need_like.nd
    obtain ⟨vs, ha, pr⟩ := oa.tab.rows
    obtain ⟨us, hb, pu⟩ := ob.tab.rows
    obtain ⟨z1, z2, z3⟩ := oa.small
    have lt := oa.good.len
    have lu := ob.good.len
    have lvt := Paired.length pr
    have lvu := Paired.length pu
    obtain ⟨r0, hr0⟩ : ∃ r, t[0]? = some r := ⟨t[0], List.getElem?_eq_getElem (by omega)⟩
    obtain ⟨v0, hv0, a0, rfl, h0⟩ := paired_at' pr hr0
    have w0 := oa.good.wide r0 (List.mem_of_getElem? hr0)
    obtain ⟨q0, hq0⟩ : ∃ r, u[0]? = some r := ⟨u[0], List.getElem?_eq_getElem (by omega)⟩
    obtain ⟨x0, hx0, b0, rfl, k0⟩ := paired_at' pu hq0
    have u0 := ob.good.wide q0 (List.mem_of_getElem? hq0)
    refine ⟨_, (PSs.nox (pss_cons (ps_expr (pe_k g_need_table (hr.mono (by decide)) rfl (pa_cons (pv 0) pa_nil)))
      (pss_cons (ps_expr (pe_k g_need_table (hr.mono (by decide)) rfl (pa_cons (pv 1) pa_nil)))
      (pss_one (ps_if (PW.pt (pw_or (pt_cmpR op_ne (pe_callB call_len_seq rfl fr.len (by decide +kernel) (pa_cons (pv 0) pa_nil)) (pe_callB call_len_seq rfl fr.len (by decide +kernel) (pa_cons (pv 1) pa_nil)) (nomark _)) (pw_or1 (pt_cmpR op_ne (pe_callB call_len_seq rfl fr.len (by decide +kernel) (pa_cons (pe_ix ix_tup (pv 0) pe_int (fun _ _ => rfl)) pa_nil)) (pe_callB call_len_seq rfl fr.len (by decide +kernel) (pa_cons (pe_ix ix_tup (pv 1) pe_int (fun _ _ => rfl)) pa_nil)) (nomark _))))) (pss_one ps_never) pss_nil))))), ?_⟩
    refine ⟨_, rfl, a, n, g, t, rfl, oa, fun H1 e1 => ?_⟩
    refine ⟨_, rfl, b, n, g, u, rfl, ob.ext e1, fun H2 e2 => ?_⟩
    have e := e1.trans e2
    have Ha : SqT K H2 a vs := .inl (.inl (e.tup ha))
    have Hb : SqT K H2 b us := .inl (.inl (e.tup hb))
    refine ⟨_, rfl, a, _, rfl, .inr Ha, _, rfl, b, _, rfl, .inr Hb, rfl, false, neI_false (by omega), iteF ?_⟩
    refine ⟨_, rfl, a, _, 0, _, rfl, rfl, Ha, atI_nat hv0, a0, _, rfl, .inr (.inl (.inl (e.tup h0))), _, rfl, b, _, 0, _, rfl, rfl, Hb, atI_nat hx0, b0, _, rfl, .inr (.inl (.inl (e.tup k0))), rfl, false, neI_false (by rw [List.length_map, List.length_map]; omega), iteF ?_⟩
    exact q H2 e
/-! ### rows, odds -/
abbrev n_is_over_row : List Str := ["one", "other", "first", "second"]
theorem sc_is_over_row : FnScope n_is_over_row ["one", "other"] (defScope s_is_over_row) := ⟨rfl, rfl, rfl, by decide +kernel, rfl, by decide +kernel, by decide +kernel⟩
def spRows (T : List (Addr × Str)) (F : Row → Row → Bool) : Sp := fun vs H Q _ => ∃ (a b : Addr) (r s : Row), vs = [.ref a, .ref b] ∧ IsRow H a r ∧ IsRow H b s ∧ r.length = s.length ∧ r.length ≤ 100 ∧ ∀ H', Ext T H H' → Q (.bl (F r s)) H'
theorem ok_is_over_row (fr : Fr mg) (F : FnP K "is_over_row" s_is_over_row f fd) : FnOk P w K mg base CX0 1 f fd ["one", "other"] (spRows T overR) := by
  refine F.ok sc_is_over_row (fun vs H Q E h => ?_) (fun cdv A outer s H vs Q E hr h => ?_)
  · obtain ⟨a, b, r, u, rfl, _⟩ := h
    rfl
  · obtain ⟨a, b, r, u, rfl, ha, hb, hl, hz, q⟩ := h
    have nd := sc_is_over_row.nd
    refine ⟨_, (PSs.nox (pss_one (ps_ret (pe_callB (cr_all rfl) rfl fr.all (by decide +kernel) (pa_cons (pe_lc (g := (gTup K 2 (gCons (gName 2) (gCons (gName 3) gNil)))) (own := [("first", 2), ("second", 3)]) (tt := tYes) rfl nd (pi_zipA rfl fr.zip (pa_cons (pv 0) (pa_cons (pv 1) pa_nil))) (blkOk_by (N := n_is_over_row) (own := [("first", 2), ("second", 3)]) (sc := (defScope s_is_over_row)) (by decide +kernel)) (fun _ _ _ _ _ => (pg_tup rfl (pgs_cons (pg_name (i := 2) nd rfl (by first | exact .inl rfl | exact .inr rfl)) (pgs_cons (pg_name (i := 3) nd rfl (by first | exact .inl rfl | exact .inr rfl)) pgs_nil)))) (fun _ _ _ _ _ => pts_nil) (fun _ _ _ _ _ => (pe_cmpR op_ge (pv 2) (pv 3) (nomark _)))) pa_nil))))), ?_⟩
    refine ⟨_, rfl, _, rfl, a, b, _, _, rfl, .inr ⟨.inl (.inl ha), .inl (.inl hb), fun D nD => lc_out (walk_zipT (n := r.length) (xs := r.map V.int) (ys := u.map V.int) (by simp [hl])) (T := T) nD VBl (fun _ _ _ _ _ _ _ h => h) (fun i => some (decide (r.getD i 0 ≥ u.getD i 0))) (Nat.le_of_lt (small_line (by omega)))
      (fun H' e => ⟨.inl (.inl (e.tup ha)), .inl (.inl (e.tup hb))⟩) (fun i x H1 H1' Ad Z hi e y hA hZ => ?_) fun H1 acc e eD p => ?_⟩⟩
    · obtain ⟨Tp, x1, x2, rfl, nT, rfl, f1, f2⟩ := y
      simp only [List.getElem?_map] at f1 f2
      obtain ⟨z1, h1, rfl⟩ := Option.map_eq_some_iff.mp f1
      obtain ⟨z2, h2, rfl⟩ := Option.map_eq_some_iff.mp f2
      refine ⟨Tp, _, rfl, .inl (.inl upd_same), rfl, _, _, rfl, _, _, rfl, rfl, ?_⟩
      refine ⟨rfl, lc_yes ?_⟩
      refine ⟨_, rfl, _, rfl, z1, z2, rfl, rfl, hA _ _ _ rfl (.new nT) ?_⟩
      show V.bl _ = V.bl _
      rw [List.getD_eq_getElem?_getD, List.getD_eq_getElem?_getD, h1, h2]
      rfl
    · obtain rfl := vbls p
      refine ⟨D, _, rfl, .inl (.inl eD), ?_⟩
      rw [filterMap_map]
      have e2 : ((List.range r.length).map fun i => decide (r.getD i 0 ≥ u.getD i 0)).all id = overR r u := over_range hl
      rw [e2]
      exact q _ e
abbrev n_are_at_odds : List Str := ["one", "other"]
theorem sc_are_at_odds : FnScope n_are_at_odds ["one", "other"] (defScope s_are_at_odds) := ⟨rfl, rfl, rfl, by decide +kernel, rfl, by decide +kernel, by decide +kernel⟩
theorem ok_are_at_odds (fr : Fr mg) (g_is_over_row : Kn P w K mg base "is_over_row" ["one", "other"] 1 (spRows T overR)) (F : FnP K "are_at_odds" s_are_at_odds f fd) : FnOk P w K mg base CX0 2 f fd ["one", "other"] (spRows T oddsR) := by
  refine F.ok sc_are_at_odds (fun vs H Q E h => ?_) (fun cdv A outer s H vs Q E hr h => ?_)
  · obtain ⟨a, b, r, u, rfl, _⟩ := h
    rfl
  · obtain ⟨a, b, r, u, rfl, ha, hb, hl, hz, q⟩ := h
    have nd := sc_are_at_odds.nd
    refine ⟨_, (PSs.nox (pss_one (ps_ret (pe_and (pe_not (pe_k g_is_over_row (hr.mono (by decide)) rfl (pa_cons (pv 0) (pa_cons (pv 1) pa_nil)))) (pe_one (pe_not (pe_k g_is_over_row (hr.mono (by decide)) rfl (pa_cons (pv 1) (pa_cons (pv 0) pa_nil))))))))), ?_⟩
    refine ⟨_, rfl, _, rfl, a, b, r, u, rfl, ha, hb, hl, hz, fun H1 e1 => ?_⟩
    refine ⟨overR r u, rfl, !overR r u, rfl, ?_⟩
    cases h1 : overR r u with
    | true =>
      refine iteF ?_
      have := q H1 e1
      unfold oddsR at this
      rw [h1] at this
      exact this
    | false =>
      refine iteT ⟨_, rfl, _, rfl, b, a, u, r, rfl, e1.row hb, e1.row ha, hl.symm, by omega, fun H2 e2 => ⟨overR u r, rfl, ?_⟩⟩
      have := q H2 (e1.trans e2)
      unfold oddsR at this
      rw [h1] at this
      exact this
end
end K5
namespace K5
open PySem PySem.Spec PyProof.Rows PySem.W L2 LamX RZ

/-! ### the same rules, K said -/
section
variable {X : Cx} (K : Frag) (h : X.K = K)
include h
theorem ix_tupK : IxR X (rIxT K) := by
  subst h
  exact ix_tup
theorem ix_listK : IxR X (rIxL K) := by
  subst h
  exact ix_list
theorem call_len_seqK : CallR X (.builtin "len") (fun xs H Q => ∃ p ys, xs = [.ref p] ∧ (SqL K H p ys ∨ SqT K H p ys) ∧ Q (.int ys.length) H) := by
  subst h
  exact call_len_seq
theorem call_tuple_ofK : CallR X (.type "tuple") (fun xs H Q => ∃ p ys, xs = [.ref p] ∧ ((SqL K H p ys ∧ ∀ l, H l = none → Q (.ref l) (upd H l (.tup ys))) ∨ (SqT K H p ys ∧ Q (.ref p) H))) := by
  subst h
  exact call_tuple_of
theorem call_maxPK (hcalm : X.calm = true) (hu : X.A.units + 64 < cLine) : CallR X (.builtin "max") (fun xs H Q => ∃ a i j, xs = [.ref a] ∧ SqT K H a [.int i, .int j] ∧ Q (.int (max i j)) H) := by
  subst h
  exact call_maxP hcalm hu
theorem call_minPK (hcalm : X.calm = true) (hu : X.A.units + 64 < cLine) : CallR X (.builtin "min") (fun xs H Q => ∃ a i j, xs = [.ref a] ∧ SqT K H a [.int i, .int j] ∧ Q (.int (min i j)) H) := by
  subst h
  exact call_minP hcalm hu
theorem op_inDK (hu : X.A.units + 65 < cLine) : OpR X (compareOp .In) (rInD K) := by
  subst h
  exact op_inD hu
theorem op_notInDK (hu : X.A.units + 65 < cLine) : OpR X (compareOp .NotIn) (rNotInD K) := by
  subst h
  exact op_notInD hu
theorem op_neDK (hu : X.A.units + 64 < cLine) : OpR X (compareOp .NotEq) (rNeD K) := by
  subst h
  exact op_neD hu
theorem pe_revLK {e : Expr} {te : TE} {k : Nat} {p1 p2 p3 pos : Pos} (he : PE X e te) : PE X (.Subscript e (.Slice none none (some (.UnaryOp .USub (.Constant (.int 1) k p1) p2)) p3) pos) (tRevL K te) := by
  subst h
  exact pe_revL he
theorem pi_listK {tg l : Expr} {tl : TE} (hl : PE X l tl) : PI X tg l (iList K tl) := by
  subst h
  exact pi_list hl
theorem pi_tupK {tg l : Expr} {tl : TE} (hl : PE X l tl) : PI X tg l (iTup K tl) := by
  subst h
  exact pi_tup hl
omit h
theorem pe_ngetK {P : Program} {w : World} {o i : Expr} {pos : Pos} {td ty : TE} (hP : X.prog = P) (hw : X.w = w) (hu : X.A.units + 64 < cLine) (ho : PE X o td) (hi : PE X i ty) (hs : NoSl i) : PE X (.Subscript o i pos) (tNGet P w td ty) := by
  subst hP hw
  exact pe_nget hu ho hi hs
theorem ttK {e : Expr} {t : Frag → TE} (h : X.K = K) (k : PE X e (t X.K)) : PE X e (t K) := by
  subst h
  exact k
end
/-! ### what is sorted -/
theorem ints_alike : ∀ a b : Row, alikeAll (a.map .int) (b.map .int) = true
  | [], _ => by simp [alikeAll]
  | x :: a, [] => by simp [alikeAll]
  | x :: a, y :: b => by
    rw [List.map_cons, List.map_cons]
    simp [alikeAll, alike, ints_alike a b]
theorem row_alike (a b : Row) : alike (rowD a) (rowD b) = true := by
  unfold rowD
  simp [alike, ints_alike a b]
theorem rows_alike : ∀ a b : Tab, alikeAll (a.map rowD) (b.map rowD) = true
  | [], _ => by simp [alikeAll]
  | x :: a, [] => by simp [alikeAll]
  | x :: a, y :: b => by
    rw [List.map_cons, List.map_cons]
    simp [alikeAll, row_alike x y, rows_alike a b]
theorem tab_alike (a b : Tab) : alike (tabD a) (tabD b) = true := by
  unfold tabD
  simp [alike, rows_alike a b]
theorem ints_dep : ∀ r : Row, PyData.depthAll (r.map .int) ≤ 1
  | [] => by simp [PyData.depthAll]
  | x :: xs => by
    have := ints_dep xs
    simp only [List.map_cons, PyData.depthAll, PyData.depth]
    omega
theorem row_dep (r : Row) : (rowD r).depth ≤ 2 := by
  have := ints_dep r
  simp only [rowD, PyData.depth]
  omega
theorem rows_dep : ∀ t : Tab, PyData.depthAll (t.map rowD) ≤ 2
  | [] => by simp [PyData.depthAll]
  | x :: xs => by
    have := rows_dep xs
    have := row_dep x
    simp only [List.map_cons, PyData.depthAll]
    omega
theorem tab_dep (t : Tab) : (tabD t).depth ≤ 3 := by
  have := rows_dep t
  simp only [tabD, PyData.depth]
  omega
theorem sd_rows {H : Hp} {vs : List V} {t : Tab} (p : Paired (VRow H) vs t) (ne : ∀ r ∈ t, r ≠ []) : Sd H vs t rowD (VRow H) where
  r := p
  d := fun ok y b v ⟨a, e, h⟩ rv => by
    subst e
    cases rv
    exact row_read ok h
  al := fun d hd d' hd' => by
    obtain ⟨x, _, rfl⟩ := List.mem_map.mp hd
    obtain ⟨y, _, rfl⟩ := List.mem_map.mp hd'
    exact row_alike x y
  so := .inl fun d hd => by
    obtain ⟨x, hx, rfl⟩ := List.mem_map.mp hd
    match x, ne x hx with
    | u :: us, _ => exact ⟨.int u, us.map .int, rfl⟩
  dp := fun b _ => Nat.le_trans (row_dep b) (by decide)
theorem sd_tabs {H : Hp} {vs : List V} {ts : List Tab} (p : Paired (VTab H) vs ts) (ne : ∀ r ∈ ts, r ≠ []) : Sd H vs ts tabD (VTab H) where
  r := p
  d := fun ok y b v ⟨a, e, h⟩ rv => by
    subst e
    cases rv
    exact tab_read ok h
  al := fun d hd d' hd' => by
    obtain ⟨x, _, rfl⟩ := List.mem_map.mp hd
    obtain ⟨y, _, rfl⟩ := List.mem_map.mp hd'
    exact tab_alike x y
  so := .inl fun d hd => by
    obtain ⟨x, hx, rfl⟩ := List.mem_map.mp hd
    match x, ne x hx with
    | u :: us, _ => exact ⟨rowD u, us.map rowD, rfl⟩
  dp := fun b _ => Nat.le_trans (tab_dep b) (by decide)
def VKT (H : Hp) (v : V) (p : Int × Tab) : Prop := ∃ a b, v = .ref a ∧ H a = some (.tup [.int p.1, .ref b]) ∧ IsTab H b p.2
def ktD (p : Int × Tab) : PyData := .tuple [.int p.1, tabD p.2]
theorem VKT.kt {H H' : Hp} {v : V} {p : Int × Tab} (h : VKT H v p) (k : KT H H') : VKT H' v p := let ⟨a, b, e, h, g⟩ := h; ⟨a, b, e, k _ _ h, g.kt k⟩
theorem sd_kts {H : Hp} {vs : List V} {ts : List (Int × Tab)} (p : Paired (VKT H) vs ts) : Sd H vs ts ktD (VKT H) where
  r := p
  d := fun {P w h} ok y b v ⟨a, c, e, ha, hb⟩ rv => by
    subst e
    cases rv
    obtain ⟨_, its, q, o, h1, h2, n, h3⟩ := (show ObjOk P w H h a (.tup [.int b.1, .ref c]) from ok a _ ha)
    obtain ⟨u1, u2, rfl, r1, r2⟩ := vals2 q
    obtain ⟨t, rfl⟩ := r1
    cases r2
    exact .tuple h1 h2 h3 (.cons (.int _ _) (.cons (tab_read ok hb) .nil))
  al := fun d hd d' hd' => by
    obtain ⟨x, _, rfl⟩ := List.mem_map.mp hd
    obtain ⟨y, _, rfl⟩ := List.mem_map.mp hd'
    simp [ktD, alike, alikeAll, tab_alike]
  so := .inl fun d hd => by
    obtain ⟨x, hx, rfl⟩ := List.mem_map.mp hd
    exact ⟨_, _, rfl⟩
  dp := fun b _ => by
    have := tab_dep b.2
    simp only [ktD, PyData.depth, PyData.depthAll]
    omega
theorem atI_of {α : Type} {xs : List α} {z : Int} {j : Nat} {v : α} (h : xs[j]? = some v) (e : z = (j : Nat)) : atI xs z = some v := by
  rw [e]
  exact atI_nat h
theorem high_range : ∀ {r u : Row}, r.length = u.length → ((List.range r.length).map fun i => max (r.getD i 0) (u.getD i 0)) = highR r u
  | [], [], _ => rfl
  | [], _ :: _, e => by simp at e
  | _ :: _, [], e => by simp at e
  | x :: r, y :: u, e => by
    rw [List.length_cons, List.range_succ_eq_map, List.map_cons, List.map_map]
    show _ :: _ = _ :: highR r u
    rw [← high_range (r := r) (u := u) (by simpa using e)]
    rfl
theorem less_range : ∀ {r u : Row}, r.length = u.length → ((List.range r.length).map fun i => min (r.getD i 0) (u.getD i 0)) = lessR r u
  | [], [], _ => rfl
  | [], _ :: _, e => by simp at e
  | _ :: _, [], e => by simp at e
  | x :: r, y :: u, e => by
    rw [List.length_cons, List.range_succ_eq_map, List.map_cons, List.map_map]
    show _ :: _ = _ :: lessR r u
    rw [← less_range (r := r) (u := u) (by simpa using e)]
    rfl
theorem range_self (t : Tab) : ((List.range t.length).map fun i => t.getD i []) = t := by
  have := range_getD (fun r : Row => r) [] t
  simpa using this
theorem laid_len (t : Tab) (i j : Nat) : (laid t i j).length = t.length := by
  unfold laid
  rw [List.length_set, List.length_set]
theorem laid_at {t : Tab} {i j k : Nat} (hij : i ≠ j) (hi : i < t.length) (hj : j < t.length) : (laid t i j).getD k [] = if k = i then highR (t.getD i []) (t.getD j []) else if k = j then lessR (t.getD i []) (t.getD j []) else t.getD k [] := by
  unfold laid
  rw [List.getD_eq_getElem?_getD, List.getElem?_set, List.getElem?_set, List.length_set]
  by_cases h1 : k = i
  · subst h1
    rw [if_neg (by omega), if_pos rfl, if_pos hi, if_pos rfl]
    rfl
  · rw [if_neg h1]
    by_cases h2 : k = j
    · subst h2
      rw [if_pos rfl, if_pos hj, if_pos rfl]
      rfl
    · rw [if_neg (by omega), if_neg (by omega), if_neg h2, List.getD_eq_getElem?_getD]
theorem good_ne {n g : Nat} {t : Tab} (G : Good n g t) (h : 1 ≤ g) : ∀ r ∈ t, r ≠ [] := fun r hr z => by
  have := G.wide r hr
  rw [z] at this
  simp at this
  omega
/-! ### the pairs at odds by turns -/
theorem fm_if {α β : Type} (p : α → Bool) (f : α → β) : ∀ l : List α, l.filterMap (fun k => if p k = true then some (f k) else none) = (l.filter p).map f
  | [] => rfl
  | x :: l => by
    by_cases h : p x = true
    · rw [List.filterMap_cons, List.filter_cons, if_pos h, if_pos h, List.map_cons, fm_if p f l]
    · rw [List.filterMap_cons, List.filter_cons, if_neg h, if_neg h, fm_if p f l]
theorem oddsOf_out (t : Tab) (i : Nat) : (List.range (t.length - (i + 1))).filterMap (fun k => if oddsR (t.getD i []) (t.getD (i + 1 + k) []) = true then some (i, i + 1 + k) else none) = oddsOf t i := by
  unfold oddsOf
  rw [List.range'_eq_map_range, List.filter_map, List.map_map]
  exact fm_if _ _ _
theorem flat_succ {β : Type} (f : Nat → List β) (i : Nat) : (List.range (i + 1)).flatMap f = (List.range i).flatMap f ++ f i := by
  rw [List.range_succ, List.flatMap_append]
  simp
theorem flat_le {β : Type} (f : Nat → List β) (m : Nat) : ∀ n, (∀ i, i < n → (f i).length ≤ m) → ((List.range n).flatMap f).length ≤ n * m
  | 0, _ => by simp
  | n + 1, h => by
    rw [flat_succ, List.length_append]
    have := flat_le f m n fun i hi => h i (by omega)
    have := h n (by omega)
    rw [Nat.succ_mul]
    omega
theorem oddsOf_le (t : Tab) (i : Nat) : (oddsOf t i).length ≤ t.length := by
  rw [← oddsOf_out]
  refine Nat.le_trans (List.length_filterMap_le _ _) ?_
  rw [List.length_range]
  omega
theorem oddsT_le (t : Tab) : (oddsT t).length ≤ t.length * t.length := flat_le _ _ _ fun i _ => oddsOf_le t i
theorem tab_at {H : Hp} {t : Tab} {vs : List V} {i : Nat} (p : Paired (VRow H) vs t) (h : i < t.length) : ∃ b, vs[i]? = some (.ref b) ∧ IsRow H b (t.getD i []) := by
  have e : t[i]? = some (t.getD i []) := by
    rw [List.getD_eq_getElem?_getD, List.getElem?_eq_getElem h]
    rfl
  obtain ⟨v, hv, b, rfl, hb⟩ := paired_at' p e
  exact ⟨b, hv, hb⟩
theorem getD_wide {n g : Nat} {t : Tab} (G : Good n g t) {i : Nat} (h : i < t.length) : (t.getD i []).length = g := G.wide _ (getD_mem h)
end K5
namespace K5
open PySem PySem.Spec PyProof.Rows L2 LamX RZ
section
variable {T : List (Addr × Str)} {P : Program} {w : World} {K : PySem.W.Frag} {mg : Str → Option Value} {base : Heap} {f : Addr} {fd : FuncData}
abbrev n_odds_of : List Str := ["table", "many", "found", "one", "other"]
theorem sc_odds_of : FnScope n_odds_of ["table"] (defScope s_odds_of) := ⟨rfl, rfl, rfl, by decide +kernel, rfl, by decide +kernel, by decide +kernel⟩
/-- a new list of pairs -/
def spOdds (T : List (Addr × Str)) : Sp := fun vs H Q _ => ∃ (a : Addr) (n g : Nat) (t : Tab), vs = [.ref a] ∧ IsTab H a t ∧ Good n g t ∧ n ≤ 100 ∧ g ≤ 100 ∧ ∀ H' p ps, Ext T H H' → H p = none → H' p = some (.lst ps) → Paired (VPair H') ps (oddsT t) → Q (.ref p) H'
theorem ok_odds_of (fr : Fr mg) (g_are_at_odds : Kn P w K mg base "are_at_odds" ["one", "other"] 2 (spRows T oddsR)) (F : FnP K "odds_of" s_odds_of f fd) : FnOk P w K mg base CX0 3 f fd ["table"] (spOdds T) := by
  refine F.ok sc_odds_of (fun vs H Q E h => ?_) (fun cdv A outer s H vs Q E hr h => ?_)
  · obtain ⟨a, n, g, t, rfl, _⟩ := h
    rfl
  · obtain ⟨a, n, g, t, rfl, ta, G, n1, g1, q⟩ := h
    have nd := sc_odds_of.nd
    obtain ⟨vs, ha, pr⟩ := ta.rows
    have ln := G.len
    have lv := Paired.length pr
    refine ⟨_, (PSs.nox (pss_cons (ps_par (i := 1) (j := 2) rfl nd rfl rfl (by decide) rfl rfl (pa_cons (pe_callB call_len_seq rfl fr.len (by decide +kernel) (pa_cons (pv 0) pa_nil)) (pa_cons (pe_lst pa_nil) pa_nil)) rfl)
      (pss_cons (ps_for PassesOwn.never rfl (pi_range1 rfl fr.range (pa_cons (pv 1) pa_nil)) (pg_name (i := 3) nd rfl (by first | exact .inl rfl | exact .inr rfl))
      (pss_one (ps_set (i := 2) nd rfl (by first | exact .inl rfl | exact .inr rfl) (pe_op op_cat (pv 2) (pe_lc (g := (gName 4)) (own := [("other", 4)]) rfl nd (pi_range2 rfl fr.range (pa_cons (pe_op op_add (pv 3) pe_int) (pa_cons (pv 1) pa_nil))) (blkOk_by (N := n_odds_of) (own := [("other", 4)]) (sc := (defScope s_odds_of)) (by decide +kernel)) (fun _ _ _ _ _ => (pg_name (i := 4) nd rfl (by first | exact .inl rfl | exact .inr rfl))) (fun _ _ _ _ _ => (pts_one (pt_val (pe_k g_are_at_odds (hr.mono (by decide)) rfl (pa_cons (pe_ix (ix_tupK K rfl) (pv 0) (pv 3) (fun _ _ => rfl)) (pa_cons (pe_ix (ix_tupK K rfl) (pv 0) (pv 4) (fun _ _ => rfl)) pa_nil)))))) (fun _ _ _ _ _ => (pe_tup (pa_cons (pv 3) (pa_cons (pv 4) pa_nil)))))))))
      (pss_one (ps_ret (pv 2)))))), ?_⟩
    refine ⟨_, rfl, a, _, rfl, .inr (.inl (.inl ha)), Nat.zero_le _, fun l nl => ⟨_, _, rfl, ?_⟩⟩
    have s1 : Ext T H (upd H l (.lst [])) := .new nl
    refine ⟨_, rfl, vs.length, rfl, by omega, by omega, ?_⟩
    refine for_it walk_range (fun i σ H' => ∃ l ps y3 y4, σ = [some (.ref a), some (.int vs.length), some (.ref l), y3, y4] ∧ Ext T H H' ∧ H l = none ∧ H' l = some (.lst ps) ∧ Paired (VPair H') ps ((List.range i).flatMap (oddsOf t))) ⟨l, [], none, none, rfl, s1, nl, upd_same, .nil⟩ (fun _ _ _ _ _ => trivial)
      (fun i x σ H1 H1' hi hP y => ?_) fun σ H1 hP => ?_
    · obtain ⟨l, ps, y3, y4, rfl, e1, nl, hl, pp⟩ := hP
      obtain ⟨rfl, rfl⟩ := y
      have hi' : i < t.length := by simpa [lv] using hi
      have lps : ps.length ≤ i * t.length := by
        rw [Paired.length pp]
        exact flat_le _ _ _ fun j _ => oddsOf_le t j
      have lps2 : i * t.length ≤ 100 * 100 := Nat.mul_le_mul (by omega) (by omega)
      refine ⟨_, rfl, _, rfl, _, _, rfl, rfl, _, rfl, _, _, rfl, ⟨by omega, by omega, by omega, by omega⟩, fun D nD => ?_⟩
      refine lc_out walk_range (T := T) nD VPair (fun _ _ _ _ _ h e r => r.kt (e.kt h)) (fun k => if oddsR (t.getD i []) (t.getD (i + 1 + k) []) = true then some (i, i + 1 + k) else none) (Nat.le_of_lt (small_line (by omega))) (fun _ _ => trivial)
        (fun k x H2 H2' Ad Z hk e2 y hA hZ => ?_) fun H2 acc e2 eD p2 => ?_
      · obtain ⟨rfl, rfl⟩ := y
        have hk' : i + 1 + k < t.length := by omega
        have ee := e1.trans e2
        obtain ⟨b1, hb1, hr1⟩ := tab_at pr hi'
        obtain ⟨b2, hb2, hr2⟩ := tab_at pr hk'
        have HT : SqT K H2' a vs := .inl (.inl (ee.tup ha))
        have w1 := getD_wide G hi'
        have w2 := getD_wide G hk'
        refine ⟨rfl, ?_⟩
        refine ⟨_, rfl, _, rfl, a, vs, _, _, rfl, rfl, HT, atI_of hb1 (by omega), _, rfl, _, rfl, a, vs, _, _, rfl, rfl, HT, atI_of hb2 (by omega), ?_⟩
        refine ⟨b1, b2, _, _, rfl, ee.row hr1, ee.row hr2, by omega, by omega, fun H3 e3 => ⟨_, rfl, ite2 (fun yes => ?_) fun no => ?_⟩⟩
        · refine ⟨_, rfl, _, rfl, Nat.le_of_lt (small_line (Nat.le_trans (Nat.le_refl 2) (by decide))), fun t2 nt => hA _ _ (i, i + 1 + k) (if_pos yes) (e3.add nt) ⟨t2, rfl, ?_⟩⟩
          rw [upd_same]
          show some (HO.tup [V.int _, V.int _]) = some (HO.tup [V.int _, V.int _])
          rw [show (0 + (i : Int)) = ((i : Nat) : Int) by omega, show (i : Int) + 1 + (k : Int) = ((i + 1 + k : Nat) : Int) by omega]
        · exact hZ _ (if_neg no) e3
      · have hl2 := e2.lst hl
        have la : acc.length ≤ t.length := by
          rw [Paired.length p2]
          refine Nat.le_trans (List.length_filterMap_le _ _) ?_
          rw [List.length_range]
          omega
        refine ⟨l, D, ps, acc, rfl, rfl, hl2, eD, Nat.le_of_lt (small_line (by omega)), fun p np => ?_⟩
        have e3 := e1.trans e2
        refine ⟨p, ps ++ acc, some (.int (0 + (i : Int))), y4, rfl, e3.add np, e3.free np, upd_same, ?_⟩
        rw [flat_succ]
        rw [show ((vs.length : Int) - (0 + (i : Int) + 1)).toNat = t.length - (i + 1) by omega, oddsOf_out] at p2
        exact paired_app (Paired.mapP pp fun _ _ r => r.kt (e2.add np).kt) (Paired.mapP p2 fun _ _ r => r.kt (Ext.new (T := T) np).kt)
    · obtain ⟨l, ps, y3, y4, rfl, e1, nl, hl, pp⟩ := hP
      refine ⟨_, rfl, q H1 l ps e1 nl hl ?_⟩
      rw [show vs.length = t.length by omega] at pp
      exact pp
abbrev n_crowd_of : List Str := ["table"]
theorem sc_crowd_of : FnScope n_crowd_of ["table"] (defScope s_crowd_of) := ⟨rfl, rfl, rfl, by decide +kernel, rfl, by decide +kernel, by decide +kernel⟩
def spCrowd (T : List (Addr × Str)) : Sp := fun vs H Q _ => ∃ (a : Addr) (t : Tab), vs = [.ref a] ∧ IsTab H a t ∧ (∀ r ∈ t, r ≠ []) ∧ ∀ H' p, Ext T H H' → H p = none → IsTab H' p (crowd t) → Q (.ref p) H'
theorem ok_crowd_of (fr : Fr mg) (F : FnP K "crowd_of" s_crowd_of f fd) : FnOk P w K mg base CX0 1 f fd ["table"] (spCrowd T) := by
  refine F.ok sc_crowd_of (fun vs H Q E h => ?_) (fun cdv A outer s H vs Q E hr h => ?_)
  · obtain ⟨a, t, rfl, _⟩ := h
    rfl
  · obtain ⟨a, t, rfl, ta, ne, q⟩ := h
    have nd := sc_crowd_of.nd
    obtain ⟨vs, ha, pr⟩ := ta.rows
    refine ⟨_, (PSs.nox (pss_one (ps_ret (pe_callTy call_tuple_of rfl fr.tuple (by decide +kernel) (pa_cons (pe_revL (pe_callB (call_sortL (hu66 hr)) rfl fr.sorted (by decide +kernel) (pa_cons (pv 0) pa_nil))) pa_nil))))), ?_⟩
    refine ⟨_, rfl, Row, a, vs, t, rowD, VRow H, rfl, .inr (.inl (.inl ha)), sd_rows pr ne, fun p zs np pz => ?_⟩
    have e1 : Ext T H (upd H p (.lst zs)) := .new np
    refine ⟨p, zs, rfl, .inl (.inl upd_same), fun p2 np2 => ?_⟩
    have e2 := e1.add (o := .lst zs.reverse) np2
    refine ⟨p2, _, rfl, .inl ⟨.inl (.inl upd_same), fun l nl => ?_⟩⟩
    have e3 := e2.add (o := .tup zs.reverse) nl
    refine q _ l e3 (e2.free nl) (tab_of_rows upd_same ?_)
    exact paired_rev (Paired.mapP pz fun _ _ r => r.kt e3.kt)
abbrev n_laid : List Str := ["table", "one", "other", "high", "pair", "lesser", "at", "row"]
theorem sc_laid : FnScope n_laid ["table", "one", "other"] (defScope s_laid) := ⟨rfl, rfl, rfl, by decide +kernel, rfl, by decide +kernel, by decide +kernel⟩
def spLaid (T : List (Addr × Str)) : Sp := fun vs H Q _ => ∃ (a : Addr) (n g : Nat) (t : Tab) (i j : Nat), vs = [.ref a, .int i, .int j] ∧ IsTab H a t ∧ Good n g t ∧ n ≤ 100 ∧ g ≤ 100 ∧ i < j ∧ j < n ∧ ∀ H' p, Ext T H H' → H p = none → IsTab H' p (laid t i j) → Q (.ref p) H'
theorem ok_laid (fr : Fr mg) (F : FnP K "laid" s_laid f fd) : FnOk P w K mg base CX0 1 f fd ["table", "one", "other"] (spLaid T) := by
  refine F.ok sc_laid (fun vs H Q E h => ?_) (fun cdv A outer s H vs Q E hr h => ?_)
  · obtain ⟨a, n, g, t, i, j, rfl, _⟩ := h
    rfl
  · obtain ⟨a, n, g, t, i, j, rfl, ta, G, n1, g1, hij, hj, q⟩ := h
    have nd := sc_laid.nd
    obtain ⟨vs, ha, pr⟩ := ta.rows
    have ln := G.len
    have lv := Paired.length pr
    have hi' : i < t.length := by omega
    have hj' : j < t.length := by omega
    obtain ⟨b1, hb1, hr1⟩ := tab_at pr hi'
    obtain ⟨b2, hb2, hr2⟩ := tab_at pr hj'
    have w1 := getD_wide G hi'
    have w2 := getD_wide G hj'
    refine ⟨_, (PSs.nox (pss_cons (ps_set (i := 3) nd rfl (by first | exact .inl rfl | exact .inr rfl) (pe_callTy call_tuple_of rfl fr.tuple (by decide +kernel) (pa_cons (pe_lc (g := (gName 4)) (own := [("pair", 4)]) (tt := tYes) rfl nd (pi_zipN rfl fr.zip (pa_cons (pe_ix ix_tup (pv 0) (pv 1) (fun _ _ => rfl)) (pa_cons (pe_ix ix_tup (pv 0) (pv 2) (fun _ _ => rfl)) pa_nil))) (blkOk_by (N := n_laid) (own := [("pair", 4)]) (sc := (defScope s_laid)) (by decide +kernel)) (fun _ _ _ _ _ => (pg_name (i := 4) nd rfl (by first | exact .inl rfl | exact .inr rfl))) (fun _ _ _ _ _ => pts_nil) (fun _ _ _ _ _ => (pe_callB (call_maxPK K rfl rfl hr.units) rfl fr.max (by decide +kernel) (pa_cons (pv 4) pa_nil)))) pa_nil)))
      (pss_cons (ps_set (i := 5) nd rfl (by first | exact .inl rfl | exact .inr rfl) (pe_callTy call_tuple_of rfl fr.tuple (by decide +kernel) (pa_cons (pe_lc (g := (gName 4)) (own := [("pair", 4)]) (tt := tYes) rfl nd (pi_zipN rfl fr.zip (pa_cons (pe_ix ix_tup (pv 0) (pv 1) (fun _ _ => rfl)) (pa_cons (pe_ix ix_tup (pv 0) (pv 2) (fun _ _ => rfl)) pa_nil))) (blkOk_by (N := n_laid) (own := [("pair", 4)]) (sc := (defScope s_laid)) (by decide +kernel)) (fun _ _ _ _ _ => (pg_name (i := 4) nd rfl (by first | exact .inl rfl | exact .inr rfl))) (fun _ _ _ _ _ => pts_nil) (fun _ _ _ _ _ => (pe_callB (call_minPK K rfl rfl hr.units) rfl fr.min (by decide +kernel) (pa_cons (pv 4) pa_nil)))) pa_nil)))
      (pss_one (ps_ret (pe_callTy call_tuple_of rfl fr.tuple (by decide +kernel) (pa_cons (pe_lc (g := (gTup K 2 (gCons (gName 6) (gCons (gName 7) gNil)))) (own := [("at", 6), ("row", 7)]) (tt := tYes) rfl nd (pi_enumT rfl fr.enumerate (pa_cons (pv 0) pa_nil)) (blkOk_by (N := n_laid) (own := [("at", 6), ("row", 7)]) (sc := (defScope s_laid)) (by decide +kernel)) (fun _ _ _ _ _ => (pg_tup rfl (pgs_cons (pg_name (i := 6) nd rfl (by first | exact .inl rfl | exact .inr rfl)) (pgs_cons (pg_name (i := 7) nd rfl (by first | exact .inl rfl | exact .inr rfl)) pgs_nil)))) (fun _ _ _ _ _ => pts_nil) (fun _ _ _ _ _ => (pe_ifExp (pt_cmpR op_eq (pv 6) (pv 1) (nomark _)) (pv 3) (pe_ifExp (pt_cmpR op_eq (pv 6) (pv 2) (nomark _)) (pv 5) (pv 7))))) pa_nil))))))), ?_⟩
    have HT : SqT K H a vs := .inl (.inl ha)
    refine ⟨_, rfl, _, rfl, a, vs, _, _, rfl, rfl, HT, atI_nat hb1, _, rfl, _, rfl, a, vs, _, _, rfl, rfl, HT, atI_nat hb2, b1, b2, _, _, rfl, .inl (.inl hr1), .inl (.inl hr2), fun D nD => ?_⟩
    refine lc_out (walk_zipT (n := g) (by rw [List.length_map, List.length_map]; omega)) (T := T) nD VInt (fun _ _ _ _ _ _ _ h => h) (fun k => some (max ((t.getD i []).getD k 0) ((t.getD j []).getD k 0))) (Nat.le_of_lt (small_line (by omega)))
      (fun H' e => ⟨.inl (.inl (e.tup hr1)), .inl (.inl (e.tup hr2))⟩) (fun k x H1 H1' Ad Z hk e y hA hZ => ?_) fun H1 acc e1 eD p1 => ?_
    · obtain ⟨Tp, x1, x2, rfl, nT, rfl, f1, f2⟩ := y
      simp only [List.getElem?_map] at f1 f2
      obtain ⟨z1, h1, rfl⟩ := Option.map_eq_some_iff.mp f1
      obtain ⟨z2, h2, rfl⟩ := Option.map_eq_some_iff.mp f2
      refine ⟨rfl, lc_yes ?_⟩
      refine ⟨_, rfl, Tp, z1, z2, rfl, .inl (.inl upd_same), hA _ _ _ rfl (.new nT) ?_⟩
      show V.int _ = V.int _
      rw [List.getD_eq_getElem?_getD (l := t.getD i []), List.getD_eq_getElem?_getD (l := t.getD j []), h1, h2]
      rfl
    · obtain rfl := vints p1
      rw [filterMap_map, ← w1, high_range (by omega)] at eD
      refine ⟨D, _, rfl, .inl ⟨.inl (.inl eD), fun ph nph => ?_⟩⟩
      have e2 := e1.add (o := .tup ((highR (t.getD i []) (t.getD j [])).map V.int)) nph
      have hh : IsRow _ ph (highR (t.getD i []) (t.getD j [])) := upd_same (H := H1) (a := ph)
      have HT2 : SqT K (upd H1 ph (.tup ((highR (t.getD i []) (t.getD j [])).map V.int))) a vs := .inl (.inl (e2.tup ha))
      generalize upd H1 ph (.tup ((highR (t.getD i []) (t.getD j [])).map V.int)) = H2 at e2 hh HT2
      refine ⟨_, rfl, _, rfl, a, vs, _, _, rfl, rfl, HT2, atI_nat hb1, _, rfl, _, rfl, a, vs, _, _, rfl, rfl, HT2, atI_nat hb2, b1, b2, _, _, rfl, .inl (.inl (e2.tup hr1)), .inl (.inl (e2.tup hr2)), fun D2 nD2 => ?_⟩
      refine lc_out (walk_zipT (n := g) (by rw [List.length_map, List.length_map]; omega)) (T := T) nD2 VInt (fun _ _ _ _ _ _ _ h => h) (fun k => some (min ((t.getD i []).getD k 0) ((t.getD j []).getD k 0))) (Nat.le_of_lt (small_line (by omega)))
        (fun H' e => ⟨.inl (.inl (e.tup (e2.tup hr1))), .inl (.inl (e.tup (e2.tup hr2)))⟩) (fun k x H1 H1' Ad Z hk e y hA hZ => ?_) fun H3 acc3 e3 eD3 p3 => ?_
      · obtain ⟨Tp, x1, x2, rfl, nT, rfl, f1, f2⟩ := y
        simp only [List.getElem?_map] at f1 f2
        obtain ⟨z1, h1, rfl⟩ := Option.map_eq_some_iff.mp f1
        obtain ⟨z2, h2, rfl⟩ := Option.map_eq_some_iff.mp f2
        refine ⟨rfl, lc_yes ?_⟩
        refine ⟨_, rfl, Tp, z1, z2, rfl, .inl (.inl upd_same), hA _ _ _ rfl (.new nT) ?_⟩
        show V.int _ = V.int _
        rw [List.getD_eq_getElem?_getD (l := t.getD i []), List.getD_eq_getElem?_getD (l := t.getD j []), h1, h2]
        rfl
      · obtain rfl := vints p3
        rw [filterMap_map, ← w1, less_range (by omega)] at eD3
        refine ⟨D2, _, rfl, .inl ⟨.inl (.inl eD3), fun pl npl => ?_⟩⟩
        have e4 := (e2.trans e3).add (o := .tup ((lessR (t.getD i []) (t.getD j [])).map V.int)) npl
        have hl : IsRow _ pl (lessR (t.getD i []) (t.getD j [])) := upd_same (H := H3) (a := pl)
        have hh4 := (e3.add (o := .tup ((lessR (t.getD i []) (t.getD j [])).map V.int)) npl).row hh
        generalize upd H3 pl (.tup ((lessR (t.getD i []) (t.getD j [])).map V.int)) = H4 at e4 hl hh4
        refine ⟨_, rfl, a, vs, rfl, .inl (.inl (e4.tup ha)), fun D5 nD5 => ?_⟩
        refine lc_out walk_enumT (T := T) nD5 VRow (fun _ _ _ _ _ h e r => r.kt (e.kt h)) (fun k => some ((laid t i j).getD k [])) (Nat.le_of_lt (small_line (by omega)))
          (fun H' e => .inl (.inl (e.tup (e4.tup ha)))) (fun k x H5 H5' Ad Z hk e y hA hZ => ?_) fun H6 acc6 e6 eD6 p6 => ?_
        · obtain ⟨Tp, x1, x2, rfl, nT, rfl, f1, f2⟩ := y
          obtain rfl := Option.some.inj f1
          obtain ⟨b3, hb3, hr3⟩ := tab_at pr (i := k) (by omega)
          obtain rfl := Option.some.inj (hb3.symm.trans f2)
          have e5 := e.add (o := .tup [.int k, .ref b3]) nT
          refine ⟨Tp, _, rfl, .inl (.inl upd_same), rfl, _, _, rfl, _, _, rfl, rfl, ?_⟩
          refine ⟨rfl, lc_yes ?_⟩
          refine ⟨_, rfl, _, rfl, rfl, _, rfl, ite2 (fun yes => ?_) fun no => ?_⟩
          · have : k = i := by have := of_decide_eq_true yes; injection this with this; omega
            exact ⟨_, rfl, hA _ _ _ rfl (.new nT) ⟨ph, rfl, by rw [laid_at (by omega) hi' hj', if_pos this]; exact e5.row hh4⟩⟩
          · have n1 : k ≠ i := fun z => no (decide_eq_true (by rw [z]))
            refine ⟨_, rfl, _, rfl, rfl, _, rfl, ite2 (fun yes => ?_) fun no => ?_⟩
            · have : k = j := by have := of_decide_eq_true yes; injection this with this; omega
              exact ⟨_, rfl, hA _ _ _ rfl (.new nT) ⟨pl, rfl, by rw [laid_at (by omega) hi' hj', if_neg n1, if_pos this]; exact e5.row hl⟩⟩
            · have n2 : k ≠ j := fun z => no (decide_eq_true (by rw [z]))
              exact ⟨_, rfl, hA _ _ _ rfl (.new nT) ⟨b3, rfl, by rw [laid_at (by omega) hi' hj', if_neg n1, if_neg n2]; exact (e4.trans e5).row hr3⟩⟩
        · refine ⟨D5, _, rfl, .inl ⟨.inl (.inl eD6), fun p7 np7 => ?_⟩⟩
          rw [filterMap_map, lv, ← laid_len t i j, range_self] at p6
          have e7 := (e4.trans e6).add (o := .tup acc6) np7
          exact q _ p7 e7 ((e4.trans e6).free np7) (tab_of_rows upd_same (Paired.mapP p6 fun _ _ r => r.kt (Ext.new (T := T) np7).kt))
end
end K5
namespace K5
open PySem PySem.Spec PyProof.Rows L2 LamX RZ

/-! ### dicts by their keys -/
section
variable {kvs : List (Tab × V)} {k x : Tab} {v : V}
theorem kv_any : (kvs.any fun kv => decide (kv.1 = k)) = true ↔ k ∈ kvs.map (·.1) := by
  rw [List.any_eq_true, List.mem_map]
  constructor
  · rintro ⟨p, hp, e⟩
    exact ⟨p, hp, by simpa using e⟩
  · rintro ⟨p, hp, e⟩
    exact ⟨p, hp, by simpa using e⟩
theorem pk_old (h : k ∈ kvs.map (·.1)) : (putK kvs k v).map (·.1) = kvs.map (·.1) := by
  unfold putK
  rw [if_pos (kv_any.mpr h), List.map_map]
  apply List.map_congr_left
  intro p _
  show (if p.1 = k then (p.1, v) else p).1 = p.1
  split <;> rfl
theorem pk_new (h : k ∉ kvs.map (·.1)) : putK kvs k v = kvs ++ [(k, v)] := by
  unfold putK
  rw [if_neg fun z => h (kv_any.mp z)]
theorem pk_keys : (putK kvs k v).map (·.1) = if k ∈ kvs.map (·.1) then kvs.map (·.1) else kvs.map (·.1) ++ [k] := by
  by_cases h : k ∈ kvs.map (·.1)
  · rw [if_pos h, pk_old h]
  · rw [if_neg h, pk_new h]
    simp
theorem val_some : (∃ v, valV kvs x = some v) ↔ x ∈ kvs.map (·.1) := by
  rw [← kv_any, valV_any]
  cases valV kvs x <;> simp
theorem val_isSome : (valV kvs x).isSome = decide (x ∈ kvs.map (·.1)) := by
  rw [← valV_any]
  by_cases h : x ∈ kvs.map (·.1)
  · rw [decide_eq_true h, kv_any.mpr h]
  · rw [decide_eq_false h]
    exact Bool.eq_false_iff.mpr fun z => h (kv_any.mp z)
theorem val_none (h : x ∉ kvs.map (·.1)) : valV kvs x = none := by
  cases e : valV kvs x with
  | none => rfl
  | some v => exact absurd (val_some.mp ⟨v, e⟩) h
theorem pk_len : (putK kvs k v).length ≤ kvs.length + 1 := length_putK kvs k v
end
section
variable {P : Program} {w : World} {T : List (Addr × Str)} {H H0 : Hp} {d : Addr} {kvs : List (Tab × V)} {o : HO}
theorem DictW.at (g : DictW P w H d kvs) : ∃ o, H d = some o ∧ Soft o := let ⟨_, h, _⟩ := g; ⟨_, h, dnO_soft ..⟩
theorem DictW.mut (g : DictW P w H d kvs) (e : Ext T H0 H) (h0 : H0 d = none) : Ext T H0 (upd H d o) := let ⟨_, h, s⟩ := g.at; e.mut h0 h s
theorem DictW.dom (g : DictW P w H d kvs) : H d ≠ none := let ⟨_, h, _⟩ := g.at; dom_of h
theorem DictW.ktm (g : DictW P w H d kvs) : KT H (upd H d o) := let ⟨_, h, _⟩ := g; KT.mut h fun _ z => nomatch z
theorem DictW.neL (g : DictW P w H d kvs) {l : Addr} {xs : List V} (h : H l = some (.lst xs)) : l ≠ d := fun z => by
  obtain ⟨L, e, _⟩ := g
  rw [← z, h] at e
  cases e
theorem NewD.ext {p : Addr} {H' : Hp} (n : NewD P w H p H') : Ext T H H' := by
  obtain ⟨h, o, rfl, _⟩ := n
  exact .new h
theorem DictW.x (g : DictW P w H d kvs) : ExtX T d H (upd H d o) := by
  obtain ⟨_, h, s⟩ := g.at
  refine ⟨fun b u z hb _ => by rw [upd_ne z]; exact hb, fun b hb => ?_, fun t => tabs_mut h s t⟩
  by_cases z : b = d
  · rw [z, upd_same]
    simp
  · rw [upd_ne z]
    exact hb
end
/-- what a dict's keys are as entries -/
theorem dn_tabs {H : Hp} {L : DnL} (k : ∀ x ∈ L, IsTab H x.2.1 x.1) : Paired (VTab H) (L.map fun x => V.ref x.2.1) (L.map (·.1)) := by
  induction L with
  | nil => exact .nil
  | cons x L ih => exact .cons ⟨_, rfl, k x List.mem_cons_self⟩ (ih fun y hy => k y (List.mem_cons_of_mem _ hy))
end K5
namespace K5
open PySem PySem.Spec PyProof.Rows L2 LamX RZ
section
variable {T : List (Addr × Str)} {P : Program} {w : World} {K : PySem.W.Frag} {mg : Str → Option Value} {base : Heap} {f : Addr} {fd : FuncData}
abbrev n_nexts_of : List Str := ["table", "one", "other"]
theorem sc_nexts_of : FnScope n_nexts_of ["table"] (defScope s_nexts_of) := ⟨rfl, rfl, rfl, by decide +kernel, rfl, by decide +kernel, by decide +kernel⟩
def spNexts (T : List (Addr × Str)) : Sp := fun vs H Q _ => ∃ (a : Addr) (n g : Nat) (t : Tab), vs = [.ref a] ∧ IsTab H a t ∧ Good n g t ∧ Small n g ∧ ∀ H' p zs, Ext T H H' → H p = none → H' p = some (.lst zs) → Paired (VTab H') zs (nexts t) → Q (.ref p) H'
theorem ok_nexts_of (fr : Fr mg) (g_odds_of : Kn P w K mg base "odds_of" ["table"] 3 (spOdds T)) (g_crowd_of : Kn P w K mg base "crowd_of" ["table"] 1 (spCrowd T)) (g_laid : Kn P w K mg base "laid" ["table", "one", "other"] 1 (spLaid T))
    (F : FnP K "nexts_of" s_nexts_of f fd) : FnOk P w K mg base CX0 4 f fd ["table"] (spNexts T) := by
  refine F.ok sc_nexts_of (fun vs H Q E h => ?_) (fun cdv A outer s H vs Q E hr h => ?_)
  · obtain ⟨a, n, g, t, rfl, _⟩ := h
    rfl
  · obtain ⟨a, n, g, t, rfl, ta, G, sm, q⟩ := h
    have nd := sc_nexts_of.nd
    obtain ⟨z1, z2, z3⟩ := sm
    have ln := G.len
    refine ⟨_, (PSs.nox (pss_one (ps_ret (pe_callB (call_sortN rfl (hu66 hr)) rfl fr.sorted (by decide +kernel) (pa_cons (pe_ndc (g := (gTup K 2 (gCons (gName 1) (gCons (gName 2) gNil)))) hr.units rfl nd (pi_list (pe_k g_odds_of (hr.mono (by decide)) rfl (pa_cons (pv 0) pa_nil))) (blkOk_by (N := n_nexts_of) (own := [("one", 1), ("other", 2)]) (sc := (defScope s_nexts_of)) (by decide +kernel)) (fun _ _ _ _ _ => (pg_tup rfl (pgs_cons (pg_name (i := 1) nd rfl (by first | exact .inl rfl | exact .inr rfl)) (pgs_cons (pg_name (i := 2) nd rfl (by first | exact .inl rfl | exact .inr rfl)) pgs_nil)))) (fun _ _ _ _ _ => (pe_k g_crowd_of (hr.mono (by decide)) rfl (pa_cons (pe_k g_laid (hr.mono (by decide)) rfl (pa_cons (pv 0) (pa_cons (pv 1) (pa_cons (pv 2) pa_nil)))) pa_nil))) (fun _ _ _ _ _ => pe_bl)) pa_nil))))), ?_⟩
    refine ⟨_, rfl, a, n, g, t, rfl, ta, G, by omega, by omega, fun H1 po ps e1 npo hpo pps => ?_⟩
    refine ⟨po, rfl, ⟨ps, .inl (.inl hpo)⟩, fun D H2 hD => ?_⟩
    have lps := Paired.length pps
    have lodds : ps.length ≤ 25 := by
      rw [lps]
      have := oddsT_le t
      have : t.length * t.length ≤ 5 * 5 := Nat.mul_le_mul (by omega) (by omega)
      omega
    have e2 : Ext T H H2 := e1.trans hD.ext
    have nD : H D = none := e1.free hD.1
    refine nc_it (P := P) (w := w) (walk_list (xs := ps)) (fun i H3 => ∃ kvs, Ext T H1 H3 ∧ DictW P w H3 D kvs ∧ kvs.length ≤ i ∧ (kvs.map (·.1)).Nodup ∧ ∀ x, x ∈ kvs.map (·.1) ↔ x ∈ ((oddsT t).take i).map fun p => crowd (laid t p.1 p.2)) ⟨[], hD.ext, hD.2.choose_spec.2, Nat.le_refl _, List.nodup_nil, by simp⟩ (fun i H3 _ ⟨_, e, _⟩ => .inl (.inl (e.lst hpo)))
      (fun i x H3 H3' hi ⟨kvs, e3, hW, hl, hnd, hm⟩ y => ?_) fun H3 ⟨kvs, e3, hW, hl, hnd, hm⟩ => ?_
    · obtain ⟨rfl, hx⟩ := y
      obtain ⟨p, hp, b, rfl, hb⟩ := paired_at pps hx
      obtain ⟨o1, o2, o3⟩ := mem_odds.mp (List.mem_of_getElem? hp)
      refine ⟨b, _, rfl, .inl (.inl (e3.tup hb)), rfl, _, _, rfl, _, _, rfl, rfl, rfl, ?_⟩
      refine ⟨_, rfl, _, rfl, _, rfl, a, n, g, t, p.1, p.2, rfl, (e1.trans e3).tab ta, G, by omega, by omega, o1, by omega, fun H4 p4 e4 np4 t4 => ?_⟩
      have G4 := laid_good G (i := p.1) (j := p.2) (by omega) o2
      refine ⟨p4, _, rfl, t4, good_ne G4 z2, fun H5 p5 e5 np5 t5 => ?_⟩
      have hW5 := hW.ext (e4.trans e5)
      refine ⟨p5, _, kvs, rfl, t5, hW5, small_line (by omega), fun o hW6 => ⟨_, hW5.mut ((e3.trans e4).trans e5) hD.1, hW6, ?_, ?_, ?_⟩⟩
      · have := pk_len (kvs := kvs) (k := crowd (laid t p.1 p.2)) (v := .bl true)
        omega
      · rw [pk_keys]
        split
        · exact hnd
        · rename_i hn
          rw [List.nodup_append]
          exact ⟨hnd, by simp, fun c hc d hd z => hn (by rw [List.mem_singleton] at hd; rw [← hd, ← z]; exact hc)⟩
      · intro x
        rw [List.take_add_one, hp, List.map_append, List.mem_append, ← hm]
        show x ∈ (putK kvs _ _).map (·.1) ↔ x ∈ _ ∨ x ∈ [crowd (laid t p.1 p.2)]
        rw [pk_keys, List.mem_singleton]
        split
        · rename_i hin
          constructor
          · exact .inl
          · rintro (h | rfl)
            · exact h
            · exact hin
        · rw [List.mem_append, List.mem_singleton]
    · obtain ⟨L, hL, rfl, kL⟩ := hW
      have eL : (L.map fun x => (x.1, x.2.2)).map (·.1) = L.map (·.1) := by rw [List.map_map]; rfl
      rw [eL] at hnd hm
      have all : (oddsT t).take ps.length = oddsT t := by rw [lps]; exact List.take_length
      rw [all] at hm
      refine ⟨D, L, rfl, .inl hL, kL, VTab H3, sd_tabs (dn_tabs kL) fun r hr z => ?_, fun p zs np pz => ?_⟩
      · obtain ⟨pp, hpp, e⟩ := List.mem_map.mp ((hm r).mp hr)
        obtain ⟨o1, o2, o3⟩ := mem_odds.mp hpp
        have := ((laid_good G (i := pp.1) (j := pp.2) (by omega) o2).crowd).len
        rw [e, z] at this
        simp at this
        omega
      · rw [nexts_eq hnd hm] at pz
        have e4 := (e1.trans e3).add (o := .lst zs) np
        exact q _ p zs e4 ((e1.trans e3).free np) upd_same (Paired.mapP pz fun _ _ r => r.kt (Ext.new (T := T) np).kt)
end
end K5
namespace K5
open PySem PySem.Spec PyProof.Rows PySem.W L2 LamX RZ

/-! ### a def whose code object is told -/
theorem okC {CX : CXT} {P : Program} {w : World} {K : PySem.W.Frag} {mg : Str → Option Value} {base : Heap} {x qual : Str} {params : Arguments} {body : List Stmt} {scope : Scope} {dvs : List V} {kws : List (Str × V)} {f c : Addr} {fd : FuncData} {N ps : List Str} {k : Nat} {sp : Sp}
    (F : FunD K x qual params body scope dvs kws f fd) (hc : fd.code = .ref c) (S : FnScope N ps scope) (len : ∀ vs H Q E, sp vs H Q E → vs.length = ps.length)
    (hbody : ∀ (A : Around) (outer : List Env) (s : Shared) (H : Hp) (vs : List V) (Q : VK) (E : XK), Room k (A.deeper (envOfC qual scope s.heap.objs.size f (.ref c))) → sp vs H Q E →
      ∃ t, PSs (cxOf CX P w K mg base N qual scope f (.ref c) A outer s H E) body t ∧ t { nx := fun _ H' => Q .non H', rt := Q } (start N vs) H) : FnOk P w K mg base CX (k + 1) f fd ps sp := by
  obtain ⟨oc, od, dV, kV, doc, pm, an, cdv, ct, osl, rfl, lk, hcd, _, _⟩ := F.ex
  have e : cdv = .ref c := hc
  subst e
  exact fn_of lk hcd S len hbody
/-- the name of a lambda in a def -/
abbrev lamQ (q : Str) : Str := (q ++ ".<locals>.") ++ "<lambda>"
theorem pe_sortk2 {P : Program} {w : World} {K : PySem.W.Frag} {mg : Str → Option Value} {base : Heap} {N' : List Str} {qual : Str} {scope' : Scope} {f c : Addr} {A : Around} {outer : List Env} {s : Shared} {H : Hp} {E : XK}
    {T : List (Addr × Str)} {k : Nat} {Pc : Addr} {x : Str} {N : List Str} {params : Arguments} {body e : Expr} {scope : Scope} {lp kp p pos : Pos} {te : TE} (hr : Room (k + 3) (A.deeper (envOfC qual scope' s.heap.objs.size f (.ref c)))) (TB : TabB base mg c Pc)
    (hm : (Pc, lamQ qual) ∈ T) (hu : ∀ p ∈ T, p.1 = Pc → p.2 = lamQ qual) (S : FnScope N [x] scope) (hmg : mg "sorted" = none)
    (he : PE (cxOf CX0 P w K mg base N' qual scope' f (.ref c) A outer s H E).nox e te)
    (hg : Gl (cxOf CX0 P w K mg base N' qual scope' f (.ref c) A outer s H E).nox "sorted") (hdef : defaultsOf params (cxOf CX0 P w K mg base N' qual scope' f (.ref c) A outer s H E).nox.env = ([], [])) (hcl : closureFor scope (cxOf CX0 P w K mg base N' qual scope' f (.ref c) A outer s H E).nox.env = pure [])
    (hb : ∀ (pm ctv u : Value) (c' : Addr), bindArgs (kla_fn "<lambda>" (lamQ qual) params body scope [] pm (.ref c') ctv) ⟨[u], []⟩ = pure [(x, u)])
    (h1 : backTo pos (starEach [e] (cxOf CX0 P w K mg base N' qual scope' f (.ref c) A outer s H E).nox.env) = [(false, eval e (cxOf CX0 P w K mg base N' qual scope' f (.ref c) A outer s H E).nox.env)]) :
    PE (cxOf CX0 P w K mg base N' qual scope' f (.ref c) A outer s H E).nox (.Call (.Name "sorted" p) [e] [⟨some "key", .Lambda params body scope lp, kp⟩] pos) (tSortK (cxOf CX0 P w K mg base N' qual scope' f (.ref c) A outer s H E).nox T k te N body scope) :=
  pe_sortk (X := (cxOf CX0 P w K mg base N' qual scope' f (.ref c) A outer s H E).nox) rfl hr TB rfl hm hu S hg hmg he hdef hcl hb h1
/-! ### tables as data to compare -/
theorem eqv_ints : ∀ a b : Row, PyData.eqvAll (a.map .int) (b.map .int) = decide (a = b)
  | [], [] => by simp [PyData.eqvAll]
  | [], _ :: _ => by simp [PyData.eqvAll]
  | _ :: _, [] => by simp [PyData.eqvAll]
  | x :: a, y :: b => by
    rw [List.map_cons, List.map_cons]
    simp only [PyData.eqvAll, PyData.eqv, eqv_ints a b, List.cons.injEq]
    rw [Bool.eq_iff_iff]
    simp
theorem eqv_row (a b : Row) : PyData.eqv (rowD a) (rowD b) = decide (a = b) := by
  unfold rowD
  simp only [PyData.eqv, eqv_ints]
theorem eqv_rows : ∀ a b : Tab, PyData.eqvAll (a.map rowD) (b.map rowD) = decide (a = b)
  | [], [] => by simp [PyData.eqvAll]
  | [], _ :: _ => by simp [PyData.eqvAll]
  | _ :: _, [] => by simp [PyData.eqvAll]
  | x :: a, y :: b => by
    rw [List.map_cons, List.map_cons]
    simp only [PyData.eqvAll, eqv_row, eqv_rows a b, List.cons.injEq]
    rw [Bool.eq_iff_iff]
    simp
theorem eqv_tab (a b : Tab) : PyData.eqv (tabD a) (tabD b) = decide (a = b) := by
  unfold tabD
  simp only [PyData.eqv, eqv_rows]
theorem lay_ints : ∀ r : Row, PyData.canLayAll0 (r.map .int) = true
  | [] => by simp [PyData.canLayAll0]
  | x :: r => by simp [PyData.canLayAll0, PyData.canLay0, lay_ints r]
theorem lay_rows : ∀ t : Tab, PyData.canLayAll0 (t.map rowD) = true
  | [] => by simp [PyData.canLayAll0]
  | x :: t => by simp [PyData.canLayAll0, PyData.canLay0, rowD, lay_ints x, lay_rows t]
theorem lay_tabs : ∀ t : List Tab, PyData.canLayAll0 (t.map tabD) = true
  | [] => by simp [PyData.canLayAll0]
  | x :: t => by simp [PyData.canLayAll0, PyData.canLay0, tabD, lay_rows x, lay_tabs t]
theorem tabs_dep : ∀ t : List Tab, PyData.depthAll (t.map tabD) ≤ 4
  | [] => by simp [PyData.depthAll]
  | x :: xs => by
    have := tabs_dep xs
    have := tab_dep x
    simp only [List.map_cons, PyData.depthAll]
    omega
theorem shaped_tab (t : Tab) : SeqAt.shaped (tabD t) = true := by
  unfold SeqAt.shaped
  rw [Bool.and_eq_true, decide_eq_true_eq]
  exact ⟨by simp [tabD, PyData.canLay0, lay_rows t], Nat.le_trans (tab_dep t) (by decide)⟩
theorem shaped_tabs (t : List Tab) : SeqAt.shaped (.list (t.map tabD)) = true := by
  unfold SeqAt.shaped
  rw [Bool.and_eq_true, decide_eq_true_eq]
  refine ⟨by simp [PyData.canLay0, lay_tabs t], ?_⟩
  have := tabs_dep t
  simp only [PyData.depth]
  omega
section
variable {K : PySem.W.Frag} {H : Hp} {a : Addr}
theorem dp_ints : ∀ r : Row, DpAll K H (r.map V.int) (r.map .int)
  | [] => .nil
  | x :: r => .cons (.int x) (dp_ints r)
theorem dp_row {r : Row} (h : IsRow H a r) : Dp K H (.ref a) (rowD r) := .tup (.inl (.inl h)) (dp_ints r)
theorem dp_rows : ∀ {vs : List V} {t : Tab}, Paired (VRow H) vs t → DpAll K H vs (t.map rowD)
  | [], _, p => by
    cases p
    exact .nil
  | v :: vs, _, p => by
    cases p with
    | cons p1 p2 =>
      obtain ⟨a, rfl, h⟩ := p1
      exact .cons (dp_row h) (dp_rows p2)
theorem dp_tab {t : Tab} (h : IsTab H a t) : Dp K H (.ref a) (tabD t) := by
  obtain ⟨vs, h, p⟩ := h.rows
  exact .tup (.inl (.inl h)) (dp_rows p)
theorem dp_tabs : ∀ {vs : List V} {t : List Tab}, Paired (VTab H) vs t → DpAll K H vs (t.map tabD)
  | [], _, p => by
    cases p
    exact .nil
  | v :: vs, _, p => by
    cases p with
    | cons p1 p2 =>
      obtain ⟨a, rfl, h⟩ := p1
      exact .cons (dp_tab h) (dp_tabs p2)
end
theorem eqv_nil (ts : List Tab) : PyData.eqv (.list (ts.map tabD)) (.list []) = decide (ts = []) := by
  cases ts <;> simp [PyData.eqv, PyData.eqvAll]
end K5
namespace K5
open PySem PySem.Spec PyProof.Rows L2 LamX RZ

/-! ### the dict of what is found -/
structure FO {β : Type} (Rv : Hp → V → Nat → β → Prop) (H : Hp) (kvs : List (Tab × V)) (F : BF) (m : Tab → β) : Prop where
  keys : kvs.map (·.1) = ks F
  val : ∀ x ∈ ks F, ∃ v, valV kvs x = some v ∧ Rv H v (dOf F x) (m x)
section
variable {β : Type} {Rv : Hp → V → Nat → β → Prop} {H H' : Hp} {kvs : List (Tab × V)} {F : BF} {m : Tab → β} {x : Tab} {v : V} {e : Nat} {b : β}
theorem FO.mono (h : FO Rv H kvs F m) (k : ∀ v e b, Rv H v e b → Rv H' v e b) : FO Rv H' kvs F m := ⟨h.keys, fun x hx => let ⟨v, e, r⟩ := h.val x hx; ⟨v, e, k _ _ _ r⟩⟩
theorem FO.snoc (h : FO Rv H kvs F m) (n : x ∉ ks F) (r : Rv H v e (m x)) : FO Rv H (putK kvs x v) (F ++ [(x, e)]) m := by
  have kk : ks (F ++ [(x, e)]) = ks F ++ [x] := by simp [ks]
  refine ⟨?_, fun y hy => ?_⟩
  · rw [kk, pk_keys, if_neg (by rw [h.keys]; exact n), h.keys]
  · rw [valV_put]
    by_cases z : y = x
    · subst z
      rw [if_pos rfl]
      exact ⟨v, rfl, by rw [dOf_new n]; exact r⟩
    · rw [if_neg z]
      rw [kk] at hy
      rcases List.mem_append.mp hy with hy | hy
      · obtain ⟨u, hu, ru⟩ := h.val y hy
        exact ⟨u, hu, by rw [dOf_app hy]; exact ru⟩
      · exact absurd (List.mem_singleton.mp hy) z
theorem FO.put (h : FO Rv H kvs F m) (hx : x ∈ ks F) (r : Rv H v (dOf F x) b) : FO Rv H (putK kvs x v) F (updF m x b) := by
  refine ⟨?_, fun y hy => ?_⟩
  · rw [pk_keys, if_pos (by rw [h.keys]; exact hx), h.keys]
  · rw [valV_put]
    unfold updF
    by_cases z : y = x
    · subst z
      rw [if_pos rfl, if_pos rfl]
      exact ⟨v, rfl, r⟩
    · rw [if_neg z, if_neg z]
      exact h.val y hy
theorem FO.one (t : Tab) (r : Rv H v 0 (m t)) : FO Rv H [(t, v)] [(t, 0)] m := by
  refine ⟨rfl, fun x hx => ?_⟩
  rw [List.mem_singleton.mp hx]
  exact ⟨v, by simp [valV], by simpa [dOf] using r⟩
end
/-- a tuple of both -/
def VDM (H : Hp) (v : V) (d m : Nat) : Prop := ∃ a, v = .ref a ∧ H a = some (.tup [.int d, .int m])
theorem VDM.kt {H H' : Hp} (k : KT H H') (v : V) (d m : Nat) (h : VDM H v d m) : VDM H' v d m := let ⟨a, e, h⟩ := h; ⟨a, e, k _ _ h⟩
/-- nothing written, all the same -/
theorem ext_any {T : List (Addr × Str)} {H H' : Hp} (e : Ext T H H') : KT H H' := e.kt
theorem take_succ_of {α : Type} {l : List α} {i : Nat} {x : α} (h : l[i]? = some x) : l.take (i + 1) = l.take i ++ [x] := by
  rw [List.take_add_one, h]
  rfl
theorem drop_of {α : Type} {l : List α} {i : Nat} {x : α} (h : l[i]? = some x) : l.drop i = x :: l.drop (i + 1) := by
  obtain ⟨hi, e⟩ := List.getElem?_eq_some_iff.mp h
  rw [List.drop_eq_getElem_cons hi, e]
theorem foldl_take {α γ : Type} (f : γ → α → γ) (s : γ) {l : List α} {i : Nat} {x : α} (h : l[i]? = some x) : (l.take (i + 1)).foldl f s = f ((l.take i).foldl f s) x := by
  rw [take_succ_of h, List.foldl_append]
  rfl
theorem paired_take {α β : Type} {R : α → β → Prop} {as : List α} {bs : List β} {i : Nat} {a : α} (p : Paired R as bs) (h : as[i]? = some a) : ∃ b, bs[i]? = some b ∧ R a b ∧ i < bs.length := by
  obtain ⟨b, hb, r⟩ := paired_at p h
  exact ⟨b, hb, r, (List.getElem?_eq_some_iff.mp hb).1⟩
theorem VTabs.kt {H H' : Hp} {vs : List V} {ts : List Tab} (p : Paired (VTab H) vs ts) (k : KT H H') : Paired (VTab H') vs ts := Paired.mapP p fun _ _ r => r.kt k
theorem sql_new {K : PySem.W.Frag} {H : Hp} {p : Addr} {xs : List V} (h : H p = some (.lst xs)) : SqL K H p xs := .inl (.inl h)
theorem sqt_new {K : PySem.W.Frag} {H : Hp} {p : Addr} {xs : List V} (h : H p = some (.tup xs)) : SqT K H p xs := .inl (.inl h)
end K5
namespace K5
open PySem PySem.Spec PyProof.Rows L2 LamX RZ

section
variable {P : Program} {w : World} {T : List (Addr × Str)} {H H' : Hp} {d l r od : Addr} {kvs lk kvs' : List (Tab × V)} {rs os : List V} {F F' : BF} {L rim order : List Tab} {o : HO}
theorem DictW.kt (g : DictW P w H d kvs) (k : KT H H') (e : H' d = H d) : DictW P w H' d kvs := by
  obtain ⟨M, h, r, t⟩ := g
  exact ⟨M, e.trans h, r, fun y hy => (t y hy).kt k⟩
theorem DictW.neD (g : DictW P w H d kvs) (h : H l = none) : l ≠ d := fun z => g.dom (z ▸ h)
/-- the search's state -/
structure Sp1 (P : Program) (w : World) (H : Hp) (d r od l : Addr) (kvs lk : List (Tab × V)) (rs os : List V) (F : BF) (L rim order : List Tab) : Prop where
  hW : DictW P w H d kvs
  fo : FO VDM H kvs F fun _ => 0
  hL : DictW P w H l lk
  lk : lk.map (·.1) = L
  hr : H r = some (.lst rs)
  pr : Paired (VTab H) rs rim
  ho : H od = some (.lst os)
  po : Paired (VTab H) os order
theorem Sp1.ext (s : Sp1 P w H d r od l kvs lk rs os F L rim order) (e : Ext T H H') : Sp1 P w H' d r od l kvs lk rs os F L rim order :=
  ⟨s.hW.ext e, s.fo.mono (VDM.kt e.kt), s.hL.ext e, s.lk, e.lst s.hr, VTabs.kt s.pr e.kt, e.lst s.ho, VTabs.kt s.po e.kt⟩
theorem Sp1.app {v : V} {x : Tab} (s : Sp1 P w H d r od l kvs lk rs os F L rim order) (n : r ≠ od) (hx : VTab H v x) : Sp1 P w (upd H od (.lst (os ++ [v]))) d r od l kvs lk rs (os ++ [v]) F L rim (order ++ [x]) := by
  have k : KT H (upd H od (.lst (os ++ [v]))) := KT.mut s.ho fun _ z => nomatch z
  have n1 := s.hW.neL s.ho
  have n2 := s.hL.neL s.ho
  exact ⟨s.hW.kt k (upd_ne n1.symm), s.fo.mono (VDM.kt k), s.hL.kt k (upd_ne n2.symm), s.lk, (upd_ne n).trans s.hr, VTabs.kt s.pr k, upd_same, paired_app (VTabs.kt s.po k) (.cons (hx.kt k) .nil)⟩
theorem Sp1.found (s : Sp1 P w H d r od l kvs lk rs os F L rim order) (n : l ≠ d) (g : DictW P w (upd H d o) d kvs') (fo : FO VDM H kvs' F' fun _ => 0) : Sp1 P w (upd H d o) d r od l kvs' lk rs os F' L rim order := by
  have k : KT H (upd H d o) := s.hW.ktm
  exact ⟨g, fo.mono (VDM.kt k), s.hL.kt k (upd_ne n), s.lk, (upd_ne (s.hW.neL s.hr)).trans s.hr, VTabs.kt s.pr k, (upd_ne (s.hW.neL s.ho)).trans s.ho, VTabs.kt s.po k⟩
theorem Sp1.later {L' : List Tab} {lk' : List (Tab × V)} (s : Sp1 P w H d r od l kvs lk rs os F L rim order) (n : l ≠ d) (g : DictW P w (upd H l o) l lk') (e : lk'.map (·.1) = L') : Sp1 P w (upd H l o) d r od l kvs lk' rs os F L' rim order := by
  have k : KT H (upd H l o) := s.hL.ktm
  exact ⟨s.hW.kt k (upd_ne n.symm), s.fo.mono (VDM.kt k), g, e, (upd_ne (s.hL.neL s.hr)).trans s.hr, VTabs.kt s.pr k, (upd_ne (s.hL.neL s.ho)).trans s.ho, VTabs.kt s.po k⟩
theorem BI.few {n g b : Nat} {t : Tab} {done rest : List Tab} {S : BF × List Tab} (h : BI n g t b done rest S) (G : Good n g t) (sm : Small n g) : (ks S.1).length ≤ 3000 := K5.few sm G h.nd h.good
theorem bIn_new {here told : Tab} {S : BF × List Tab} (h : told ∉ ks S.1) : bIn here S told = (S.1 ++ [(told, dOf S.1 here + 1)], S.2 ++ [told]) := if_neg h
theorem bIn_old {here told : Tab} {S : BF × List Tab} (h : told ∈ ks S.1) : bIn here S told = S := if_pos h
end
end K5
namespace K5
open PySem PySem.Spec PyProof.Rows L2 LamX RZ
section
variable {T : List (Addr × Str)} {P : Program} {w : World} {K : PySem.W.Frag} {mg : Str → Option Value} {base : Heap} {f c Pc : Addr} {fd : FuncData}
abbrev n_spread : List Str := ["table", "found", "rim", "order", "later", "here", "told"]
theorem sc_spread : FnScope n_spread ["table"] (defScope s_spread) := ⟨rfl, rfl, rfl, by decide +kernel, rfl, by decide +kernel, by decide +kernel⟩
def spSpread (P : Program) (w : World) (T : List (Addr × Str)) : Sp := fun vs H Q _ => ∃ (a : Addr) (n g : Nat) (t : Tab), vs = [.ref a] ∧ TabOk H a n g t ∧ Tabs T H ∧ ∀ H' d kvs, Ext T H H' → H d = none → DictW P w H' d kvs → FO VDM H' kvs (bfs t) (mostOf t) → Q (.ref d) H'
theorem ok_spread (fr : Fr mg) (g_odds_of : Kn P w K mg base "odds_of" ["table"] 3 (spOdds T)) (g_crowd_of : Kn P w K mg base "crowd_of" ["table"] 1 (spCrowd T)) (g_nexts_of : Kn P w K mg base "nexts_of" ["table"] 4 (spNexts T))
    (TB : TabB base mg c Pc) (hmT : (Pc, lamQ "spread") ∈ T) (huT : ∀ p ∈ T, p.1 = Pc → p.2 = lamQ "spread") (F : FnP K "spread" s_spread f fd) (hc : fd.code = .ref c) : FnOk P w K mg base CX0 8 f fd ["table"] (spSpread P w T) := by
  refine okC F hc sc_spread (fun vs H Q E h => ?_) (fun A outer s H vs Q E hr h => ?_)
  · obtain ⟨a, n, g, t, rfl, _⟩ := h
    rfl
  · obtain ⟨a, n, g, t, rfl, tok, hT, q⟩ := h
    have nd := sc_spread.nd
    have G := tok.good
    have sm := tok.small
    have z2 : 1 ≤ g := sm.2.1
    have BO := bfs_ok G
    refine ⟨_, (PSs.nox (pss_cons (ps_par (i := 1) (j := 2) rfl nd rfl rfl (by decide) rfl rfl (pa_cons (pe_none1 hr.units (pe_k g_crowd_of (hr.mono (by decide)) rfl (pa_cons (pv 0) pa_nil)) (pe_tup (pa_cons pe_int (pa_cons pe_int pa_nil)))) (pa_cons (pe_lst (pa_cons (pe_k g_crowd_of (hr.mono (by decide)) rfl (pa_cons (pv 0) pa_nil)) pa_nil)) pa_nil)) rfl)
      (pss_cons (ps_set (i := 3) nd rfl (by first | exact .inl rfl | exact .inr rfl) (pe_lst pa_nil))
      (pss_cons (ps_while PassesOwn.never (pt_cmpR (op_neD hr.units) (pv 2) (pe_lst pa_nil) (nomark _))
      (pss_cons (ps_set (i := 4) nd rfl (by first | exact .inl rfl | exact .inr rfl) pe_nnew)
      (pss_cons (ps_for PassesOwn.never rfl (pi_list (pv 2)) (pg_name (i := 5) nd rfl (by first | exact .inl rfl | exact .inr rfl))
      (pss_cons (ps_expr (pe_bm PySem.F.plainAttrs_list PySem.F.slot_list_append PySem.F.type_list_append mt_append (pv 3) (pa_cons (pv 5) pa_nil)))
      (pss_one (ps_for PassesOwn.never rfl (pi_list (pe_k g_nexts_of (hr.mono (by decide)) rfl (pa_cons (pv 5) pa_nil))) (pg_name (i := 6) nd rfl (by first | exact .inl rfl | exact .inr rfl))
      (pss_one (ps_if (pt_cmp (pc_nnotin hr.units (pv 6) (pv 1)) rfl) (pss_cons (ps_nput hr.units (pv 1) (pv 6) (pe_tup (pa_cons (pe_op op_add (pe_ix ix_tup (pe_nget hr.units (pv 1) (pv 5) (fun _ _ => rfl)) pe_int (fun _ _ => rfl)) pe_int) (pa_cons pe_int pa_nil))) rfl)
      (pss_one (ps_nput hr.units (pv 4) (pv 6) pe_bl rfl))) pss_nil))))))
      (pss_cons (ps_set (i := 2) nd rfl (by first | exact .inl rfl | exact .inr rfl) (pe_callTy (call_listN rfl) rfl fr.list (by decide +kernel) (pa_cons (pv 4) pa_nil)))
      (pss_one (ps_if (pt_cmpR op_gt (pe_callB call_nlen rfl fr.len (by decide +kernel) (pa_cons (pv 1) pa_nil)) (pe_intg rfl fr.m_MOST_MET) (nomark _)) (pss_one ps_never) pss_nil))))))
      (pss_cons (ps_for PassesOwn.never rfl (pi_list (pe_sortk2 (T := T) (k := 3) (N := ["told"]) (hr.mono (by decide)) TB hmT huT (by exact ⟨rfl, rfl, rfl, by decide +kernel, rfl, by decide +kernel, by decide +kernel⟩) fr.sorted (pv 3) rfl rfl rfl (by intros; rfl) rfl)) (pg_name (i := 5) nd rfl (by first | exact .inl rfl | exact .inr rfl))
      (pss_one (ps_for PassesOwn.never rfl (pi_list (pe_k g_nexts_of (hr.mono (by decide)) rfl (pa_cons (pv 5) pa_nil))) (pg_name (i := 6) nd rfl (by first | exact .inl rfl | exact .inr rfl))
      (pss_one (ps_nput hr.units (pv 1) (pv 6) (pe_tup (pa_cons (pe_ix ix_tup (pe_nget hr.units (pv 1) (pv 6) (fun _ _ => rfl)) pe_int (fun _ _ => rfl)) (pa_cons (pe_callB (call_max2 rfl) rfl fr.max (by decide +kernel) (pa_cons (pe_ix ix_tup (pe_nget hr.units (pv 1) (pv 6) (fun _ _ => rfl)) pe_int (fun _ _ => rfl)) (pa_cons (pe_op op_add (pe_ix ix_tup (pe_nget hr.units (pv 1) (pv 5) (fun _ _ => rfl)) pe_int (fun _ _ => rfl)) pe_int) pa_nil))) pa_nil))) rfl)))))
      (pss_one (ps_ret (pv 1)))))))), ?_⟩
    -- found, rim, order
    refine fun d H0 hD => ⟨_, rfl, a, t, rfl, hD.ext (T := T) |>.tab tok.tab, good_ne G z2, fun H1 p1 e1 np1 t1 => ⟨Nat.le_of_lt (small_line (Nat.le_trans (Nat.le_refl 2) (by decide))), fun tp ntp => ?_⟩⟩
    have eA : Ext T H (upd H1 tp (.tup [.int 0, .int 0])) := (hD.ext.trans e1).add ntp
    have nd0 : H d = none := hD.1
    have hW1 : DictW P w (upd H1 tp (.tup [.int 0, .int 0])) d [] := (hD.2.choose_spec.2).ext (e1.add ntp)
    have t1' := (Ext.new (T := T) (o := .tup [.int 0, .int 0]) ntp).tab t1
    have vtp : VDM (upd H1 tp (.tup [.int 0, .int 0])) (.ref tp) 0 0 := ⟨tp, rfl, upd_same⟩
    refine ⟨p1, crowd t, rfl, hW1, t1', fun o hW2 => ?_⟩
    have eB : Ext T H (upd (upd H1 tp (.tup [.int 0, .int 0])) d o) := hW1.mut eA nd0
    have vtp2 := VDM.kt (hW1.ktm (o := o)) _ _ _ vtp
    generalize upd (upd H1 tp (.tup [.int 0, .int 0])) d o = H2 at hW2 eB vtp2
    refine ⟨_, rfl, a, t, rfl, eB.tab tok.tab, good_ne G z2, fun H3 p3 e3 np3 t3 => ⟨Nat.le_of_lt (small_line (Nat.le_trans (Nat.le_refl 1) (by decide))), fun r nr => ⟨_, _, rfl, Nat.zero_le _, fun od nod => ?_⟩⟩⟩
    have eC : Ext T H2 (upd H3 r (.lst [.ref p3])) := e3.add nr
    have eD : Ext T H (upd (upd H3 r (.lst [.ref p3])) od (.lst [])) := (eB.trans eC).add nod
    have nr0 : H r = none := (eB.trans e3).free nr
    have nod0 : H od = none := (eB.trans eC).free nod
    have hrod : r ≠ od := fun z => by
      rw [z] at nod
      rw [upd_same] at nod
      cases nod
    have hW3 : DictW P w (upd (upd H3 r (.lst [.ref p3])) od (.lst [])) d [(crowd t, .ref tp)] := hW2.ext (eC.add nod)
    have fo3 : FO VDM (upd (upd H3 r (.lst [.ref p3])) od (.lst [])) [(crowd t, .ref tp)] [(crowd t, 0)] fun _ => 0 := .one _ (VDM.kt (eC.add nod).kt _ _ _ vtp2)
    have hr3 : (upd (upd H3 r (.lst [.ref p3])) od (.lst [])) r = some (.lst [.ref p3]) := by rw [upd_ne hrod, upd_same]
    have ho3 : (upd (upd H3 r (.lst [.ref p3])) od (.lst [])) od = some (.lst []) := upd_same
    have pt3 : Paired (VTab (upd (upd H3 r (.lst [.ref p3])) od (.lst []))) [.ref p3] [crowd t] := .cons ⟨p3, rfl, ((Ext.new (T := T) nr).trans (.new nod)).tab t3⟩ .nil
    generalize upd (upd H3 r (.lst [.ref p3])) od (.lst []) = H4 at eD hW3 fo3 hr3 ho3 pt3
    -- while rim != []
    refine ⟨fun k σ H' => ∃ (r : Addr) (y4 y5 y6 : Option V) (kvs : List (Tab × V)) (rs os : List V) (F : BF) (rim done : List Tab) (b : Nat), σ = [some (.ref a), some (.ref d), some (.ref r), some (.ref od), y4, y5, y6] ∧ Ext T H H' ∧ H r = none ∧ r ≠ od ∧ DictW P w H' d kvs ∧ FO VDM H' kvs F (fun _ => 0) ∧
      H' r = some (.lst rs) ∧ Paired (VTab H') rs rim ∧ H' od = some (.lst os) ∧ Paired (VTab H') os done ∧ BI n g t b done rim (F, []) ∧ Enough k b rim ∧ bfsGo k F rim = bfs t,
      ⟨oddsN t + 1, r, none, none, none, _, _, _, _, _, _, _, rfl, eD, nr0, hrod, hW3, fo3, hr3, pt3, ho3, .nil, bStart G, .inr (by omega), rfl⟩, fun k σ H5 hk => ?_⟩
    obtain ⟨r, y4, y5, y6, kvs, rs, os, F, rim, done, b, rfl, e5, nr, hro, hW, fo, hrs, prs, hos, pos, bi, en, eg⟩ := hk
    refine ⟨_, rfl, Nat.zero_le _, fun em nem => ?_⟩
    have e6 := e5.add (o := .lst []) nem
    have prs6 := VTabs.kt prs (Ext.new (T := T) (o := .lst []) nem).kt
    refine ⟨_, _, .lst (sql_new ((Ext.new (T := T) nem).lst hrs)) (dp_tabs prs6), .lst (sql_new upd_same) .nil, shaped_tabs rim, shaped_tabs [], _, rfl, ?_⟩
    rw [eqv_nil]
    cases hrim : decide (rim = []) with
    | true =>
      -- the search is over
      refine iteF ?_
      have hrim := of_decide_eq_true hrim
      subst hrim
      have eF : F = bfs t := by
        rw [← eg]
        cases k <;> rfl
      subst eF
      have eK : done = ks (bfs t) := by
        have := bi.keys
        simp at this
        exact this.symm
      subst eK
      have hW6 := hW.ext (Ext.new (T := T) (o := .lst []) nem)
      have fo6 := fo.mono (H' := upd H5 em (.lst [])) (VDM.kt (Ext.new (T := T) nem).kt)
      have hos6 := (Ext.new (T := T) (o := .lst []) nem).lst hos
      have pos6 := VTabs.kt pos (Ext.new (T := T) (o := .lst []) nem).kt
      generalize upd H5 em (.lst []) = H6 at e6 hW6 fo6 hos6 pos6
      have n5 : n ≤ 100 ∧ g ≤ 100 := by
        obtain ⟨_, _, z⟩ := sm
        omega
      refine ⟨_, rfl, od, os, Tab, ks (bfs t), VTab H6, negO, rfl, .inl (sql_new hos6), e6.tabs hT, pos6, fun f' c' A' s' H' y tb hb hy e hr' => ?_, fun p zs H7 np e7 pz hz => ⟨p, rfl, ⟨zs, sql_new hz⟩, ?_⟩⟩
      · obtain ⟨ab, rfl, tb'⟩ := hy
        refine ⟨_, pe_un un_neg (pe_callB call_len_seq rfl fr.len (by decide +kernel) (pa_cons (pe_k g_odds_of hr' rfl (pa_cons (pv 0) pa_nil)) pa_nil)), fun Q' hq => ?_⟩
        refine ⟨_, rfl, ab, n, g, tb, rfl, e.tab tb', (BO.good tb hb).1, n5.1, n5.2, fun H'' p ps e2 np hp pp => ⟨p, ps, rfl, .inl (sql_new hp), _, rfl, ?_⟩⟩
        have en : (-(ps.length : Int)) = negO tb := by
          unfold negO
          rw [Paired.length pp]
          omega
        show Q' (.int (-(ps.length : Int))) H''
        rw [en]
        exact hq H'' e2
      · have e8 := e6.trans e7
        change Paired (VTab H6) zs (ordK (ks (bfs t))) at pz
        have few8 : (ks (bfs t)).length ≤ 3000 := few sm G BO.nd BO.good
        have np0 : H p = none := e6.free np
        refine for_it (walk_list (xs := zs)) (fun i σ H' => ∃ (y5 y6 : Option V) (kvs : List (Tab × V)), σ = [some (.ref a), some (.ref d), some (.ref r), some (.ref od), y4, y5, y6] ∧ Ext T H H' ∧ DictW P w H' d kvs ∧ FO VDM H' kvs (bfs t) (runF opM (fun _ => 0) ((ordK (ks (bfs t))).take i)) ∧
          H' p = some (.lst zs) ∧ Paired (VTab H') zs (ordK (ks (bfs t)))) ⟨y5, y6, kvs, rfl, e8, hW6.ext e7, show FO VDM H7 kvs (bfs t) (fun _ => 0) from fo6.mono (VDM.kt e7.kt), hz, VTabs.kt pz e7.kt⟩ (fun i σ H' _ ⟨_, _, _, _, _, _, _, h, _⟩ => sql_new h) (fun i x σ H8 H8' hi hP y => ?_) fun σ H8 hP => ?_
        · obtain ⟨y5, y6, kvs, rfl, e8, hW8, fo8, hz8, pz8⟩ := hP
          obtain ⟨rfl, hx⟩ := y
          obtain ⟨t1, ht1, ⟨ah, rfl, tabh⟩, hi1⟩ := paired_take pz8 hx
          have hk1 : t1 ∈ ks (bfs t) := (ordK_perm _).mem_iff.mp (List.mem_of_getElem? ht1)
          have hm1 := foldl_take (accF opM) (fun _ => 0) ht1
          change runF opM (fun _ => 0) ((ordK (ks (bfs t))).take (i + 1)) = accF opM (runF opM (fun _ => 0) ((ordK (ks (bfs t))).take i)) t1 at hm1
          generalize runF opM (fun _ => 0) ((ordK (ks (bfs t))).take i) = m8 at fo8 hm1
          refine ⟨_, rfl, ah, n, g, t1, rfl, tabh, (BO.good t1 hk1).1, sm, fun H10 pz2 zs2 e10 npz hpz pz10 => ⟨pz2, rfl, ⟨zs2, sql_new hpz⟩, ?_⟩⟩
          refine for_it (walk_list (xs := zs2)) (fun j σ H' => ∃ (y6 : Option V) (kvs : List (Tab × V)), σ = [some (.ref a), some (.ref d), some (.ref r), some (.ref od), y4, some (.ref ah), y6] ∧ Ext T H H' ∧ DictW P w H' d kvs ∧ FO VDM H' kvs (bfs t) (((nexts t1).take j).foldl (stepF opM t1) m8) ∧
            H' p = some (.lst zs) ∧ Paired (VTab H') zs (ordK (ks (bfs t))) ∧ H' pz2 = some (.lst zs2) ∧ Paired (VTab H') zs2 (nexts t1) ∧ IsTab H' ah t1) ⟨y6, kvs, rfl, e8.trans e10, hW8.ext e10, by simpa using fo8.mono (VDM.kt e10.kt), e10.lst hz8, VTabs.kt pz8 e10.kt, hpz, pz10, e10.tab tabh⟩ (fun i σ H' _ ⟨_, _, _, _, _, _, _, _, h, _⟩ => sql_new h) (fun j x σ H11 H11' hj hP y => ?_) fun σ H11 hP => ?_
          · obtain ⟨y6, kvs, rfl, e11, hW11, fo11, hz11, pz11, hpz11, pq11, tab11⟩ := hP
            obtain ⟨rfl, hx⟩ := y
            obtain ⟨t2, ht2, ⟨at2, rfl, tabt⟩, hj1⟩ := paired_take pq11 hx
            have m2 : t2 ∈ nexts t1 := List.mem_of_getElem? ht2
            have hk2 : t2 ∈ ks (bfs t) := BO.clo t1 hk1 t2 m2
            have hS2 := foldl_take (stepF opM t1) m8 ht2
            generalize ((nexts t1).take j).foldl (stepF opM t1) m8 = m11 at fo11 hS2
            obtain ⟨v1, hv1, a1, rfl, ha1⟩ := fo11.val t1 hk1
            obtain ⟨v2, hv2, a2, rfl, ha2⟩ := fo11.val t2 hk2
            have lkv : kvs.length ≤ 3000 := by
              have := congrArg List.length fo11.keys
              rw [List.length_map] at this
              omega
            refine ⟨_, rfl, _, rfl, d, at2, kvs, t2, _, rfl, rfl, hW11.n, tabt, hv2, a2, _, 0, _, rfl, rfl, sqt_new ha2, rfl, _, rfl, _, rfl, d, at2, kvs, t2, _, rfl, rfl, hW11.n, tabt, hv2, a2, _, 1, _, rfl, rfl, sqt_new ha2, rfl, _, rfl, _, rfl, d, ah, kvs, t1, _, rfl, rfl, hW11.n, tab11, hv1, a1, _, 1, _, rfl, rfl, sqt_new ha1, rfl, _, _, rfl, rfl, _, _, rfl, Nat.le_of_lt (small_line (Nat.le_trans (Nat.le_refl 2) (by decide))), fun tp ntp => ?_⟩
            have eM : (if ((m11 t1 : Int) + 1) > (m11 t2 : Int) then (m11 t1 : Int) + 1 else (m11 t2 : Int)) = ((opM (m11 t2) (m11 t1) : Nat) : Int) := by
              unfold opM
              split <;> omega
            rw [eM] at *
            have eN : Ext T H11' (upd H11' tp (.tup [.int (dOf (bfs t) t2), .int (opM (m11 t2) (m11 t1) : Nat)])) := .new ntp
            have vN : VDM (upd H11' tp (.tup [.int (dOf (bfs t) t2), .int (opM (m11 t2) (m11 t1) : Nat)])) (.ref tp) (dOf (bfs t) t2) (opM (m11 t2) (m11 t1)) := ⟨tp, rfl, upd_same⟩
            have hz12 := eN.lst hz11
            have hpz12 := eN.lst hpz11
            have kN := eN.kt
            have eNN := e11.trans eN
            have fo12 := fo11.mono (VDM.kt kN)
            have hW12 := hW11.ext eN
            generalize upd H11' tp (.tup [.int (dOf (bfs t) t2), .int (opM (m11 t2) (m11 t1) : Nat)]) = H12 at eN vN hz12 hpz12 kN eNN fo12 hW12
            refine ⟨_, rfl, _, rfl, d, at2, kvs, t2, rfl, rfl, hW12, tabt.kt kN, small_line (by omega), fun o hWo => ?_⟩
            have k13 : KT H11' (upd H12 d o) := kN.trans hW12.ktm
            refine ⟨some (.ref at2), _, rfl, hW12.mut eNN nd0, hWo, ?_, (upd_ne (hW12.neL hz12)).trans hz12, VTabs.kt pz11 k13, (upd_ne (hW12.neL hpz12)).trans hpz12, VTabs.kt pq11 k13, tab11.kt k13⟩
            rw [hS2]
            exact (fo12.put hk2 vN).mono (VDM.kt hW12.ktm)
          · obtain ⟨y6, kvs, rfl, e11, hW11, fo11, hz11, pz11, hpz11, pq11, tab11⟩ := hP
            have lz : (nexts t1).take zs2.length = nexts t1 := by rw [Paired.length pq11]; exact List.take_length
            rw [lz] at fo11
            refine ⟨_, y6, kvs, rfl, e11, hW11, ?_, hz11, pz11⟩
            rw [hm1]
            exact fo11
        · obtain ⟨y5, y6, kvs, rfl, e8, hW8, fo8, hz8, pz8⟩ := hP
          have lz : (ordK (ks (bfs t))).take zs.length = ordK (ks (bfs t)) := by rw [Paired.length pz8]; exact List.take_length
          rw [lz] at fo8
          exact ⟨_, rfl, q H8 d kvs e8 nd0 hW8 fo8⟩
    | false =>
      refine iteT ?_
      have hrim := of_decide_eq_false hrim
      obtain ⟨k, rfl⟩ : ∃ j, k = j + 1 := by
        rcases en with z | z
        · exact absurd z hrim
        · exact ⟨k - 1, by omega⟩
      have eg' : bfsGo k (bRound F rim).1 (bRound F rim).2 = bfs t := by
        rw [← eg]
        show _ = if rim = [] then F else bfsGo k (bRound F rim).1 (bRound F rim).2
        rw [if_neg hrim]
      refine ⟨_, fun σ' H' hN => ⟨k, Nat.lt_succ_self k, hN⟩, ?_⟩
      -- later = {}
      have hW6 := hW.ext (Ext.new (T := T) (o := .lst []) nem)
      have fo6 := fo.mono (H' := upd H5 em (.lst [])) (VDM.kt (Ext.new (T := T) nem).kt)
      have hrs6 := (Ext.new (T := T) (o := .lst []) nem).lst hrs
      have hos6 := (Ext.new (T := T) (o := .lst []) nem).lst hos
      have pos6 := VTabs.kt pos (Ext.new (T := T) (o := .lst []) nem).kt
      generalize upd H5 em (.lst []) = H6 at e6 prs6 hW6 fo6 hrs6 hos6 pos6
      intro l H7 hL
      have e7 := e6.trans hL.ext
      have nl : H l = none := e6.free hL.1
      have hld : l ≠ d := fun z => hW6.dom (z ▸ hL.1)
      have hlr : l ≠ r := fun z => dom_of hrs6 (z ▸ hL.1)
      have hlo : l ≠ od := fun z => dom_of hos6 (z ▸ hL.1)
      have hrd : r ≠ d := hW6.neL hrs6
      have hod : od ≠ d := hW6.neL hos6
      refine ⟨_, rfl, r, rfl, ⟨rs, sql_new (hL.ext (T := T) |>.lst hrs6)⟩, ?_⟩
      have s7 : Sp1 P w H7 d r od l kvs [] rs os F [] rim done := ⟨hW6.ext (hL.ext (T := T)), fo6.mono (VDM.kt (hL.ext (T := T)).kt), hL.2.choose_spec.2, rfl, (hL.ext (T := T)).lst hrs6, VTabs.kt prs6 (hL.ext (T := T)).kt, (hL.ext (T := T)).lst hos6, VTabs.kt pos6 (hL.ext (T := T)).kt⟩
      clear hW6 fo6 hrs6 hos6 pos6 prs6 hW fo hrs prs hos pos
      refine for_it (walk_list (xs := rs)) (fun i σ H' => ∃ (y5 y6 : Option V) (kvs lk : List (Tab × V)) (os : List V), σ = [some (.ref a), some (.ref d), some (.ref r), some (.ref od), some (.ref l), y5, y6] ∧ Ext T H H' ∧
        Sp1 P w H' d r od l kvs lk rs os ((rim.take i).foldl bHere (F, [])).1 ((rim.take i).foldl bHere (F, [])).2 rim (done ++ rim.take i) ∧ BI n g t b (done ++ rim.take i) (rim.drop i) ((rim.take i).foldl bHere (F, [])))
        ⟨y5, y6, kvs, [], os, rfl, e7, by simpa using s7, by simpa using bi⟩ (fun i σ H' _ ⟨_, _, _, _, _, _, _, h, _⟩ => sql_new h.hr) (fun i x σ H8 H8' hi hP y => ?_) fun σ H8 hP => ?_
      · obtain ⟨y5, y6, kvs, lk, os, rfl, e8, s8, bi8⟩ := hP
        obtain ⟨rfl, hx⟩ := y
        obtain ⟨t1, ht1, ⟨ah, rfl, tabh⟩, hi1⟩ := paired_take s8.pr hx
        have few8 := bi8.few G sm
        have los : os.length ≤ 3000 := by
          rw [Paired.length s8.po]
          have := congrArg List.length bi8.keys
          rw [List.length_append, List.length_append] at this
          omega
        refine ⟨_, rfl, .inl ⟨rfl, _, sql_new s8.ho⟩, _, rfl, od, os, _, rfl, rfl, s8.ho, small_line (by omega), ?_⟩
        have s9 := s8.app hro ⟨ah, rfl, tabh⟩
        have e9 : Ext T H (upd H8' od (.lst (os ++ [.ref ah]))) := e8.mutL nod0 s8.ho
        have tab9 := tabh.kt (KT.mut (o' := .lst (os ++ [.ref ah])) s8.ho fun _ z => nomatch z)
        generalize upd H8' od (.lst (os ++ [.ref ah])) = H9 at s9 e9 tab9
        have hg1 := bi8.good t1 (by rw [bi8.keys, drop_of ht1]; simp)
        have bi9 := bi8
        rw [drop_of ht1] at bi9
        generalize hS : (rim.take i).foldl bHere (F, []) = S8 at s9 bi9
        refine ⟨_, rfl, ah, n, g, t1, rfl, tab9, hg1.1, sm, fun H10 pz zs e10 npz hpz pz10 => ⟨pz, rfl, ⟨zs, sql_new hpz⟩, ?_⟩⟩
        refine for_it (walk_list (xs := zs)) (fun j σ H' => ∃ (y6 : Option V) (kvs lk : List (Tab × V)), σ = [some (.ref a), some (.ref d), some (.ref r), some (.ref od), some (.ref l), some (.ref ah), y6] ∧ Ext T H H' ∧
          Sp1 P w H' d r od l kvs lk rs (os ++ [.ref ah]) (((nexts t1).take j).foldl (bIn t1) S8).1 (((nexts t1).take j).foldl (bIn t1) S8).2 rim (done ++ rim.take i ++ [t1]) ∧ BI n g t b (done ++ rim.take i) (t1 :: rim.drop (i + 1)) (((nexts t1).take j).foldl (bIn t1) S8) ∧
          H' pz = some (.lst zs) ∧ Paired (VTab H') zs (nexts t1) ∧ IsTab H' ah t1)
          ⟨y6, kvs, lk, rfl, e9.trans e10, by simpa using s9.ext e10, by simpa using bi9, hpz, pz10, e10.tab tab9⟩ (fun i σ H' _ ⟨_, _, _, _, _, _, _, h, _⟩ => sql_new h) (fun j x σ H11 H11' hj hP y => ?_) fun σ H11 hP => ?_
        · obtain ⟨y6, kvs, lk, rfl, e11, s11, bi11, hpz11, pz11, tab11⟩ := hP
          obtain ⟨rfl, hx⟩ := y
          obtain ⟨t2, ht2, ⟨at2, rfl, tabt⟩, hj1⟩ := paired_take pz11 hx
          have few11 := bi11.few G sm
          have m2 : t2 ∈ nexts t1 := List.mem_of_getElem? ht2
          have bi12 := (bIn_inv bi11 m2).1
          have hS2 := foldl_take (bIn t1) S8 ht2
          generalize ((nexts t1).take j).foldl (bIn t1) S8 = S11 at s11 bi11 few11 bi12 hS2
          refine ⟨_, rfl, _, rfl, d, at2, kvs, t2, rfl, rfl, s11.hW.n, tabt, !decide (t2 ∈ ks S11.1), by rw [if_pos rfl, val_isSome, s11.fo.keys], ?_⟩
          have lkv : kvs.length ≤ 3000 := by
            have := congrArg List.length s11.fo.keys
            rw [List.length_map] at this
            omega
          by_cases hin : t2 ∈ ks S11.1
          · rw [decide_eq_true hin]
            refine iteF ⟨some (.ref at2), kvs, lk, rfl, e11, ?_, ?_, hpz11, pz11, tab11⟩
            · rw [hS2, bIn_old hin]
              exact s11
            · rw [hS2]
              exact bi12
          · rw [decide_eq_false hin]
            refine iteT ?_
            have hk1 : t1 ∈ ks S11.1 := by rw [bi11.keys]; simp
            obtain ⟨v1, hv1, a1, rfl, ha1⟩ := s11.fo.val t1 hk1
            refine ⟨_, rfl, _, rfl, d, ah, kvs, t1, _, rfl, rfl, s11.hW.n, tab11, hv1, a1, _, 0, _, rfl, rfl, sqt_new ha1, rfl, _, _, rfl, rfl, Nat.le_of_lt (small_line (Nat.le_trans (Nat.le_refl 2) (by decide))), fun tp ntp => ?_⟩
            have eN : Ext T H11' (upd H11' tp (.tup [.int (dOf S11.1 t1 + 1), .int 0])) := .new ntp
            have vN : VDM (upd H11' tp (.tup [.int (dOf S11.1 t1 + 1), .int 0])) (.ref tp) (dOf S11.1 t1 + 1) 0 := ⟨tp, rfl, upd_same⟩
            refine ⟨_, rfl, _, rfl, d, at2, kvs, t2, rfl, rfl, s11.hW.ext eN, eN.tab tabt, small_line (by omega), fun o hWo => ?_⟩
            have s12 := (s11.ext eN).found hld hWo ((s11.ext eN).fo.snoc hin vN)
            have e12 : Ext T H (upd (upd H11' tp (.tup [.int (dOf S11.1 t1 + 1), .int 0])) d o) := (s11.hW.ext eN).mut (e11.trans eN) nd0
            have k12 : KT H11' (upd (upd H11' tp (.tup [.int (dOf S11.1 t1 + 1), .int 0])) d o) := eN.kt.trans (s11.hW.ext eN).ktm
            have hpz12 : (upd (upd H11' tp (.tup [.int (dOf S11.1 t1 + 1), .int 0])) d o) pz = some (.lst zs) := (upd_ne ((s11.hW.ext eN).neL (eN.lst hpz11))).trans (eN.lst hpz11)
            generalize upd (upd H11' tp (.tup [.int (dOf S11.1 t1 + 1), .int 0])) d o = H12 at s12 e12 k12 hpz12
            have llk : lk.length ≤ 3000 := by
              have h1 := congrArg List.length s11.lk
              have h2 := congrArg List.length bi11.keys
              rw [List.length_map] at h1
              rw [List.length_append, List.length_append] at h2
              omega
            refine ⟨_, rfl, _, rfl, l, at2, lk, t2, rfl, rfl, s12.hL, tabt.kt k12, small_line (by omega), fun o2 hLo => ?_⟩
            have s13 := s12.later (L' := S11.2 ++ [t2]) hld hLo (by
              rw [pk_keys, if_neg, s11.lk]
              rw [s11.lk]
              exact fun z => hin (by rw [bi11.keys]; simp [z]))
            have k13 := k12.trans (s12.hL.ktm (o := o2))
            refine ⟨some (.ref at2), putK kvs t2 (.ref tp), putK lk t2 (.bl true), rfl, s12.hL.mut e12 nl, ?_, ?_, (upd_ne (s12.hL.neL hpz12)).trans hpz12, VTabs.kt pz11 k13, tab11.kt k13⟩
            · rw [hS2, bIn_new hin]
              exact s13
            · rw [hS2]
              exact bi12
        · obtain ⟨y6, kvs, lk, rfl, e11, s11, bi11, hpz11, pz11, tab11⟩ := hP
          have lz : (nexts t1).take zs.length = nexts t1 := by rw [Paired.length pz11]; exact List.take_length
          rw [lz] at s11
          have hS2 : (rim.take (i + 1)).foldl bHere (F, []) = (nexts t1).foldl (bIn t1) S8 := by
            rw [foldl_take bHere _ ht1, hS]
            rfl
          have hB := bHere_inv bi9
          rw [List.append_assoc] at hB
          refine ⟨_, y6, kvs, lk, os ++ [.ref ah], rfl, e11, ?_, ?_⟩
          · rw [hS2, take_succ_of ht1, ← List.append_assoc]
            exact s11
          · rw [hS2, take_succ_of ht1]
            exact hB
      · obtain ⟨y5, y6, kvs, lk, os, rfl, e8, s8, bi8⟩ := hP
        have lr : rim.take rs.length = rim := by rw [Paired.length s8.pr]; exact List.take_length
        rw [lr] at s8
        have few8 := bi8.few G sm
        rw [lr] at few8
        change Sp1 P w H8 d r od l kvs lk rs os (bRound F rim).1 (bRound F rim).2 rim (done ++ rim) at s8
        change (ks (bRound F rim).1).length ≤ 3000 at few8
        obtain ⟨M, hM, eM, kM⟩ := s8.hL
        refine ⟨_, rfl, l, M, rfl, .inl hM, kM, fun p np => ?_⟩
        have eP : Ext T H8 (upd H8 p (.lst (M.map fun x => .ref x.2.1))) := .new np
        have lkv : kvs.length ≤ 3000 := by
          have := congrArg List.length s8.fo.keys
          rw [List.length_map] at this
          omega
        refine ⟨_, rfl, d, kvs, rfl, (s8.hW.ext eP).n, _, _, rfl, rfl, false, congrArg V.bl (decide_eq_false (by omega)), iteF ?_⟩
        refine ⟨p, some (.ref l), y5, y6, kvs, M.map fun x => .ref x.2.1, os, (bRound F rim).1, (bRound F rim).2, done ++ rim, b - 1, rfl, e8.trans eP, e8.free np, fun z => dom_of s8.ho (z ▸ np), s8.hW.ext eP, s8.fo.mono (VDM.kt eP.kt), upd_same, ?_, eP.lst s8.ho, VTabs.kt s8.po eP.kt, (bTurn_inv bi).1, en.turn bi hrim, eg'⟩
        have := dn_tabs fun x hx => eP.tab (kM x hx)
        rw [← s8.lk, eM, List.map_map]
        exact this
end
end K5
namespace K5
open PySem PySem.Spec PyProof.Rows L2 LamX RZ
section
variable {T : List (Addr × Str)} {P : Program} {w : World} {K : PySem.W.Frag} {mg : Str → Option Value} {base : Heap} {f : Addr} {fd : FuncData}
abbrev n_all_met : List Str := ["table"]
theorem sc_all_met : FnScope n_all_met ["table"] (defScope s_all_met) := ⟨rfl, rfl, rfl, by decide +kernel, rfl, by decide +kernel, by decide +kernel⟩
def spAllMet (T : List (Addr × Str)) : Sp := fun vs H Q _ => ∃ (a : Addr) (n g : Nat) (t : Tab), vs = [.ref a] ∧ TabOk H a n g t ∧ Tabs T H ∧ ∀ H' p zs, Ext T H H' → H p = none → H' p = some (.lst zs) → Paired (VTab H') zs ((ks (bfs t)).mergeSort tabLe) → Q (.ref p) H'
theorem ok_all_met (fr : Fr mg) (g_need_table : Kn P w K mg base "need_table" ["table"] 5 (spBadRow T .non)) (g_spread : Kn P w K mg base "spread" ["table"] 8 (spSpread P w T)) (F : FnP K "all_met" s_all_met f fd) :
    FnOk P w K mg base CX0 9 f fd ["table"] (spAllMet T) := by
  refine F.ok sc_all_met (fun vs H Q E h => ?_) (fun cdv A outer s H vs Q E hr h => ?_)
  · obtain ⟨a, n, g, t, rfl, _⟩ := h
    rfl
  · obtain ⟨a, n, g, t, rfl, tok, hT, q⟩ := h
    have nd := sc_all_met.nd
    have BO := bfs_ok tok.good
    refine ⟨_, (PSs.nox (pss_cons (ps_expr (pe_k g_need_table (hr.mono (by decide)) rfl (pa_cons (pv 0) pa_nil)))
      (pss_one (ps_ret (pe_callB (call_sortN rfl (hu66 hr)) rfl fr.sorted (by decide +kernel) (pa_cons (pe_k g_spread (hr.mono (by decide)) rfl (pa_cons (pv 0) pa_nil)) pa_nil)))))), ?_⟩
    refine ⟨_, rfl, a, n, g, t, rfl, tok, fun H1 e1 => ?_⟩
    refine ⟨_, rfl, a, n, g, t, rfl, tok.ext e1, e1.tabs hT, fun H2 d kvs e2 nd2 hW fo => ?_⟩
    obtain ⟨L, hL, rfl, kL⟩ := hW.n
    have eK : L.map (·.1) = ks (bfs t) := by
      have := fo.keys
      rw [List.map_map] at this
      exact this
    refine ⟨d, L, rfl, hL, kL, VTab H2, sd_tabs (dn_tabs kL) fun r hr z => ?_, fun p zs np pz => ?_⟩
    · rw [eK] at hr
      have h1 := (BO.good r hr).1.len
      have h2 := tok.small.1
      rw [z, List.length_nil] at h1
      omega
    · rw [eK] at pz
      have e3 := e1.trans e2
      exact q _ p zs (e3.add np) (e3.free np) upd_same (VTabs.kt pz (Ext.new (T := T) np).kt)
abbrev n_count_met : List Str := ["table"]
theorem sc_count_met : FnScope n_count_met ["table"] (defScope s_count_met) := ⟨rfl, rfl, rfl, by decide +kernel, rfl, by decide +kernel, by decide +kernel⟩
def spCountMet (T : List (Addr × Str)) : Sp := fun vs H Q _ => ∃ (a : Addr) (n g : Nat) (t : Tab), vs = [.ref a] ∧ TabOk H a n g t ∧ Tabs T H ∧ ∀ H', Ext T H H' → Q (.int (ks (bfs t)).length) H'
theorem ok_count_met (fr : Fr mg) (g_need_table : Kn P w K mg base "need_table" ["table"] 5 (spBadRow T .non)) (g_spread : Kn P w K mg base "spread" ["table"] 8 (spSpread P w T)) (F : FnP K "count_met" s_count_met f fd) :
    FnOk P w K mg base CX0 9 f fd ["table"] (spCountMet T) := by
  refine F.ok sc_count_met (fun vs H Q E h => ?_) (fun cdv A outer s H vs Q E hr h => ?_)
  · obtain ⟨a, n, g, t, rfl, _⟩ := h
    rfl
  · obtain ⟨a, n, g, t, rfl, tok, hT, q⟩ := h
    have nd := sc_count_met.nd
    refine ⟨_, (PSs.nox (pss_cons (ps_expr (pe_k g_need_table (hr.mono (by decide)) rfl (pa_cons (pv 0) pa_nil)))
      (pss_one (ps_ret (pe_callB call_nlen rfl fr.len (by decide +kernel) (pa_cons (pe_k g_spread (hr.mono (by decide)) rfl (pa_cons (pv 0) pa_nil)) pa_nil)))))), ?_⟩
    refine ⟨_, rfl, a, n, g, t, rfl, tok, fun H1 e1 => ?_⟩
    refine ⟨_, rfl, a, n, g, t, rfl, tok.ext e1, e1.tabs hT, fun H2 d kvs e2 nd2 hW fo => ?_⟩
    refine ⟨d, kvs, rfl, hW.n, ?_⟩
    have e : kvs.length = (ks (bfs t)).length := by
      have := congrArg List.length fo.keys
      rw [List.length_map] at this
      exact this
    rw [e]
    exact q _ (e1.trans e2)
/-- of two like tables -/
def spTwo (T : List (Addr × Str)) (R : Tab → Tab → V) : Sp := fun vs H Q _ => ∃ (a b : Addr) (n g : Nat) (t u : Tab), vs = [.ref a, .ref b] ∧ TabOk H a n g t ∧ TabOk H b n g u ∧ Tabs T H ∧ ∀ H', Ext T H H' → Q (R t u) H'
def rCanCome (t u : Tab) : V := .bl (decide (crowd u ∈ ks (bfs t)))
def rLeast (t u : Tab) : V := if crowd u ∈ ks (bfs t) then .int (dOf (bfs t) (crowd u)) else .non
def rMost (t u : Tab) : V := if crowd u ∈ ks (bfs t) then .int (mostOf t (crowd u)) else .non
abbrev n_can_come : List Str := ["one", "other"]
theorem sc_can_come : FnScope n_can_come ["one", "other"] (defScope s_can_come) := ⟨rfl, rfl, rfl, by decide +kernel, rfl, by decide +kernel, by decide +kernel⟩
theorem ok_can_come (fr : Fr mg) (g_need_like : Kn P w K mg base "need_like" ["one", "other"] 6 (spNeedLike T)) (g_crowd_of : Kn P w K mg base "crowd_of" ["table"] 1 (spCrowd T)) (g_spread : Kn P w K mg base "spread" ["table"] 8 (spSpread P w T))
    (F : FnP K "can_come" s_can_come f fd) : FnOk P w K mg base CX0 9 f fd ["one", "other"] (spTwo T rCanCome) := by
  refine F.ok sc_can_come (fun vs H Q E h => ?_) (fun cdv A outer s H vs Q E hr h => ?_)
  · obtain ⟨a, b, n, g, t, u, rfl, _⟩ := h
    rfl
  · obtain ⟨a, b, n, g, t, u, rfl, oa, ob, hT, q⟩ := h
    have nd := sc_can_come.nd
    refine ⟨_, (PSs.nox (pss_cons (ps_expr (pe_k g_need_like (hr.mono (by decide)) rfl (pa_cons (pv 0) (pa_cons (pv 1) pa_nil))))
      (pss_one (ps_ret (pe_cmp (pc_nin hr.units (pe_k g_crowd_of (hr.mono (by decide)) rfl (pa_cons (pv 1) pa_nil)) (pe_k g_spread (hr.mono (by decide)) rfl (pa_cons (pv 0) pa_nil))) rfl))))), ?_⟩
    refine ⟨_, rfl, _, rfl, a, b, n, g, t, u, rfl, oa, ob, fun H1 e1 => ?_⟩
    refine ⟨_, rfl, b, u, rfl, e1.tab ob.tab, good_ne ob.good ob.small.2.1, fun H2 pc e2 npc tc => ?_⟩
    have e12 := e1.trans e2
    refine ⟨_, rfl, a, n, g, t, rfl, oa.ext e12, e12.tabs hT, fun H3 d kvs e3 nd3 hW fo => ?_⟩
    refine ⟨d, pc, kvs, crowd u, rfl, rfl, hW.n, e3.tab tc, ?_⟩
    show Q (.bl (valV kvs (crowd u)).isSome) H3
    rw [val_isSome, fo.keys]
    exact q _ (e12.trans e3)
abbrev n_least_deeds : List Str := ["one", "other", "found"]
theorem sc_least_deeds : FnScope n_least_deeds ["one", "other"] (defScope s_least_deeds) := ⟨rfl, rfl, rfl, by decide +kernel, rfl, by decide +kernel, by decide +kernel⟩
theorem ok_least_deeds (fr : Fr mg) (g_need_like : Kn P w K mg base "need_like" ["one", "other"] 6 (spNeedLike T)) (g_crowd_of : Kn P w K mg base "crowd_of" ["table"] 1 (spCrowd T)) (g_spread : Kn P w K mg base "spread" ["table"] 8 (spSpread P w T))
    (F : FnP K "least_deeds" s_least_deeds f fd) : FnOk P w K mg base CX0 9 f fd ["one", "other"] (spTwo T rLeast) := by
  refine F.ok sc_least_deeds (fun vs H Q E h => ?_) (fun cdv A outer s H vs Q E hr h => ?_)
  · obtain ⟨a, b, n, g, t, u, rfl, _⟩ := h
    rfl
  · obtain ⟨a, b, n, g, t, u, rfl, oa, ob, hT, q⟩ := h
    have nd := sc_least_deeds.nd
    refine ⟨_, (PSs.nox (pss_cons (ps_expr (pe_k g_need_like (hr.mono (by decide)) rfl (pa_cons (pv 0) (pa_cons (pv 1) pa_nil))))
      (pss_cons (ps_set (i := 2) nd rfl (by first | exact .inl rfl | exact .inr rfl) (pe_nget1 hr.units (pe_k g_spread (hr.mono (by decide)) rfl (pa_cons (pv 0) pa_nil)) (pe_k g_crowd_of (hr.mono (by decide)) rfl (pa_cons (pv 1) pa_nil)) ⟨rfl, rfl, rfl, rfl⟩))
      (pss_one (ps_ret (pe_ifExp (pt_cmpR op_isN (pv 2) pe_non (nomark _)) pe_non (pe_ix ix_tup (pv 2) pe_int (fun _ _ => rfl)))))))), ?_⟩
    refine ⟨_, rfl, _, rfl, a, b, n, g, t, u, rfl, oa, ob, fun H1 e1 => ?_⟩
    refine ⟨_, rfl, a, n, g, t, rfl, oa.ext e1, e1.tabs hT, fun H2 d kvs e2 nd2 hW fo => ⟨d, kvs, rfl, hW.n, _, rfl, b, u, rfl, (e1.trans e2).tab ob.tab, good_ne ob.good ob.small.2.1, fun H3 pc e3 npc tc => ⟨pc, crowd u, rfl, (hW.ext e3).n, tc, ?_⟩⟩⟩
    have qq := q H3 ((e1.trans e2).trans e3)
    unfold rLeast at qq
    by_cases hin : crowd u ∈ ks (bfs t)
    · rw [if_pos hin] at qq
      obtain ⟨v, hv, av, rfl, hav⟩ := fo.val _ hin
      rw [hv]
      refine ⟨_, rfl, rfl, false, rfl, iteF ?_⟩
      exact ⟨_, rfl, _, _, 0, _, rfl, rfl, sqt_new (e3.tup hav), rfl, qq⟩
    · rw [if_neg hin] at qq
      rw [val_none (by rw [fo.keys]; exact hin)]
      exact ⟨_, rfl, rfl, true, rfl, iteT qq⟩
abbrev n_most_deeds : List Str := ["one", "other", "found"]
theorem sc_most_deeds : FnScope n_most_deeds ["one", "other"] (defScope s_most_deeds) := ⟨rfl, rfl, rfl, by decide +kernel, rfl, by decide +kernel, by decide +kernel⟩
theorem ok_most_deeds (fr : Fr mg) (g_need_like : Kn P w K mg base "need_like" ["one", "other"] 6 (spNeedLike T)) (g_crowd_of : Kn P w K mg base "crowd_of" ["table"] 1 (spCrowd T)) (g_spread : Kn P w K mg base "spread" ["table"] 8 (spSpread P w T))
    (F : FnP K "most_deeds" s_most_deeds f fd) : FnOk P w K mg base CX0 9 f fd ["one", "other"] (spTwo T rMost) := by
  refine F.ok sc_most_deeds (fun vs H Q E h => ?_) (fun cdv A outer s H vs Q E hr h => ?_)
  · obtain ⟨a, b, n, g, t, u, rfl, _⟩ := h
    rfl
  · obtain ⟨a, b, n, g, t, u, rfl, oa, ob, hT, q⟩ := h
    have nd := sc_most_deeds.nd
    refine ⟨_, (PSs.nox (pss_cons (ps_expr (pe_k g_need_like (hr.mono (by decide)) rfl (pa_cons (pv 0) (pa_cons (pv 1) pa_nil))))
      (pss_cons (ps_set (i := 2) nd rfl (by first | exact .inl rfl | exact .inr rfl) (pe_nget1 hr.units (pe_k g_spread (hr.mono (by decide)) rfl (pa_cons (pv 0) pa_nil)) (pe_k g_crowd_of (hr.mono (by decide)) rfl (pa_cons (pv 1) pa_nil)) ⟨rfl, rfl, rfl, rfl⟩))
      (pss_one (ps_ret (pe_ifExp (pt_cmpR op_isN (pv 2) pe_non (nomark _)) pe_non (pe_ix ix_tup (pv 2) pe_int (fun _ _ => rfl)))))))), ?_⟩
    refine ⟨_, rfl, _, rfl, a, b, n, g, t, u, rfl, oa, ob, fun H1 e1 => ?_⟩
    refine ⟨_, rfl, a, n, g, t, rfl, oa.ext e1, e1.tabs hT, fun H2 d kvs e2 nd2 hW fo => ⟨d, kvs, rfl, hW.n, _, rfl, b, u, rfl, (e1.trans e2).tab ob.tab, good_ne ob.good ob.small.2.1, fun H3 pc e3 npc tc => ⟨pc, crowd u, rfl, (hW.ext e3).n, tc, ?_⟩⟩⟩
    have qq := q H3 ((e1.trans e2).trans e3)
    unfold rMost at qq
    by_cases hin : crowd u ∈ ks (bfs t)
    · rw [if_pos hin] at qq
      obtain ⟨v, hv, av, rfl, hav⟩ := fo.val _ hin
      rw [hv]
      refine ⟨_, rfl, rfl, false, rfl, iteF ?_⟩
      exact ⟨_, rfl, _, _, 1, _, rfl, rfl, sqt_new (e3.tup hav), rfl, qq⟩
    · rw [if_neg hin] at qq
      rw [val_none (by rw [fo.keys]; exact hin)]
      exact ⟨_, rfl, rfl, true, rfl, iteT qq⟩
end
end K5
namespace K5
open PySem PySem.Spec PyProof.Rows PySem.W L2 LamX RZ

/-! ### rows of deeds -/
inductive Way (F : BF) : Tab → Tab → List Tab → Prop
  | one {x : Tab} (h : x ∈ ks F) : Way F x x [x]
  | step {x z y : Tab} {l : List Tab} (h : x ∈ ks F) (m : z ∈ nexts x) (e : dOf F z = dOf F x + 1) (r : Way F z y l) : Way F x y (x :: l)
section
variable {F : BF} {x y z : Tab} {l : List Tab}
theorem Way.len (h : Way F x y l) : l.length + dOf F x = dOf F y + 1 := by
  induction h with
  | one h => simp; omega
  | step h m e r ih =>
    rw [List.length_cons]
    omega
theorem Way.mem (h : Way F x y l) : ∀ a ∈ l, a ∈ ks F ∧ dOf F x ≤ dOf F a := by
  induction h with
  | one h =>
    intro a ha
    rw [List.mem_singleton.mp ha]
    exact ⟨h, Nat.le_refl _⟩
  | step h m e r ih =>
    intro a ha
    rcases List.mem_cons.mp ha with rfl | ha
    · exact ⟨h, Nat.le_refl _⟩
    · have := ih a ha
      exact ⟨this.1, by omega⟩
theorem Way.nd (h : Way F x y l) : l.Nodup := by
  induction h with
  | one h => simp
  | step h m e r ih =>
    refine List.nodup_cons.mpr ⟨fun z => ?_, ih⟩
    have := (r.mem _ z).2
    omega
theorem Way.few (h : Way F x y l) : l.length ≤ (ks F).length := List.Nodup.length_le_of_subset h.nd fun a ha => (h.mem a ha).1
theorem Way.head (h : Way F x y l) : l[0]? = some x := by cases h <;> rfl
theorem Way.pos (h : Way F x y l) : 0 < l.length := by cases h <;> simp
theorem Way.last (h : Way F x y l) : l[l.length - 1]? = some y := by
  induction h with
  | one h => rfl
  | step h m e r ih =>
    have := r.pos
    rw [List.length_cons, Nat.add_sub_cancel]
    rename_i l'
    obtain ⟨k, hk⟩ : ∃ k, l'.length = k + 1 := ⟨l'.length - 1, by omega⟩
    rw [hk, Nat.add_sub_cancel] at ih
    rw [hk, List.getElem?_cons_succ]
    exact ih
theorem Way.next (h : Way F x y l) : ∀ i a b, l[i]? = some a → l[i + 1]? = some b → b ∈ nexts a := by
  induction h with
  | one h =>
    intro i a b _ hb
    simp at hb
  | step h m e r ih =>
    intro i a b ha hb
    rw [List.getElem?_cons_succ] at hb
    cases i with
    | zero =>
      rw [List.getElem?_cons_zero] at ha
      obtain rfl := Option.some.inj ha
      rw [r.head] at hb
      obtain rfl := Option.some.inj hb
      exact m
    | succ i =>
      rw [List.getElem?_cons_succ] at ha
      exact ih i a b ha hb
end
/-- the last of what is paired -/
theorem paired_snoc {α β : Type} {R : α → β → Prop} : ∀ {as : List α} {bs : List β} {b : β}, Paired R as (bs ++ [b]) → ∃ as' a, as = as' ++ [a] ∧ Paired R as' bs ∧ R a b
  | [], bs, b, p => by
    have := Paired.length p
    simp at this
  | a :: as, [], b, p => by
    cases p with
    | cons p1 p2 =>
      cases p2
      exact ⟨[], a, rfl, .nil, p1⟩
  | a :: as, c :: bs, b, p => by
    cases p with
    | cons p1 p2 =>
      obtain ⟨as', a', rfl, q1, q2⟩ := paired_snoc (bs := bs) p2
      exact ⟨a :: as', a', rfl, .cons p1 q1, q2⟩
/-- a plain number -/
def VW (_ : Hp) (v : V) (_ m : Nat) : Prop := v = .int m
def flatF (S : List Tab) : BF := S.map fun x => (x, 0)
theorem ks_flat (S : List Tab) : ks (flatF S) = S := by
  unfold flatF ks
  rw [List.map_map]
  exact List.map_id _
theorem flat_snoc (S : List Tab) (x : Tab) : flatF (S ++ [x]) = flatF S ++ [(x, 0)] := by
  unfold flatF
  rw [List.map_append]
  rfl
section
variable {P : Program} {w : World} {T : List (Addr × Str)} {H H' : Hp} {d : Addr} {kvs : List (Tab × V)}
theorem DictN.kt (g : DictN P w H d kvs) (k : KT H H') (e : H' d = H d) : DictN P w H' d kvs := by
  obtain ⟨M, h, r, t⟩ := g
  refine ⟨M, ?_, r, fun y hy => (t y hy).kt k⟩
  unfold Rd at h ⊢
  rw [e]
  exact h
theorem DictN.dom (g : DictN P w H d kvs) : H d ≠ none := by
  obtain ⟨M, h | ⟨o, h⟩, _⟩ := g
  · exact dom_of h
  · exact dom_of h
theorem DictN.neL (g : DictN P w H d kvs) {l : Addr} {xs : List V} (h : H l = some (.lst xs)) : l ≠ d := fun z => by
  obtain ⟨M, h2 | ⟨o, h2⟩, _⟩ := g
  · rw [← z, h] at h2
    cases h2
  · rw [← z, h] at h2
    cases h2
theorem LockS.ne {u : HO} {o : Obj} {b : Addr} (h : LockS H d u o H') (n : b ≠ d) : H' b = H b := by
  rcases h with ⟨_, rfl⟩ | ⟨_, rfl⟩
  · rfl
  · exact upd_ne n
/-- as it stands, it is walked -/
theorem DictN.open (g : DictN P w H d kvs) : ∃ L : DnL, Rd H d (DnO P w d L) ∧ kvs = L.map (fun x => (x.1, x.2.2)) ∧ ∀ o H2, LockS H d (DnO P w d L) o H2 → DictN P w H2 d kvs ∧ H2 d = some (.frz o (DnO P w d L)) ∧ Paired (VTab H2) (L.map fun x => .ref x.2.1) (kvs.map (·.1)) ∧ KT H H2 := by
  obtain ⟨M, h, rfl, t⟩ := g
  refine ⟨M, h, rfl, fun o H2 lk => ?_⟩
  have kt : KT H H2 := lk.kt fun xs z => nomatch z
  have tt : ∀ x ∈ M, IsTab H2 x.2.1 x.1 := fun x hx => (t x hx).kt kt
  refine ⟨⟨M, .inr ⟨o, lk.at⟩, rfl, tt⟩, lk.at, ?_, kt⟩
  rw [List.map_map]
  exact dn_tabs tt
end
/-! ### tuples of tables as data -/
theorem shaped_tabT (t : List Tab) : SeqAt.shaped (.tuple (t.map tabD)) = true := by
  unfold SeqAt.shaped
  rw [Bool.and_eq_true, decide_eq_true_eq]
  refine ⟨by simp [PyData.canLay0, lay_tabs t], ?_⟩
  have := tabs_dep t
  simp only [PyData.depth]
  omega
theorem eqv_nilT (ts : List Tab) : PyData.eqv (.tuple (ts.map tabD)) (.tuple []) = decide (ts = []) := by
  cases ts <;> simp [PyData.eqv, PyData.eqvAll]
theorem any_tab (x : Tab) (l : List Tab) : ((l.map tabD).any fun z => PyData.eqv z (tabD x)) = decide (x ∈ l) := by
  induction l with
  | nil => simp
  | cons y l ih =>
    rw [List.map_cons, List.any_cons, ih, eqv_tab, Bool.eq_iff_iff]
    simp only [Bool.or_eq_true, decide_eq_true_eq, List.mem_cons]
    exact or_congr eq_comm Iff.rfl
theorem cut_tail (xs : List V) : cutV xs (some 1) none = xs.drop 1 := by
  unfold cutV
  cases xs with
  | nil => simp
  | cons x xs =>
    have h1 : HT.sIx (x :: xs).length 0 (some 1) = 1 := by
      unfold HT.sIx
      simp
    have h2 : HT.sIx (x :: xs).length (x :: xs).length none = (x :: xs).length := rfl
    rw [h1, h2, List.drop_succ_cons, List.drop_zero, List.length_cons, Nat.add_sub_cancel, List.take_length]
end K5
namespace K5
open PySem PySem.Spec PySem.W PyProof.Rows L2 LamX RZ
section
variable {X : Cx}
theorem ndc_core {pins : List (Addr × Obj)} {s : Shared} {σ : L2.St} {H : Hp} {Q : VK} {pos' : Pos} {use : Option (Value → Sem Unit)} {Qf : Value → Shared → Prop} {kx vx tg iter : Expr} {scope : Scope} {own : List (Str × Nat)} {pos : Pos} {wi : TI} {g : TG} {tk tv : TE} (hu : X.A.units + 64 < cLine) (hc : X.calm = true) (hN : X.N.Nodup) (hi : PI X tg iter wi) (ok : BlkOk X.N X.env.scope scope own)
    (hg : ∀ (s : Shared) (H : Hp) (C : Addr) (cl : List (Str × Addr)) (fp : List Addr), PG (X.blk s H scope (compEnvC scope cl C X.env) fp) tg g)
    (hk : ∀ (s : Shared) (H : Hp) (C : Addr) (cl : List (Str × Addr)) (fp : List Addr), PE (X.blk s H scope (compEnvC scope cl C X.env) fp) kx tk)
    (hv : ∀ (s : Shared) (H : Hp) (C : Addr) (cl : List (Str × Addr)) (fp : List Addr), PE (X.blk s H scope (compEnvC scope cl C X.env) fp) vx tv)
    (I : Inv X pins σ H s) (hs : ∀ x, foldedSetIterable iter X.env x = pure x) (h : tNc X.prog X.w wi g tk tv (own.map (·.2)) σ H Q)
    (hRR : ∀ D C s' m H', Inv X pins σ H' s' → Q (.ref D) H' → s'.heap.Ns C m → FpOk X pins H' C → compPost (model X.prog X.w) X.A X.xe use Qf (.ref D) C (.ok .next) s') :
    wpAny (model X.prog X.w) X.A (comprehension (.DictComp kx vx [⟨tg, iter, [], 0⟩] scope pos) scope X.env pos' newDict false (eval iter X.env) use) Qf X.xe s := by
  have hfree : ∀ y ∈ scope.names, y.2 = .free → ∃ c, X.env.cells.lookup y.1 = some c := fun y hy e => (ok.free y hy e).elim (fun k => I.ok.has _ (.inl k)) fun k => I.ok.has _ (.inr k)
  refine wpAny_comprehension_free (use := use) rfl hs (closure_ok hfree) ok.kind (fun y hy e => by rw [ok.uniq y hy, e]) (thn (hi.run pins s σ H _ I h) fun xv s1 hx => thn hx fun itv s2 ⟨it, fp, tn, J, H2, e, I2, T, st2, f2, q⟩ => ?_)
  subst e
  refine wpAny_newObj_type (newEnv_comp ?_)
  have nw := newD (P := X.prog) (w := X.w) (I2.hok.fresh (Nat.le_refl s2.heap.objs.size))
  have I3 := n_new I2
  obtain ⟨W, ⟨m0, w0⟩, turn⟩ := q _ _ nw
  generalize hD : s2.heap.objs.size = D at nw I3 turn w0
  generalize hH3 : upd H2 D (DnO X.prog X.w D []) = H3 at nw I3 w0
  have nwk : ∀ b, b ≠ D → H3 b = H2 b := fun b hb => by rw [← hH3, upd_ne hb]
  generalize hs3 : ({ s2 with heap := s2.heap.push { cls := .type "dict", data := .dict #[] } } : Shared) = s3 at I3
  have h3 : s3.heap = s2.heap.push { cls := .type "dict", data := .dict #[] } := by rw [← hs3]
  have f3 : ∀ b ∈ fp, FpOk X pins H3 b ∧ b < s3.heap.objs.size := fun b hb => by
    obtain ⟨ob, eb, _⟩ := T.obj _ _ st2 b hb
    have lt := Heap.lt_size eb
    exact ⟨⟨by rw [nwk b (by rw [← hD]; exact Nat.ne_of_lt lt)]; exact (f2 b hb).1, (f2 b hb).2⟩, by rw [h3, Heap.size_push]; exact Nat.lt_succ_of_lt lt⟩
  have nfp : ∀ b ∈ fp, H3 b = none := fun b hb => (f3 b hb).1.1
  have st3 : tn 0 s3.heap := T.keep _ _ _ st2 fun b _ o e => by rw [h3]; exact Heap.get?_push_of_some _ e
  have I4 := block_start I3 ok hN f3
  have pg := hg s3 H3 s3.heap.objs.size (cellsFrom (s3.heap.objs.size + 1) scope.names (cloFrom X.env.cells scope.names [])) fp
  have pk := hk s3 H3 s3.heap.objs.size (cellsFrom (s3.heap.objs.size + 1) scope.names (cloFrom X.env.cells scope.names [])) fp
  have pv := hv s3 H3 s3.heap.objs.size (cellsFrom (s3.heap.objs.size + 1) scope.names (cloFrom X.env.cells scope.names [])) fp
  show codeAny _ _ (.compStart (.DictComp kx vx [⟨tg, iter, [], 0⟩] scope pos) 0 (.ref it) (.ref D) (compEnvC scope (cellsFrom (s3.heap.objs.size + 1) scope.names (cloFrom X.env.cells scope.names [])) s3.heap.objs.size X.env))
    (compPost (model X.prog X.w) X.A X.xe use Qf (.ref D) s3.heap.objs.size) { s3 with heap := pushCells (s3.heap.push { cls := .type "dict", data := .dict #[] }) scope.names }
  generalize hce : compEnvC scope (cellsFrom (s3.heap.objs.size + 1) scope.names (cloFrom X.env.cells scope.names [])) s3.heap.objs.size X.env = ce at I4 pg pk pv ⊢
  have cL : ce.locals = s3.heap.objs.size := by subst hce; rfl
  generalize hs4 : ({ s3 with heap := pushCells (s3.heap.push { cls := .type "dict", data := .dict #[] }) scope.names } : Shared) = s4 at I4 ⊢
  have st4 : tn 0 s4.heap := T.keep _ _ _ st3 fun b _ o e => by rw [← hs4]; exact pushCells_keeps _ _ _ _ (Heap.get?_push_of_some _ e)
  generalize hY : X.blk s3 H3 scope ce fp = Y at I4 pg pk pv
  have eY : Y.prog = X.prog ∧ Y.w = X.w ∧ Y.K = X.K ∧ Y.calm = X.calm ∧ Y.A = X.A ∧ Y.env = ce := by subst hY; exact ⟨rfl, rfl, rfl, rfl, rfl, rfl⟩
  have stat : ∀ {σ' : L2.St} {H' : Hp} {s' : Shared}, Inv Y [] σ' H' s' → (∀ b ∈ fp, H' b = none) → ∀ b ∈ fp, FpOk Y [] H' b := by
    subst hY
    exact fun {σ' H' s'} I' hn b hb => ⟨hn b hb, (I'.ok.exf b hb).1, I'.ok.exfs b hb, .inl hb, fun x c e => (I'.ok.exf b hb).2 x c e, fun p hp => absurd (show p ∈ ([] : List (Addr × Obj)) ++ [] from hp) (by simp)⟩
  have back : ∀ {H5 : Hp} {s6 : Shared}, Inv Y [] (wipe σ (own.map (·.2))) H5 s6 → Q (.ref D) H5 → compPost (model X.prog X.w) X.A X.xe use Qf (.ref D) s3.heap.objs.size (.ok .next) s6 := by
    intro H5 s6 I6 qq
    subst hY
    have I7 : Inv X pins σ H5 s6 := I3.call' (ch := fp) I6.os I6.base I6.hok I6.bare fun b hb => ⟨(f3 b hb).1.2.2.2.1, (f3 b hb).1.2.1, (f3 b hb).1.2.2.2.2.1, (f3 b hb).1.2.2.2.2.2⟩
    have nC : H5 s3.heap.objs.size = none := by
      have z : H5 ce.locals = none := I6.free
      rw [cL] at z
      exact z
    obtain ⟨m, hn, _⟩ := I6.loc
    have hn : s6.heap.Ns ce.locals m := hn
    rw [cL] at hn
    exact hRR D s3.heap.objs.size s6 m H5 I7 qq hn (I3.fpOk (Nat.le_refl _) nC)
  obtain ⟨y1, y2, y3, y4, y5, y6⟩ := eY
  have loop : codeAny (model X.prog X.w) X.A (.compLoop (.DictComp kx vx [⟨tg, iter, [], 0⟩] scope pos) 0 (.ref it) (.ref D) ce) (compPost (model X.prog X.w) X.A X.xe use Qf (.ref D) s3.heap.objs.size) s4 := by
    refine compLoop_anyD (fun n s' => ∃ i H', Inv Y [] (wipe σ (own.map (·.2))) H' s' ∧ tn i s'.heap ∧ (∀ b ∈ fp, H' b = none) ∧ W i n H') ?_ m0 ⟨0, H3, I4, st4, nfp, w0⟩
    rintro n s5 ⟨i, H5, I5, st5, n5, w5⟩
    rcases turn i n H5 w5 with ⟨stop, qq⟩ | ⟨go, Nx, hNx, step⟩
    · have td := T.done Y y1 y2 y3 (y4.trans hc) i [] s5 _ H5 (fun _ _ => False) I5 (stat I5 n5) st5 stop
      rw [y5] at td
      exact thnF td fun r s6 ⟨hr, I6⟩ => by
        subst hr
        exact back I6 qq
    · have ti := T.item Y y1 y2 y3 (y4.trans hc) i [] s5 _ H5 (fun _ _ => False) I5 (stat I5 n5) st5 go
      rw [y5] at ti
      refine thnF ti fun r s6 ⟨u, hr, h6⟩ => ?_
      subst hr
      refine thnF h6 fun _ s7 ⟨x, H7, I7, r7, y7, st7, n7⟩ => ?_
      have J7 := I7.pinned (stat I7 n7) (T.obj _ _ st7)
      have fin : ∀ {σ8 : L2.St} {s' : Shared} {H' : Hp}, wipe σ8 (own.map (·.2)) = wipe σ (own.map (·.2)) → Inv Y ([] ++ pinsAt fp s7.heap) σ8 H' s' → Nx H' →
          ∃ m, m < n ∧ ∃ i H', Inv Y [] (wipe σ (own.map (·.2))) H' s' ∧ tn i s'.heap ∧ (∀ b ∈ fp, H' b = none) ∧ W i m H' := fun {σ8 s' H'} hw I' nx => by
        obtain ⟨m', hm, w'⟩ := hNx H' nx
        have pin' : ∀ b ∈ fp, ∀ o, s7.heap.get? b = some o → s'.heap.get? b = some o ∧ H' b = none := fun b hb o e =>
          have z := I'.pin (b, o) (List.mem_append_right _ (List.mem_append_right _ (mem_pinsAt hb e)))
          ⟨z.1, z.2.1⟩
        refine ⟨m', hm, i + 1, H', (I'.unpinned (pins := [])).weak (by rw [← hw, wipe_length]) (fun j v e => ?_), T.keep _ _ _ st7 fun b hb o e => (pin' b hb o e).1, fun b hb => ?_, w'⟩
        · rw [← hw] at e
          exact (wipe_some e).1
        · obtain ⟨o, e, _⟩ := T.obj _ _ st7 b hb
          exact (pin' b hb o e).2
      have nox : Y.xe = fun _ _ => False := by subst hY; rfl
      have rg := pg.run _ s7 _ H7 x u _ J7 r7 (step x H7 y7)
      rw [y1, y2, y5, y6, nox] at rg
      refine thnF rg fun _ s8 ⟨σ8, H8, I8, hw8, q8⟩ => wpAny_tests_nil ?_
      simp only [if_true]
      have rk := pk.run _ s8 σ8 H8 _ I8 q8
      rw [y1, y2, y5, y6, nox] at rk
      refine thnF rk fun z s9 ⟨yk, H9, I9, r9, q9⟩ => ?_
      have rv := pv.run _ s9 σ8 H9 _ I9 q9
      rw [y1, y2, y5, y6, nox] at rv
      refine thnF rv fun z2 s10 ⟨yv, H10, I10, r10, a, t, kvs, ek, ht, hd, hz, nx⟩ => ?_
      subst ek
      obtain rfl : z = Value.ref a := r9
      have put := n_dictSet (A := X.A) (E := fun _ _ => False) (Q := fun _ s' => ∃ m, m < n ∧ ∃ i H', Inv Y [] (wipe σ (own.map (·.2))) H' s' ∧ tn i s'.heap ∧ (∀ b ∈ fp, H' b = none) ∧ W i m H') hu I10 (by rw [y1, y2]; exact hd) ht hz r10
        fun o s11 D11 I11 => fin hw8 I11 (nx o (by rw [y1, y2] at D11; exact D11))
      rw [y1, y2] at put
      exact thnF put fun _ _ z => z
  exact codeAny_compStart_dict loop (T.self X.A 0 _ _ _ st4 loop)

/-- name = {k: v for ..} on one line, the name a local -/
theorem ps_setNdc {i : Nat} {y : Str} {py spos : Pos} {kx vx tg iter : Expr} {scope : Scope} {own : List (Str × Nat)} {pos : Pos} {wi : TI} {g : TG} {tk tv : TE} (hy : X.N[i]? = some y) (hyl : X.env.scope.names.lookup y = some .local) (hsw : swapsWith (.DictComp kx vx [⟨tg, iter, [], 0⟩] scope pos) (some (.Name y py)) spos.line X.env = pure true) (hu : X.A.units + 64 < cLine) (hc : X.calm = true) (hN : X.N.Nodup) (hi : PI X tg iter wi) (ok : BlkOk X.N X.env.scope scope own)
    (hg : ∀ (s : Shared) (H : Hp) (C : Addr) (cl : List (Str × Addr)) (fp : List Addr), PG (X.blk s H scope (compEnvC scope cl C X.env) fp) tg g)
    (hk : ∀ (s : Shared) (H : Hp) (C : Addr) (cl : List (Str × Addr)) (fp : List Addr), PE (X.blk s H scope (compEnvC scope cl C X.env) fp) kx tk)
    (hv : ∀ (s : Shared) (H : Hp) (C : Addr) (cl : List (Str × Addr)) (fp : List Addr), PE (X.blk s H scope (compEnvC scope cl C X.env) fp) vx tv) (hs : ∀ x, foldedSetIterable iter X.env x = pure x := by intro _; rfl) :
    PS X (.Assign [.Name y py] (.DictComp kx vx [⟨tg, iter, [], 0⟩] scope pos) spos) (tAsg (tNc X.prog X.w wi g tk tv (own.map (·.2))) (gName i)) := by
  refine ⟨fun pins s σ H D I h => ?_⟩
  rw [exec_Assign_Name_used _ _ _ _ hsw]
  refine wpAny_bind (wpAny_standAt (wpAny_bind ?_))
  show wpAny _ X.A (do let _ ← comprehension (.DictComp kx vx [⟨tg, iter, [], 0⟩] scope pos) scope X.env (firstIterPos [⟨tg, iter, [], 0⟩] pos) newDict false (eval iter X.env) (some (assign (.Name y py) X.env))) _ _ s
  have h : tNc X.prog X.w wi g tk tv (own.map (·.2)) σ H (fun x H1 => gName i x σ H1 D.nx) := h
  refine wpAny_bind (thn (ndc_core (Qf := fun _ s' => SP X pins D .next s') hu hc hN hi ok hg hk hv I hs h fun L C s' m H' I' q hn f => ?_) fun _ s' hq => wpAny_pure (wpAny_pure hq))
  show wpAny _ _ (assign (.Name y py) X.env (.ref L)) _ _ _
  refine wpAny_assign_Name (store_ok2 (v := V.ref L) I' hN hy (.inl hyl) rfl (fun s2 I2 ⟨a, sb, ha⟩ => ?_) (.inr hyl))
  obtain ⟨f0, f1, f2, f3, f4, f5⟩ := f
  have haC : C ≠ a := by
    rcases ha with z | z
    · rw [z]; exact f1
    · exact fun e => f4 y a z e.symm
  refine ⟨m, hn.sameBut sb haC, fun h3 sb3 => ?_⟩
  exact ⟨_, H', I2.turned (t' := s2.toks) (fun b o hb e => (sb3.2 b hb).trans e) f0 f1 f3 f4 f5, q⟩
theorem sw_trueD {kx vx : Expr} {gs : List Comprehension} {scope : Scope} {pos py : Pos} {y : Str} {l : Nat} {env : Env} (hk : env.scope.kind = .function) (hy : env.scope.names.lookup y = some .local) (hl : (py.line == pos.line) = true)
    (ha : (scope.names.any fun (n, k) => n == y && (k == .local || k == .cell)) = false) : swapsWith (.DictComp kx vx gs scope pos) (some (.Name y py)) l env = pure true := by
  have ky : env.kindOf y = some .local := hy
  have hb : env.blockKind = .function := by unfold Env.blockKind; rw [hk]; rfl
  unfold swapsWith
  simp only [hb, ky, ha, Expr.pos, hl]
  rfl
end
end K5
namespace K5
open PySem PySem.Spec PyProof.Rows L2 LamX RZ
section
variable {T : List (Addr × Str)} {P : Program} {w : World} {K : PySem.W.Frag} {mg : Str → Option Value} {base : Heap} {f c Pc : Addr} {fd : FuncData}
abbrev n_count_ways : List Str := ["one", "other", "known", "ways", "told", "here"]
theorem sc_count_ways : FnScope n_count_ways ["one", "other"] (defScope s_count_ways) := ⟨rfl, rfl, rfl, by decide +kernel, rfl, by decide +kernel, by decide +kernel⟩
def rWays (t u : Tab) : V := .int (if crowd u ∈ ks (bfs t) then waysOf t (crowd u) else 0 : Nat)
theorem ok_count_ways (fr : Fr mg) (g_need_like : Kn P w K mg base "need_like" ["one", "other"] 6 (spNeedLike T)) (g_odds_of : Kn P w K mg base "odds_of" ["table"] 3 (spOdds T)) (g_crowd_of : Kn P w K mg base "crowd_of" ["table"] 1 (spCrowd T)) (g_nexts_of : Kn P w K mg base "nexts_of" ["table"] 4 (spNexts T))
    (g_spread : Kn P w K mg base "spread" ["table"] 8 (spSpread P w T))
    (TB : TabB base mg c Pc) (hmT : (Pc, lamQ "count_ways") ∈ T) (huT : ∀ p ∈ T, p.1 = Pc → p.2 = lamQ "count_ways") (F : FnP K "count_ways" s_count_ways f fd) (hc : fd.code = .ref c) : FnOk P w K mg base CX0 12 f fd ["one", "other"] (spTwo T rWays) := by
  refine okC F hc sc_count_ways (fun vs H Q E h => ?_) (fun A outer s H vs Q E hr h => ?_)
  · obtain ⟨a, b, n, g, t, u, rfl, _⟩ := h
    rfl
  · obtain ⟨a, b, n, g, t, u, rfl, oa, ob, hT, q⟩ := h
    have nd := sc_count_ways.nd
    have G := oa.good
    have sm := oa.small
    have z2 : 1 ≤ g := sm.2.1
    have BO := bfs_ok G
    have n5 : n ≤ 100 ∧ g ≤ 100 := by
      obtain ⟨_, _, z⟩ := sm
      omega
    have few8 : (ks (bfs t)).length ≤ 3000 := few sm G BO.nd BO.good
    have few9 : (ordK (ks (bfs t))).length ≤ 3000 := by rw [(ordK_perm _).length_eq]; exact few8
    have ndK : (ordK (ks (bfs t))).Nodup := (ordK_perm _).nodup_iff.mpr BO.nd
    have mK : ∀ x, x ∈ ordK (ks (bfs t)) ↔ x ∈ ks (bfs t) := fun x => (ordK_perm _).mem_iff
    refine ⟨_, (PSs.nox (pss_cons (ps_expr (pe_k g_need_like (hr.mono (by decide)) rfl (pa_cons (pv 0) (pa_cons (pv 1) pa_nil))))
      (pss_cons (ps_set (i := 2) nd rfl (by first | exact .inl rfl | exact .inr rfl) (pe_sortk2 (T := T) (k := 3) (N := ["told"]) (hr.mono (by decide)) TB hmT huT (by exact ⟨rfl, rfl, rfl, by decide +kernel, rfl, by decide +kernel, by decide +kernel⟩) fr.sorted (pe_k g_spread (hr.mono (by decide)) rfl (pa_cons (pv 0) pa_nil)) rfl rfl rfl (by intros; rfl) rfl))
      (pss_cons (ps_setNdc (i := 3) (g := (gName 4)) rfl rfl (sw_trueD rfl rfl rfl (by decide +kernel)) hr.units rfl nd (pi_list (pv 2)) (blkOk_by (N := n_count_ways) (own := [("told", 4)]) (sc := (defScope s_count_ways)) (by decide +kernel)) (fun _ _ _ _ _ => (pg_name (i := 4) nd rfl (by first | exact .inl rfl | exact .inr rfl))) (fun _ _ _ _ _ => (pv 4)) (fun _ _ _ _ _ => pe_int))
      (pss_cons (ps_nput hr.units (pv 3) (pe_k g_crowd_of (hr.mono (by decide)) rfl (pa_cons (pv 0) pa_nil)) pe_int rfl)
      (pss_cons (ps_for PassesOwn.never rfl (pi_list (pv 2)) (pg_name (i := 5) nd rfl (by first | exact .inl rfl | exact .inr rfl))
      (pss_one (ps_for PassesOwn.never rfl (pi_list (pe_k g_nexts_of (hr.mono (by decide)) rfl (pa_cons (pv 5) pa_nil))) (pg_name (i := 4) nd rfl (by first | exact .inl rfl | exact .inr rfl))
      (pss_one (ps_naug hr.units (pv 3) (pv 4) (pe_nget hr.units (pv 3) (pv 5) (fun _ _ => rfl)) (fun _ _ _ => rfl))))))
      (pss_one (ps_ret (pe_nget2 hr.units (pv 3) (pe_k g_crowd_of (hr.mono (by decide)) rfl (pa_cons (pv 1) pa_nil)) pe_int ⟨rfl, rfl, rfl, rfl⟩))))))))), ?_⟩
    refine ⟨_, rfl, _, rfl, a, b, n, g, t, u, rfl, oa, ob, fun H1 e1 => ?_⟩
    refine ⟨_, rfl, a, n, g, t, rfl, oa.ext e1, e1.tabs hT, fun H2 d0 kvs0 e2 nd2 hW0 fo0 => ?_⟩
    obtain ⟨L, hL, rfl, kL⟩ := hW0
    have eK : L.map (·.1) = ks (bfs t) := by
      have := fo0.keys
      rw [List.map_map] at this
      exact this
    have pL : Paired (VTab H2) (L.map fun x => V.ref x.2.1) (ks (bfs t)) := eK ▸ dn_tabs kL
    refine ⟨d0, _, Tab, ks (bfs t), VTab H2, negO, rfl, .inr ⟨L, .inl hL, kL, rfl⟩, (e1.trans e2).tabs hT, pL, fun f' c' A' s' H' y tb hb hy e hr' => ?_, fun p zs H3 np e3 pz hz => ?_⟩
    · obtain ⟨ab, rfl, tb'⟩ := hy
      refine ⟨_, pe_un un_neg (pe_callB call_len_seq rfl fr.len (by decide +kernel) (pa_cons (pe_k g_odds_of hr' rfl (pa_cons (pv 0) pa_nil)) pa_nil)), fun Q' hq => ?_⟩
      refine ⟨_, rfl, ab, n, g, tb, rfl, e.tab tb', (BO.good tb hb).1, n5.1, n5.2, fun H'' p ps e2 np hp pp => ⟨p, ps, rfl, .inl (sql_new hp), _, rfl, ?_⟩⟩
      have en : (-(ps.length : Int)) = negO tb := by
        unfold negO
        rw [Paired.length pp]
        omega
      show Q' (.int (-(ps.length : Int))) H''
      rw [en]
      exact hq H'' e2
    -- known is at p
    change Paired (VTab H2) zs (ordK (ks (bfs t))) at pz
    have e13 := (e1.trans e2).trans e3
    have pz3 := VTabs.kt pz e3.kt
    have np0 : H p = none := (e1.trans e2).free np
    have lz := Paired.length pz3
    clear fo0
    refine ⟨_, rfl, p, rfl, ⟨zs, sql_new hz⟩, fun D H4 hD => ?_⟩
    have nD : H D = none := e13.free hD.1
    refine nc_it (P := P) (w := w) (walk_list (xs := zs)) (fun i H5 => ∃ kvs, Ext T H3 H5 ∧ DictW P w H5 D kvs ∧ FO VW H5 kvs (flatF ((ordK (ks (bfs t))).take i)) fun _ => 0) ⟨[], hD.ext, hD.2.choose_spec.2, rfl, fun _ z => nomatch z⟩ (fun i H5 _ ⟨_, e, _⟩ => sql_new (e.lst hz))
      (fun i x H5 H5' hi ⟨kvs, e5, hW, fo⟩ y => ?_) fun H5 ⟨kvs, e5, hW, fo⟩ => ?_
    · obtain ⟨rfl, hx⟩ := y
      obtain ⟨t1, ht1, ⟨ah, rfl, tabh⟩, hi1⟩ := paired_take pz3 hx
      have lkv : kvs.length ≤ 3000 := by
        have := congrArg List.length fo.keys
        rw [List.length_map, ks_flat, List.length_take] at this
        omega
      have hn : t1 ∉ ks (flatF ((ordK (ks (bfs t))).take i)) := by
        rw [ks_flat]
        intro z
        have := take_succ_of ht1
        have nd1 : ((ordK (ks (bfs t))).take (i + 1)).Nodup := ndK.sublist (List.take_sublist _ _)
        rw [this, List.nodup_append] at nd1
        exact nd1.2.2 t1 z t1 (by simp) rfl
      refine ⟨rfl, _, rfl, ah, t1, kvs, rfl, e5.tab tabh, hW, small_line (by omega), fun o hWo => ⟨_, hW.mut e5 hD.1, hWo, ?_⟩⟩
      rw [take_succ_of ht1, flat_snoc]
      exact (fo.snoc (v := .int 0) (e := 0) hn rfl).mono fun _ _ _ h => h
    -- ways is at D
    have lt : (ordK (ks (bfs t))).take zs.length = ordK (ks (bfs t)) := by rw [lz]; exact List.take_length
    rw [lt] at fo
    have e05 := e13.trans e5
    have lkv : kvs.length ≤ 3000 := by
      have := congrArg List.length fo.keys
      rw [List.length_map, ks_flat] at this
      omega
    refine ⟨_, rfl, _, rfl, a, t, rfl, e05.tab oa.tab, good_ne G z2, fun H6 pc e6 npc tc => ⟨D, pc, kvs, crowd t, rfl, rfl, hW.ext e6, tc, small_line (by omega), fun o hWo => ?_⟩⟩
    have e06 := e05.trans e6
    have hkt : crowd t ∈ ks (flatF (ordK (ks (bfs t)))) := by rw [ks_flat, mK]; exact BO.st
    have fo6 : FO VW (upd H6 D o) (putK kvs (crowd t) (.int 1)) (flatF (ordK (ks (bfs t)))) fun x => if x = crowd t then 1 else 0 := (fo.put (v := .int 1) (b := 1) hkt rfl).mono fun _ _ _ h => h
    have e07 : Ext T H (upd H6 D o) := (hW.ext e6).mut e06 nD
    have hz7 : (upd H6 D o) p = some (.lst zs) := (upd_ne ((hW.ext e6).neL ((e5.trans e6).lst hz))).trans ((e5.trans e6).lst hz)
    have pz7 : Paired (VTab (upd H6 D o)) zs (ordK (ks (bfs t))) := VTabs.kt pz3 ((e5.trans e6).kt.trans (hW.ext e6).ktm)
    generalize upd H6 D o = H7 at hWo fo6 e07 hz7 pz7
    generalize putK kvs (crowd t) (.int 1) = kvs7 at hWo fo6
    refine ⟨_, rfl, p, rfl, ⟨zs, sql_new hz7⟩, ?_⟩
    refine for_it (walk_list (xs := zs)) (fun i σ H' => ∃ (y4 y5 : Option V) (kvs : List (Tab × V)), σ = [some (.ref a), some (.ref b), some (.ref p), some (.ref D), y4, y5] ∧ Ext T H H' ∧ DictW P w H' D kvs ∧ FO VW H' kvs (flatF (ordK (ks (bfs t)))) (runF opW (fun x => if x = crowd t then 1 else 0) ((ordK (ks (bfs t))).take i)) ∧
      H' p = some (.lst zs) ∧ Paired (VTab H') zs (ordK (ks (bfs t)))) ⟨none, none, kvs7, rfl, e07, hWo, fo6, hz7, pz7⟩ (fun i σ H' _ ⟨_, _, _, _, _, _, _, h, _⟩ => sql_new h) (fun i x σ H8 H8' hi hP y => ?_) fun σ H8 hP => ?_
    · obtain ⟨y4, y5, kvs, rfl, e8, hW8, fo8, hz8, pz8⟩ := hP
      obtain ⟨rfl, hx⟩ := y
      obtain ⟨t1, ht1, ⟨ah, rfl, tabh⟩, hi1⟩ := paired_take pz8 hx
      have hk1 : t1 ∈ ks (bfs t) := (mK _).mp (List.mem_of_getElem? ht1)
      have hm1 := foldl_take (accF opW) (fun x => if x = crowd t then 1 else 0) ht1
      change runF opW (fun x => if x = crowd t then 1 else 0) ((ordK (ks (bfs t))).take (i + 1)) = accF opW (runF opW (fun x => if x = crowd t then 1 else 0) ((ordK (ks (bfs t))).take i)) t1 at hm1
      generalize runF opW (fun x => if x = crowd t then 1 else 0) ((ordK (ks (bfs t))).take i) = m8 at fo8 hm1
      refine ⟨_, rfl, ah, n, g, t1, rfl, tabh, (BO.good t1 hk1).1, sm, fun H10 pz2 zs2 e10 npz hpz pz10 => ⟨pz2, rfl, ⟨zs2, sql_new hpz⟩, ?_⟩⟩
      refine for_it (walk_list (xs := zs2)) (fun j σ H' => ∃ (y4 : Option V) (kvs : List (Tab × V)), σ = [some (.ref a), some (.ref b), some (.ref p), some (.ref D), y4, some (.ref ah)] ∧ Ext T H H' ∧ DictW P w H' D kvs ∧ FO VW H' kvs (flatF (ordK (ks (bfs t)))) (((nexts t1).take j).foldl (stepF opW t1) m8) ∧
        H' p = some (.lst zs) ∧ Paired (VTab H') zs (ordK (ks (bfs t))) ∧ H' pz2 = some (.lst zs2) ∧ Paired (VTab H') zs2 (nexts t1) ∧ IsTab H' ah t1) ⟨y4, kvs, rfl, e8.trans e10, hW8.ext e10, by simpa using fo8.mono (H' := H10) (fun _ _ _ h => h), e10.lst hz8, VTabs.kt pz8 e10.kt, hpz, pz10, e10.tab tabh⟩ (fun i σ H' _ ⟨_, _, _, _, _, _, _, _, h, _⟩ => sql_new h) (fun j x σ H11 H11' hj hP y => ?_) fun σ H11 hP => ?_
      · obtain ⟨y4, kvs, rfl, e11, hW11, fo11, hz11, pz11, hpz11, pq11, tab11⟩ := hP
        obtain ⟨rfl, hx⟩ := y
        obtain ⟨t2, ht2, ⟨at2, rfl, tabt⟩, hj1⟩ := paired_take pq11 hx
        have m2 : t2 ∈ nexts t1 := List.mem_of_getElem? ht2
        have hk2 : t2 ∈ ks (bfs t) := BO.clo t1 hk1 t2 m2
        have hS2 := foldl_take (stepF opW t1) m8 ht2
        generalize ((nexts t1).take j).foldl (stepF opW t1) m8 = m11 at fo11 hS2
        have hf1 : t1 ∈ ks (flatF (ordK (ks (bfs t)))) := by rw [ks_flat, mK]; exact hk1
        have hf2 : t2 ∈ ks (flatF (ordK (ks (bfs t)))) := by rw [ks_flat, mK]; exact hk2
        obtain ⟨v1, hv1, rfl⟩ := fo11.val t1 hf1
        obtain ⟨v2, hv2, rfl⟩ := fo11.val t2 hf2
        have lkv : kvs.length ≤ 3000 := by
          have := congrArg List.length fo11.keys
          rw [List.length_map, ks_flat] at this
          omega
        refine ⟨_, rfl, _, rfl, D, at2, kvs, t2, _, rfl, rfl, hW11.n, tabt, hv2, ?_⟩
        refine ⟨_, rfl, _, rfl, D, ah, kvs, t1, _, rfl, rfl, hW11.n, tab11, hv1, ?_⟩
        refine ⟨_, rfl, hW11, tabt, small_line (by omega), fun o hWo => ?_⟩
        have k13 : KT H11' (upd H11' D o) := hW11.ktm
        refine ⟨some (.ref at2), _, rfl, hW11.mut e11 nD, hWo, ?_, (upd_ne (hW11.neL hz11)).trans hz11, VTabs.kt pz11 k13, (upd_ne (hW11.neL hpz11)).trans hpz11, VTabs.kt pq11 k13, tab11.kt k13⟩
        rw [hS2]
        have eW : ((m11 t2 : Int) + (m11 t1 : Int)) = ((opW (m11 t2) (m11 t1) : Nat) : Int) := by
          unfold opW
          omega
        rw [eW]
        exact (fo11.put (b := opW (m11 t2) (m11 t1)) hf2 rfl).mono fun _ _ _ h => h
      · obtain ⟨y4, kvs, rfl, e11, hW11, fo11, hz11, pz11, hpz11, pq11, tab11⟩ := hP
        have lz : (nexts t1).take zs2.length = nexts t1 := by rw [Paired.length pq11]; exact List.take_length
        rw [lz] at fo11
        refine ⟨y4, _, kvs, rfl, e11, hW11, ?_, hz11, pz11⟩
        rw [hm1]
        exact fo11
    · obtain ⟨y4, y5, kvs, rfl, e8, hW8, fo8, hz8, pz8⟩ := hP
      rw [lt] at fo8
      change FO VW H8 kvs (flatF (ordK (ks (bfs t)))) (waysOf t) at fo8
      refine ⟨_, rfl, D, kvs, rfl, hW8.n, _, rfl, b, u, rfl, e8.tab ob.tab, good_ne ob.good z2, fun H9 pc e9 npc tc => ⟨pc, crowd u, rfl, (hW8.ext e9).n, tc, ?_⟩⟩
      have qq := q H9 (e8.trans e9)
      unfold rWays at qq
      by_cases hin : crowd u ∈ ks (bfs t)
      · rw [if_pos hin] at qq
        obtain ⟨v, hv, rfl⟩ := fo8.val (crowd u) (by rw [ks_flat, mK]; exact hin)
        rw [hv]
        exact qq
      · rw [if_neg hin] at qq
        rw [val_none (by rw [fo8.keys, ks_flat, mK]; exact hin)]
        exact qq
end
end K5
namespace K5
open PySem PySem.Spec PyProof.Rows L2 LamX RZ
section
variable {T : List (Addr × Str)} {P : Program} {w : World} {K : PySem.W.Frag} {mg : Str → Option Value} {base : Heap} {f : Addr} {fd : FuncData}
abbrev n_way : List Str := ["one", "other", "far", "found", "here", "befores", "told"]
theorem sc_way : FnScope n_way ["one", "other"] (defScope s_way) := ⟨rfl, rfl, rfl, by decide +kernel, rfl, by decide +kernel, by decide +kernel⟩
/-- none, or a row of deeds -/
def spWay (T : List (Addr × Str)) : Sp := fun vs H Q _ => ∃ (a b : Addr) (n g : Nat) (t u : Tab), vs = [.ref a, .ref b] ∧ TabOk H a n g t ∧ TabOk H b n g u ∧ Tabs T H ∧
  (crowd u ∉ ks (bfs t) → ∀ H', Ext T H H' → Q .non H') ∧ (crowd u ∈ ks (bfs t) → ∀ H' p xs l, Ext T H H' → H p = none → H' p = some (.tup xs) → Paired (VTab H') xs l → Way (bfs t) (crowd t) (crowd u) l → Q (.ref p) H')
theorem ok_way (fr : Fr mg) (g_need_like : Kn P w K mg base "need_like" ["one", "other"] 6 (spNeedLike T)) (g_crowd_of : Kn P w K mg base "crowd_of" ["table"] 1 (spCrowd T)) (g_nexts_of : Kn P w K mg base "nexts_of" ["table"] 4 (spNexts T))
    (g_spread : Kn P w K mg base "spread" ["table"] 8 (spSpread P w T)) (F : FnP K "way" s_way f fd) : FnOk P w K mg base CX0 9 f fd ["one", "other"] (spWay T) := by
  refine F.ok sc_way (fun vs H Q E h => ?_) (fun cdv A outer s H vs Q E hr h => ?_)
  · obtain ⟨a, b, n, g, t, u, rfl, _⟩ := h
    rfl
  · obtain ⟨a, b, n, g, t, u, rfl, oa, ob, hT, q1, q2⟩ := h
    have nd := sc_way.nd
    have G := oa.good
    have sm := oa.small
    have z2 : 1 ≤ g := sm.2.1
    have BO := bfs_ok G
    have few8 : (ks (bfs t)).length ≤ 3000 := few sm G BO.nd BO.good
    refine ⟨_, (PSs.nox (pss_cons (ps_expr (pe_k g_need_like (hr.mono (by decide)) rfl (pa_cons (pv 0) (pa_cons (pv 1) pa_nil))))
      (pss_cons (ps_set (i := 2) nd rfl (by first | exact .inl rfl | exact .inr rfl) (pe_k g_spread (hr.mono (by decide)) rfl (pa_cons (pv 0) pa_nil)))
      (pss_cons (ps_if (pt_cmp (pc_nnotin hr.units (pe_k g_crowd_of (hr.mono (by decide)) rfl (pa_cons (pv 1) pa_nil)) (pv 2)) rfl) (pss_one (ps_ret pe_non)) pss_nil)
      (pss_cons (ps_set (i := 3) nd rfl (by first | exact .inl rfl | exact .inr rfl) (pe_lst (pa_cons (pe_k g_crowd_of (hr.mono (by decide)) rfl (pa_cons (pv 1) pa_nil)) pa_nil)))
      (pss_cons (ps_while PassesOwn.never (pt_cmpR (op_neD hr.units) (pe_ix ix_list (pv 3) (pe_un un_neg pe_int) (fun _ _ => rfl)) (pe_k g_crowd_of (hr.mono (by decide)) rfl (pa_cons (pv 0) pa_nil)) (nomark _))
      (pss_cons (ps_set (i := 4) nd rfl (by first | exact .inl rfl | exact .inr rfl) (pe_ix ix_list (pv 3) (pe_un un_neg pe_int) (fun _ _ => rfl)))
      (pss_cons (ps_setLc (i := 5) (g := (gName 6)) (own := [("told", 6)]) rfl nd rfl rfl (sw_true rfl rfl rfl (by decide +kernel)) (pi_n (pv 2)) (blkOk_by (N := n_way) (own := [("told", 6)]) (sc := (defScope s_way)) (by decide +kernel)) (fun _ _ _ _ _ => (pg_name (i := 6) nd rfl (by first | exact .inl rfl | exact .inr rfl))) (fun _ _ _ _ _ => (pts_one (pt_cmpR op_eq (pe_ix (ix_tupK K rfl) (pe_ngetK (P := P) (w := w) rfl rfl hr.units (pv 2) (pv 6) (fun _ _ => rfl)) pe_int (fun _ _ => rfl)) (pe_op op_sub (pe_ix (ix_tupK K rfl) (pe_ngetK (P := P) (w := w) rfl rfl hr.units (pv 2) (pv 4) (fun _ _ => rfl)) pe_int (fun _ _ => rfl)) pe_int) (nomark _)))) (fun _ _ _ _ _ => (pv 6)))
      (pss_one (ps_expr (pe_bm PySem.F.plainAttrs_list PySem.F.slot_list_append PySem.F.type_list_append mt_append (pv 3) (pa_cons (pe_ix ix_list (pe_lc (g := (gName 6)) (own := [("told", 6)]) rfl nd (pi_list (pv 5)) (blkOk_by (N := n_way) (own := [("told", 6)]) (sc := (defScope s_way)) (by decide +kernel)) (fun _ _ _ _ _ => (pg_name (i := 6) nd rfl (by first | exact .inl rfl | exact .inr rfl))) (fun _ _ _ _ _ => (pts_one (pt_cmpR (op_inDK K rfl (hu65 hr)) (pv 4) (pe_k g_nexts_of (hr.mono (by decide)) rfl (pa_cons (pv 6) pa_nil)) rfl))) (fun _ _ _ _ _ => (pv 6))) pe_int (fun _ _ => rfl)) pa_nil)))))))
      (pss_one (ps_ret (pe_callTy call_tuple_of rfl fr.tuple (by decide +kernel) (pa_cons (pe_revL (pv 3)) pa_nil)))))))))), ?_⟩
    refine ⟨_, rfl, _, rfl, a, b, n, g, t, u, rfl, oa, ob, fun H1 e1 => ?_⟩
    refine ⟨_, rfl, a, n, g, t, rfl, oa.ext e1, e1.tabs hT, fun H2 d kvs e2 nd2 hW fo => ?_⟩
    have e12 := e1.trans e2
    have nd0 : H d = none := e1.free nd2
    refine ⟨_, rfl, b, u, rfl, e12.tab ob.tab, good_ne ob.good z2, fun H3 pc e3 npc tc => ⟨_, rfl, d, pc, kvs, crowd u, rfl, rfl, (hW.ext e3).n, tc, !decide (crowd u ∈ ks (bfs t)), by rw [if_pos rfl, val_isSome, fo.keys], ?_⟩⟩
    have e13 := e12.trans e3
    have hW3 := (hW.ext e3).n
    have fo3 := fo.mono (VDM.kt e3.kt)
    clear hW fo
    by_cases hin : crowd u ∈ ks (bfs t)
    · rw [decide_eq_true hin]
      refine iteF ?_
      refine ⟨_, rfl, b, u, rfl, e13.tab ob.tab, good_ne ob.good z2, fun H4 pc4 e4 npc4 tc4 => ⟨Nat.le_of_lt (small_line (Nat.le_trans (Nat.le_refl 1) (by decide))), fun fa nfa => ?_⟩⟩
      have e5 : Ext T H3 (upd H4 fa (.lst [.ref pc4])) := e4.add nfa
      have tc5 : IsTab (upd H4 fa (.lst [.ref pc4])) pc4 (crowd u) := (Ext.new (T := T) nfa).tab tc4
      have nfa0 : H fa = none := (e13.trans e4).free nfa
      have fo5 := fo3.mono (VDM.kt e5.kt)
      refine ⟨fun k σ H' => ∃ (y4 y5 y6 : Option V) (fs : List V) (x : Tab) (l : List Tab), σ = [some (.ref a), some (.ref b), some (.ref d), some (.ref fa), y4, y5, y6] ∧ Ext T H H' ∧ DictN P w H' d kvs ∧ FO VDM H' kvs (bfs t) (mostOf t) ∧ H' fa = some (.lst fs) ∧ Paired (VTab H') fs l.reverse ∧
        Way (bfs t) x (crowd u) l ∧ k = dOf (bfs t) x, ⟨dOf (bfs t) (crowd u), none, none, none, [.ref pc4], crowd u, [crowd u], rfl, e13.trans e5, hW3.ext e5, fo5, upd_same, .cons ⟨pc4, rfl, tc5⟩ .nil, .one hin, rfl⟩, fun k σ H6 hk => ?_⟩
      clear fo3 fo5 hW3
      obtain ⟨y4, y5, y6, fs, x, l, rfl, e6, hN, fo6, hfa, pfs, wy, rfl⟩ := hk
      have lfs : fs.length ≤ 3000 := by
        rw [Paired.length pfs, List.length_reverse]
        exact Nat.le_trans wy.few few8
      obtain ⟨l', hl'⟩ : ∃ l', l = x :: l' := by cases wy <;> exact ⟨_, rfl⟩
      have pfs' : Paired (VTab H6) fs (l'.reverse ++ [x]) := by
        rw [hl', List.reverse_cons] at pfs
        exact pfs
      have hxk := (wy.mem x (by rw [hl']; exact List.mem_cons_self)).1
      obtain ⟨fs0, v0, rfl, pf0, ax, rfl, tabx⟩ := paired_snoc pfs'
      refine ⟨_, rfl, _, rfl, fa, _, _, _, rfl, rfl, sql_new hfa, atI_last _ _, ?_⟩
      refine ⟨_, rfl, a, t, rfl, e6.tab oa.tab, good_ne G z2, fun H7 pt e7 npt tt => ⟨_, _, dp_tab (e7.tab tabx), dp_tab tt, shaped_tab x, shaped_tab (crowd t), _, rfl, ?_⟩⟩
      rw [eqv_tab]
      have hfa7 := e7.lst hfa
      have e67 := e6.trans e7
      by_cases hx : x = crowd t
      · rw [decide_eq_true hx]
        refine iteF ?_
        refine ⟨_, rfl, fa, _, rfl, sql_new hfa7, fun p2 np2 => ⟨p2, _, rfl, .inl ⟨sql_new upd_same, fun r nr => ?_⟩⟩⟩
        have e9 : Ext T H7 (upd (upd H7 p2 (.lst (fs0 ++ [V.ref ax]).reverse)) r (.tup (fs0 ++ [V.ref ax]).reverse)) := (Ext.new np2).add nr
        have pr := paired_rev (VTabs.kt pfs (e7.trans e9).kt)
        rw [List.reverse_reverse] at pr
        exact q2 hin _ r _ l (e67.trans e9) ((e67.add (o := .lst (fs0 ++ [V.ref ax]).reverse) np2).free nr) upd_same pr (hx ▸ wy)
      · rw [decide_eq_false hx]
        refine iteT ?_
        rcases BO.pred x hxk with z | ⟨y, hy, my, ey⟩
        · exact absurd z hx
        refine ⟨_, fun σ' H' hN => ⟨dOf (bfs t) x - 1, by omega, hN⟩, ?_⟩
        refine ⟨_, rfl, _, rfl, fa, _, _, _, rfl, rfl, sql_new hfa7, atI_last _ _, ?_⟩
        obtain ⟨L, hL, eL, opn⟩ := (hN.ext e7).open
        have lL : L.length ≤ 3000 := by
          have h1 := congrArg List.length fo6.keys
          have h2 := congrArg List.length eL
          rw [List.length_map] at h1 h2
          omega
        refine ⟨_, rfl, d, L, rfl, hL, fun o H8 lk => ?_⟩
        obtain ⟨g8, h8, p8, k8⟩ := opn o H8 lk
        rw [fo6.keys] at p8
        have e8 : Ext T H H8 := lk.ext e67 nd0 (dnO_soft ..)
        have fo8 := fo6.mono (VDM.kt (e7.kt.trans k8))
        have tabx8 := tabx.kt (e7.kt.trans k8)
        have hfa8 : H8 fa = some (.lst (fs0 ++ [V.ref ax])) := (lk.ne (hN.neL hfa)).trans hfa7
        have pfs8 := VTabs.kt pfs (e7.kt.trans k8)
        clear hN fo6 hfa pfs pf0 pfs' tabx hfa7 opn lk hL
        intro D nD
        refine lc_out walk_n (T := T) nD VTab (fun _ _ _ _ _ h e r => r.kt (e.kt h)) (fun i => ((ks (bfs t))[i]?).bind fun z => if (dOf (bfs t) z : Int) = (dOf (bfs t) x : Int) - 1 then some z else none) (Nat.le_of_lt (small_line (by omega))) (fun H' e => e.keep _ _ h8 fun ps z => nomatch z)
          (fun i v H9 H9' Ad Z hi e9 y hA hZ => ?_) fun H9 acc e9 eD p9 => ?_
        · obtain ⟨rfl, hv⟩ := y
          obtain ⟨t1, ht1, ⟨ah, rfl, tabh⟩, hi1⟩ := paired_take p8 hv
          have hk1 := List.mem_of_getElem? ht1
          obtain ⟨v1, hv1, a1, rfl, ha1⟩ := fo8.val t1 hk1
          obtain ⟨vx, hvx, a2, rfl, ha2⟩ := fo8.val x hxk
          refine ⟨rfl, ?_⟩
          by_cases hq : (dOf (bfs t) t1 : Int) = (dOf (bfs t) x : Int) - 1
          · refine ⟨_, rfl, _, rfl, d, ah, kvs, t1, _, rfl, rfl, g8.ext e9, e9.tab tabh, hv1, a1, _, 0, _, rfl, rfl, sqt_new (e9.tup ha1), rfl, _, rfl, _, rfl, d, ax, kvs, x, _, rfl, rfl, g8.ext e9, e9.tab tabx8, hvx, a2, _, 0, _, rfl, rfl, sqt_new (e9.tup ha2), rfl, _, _, rfl, rfl, rfl, true, eqI_true hq, iteT ?_⟩
            exact ⟨_, rfl, hA _ _ t1 (by rw [ht1]; exact if_pos hq) (.refl _ _) ⟨ah, rfl, e9.tab tabh⟩⟩
          · refine ⟨_, rfl, _, rfl, d, ah, kvs, t1, _, rfl, rfl, g8.ext e9, e9.tab tabh, hv1, a1, _, 0, _, rfl, rfl, sqt_new (e9.tup ha1), rfl, _, rfl, _, rfl, d, ax, kvs, x, _, rfl, rfl, g8.ext e9, e9.tab tabx8, hvx, a2, _, 0, _, rfl, rfl, sqt_new (e9.tup ha2), rfl, _, _, rfl, rfl, rfl, false, eqI_false hq, iteF ?_⟩
            exact hZ _ (by rw [ht1]; exact if_neg hq) (.refl _ _)
        -- befores is at D
        generalize hR1 : (List.range L.length).filterMap _ = R1 at p9
        have m1 : ∀ z ∈ R1, z ∈ ks (bfs t) ∧ dOf (bfs t) z + 1 = dOf (bfs t) x := fun z hz => by
          rw [← hR1] at hz
          obtain ⟨i, _, hi⟩ := List.mem_filterMap.mp hz
          obtain ⟨z', hz', hh⟩ := Option.bind_eq_some_iff.mp hi
          split at hh
          · obtain rfl := Option.some.inj hh
            exact ⟨List.mem_of_getElem? hz', by omega⟩
          · cases hh
        have m2 : y ∈ R1 := by
          rw [← hR1]
          obtain ⟨i, hi⟩ := List.getElem?_of_mem hy
          refine List.mem_filterMap.mpr ⟨i, List.mem_range.mpr ?_, ?_⟩
          · have := (List.getElem?_eq_some_iff.mp hi).1
            have h2 := Paired.length p8
            rw [List.length_map] at h2
            omega
          · rw [hi]
            exact if_pos (by omega)
        have lR : R1.length ≤ 3000 := by
          rw [← hR1]
          refine Nat.le_trans (List.length_filterMap_le _ _) ?_
          rw [List.length_range]
          exact lL
        have lacc := Paired.length p9
        have e19 := e8.trans e9
        refine ⟨_, rfl, .inl ⟨rfl, _, sql_new (e9.lst hfa8)⟩, _, rfl, D, rfl, ⟨acc, sql_new eD⟩, fun D2 nD2 => ?_⟩
        refine lc_out (walk_list (xs := acc)) (T := T) nD2 VTab (fun _ _ _ _ _ h e r => r.kt (e.kt h)) (fun i => (R1[i]?).bind fun z => if x ∈ nexts z then some z else none) (Nat.le_of_lt (small_line (by omega))) (fun H' e => sql_new (e.lst eD))
          (fun i v H10 H10' Ad Z hi e10 y hA hZ => ?_) fun H10 acc2 e10 eD2 p10 => ?_
        · obtain ⟨rfl, hv⟩ := y
          obtain ⟨t1, ht1, ⟨ah, rfl, tabh⟩, hi1⟩ := paired_take p9 hv
          have hk1 := (m1 t1 (List.mem_of_getElem? ht1)).1
          refine ⟨rfl, _, rfl, _, rfl, ah, n, g, t1, rfl, e10.tab tabh, (BO.good t1 hk1).1, sm, fun H11 pz zs e11 npz hpz ppz => ⟨tabD x, (nexts t1).map tabD, dp_tab ((e9.trans e10).trans e11 |>.tab tabx8), .lst (sql_new hpz) (dp_tabs ppz), shaped_tab x, shaped_tabs _, _, rfl, ?_⟩⟩
          rw [any_tab]
          by_cases hq : x ∈ nexts t1
          · rw [decide_eq_true hq]
            exact iteT ⟨_, rfl, hA _ _ t1 (by rw [ht1]; exact if_pos hq) e11 ⟨ah, rfl, (e10.trans e11).tab tabh⟩⟩
          · rw [decide_eq_false hq]
            exact iteF (hZ _ (by rw [ht1]; exact if_neg hq) e11)
        generalize hR2 : (List.range acc.length).filterMap _ = R2 at p10
        have m3 : ∀ z ∈ R2, z ∈ R1 ∧ x ∈ nexts z := fun z hz => by
          rw [← hR2] at hz
          obtain ⟨i, _, hi⟩ := List.mem_filterMap.mp hz
          obtain ⟨z', hz', hh⟩ := Option.bind_eq_some_iff.mp hi
          split at hh
          · obtain rfl := Option.some.inj hh
            exact ⟨List.mem_of_getElem? hz', by assumption⟩
          · cases hh
        have m4 : y ∈ R2 := by
          rw [← hR2]
          obtain ⟨i, hi⟩ := List.getElem?_of_mem m2
          refine List.mem_filterMap.mpr ⟨i, List.mem_range.mpr ?_, ?_⟩
          · have := (List.getElem?_eq_some_iff.mp hi).1
            omega
          · rw [hi]
            exact if_pos my
        obtain ⟨z, R2', rfl⟩ : ∃ z R, R2 = z :: R := by
          cases R2 with
          | nil => cases m4
          | cons z R => exact ⟨z, R, rfl⟩
        obtain ⟨v2, acc2', rfl⟩ : ∃ z R, acc2 = z :: R := by
          cases p10
          exact ⟨_, _, rfl⟩
        have p12 : VTab H10 v2 z := by
          cases p10 with
          | cons q1 q2 => exact q1
        obtain ⟨az, rfl, tabz⟩ := p12
        obtain ⟨mz1, mz2⟩ := m3 z List.mem_cons_self
        obtain ⟨mz3, mz4⟩ := m1 z mz1
        have e810 := e9.trans e10
        refine ⟨D2, _, 0, _, rfl, rfl, sql_new eD2, atI_of (j := 0) rfl rfl, fa, _, _, rfl, rfl, e810.lst hfa8, small_line (by omega), ?_⟩
        have kk : KT H10 (upd H10 fa (.lst ((fs0 ++ [V.ref ax]) ++ [V.ref az]))) := KT.mut (e810.lst hfa8) fun _ z => nomatch z
        refine ⟨_, _, _, _, z, z :: l, rfl, (e8.trans e810).mutL nfa0 (e810.lst hfa8), (g8.ext e810).kt kk (upd_ne ((g8.ext e810).neL (e810.lst hfa8)).symm), fo8.mono (VDM.kt (e810.kt.trans kk)), upd_same, ?_, .step mz3 mz2 (by omega) wy, by omega⟩
        rw [List.reverse_cons]
        exact paired_app (VTabs.kt pfs8 (e810.kt.trans kk)) (.cons ⟨az, rfl, tabz.kt kk⟩ .nil)
    · rw [decide_eq_false hin]
      exact iteT (q1 hin H3 e13)
end
end K5
namespace K5
open PySem PySem.Spec PyProof.Rows L2 LamX RZ
section
variable {T : List (Addr × Str)} {P : Program} {w : World} {K : PySem.W.Frag} {mg : Str → Option Value} {base : Heap} {f : Addr} {fd : FuncData}
theorem all_yes (n : Nat) : ((List.range n).filterMap fun _ => some true).all id = true := by
  rw [List.all_eq_true]
  intro b hb
  obtain ⟨_, _, e⟩ := List.mem_filterMap.mp hb
  cases e
  rfl
theorem any_no (n : Nat) : ((List.range n).filterMap fun _ => some false).any id = false := by
  rw [List.any_eq_false]
  intro b hb
  obtain ⟨_, _, e⟩ := List.mem_filterMap.mp hb
  cases e
  simp
abbrev n_is_row_of_deeds : List Str := ["value", "told", "later"]
theorem sc_is_row_of_deeds : FnScope n_is_row_of_deeds ["value"] (defScope s_is_row_of_deeds) := ⟨rfl, rfl, rfl, by decide +kernel, rfl, by decide +kernel, by decide +kernel⟩
/-- a row of deeds stands at p -/
structure Deeds (H : Hp) (p : Addr) (n g : Nat) (xs : List V) (l : List Tab) : Prop where
  at_ : H p = some (.tup xs)
  pr : Paired (VTab H) xs l
  ne : l ≠ []
  few : l.length ≤ 3000
  small : Small n g
  good : ∀ x ∈ l, Good n g x ∧ crowd x = x
  next : ∀ i a b, l[i]? = some a → l[i + 1]? = some b → b ∈ nexts a
def spRowOfDeeds (T : List (Addr × Str)) : Sp := fun vs H Q _ => ∃ (p : Addr) (n g : Nat) (xs : List V) (l : List Tab), vs = [.ref p] ∧ Deeds H p n g xs l ∧ ∀ H', Ext T H H' → Q (.bl true) H'
theorem ok_is_row_of_deeds (fr : Fr mg) (g_is_table : Kn P w K mg base "is_table" ["value"] 5 (spBadRow T (.bl true))) (g_crowd_of : Kn P w K mg base "crowd_of" ["table"] 1 (spCrowd T)) (g_nexts_of : Kn P w K mg base "nexts_of" ["table"] 4 (spNexts T))
    (F : FnP K "is_row_of_deeds" s_is_row_of_deeds f fd) : FnOk P w K mg base CX0 6 f fd ["value"] (spRowOfDeeds T) := by
  refine F.ok sc_is_row_of_deeds (fun vs H Q E h => ?_) (fun cdv A outer s H vs Q E hr h => ?_)
  · obtain ⟨p, n, g, xs, l, rfl, _⟩ := h
    rfl
  · obtain ⟨p, n, g, xs, l, rfl, ⟨hp, pr, ne, few, sm, good, next⟩, q⟩ := h
    have nd := sc_is_row_of_deeds.nd
    have z2 : 1 ≤ g := sm.2.1
    have lx := Paired.length pr
    refine ⟨_, (PSs.nox (pss_cons (ps_if (PW.pt (pw_or (pt_not (pt_val (pe_callB call_isi rfl fr.isinstance (by decide +kernel) (pa_cons (pv 0) (pa_cons (pe_bltn (v := .ty "tuple") rfl fr.tuple (by decide +kernel) rfl) pa_nil))))) (pw_or (pt_cmpR (op_eqD hr.units) (pv 0) (pe_tup pa_nil) (nomark _)) (pw_or1 (pt_not (pt_val (pe_callB (cr_all rfl) rfl fr.all (by decide +kernel) (pa_cons (pe_lc (g := (gName 1)) (own := [("told", 1)]) (tt := tYes) rfl nd (pi_tup (pv 0)) (blkOk_by (N := n_is_row_of_deeds) (own := [("told", 1)]) (sc := (defScope s_is_row_of_deeds)) (by decide +kernel)) (fun _ _ _ _ _ => (pg_name (i := 1) nd rfl (by first | exact .inl rfl | exact .inr rfl))) (fun _ _ _ _ _ => pts_nil) (fun _ _ _ _ _ => (pe_k g_is_table (hr.mono (by decide)) rfl (pa_cons (pv 1) pa_nil)))) pa_nil)))))))) (pss_one (ps_ret pe_bl)) pss_nil)
      (pss_cons (ps_if (pt_val (pe_callB (cr_any rfl) rfl fr.any (by decide +kernel) (pa_cons (pe_lc (g := (gName 1)) (own := [("told", 1)]) (tt := tYes) rfl nd (pi_tup (pv 0)) (blkOk_by (N := n_is_row_of_deeds) (own := [("told", 1)]) (sc := (defScope s_is_row_of_deeds)) (by decide +kernel)) (fun _ _ _ _ _ => (pg_name (i := 1) nd rfl (by first | exact .inl rfl | exact .inr rfl))) (fun _ _ _ _ _ => pts_nil) (fun _ _ _ _ _ => (pe_cmpR (op_neDK K rfl hr.units) (pv 1) (pe_k g_crowd_of (hr.mono (by decide)) rfl (pa_cons (pv 1) pa_nil)) (nomark _)))) pa_nil))) (pss_one (ps_ret pe_bl)) pss_nil)
      (pss_one (ps_ret (pe_callB (cr_all rfl) rfl fr.all (by decide +kernel) (pa_cons (pe_lc (g := (gTup K 2 (gCons (gName 1) (gCons (gName 2) gNil)))) (own := [("told", 1), ("later", 2)]) (tt := tYes) rfl nd (pi_zipA rfl fr.zip (pa_cons (pv 0) (pa_cons (pe_slice sl_tupA (pv 0) (po_some pe_int) po_none) pa_nil))) (blkOk_by (N := n_is_row_of_deeds) (own := [("told", 1), ("later", 2)]) (sc := (defScope s_is_row_of_deeds)) (by decide +kernel)) (fun _ _ _ _ _ => (pg_tup rfl (pgs_cons (pg_name (i := 1) nd rfl (by first | exact .inl rfl | exact .inr rfl)) (pgs_cons (pg_name (i := 2) nd rfl (by first | exact .inl rfl | exact .inr rfl)) pgs_nil)))) (fun _ _ _ _ _ => pts_nil) (fun _ _ _ _ _ => (pe_cmpR (op_inDK K rfl (hu65 hr)) (pv 2) (pe_k g_nexts_of (hr.mono (by decide)) rfl (pa_cons (pv 1) pa_nil)) rfl))) pa_nil))))))), ?_⟩
    refine ⟨_, rfl, _, _, _, _, true, rfl, .ty "tuple", .base (.tup hp), kit_ty (by decide +kernel), true, rfl, iteF ?_⟩
    refine ⟨_, rfl, Nat.zero_le _, fun pe npe => ⟨_, _, .tup (.inl (.inl ((Ext.new (T := T) npe).tup hp))) (dp_tabs (VTabs.kt pr (Ext.new (T := T) npe).kt)), .tup (sqt_new upd_same) .nil, shaped_tabT l, shaped_tabT [], _, rfl, ?_⟩⟩
    rw [eqv_nilT, decide_eq_false ne]
    have e1 : Ext T H (upd H pe (.tup [])) := .new npe
    generalize upd H pe (.tup []) = H1 at e1
    refine iteF ?_
    refine ⟨_, rfl, p, rfl, ⟨_, sqt_new (e1.tup hp)⟩, fun D nD => lc_out (walk_tup (xs := xs)) (T := T) nD VBl (fun _ _ _ _ _ _ _ h => h) (fun _ => some true) (Nat.le_of_lt (small_line (by omega))) (fun H' e => sqt_new (e.tup (e1.tup hp)))
      (fun i x H2 H2' Ad Z hi e2 y hA hZ => ?_) fun H2 acc e2 eD p2 => ?_⟩
    · obtain ⟨rfl, hx⟩ := y
      obtain ⟨t1, ht1, ⟨ah, rfl, tabh⟩, hi1⟩ := paired_take pr hx
      refine ⟨rfl, lc_yes ?_⟩
      exact ⟨_, rfl, ah, n, g, t1, rfl, ⟨(e1.trans e2).tab tabh, (good t1 (List.mem_of_getElem? ht1)).1, sm⟩, fun H' e => hA _ _ true rfl e rfl⟩
    obtain rfl := vbls p2
    have e12 := e1.trans e2
    refine ⟨D, _, rfl, sql_new eD, true, congrArg V.bl (all_yes _), iteF ?_⟩
    refine ⟨_, rfl, p, rfl, ⟨_, sqt_new (e12.tup hp)⟩, fun D3 nD3 => lc_out (walk_tup (xs := xs)) (T := T) nD3 VBl (fun _ _ _ _ _ _ _ h => h) (fun _ => some false) (Nat.le_of_lt (small_line (by omega))) (fun H' e => sqt_new (e.tup (e12.tup hp)))
      (fun i x H3 H3' Ad Z hi e3 y hA hZ => ?_) fun H3 acc e3 eD3 p3 => ?_⟩
    · obtain ⟨rfl, hx⟩ := y
      obtain ⟨t1, ht1, ⟨ah, rfl, tabh⟩, hi1⟩ := paired_take pr hx
      obtain ⟨g1, c1⟩ := good t1 (List.mem_of_getElem? ht1)
      refine ⟨rfl, lc_yes ?_⟩
      refine ⟨_, rfl, _, rfl, ah, t1, rfl, (e12.trans e3).tab tabh, good_ne g1 z2, fun H4 pc e4 npc tc => ⟨_, _, dp_tab ((e12.trans e3).trans e4 |>.tab tabh), dp_tab tc, shaped_tab _, shaped_tab _, ?_⟩⟩
      rw [eqv_tab, decide_eq_true c1.symm]
      exact hA _ _ false rfl e4 rfl
    obtain rfl := vbls p3
    have e13 := e12.trans e3
    refine ⟨D3, _, rfl, sql_new eD3, false, congrArg V.bl (any_no _), iteF ?_⟩
    have ecut : cutV xs (some 1) none = xs.drop 1 := cut_tail xs
    refine ⟨_, rfl, _, rfl, _, rfl, p, xs, rfl, sqt_new (e13.tup hp), fun z => ?_, fun _ pt npt => ?_⟩
    · exfalso
      have h0 : xs.length ≠ 0 := fun z => ne (List.length_eq_zero_iff.mp (by omega))
      have h1 : HT.sIx xs.length 0 (some 1) = min 1 xs.length := HT.sIx_nat _ _ 1
      have := z.1
      rw [h1] at this
      omega
    have e5 : Ext T H3 (upd H3 pt (.tup (cutV xs (some 1) none))) := .new npt
    have hpt : (upd H3 pt (.tup (cutV xs (some 1) none))) pt = some (.tup (xs.drop 1)) := by rw [upd_same, ecut]
    have e05 := e13.trans e5
    generalize upd H3 pt (.tup (cutV xs (some 1) none)) = H5 at e5 hpt e05
    have hp5 := e05.tup hp
    refine ⟨p, pt, _, _, rfl, .inr ⟨sqt_new hp5, sqt_new hpt, fun D6 nD6 => lc_out (walk_zipT (n := xs.length - 1) (xs := xs) (ys := xs.drop 1) (by rw [List.length_drop]; omega)) (T := T) nD6 VBl (fun _ _ _ _ _ _ _ h => h) (fun i => some true) (Nat.le_of_lt (small_line (by omega)))
      (fun H' e => ⟨sqt_new (e.tup hp5), sqt_new (e.tup hpt)⟩) (fun i x H6 H6' Ad Z hi e6 y hA hZ => ?_) fun H6 acc e6 eD6 p6 => ?_⟩⟩
    · obtain ⟨Tp, x1, x2, rfl, nT, rfl, f1, f2⟩ := y
      have f2 : (xs.drop 1)[i]? = some x2 := f2
      have f1 : xs[i]? = some x1 := f1
      rw [List.getElem?_drop, Nat.add_comm] at f2
      obtain ⟨t1, ht1, ⟨a1, rfl, tab1⟩, _⟩ := paired_take pr f1
      obtain ⟨t2, ht2, ⟨a2, rfl, tab2⟩, _⟩ := paired_take pr f2
      have e7 := (e05.trans e6).add (o := .tup [.ref a1, .ref a2]) nT
      refine ⟨Tp, _, rfl, sqt_new upd_same, rfl, _, _, rfl, _, _, rfl, rfl, ?_⟩
      refine ⟨rfl, lc_yes ?_⟩
      refine ⟨_, rfl, _, rfl, a1, n, g, t1, rfl, e7.tab tab1, (good t1 (List.mem_of_getElem? ht1)).1, sm, fun H8 pz zs e8 npz hpz ppz => ⟨tabD t2, (nexts t1).map tabD, dp_tab ((e7.trans e8).tab tab2), .lst (sql_new hpz) (dp_tabs ppz), shaped_tab _, shaped_tabs _, ?_⟩⟩
      rw [any_tab, decide_eq_true (next i t1 t2 ht1 ht2)]
      exact hA _ _ true rfl ((Ext.new (T := T) nT).trans e8) rfl
    · obtain rfl := vbls p6
      refine ⟨D6, _, rfl, sql_new eD6, ?_⟩
      rw [all_yes]
      exact q _ (e05.trans e6)
/-! ### what the law shows -/
abbrev n_shows_way : List Str := ["one", "other", "value", "best"]
theorem sc_shows_way : FnScope n_shows_way ["one", "other", "value"] (defScope s_shows_way) := ⟨rfl, rfl, rfl, by decide +kernel, rfl, by decide +kernel, by decide +kernel⟩
def spShowsWay (T : List (Addr × Str)) : Sp := fun vs H Q _ => ∃ (a b : Addr) (v : V) (n g : Nat) (t u : Tab), vs = [.ref a, .ref b, v] ∧ TabOk H a n g t ∧ TabOk H b n g u ∧ Tabs T H ∧
  ((v = .non ∧ crowd u ∉ ks (bfs t)) ∨ (crowd u ∈ ks (bfs t) ∧ ∃ p xs l, v = .ref p ∧ H p = some (.tup xs) ∧ Paired (VTab H) xs l ∧ Way (bfs t) (crowd t) (crowd u) l)) ∧ ∀ H', Ext T H H' → Q (.bl true) H'
theorem Way.deeds {n g : Nat} {t u : Tab} {H : Hp} {p : Addr} {xs : List V} {l : List Tab} (G : Good n g t) (sm : Small n g) (w : Way (bfs t) (crowd t) u l) (hp : H p = some (.tup xs)) (pr : Paired (VTab H) xs l) : Deeds H p n g xs l where
  at_ := hp
  pr := pr
  ne := fun z => by
    have := w.pos
    rw [z] at this
    simp at this
  few := by
    have BO := bfs_ok G
    exact Nat.le_trans w.few (K5.few sm G BO.nd BO.good)
  small := sm
  good := fun x hx => by
    have := (bfs_ok G).good x (w.mem x hx).1
    exact ⟨this.1, this.2.1⟩
  next := w.next
theorem last_tab {H : Hp} {xs : List V} {l : List Tab} {y : Tab} (pr : Paired (VTab H) xs l) (h : l[l.length - 1]? = some y) : ∃ b, atI xs (-1) = some (.ref b) ∧ IsTab H b y := by
  have hl : 0 < l.length := by
    have := (List.getElem?_eq_some_iff.mp h).1
    omega
  obtain ⟨l', rfl⟩ : ∃ l', l = l' ++ [y] := by
    refine ⟨l.dropLast, ?_⟩
    have hne : l ≠ [] := fun z => by rw [z] at hl; simp at hl
    have e : y = l.getLast hne := by
      rw [List.getLast_eq_getElem]
      exact (Option.some.inj ((List.getElem?_eq_getElem (by omega)).symm.trans h)).symm
    rw [e]
    exact (List.dropLast_concat_getLast hne).symm
  obtain ⟨as, a, rfl, _, b, rfl, tb⟩ := paired_snoc pr
  exact ⟨b, atI_last _ _, tb⟩
theorem first_tab {H : Hp} {xs : List V} {l : List Tab} {y : Tab} (pr : Paired (VTab H) xs l) (h : l[0]? = some y) : ∃ b, atI xs 0 = some (.ref b) ∧ IsTab H b y := by
  obtain ⟨v, hv, b, rfl, tb⟩ := paired_at' pr h
  exact ⟨b, atI_of hv rfl, tb⟩
theorem ok_shows_way (fr : Fr mg) (g_way : Kn P w K mg base "way" ["one", "other"] 9 (spWay T)) (g_is_row_of_deeds : Kn P w K mg base "is_row_of_deeds" ["value"] 6 (spRowOfDeeds T))
    (F : FnP K "shows_way" s_shows_way f fd) : FnOk P w K mg base CX0 10 f fd ["one", "other", "value"] (spShowsWay T) := by
  refine F.ok sc_shows_way (fun vs H Q E h => ?_) (fun cdv A outer s H vs Q E hr h => ?_)
  · obtain ⟨a, b, v, n, g, t, u, rfl, _⟩ := h
    rfl
  · obtain ⟨a, b, v, n, g, t, u, rfl, oa, ob, hT, hv, q⟩ := h
    have nd := sc_shows_way.nd
    refine ⟨_, (PSs.nox (pss_cons (ps_set (i := 3) nd rfl (by first | exact .inl rfl | exact .inr rfl) (pe_k g_way (hr.mono (by decide)) rfl (pa_cons (pv 0) (pa_cons (pv 1) pa_nil))))
      (pss_cons (ps_if (PW.pt (pw_or (pt_cmpR op_isN (pv 3) pe_non (nomark _)) (pw_or1 (pt_cmpR op_isN (pv 2) pe_non (nomark _))))) (pss_one (ps_ret (pe_and (pe_cmpR op_isN (pv 3) pe_non (nomark _)) (pe_one (pe_cmpR op_isN (pv 2) pe_non (nomark _)))))) pss_nil)
      (pss_cons (ps_if (PW.pt (pw_or (pt_not (pt_val (pe_k g_is_row_of_deeds (hr.mono (by decide)) rfl (pa_cons (pv 2) pa_nil)))) (pw_or1 (pt_cmpR op_ne (pe_callB call_len_seq rfl fr.len (by decide +kernel) (pa_cons (pv 2) pa_nil)) (pe_callB call_len_seq rfl fr.len (by decide +kernel) (pa_cons (pv 3) pa_nil)) (nomark _))))) (pss_one (ps_ret pe_bl)) pss_nil)
      (pss_one (ps_ret (pe_and (pe_cmpR (op_eqD hr.units) (pe_ix ix_tup (pv 2) pe_int (fun _ _ => rfl)) (pe_ix ix_tup (pv 3) pe_int (fun _ _ => rfl)) (nomark _)) (pe_one (pe_cmpR (op_eqD hr.units) (pe_ix ix_tup (pv 2) (pe_un un_neg pe_int) (fun _ _ => rfl)) (pe_ix ix_tup (pv 3) (pe_un un_neg pe_int) (fun _ _ => rfl)) (nomark _)))))))))), ?_⟩
    refine ⟨_, rfl, _, rfl, a, b, n, g, t, u, rfl, oa, ob, hT, fun hn H1 e1 => ?_, fun hin H1 p1 xs1 l1 e1 np1 hp1 pr1 w1 => ?_⟩
    · rcases hv with ⟨rfl, _⟩ | ⟨hin, _⟩
      · refine ⟨_, rfl, rfl, true, rfl, iteT ?_⟩
        exact ⟨_, rfl, rfl, true, rfl, iteT ⟨_, rfl, rfl, q H1 e1⟩⟩
      · exact absurd hin hn
    · rcases hv with ⟨_, hn⟩ | ⟨_, p, xs, l, rfl, hp, pr, wy⟩
      · exact absurd hin hn
      · refine ⟨_, rfl, rfl, false, rfl, iteF ⟨_, rfl, rfl, false, rfl, iteF ?_⟩⟩
        have pr0 := VTabs.kt pr e1.kt
        have hp0 := e1.tup hp
        refine ⟨_, rfl, p, n, g, xs, l, rfl, wy.deeds oa.good oa.small hp0 pr0, fun H2 e2 => ⟨true, rfl, iteF ?_⟩⟩
        have hp2 := e2.tup hp0
        have hp12 := e2.tup hp1
        have pr2 := VTabs.kt pr0 e2.kt
        have pr12 := VTabs.kt pr1 e2.kt
        have ll : l.length = l1.length := by
          have h1 := wy.len
          have h2 := w1.len
          omega
        have l1' := Paired.length pr2
        have l2' := Paired.length pr12
        refine ⟨_, rfl, p, _, rfl, .inr (sqt_new hp2), _, rfl, p1, _, rfl, .inr (sqt_new hp12), rfl, false, neI_false (by omega), iteF ?_⟩
        obtain ⟨b1, hb1, tb1⟩ := first_tab pr2 wy.head
        obtain ⟨b2, hb2, tb2⟩ := first_tab pr12 w1.head
        obtain ⟨b3, hb3, tb3⟩ := last_tab pr2 wy.last
        obtain ⟨b4, hb4, tb4⟩ := last_tab pr12 w1.last
        refine ⟨_, rfl, p, _, 0, _, rfl, rfl, sqt_new hp2, hb1, _, rfl, p1, _, 0, _, rfl, rfl, sqt_new hp12, hb2, _, _, dp_tab tb1, dp_tab tb2, shaped_tab _, shaped_tab _, true, ?_, iteT ?_⟩
        · rw [eqv_tab, decide_eq_true rfl]
        refine ⟨_, rfl, _, rfl, p, _, -1, _, rfl, rfl, sqt_new hp2, hb3, _, rfl, _, rfl, p1, _, -1, _, rfl, rfl, sqt_new hp12, hb4, _, _, dp_tab tb3, dp_tab tb4, shaped_tab _, shaped_tab _, ?_⟩
        rw [eqv_tab, decide_eq_true rfl]
        exact q _ (e1.trans e2)
/-! ### how many have so many at odds -/
def sizesT (t : Tab) : List Nat := (ks (bfs t)).map fun x => (oddsT x).length
abbrev n_count_by_odds : List Str := ["table", "sizes", "told", "size"]
theorem sc_count_by_odds : FnScope n_count_by_odds ["table"] (defScope s_count_by_odds) := ⟨rfl, rfl, rfl, by decide +kernel, rfl, by decide +kernel, by decide +kernel⟩
def spCountByOdds (T : List (Addr × Str)) : Sp := fun vs H Q _ => ∃ (a : Addr) (n g : Nat) (t : Tab), vs = [.ref a] ∧ TabOk H a n g t ∧ Tabs T H ∧ ∀ m, m ∈ sizesT t → (∀ z ∈ sizesT t, z ≤ m) → ∀ H' p, Ext T H H' → H p = none → H' p = some (.tup ((List.range (m + 1)).map fun s => V.int ((sizesT t).count s))) → Q (.ref p) H'
theorem count_cast (l : List Nat) (s : Nat) : (l.map Int.ofNat).count (Int.ofNat s) = l.count s := by
  induction l with
  | nil => rfl
  | cons x l ih =>
    rw [List.map_cons, List.count_cons, List.count_cons, ih]
    congr 1
    by_cases h : x = s
    · subst h
      simp
    · have : ¬ ((x : Int) = (s : Int)) := by omega
      simp [h, this]
theorem ok_count_by_odds (fr : Fr mg) (g_need_table : Kn P w K mg base "need_table" ["table"] 5 (spBadRow T .non)) (g_odds_of : Kn P w K mg base "odds_of" ["table"] 3 (spOdds T)) (g_spread : Kn P w K mg base "spread" ["table"] 8 (spSpread P w T)) (F : FnP K "count_by_odds" s_count_by_odds f fd) :
    FnOk P w K mg base CX0 9 f fd ["table"] (spCountByOdds T) := by
  refine F.ok sc_count_by_odds (fun vs H Q E h => ?_) (fun cdv A outer s H vs Q E hr h => ?_)
  · obtain ⟨a, n, g, t, rfl, _⟩ := h
    rfl
  · obtain ⟨a, n, g, t, rfl, tok, hT, q⟩ := h
    have nd := sc_count_by_odds.nd
    have G := tok.good
    have sm := tok.small
    have BO := bfs_ok G
    have few8 : (ks (bfs t)).length ≤ 3000 := few sm G BO.nd BO.good
    have n5 : n ≤ 100 ∧ g ≤ 100 := by
      obtain ⟨_, _, z⟩ := sm
      omega
    refine ⟨_, (PSs.nox (pss_cons (ps_expr (pe_k g_need_table (hr.mono (by decide)) rfl (pa_cons (pv 0) pa_nil)))
      (pss_cons (ps_set (i := 1) nd rfl (by first | exact .inl rfl | exact .inr rfl) (pe_lc (g := (gName 2)) (own := [("told", 2)]) (tt := tYes) rfl nd (pi_n (pe_k g_spread (hr.mono (by decide)) rfl (pa_cons (pv 0) pa_nil))) (blkOk_by (N := n_count_by_odds) (own := [("told", 2)]) (sc := (defScope s_count_by_odds)) (by decide +kernel)) (fun _ _ _ _ _ => (pg_name (i := 2) nd rfl (by first | exact .inl rfl | exact .inr rfl))) (fun _ _ _ _ _ => pts_nil) (fun _ _ _ _ _ => (pe_callB (call_len_seqK K rfl) rfl fr.len (by decide +kernel) (pa_cons (pe_k g_odds_of (hr.mono (by decide)) rfl (pa_cons (pv 2) pa_nil)) pa_nil)))))
      (pss_one (ps_ret (pe_callTy call_tuple_of rfl fr.tuple (by decide +kernel) (pa_cons (pe_lc (g := (gName 3)) (own := [("size", 3)]) (tt := tYes) rfl nd (pi_range1 rfl fr.range (pa_cons (pe_op op_add (pe_callB (cr_max rfl) rfl fr.max (by decide +kernel) (pa_cons (pv 1) pa_nil)) pe_int) pa_nil)) (blkOk_by (N := n_count_by_odds) (own := [("size", 3)]) (sc := (defScope s_count_by_odds)) (by decide +kernel)) (fun _ _ _ _ _ => (pg_name (i := 3) nd rfl (by first | exact .inl rfl | exact .inr rfl))) (fun _ _ _ _ _ => pts_nil) (fun _ _ _ _ _ => (ttK K rfl (t := fun K => tBM K "list" (rCntI K) _ _) (pe_bm PySem.F.plainAttrs_list PySem.F.slot_list_count PySem.F.type_list_count mt_lcount (pv 1) (pa_cons (pv 3) pa_nil))))) pa_nil))))))), ?_⟩
    refine ⟨_, rfl, a, n, g, t, rfl, tok, fun H1 e1 => ?_⟩
    refine ⟨_, rfl, a, n, g, t, rfl, tok.ext e1, e1.tabs hT, fun H2 d kvs e2 nd2 hW fo => ?_⟩
    have e12 := e1.trans e2
    have nd0 : H d = none := e1.free nd2
    obtain ⟨L, hL, eL, opn⟩ := hW.n.open
    have lL : L.length = (ks (bfs t)).length := by
      have h1 := congrArg List.length fo.keys
      have h2 := congrArg List.length eL
      rw [List.length_map] at h1 h2
      omega
    refine ⟨d, L, rfl, hL, fun o H8 lk => ?_⟩
    obtain ⟨g8, h8, p8, k8⟩ := opn o H8 lk
    rw [fo.keys] at p8
    have e8 : Ext T H H8 := lk.ext e12 nd0 (dnO_soft ..)
    intro D nD
    refine lc_out walk_n (T := T) nD VInt (fun _ _ _ _ _ _ _ h => h) (fun i => some (((oddsT ((ks (bfs t)).getD i [])).length : Nat) : Int)) (Nat.le_of_lt (small_line (by omega))) (fun H' e => e.keep _ _ h8 fun ps z => nomatch z)
      (fun i v H9 H9' Ad Z hi e9 y hA hZ => ?_) fun H9 acc e9 eD p9 => ?_
    · obtain ⟨rfl, hv⟩ := y
      obtain ⟨t1, ht1, ⟨ah, rfl, tabh⟩, hi1⟩ := paired_take p8 hv
      have hk1 := List.mem_of_getElem? ht1
      refine ⟨rfl, lc_yes ?_⟩
      refine ⟨_, rfl, ah, n, g, t1, rfl, e9.tab tabh, (BO.good t1 hk1).1, n5.1, n5.2, fun H'' p ps e2 np hp pp => ⟨p, ps, rfl, .inl (sql_new hp), hA _ _ _ rfl e2 ?_⟩⟩
      show V.int _ = V.int _
      rw [Paired.length pp, List.getD_eq_getElem?_getD, ht1]
      rfl
    obtain rfl := vints p9
    rw [filterMap_map] at eD
    have eS : ((List.range L.length).map fun i => (((oddsT ((ks (bfs t)).getD i [])).length : Nat) : Int)) = (sizesT t).map Int.ofNat := by
      rw [lL, range_getD (fun x => (((oddsT x).length : Nat) : Int)) []]
      unfold sizesT
      exact List.map_map.symm
    rw [eS] at eD
    have e09 := e8.trans e9
    have pos : 0 < (sizesT t).length := by
      unfold sizesT
      rw [List.length_map]
      exact List.length_pos_of_mem BO.st
    have len25 : ∀ z ∈ sizesT t, z ≤ 100 := fun z hz => by
      obtain ⟨x, hx, rfl⟩ := List.mem_map.mp hz
      have h1 := oddsT_le x
      have h2 := (BO.good x hx).1.len
      have : x.length * x.length ≤ 5 * 5 := Nat.mul_le_mul (by obtain ⟨_, _, z⟩ := sm; omega) (by obtain ⟨_, _, z⟩ := sm; omega)
      omega
    refine ⟨_, rfl, D, (sizesT t).map Int.ofNat, rfl, sql_new eD, by rw [List.length_map]; exact pos, fun mi hm hmax => ?_⟩
    obtain ⟨m, hmm, rfl⟩ := List.mem_map.mp hm
    have hmx : ∀ z ∈ sizesT t, z ≤ m := fun z hz => Int.ofNat_le.mp (hmax _ (List.mem_map.mpr ⟨z, hz, rfl⟩))
    have hm100 := len25 m hmm
    have em : Int.ofNat m = (m : Int) := rfl
    refine ⟨_, _, rfl, rfl, (m : Int) + 1, rfl, by omega, by omega, fun D3 nD3 => ?_⟩
    refine lc_out walk_range (T := T) nD3 VInt (fun _ _ _ _ _ _ _ h => h) (fun k => some (((sizesT t).count k : Nat) : Int)) (Nat.le_of_lt (small_line (by omega))) (fun _ _ => trivial)
      (fun k x H3 H3' Ad Z hk e3 y hA hZ => ?_) fun H3 acc e3 eD3 p3 => ?_
    · obtain ⟨rfl, rfl⟩ := y
      refine ⟨rfl, lc_yes ?_⟩
      refine ⟨_, rfl, .inl ⟨rfl, _, sql_new (e3.lst eD)⟩, _, rfl, D, (sizesT t).map Int.ofNat, _, rfl, rfl, sql_new (e3.lst eD), hA _ _ _ rfl (.refl _ _) ?_⟩
      show V.int _ = V.int _
      rw [Int.zero_add, ← count_cast]
      rfl
    obtain rfl := vints p3
    rw [filterMap_map, show ((m : Int) + 1).toNat = m + 1 by omega] at eD3
    refine ⟨D3, _, rfl, .inl ⟨sql_new eD3, fun r nr => ?_⟩⟩
    refine q m hmm hmx _ r ((e09.trans e3).add nr) ((e09.trans e3).free nr) ?_
    rw [upd_same, List.map_map]
    rfl
end
end K5
namespace K5
open PySem PySem.Spec PyProof.Rows PySem.W L2 LamX RZ

/-! ### ranges as objects, subscripts of either -/
section
variable {X : Cx}
theorem cr_range1 : CallR X (.type "range") (fun vs H Q => ∃ j, vs = [V.int j] ∧ ∀ p, H p = none → Q (.ref p) (upd H p (.rng 0 j))) := by
  intro pins s σ H vs us Q I r h
  obtain ⟨j, rfl, q⟩ := h
  obtain ⟨u1, rfl, ri⟩ := vals1 r
  obtain ⟨t, rfl⟩ := ri
  refine call_range_1 ⟨.ref s.heap.objs.size, upd H s.heap.objs.size (.rng 0 j), I.laid (t' := s.toks + 1 + 1) (fun b o e => Heap.get?_push_of_some _ e) (Nat.le_refl _) ?_, rfl, q _ (I.hok.fresh (Nat.le_refl _))⟩
  exact ⟨s.toks, t, s.toks + 1, Heap.get?_push_size _ rfl⟩
theorem vals_ints : ∀ (n a : Nat) (vs : List Value), vs.length = n → (∀ (i : Nat) (v : Value), vs[i]? = some v → ∃ t, v = .int ((a + i : Nat) : Int) t) → Vals ((List.range' a n).map fun (i : Nat) => V.int ((i : Nat) : Int)) vs
  | 0, a, [], _, _ => .nil
  | n + 1, a, v :: vs, e, h => by
    rw [List.range'_succ, List.map_cons]
    refine .cons ?_ (vals_ints n (a + 1) vs (by simpa using e) fun i u hu => ?_)
    · obtain ⟨t, ht⟩ := h 0 v rfl
      exact ⟨t, ht⟩
    · obtain ⟨t, ht⟩ := h (i + 1) u (by simpa using hu)
      exact ⟨t, by rw [ht]; congr 2; omega⟩
/-- list(range(n)), the range object just laid -/
theorem call_listR (hcalm : X.calm = true) : CallR X (.type "list") (fun xs H Q => ∃ (a : Addr) (n : Nat), xs = [.ref a] ∧ H a = some (.rng 0 n) ∧ n ≤ 1000 ∧ ∀ l, H l = none → Q (.ref l) (upd H l (.lst ((List.range n).map fun (i : Nat) => V.int ((i : Nat) : Int))))) := by
  intro pins s σ H xs us Q I r ⟨a, n, ex, ha, hn, q⟩
  subst ex
  obtain ⟨u, eu, rx⟩ := vals1 r
  subst eu
  cases rx
  obtain ⟨t1, t2, t3, ho⟩ := I.hok a _ ha
  refine call_list_range (n := n) (I.ok.hd hcalm) ho (small_one (by decide) (by decide) (by omega) (by omega)) (by rw [rangeSize_nat]; omega) (by omega) fun h' tk acc c' kk hD hacc => ?_
  have hv : Vals ((List.range n).map fun (i : Nat) => V.int ((i : Nat) : Int)) acc.toList := by
    rw [List.range_eq_range']
    refine vals_ints n 0 _ (by rw [Array.length_toList]; exact hacc.1) fun i v hi => ?_
    obtain ⟨t, ht⟩ := hacc.2 i v (by rw [← Array.getElem?_toList]; exact hi)
    exact ⟨t, by rw [ht]; congr 1; omega⟩
  exact ⟨.ref s.heap.objs.size, _, I.laid (t' := tk) kk (Nat.le_refl _) (show ObjOk X.prog X.w _ _ _ (.lst _) from ⟨by rw [List.length_map, List.length_range]; exact Nat.le_of_lt (Nat.lt_of_le_of_lt hn (by rw [sizeLine_eq]; decide)), acc.toList, c', hv, by rw [Array.toArray_toList]; exact hD⟩), rfl, q _ (I.hok.fresh (Nat.le_refl _))⟩
/-- a subscript of a list or a tuple -/
def rIxE (K : PySem.W.Frag) : R2 := fun x y H Q => rIxL K x y H Q ∨ rIxT K x y H Q
theorem ix_either (K : PySem.W.Frag) (h : X.K = K) : IxR X (rIxE K) := by
  subst h
  intro value slice pins s σ H x y v u Q I rx ry q hs
  rcases q with q | q
  · exact ix_list value slice pins s σ H x y v u Q I rx ry q hs
  · exact ix_tup value slice pins s σ H x y v u Q I rx ry q hs
end
/-! ### while the script's row is read on -/
section
variable {T : List (Addr × Str)} {H H0 H1 H' : Hp} {p q sc : Addr} {o o' : HO}
theorem ExtX.add (e : ExtX T q H0 H) (h : H p = none) : ExtX T q H0 (upd H p o) := e.trans (Ext.new (T := T) h).x
theorem ExtX.mutN {xs : List V} (e : ExtX T q H0 H) (h0 : H0 p = none) (h : H p = some (.lst xs)) : ExtX T q H0 (upd H p o') :=
  ⟨fun b u z hb n => by rw [upd_ne (ne_of_none hb h0)]; exact e.keep b u z hb n, fun b hb => by
    by_cases z : b = p
    · rw [z, upd_same]; simp
    · rw [upd_ne z]; exact e.dom b hb, fun t => tabs_mut h (soft_lst xs) (e.tabs t)⟩
theorem ExtX.lst (e : ExtX T q H H') (n : p ≠ q) {xs : List V} (h : H p = some (.lst xs)) : H' p = some (.lst xs) := e.keep p _ n h fun ps z => nomatch z
theorem ExtX.sql {K : PySem.W.Frag} (e : ExtX T q H H') (n : p ≠ q) {xs : List V} (h : SqL K H p xs) : SqL K H' p xs := by
  rcases h with (h | ⟨o, h⟩) | h
  · exact .inl (.inl (e.lst n h))
  · exact .inl (.inr ⟨o, e.keep _ _ n h fun ps z => nomatch z⟩)
  · exact .inr h
/-- the script is not the row, or is a thing of the top -/
def Stay (K : PySem.W.Frag) (sc p : Addr) (ns : List Int) : Prop := sc ≠ p ∨ ∀ H, SqL K H sc (ns.map V.int)
theorem ExtX.sqlS {K : PySem.W.Frag} {ns : List Int} (e : ExtX T q H H') (n : Stay K sc q ns) (h : SqL K H sc (ns.map V.int)) : SqL K H' sc (ns.map V.int) := by
  rcases n with n | n
  · exact e.sql n h
  · exact n H'
theorem stay_of {K : PySem.W.Frag} {ns : List Int} (h : SqL K H sc (ns.map V.int)) (n : H q = none) : Stay K sc q ns := by
  rcases h with (h | ⟨o, h⟩) | h
  · exact .inl fun z => dom_of h (z ▸ n)
  · exact .inl fun z => dom_of h (z ▸ n)
  · exact .inr fun H => .inr h
/-- the script's row at q: the script, the place, the number mixed, the cell's rest -/
def RowV (H : Hp) (q sc : Addr) : Prop := ∃ i x c : Int, 0 ≤ i ∧ H q = some (.lst [.ref sc, .int i, .int x, .int c])
theorem RowV.upd (r : RowV H q sc) (n : p ≠ q) : RowV (upd H p o) q sc := let ⟨i, x, c, h, e⟩ := r; ⟨i, x, c, h, (upd_ne n.symm).trans e⟩
theorem RowV.dom (r : RowV H q sc) : H q ≠ none := let ⟨_, _, _, _, e⟩ := r; dom_of e
theorem RowV.new (r : RowV H q sc) (h : H p = none) : RowV (L2.upd H p o) q sc := r.upd fun z => r.dom (z ▸ h)
theorem RowV.ext (r : RowV H q sc) (e : Ext T H H') : RowV H' q sc := let ⟨i, x, c, h, z⟩ := r; ⟨i, x, c, h, e.lst z⟩
theorem RowV.kt (r : RowV H q sc) (e : ExtX T q H H') : KT H H' := let ⟨_, _, _, _, z⟩ := r; ExtX.kt z e
theorem RowV.ne (r : RowV H q sc) (h : H p = none) : p ≠ q := fun z => r.dom (z ▸ h)
end
/-- what a comprehension makes while the row is read: n things of the kind -/
theorem lc_draw {J : It} {n : Nat} {G : Hp → Prop} {Y : Nat → Hp → V → Hp → Prop} (w : Walk J n G Y) {T : List (Addr × Str)} {H1 : Hp} {D q sc : Addr} (r1 : RowV H1 q sc) (nD : H1 D = none) {β : Type} (R : Hp → V → β → Prop)
    (kt : ∀ H H' v b, KT H H' → R H v b → R H' v b) (Pb : β → Prop) (hz : n ≤ sizeLine) (hG : ∀ H, ExtX T q H1 H → G H) {g : TG} {te : TE} {vs : List Nat} {σ : L2.St} {Qd : Hp → Prop}
    (hs : ∀ i x H H' (Ad : V → Hp → Prop), i < n → ExtX T q H1 H → RowV H q sc → Y i H x H' → (∀ y H4 b, Pb b → ExtX T q H H4 → RowV H4 q sc → R H4 y b → Ad y H4) →
      g x (wipe σ vs) H' fun σ2 H2 => wipe σ2 vs = wipe σ vs ∧ te σ2 H2 Ad)
    (hd : ∀ H acc bs, ExtX T q H1 H → RowV H q sc → H D = some (.lst acc) → Paired (R H) acc bs → bs.length = n → (∀ b ∈ bs, Pb b) → Qd H) :
    ∃ W : Nat → Nat → Hp → Prop, (∃ m, W 0 m (upd H1 D (.lst []))) ∧ ∀ i m H, W i m H →
      (J.stop i H ∧ Qd H) ∨ (J.go i H ∧ ∃ Nx : Hp → Prop, (∀ H', Nx H' → ∃ m', m' < m ∧ W (i + 1) m' H') ∧ ∀ x H', J.yld i H x H' → g x (wipe σ vs) H' fun σ2 H2 => wipe σ2 vs = wipe σ vs ∧ tYes σ2 H2 fun b H3 =>
        if b = true then te σ2 H3 fun y H4 => ∃ acc, H4 D = some (.lst acc) ∧ acc.length < sizeLine ∧ Nx (upd H4 D (.lst (acc ++ [y]))) else Nx H3) := by
  have dq := r1.ne nD
  have e0 : ExtX T q H1 (upd H1 D (.lst [])) := (Ext.new nD).x
  refine lc_it w (fun i H => ∃ acc bs, ExtX T q H1 H ∧ RowV H q sc ∧ H D = some (.lst acc) ∧ Paired (R H) acc bs ∧ bs.length = i ∧ ∀ b ∈ bs, Pb b) ⟨[], [], e0, r1.upd dq, upd_same, .nil, rfl, fun _ z => nomatch z⟩ (fun i H _ ⟨_, _, e, _⟩ => hG H e) (fun i x H H' hi ⟨acc, bs, e, r, eD, p, hl, hb⟩ y => ?_) fun H ⟨acc, bs, e, r, eD, p, hl, hb⟩ => hd H acc bs e r eD p hl hb
  have st := hs i x H H' (fun y H4 => ∃ acc, H4 D = some (.lst acc) ∧ acc.length < sizeLine ∧ ∃ acc' bs, ExtX T q H1 (upd H4 D (.lst (acc ++ [y]))) ∧ RowV (upd H4 D (.lst (acc ++ [y]))) q sc ∧ (upd H4 D (.lst (acc ++ [y]))) D = some (.lst acc') ∧ Paired (R (upd H4 D (.lst (acc ++ [y])))) acc' bs ∧ bs.length = i + 1 ∧ ∀ b ∈ bs, Pb b) hi e r y fun y H4 b pb e4 r4 ry => ?_
  · exact st
  · have eD4 := e4.lst dq eD
    have l := Paired.length p
    have k4 : KT H H4 := r.kt e4
    have k5 : KT H4 (upd H4 D (.lst (acc ++ [y]))) := KT.mut eD4 fun _ z => nomatch z
    refine ⟨acc, eD4, by omega, acc ++ [y], bs ++ [b], (e.trans e4).mutN nD eD4, r4.upd dq, upd_same, paired_app (Paired.mapP p fun a b ra => kt _ _ _ _ (k4.trans k5) ra) (.cons (kt _ _ _ _ k5 ry) .nil), by rw [List.length_append, hl]; rfl, fun b' hb' => ?_⟩
    rcases List.mem_append.mp hb' with z | z
    · exact hb b' z
    · rw [List.mem_singleton.mp z]
      exact pb
end K5
namespace K5
open PySem PySem.Spec PyProof.Rows L2 LamX RZ
section
variable {T : List (Addr × Str)} {P : Program} {w : World} {K : PySem.W.Frag} {mg : Str → Option Value} {base : Heap} {f : Addr} {fd : FuncData}
abbrev n_Ltaken : List Str := ["_law_row", "_law_many", "_law_found", "_law_cell"]
theorem sc_Ltaken : FnScope n_Ltaken ["_law_row", "_law_many"] (defScope s_Ltaken) := ⟨rfl, rfl, rfl, by decide +kernel, rfl, by decide +kernel, by decide +kernel⟩
/-- the next draw: what it changes is the row at p -/
def spTaken (T : List (Addr × Str)) (K : PySem.W.Frag) : Sp := fun vs H Q _ => ∃ (p sc : Addr) (ns : List Int) (m : Int), vs = [.ref p, .int m] ∧ RowV H p sc ∧ SqL K H sc (ns.map V.int) ∧ Stay K sc p ns ∧ 1 ≤ m ∧ m < 5000 ∧ ∀ (H' : Hp) (r : Int), ExtX T p H H' → RowV H' p sc → 0 ≤ r → r < m → Q (.int r) H'
theorem ok_Ltaken (fr : Fr mg) (F : FnP K "_law_taken" s_Ltaken f fd) : FnOk P w K mg base CX0 1 f fd ["_law_row", "_law_many"] (spTaken T K) := by
  refine F.ok sc_Ltaken (fun vs H Q E h => ?_) (fun cdv A outer s H vs Q E hr h => ?_)
  · obtain ⟨p, sc, ns, m, rfl, _⟩ := h
    rfl
  · obtain ⟨p, sc, ns, m, rfl, ⟨i, x, c, hi, hp⟩, hs, ne, m1, m2, q⟩ := h
    have nd := sc_Ltaken.nd
    have e0 : ∀ o, ExtX T p H (upd H p o) := fun o => ExtX.mutL hp
    have mpos : 0 < m := by omega
    refine ⟨_, (PSs.nox (pss_cons (ps_if (pt_cmpR op_gt (pe_ix ix_list (pv 0) pe_int (fun _ _ => rfl)) pe_int (nomark _)) (pss_cons (ps_set (i := 2) nd rfl (by first | exact .inl rfl | exact .inr rfl) (pe_op op_mod (pe_callTy call_int1 rfl fr.int (by decide +kernel) (pa_cons (pe_ix ix_list (pv 0) pe_int (fun _ _ => rfl)) pa_nil)) (pv 1)))
      (pss_cons (ps_asg (pe_op op_fdiv (pe_ix ix_list (pv 0) pe_int (fun _ _ => rfl)) (pv 1)) (pg_sub (pv 0) pe_int set_list))
      (pss_one (ps_ret (pv 2))))) pss_nil)
      (pss_cons (ps_asg (pe_op op_add (pe_ix ix_list (pv 0) pe_int (fun _ _ => rfl)) pe_int) (pg_sub (pv 0) pe_int set_list))
      (pss_cons (ps_if (pt_cmpR op_gt (pe_ix ix_list (pv 0) pe_int (fun _ _ => rfl)) (pe_callB call_len_seq rfl fr.len (by decide +kernel) (pa_cons (pe_ix ix_list (pv 0) pe_int (fun _ _ => rfl)) pa_nil)) (nomark _)) (pss_cons (ps_asg (pe_op op_mod (pe_callTy call_int1 rfl fr.int (by decide +kernel) (pa_cons (pe_op op_add (pe_op op_mul (pe_ix ix_list (pv 0) pe_int (fun _ _ => rfl)) pe_int) pe_int) pa_nil)) pe_int) (pg_sub (pv 0) pe_int set_list))
      (pss_one (ps_ret (pe_op op_mod (pe_callTy call_int1 rfl fr.int (by decide +kernel) (pa_cons (pe_op op_fdiv (pe_ix ix_list (pv 0) pe_int (fun _ _ => rfl)) pe_int) pa_nil)) (pv 1))))) pss_nil)
      (pss_cons (ps_set (i := 3) nd rfl (by first | exact .inl rfl | exact .inr rfl) (pe_ix ix_list (pe_ix ix_list (pv 0) pe_int (fun _ _ => rfl)) (pe_op op_sub (pe_ix ix_list (pv 0) pe_int (fun _ _ => rfl)) pe_int) (fun _ _ => rfl)))
      (pss_cons (ps_asg (pe_op op_mod (pe_callTy call_int1 rfl fr.int (by decide +kernel) (pa_cons (pe_op op_add (pe_op op_add (pe_op op_mul (pe_ix ix_list (pv 0) pe_int (fun _ _ => rfl)) pe_int) (pv 3)) pe_int) pa_nil)) pe_int) (pg_sub (pv 0) pe_int set_list))
      (pss_cons (ps_if (pt_cmpR op_ge (pv 3) (pe_op op_pow pe_int pe_int) (nomark _)) (pss_one (ps_asg (pe_op op_fdiv (pv 3) (pv 1)) (pg_sub (pv 0) pe_int set_list))) pss_nil)
      (pss_one (ps_ret (pe_op op_mod (pe_callTy call_int1 rfl fr.int (by decide +kernel) (pa_cons (pv 3) pa_nil)) (pv 1))))))))))), ?_⟩
    by_cases hc : c > 0
    · refine ⟨_, rfl, p, _, 3, .int c, rfl, rfl, sql_new hp, rfl, c, 0, rfl, rfl, true, congrArg V.bl (decide_eq_true hc), iteT ?_⟩
      refine ⟨_, rfl, p, _, 3, .int c, rfl, rfl, sql_new hp, rfl, .inl ⟨c, rfl, _, rfl, c, m, rfl, rfl, mpos, ?_⟩⟩
      refine ⟨_, rfl, p, _, 3, .int c, rfl, rfl, sql_new hp, rfl, _, rfl, c, m, rfl, rfl, ⟨by omega, by omega⟩, _, rfl, p, _, 3, 3, rfl, rfl, hp, rfl, ?_⟩
      exact ⟨_, rfl, q _ _ (e0 _) ⟨i, x, c / m, hi, upd_same⟩ (Int.emod_nonneg _ (by omega)) (Int.emod_lt_of_pos _ mpos)⟩
    · refine ⟨_, rfl, p, _, 3, .int c, rfl, rfl, sql_new hp, rfl, c, 0, rfl, rfl, false, congrArg V.bl (decide_eq_false hc), iteF ?_⟩
      refine ⟨_, rfl, p, _, 1, .int i, rfl, rfl, sql_new hp, rfl, _, _, rfl, rfl, _, rfl, p, _, 1, 1, rfl, rfl, hp, rfl, ?_⟩
      generalize hH : upd H p (HO.lst _) = H1
      have hp1 : H1 p = some (.lst [.ref sc, .int (i + 1), .int x, .int c]) := by
        rw [← hH]
        exact upd_same
      have e1 : ExtX T p H H1 := hH ▸ e0 _
      clear hH
      have hs1 := e1.sqlS ne hs
      by_cases hl : i + 1 > ((ns.map V.int).length : Int)
      · refine ⟨_, rfl, p, _, 1, _, rfl, rfl, sql_new hp1, rfl, _, rfl, p, _, 0, .ref sc, rfl, rfl, sql_new hp1, rfl, sc, _, rfl, .inl hs1, _, _, rfl, rfl, true, congrArg V.bl (decide_eq_true hl), iteT ?_⟩
        refine ⟨_, rfl, p, _, 2, .int x, rfl, rfl, sql_new hp1, rfl, x, 48271, rfl, rfl, .inr ⟨by decide, by decide⟩, _, _, rfl, rfl, .inl ⟨_, rfl, _, _, rfl, rfl, show (0 : Int) < 2147483647 by decide, _, rfl, p, _, 2, 2, rfl, rfl, hp1, rfl, ?_⟩⟩
        refine ⟨_, rfl, p, _, 2, _, rfl, rfl, sql_new upd_same, rfl, _, 7, rfl, rfl, ⟨by decide, by decide⟩, .inl ⟨_, rfl, _, rfl, _, m, rfl, rfl, mpos, ?_⟩⟩
        exact q _ _ (e1.trans (ExtX.mutL hp1)) ⟨_, _, _, by omega, upd_same⟩ (Int.emod_nonneg _ (by omega)) (Int.emod_lt_of_pos _ mpos)
      · refine ⟨_, rfl, p, _, 1, _, rfl, rfl, sql_new hp1, rfl, _, rfl, p, _, 0, .ref sc, rfl, rfl, sql_new hp1, rfl, sc, _, rfl, .inl hs1, _, _, rfl, rfl, false, congrArg V.bl (decide_eq_false hl), iteF ?_⟩
        obtain ⟨cell, hcell⟩ : ∃ cell, ns[i.toNat]? = some cell := ⟨ns[i.toNat]'(by rw [List.length_map] at hl; omega), List.getElem?_eq_getElem _⟩
        have hat : atI (ns.map V.int) (i + 1 - 1) = some (.int cell) := atI_of (j := i.toNat) (by rw [List.getElem?_map, hcell]; rfl) (by omega)
        refine ⟨_, rfl, p, _, 0, .ref sc, rfl, rfl, sql_new hp1, rfl, _, rfl, p, _, 1, _, rfl, rfl, sql_new hp1, rfl, _, _, rfl, rfl, sc, _, _, _, rfl, rfl, hs1, hat, ?_⟩
        refine ⟨_, rfl, p, _, 2, .int x, rfl, rfl, sql_new hp1, rfl, x, 48271, rfl, rfl, .inr ⟨by decide, by decide⟩, _, rfl, _, _, rfl, rfl, _, _, rfl, rfl, .inl ⟨_, rfl, _, _, rfl, rfl, show (0 : Int) < 2147483647 by decide, _, rfl, p, _, 2, 2, rfl, rfl, hp1, rfl, ?_⟩⟩
        generalize hH2 : upd H1 p (HO.lst _) = H2
        have hp2 : H2 p = some (.lst [.ref sc, .int (i + 1), .int ((x * 48271 + cell + 11) % 2147483647), .int c]) := by
          rw [← hH2]
          exact upd_same
        have e2 : ExtX T p H H2 := e1.trans (hH2 ▸ ExtX.mutL hp1)
        clear hH2
        refine ⟨_, rfl, 10, 18, rfl, rfl, ⟨by decide, by decide, by decide⟩, _, _, rfl, rfl, decide (cell ≥ (10 : Int) ^ (18 : Int).toNat), rfl, ?_⟩
        by_cases hg : cell ≥ (10 : Int) ^ (18 : Int).toNat
        · rw [decide_eq_true hg]
          refine iteT ⟨_, rfl, _, rfl, _, m, rfl, rfl, ⟨by omega, by omega⟩, _, rfl, p, _, 3, 3, rfl, rfl, hp2, rfl, ?_⟩
          refine ⟨_, rfl, .inl ⟨_, rfl, _, rfl, _, m, rfl, rfl, mpos, ?_⟩⟩
          exact q _ _ (e2.trans (ExtX.mutL hp2)) ⟨_, _, _, by omega, upd_same⟩ (Int.emod_nonneg _ (by omega)) (Int.emod_lt_of_pos _ mpos)
        · rw [decide_eq_false hg]
          refine iteF ⟨_, rfl, .inl ⟨_, rfl, _, rfl, _, m, rfl, rfl, mpos, ?_⟩⟩
          exact q _ _ e2 ⟨_, _, _, by omega, hp2⟩ (Int.emod_nonneg _ (by omega)) (Int.emod_lt_of_pos _ mpos)
abbrev n_Lpick : List Str := ["_law_row", "_law_things"]
theorem sc_Lpick : FnScope n_Lpick ["_law_row", "_law_things"] (defScope s_Lpick) := ⟨rfl, rfl, rfl, by decide +kernel, rfl, by decide +kernel, by decide +kernel⟩
def spPick (T : List (Addr × Str)) (K : PySem.W.Frag) : Sp := fun vs H Q _ => ∃ (p sc l : Addr) (ns : List Int) (xs : List V), vs = [.ref p, .ref l] ∧ RowV H p sc ∧ SqL K H sc (ns.map V.int) ∧ Stay K sc p ns ∧ l ≠ p ∧ H l = some (.lst xs) ∧ 1 ≤ xs.length ∧ xs.length < 5000 ∧ ∀ (H' : Hp) (i : Nat) (v : V), ExtX T p H H' → RowV H' p sc → xs[i]? = some v → Q v H'
theorem ok_Lpick (fr : Fr mg) (g_Ltaken : Kn P w K mg base "_law_taken" ["_law_row", "_law_many"] 1 (spTaken T K)) (F : FnP K "_law_pick" s_Lpick f fd) : FnOk P w K mg base CX0 2 f fd ["_law_row", "_law_things"] (spPick T K) := by
  refine F.ok sc_Lpick (fun vs H Q E h => ?_) (fun cdv A outer s H vs Q E hr h => ?_)
  · obtain ⟨p, sc, l, ns, xs, rfl, _⟩ := h
    rfl
  · obtain ⟨p, sc, l, ns, xs, rfl, rv, hs, ne, lp, hl, l1, l2, q⟩ := h
    have nd := sc_Lpick.nd
    refine ⟨_, (PSs.nox (pss_one (ps_ret (pe_ix ix_list (pv 1) (pe_k g_Ltaken (hr.mono (by decide)) rfl (pa_cons (pv 0) (pa_cons (pe_callB call_len_seq rfl fr.len (by decide +kernel) (pa_cons (pv 1) pa_nil)) pa_nil))) (fun _ _ => rfl))))), ?_⟩
    refine ⟨_, rfl, _, rfl, _, rfl, l, xs, rfl, .inl (sql_new hl), p, sc, ns, _, rfl, rv, hs, ne, by omega, by omega, fun H' r e rv' h0 h1 => ?_⟩
    obtain ⟨v, hv⟩ : ∃ v, xs[r.toNat]? = some v := ⟨xs[r.toNat]'(by omega), List.getElem?_eq_getElem _⟩
    exact ⟨l, xs, r, v, rfl, rfl, sql_new (e.lst lp hl), atI_of hv (by omega), q H' r.toNat v e rv' hv⟩
end
end K5
namespace K5
open PySem PySem.Spec PyProof.Rows L2 LamX RZ
section
variable {T : List (Addr × Str)} {P : Program} {w : World} {K : PySem.W.Frag} {mg : Str → Option Value} {base : Heap} {f : Addr} {fd : FuncData}
theorem ixN_of {n i : Nat} (h : i < n) : ixN n (i : Int) = some i := by
  unfold ixN
  rw [if_pos (by omega), if_pos (by omega)]
  simp
theorem paired_set {α β : Type} {R : α → β → Prop} : ∀ {as : List α} {bs : List β} {i : Nat} {a : α} {b : β}, Paired R as bs → R a b → Paired R (as.set i a) (bs.set i b)
  | [], _, _, _, _, p, _ => by
    cases p
    exact .nil
  | x :: as, _, 0, _, _, p, r => by
    cases p with
    | cons p1 p2 => exact .cons r p2
  | x :: as, _, i + 1, _, _, p, r => by
    cases p with
    | cons p1 p2 => exact .cons p1 (paired_set p2 r)
theorem shaped_ints (r : Row) : SeqAt.shaped (.list (r.map .int)) = true := by
  unfold SeqAt.shaped
  rw [Bool.and_eq_true, decide_eq_true_eq]
  refine ⟨by simp [PyData.canLay0, lay_ints r], ?_⟩
  have := ints_dep r
  simp only [PyData.depth]
  omega
theorem eqv_intsL (l : Row) : PyData.eqv (.list (l.map .int)) (.list []) = decide (l = []) := by
  cases l <;> simp [PyData.eqv, PyData.eqvAll]
abbrev n_Lcrowd : List Str := ["_law_table_here"]
theorem sc_Lcrowd : FnScope n_Lcrowd ["_law_table_here"] (defScope s_Lcrowd) := ⟨rfl, rfl, rfl, by decide +kernel, rfl, by decide +kernel, by decide +kernel⟩
theorem ok_Lcrowd (fr : Fr mg) (F : FnP K "_law_crowd" s_Lcrowd f fd) : FnOk P w K mg base CX0 1 f fd ["_law_table_here"] (spCrowd T) := by
  refine F.ok sc_Lcrowd (fun vs H Q E h => ?_) (fun cdv A outer s H vs Q E hr h => ?_)
  · obtain ⟨a, t, rfl, _⟩ := h
    rfl
  · obtain ⟨a, t, rfl, ta, ne, q⟩ := h
    have nd := sc_Lcrowd.nd
    obtain ⟨vs, ha, pr⟩ := ta.rows
    refine ⟨_, (PSs.nox (pss_one (ps_ret (pe_callTy call_tuple_of rfl fr.tuple (by decide +kernel) (pa_cons (pe_revL (pe_callB (call_sortL (hu66 hr)) rfl fr.sorted (by decide +kernel) (pa_cons (pe_callTy call_list_of rfl fr.list (by decide +kernel) (pa_cons (pv 0) pa_nil)) pa_nil))) pa_nil))))), ?_⟩
    refine ⟨_, rfl, a, vs, rfl, .inr (sqt_new ha), fun l nl => ?_⟩
    have e0 : Ext T H (upd H l (.lst vs)) := .new nl
    have pr0 := Paired.mapP pr fun _ _ r => r.kt e0.kt
    refine ⟨Row, l, vs, t, rowD, VRow (upd H l (.lst vs)), rfl, .inl (sql_new upd_same), sd_rows pr0 ne, fun p zs np pz => ?_⟩
    have e1 := e0.add (o := .lst zs) np
    refine ⟨p, zs, rfl, .inl (.inl upd_same), fun p2 np2 => ?_⟩
    have e2 := e1.add (o := .lst zs.reverse) np2
    refine ⟨p2, _, rfl, .inl ⟨.inl (.inl upd_same), fun l nl => ?_⟩⟩
    have e3 := e2.add (o := .tup zs.reverse) nl
    refine q _ l e3 (e2.free nl) (tab_of_rows upd_same ?_)
    exact paired_rev (Paired.mapP pz fun _ _ r => r.kt ((Ext.new (T := T) np).add np2 |>.add nl).kt)
/-- a row made of two -/
def spRow2 (T : List (Addr × Str)) (F : Row → Row → Row) : Sp := fun vs H Q _ => ∃ (a b : Addr) (r s : Row), vs = [.ref a, .ref b] ∧ IsRow H a r ∧ IsRow H b s ∧ r.length = s.length ∧ r.length ≤ 100 ∧ ∀ H' p, Ext T H H' → H p = none → IsRow H' p (F r s) → Q (.ref p) H'
theorem row_at {r : Row} {i : Nat} (h : i < r.length) : (r.map V.int)[i]? = some (.int (r.getD i 0)) := by
  rw [List.getElem?_map, List.getD_eq_getElem?_getD, List.getElem?_eq_getElem h]
  rfl
abbrev n_Lhigh : List Str := ["_law_one", "_law_other", "_law_at"]
theorem sc_Lhigh : FnScope n_Lhigh ["_law_one", "_law_other"] (defScope s_Lhigh) := ⟨rfl, rfl, rfl, by decide +kernel, rfl, by decide +kernel, by decide +kernel⟩
theorem ok_Lhigh (fr : Fr mg) (F : FnP K "_law_high" s_Lhigh f fd) : FnOk P w K mg base CX0 1 f fd ["_law_one", "_law_other"] (spRow2 T highR) := by
  refine F.ok sc_Lhigh (fun vs H Q E h => ?_) (fun cdv A outer s H vs Q E hr h => ?_)
  · obtain ⟨a, b, r, u, rfl, _⟩ := h
    rfl
  · obtain ⟨a, b, r, u, rfl, ha, hb, hl, hz, q⟩ := h
    have nd := sc_Lhigh.nd
    refine ⟨_, (PSs.nox (pss_one (ps_ret (pe_callTy call_tuple_of rfl fr.tuple (by decide +kernel) (pa_cons (pe_lc (g := (gName 2)) (own := [("_law_at", 2)]) (tt := tYes) rfl nd (pi_range1 rfl fr.range (pa_cons (pe_callB call_len_seq rfl fr.len (by decide +kernel) (pa_cons (pv 0) pa_nil)) pa_nil)) (blkOk_by (N := n_Lhigh) (own := [("_law_at", 2)]) (sc := (defScope s_Lhigh)) (by decide +kernel)) (fun _ _ _ _ _ => (pg_name (i := 2) nd rfl (by first | exact .inl rfl | exact .inr rfl))) (fun _ _ _ _ _ => pts_nil) (fun _ _ _ _ _ => (pe_callB (call_max2 rfl) rfl fr.max (by decide +kernel) (pa_cons (pe_ix (ix_tupK K rfl) (pv 0) (pv 2) (fun _ _ => rfl)) (pa_cons (pe_ix (ix_tupK K rfl) (pv 1) (pv 2) (fun _ _ => rfl)) pa_nil))))) pa_nil))))), ?_⟩
    refine ⟨_, rfl, a, _, rfl, .inr (sqt_new ha), _, rfl, by rw [List.length_map]; omega, by rw [List.length_map]; omega, fun D nD => ?_⟩
    refine lc_out walk_range (T := T) nD VInt (fun _ _ _ _ _ _ _ h => h) (fun k => some (max (r.getD k 0) (u.getD k 0))) (Nat.le_of_lt (small_line (by simp; omega))) (fun _ _ => trivial)
      (fun k x H1 H1' Ad Z hk e y hA hZ => ?_) fun H1 acc e1 eD p1 => ?_
    · obtain ⟨rfl, rfl⟩ := y
      have hk' : k < r.length := by simp at hk; omega
      refine ⟨rfl, lc_yes ?_⟩
      refine ⟨_, rfl, _, rfl, a, _, _, _, rfl, rfl, sqt_new (e.tup ha), atI_of (row_at hk') (by omega), _, rfl, _, rfl, b, _, _, _, rfl, rfl, sqt_new (e.tup hb), atI_of (row_at (i := k) (by omega)) (by omega), _, _, rfl, hA _ _ _ rfl (.refl _ _) ?_⟩
      show V.int _ = V.int _
      congr 1
      split <;> omega
    obtain rfl := vints p1
    rw [filterMap_map, show (((r.map V.int).length : Int)).toNat = r.length by simp, high_range hl] at eD
    refine ⟨D, _, rfl, .inl ⟨sql_new eD, fun p np => q _ p (e1.add np) (e1.free np) upd_same⟩⟩
abbrev n_Lless : List Str := ["_law_one", "_law_other", "_law_at"]
theorem sc_Lless : FnScope n_Lless ["_law_one", "_law_other"] (defScope s_Lless) := ⟨rfl, rfl, rfl, by decide +kernel, rfl, by decide +kernel, by decide +kernel⟩
theorem ok_Lless (fr : Fr mg) (F : FnP K "_law_less" s_Lless f fd) : FnOk P w K mg base CX0 1 f fd ["_law_one", "_law_other"] (spRow2 T lessR) := by
  refine F.ok sc_Lless (fun vs H Q E h => ?_) (fun cdv A outer s H vs Q E hr h => ?_)
  · obtain ⟨a, b, r, u, rfl, _⟩ := h
    rfl
  · obtain ⟨a, b, r, u, rfl, ha, hb, hl, hz, q⟩ := h
    have nd := sc_Lless.nd
    refine ⟨_, (PSs.nox (pss_one (ps_ret (pe_callTy call_tuple_of rfl fr.tuple (by decide +kernel) (pa_cons (pe_lc (g := (gName 2)) (own := [("_law_at", 2)]) (tt := tYes) rfl nd (pi_range1 rfl fr.range (pa_cons (pe_callB call_len_seq rfl fr.len (by decide +kernel) (pa_cons (pv 0) pa_nil)) pa_nil)) (blkOk_by (N := n_Lless) (own := [("_law_at", 2)]) (sc := (defScope s_Lless)) (by decide +kernel)) (fun _ _ _ _ _ => (pg_name (i := 2) nd rfl (by first | exact .inl rfl | exact .inr rfl))) (fun _ _ _ _ _ => pts_nil) (fun _ _ _ _ _ => (pe_callB (call_min2 rfl) rfl fr.min (by decide +kernel) (pa_cons (pe_ix (ix_tupK K rfl) (pv 0) (pv 2) (fun _ _ => rfl)) (pa_cons (pe_ix (ix_tupK K rfl) (pv 1) (pv 2) (fun _ _ => rfl)) pa_nil))))) pa_nil))))), ?_⟩
    refine ⟨_, rfl, a, _, rfl, .inr (sqt_new ha), _, rfl, by rw [List.length_map]; omega, by rw [List.length_map]; omega, fun D nD => ?_⟩
    refine lc_out walk_range (T := T) nD VInt (fun _ _ _ _ _ _ _ h => h) (fun k => some (min (r.getD k 0) (u.getD k 0))) (Nat.le_of_lt (small_line (by simp; omega))) (fun _ _ => trivial)
      (fun k x H1 H1' Ad Z hk e y hA hZ => ?_) fun H1 acc e1 eD p1 => ?_
    · obtain ⟨rfl, rfl⟩ := y
      have hk' : k < r.length := by simp at hk; omega
      refine ⟨rfl, lc_yes ?_⟩
      refine ⟨_, rfl, _, rfl, a, _, _, _, rfl, rfl, sqt_new (e.tup ha), atI_of (row_at hk') (by omega), _, rfl, _, rfl, b, _, _, _, rfl, rfl, sqt_new (e.tup hb), atI_of (row_at (i := k) (by omega)) (by omega), _, _, rfl, hA _ _ _ rfl (.refl _ _) ?_⟩
      show V.int _ = V.int _
      congr 1
      split <;> omega
    obtain rfl := vints p1
    rw [filterMap_map, show (((r.map V.int).length : Int)).toNat = r.length by simp, less_range hl] at eD
    refine ⟨D, _, rfl, .inl ⟨sql_new eD, fun p np => q _ p (e1.add np) (e1.free np) upd_same⟩⟩
abbrev n_Llaid : List Str := ["_law_table_here", "_law_one", "_law_other", "_law_found"]
theorem sc_Llaid : FnScope n_Llaid ["_law_table_here", "_law_one", "_law_other"] (defScope s_Llaid) := ⟨rfl, rfl, rfl, by decide +kernel, rfl, by decide +kernel, by decide +kernel⟩
theorem ok_Llaid (fr : Fr mg) (g_Lhigh : Kn P w K mg base "_law_high" ["_law_one", "_law_other"] 1 (spRow2 T highR)) (g_Lless : Kn P w K mg base "_law_less" ["_law_one", "_law_other"] 1 (spRow2 T lessR)) (F : FnP K "_law_laid" s_Llaid f fd) : FnOk P w K mg base CX0 2 f fd ["_law_table_here", "_law_one", "_law_other"] (spLaid T) := by
  refine F.ok sc_Llaid (fun vs H Q E h => ?_) (fun cdv A outer s H vs Q E hr h => ?_)
  · obtain ⟨a, n, g, t, i, j, rfl, _⟩ := h
    rfl
  · obtain ⟨a, n, g, t, i, j, rfl, ta, G, n1, g1, hij, hj, q⟩ := h
    have nd := sc_Llaid.nd
    obtain ⟨vs, ha, pr⟩ := ta.rows
    have ln := G.len
    have lv := Paired.length pr
    have hi' : i < t.length := by omega
    have hj' : j < t.length := by omega
    obtain ⟨b1, hb1, hr1⟩ := tab_at pr hi'
    obtain ⟨b2, hb2, hr2⟩ := tab_at pr hj'
    have w1 := getD_wide G hi'
    have w2 := getD_wide G hj'
    refine ⟨_, (PSs.nox (pss_cons (ps_set (i := 3) nd rfl (by first | exact .inl rfl | exact .inr rfl) (pe_callTy call_list_of rfl fr.list (by decide +kernel) (pa_cons (pv 0) pa_nil)))
      (pss_cons (ps_asg (pe_tup (pa_cons (pe_k g_Lhigh (hr.mono (by decide)) rfl (pa_cons (pe_ix ix_tup (pv 0) (pv 1) (fun _ _ => rfl)) (pa_cons (pe_ix ix_tup (pv 0) (pv 2) (fun _ _ => rfl)) pa_nil))) (pa_cons (pe_k g_Lless (hr.mono (by decide)) rfl (pa_cons (pe_ix ix_tup (pv 0) (pv 1) (fun _ _ => rfl)) (pa_cons (pe_ix ix_tup (pv 0) (pv 2) (fun _ _ => rfl)) pa_nil))) pa_nil))) (pg_tup rfl (pgs_cons (pg_sub (pv 3) (pv 1) set_list) (pgs_cons (pg_sub (pv 3) (pv 2) set_list) pgs_nil))))
      (pss_one (ps_ret (pe_callTy call_tuple_of rfl fr.tuple (by decide +kernel) (pa_cons (pv 3) pa_nil))))))), ?_⟩
    refine ⟨_, rfl, a, vs, rfl, .inr (sqt_new ha), fun l nl => ?_⟩
    have e1 : Ext T H (upd H l (.lst vs)) := .new nl
    have hl1 : (upd H l (.lst vs)) l = some (.lst vs) := upd_same
    generalize upd H l (.lst vs) = H1 at e1 hl1
    refine ⟨_, rfl, _, rfl, a, vs, _, _, rfl, rfl, sqt_new (e1.tup ha), atI_nat hb1, _, rfl, _, rfl, a, vs, _, _, rfl, rfl, sqt_new (e1.tup ha), atI_nat hb2, b1, b2, _, _, rfl, e1.row hr1, e1.row hr2, by omega, by omega, fun H2 ph e2 nph hh => ?_⟩
    have e12 := e1.trans e2
    refine ⟨_, rfl, _, rfl, a, vs, _, _, rfl, rfl, sqt_new (e12.tup ha), atI_nat hb1, _, rfl, _, rfl, a, vs, _, _, rfl, rfl, sqt_new (e12.tup ha), atI_nat hb2, b1, b2, _, _, rfl, e12.row hr1, e12.row hr2, by omega, by omega, fun H3 pl e3 npl hls => ?_⟩
    have e13 := e12.trans e3
    refine ⟨Nat.le_of_lt (small_line (Nat.le_trans (Nat.le_refl 2) (by decide))), fun pt npt => ?_⟩
    have e14 := e13.add (o := .tup [.ref ph, .ref pl]) npt
    have e4 := (e2.trans e3).add (o := .tup [.ref ph, .ref pl]) npt
    have hl4 := e4.lst hl1
    have hh4 : IsRow (upd H3 pt (.tup [.ref ph, .ref pl])) ph (highR (t.getD i []) (t.getD j [])) := (e3.add npt).row hh
    have hs4 : IsRow (upd H3 pt (.tup [.ref ph, .ref pl])) pl (lessR (t.getD i []) (t.getD j [])) := (Ext.new (T := T) npt).row hls
    have hp4 : (upd H3 pt (.tup [.ref ph, .ref pl])) pt = some (.tup [.ref ph, .ref pl]) := upd_same
    generalize upd H3 pt (.tup [.ref ph, .ref pl]) = H4 at e14 e4 hl4 hh4 hs4 hp4
    refine ⟨pt, _, rfl, sqt_new hp4, rfl, _, _, rfl, _, rfl, _, rfl, l, vs, (i : Int), i, rfl, rfl, hl4, ixN_of (by omega), ?_⟩
    refine ⟨_, _, rfl, _, rfl, _, rfl, l, vs.set i (.ref ph), (j : Int), j, rfl, rfl, upd_same, ixN_of (by rw [List.length_set]; omega), rfl, ?_⟩
    have e15 : Ext T H (upd (upd H4 l (.lst (vs.set i (.ref ph)))) l (.lst ((vs.set i (.ref ph)).set j (.ref pl)))) := (e14.mutL nl hl4).mutL nl upd_same
    have k5 : KT H4 (upd (upd H4 l (.lst (vs.set i (.ref ph)))) l (.lst ((vs.set i (.ref ph)).set j (.ref pl)))) := (KT.mut hl4 fun _ z => nomatch z).trans (KT.mut upd_same fun _ z => nomatch z)
    refine ⟨_, rfl, l, _, rfl, .inl ⟨sql_new upd_same, fun r nr => ?_⟩⟩
    have e16 := e15.add (o := .tup ((vs.set i (.ref ph)).set j (.ref pl))) nr
    have k6 := k5.trans (Ext.new (T := T) (o := .tup ((vs.set i (.ref ph)).set j (.ref pl))) nr).kt
    refine q _ r e16 (e15.free nr) (tab_of_rows upd_same ?_)
    unfold laid
    refine paired_set (paired_set (Paired.mapP pr fun _ _ z => z.kt (e14.kt.trans k6)) ?_) ?_
    · exact ⟨ph, rfl, IsRow.kt hh4 k6⟩
    · exact ⟨pl, rfl, IsRow.kt hs4 k6⟩
abbrev n_Lover : List Str := ["_law_one", "_law_other", "_law_at"]
theorem sc_Lover : FnScope n_Lover ["_law_one", "_law_other"] (defScope s_Lover) := ⟨rfl, rfl, rfl, by decide +kernel, rfl, by decide +kernel, by decide +kernel⟩
theorem ok_Lover (fr : Fr mg) (F : FnP K "_law_over" s_Lover f fd) : FnOk P w K mg base CX0 1 f fd ["_law_one", "_law_other"] (spRows T overR) := by
  refine F.ok sc_Lover (fun vs H Q E h => ?_) (fun cdv A outer s H vs Q E hr h => ?_)
  · obtain ⟨a, b, r, u, rfl, _⟩ := h
    rfl
  · obtain ⟨a, b, r, u, rfl, ha, hb, hl, hz, q⟩ := h
    have nd := sc_Lover.nd
    refine ⟨_, (PSs.nox (pss_one (ps_ret (pe_cmpR (op_eqD hr.units) (pe_lc (g := (gName 2)) (own := [("_law_at", 2)]) rfl nd (pi_range1 rfl fr.range (pa_cons (pe_callB call_len_seq rfl fr.len (by decide +kernel) (pa_cons (pv 0) pa_nil)) pa_nil)) (blkOk_by (N := n_Lover) (own := [("_law_at", 2)]) (sc := (defScope s_Lover)) (by decide +kernel)) (fun _ _ _ _ _ => (pg_name (i := 2) nd rfl (by first | exact .inl rfl | exact .inr rfl))) (fun _ _ _ _ _ => (pts_one (pt_cmpR op_lt (pe_ix (ix_tupK K rfl) (pv 0) (pv 2) (fun _ _ => rfl)) (pe_ix (ix_tupK K rfl) (pv 1) (pv 2) (fun _ _ => rfl)) (nomark _)))) (fun _ _ _ _ _ => (pv 2))) (pe_lst pa_nil) (nomark _))))), ?_⟩
    refine ⟨_, rfl, a, _, rfl, .inr (sqt_new ha), _, rfl, by rw [List.length_map]; omega, by rw [List.length_map]; omega, fun D nD => ?_⟩
    refine lc_out walk_range (T := T) nD VInt (fun _ _ _ _ _ _ _ h => h) (fun k => if r.getD k 0 < u.getD k 0 then some (k : Int) else none) (Nat.le_of_lt (small_line (by simp; omega))) (fun _ _ => trivial)
      (fun k x H1 H1' Ad Z hk e y hA hZ => ?_) fun H1 acc e1 eD p1 => ?_
    · obtain ⟨rfl, rfl⟩ := y
      have hk' : k < r.length := by simp at hk; omega
      refine ⟨rfl, ?_⟩
      refine ⟨_, rfl, _, rfl, a, _, _, _, rfl, rfl, sqt_new (e.tup ha), atI_of (row_at hk') (by omega), _, rfl, _, rfl, b, _, _, _, rfl, rfl, sqt_new (e.tup hb), atI_of (row_at (i := k) (by omega)) (by omega), _, _, rfl, rfl, decide (r.getD k 0 < u.getD k 0), rfl, ?_⟩
      by_cases hq : r.getD k 0 < u.getD k 0
      · rw [decide_eq_true hq]
        exact iteT ⟨_, rfl, hA _ _ _ (if_pos hq) (.refl _ _) (show V.int _ = V.int _ by rw [Int.zero_add])⟩
      · rw [decide_eq_false hq]
        exact iteF (hZ _ (if_neg hq) (.refl _ _))
    obtain rfl := vints p1
    generalize hL : (List.range ((r.map V.int).length : Int).toNat).filterMap (fun k => if r.getD k 0 < u.getD k 0 then some (k : Int) else none) = L at eD
    have hLe : decide (L = []) = overR r u := by
      rw [← hL, show (((r.map V.int).length : Int)).toNat = r.length by simp, ← over_range hl, Bool.eq_iff_iff, decide_eq_true_eq, List.filterMap_eq_nil_iff, List.all_map, List.all_eq_true]
      constructor
      · intro h k hk
        have := h k hk
        split at this
        · cases this
        · exact decide_eq_true (by omega)
      · intro h k hk
        have := of_decide_eq_true (h k hk)
        exact if_neg (by omega)
    refine ⟨Nat.zero_le _, fun em nem => ?_⟩
    refine ⟨_, _, .lst (sql_new ((Ext.new (T := T) nem).lst eD)) (dp_ints L), .lst (sql_new upd_same) .nil, shaped_ints L, shaped_tabs [], ?_⟩
    rw [eqv_intsL, hLe]
    exact q _ (e1.add nem)
abbrev n_Lat_odds : List Str := ["_law_one", "_law_other"]
theorem sc_Lat_odds : FnScope n_Lat_odds ["_law_one", "_law_other"] (defScope s_Lat_odds) := ⟨rfl, rfl, rfl, by decide +kernel, rfl, by decide +kernel, by decide +kernel⟩
theorem ok_Lat_odds (fr : Fr mg) (g_Lover : Kn P w K mg base "_law_over" ["_law_one", "_law_other"] 1 (spRows T overR)) (F : FnP K "_law_at_odds" s_Lat_odds f fd) : FnOk P w K mg base CX0 2 f fd ["_law_one", "_law_other"] (spRows T oddsR) := by
  refine F.ok sc_Lat_odds (fun vs H Q E h => ?_) (fun cdv A outer s H vs Q E hr h => ?_)
  · obtain ⟨a, b, r, u, rfl, _⟩ := h
    rfl
  · obtain ⟨a, b, r, u, rfl, ha, hb, hl, hz, q⟩ := h
    have nd := sc_Lat_odds.nd
    refine ⟨_, (PSs.nox (pss_one (ps_ret (pe_and (pe_not (pe_k g_Lover (hr.mono (by decide)) rfl (pa_cons (pv 0) (pa_cons (pv 1) pa_nil)))) (pe_one (pe_not (pe_k g_Lover (hr.mono (by decide)) rfl (pa_cons (pv 1) (pa_cons (pv 0) pa_nil))))))))), ?_⟩
    refine ⟨_, rfl, _, rfl, a, b, r, u, rfl, ha, hb, hl, hz, fun H1 e1 => ?_⟩
    refine ⟨overR r u, rfl, !overR r u, rfl, ?_⟩
    cases h1 : overR r u with
    | true =>
      refine iteF ?_
      have := q H1 e1
      unfold oddsR at this
      rw [h1] at this
      exact this
    | false =>
      refine iteT ⟨_, rfl, _, rfl, b, a, u, r, rfl, e1.row hb, e1.row ha, hl.symm, by omega, fun H2 e2 => ⟨overR u r, rfl, ?_⟩⟩
      have := q H2 (e1.trans e2)
      unfold oddsR at this
      rw [h1] at this
      exact this
end
end K5
namespace K5
open PySem PySem.Spec PyProof.Rows L2 LamX RZ
section
variable {T : List (Addr × Str)} {P : Program} {w : World} {K : PySem.W.Frag} {mg : Str → Option Value} {base : Heap} {f : Addr} {fd : FuncData}
abbrev n_Lodds : List Str := ["_law_table_here", "_law_found", "_law_one", "_law_other"]
theorem sc_Lodds : FnScope n_Lodds ["_law_table_here"] (defScope s_Lodds) := ⟨rfl, rfl, rfl, by decide +kernel, rfl, by decide +kernel, by decide +kernel⟩
theorem ok_Lodds (fr : Fr mg) (g_Lat_odds : Kn P w K mg base "_law_at_odds" ["_law_one", "_law_other"] 2 (spRows T oddsR)) (F : FnP K "_law_odds" s_Lodds f fd) : FnOk P w K mg base CX0 3 f fd ["_law_table_here"] (spOdds T) := by
  refine F.ok sc_Lodds (fun vs H Q E h => ?_) (fun cdv A outer s H vs Q E hr h => ?_)
  · obtain ⟨a, n, g, t, rfl, _⟩ := h
    rfl
  · obtain ⟨a, n, g, t, rfl, ta, G, n1, g1, q⟩ := h
    have nd := sc_Lodds.nd
    obtain ⟨vs, ha, pr⟩ := ta.rows
    have ln := G.len
    have lv := Paired.length pr
    refine ⟨_, (PSs.nox (pss_cons (ps_set (i := 1) nd rfl (by first | exact .inl rfl | exact .inr rfl) (pe_lst pa_nil))
      (pss_cons (ps_for PassesOwn.never rfl (pi_range1 rfl fr.range (pa_cons (pe_callB call_len_seq rfl fr.len (by decide +kernel) (pa_cons (pv 0) pa_nil)) pa_nil)) (pg_name (i := 2) nd rfl (by first | exact .inl rfl | exact .inr rfl))
      (pss_one (ps_set (i := 1) nd rfl (by first | exact .inl rfl | exact .inr rfl) (pe_op op_cat (pv 1) (pe_lc (g := (gName 3)) (own := [("_law_other", 3)]) rfl nd (pi_range2 rfl fr.range (pa_cons (pe_op op_add (pv 2) pe_int) (pa_cons (pe_callB call_len_seq rfl fr.len (by decide +kernel) (pa_cons (pv 0) pa_nil)) pa_nil))) (blkOk_by (N := n_Lodds) (own := [("_law_other", 3)]) (sc := (defScope s_Lodds)) (by decide +kernel)) (fun _ _ _ _ _ => (pg_name (i := 3) nd rfl (by first | exact .inl rfl | exact .inr rfl))) (fun _ _ _ _ _ => (pts_one (pt_val (pe_k g_Lat_odds (hr.mono (by decide)) rfl (pa_cons (pe_ix (ix_tupK K rfl) (pv 0) (pv 2) (fun _ _ => rfl)) (pa_cons (pe_ix (ix_tupK K rfl) (pv 0) (pv 3) (fun _ _ => rfl)) pa_nil)))))) (fun _ _ _ _ _ => (pe_tup (pa_cons (pv 2) (pa_cons (pv 3) pa_nil)))))))))
      (pss_one (ps_ret (pv 1)))))), ?_⟩
    refine ⟨Nat.zero_le _, fun l nl => ?_⟩
    have s1 : Ext T H (upd H l (.lst [])) := .new nl
    refine ⟨_, rfl, a, _, rfl, .inr (sqt_new (s1.tup ha)), vs.length, rfl, by omega, by omega, ?_⟩
    refine for_it walk_range (fun i σ H' => ∃ l ps y2 y3, σ = [some (.ref a), some (.ref l), y2, y3] ∧ Ext T H H' ∧ H l = none ∧ H' l = some (.lst ps) ∧ Paired (VPair H') ps ((List.range i).flatMap (oddsOf t))) ⟨l, [], none, none, rfl, s1, nl, upd_same, .nil⟩ (fun _ _ _ _ _ => trivial)
      (fun i x σ H1 H1' hi hP y => ?_) fun σ H1 hP => ?_
    · obtain ⟨l, ps, y2, y3, rfl, e1, nl, hl, pp⟩ := hP
      obtain ⟨rfl, rfl⟩ := y
      have hi' : i < t.length := by simpa [lv] using hi
      have lps : ps.length ≤ i * t.length := by
        rw [Paired.length pp]
        exact flat_le _ _ _ fun j _ => oddsOf_le t j
      have lps2 : i * t.length ≤ 100 * 100 := Nat.mul_le_mul (by omega) (by omega)
      refine ⟨_, rfl, _, rfl, _, _, rfl, rfl, _, rfl, a, _, rfl, .inr (sqt_new (e1.tup ha)), _, _, rfl, ⟨by omega, by omega, by omega, by omega⟩, fun D nD => ?_⟩
      refine lc_out walk_range (T := T) nD VPair (fun _ _ _ _ _ h e r => r.kt (e.kt h)) (fun k => if oddsR (t.getD i []) (t.getD (i + 1 + k) []) = true then some (i, i + 1 + k) else none) (Nat.le_of_lt (small_line (by omega))) (fun _ _ => trivial)
        (fun k x H2 H2' Ad Z hk e2 y hA hZ => ?_) fun H2 acc e2 eD p2 => ?_
      · obtain ⟨rfl, rfl⟩ := y
        have hk' : i + 1 + k < t.length := by omega
        have ee := e1.trans e2
        obtain ⟨b1, hb1, hr1⟩ := tab_at pr hi'
        obtain ⟨b2, hb2, hr2⟩ := tab_at pr hk'
        have HT : SqT K H2' a vs := .inl (.inl (ee.tup ha))
        have w1 := getD_wide G hi'
        have w2 := getD_wide G hk'
        refine ⟨rfl, ?_⟩
        refine ⟨_, rfl, _, rfl, a, vs, _, _, rfl, rfl, HT, atI_of hb1 (by omega), _, rfl, _, rfl, a, vs, _, _, rfl, rfl, HT, atI_of hb2 (by omega), ?_⟩
        refine ⟨b1, b2, _, _, rfl, ee.row hr1, ee.row hr2, by omega, by omega, fun H3 e3 => ⟨_, rfl, ite2 (fun yes => ?_) fun no => ?_⟩⟩
        · refine ⟨_, rfl, _, rfl, Nat.le_of_lt (small_line (Nat.le_trans (Nat.le_refl 2) (by decide))), fun t2 nt => hA _ _ (i, i + 1 + k) (if_pos yes) (e3.add nt) ⟨t2, rfl, ?_⟩⟩
          rw [upd_same]
          show some (HO.tup [V.int _, V.int _]) = some (HO.tup [V.int _, V.int _])
          rw [show (0 + (i : Int)) = ((i : Nat) : Int) by omega, show (i : Int) + 1 + (k : Int) = ((i + 1 + k : Nat) : Int) by omega]
        · exact hZ _ (if_neg no) e3
      · have hl2 := e2.lst hl
        have la : acc.length ≤ t.length := by
          rw [Paired.length p2]
          refine Nat.le_trans (List.length_filterMap_le _ _) ?_
          rw [List.length_range]
          omega
        refine ⟨l, D, ps, acc, rfl, rfl, hl2, eD, Nat.le_of_lt (small_line (by omega)), fun p np => ?_⟩
        have e3 := e1.trans e2
        refine ⟨p, ps ++ acc, some (.int (0 + (i : Int))), y3, rfl, e3.add np, e3.free np, upd_same, ?_⟩
        rw [flat_succ]
        rw [show ((vs.length : Int) - (0 + (i : Int) + 1)).toNat = t.length - (i + 1) by omega, oddsOf_out] at p2
        exact paired_app (Paired.mapP pp fun _ _ r => r.kt (e2.add np).kt) (Paired.mapP p2 fun _ _ r => r.kt (Ext.new (T := T) np).kt)
    · obtain ⟨l, ps, y2, y3, rfl, e1, nl, hl, pp⟩ := hP
      refine ⟨_, rfl, q H1 l ps e1 nl hl ?_⟩
      rw [show (vs.length : Int).toNat = t.length by omega] at pp
      exact pp
/-! ### the law's nexts -/
theorem filt_at {α β : Type} (f : α → β) : ∀ l : List α, (List.range l.length).filterMap (fun i => (l[i]?).map f) = l.map f
  | [] => rfl
  | x :: l => by
    rw [List.length_cons, List.range_succ_eq_map, List.filterMap_cons, List.filterMap_map]
    show f x :: _ = f x :: l.map f
    rw [← filt_at f l]
    rfl
theorem kl_of {H : Hp} : ∀ {acc : List V} {ts : List Tab}, Paired (VTab H) acc ts → ∃ kl : KL, acc = kl.map (fun p => V.ref p.1) ∧ kl.map (·.2) = ts ∧ ∀ p ∈ kl, IsTab H p.1 p.2
  | [], _, p => by
    cases p
    exact ⟨[], rfl, rfl, fun _ z => nomatch z⟩
  | v :: acc, _, p => by
    cases p with
    | @cons _ b _ bs p1 p2 =>
      obtain ⟨a, rfl, h⟩ := p1
      obtain ⟨kl, rfl, rfl, hk⟩ := kl_of p2
      refine ⟨(a, b) :: kl, rfl, rfl, fun p hp => ?_⟩
      rcases List.mem_cons.mp hp with rfl | hp
      · exact h
      · exact hk p hp
theorem kl_tabs {H : Hp} {L : KL} (k : ∀ x ∈ L, IsTab H x.1 x.2) : Paired (VTab H) (L.map fun x => V.ref x.1) (L.map (·.2)) := by
  induction L with
  | nil => exact .nil
  | cons x L ih => exact .cons ⟨_, rfl, k x List.mem_cons_self⟩ (ih fun y hy => k y (List.mem_cons_of_mem _ hy))
def tri : Nat → Nat
  | 0 => 0
  | n + 1 => n + tri n
theorem odds_tri : ∀ t : Tab, oddsN t ≤ tri t.length
  | [] => Nat.le_refl _
  | r :: t => by
    have h1 := odds_tri t
    have h2 : t.countP (oddsR r) ≤ t.length := List.countP_le_length
    show t.countP (oddsR r) + oddsN t ≤ t.length + tri t.length
    omega
theorem tri_mono {a b : Nat} (h : a ≤ b) : tri a ≤ tri b := by
  induction h with
  | refl => exact Nat.le_refl _
  | step _ ih =>
    show _ ≤ _ + tri _
    omega
theorem odds_ten {n g : Nat} {t : Tab} (G : Good n g t) (sm : Small n g) : (oddsT t).length ≤ 10 := by
  rw [odds_len]
  have h1 := odds_tri t
  have h2 : t.length ≤ 5 := by
    rw [G.len]
    obtain ⟨_, _, z⟩ := sm
    omega
  exact Nat.le_trans h1 (tri_mono h2)
abbrev n_Lnexts : List Str := ["_law_table_here", "_law_one", "_law_other"]
theorem sc_Lnexts : FnScope n_Lnexts ["_law_table_here"] (defScope s_Lnexts) := ⟨rfl, rfl, rfl, by decide +kernel, rfl, by decide +kernel, by decide +kernel⟩
theorem ok_Lnexts (fr : Fr mg) (g_Lodds : Kn P w K mg base "_law_odds" ["_law_table_here"] 3 (spOdds T)) (g_Lcrowd : Kn P w K mg base "_law_crowd" ["_law_table_here"] 1 (spCrowd T)) (g_Llaid : Kn P w K mg base "_law_laid" ["_law_table_here", "_law_one", "_law_other"] 2 (spLaid T))
    (F : FnP K "_law_nexts" s_Lnexts f fd) : FnOk P w K mg base CX0 4 f fd ["_law_table_here"] (spNexts T) := by
  refine F.ok sc_Lnexts (fun vs H Q E h => ?_) (fun cdv A outer s H vs Q E hr h => ?_)
  · obtain ⟨a, n, g, t, rfl, _⟩ := h
    rfl
  · obtain ⟨a, n, g, t, rfl, ta, G, sm, q⟩ := h
    have nd := sc_Lnexts.nd
    have l10 := odds_ten G sm
    obtain ⟨z1, z2, z3⟩ := sm
    have ln := G.len
    refine ⟨_, (PSs.nox (pss_one (ps_ret (pe_callB (call_sortS rfl (hu66 hr)) rfl fr.sorted (by decide +kernel) (pa_cons (pe_callTy (call_setL rfl hr.units) rfl fr.set (by decide +kernel) (pa_cons (pe_lc (g := (gTup K 2 (gCons (gName 1) (gCons (gName 2) gNil)))) (own := [("_law_one", 1), ("_law_other", 2)]) (tt := tYes) rfl nd (pi_list (pe_k g_Lodds (hr.mono (by decide)) rfl (pa_cons (pv 0) pa_nil))) (blkOk_by (N := n_Lnexts) (own := [("_law_one", 1), ("_law_other", 2)]) (sc := (defScope s_Lnexts)) (by decide +kernel)) (fun _ _ _ _ _ => (pg_tup rfl (pgs_cons (pg_name (i := 1) nd rfl (by first | exact .inl rfl | exact .inr rfl)) (pgs_cons (pg_name (i := 2) nd rfl (by first | exact .inl rfl | exact .inr rfl)) pgs_nil)))) (fun _ _ _ _ _ => pts_nil) (fun _ _ _ _ _ => (pe_k g_Lcrowd (hr.mono (by decide)) rfl (pa_cons (pe_k g_Llaid (hr.mono (by decide)) rfl (pa_cons (pv 0) (pa_cons (pv 1) (pa_cons (pv 2) pa_nil)))) pa_nil)))) pa_nil)) pa_nil))))), ?_⟩
    refine ⟨_, rfl, a, n, g, t, rfl, ta, G, by omega, by omega, fun H1 po ps e1 npo hpo pps => ?_⟩
    have lps := Paired.length pps
    refine ⟨po, rfl, ⟨ps, sql_new hpo⟩, fun D nD => ?_⟩
    refine lc_out (walk_list (xs := ps)) (T := T) nD VTab (fun _ _ _ _ _ h e r => r.kt (e.kt h)) (fun i => ((oddsT t)[i]?).map fun p => crowd (laid t p.1 p.2)) (Nat.le_of_lt (small_line (by omega))) (fun H' e => sql_new (e.lst hpo))
      (fun i x H3 H3' Ad Z hi e3 y hA hZ => ?_) fun H3 acc e3 eD p3 => ?_
    · obtain ⟨rfl, hx⟩ := y
      obtain ⟨p, hp, b, rfl, hb⟩ := paired_at pps hx
      obtain ⟨o1, o2, o3⟩ := mem_odds.mp (List.mem_of_getElem? hp)
      refine ⟨b, _, rfl, .inl (.inl (e3.tup hb)), rfl, _, _, rfl, _, _, rfl, rfl, rfl, lc_yes ?_⟩
      refine ⟨_, rfl, _, rfl, _, rfl, a, n, g, t, p.1, p.2, rfl, (e1.trans e3).tab ta, G, by omega, by omega, o1, by omega, fun H4 p4 e4 np4 t4 => ?_⟩
      have G4 := laid_good G (i := p.1) (j := p.2) (by omega) o2
      refine ⟨p4, _, rfl, t4, good_ne G4 z2, fun H5 p5 e5 np5 t5 => ?_⟩
      exact hA _ _ _ (by rw [hp]; rfl) (e4.trans e5) ⟨p5, rfl, t5⟩
    have eL : ((List.range ps.length).filterMap fun i => ((oddsT t)[i]?).map fun p => crowd (laid t p.1 p.2)) = deeds t := by
      rw [lps, filt_at]
      rfl
    rw [eL] at p3
    obtain ⟨kl, rfl, ekl, hkl⟩ := kl_of p3
    have lkl : kl.length ≤ 16 := by
      have h1 := congrArg List.length ekl
      unfold deeds at h1
      rw [List.length_map, List.length_map] at h1
      omega
    refine ⟨D, kl, rfl, sql_new eD, hkl, lkl, fun s L ns hsub hcov hnd => ?_⟩
    have e4 : Ext T H3 (upd H3 s (SetKO P w s L)) := .new ns
    have tL : ∀ x ∈ L, IsTab (upd H3 s (SetKO P w s L)) x.1 x.2 := fun x hx => e4.tab (hkl x (hsub x hx))
    refine ⟨s, L, rfl, upd_same, VTab (upd H3 s (SetKO P w s L)), fun L' pm => ?_, fun p zs L' np pm pz => ?_⟩
    · refine sd_tabs (kl_tabs fun x hx => tL x (pm.mem_iff.mp hx)) fun r hr z => ?_
      obtain ⟨x, hx, rfl⟩ := List.mem_map.mp hr
      have hd : x.2 ∈ deeds t := by
        rw [← ekl]
        exact List.mem_map_of_mem (hsub x (pm.mem_iff.mp hx))
      obtain ⟨pp, hpp, e⟩ := List.mem_map.mp hd
      obtain ⟨o1, o2, o3⟩ := mem_odds.mp hpp
      have := ((laid_good G (i := pp.1) (j := pp.2) (by omega) o2).crowd).len
      rw [e, z] at this
      simp at this
      omega
    · have pz : Paired (VTab (upd H3 s (SetKO P w s L))) zs ((L'.map (·.2)).mergeSort tabLe) := pz
      rw [nexts_eq (t := t) ((pm.map (·.2)).nodup_iff.mpr hnd) fun x => ?_] at pz
      · have e5 := ((e1.trans e3).trans e4).add (o := .lst zs) np
        exact q _ p zs e5 (((e1.trans e3).trans e4).free np) upd_same (VTabs.kt pz (Ext.new (T := T) np).kt)
      · rw [(pm.map (·.2)).mem_iff, ← ekl]
        constructor
        · intro h
          obtain ⟨y, hy, rfl⟩ := List.mem_map.mp h
          exact List.mem_map_of_mem (hsub y hy)
        · intro h
          obtain ⟨y, hy, rfl⟩ := List.mem_map.mp h
          exact hcov y hy
end
end K5
namespace K5
open PySem PySem.Spec PyProof.Rows PySem.W L2 LamX RZ

/-! ### the law's dict: least, most, ways -/
def VDW (H : Hp) (v : V) (d : Nat) (b : Nat × Nat) : Prop := ∃ a, v = .ref a ∧ H a = some (.lst [.int d, .int b.1, .int b.2])
section
variable {P : Program} {w : World} {T : List (Addr × Str)} {H H' : Hp} {d l r : Addr} {kvs kvs' : List (Tab × V)} {rs ls : List V} {F F' : BF} {L rim : List Tab} {o : HO} {m m' : Tab → Nat × Nat} {v : V} {e : Nat} {b : Nat × Nat}
theorem VDW.ext (k : Ext T H H') (v : V) (e : Nat) (b : Nat × Nat) (h : VDW H v e b) : VDW H' v e b := let ⟨a, z, h⟩ := h; ⟨a, z, k.lst h⟩
theorem VDW.updD (g : DictW P w H d kvs) (v : V) (e : Nat) (b : Nat × Nat) (h : VDW H v e b) : VDW (upd H d o) v e b := let ⟨a, z, h⟩ := h; ⟨a, z, (upd_ne (g.neL h)).trans h⟩
theorem VDW.updL (hl : H l = some (.lst ls)) (pl : Paired (VTab H) ls L) (v : V) (e : Nat) (b : Nat × Nat) (h : VDW H v e b) : VDW (upd H l o) v e b := by
  obtain ⟨a, z, h⟩ := h
  refine ⟨a, z, (upd_ne fun q => ?_).trans h⟩
  rw [q, hl] at h
  have h := HO.lst.inj (Option.some.inj h)
  subst h
  cases pl with
  | cons p1 p2 =>
    obtain ⟨_, z, _⟩ := p1
    cases z
/-- the law's search -/
structure Lm (P : Program) (w : World) (H : Hp) (d r l : Addr) (kvs : List (Tab × V)) (rs ls : List V) (F : BF) (L rim : List Tab) (m : Tab → Nat × Nat) : Prop where
  hW : DictW P w H d kvs
  fo : FO VDW H kvs F m
  hr : H r = some (.lst rs)
  pr : Paired (VTab H) rs rim
  hl : H l = some (.lst ls)
  pl : Paired (VTab H) ls L
theorem Lm.ext (s : Lm P w H d r l kvs rs ls F L rim m) (e : Ext T H H') : Lm P w H' d r l kvs rs ls F L rim m :=
  ⟨s.hW.ext e, s.fo.mono (VDW.ext e), e.lst s.hr, VTabs.kt s.pr e.kt, e.lst s.hl, VTabs.kt s.pl e.kt⟩
theorem Lm.found (s : Lm P w H d r l kvs rs ls F L rim m) (g : DictW P w (upd H d o) d kvs') (fo : FO VDW H kvs' F' m) : Lm P w (upd H d o) d r l kvs' rs ls F' L rim m :=
  ⟨g, fo.mono (VDW.updD s.hW), (upd_ne (s.hW.neL s.hr)).trans s.hr, VTabs.kt s.pr s.hW.ktm, (upd_ne (s.hW.neL s.hl)).trans s.hl, VTabs.kt s.pl s.hW.ktm⟩
theorem Lm.later {x : Tab} (s : Lm P w H d r l kvs rs ls F L rim m) (n : r ≠ l) (hx : VTab H v x) : Lm P w (upd H l (.lst (ls ++ [v]))) d r l kvs rs (ls ++ [v]) F (L ++ [x]) rim m := by
  have k : KT H (upd H l (.lst (ls ++ [v]))) := KT.mut s.hl fun _ z => nomatch z
  exact ⟨s.hW.kt k (upd_ne (s.hW.neL s.hl).symm), s.fo.mono (VDW.updL s.hl s.pl), (upd_ne n).trans s.hr, VTabs.kt s.pr k, upd_same, paired_app (VTabs.kt s.pl k) (.cons (hx.kt k) .nil)⟩
end
/-! ### both sums at once -/
def opMW (a b : Nat × Nat) : Nat × Nat := (opM a.1 b.1, opW a.2 b.2)
theorem opMW_comm (a b c : Nat × Nat) : opMW (opMW a b) c = opMW (opMW a c) b := by
  unfold opMW
  simp only
  rw [opM_comm, opW_comm]
theorem step_fst (h t : Tab) (v : Tab → Nat × Nat) : (fun x => (stepF opMW h v t x).1) = stepF opM h (fun y => (v y).1) t := by
  funext x
  unfold stepF updF opMW
  split <;> rfl
theorem step_snd (h t : Tab) (v : Tab → Nat × Nat) : (fun x => (stepF opMW h v t x).2) = stepF opW h (fun y => (v y).2) t := by
  funext x
  unfold stepF updF opMW
  split <;> rfl
theorem acc_fst (h : Tab) : ∀ (l : List Tab) (v : Tab → Nat × Nat), (fun x => ((l.foldl (stepF opMW h) v) x).1) = l.foldl (stepF opM h) fun y => (v y).1
  | [], v => rfl
  | t :: l, v => by
    rw [List.foldl_cons, List.foldl_cons, acc_fst h l, step_fst]
theorem acc_snd (h : Tab) : ∀ (l : List Tab) (v : Tab → Nat × Nat), (fun x => ((l.foldl (stepF opMW h) v) x).2) = l.foldl (stepF opW h) fun y => (v y).2
  | [], v => rfl
  | t :: l, v => by
    rw [List.foldl_cons, List.foldl_cons, acc_snd h l, step_snd]
theorem run_fst : ∀ (S : List Tab) (v : Tab → Nat × Nat), (fun x => (runF opMW v S x).1) = runF opM (fun y => (v y).1) S
  | [], v => rfl
  | s :: S, v => by
    show (fun x => (runF opMW (accF opMW v s) S x).1) = runF opM (accF opM (fun y => (v y).1) s) S
    rw [run_fst S]
    congr 1
    exact acc_fst s (nexts s) v
theorem run_snd : ∀ (S : List Tab) (v : Tab → Nat × Nat), (fun x => (runF opMW v S x).2) = runF opW (fun y => (v y).2) S
  | [], v => rfl
  | s :: S, v => by
    show (fun x => (runF opMW (accF opMW v s) S x).2) = runF opW (accF opW (fun y => (v y).2) s) S
    rw [run_snd S]
    congr 1
    exact acc_snd s (nexts s) v
def start2 (t : Tab) : Tab → Nat × Nat := fun x => (0, if x = crowd t then 1 else 0)
def best2 (t : Tab) : Tab → Nat × Nat := fun x => (mostOf t x, waysOf t x)
/-- the keys in the order of the law -/
def lawL (K : List Tab) : List (Int × Tab) := (K.map fun x => (negO x, x)).mergeSort (dataLe false ktD)
theorem ktD_eq (p : Int × Tab) : ktD p = Datum.toD ((p.1, Tup.mk (p.2.map Tup.mk)) : Int × Tup (Tup Int)) := by
  unfold ktD
  rw [tabD_eq]
  rfl
theorem kt_le {a b : Int × Tab} (h : dataLe false ktD a b = true) : a.1 ≤ b.1 := by
  have h : (!dataLt (ktD b) (ktD a)) = true := h
  rw [Bool.not_eq_true', ktD_eq, ktD_eq, DatumOrd.lt_eq] at h
  by_cases e : b.1 < a.1
  · exfalso
    have h : (if b.1 = a.1 then DatumOrd.lt (Tup.mk (b.2.map Tup.mk)) (Tup.mk (a.2.map Tup.mk)) else decide (b.1 < a.1)) = false := h
    rw [if_neg (by omega), decide_eq_true e] at h
    cases h
  · omega
theorem lawL_perm (K : List Tab) : ((lawL K).map (·.2)).Perm K := by
  have h : (lawL K).Perm (K.map fun x => (negO x, x)) := List.mergeSort_perm _ _
  have h2 := h.map (·.2)
  rw [List.map_map] at h2
  have e : K.map ((fun x : Int × Tab => x.2) ∘ fun x => (negO x, x)) = K := List.map_id K
  rw [e] at h2
  exact h2
theorem lawL_fst {K : List Tab} {p : Int × Tab} (h : p ∈ lawL K) : p.1 = negO p.2 ∧ p.2 ∈ K := by
  have h := (List.mergeSort_perm _ _).mem_iff.mp h
  obtain ⟨x, hx, rfl⟩ := List.mem_map.mp h
  exact ⟨rfl, hx⟩
theorem lawL_topo {n g : Nat} {K : List Tab} (h : ∀ x ∈ K, Good n g x) : Topo n g ((lawL K).map (·.2)) := by
  refine topo_of (fun x hx => h x ((lawL_perm K).mem_iff.mp hx)) ?_
  rw [List.pairwise_map]
  refine (sort_pw (sortLe_total ..) _).imp_of_mem fun {a b} ha hb h => ?_
  rw [← (lawL_fst ha).1, ← (lawL_fst hb).1]
  exact kt_le h
theorem lawL_run {n g : Nat} {t : Tab} (G : Good n g t) : runF opMW (start2 t) ((lawL (ks (bfs t))).map (·.2)) = best2 t := by
  have BO := bfs_ok G
  have gd : ∀ x ∈ ks (bfs t), Good n g x := fun x hx => (BO.good x hx).1
  rw [run_eq opMW opMW_comm ((lawL_perm _).trans (ordK_perm _).symm) (start2 t) (lawL_topo gd) (ordK_topo gd)]
  funext x
  have h1 := congrFun (run_fst (ordK (ks (bfs t))) (start2 t)) x
  have h2 := congrFun (run_snd (ordK (ks (bfs t))) (start2 t)) x
  exact Prod.ext h1 h2
end K5
namespace K5
open PySem PySem.Spec PyProof.Rows L2 LamX RZ
section
variable {T : List (Addr × Str)} {P : Program} {w : World} {K : PySem.W.Frag} {mg : Str → Option Value} {base : Heap} {f : Addr} {fd : FuncData}
abbrev n_Lmet : List Str := ["_law_table_here", "_law_start", "_law_found", "_law_rim", "_law_turn", "_law_later", "_law_here", "_law_told", "_law_size"]
theorem sc_Lmet : FnScope n_Lmet ["_law_table_here"] (defScope s_Lmet) := ⟨rfl, rfl, rfl, by decide +kernel, rfl, by decide +kernel, by decide +kernel⟩
def spMet (P : Program) (w : World) (T : List (Addr × Str)) : Sp := fun vs H Q _ => ∃ (a : Addr) (n g : Nat) (t : Tab), vs = [.ref a] ∧ TabOk H a n g t ∧ ∀ H' d kvs, Ext T H H' → H d = none → DictW P w H' d kvs → FO VDW H' kvs (bfs t) (best2 t) → Q (.ref d) H'
theorem ok_Lmet (fr : Fr mg) (g_Lodds : Kn P w K mg base "_law_odds" ["_law_table_here"] 3 (spOdds T)) (g_Lcrowd : Kn P w K mg base "_law_crowd" ["_law_table_here"] 1 (spCrowd T)) (g_Lnexts : Kn P w K mg base "_law_nexts" ["_law_table_here"] 4 (spNexts T))
    (F : FnP K "_law_met" s_Lmet f fd) : FnOk P w K mg base CX0 5 f fd ["_law_table_here"] (spMet P w T) := by
  refine F.ok sc_Lmet (fun vs H Q E h => ?_) (fun cdv A outer s H vs Q E hr h => ?_)
  · obtain ⟨a, n, g, t, rfl, _⟩ := h
    rfl
  · obtain ⟨a, n, g, t, rfl, tok, q⟩ := h
    have nd := sc_Lmet.nd
    have G := tok.good
    have sm := tok.small
    have z2 : 1 ≤ g := sm.2.1
    have BO := bfs_ok G
    have l10 := odds_ten G sm
    rw [odds_len] at l10
    refine ⟨_, (PSs.nox (pss_cons (ps_set (i := 1) nd rfl (by first | exact .inl rfl | exact .inr rfl) (pe_k g_Lcrowd (hr.mono (by decide)) rfl (pa_cons (pv 0) pa_nil)))
      (pss_cons (ps_par (i := 2) (j := 3) rfl nd rfl rfl (by decide) rfl rfl (pa_cons (pe_none1 hr.units (pv 1) (pe_lst (pa_cons pe_int (pa_cons pe_int (pa_cons pe_int pa_nil))))) (pa_cons (pe_lst (pa_cons (pv 1) pa_nil)) pa_nil)) rfl)
      (pss_cons (ps_for PassesOwn.never rfl (pi_range1 rfl fr.range (pa_cons pe_int pa_nil)) (pg_name (i := 4) nd rfl (by first | exact .inl rfl | exact .inr rfl))
      (pss_cons (ps_if (pt_cmpR (op_eqD hr.units) (pv 3) (pe_lst pa_nil) (nomark _)) (pss_one ps_break) pss_nil)
      (pss_cons (ps_set (i := 5) nd rfl (by first | exact .inl rfl | exact .inr rfl) (pe_lst pa_nil))
      (pss_cons (ps_for PassesOwn.never rfl (pi_list (pv 3)) (pg_name (i := 6) nd rfl (by first | exact .inl rfl | exact .inr rfl))
      (pss_one (ps_for PassesOwn.never rfl (pi_list (pe_k g_Lnexts (hr.mono (by decide)) rfl (pa_cons (pv 6) pa_nil))) (pg_name (i := 7) nd rfl (by first | exact .inl rfl | exact .inr rfl))
      (pss_one (ps_if (pt_cmp (pc_nnotin hr.units (pv 7) (pv 2)) rfl) (pss_cons (ps_nput hr.units (pv 2) (pv 7) (pe_lst (pa_cons (pe_op op_add (pe_ix ix_list (pe_nget hr.units (pv 2) (pv 6) (fun _ _ => rfl)) pe_int (fun _ _ => rfl)) pe_int) (pa_cons pe_int (pa_cons pe_int pa_nil)))) rfl)
      (pss_one (ps_expr (pe_bm PySem.F.plainAttrs_list PySem.F.slot_list_append PySem.F.type_list_append mt_append (pv 5) (pa_cons (pv 7) pa_nil))))) pss_nil)))))
      (pss_one (ps_set (i := 3) nd rfl (by first | exact .inl rfl | exact .inr rfl) (pv 5)))))))
      (pss_cons (ps_for PassesOwn.never rfl (pi_list (pe_callB (call_sortL (hu66 hr)) rfl fr.sorted (by decide +kernel) (pa_cons (pe_lc (g := (gName 7)) (own := [("_law_told", 7)]) (tt := tYes) rfl nd (pi_list (pe_callTy (call_listN rfl) rfl fr.list (by decide +kernel) (pa_cons (pv 2) pa_nil))) (blkOk_by (N := n_Lmet) (own := [("_law_told", 7)]) (sc := (defScope s_Lmet)) (by decide +kernel)) (fun _ _ _ _ _ => (pg_name (i := 7) nd rfl (by first | exact .inl rfl | exact .inr rfl))) (fun _ _ _ _ _ => pts_nil) (fun _ _ _ _ _ => (pe_tup (pa_cons (pe_op op_sub pe_int (pe_callB (call_len_seqK K rfl) rfl fr.len (by decide +kernel) (pa_cons (pe_k g_Lodds (hr.mono (by decide)) rfl (pa_cons (pv 7) pa_nil)) pa_nil))) (pa_cons (pv 7) pa_nil))))) pa_nil))) (pg_tup rfl (pgs_cons (pg_name (i := 8) nd rfl (by first | exact .inl rfl | exact .inr rfl)) (pgs_cons (pg_name (i := 6) nd rfl (by first | exact .inl rfl | exact .inr rfl)) pgs_nil)))
      (pss_one (ps_for PassesOwn.never rfl (pi_list (pe_k g_Lnexts (hr.mono (by decide)) rfl (pa_cons (pv 6) pa_nil))) (pg_name (i := 7) nd rfl (by first | exact .inl rfl | exact .inr rfl))
      (pss_one (ps_nput hr.units (pv 2) (pv 7) (pe_lst (pa_cons (pe_ix ix_list (pe_nget hr.units (pv 2) (pv 7) (fun _ _ => rfl)) pe_int (fun _ _ => rfl)) (pa_cons (pe_callB (call_max2 rfl) rfl fr.max (by decide +kernel) (pa_cons (pe_ix ix_list (pe_nget hr.units (pv 2) (pv 7) (fun _ _ => rfl)) pe_int (fun _ _ => rfl)) (pa_cons (pe_op op_add (pe_ix ix_list (pe_nget hr.units (pv 2) (pv 6) (fun _ _ => rfl)) pe_int (fun _ _ => rfl)) pe_int) pa_nil))) (pa_cons (pe_op op_add (pe_ix ix_list (pe_nget hr.units (pv 2) (pv 7) (fun _ _ => rfl)) pe_int (fun _ _ => rfl)) (pe_ix ix_list (pe_nget hr.units (pv 2) (pv 6) (fun _ _ => rfl)) pe_int (fun _ _ => rfl))) pa_nil)))) rfl)))))
      (pss_one (ps_ret (pv 2)))))))), ?_⟩
    refine ⟨_, rfl, a, t, rfl, tok.tab, good_ne G z2, fun H1 ps e1 nps ts => ?_⟩
    -- found, rim
    refine fun d H0 hD => ⟨_, rfl, Nat.le_of_lt (small_line (Nat.le_trans (Nat.le_refl 3) (by decide))), fun lp nlp => ?_⟩
    have eA : Ext T H (upd H0 lp (.lst [.int 0, .int 0, .int 1])) := (e1.trans hD.ext).add nlp
    have nd0 : H d = none := e1.free hD.1
    have hW1 : DictW P w (upd H0 lp (.lst [.int 0, .int 0, .int 1])) d [] := (hD.2.choose_spec.2).ext (T := T) (.new nlp)
    have ts1 : IsTab (upd H0 lp (.lst [.int 0, .int 0, .int 1])) ps (crowd t) := (hD.ext (T := T)).add nlp |>.tab ts
    have v1 : VDW (upd H0 lp (.lst [.int 0, .int 0, .int 1])) (.ref lp) 0 (start2 t (crowd t)) := ⟨lp, rfl, by rw [upd_same]; unfold start2; rw [if_pos rfl]; rfl⟩
    refine ⟨ps, crowd t, rfl, hW1, ts1, fun o hW2 => ?_⟩
    have eB : Ext T H (upd (upd H0 lp (.lst [.int 0, .int 0, .int 1])) d o) := hW1.mut eA nd0
    have v2 := VDW.updD (o := o) hW1 _ _ _ v1
    have ts2 := ts1.kt (hW1.ktm (o := o))
    generalize upd (upd H0 lp (.lst [.int 0, .int 0, .int 1])) d o = H2 at hW2 eB v2 ts2
    refine ⟨_, rfl, Nat.le_of_lt (small_line (Nat.le_trans (Nat.le_refl 1) (by decide))), fun r nr => ⟨_, _, rfl, ?_⟩⟩
    have eC : Ext T H2 (upd H2 r (.lst [.ref ps])) := .new nr
    have eD := eB.trans eC
    have nr0 : H r = none := eB.free nr
    have hW3 := hW2.ext eC
    have fo3 : FO VDW (upd H2 r (.lst [.ref ps])) [(crowd t, .ref lp)] [(crowd t, 0)] (start2 t) := .one _ (VDW.ext eC _ _ _ v2)
    have hr3 : (upd H2 r (.lst [.ref ps])) r = some (.lst [.ref ps]) := upd_same
    have pr3 : Paired (VTab (upd H2 r (.lst [.ref ps]))) [.ref ps] [crowd t] := .cons ⟨ps, rfl, eC.tab ts2⟩ .nil
    generalize upd H2 r (.lst [.ref ps]) = H3 at eC eD hW3 fo3 hr3 pr3
    clear v1 v2 hW1 hW2 ts1 ts2
    refine ⟨9999, rfl, by decide, by decide, ?_⟩
    refine for_it walk_range (fun i σ H' => ∃ (r : Addr) (y4 y5 y6 y7 y8 : Option V) (kvs : List (Tab × V)) (rs : List V) (F : BF) (rim done : List Tab) (b k : Nat), σ = [some (.ref a), some (.ref ps), some (.ref d), some (.ref r), y4, y5, y6, y7, y8] ∧ Ext T H H' ∧ H r = none ∧ DictW P w H' d kvs ∧ FO VDW H' kvs F (start2 t) ∧
      H' r = some (.lst rs) ∧ Paired (VTab H') rs rim ∧ BI n g t b done rim (F, []) ∧ Enough k b rim ∧ bfsGo k F rim = bfs t ∧ k + i = oddsN t + 1)
      ⟨r, none, none, none, none, none, _, _, _, _, _, oddsN t, oddsN t + 1, rfl, eD, nr0, hW3, fo3, hr3, pr3, bStart G, .inr (by omega), rfl, rfl⟩ (fun _ _ _ _ _ => trivial) (fun i0 x σ H5 H5' hi hP y => ?_) fun σ H5 hP => ?_
    · obtain ⟨r, y4, y5, y6, y7, y8, kvs, rs, F, rim, done, b, k, rfl, e5, nr, hW, fo, hrs, prs, bi, en, eg, hk⟩ := hP
      obtain ⟨rfl, rfl⟩ := y
      refine ⟨_, rfl, Nat.zero_le _, fun em nem => ?_⟩
      have eE : Ext T H5' (upd H5' em (.lst [])) := .new nem
      have e6 := e5.trans eE
      have prs6 := VTabs.kt prs eE.kt
      have hrs6 := eE.lst hrs
      have hW6 := hW.ext eE
      have fo6 := fo.mono (VDW.ext eE)
      refine ⟨_, _, .lst (sql_new hrs6) (dp_tabs prs6), .lst (sql_new upd_same) .nil, shaped_tabs rim, shaped_tabs [], _, rfl, ?_⟩
      rw [eqv_nil]
      generalize upd H5' em (.lst []) = H6 at eE e6 prs6 hrs6 hW6 fo6
      clear hW fo hrs prs
      cases hrim : decide (rim = []) with
      | true =>
        -- the search is over
        refine iteT ?_
        have hrim := of_decide_eq_true hrim
        subst hrim
        have eF : F = bfs t := by
          rw [← eg]
          cases k <;> rfl
        subst eF
        have few8 : (ks (bfs t)).length ≤ 3000 := few sm G BO.nd BO.good
        obtain ⟨L, hL, rfl, kL⟩ := hW6.n
        have eK : L.map (·.1) = ks (bfs t) := by
          have := fo6.keys
          rw [List.map_map] at this
          exact this
        have pL : Paired (VTab H6) (L.map fun x => V.ref x.2.1) (ks (bfs t)) := eK ▸ dn_tabs kL
        refine ⟨_, rfl, d, L, rfl, hL, kL, fun p np => ?_⟩
        have e7 : Ext T H6 (upd H6 p (.lst (L.map fun x => V.ref x.2.1))) := .new np
        have hp7 : (upd H6 p (.lst (L.map fun x => V.ref x.2.1))) p = some (.lst (L.map fun x => V.ref x.2.1)) := upd_same
        have pL7 := VTabs.kt pL e7.kt
        have hW7 := hW6.ext e7
        have fo7 := fo6.mono (VDW.ext e7)
        generalize upd H6 p (.lst (L.map fun x => V.ref x.2.1)) = H7 at e7 hp7 pL7 hW7 fo7
        refine ⟨p, rfl, ⟨_, sql_new hp7⟩, fun D nD => ?_⟩
        refine lc_out (walk_list (xs := L.map fun x => V.ref x.2.1)) (T := T) nD VKT (fun _ _ _ _ _ h e r => r.kt (e.kt h)) (fun i => ((ks (bfs t))[i]?).map fun x => (negO x, x)) (Nat.le_of_lt (small_line (by rw [Paired.length pL]; omega))) (fun H' e => sql_new (e.lst hp7))
          (fun i x H8 H8' Ad Z hi e8 y hA hZ => ?_) fun H8 acc e8 eD8 p8 => ?_
        · obtain ⟨rfl, hx⟩ := y
          obtain ⟨t1, ht1, ⟨ah, rfl, tabh⟩, hi1⟩ := paired_take pL7 hx
          have hk1 := List.mem_of_getElem? ht1
          have n5 : n ≤ 100 ∧ g ≤ 100 := by
            obtain ⟨_, _, z⟩ := sm
            omega
          refine ⟨rfl, lc_yes ?_⟩
          refine ⟨_, rfl, ah, n, g, t1, rfl, e8.tab tabh, (BO.good t1 hk1).1, n5.1, n5.2, fun H9 po os e9 npo hpo ppo => ⟨po, os, rfl, .inl (sql_new hpo), _, _, rfl, rfl, _, rfl, Nat.le_of_lt (small_line (Nat.le_trans (Nat.le_refl 2) (by decide))), fun tp ntp => ?_⟩⟩
          refine hA _ _ _ (by rw [ht1]; rfl) (e9.add ntp) ⟨tp, ah, rfl, ?_, ((e8.trans e9).add ntp).tab tabh⟩
          rw [upd_same, Paired.length ppo]
          rfl
        have eL8 : ((List.range (L.map fun x => V.ref x.2.1).length).filterMap fun i => ((ks (bfs t))[i]?).map fun x => (negO x, x)) = (ks (bfs t)).map fun x => (negO x, x) := by
          rw [Paired.length pL, filt_at]
        rw [eL8] at p8
        refine ⟨Int × Tab, D, acc, _, ktD, VKT H8, rfl, .inl (sql_new eD8), sd_kts p8, fun p2 zs np2 pz => ?_⟩
        change Paired (VKT H8) zs (lawL (ks (bfs t))) at pz
        have e9 : Ext T H8 (upd H8 p2 (.lst zs)) := .new np2
        have e79 := (e7.trans e8).trans e9
        have e09 := e6.trans e79
        have hW9 := hW6.ext e79
        have fo9 := fo6.mono (VDW.ext e79)
        have hz9 : (upd H8 p2 (.lst zs)) p2 = some (.lst zs) := upd_same
        have pz9 : Paired (VKT (upd H8 p2 (.lst zs))) zs (lawL (ks (bfs t))) := Paired.mapP pz fun _ _ r => r.kt e9.kt
        generalize upd H8 p2 (.lst zs) = H9 at e09 hW9 fo9 hz9 pz9
        refine ⟨p2, rfl, ⟨zs, sql_new hz9⟩, ?_⟩
        clear hW6 fo6 hW7 fo7 pL7 pL p8 pz hrs6 prs6
        refine for_it (walk_list (xs := zs)) (fun i σ H' => ∃ (y4 y5 y6 y7 y8 : Option V) (kvs : List (Tab × V)), σ = [some (.ref a), some (.ref ps), some (.ref d), some (.ref r), y4, y5, y6, y7, y8] ∧ Ext T H H' ∧ DictW P w H' d kvs ∧ FO VDW H' kvs (bfs t) (runF opMW (start2 t) (((lawL (ks (bfs t))).take i).map (·.2))) ∧
          H' p2 = some (.lst zs) ∧ Paired (VKT H') zs (lawL (ks (bfs t)))) ⟨_, _, _, _, _, _, rfl, e09, hW9, fo9, hz9, pz9⟩ (fun i σ H' _ ⟨_, _, _, _, _, _, _, _, _, _, h, _⟩ => sql_new h) (fun i x σ H10 H10' hi hP y => ?_) fun σ H10 hP => ?_
        · obtain ⟨y4, y5, y6, y7, y8, kvs, rfl, e10, hW10, fo10, hz10, pz10⟩ := hP
          obtain ⟨rfl, hx⟩ := y
          obtain ⟨⟨k1, t1⟩, ht1, ⟨tp, ah, rfl, htp, tabh⟩, hi1⟩ := paired_take pz10 hx
          have hk1 : t1 ∈ ks (bfs t) := (lawL_fst (List.mem_of_getElem? ht1)).2
          have hm1 : runF opMW (start2 t) (((lawL (ks (bfs t))).take (i + 1)).map (·.2)) = (nexts t1).foldl (stepF opMW t1) (runF opMW (start2 t) (((lawL (ks (bfs t))).take i).map (·.2))) := by
            rw [take_succ_of ht1, List.map_append]
            unfold runF
            rw [List.foldl_append]
            rfl
          generalize runF opMW (start2 t) (((lawL (ks (bfs t))).take i).map (·.2)) = m8 at fo10 hm1
          refine ⟨tp, _, rfl, sqt_new htp, rfl, _, _, rfl, _, _, rfl, rfl, ?_⟩
          refine ⟨_, rfl, ah, n, g, t1, rfl, tabh, (BO.good t1 hk1).1, sm, fun H11 pz2 zs2 e11 npz hpz pz11 => ⟨pz2, rfl, ⟨zs2, sql_new hpz⟩, ?_⟩⟩
          refine for_it (walk_list (xs := zs2)) (fun j σ H' => ∃ (y7 : Option V) (kvs : List (Tab × V)), σ = [some (.ref a), some (.ref ps), some (.ref d), some (.ref r), y4, y5, some (.ref ah), y7, some (.int k1)] ∧ Ext T H H' ∧ DictW P w H' d kvs ∧ FO VDW H' kvs (bfs t) (((nexts t1).take j).foldl (stepF opMW t1) m8) ∧
            H' p2 = some (.lst zs) ∧ Paired (VKT H') zs (lawL (ks (bfs t))) ∧ H' pz2 = some (.lst zs2) ∧ Paired (VTab H') zs2 (nexts t1) ∧ IsTab H' ah t1) ⟨y7, kvs, rfl, e10.trans e11, hW10.ext e11, by simpa using fo10.mono (VDW.ext e11), e11.lst hz10, Paired.mapP pz10 (fun _ _ r => r.kt e11.kt), hpz, pz11, e11.tab tabh⟩ (fun i σ H' _ ⟨_, _, _, _, _, _, _, _, h, _⟩ => sql_new h) (fun j x σ H12 H12' hj hP y => ?_) fun σ H12 hP => ?_
          · obtain ⟨y7, kvs, rfl, e12, hW12, fo12, hz12, pz12, hpz12, pq12, tab12⟩ := hP
            obtain ⟨rfl, hx⟩ := y
            obtain ⟨t2, ht2, ⟨at2, rfl, tabt⟩, hj1⟩ := paired_take pq12 hx
            have m2 : t2 ∈ nexts t1 := List.mem_of_getElem? ht2
            have hk2 : t2 ∈ ks (bfs t) := BO.clo t1 hk1 t2 m2
            have hS2 := foldl_take (stepF opMW t1) m8 ht2
            generalize ((nexts t1).take j).foldl (stepF opMW t1) m8 = m11 at fo12 hS2
            obtain ⟨v1, hv1, a1, rfl, ha1⟩ := fo12.val t1 hk1
            obtain ⟨v2, hv2, a2, rfl, ha2⟩ := fo12.val t2 hk2
            have lkv : kvs.length ≤ 3000 := by
              have := congrArg List.length fo12.keys
              rw [List.length_map] at this
              omega
            refine ⟨_, rfl, _, rfl, d, at2, kvs, t2, _, rfl, rfl, hW12.n, tabt, hv2, a2, _, 0, _, rfl, rfl, sql_new ha2, rfl, ?_⟩
            refine ⟨_, rfl, _, rfl, d, at2, kvs, t2, _, rfl, rfl, hW12.n, tabt, hv2, a2, _, 1, _, rfl, rfl, sql_new ha2, rfl, _, rfl, _, rfl, d, ah, kvs, t1, _, rfl, rfl, hW12.n, tab12, hv1, a1, _, 1, _, rfl, rfl, sql_new ha1, rfl, _, _, rfl, rfl, _, _, rfl, ?_⟩
            refine ⟨_, rfl, _, rfl, d, at2, kvs, t2, _, rfl, rfl, hW12.n, tabt, hv2, a2, _, 2, _, rfl, rfl, sql_new ha2, rfl, _, rfl, _, rfl, d, ah, kvs, t1, _, rfl, rfl, hW12.n, tab12, hv1, a1, _, 2, _, rfl, rfl, sql_new ha1, rfl, _, _, rfl, rfl, ?_⟩
            refine ⟨Nat.le_of_lt (small_line (Nat.le_trans (Nat.le_refl 3) (by decide))), fun lq nlq => ?_⟩
            have eM : (if ((m11 t1).1 : Int) + 1 > ((m11 t2).1 : Int) then ((m11 t1).1 : Int) + 1 else ((m11 t2).1 : Int)) = ((opMW (m11 t2) (m11 t1)).1 : Int) := by
              unfold opMW opM
              split <;> (simp only; omega)
            have eW : ((m11 t2).2 : Int) + ((m11 t1).2 : Int) = ((opMW (m11 t2) (m11 t1)).2 : Int) := by
              unfold opMW opW
              simp only
              omega
            generalize hH : upd H12' lq (HO.lst _) = H13
            have eN : Ext T H12' H13 := hH ▸ .new nlq
            have vN : VDW H13 (.ref lq) (dOf (bfs t) t2) (opMW (m11 t2) (m11 t1)) := ⟨lq, rfl, by rw [← hH, upd_same, ← eM, ← eW]⟩
            clear hH
            have hz13 := eN.lst hz12
            have hpz13 := eN.lst hpz12
            have kN := eN.kt
            have eNN := e12.trans eN
            have fo13 := fo12.mono (VDW.ext eN)
            have hW13 := hW12.ext eN
            refine ⟨_, rfl, _, rfl, d, at2, kvs, t2, rfl, rfl, hW13, tabt.kt kN, small_line (by omega), fun o hWo => ?_⟩
            have k13 : KT H12' (upd H13 d o) := kN.trans hW13.ktm
            refine ⟨some (.ref at2), _, rfl, hW13.mut eNN nd0, hWo, ?_, (upd_ne (hW13.neL hz13)).trans hz13, Paired.mapP pz12 (fun _ _ r => r.kt k13), (upd_ne (hW13.neL hpz13)).trans hpz13, VTabs.kt pq12 k13, tab12.kt k13⟩
            rw [hS2]
            exact (fo13.put hk2 vN).mono (VDW.updD hW13)
          · obtain ⟨y7, kvs, rfl, e12, hW12, fo12, hz12, pz12, hpz12, pq12, tab12⟩ := hP
            have lz : (nexts t1).take zs2.length = nexts t1 := by rw [Paired.length pq12]; exact List.take_length
            rw [lz] at fo12
            refine ⟨y4, y5, _, y7, _, kvs, rfl, e12, hW12, ?_, hz12, pz12⟩
            rw [hm1]
            exact fo12
        · obtain ⟨y4, y5, y6, y7, y8, kvs, rfl, e10, hW10, fo10, hz10, pz10⟩ := hP
          have lz : (lawL (ks (bfs t))).take zs.length = lawL (ks (bfs t)) := by rw [Paired.length pz10]; exact List.take_length
          rw [lz, lawL_run G] at fo10
          exact ⟨_, rfl, q H10 d kvs e10 nd0 hW10 fo10⟩
      | false =>
        refine iteF ?_
        have hrim := of_decide_eq_false hrim
        obtain ⟨k, rfl⟩ : ∃ j, k = j + 1 := by
          rcases en with z | z
          · exact absurd z hrim
          · exact ⟨k - 1, by omega⟩
        have eg' : bfsGo k (bRound F rim).1 (bRound F rim).2 = bfs t := by
          rw [← eg]
          show _ = if rim = [] then F else bfsGo k (bRound F rim).1 (bRound F rim).2
          rw [if_neg hrim]
        -- later = []
        refine ⟨Nat.zero_le _, fun l nl => ?_⟩
        have eF : Ext T H6 (upd H6 l (.lst [])) := .new nl
        have e7 := e6.trans eF
        have nl0 : H l = none := e6.free nl
        have hrl : r ≠ l := fun z => dom_of hrs6 (z ▸ nl)
        have s7 : Lm P w (upd H6 l (.lst [])) d r l kvs rs [] F [] rim (start2 t) := ⟨hW6.ext eF, fo6.mono (VDW.ext eF), eF.lst hrs6, VTabs.kt prs6 eF.kt, upd_same, .nil⟩
        refine ⟨_, rfl, r, rfl, ⟨rs, sql_new s7.hr⟩, ?_⟩
        refine for_it (walk_list (xs := rs)) (fun i σ H' => ∃ (y6 y7 : Option V) (kvs : List (Tab × V)) (ls : List V), σ = [some (.ref a), some (.ref ps), some (.ref d), some (.ref r), some (.int (0 + (i0 : Int))), some (.ref l), y6, y7, y8] ∧ Ext T H H' ∧
          Lm P w H' d r l kvs rs ls ((rim.take i).foldl bHere (F, [])).1 ((rim.take i).foldl bHere (F, [])).2 rim (start2 t) ∧ BI n g t b (done ++ rim.take i) (rim.drop i) ((rim.take i).foldl bHere (F, [])))
          ⟨y6, y7, kvs, [], rfl, e7, by simpa using s7, by simpa using bi⟩ (fun i σ H' _ ⟨_, _, _, _, _, _, h, _⟩ => sql_new h.hr) (fun i x σ H8 H8' hi hP y => ?_) fun σ H8 hP => ?_
        · obtain ⟨y6, y7, kvs, ls, rfl, e8, s8, bi8⟩ := hP
          obtain ⟨rfl, hx⟩ := y
          obtain ⟨t1, ht1, ⟨ah, rfl, tabh⟩, hi1⟩ := paired_take s8.pr hx
          have hg1 := bi8.good t1 (by rw [bi8.keys, drop_of ht1]; simp)
          have bi9 := bi8
          rw [drop_of ht1] at bi9
          generalize hS : (rim.take i).foldl bHere (F, []) = S8 at s8 bi9
          refine ⟨_, rfl, ah, n, g, t1, rfl, tabh, hg1.1, sm, fun H10 pz zs e10 npz hpz pz10 => ⟨pz, rfl, ⟨zs, sql_new hpz⟩, ?_⟩⟩
          have hlz : l ≠ pz := fun z => dom_of s8.hl (z ▸ npz)
          refine for_it (walk_list (xs := zs)) (fun j σ H' => ∃ (y7 : Option V) (kvs : List (Tab × V)) (ls : List V), σ = [some (.ref a), some (.ref ps), some (.ref d), some (.ref r), some (.int (0 + (i0 : Int))), some (.ref l), some (.ref ah), y7, y8] ∧ Ext T H H' ∧
            Lm P w H' d r l kvs rs ls (((nexts t1).take j).foldl (bIn t1) S8).1 (((nexts t1).take j).foldl (bIn t1) S8).2 rim (start2 t) ∧ BI n g t b (done ++ rim.take i) (t1 :: rim.drop (i + 1)) (((nexts t1).take j).foldl (bIn t1) S8) ∧
            H' pz = some (.lst zs) ∧ Paired (VTab H') zs (nexts t1) ∧ IsTab H' ah t1)
            ⟨y7, kvs, ls, rfl, e8.trans e10, by simpa using s8.ext e10, by simpa using bi9, hpz, pz10, e10.tab tabh⟩ (fun i σ H' _ ⟨_, _, _, _, _, _, _, h, _⟩ => sql_new h) (fun j x σ H11 H11' hj hP y => ?_) fun σ H11 hP => ?_
          · obtain ⟨y7, kvs, ls, rfl, e11, s11, bi11, hpz11, pz11, tab11⟩ := hP
            obtain ⟨rfl, hx⟩ := y
            obtain ⟨t2, ht2, ⟨at2, rfl, tabt⟩, hj1⟩ := paired_take pz11 hx
            have few11 := bi11.few G sm
            have m2 : t2 ∈ nexts t1 := List.mem_of_getElem? ht2
            have bi12 := (bIn_inv bi11 m2).1
            have hS2 := foldl_take (bIn t1) S8 ht2
            generalize ((nexts t1).take j).foldl (bIn t1) S8 = S11 at s11 bi11 few11 bi12 hS2
            refine ⟨_, rfl, _, rfl, d, at2, kvs, t2, rfl, rfl, s11.hW.n, tabt, !decide (t2 ∈ ks S11.1), by rw [if_pos rfl, val_isSome, s11.fo.keys], ?_⟩
            have lkv : kvs.length ≤ 3000 := by
              have := congrArg List.length s11.fo.keys
              rw [List.length_map] at this
              omega
            by_cases hin : t2 ∈ ks S11.1
            · rw [decide_eq_true hin]
              refine iteF ⟨some (.ref at2), kvs, ls, rfl, e11, ?_, ?_, hpz11, pz11, tab11⟩
              · rw [hS2, bIn_old hin]
                exact s11
              · rw [hS2]
                exact bi12
            · rw [decide_eq_false hin]
              refine iteT ?_
              have hk1 : t1 ∈ ks S11.1 := by rw [bi11.keys]; simp
              obtain ⟨v1, hv1, a1, rfl, ha1⟩ := s11.fo.val t1 hk1
              refine ⟨_, rfl, _, rfl, d, ah, kvs, t1, _, rfl, rfl, s11.hW.n, tab11, hv1, a1, _, 0, _, rfl, rfl, sql_new ha1, rfl, _, _, rfl, rfl, Nat.le_of_lt (small_line (Nat.le_trans (Nat.le_refl 3) (by decide))), fun tp ntp => ?_⟩
              have eN : Ext T H11' (upd H11' tp (.lst [.int (dOf S11.1 t1 + 1), .int 0, .int 0])) := .new ntp
              have hne : t2 ≠ crowd t := fun z => hin (z ▸ bi11.st)
              have vN : VDW (upd H11' tp (.lst [.int (dOf S11.1 t1 + 1), .int 0, .int 0])) (.ref tp) (dOf S11.1 t1 + 1) (start2 t t2) := ⟨tp, rfl, by rw [upd_same]; unfold start2; rw [if_neg hne]; rfl⟩
              refine ⟨_, rfl, _, rfl, d, at2, kvs, t2, rfl, rfl, s11.hW.ext eN, eN.tab tabt, small_line (by omega), fun o hWo => ?_⟩
              have s12 := (s11.ext eN).found hWo ((s11.ext eN).fo.snoc hin vN)
              have e12 : Ext T H (upd (upd H11' tp (.lst [.int (dOf S11.1 t1 + 1), .int 0, .int 0])) d o) := (s11.hW.ext eN).mut (e11.trans eN) nd0
              have k12 : KT H11' (upd (upd H11' tp (.lst [.int (dOf S11.1 t1 + 1), .int 0, .int 0])) d o) := eN.kt.trans (s11.hW.ext eN).ktm
              have hpz12 : (upd (upd H11' tp (.lst [.int (dOf S11.1 t1 + 1), .int 0, .int 0])) d o) pz = some (.lst zs) := (upd_ne ((s11.hW.ext eN).neL (eN.lst hpz11))).trans (eN.lst hpz11)
              generalize upd (upd H11' tp (.lst [.int (dOf S11.1 t1 + 1), .int 0, .int 0])) d o = H12 at s12 e12 k12 hpz12
              have lls : ls.length ≤ 3000 := by
                have h1 := Paired.length s11.pl
                have h2 := congrArg List.length bi11.keys
                rw [List.length_append, List.length_append] at h2
                omega
              refine ⟨_, rfl, .inl ⟨rfl, _, sql_new s12.hl⟩, _, rfl, l, ls, _, rfl, rfl, s12.hl, small_line (by omega), ?_⟩
              have s13 := s12.later hrl ⟨at2, rfl, tabt.kt k12⟩
              have k13 : KT H11' (upd H12 l (.lst (ls ++ [.ref at2]))) := k12.trans (KT.mut s12.hl fun _ z => nomatch z)
              refine ⟨some (.ref at2), putK kvs t2 (.ref tp), ls ++ [.ref at2], rfl, e12.mutL nl0 s12.hl, ?_, ?_, (upd_ne hlz.symm).trans hpz12, VTabs.kt pz11 k13, tab11.kt k13⟩
              · rw [hS2, bIn_new hin]
                exact s13
              · rw [hS2]
                exact bi12
          · obtain ⟨y7, kvs, ls, rfl, e11, s11, bi11, hpz11, pz11, tab11⟩ := hP
            have lz : (nexts t1).take zs.length = nexts t1 := by rw [Paired.length pz11]; exact List.take_length
            rw [lz] at s11
            have hS2 : (rim.take (i + 1)).foldl bHere (F, []) = (nexts t1).foldl (bIn t1) S8 := by
              rw [foldl_take bHere _ ht1, hS]
              rfl
            have hB := bHere_inv bi9
            rw [List.append_assoc] at hB
            refine ⟨_, y7, kvs, ls, rfl, e11, ?_, ?_⟩
            · rw [hS2]
              exact s11
            · rw [hS2, take_succ_of ht1]
              exact hB
        · obtain ⟨y6, y7, kvs, ls, rfl, e8, s8, bi8⟩ := hP
          have lr : rim.take rs.length = rim := by rw [Paired.length s8.pr]; exact List.take_length
          rw [lr] at s8
          change Lm P w H8 d r l kvs rs ls (bRound F rim).1 (bRound F rim).2 rim (start2 t) at s8
          refine ⟨_, rfl, ?_⟩
          exact ⟨l, _, _, _, _, _, kvs, ls, (bRound F rim).1, (bRound F rim).2, done ++ rim, b - 1, k, rfl, e8, nl0, s8.hW, s8.fo, s8.hl, s8.pl, (bTurn_inv bi).1, en.turn bi hrim, eg', by omega⟩
    · obtain ⟨r, y4, y5, y6, y7, y8, kvs, rs, F, rim, done, b, k, rfl, e5, nr, hW, fo, hrs, prs, bi, en, eg, hk⟩ := hP
      exfalso
      have : (9999 : Int).toNat = 9999 := rfl
      omega
end
end K5
namespace K5
open PySem PySem.Spec PyProof.Rows L2 LamX RZ
section
variable {T : List (Addr × Str)} {P : Program} {w : World} {K : PySem.W.Frag} {mg : Str → Option Value} {base : Heap} {f : Addr} {fd : FuncData}
/-! ### alike -/
/-- the same at every place, of depth at most d -/
def AlikeV (H : Hp) : Nat → V → V → Prop
  | 0, _, _ => False
  | d + 1, x, y => (∃ i, x = .int i ∧ y = .int i) ∨ (∃ b, x = .bl b ∧ y = .bl b) ∨ (x = .non ∧ y = .non) ∨ ∃ a b xs ys, x = .ref a ∧ y = .ref b ∧ xs.length = ys.length ∧ ys.length ≤ 100000 ∧
    ((H a = some (.tup xs) ∧ H b = some (.tup ys)) ∨ (H a = some (.lst xs) ∧ H b = some (.lst ys))) ∧ ∀ (i : Nat) (u v : V), xs[i]? = some u → ys[i]? = some v → AlikeV H d u v
theorem AlikeV.ext {H H' : Hp} (e : Ext T H H') : ∀ {d : Nat} {x y : V}, AlikeV H d x y → AlikeV H' d x y
  | 0, _, _, h => h.elim
  | d + 1, x, y, h => by
    rcases h with h | h | h | ⟨a, b, xs, ys, rfl, rfl, h1, h2, h3, h4⟩
    · exact .inl h
    · exact .inr (.inl h)
    · exact .inr (.inr (.inl h))
    · refine .inr (.inr (.inr ⟨a, b, xs, ys, rfl, rfl, h1, h2, ?_, fun i u v hu hv => AlikeV.ext e (h4 i u v hu hv)⟩))
      rcases h3 with ⟨p, q⟩ | ⟨p, q⟩
      · exact .inl ⟨e.tup p, e.tup q⟩
      · exact .inr ⟨e.lst p, e.lst q⟩
theorem ixe_of {H : Hp} {a : Addr} {xs : List V} {k : Int} {u : V} {Q : VK} (h : H a = some (.tup xs) ∨ H a = some (.lst xs)) (hu : atI xs k = some u) (q : Q u H) : rIxE K (.ref a) (.int k) H Q := by
  rcases h with h | h
  · exact .inr ⟨a, xs, k, u, rfl, rfl, sqt_new h, hu, q⟩
  · exact .inl ⟨a, xs, k, u, rfl, rfl, sql_new h, hu, q⟩
theorem kit_tt : PySem.W.kitAny K (.type "tuple") [.type "tuple", .type "list"] = some true := kitAny_cons (b := true) (kit_ty (by decide +kernel)) (fun z => nomatch z) fun _ => rfl
theorem kit_tl : PySem.W.kitAny K (.type "list") [.type "tuple", .type "list"] = some true := kitAny_cons (b := false) (kit_ty (by decide +kernel)) (fun _ => kitAny_cons (b := true) (kit_ty (by decide +kernel)) (fun z => nomatch z) fun _ => rfl) fun z => nomatch z
theorem kit_ti : PySem.W.kitAny K (.type "int") [.type "tuple", .type "list"] = some false := kitAny_cons (b := false) (kit_ty (by decide +kernel)) (fun _ => kitAny_cons (b := false) (kit_ty (by decide +kernel)) (fun _ => kitAny_nil) fun z => nomatch z) fun z => nomatch z
theorem kit_tb : PySem.W.kitAny K (.type "bool") [.type "tuple", .type "list"] = some false := kitAny_cons (b := false) (kit_ty (by decide +kernel)) (fun _ => kitAny_cons (b := false) (kit_ty (by decide +kernel)) (fun _ => kitAny_nil) fun z => nomatch z) fun z => nomatch z
theorem kit_tn : PySem.W.kitAny K (.type "NoneType") [.type "tuple", .type "list"] = some false := kitAny_cons (b := false) (kit_ty (by decide +kernel)) (fun _ => kitAny_cons (b := false) (kit_ty (by decide +kernel)) (fun _ => kitAny_nil) fun z => nomatch z) fun z => nomatch z
abbrev n_Lalike : List Str := ["_law_found", "_law_due", "_law_k"]
theorem sc_Lalike : FnScope n_Lalike ["_law_found", "_law_due"] (defScope s_Lalike) := ⟨rfl, rfl, rfl, by decide +kernel, rfl, by decide +kernel, by decide +kernel⟩
def spAlike (T : List (Addr × Str)) (d : Nat) : Sp := fun vs H Q _ => ∃ x y, vs = [x, y] ∧ AlikeV H d x y ∧ ∀ H', Ext T H H' → Q (.bl true) H'
theorem ok_Lalike (fr : Fr mg) (F : FnP K "_law_alike" s_Lalike f fd) (hk : ∀ k sp, FnOk P w K mg base CX0 k f fd ["_law_found", "_law_due"] sp → Kn P w K mg base "_law_alike" ["_law_found", "_law_due"] k sp) :
    ∀ d, FnOk P w K mg base CX0 (d + 1) f fd ["_law_found", "_law_due"] (spAlike T d)
  | 0 => F.ok sc_Lalike (fun vs H Q E h => by
      obtain ⟨x, y, rfl, _⟩ := h
      rfl) fun cdv A outer s H vs Q E hr h => by
      obtain ⟨x, y, rfl, z, _⟩ := h
      exact z.elim
  | d + 1 => by
    have g_Lalike := hk _ _ (ok_Lalike fr F hk d)
    refine F.ok sc_Lalike (fun vs H Q E h => ?_) (fun cdv A outer s H vs Q E hr h => ?_)
    · obtain ⟨x, y, rfl, _⟩ := h
      rfl
    · obtain ⟨x, y, rfl, al, q⟩ := h
      have nd := sc_Lalike.nd
      have two : (2 : Nat) ≤ sizeLine := Nat.le_of_lt (small_line (by decide))
      refine ⟨_, (PSs.nox (pss_cons (ps_if (pt_val (pe_callB call_isiT rfl fr.isinstance (by decide +kernel) (pa_cons (pv 1) (pa_cons (pe_tup (pa_cons (pe_bltn (v := .ty "tuple") rfl fr.tuple (by decide +kernel) rfl) (pa_cons (pe_bltn (v := .ty "list") rfl fr.list (by decide +kernel) rfl) pa_nil))) pa_nil)))) (pss_cons (ps_if (PW.pt (pw_or (pt_not (pt_val (pe_callB call_isiT rfl fr.isinstance (by decide +kernel) (pa_cons (pv 0) (pa_cons (pe_tup (pa_cons (pe_bltn (v := .ty "tuple") rfl fr.tuple (by decide +kernel) rfl) (pa_cons (pe_bltn (v := .ty "list") rfl fr.list (by decide +kernel) rfl) pa_nil))) pa_nil))))) (pw_or1 (pt_cmpR op_ne (pe_callB call_isi rfl fr.isinstance (by decide +kernel) (pa_cons (pv 0) (pa_cons (pe_bltn (v := .ty "list") rfl fr.list (by decide +kernel) rfl) pa_nil))) (pe_callB call_isi rfl fr.isinstance (by decide +kernel) (pa_cons (pv 1) (pa_cons (pe_bltn (v := .ty "list") rfl fr.list (by decide +kernel) rfl) pa_nil))) (nomark _))))) (pss_one (ps_ret pe_bl)) pss_nil)
      (pss_cons (ps_if (pt_cmpR op_ne (pe_callB call_len_seq rfl fr.len (by decide +kernel) (pa_cons (pv 0) pa_nil)) (pe_callB call_len_seq rfl fr.len (by decide +kernel) (pa_cons (pv 1) pa_nil)) (nomark _)) (pss_one (ps_ret pe_bl)) pss_nil)
      (pss_one (ps_ret (pe_cmpR (op_eqD hr.units) (pe_lc (g := (gName 2)) (own := [("_law_k", 2)]) rfl nd (pi_range1 rfl fr.range (pa_cons (pe_callB call_len_seq rfl fr.len (by decide +kernel) (pa_cons (pv 1) pa_nil)) pa_nil)) (blkOk_by (N := n_Lalike) (own := [("_law_k", 2)]) (sc := (defScope s_Lalike)) (by decide +kernel)) (fun _ _ _ _ _ => (pg_name (i := 2) nd rfl (by first | exact .inl rfl | exact .inr rfl))) (fun _ _ _ _ _ => (pts_one (pt_not (pt_val (pe_k g_Lalike hr rfl (pa_cons (pe_ix (ix_either K rfl) (pv 0) (pv 2) (fun _ _ => rfl)) (pa_cons (pe_ix (ix_either K rfl) (pv 1) (pv 2) (fun _ _ => rfl)) pa_nil))))))) (fun _ _ _ _ _ => (pv 2))) (pe_lst pa_nil) (nomark _)))))) pss_nil)
      (pss_cons (ps_if (PW.pt (pw_or (pt_cmpR op_isN (pv 1) pe_non (nomark _)) (pw_or1 (pt_val (pe_callB call_isi rfl fr.isinstance (by decide +kernel) (pa_cons (pv 1) (pa_cons (pe_bltn (v := .ty "str") rfl fr.str (by decide +kernel) rfl) pa_nil))))))) (pss_one (ps_ret (pe_and (pe_cmpR op_eq (pv 0) (pv 1) (nomark _)) (pe_one (pe_cmpR op_eq (pe_callB call_isi rfl fr.isinstance (by decide +kernel) (pa_cons (pv 0) (pa_cons (pe_bltn (v := .ty "str") rfl fr.str (by decide +kernel) rfl) pa_nil))) (pe_callB call_isi rfl fr.isinstance (by decide +kernel) (pa_cons (pv 1) (pa_cons (pe_bltn (v := .ty "str") rfl fr.str (by decide +kernel) rfl) pa_nil))) (nomark _)))))) pss_nil)
      (pss_one (ps_ret (pe_and (pe_callB call_isi rfl fr.isinstance (by decide +kernel) (pa_cons (pv 0) (pa_cons (pe_bltn (v := .ty "int") rfl fr.int (by decide +kernel) rfl) pa_nil))) (pe_and (pe_cmpR op_eq (pe_callB call_isi rfl fr.isinstance (by decide +kernel) (pa_cons (pv 0) (pa_cons (pe_bltn (v := .ty "bool") rfl fr.bool (by decide +kernel) rfl) pa_nil))) (pe_callB call_isi rfl fr.isinstance (by decide +kernel) (pa_cons (pv 1) (pa_cons (pe_bltn (v := .ty "bool") rfl fr.bool (by decide +kernel) rfl) pa_nil))) (nomark _)) (pe_one (pe_cmpR op_eq (pv 0) (pv 1) (nomark _)))))))))), ?_⟩
      rcases al with ⟨i, rfl, rfl⟩ | ⟨i, rfl, rfl⟩ | ⟨rfl, rfl⟩ | ⟨a, b, xs, ys, rfl, rfl, hl, hz, hab, hall⟩
      · refine ⟨_, rfl, two, fun tp ntp => ⟨_, tp, _, .type "int", _, false, rfl, upd_same, .cons (.ty _) (.cons (.ty _) .nil), .base (.int i), kit_ti, false, rfl, iteF ?_⟩⟩
        have e1 : Ext T H (upd H tp (.tup [.ty "tuple", .ty "list"])) := .new ntp
        refine ⟨_, rfl, rfl, false, rfl, iteF ⟨_, rfl, _, _, _, _, false, rfl, .ty "str", .base (.int i), kit_ty (by decide +kernel), false, rfl, iteF ?_⟩⟩
        refine ⟨_, rfl, _, _, _, _, true, rfl, .ty "int", .base (.int i), kit_ty (by decide +kernel), true, rfl, iteT ?_⟩
        refine ⟨_, rfl, _, _, _, _, false, rfl, .ty "bool", .base (.int i), kit_ty (by decide +kernel), _, rfl, _, _, _, _, false, rfl, .ty "bool", .base (.int i), kit_ty (by decide +kernel), rfl, true, by simp, iteT ?_⟩
        refine ⟨_, rfl, _, rfl, rfl, ?_⟩
        rw [decide_eq_true rfl]
        exact q _ e1
      · refine ⟨_, rfl, two, fun tp ntp => ⟨_, tp, _, .type "bool", _, false, rfl, upd_same, .cons (.ty _) (.cons (.ty _) .nil), .base (.bl i), kit_tb, false, rfl, iteF ?_⟩⟩
        have e1 : Ext T H (upd H tp (.tup [.ty "tuple", .ty "list"])) := .new ntp
        refine ⟨_, rfl, rfl, false, rfl, iteF ⟨_, rfl, _, _, _, _, false, rfl, .ty "str", .base (.bl i), kit_ty (by decide +kernel), false, rfl, iteF ?_⟩⟩
        refine ⟨_, rfl, _, _, _, _, true, rfl, .ty "int", .base (.bl i), kit_ty (by decide +kernel), true, rfl, iteT ?_⟩
        refine ⟨_, rfl, _, _, _, _, true, rfl, .ty "bool", .base (.bl i), kit_ty (by decide +kernel), _, rfl, _, _, _, _, true, rfl, .ty "bool", .base (.bl i), kit_ty (by decide +kernel), rfl, true, by simp, iteT ?_⟩
        refine ⟨_, rfl, _, rfl, rfl, ?_⟩
        rw [decide_eq_true rfl]
        exact q _ e1
      · refine ⟨_, rfl, two, fun tp ntp => ⟨_, tp, _, .type "NoneType", _, false, rfl, upd_same, .cons (.ty _) (.cons (.ty _) .nil), .base .non, kit_tn, false, rfl, iteF ?_⟩⟩
        have e1 : Ext T H (upd H tp (.tup [.ty "tuple", .ty "list"])) := .new ntp
        refine ⟨_, rfl, rfl, true, rfl, iteT ?_⟩
        refine ⟨_, rfl, _, rfl, rfl, true, by simp, iteT ?_⟩
        refine ⟨_, rfl, _, _, _, _, false, rfl, .ty "str", .base .non, kit_ty (by decide +kernel), _, rfl, _, _, _, _, false, rfl, .ty "str", .base .non, kit_ty (by decide +kernel), rfl, ?_⟩
        rw [decide_eq_true rfl]
        exact q _ e1
      · -- what both are
        obtain ⟨ty, bl, hA, hB, kA, kL⟩ : ∃ (ty : String) (bl : Bool), (∀ {H'}, Ext T H H' → TyX K H' (.ref a) (.type ty)) ∧ (∀ {H'}, Ext T H H' → TyX K H' (.ref b) (.type ty)) ∧ PySem.W.kitAny K (.type ty) [.type "tuple", .type "list"] = some true ∧ PySem.W.kitOne K (.type ty) (.type "list") = some bl := by
          rcases hab with ⟨h1, h2⟩ | ⟨h1, h2⟩
          · exact ⟨"tuple", false, fun e => .base (.tup (e.tup h1)), fun e => .base (.tup (e.tup h2)), kit_tt, kit_ty (by decide +kernel)⟩
          · exact ⟨"list", true, fun e => .base (.lst (e.lst h1)), fun e => .base (.lst (e.lst h2)), kit_tl, kit_ty (by decide +kernel)⟩
        have sA : ∀ {H'}, Ext T H H' → H' a = some (.tup xs) ∨ H' a = some (.lst xs) := fun e => by
          rcases hab with ⟨h1, h2⟩ | ⟨h1, h2⟩
          · exact .inl (e.tup h1)
          · exact .inr (e.lst h1)
        have sB : ∀ {H'}, Ext T H H' → H' b = some (.tup ys) ∨ H' b = some (.lst ys) := fun e => by
          rcases hab with ⟨h1, h2⟩ | ⟨h1, h2⟩
          · exact .inl (e.tup h2)
          · exact .inr (e.lst h2)
        have qA : ∀ {H'}, Ext T H H' → SqL K H' a xs ∨ SqT K H' a xs := fun e => (sA e).elim (fun h => .inr (sqt_new h)) fun h => .inl (sql_new h)
        have qB : ∀ {H'}, Ext T H H' → SqL K H' b ys ∨ SqT K H' b ys := fun e => (sB e).elim (fun h => .inr (sqt_new h)) fun h => .inl (sql_new h)
        refine ⟨_, rfl, two, fun tp ntp => ?_⟩
        have e1 : Ext T H (upd H tp (.tup [.ty "tuple", .ty "list"])) := .new ntp
        refine ⟨_, tp, _, .type ty, _, true, rfl, upd_same, .cons (.ty _) (.cons (.ty _) .nil), hB e1, kA, true, rfl, iteT ?_⟩
        generalize upd H tp (.tup [.ty "tuple", .ty "list"]) = H1 at e1
        refine ⟨_, rfl, two, fun tq ntq => ?_⟩
        have e2 : Ext T H (upd H1 tq (.tup [.ty "tuple", .ty "list"])) := e1.add ntq
        refine ⟨_, tq, _, .type ty, _, true, rfl, upd_same, .cons (.ty _) (.cons (.ty _) .nil), hA e2, kA, true, rfl, iteF ?_⟩
        generalize upd H1 tq (.tup [.ty "tuple", .ty "list"]) = H2 at e2
        refine ⟨_, rfl, _, _, _, _, bl, rfl, .ty "list", hA e2, kL, _, rfl, _, _, _, _, bl, rfl, .ty "list", hB e2, kL, rfl, false, by simp, iteF ?_⟩
        refine ⟨_, rfl, a, xs, rfl, qA e2, _, rfl, b, ys, rfl, qB e2, rfl, false, neI_false (by omega), iteF ?_⟩
        refine ⟨_, rfl, b, ys, rfl, qB e2, _, rfl, by omega, by omega, fun D nD => ?_⟩
        refine lc_out walk_range (T := T) nD VInt (fun _ _ _ _ _ _ _ h => h) (fun _ => none) (Nat.le_of_lt (small_line (by simp; omega))) (fun _ _ => trivial)
          (fun k x H3 H3' Ad Z hk e3 y hA hZ => ?_) fun H3 acc e3 eD p3 => ?_
        · obtain ⟨rfl, rfl⟩ := y
          have hk' : k < ys.length := by simpa using hk
          have hu : xs[k]? = some (xs[k]'(by omega)) := List.getElem?_eq_getElem _
          have hv : ys[k]? = some ys[k] := List.getElem?_eq_getElem _
          refine ⟨rfl, ?_⟩
          refine ⟨_, rfl, _, rfl, ixe_of (sA (e2.trans e3)) (atI_of hu (by omega)) ⟨_, rfl, _, rfl, ixe_of (sB (e2.trans e3)) (atI_of hv (by omega)) ⟨_, _, rfl, (hall k _ _ hu hv).ext (e2.trans e3), fun H4 e4 => ⟨true, rfl, iteF (hZ _ rfl e4)⟩⟩⟩⟩
        have eN : ((List.range (ys.length : Int).toNat).filterMap fun _ => (none : Option Int)) = [] := List.filterMap_eq_nil_iff.mpr fun _ _ => rfl
        rw [eN] at p3
        cases p3
        refine ⟨Nat.zero_le _, fun em nem => ?_⟩
        refine ⟨.list [], .list [], .lst (sql_new ((Ext.new (T := T) nem).lst eD)) .nil, .lst (sql_new upd_same) .nil, shaped_tabs [], shaped_tabs [], ?_⟩
        exact q _ ((e2.trans e3).add nem)
end
end K5
namespace K5
open PySem PySem.Spec PyProof.Rows L2 LamX RZ
/-! ### scopes of comprehensions that hold others -/
def stAt (s : Stmt) (i : Nat) : Stmt := (defBody s).getD i (.Pass ⟨0, 0, 0, 0⟩)
def retOf : Stmt → Expr
  | .Return (some e) _ => e
  | .Assign _ e _ => e
  | _ => .Name "x" ⟨0, 0, 0, 0⟩
def argOf : Expr → Expr
  | .Call _ (a :: _) _ _ => a
  | e => e
def scOf : Expr → Scope
  | .ListComp _ _ s _ => s
  | _ => ⟨.function, [], false, false, []⟩
/-- as it stands within a def of the scope -/
def relC (scope outer : Scope) : Scope :=
  { scope with names := scope.names.map fun (n, k) => if (k == .free && outer.kind == .function && outer.names.lookup n == some .cell) then (n, .cell) else (n, k) }
section
variable {T : List (Addr × Str)} {P : Program} {w : World} {K : PySem.W.Frag} {mg : Str → Option Value} {base : Heap} {f : Addr} {fd : FuncData}
abbrev n_Ltable : List Str := ["_law_row", "_law_crowded", "_law_sorts", "_law_top", "_law_many", "_law_wide", "_law_good", "_law_person"]
theorem sc_Ltable : FnScope n_Ltable ["_law_row", "_law_crowded", "_law_sorts", "_law_top"] (defScope s_Ltable) := ⟨rfl, rfl, rfl, by decide +kernel, rfl, by decide +kernel, by decide +kernel⟩
def spTable (T : List (Addr × Str)) (K : PySem.W.Frag) : Sp := fun vs H Q _ => ∃ (p sc : Addr) (ns : List Int) (c s top : Int), vs = [.ref p, .int c, .int s, .int top] ∧ RowV H p sc ∧ SqL K H sc (ns.map V.int) ∧ Stay K sc p ns ∧ 1 ≤ c ∧ c ≤ 50 ∧ 1 ≤ s ∧ s ≤ 50 ∧ 0 ≤ top ∧ top ≤ 99 ∧
  ∀ (H' : Hp) (a : Addr) (n g : Nat) (t : Tab), ExtX T p H H' → RowV H' p sc → 1 ≤ n → (n : Int) ≤ c → 1 ≤ g → (g : Int) ≤ s → IsTab H' a t → Good n g t → Q (.ref a) H'
theorem ok_Ltable (fr : Fr mg) (g_Ltaken : Kn P w K mg base "_law_taken" ["_law_row", "_law_many"] 1 (spTaken T K)) (F : FnP K "_law_table" s_Ltable f fd) : FnOk P w K mg base CX0 2 f fd ["_law_row", "_law_crowded", "_law_sorts", "_law_top"] (spTable T K) := by
  refine F.ok sc_Ltable (fun vs H Q E h => ?_) (fun cdv A outer s H vs Q E hr h => ?_)
  · obtain ⟨p, sc, ns, c, s, top, rfl, _⟩ := h
    rfl
  · obtain ⟨p, sc, ns, c, s, top, rfl, rv, hs, ne, c1, c2, s1, s2, t1, t2, q⟩ := h
    have nd := sc_Ltable.nd
    refine ⟨_, (PSs.nox (pss_cons (ps_asg (pe_tup (pa_cons (pe_op op_add pe_int (pe_k g_Ltaken (hr.mono (by decide)) rfl (pa_cons (pv 0) (pa_cons (pv 1) pa_nil)))) (pa_cons (pe_op op_add pe_int (pe_k g_Ltaken (hr.mono (by decide)) rfl (pa_cons (pv 0) (pa_cons (pv 2) pa_nil)))) pa_nil))) (pg_tup rfl (pgs_cons (pg_name (i := 4) nd rfl (by first | exact .inl rfl | exact .inr rfl)) (pgs_cons (pg_name (i := 5) nd rfl (by first | exact .inl rfl | exact .inr rfl)) pgs_nil))))
      (pss_one (ps_ret (pe_callTy call_tuple_of rfl fr.tuple (by decide +kernel) (pa_cons (pe_lc (g := (gName 7)) (own := [("_law_person", 7)]) (tt := tYes) rfl nd (pi_range1 rfl fr.range (pa_cons (pv 4) pa_nil)) (blkOk_by (N := n_Ltable) (own := [("_law_person", 7)]) (sc := (defScope s_Ltable)) (by decide +kernel)) (fun _ _ _ _ _ => (pg_name (i := 7) nd rfl (by first | exact .inl rfl | exact .inr rfl))) (fun _ _ _ _ _ => pts_nil) (fun _ _ _ _ _ => (pe_callTy (call_tuple_ofK K rfl) rfl fr.tuple (by decide +kernel) (pa_cons (pe_lc (g := (gName 6)) (own := [("_law_good", 6)]) (tt := tYes) rfl nd (pi_range1 rfl fr.range (pa_cons (pv 5) pa_nil)) (blkOk_by (N := n_Ltable) (own := [("_law_good", 6)]) (sc := (relC (scOf (argOf (retOf (stAt s_Ltable 1)))) (defScope s_Ltable))) (by decide +kernel)) (fun _ _ _ _ _ => (pg_name (i := 6) nd rfl (by first | exact .inl rfl | exact .inr rfl))) (fun _ _ _ _ _ => pts_nil) (fun _ _ _ _ _ => (pe_k g_Ltaken (hr.mono (by decide)) rfl (pa_cons (pv 0) (pa_cons (pe_op op_add (pv 3) pe_int) pa_nil))))) pa_nil)))) pa_nil)))))), ?_⟩
    refine ⟨_, rfl, _, rfl, p, sc, ns, c, rfl, rv, hs, ne, by omega, by omega, fun H1 r1 e1 rv1 r10 r11 => ?_⟩
    obtain ⟨n1, rfl⟩ := Int.eq_ofNat_of_zero_le r10
    refine ⟨_, _, rfl, rfl, _, rfl, _, rfl, p, sc, ns, s, rfl, rv1, e1.sqlS ne hs, ne, by omega, by omega, fun H2 r2 e2 rv2 r20 r21 => ?_⟩
    obtain ⟨g1, rfl⟩ := Int.eq_ofNat_of_zero_le r20
    have two : (2 : Nat) ≤ sizeLine := Nat.le_of_lt (small_line (by decide))
    refine ⟨_, _, rfl, rfl, two, fun tp ntp => ⟨tp, _, rfl, sqt_new upd_same, rfl, _, _, rfl, _, _, rfl, rfl, ?_⟩⟩
    have e3 : ExtX T p H (upd H2 tp (.tup [.int (1 + (n1 : Int)), .int (1 + (g1 : Int))])) := (e1.trans e2).add ntp
    have rv3 : RowV (upd H2 tp (.tup [.int (1 + (n1 : Int)), .int (1 + (g1 : Int))])) p sc := rv2.new ntp
    refine ⟨_, rfl, 1 + (n1 : Int), rfl, by omega, by omega, fun D nD => ?_⟩
    generalize upd H2 tp (.tup [.int (1 + (n1 : Int)), .int (1 + (g1 : Int))]) = H3 at e3 rv3 nD
    refine lc_draw walk_range (T := T) rv3 nD VRow (fun _ _ _ _ k h => h.kt k) (fun r => r.length = g1 + 1 ∧ ∀ x ∈ r, 0 ≤ x ∧ x ≤ 99) (Nat.le_of_lt (small_line (by omega))) (fun _ _ => trivial)
      (fun i x H4 H4' Ad hi e4 rv4 y hA => ?_) fun H4 acc bs e4 rv4 eD p4 hl hb => ?_
    · obtain ⟨rfl, rfl⟩ := y
      refine ⟨rfl, ?_⟩
      refine ⟨_, rfl, 1 + (g1 : Int), rfl, by omega, by omega, fun D2 nD2 => ?_⟩
      refine lc_draw walk_range (T := T) rv4 nD2 VInt (fun _ _ _ _ _ h => h) (fun x => 0 ≤ x ∧ x ≤ 99) (Nat.le_of_lt (small_line (by omega))) (fun _ _ => trivial)
        (fun j x H5 H5' Ad2 hj e5 rv5 y hA2 => ?_) fun H5 acc bs e5 rv5 eD p5 hl hb => ?_
      · obtain ⟨rfl, rfl⟩ := y
        refine ⟨rfl, ?_⟩
        exact ⟨_, rfl, _, rfl, _, _, rfl, rfl, p, sc, ns, top + 1, rfl, rv5, ((e3.trans e4).trans e5).sqlS ne hs, ne, by omega, by omega, fun H' r e rv h0 h1 => hA2 _ _ r ⟨h0, by omega⟩ e rv rfl⟩
      · obtain rfl := vints p5
        refine ⟨D2, _, rfl, .inl ⟨sql_new eD, fun l nl => ?_⟩⟩
        exact hA _ _ bs ⟨by omega, hb⟩ (e5.add nl) (rv5.new nl) ⟨l, rfl, upd_same⟩
    · refine ⟨D, _, rfl, .inl ⟨sql_new eD, fun l nl => ?_⟩⟩
      refine q _ l (n1 + 1) (g1 + 1) bs ((e3.trans e4).add nl) (rv4.new nl) (by omega) (by omega) (by omega) (by omega) (tab_of_rows upd_same (Paired.mapP p4 fun _ _ r => r.kt (Ext.new (T := T) nl).kt)) ⟨by omega, fun r hr => (hb r hr).1, fun r hr => (hb r hr).2⟩
end
end K5
namespace K5
open PySem PySem.Spec PyProof.Rows PySem.W L2 LamX RZ

/-! ### columns as lists -/
def VCol (H : Hp) (v : V) (c : Row) : Prop := ∃ a, v = .ref a ∧ c ≠ [] ∧ H a = some (.lst (c.map V.int))
section
variable {T : List (Addr × Str)} {H H' : Hp} {p sc S : Addr} {v : V} {c : Row} {vs : List V} {cols : List Row} {o : HO}
theorem VCol.ext (e : Ext T H H') (h : VCol H v c) : VCol H' v c := let ⟨a, z, n, h⟩ := h; ⟨a, z, n, e.lst h⟩
theorem VCol.mono (rv : RowV H p sc) (e : ExtX T p H H') (h : VCol H v c) : VCol H' v c := by
  obtain ⟨a, z, n, h⟩ := h
  refine ⟨a, z, n, e.lst (fun q => ?_) h⟩
  obtain ⟨_, _, _, _, hr⟩ := rv
  rw [q, hr] at h
  have h := HO.lst.inj (Option.some.inj h)
  cases c with
  | nil => exact n rfl
  | cons x c =>
    rw [List.map_cons] at h
    injection h with h1 h2
    cases h1
theorem VCol.upd (hS : H S = some (.lst vs)) (pc : Paired (VCol H) vs cols) (h : VCol H v c) : VCol (L2.upd H S o) v c := by
  obtain ⟨a, z, n, h⟩ := h
  refine ⟨a, z, n, (upd_ne fun q => ?_).trans h⟩
  rw [q, hS] at h
  have h := HO.lst.inj (Option.some.inj h)
  cases c with
  | nil => exact n rfl
  | cons x c =>
    rw [h, List.map_cons] at pc
    cases pc with
    | cons p1 p2 =>
      obtain ⟨_, z, _⟩ := p1
      cases z
end
/-- the rows of the columns -/
def trans (cols : List Row) (n : Nat) : Tab := (List.range n).map fun i => cols.map fun c => c.getD i 0
theorem trans_good {cols : List Row} {n : Nat} (h : ∀ c ∈ cols, c.length = n ∧ ∀ x ∈ c, 0 ≤ x ∧ x ≤ 99) : Good n cols.length (trans cols n) where
  len := by simp [trans]
  wide := fun r hr => by
    obtain ⟨i, _, rfl⟩ := List.mem_map.mp hr
    simp
  heap := fun r hr x hx => by
    obtain ⟨i, hi, rfl⟩ := List.mem_map.mp hr
    obtain ⟨c, hc, rfl⟩ := List.mem_map.mp hx
    obtain ⟨h1, h2⟩ := h c hc
    have hi := List.mem_range.mp hi
    rw [List.getD_eq_getElem?_getD, List.getElem?_eq_getElem (show i < c.length by omega)]
    exact h2 _ (List.getElem_mem _)
/-- what a comprehension makes, the new list known to stand -/
theorem lc_out2 {J : It} {n : Nat} {G : Hp → Prop} {Y : Nat → Hp → V → Hp → Prop} (w : Walk J n G Y) {T : List (Addr × Str)} {H1 : Hp} {D : Addr} (nD : H1 D = none) {β : Type} (R : Hp → V → β → Prop)
    (kt : ∀ H H' v b, ExtX T D H H' → R H v b → R H' v b) (out : Nat → β) (hz : n ≤ sizeLine) (hG : ∀ H, Ext T H1 H → G H) {g : TG} {te : TE} {vs : List Nat} {σ : L2.St} {Qd : Hp → Prop}
    (hs : ∀ i x H H' (Ad : V → Hp → Prop), i < n → Ext T H1 H → H D ≠ none → Y i H x H' → (∀ y H4, Ext T H H4 → R H4 y (out i) → Ad y H4) →
      g x (wipe σ vs) H' fun σ2 H2 => wipe σ2 vs = wipe σ vs ∧ te σ2 H2 Ad)
    (hd : ∀ H acc, Ext T H1 H → H D = some (.lst acc) → Paired (R H) acc ((List.range n).map out) → Qd H) :
    ∃ W : Nat → Nat → Hp → Prop, (∃ m, W 0 m (upd H1 D (.lst []))) ∧ ∀ i m H, W i m H →
      (J.stop i H ∧ Qd H) ∨ (J.go i H ∧ ∃ Nx : Hp → Prop, (∀ H', Nx H' → ∃ m', m' < m ∧ W (i + 1) m' H') ∧ ∀ x H', J.yld i H x H' → g x (wipe σ vs) H' fun σ2 H2 => wipe σ2 vs = wipe σ vs ∧ tYes σ2 H2 fun b H3 =>
        if b = true then te σ2 H3 fun y H4 => ∃ acc, H4 D = some (.lst acc) ∧ acc.length < sizeLine ∧ Nx (upd H4 D (.lst (acc ++ [y]))) else Nx H3) := by
  refine lc_it w (fun i H => ∃ acc, Ext T H1 H ∧ H D = some (.lst acc) ∧ Paired (R H) acc ((List.range i).map out)) ⟨[], (Ext.refl T H1).add nD, upd_same, .nil⟩ (fun i H _ ⟨acc, e, _⟩ => hG H e) (fun i x H H' hi ⟨acc, e, eD, p⟩ y => ?_) fun H ⟨acc, e, eD, p⟩ => hd H acc e eD p
  have st := hs i x H H' (fun y H4 => ∃ acc, H4 D = some (.lst acc) ∧ acc.length < sizeLine ∧ ∃ acc', Ext T H1 (upd H4 D (.lst (acc ++ [y]))) ∧ (upd H4 D (.lst (acc ++ [y]))) D = some (.lst acc') ∧ Paired (R (upd H4 D (.lst (acc ++ [y])))) acc' ((List.range (i + 1)).map out)) hi e (dom_of eD) y fun y H4 e4 r => ?_
  · exact st
  · have eD4 := e4.lst eD
    have l := Paired.length p
    rw [List.length_map, List.length_range] at l
    have e5 : ExtX T D H4 (upd H4 D (.lst (acc ++ [y]))) := .mutL eD4
    refine ⟨acc, eD4, by omega, acc ++ [y], (e.trans e4).mutL nD eD4, upd_same, ?_⟩
    rw [List.range_succ, List.map_append]
    exact paired_app (Paired.mapP p fun a b ra => kt _ _ _ _ (e4.x.trans e5) ra) (.cons (kt _ _ _ _ e5 r) .nil)
theorem call_sortLK {X : Cx} (K : Frag) (h : X.K = K) (hu : X.A.units + 66 < cLine) : CallR X (.builtin "sorted") (fun xs H Q => ∃ (β : Type) (a : Addr) (ys : List V) (bs : List β) (enc : β → PyData) (R : V → β → Prop), xs = [.ref a] ∧ (SqL K H a ys ∨ SqT K H a ys) ∧ Sd H ys bs enc R ∧
    ∀ p zs, H p = none → Paired R zs (bs.mergeSort (dataLe false enc)) → Q (.ref p) (L2.upd H p (.lst zs))) := by
  subst h
  exact call_sortL hu
theorem sd_ints (H : Hp) (r : Row) : Sd H (r.map V.int) r PyData.int (VInt H) where
  r := by
    induction r with
    | nil => exact .nil
    | cons x r ih => exact .cons rfl ih
  d := fun ok y b v h rv => by
    cases h
    obtain ⟨t, rfl⟩ := rv
    exact .int _ _
  al := fun d hd d' hd' => by
    obtain ⟨x, _, rfl⟩ := List.mem_map.mp hd
    obtain ⟨y, _, rfl⟩ := List.mem_map.mp hd'
    simp [alike]
  so := .inr fun d hd => by
    obtain ⟨x, _, rfl⟩ := List.mem_map.mp hd
    exact ⟨fun z => (nomatch z), fun xs z => (nomatch z)⟩
  dp := fun b _ => by simp [PyData.depth]
theorem erase_map {α β : Type} (f : α → β) : ∀ (l : List α) (k : Nat), (l.map f).eraseIdx k = (l.eraseIdx k).map f
  | [], _ => rfl
  | x :: l, 0 => rfl
  | x :: l, k + 1 => by
    show f x :: (l.map f).eraseIdx k = f x :: (l.eraseIdx k).map f
    rw [erase_map f l k]
theorem seq_ix {n k : Nat} (h : k < n) : seqIndex? (k : Int) n = some k := (ixN_seq (ixN_of h)).1
end K5
namespace K5
open PySem PySem.Spec PyProof.Rows L2 LamX RZ
section
variable {T : List (Addr × Str)} {P : Program} {w : World} {K : PySem.W.Frag} {mg : Str → Option Value} {base : Heap} {f : Addr} {fd : FuncData}
abbrev n_Lunlike : List Str := ["_law_row", "_law_crowded", "_law_sorts", "_law_many", "_law_wide", "_law_sides", "_law_good", "_law_left", "_law_side", "_law_person"]
theorem sc_Lunlike : FnScope n_Lunlike ["_law_row", "_law_crowded", "_law_sorts"] (defScope s_Lunlike) := ⟨rfl, rfl, rfl, by decide +kernel, rfl, by decide +kernel, by decide +kernel⟩
def spUnlike (T : List (Addr × Str)) (K : PySem.W.Frag) : Sp := fun vs H Q _ => ∃ (p sc : Addr) (ns : List Int) (c s : Int), vs = [.ref p, .int c, .int s] ∧ RowV H p sc ∧ SqL K H sc (ns.map V.int) ∧ Stay K sc p ns ∧ 1 ≤ c ∧ c ≤ 50 ∧ 1 ≤ s ∧ s ≤ 50 ∧
  ∀ (H' : Hp) (a : Addr) (n g : Nat) (t : Tab), ExtX T p H H' → RowV H' p sc → 1 ≤ n → (n : Int) ≤ c → 1 ≤ g → (g : Int) ≤ s → IsTab H' a t → Good n g t → Q (.ref a) H'
theorem ok_Lunlike (fr : Fr mg) (g_Ltaken : Kn P w K mg base "_law_taken" ["_law_row", "_law_many"] 1 (spTaken T K)) (F : FnP K "_law_unlike" s_Lunlike f fd) : FnOk P w K mg base CX0 2 f fd ["_law_row", "_law_crowded", "_law_sorts"] (spUnlike T K) := by
  refine F.ok sc_Lunlike (fun vs H Q E h => ?_) (fun cdv A outer s H vs Q E hr h => ?_)
  · obtain ⟨p, sc, ns, c, s, rfl, _⟩ := h
    rfl
  · obtain ⟨p, sc, ns, cm, sm, rfl, rv, hsq, ne, c1, c2, s1, s2, q⟩ := h
    have nd := sc_Lunlike.nd
    refine ⟨_, (PSs.nox (pss_cons (ps_asg (pe_tup (pa_cons (pe_op op_add pe_int (pe_k g_Ltaken (hr.mono (by decide)) rfl (pa_cons (pv 0) (pa_cons (pv 1) pa_nil)))) (pa_cons (pe_op op_add pe_int (pe_k g_Ltaken (hr.mono (by decide)) rfl (pa_cons (pv 0) (pa_cons (pv 2) pa_nil)))) (pa_cons (pe_lst pa_nil) pa_nil)))) (pg_tup rfl (pgs_cons (pg_name (i := 3) nd rfl (by first | exact .inl rfl | exact .inr rfl)) (pgs_cons (pg_name (i := 4) nd rfl (by first | exact .inl rfl | exact .inr rfl)) (pgs_cons (pg_name (i := 5) nd rfl (by first | exact .inl rfl | exact .inr rfl)) pgs_nil)))))
      (pss_cons (ps_for PassesOwn.never rfl (pi_range1 rfl fr.range (pa_cons (pv 4) pa_nil)) (pg_name (i := 6) nd rfl (by first | exact .inl rfl | exact .inr rfl))
      (pss_cons (ps_par (i := 7) (j := 8) rfl nd rfl rfl (by decide) rfl rfl (pa_cons (pe_callTy (call_listR rfl) rfl fr.list (by decide +kernel) (pa_cons (pe_callTy cr_range1 rfl fr.range (by decide +kernel) (pa_cons (pv 3) pa_nil)) pa_nil)) (pa_cons (pe_lst pa_nil) pa_nil)) rfl)
      (pss_cons (ps_for PassesOwn.never rfl (pi_range1 rfl fr.range (pa_cons (pv 3) pa_nil)) (pg_name (i := 9) nd rfl (by first | exact .inl rfl | exact .inr rfl))
      (pss_one (ps_expr (pe_bm PySem.F.plainAttrs_list PySem.F.slot_list_append PySem.F.type_list_append mt_append (pv 8) (pa_cons (pe_bm PySem.F.plainAttrs_list PySem.F.slot_list_pop PySem.F.type_list_pop mt_popAt (pv 7) (pa_cons (pe_k g_Ltaken (hr.mono (by decide)) rfl (pa_cons (pv 0) (pa_cons (pe_callB call_len_seq rfl fr.len (by decide +kernel) (pa_cons (pv 7) pa_nil)) pa_nil))) pa_nil)) pa_nil)))))
      (pss_one (ps_expr (pe_bm PySem.F.plainAttrs_list PySem.F.slot_list_append PySem.F.type_list_append mt_append (pv 5) (pa_cons (pv 8) pa_nil)))))))
      (pss_one (ps_ret (pe_callTy call_tuple_of rfl fr.tuple (by decide +kernel) (pa_cons (pe_lc (g := (gName 9)) (own := [("_law_person", 9)]) (tt := tYes) rfl nd (pi_range1 rfl fr.range (pa_cons (pv 3) pa_nil)) (blkOk_by (N := n_Lunlike) (own := [("_law_person", 9)]) (sc := (defScope s_Lunlike)) (by decide +kernel)) (fun _ _ _ _ _ => (pg_name (i := 9) nd rfl (by first | exact .inl rfl | exact .inr rfl))) (fun _ _ _ _ _ => pts_nil) (fun _ _ _ _ _ => (pe_callTy (call_tuple_ofK K rfl) rfl fr.tuple (by decide +kernel) (pa_cons (pe_lc (g := (gName 8)) (own := [("_law_side", 8)]) (tt := tYes) rfl nd (pi_listK K rfl (pv 5)) (blkOk_by (N := n_Lunlike) (own := [("_law_side", 8)]) (sc := (relC (scOf (argOf (retOf (stAt s_Lunlike 2)))) (defScope s_Lunlike))) (by decide +kernel)) (fun _ _ _ _ _ => (pg_name (i := 8) nd rfl (by first | exact .inl rfl | exact .inr rfl))) (fun _ _ _ _ _ => pts_nil) (fun _ _ _ _ _ => (pe_ix (ix_listK K rfl) (pv 8) (pv 9) (fun _ _ => rfl)))) pa_nil)))) pa_nil))))))), ?_⟩
    refine ⟨_, rfl, _, rfl, p, sc, ns, cm, rfl, rv, hsq, ne, by omega, by omega, fun H1 r1 e1 rv1 r10 r11 => ?_⟩
    obtain ⟨n1, rfl⟩ := Int.eq_ofNat_of_zero_le r10
    refine ⟨_, _, rfl, rfl, _, rfl, _, rfl, p, sc, ns, sm, rfl, rv1, e1.sqlS ne hsq, ne, by omega, by omega, fun H2 r2 e2 rv2 r20 r21 => ?_⟩
    obtain ⟨g1, rfl⟩ := Int.eq_ofNat_of_zero_le r20
    have three : (3 : Nat) ≤ sizeLine := Nat.le_of_lt (small_line (by decide))
    refine ⟨_, _, rfl, rfl, Nat.zero_le _, fun S nS0 => ⟨three, fun tp ntp => ⟨tp, _, rfl, sqt_new upd_same, rfl, _, _, rfl, _, _, rfl, _, _, rfl, rfl, ?_⟩⟩⟩
    have nS : H S = none := (e1.trans e2).free nS0
    have Sp : S ≠ p := rv.ne nS
    have hS3 : (upd H2 S (.lst [])) S = some (.lst []) := upd_same
    have e3 : ExtX T p H (upd H2 S (.lst [])) := (e1.trans e2).add nS0
    have rv3 : RowV (upd H2 S (.lst [])) p sc := rv2.new nS0
    generalize upd H2 S (.lst []) = H3 at hS3 e3 rv3 ntp
    have hS4 := (Ext.new (T := T) (o := .tup [.int (1 + (n1 : Int)), .int (1 + (g1 : Int)), .ref S]) ntp).lst hS3
    have e4 : ExtX T p H (upd H3 tp (.tup [.int (1 + (n1 : Int)), .int (1 + (g1 : Int)), .ref S])) := e3.add ntp
    have rv4 : RowV (upd H3 tp (.tup [.int (1 + (n1 : Int)), .int (1 + (g1 : Int)), .ref S])) p sc := rv3.new ntp
    generalize upd H3 tp (.tup [.int (1 + (n1 : Int)), .int (1 + (g1 : Int)), .ref S]) = H4 at hS4 e4 rv4
    clear e1 e2 e3 rv1 rv2 rv3 hS3 ntp nS0
    refine ⟨_, rfl, 1 + (g1 : Int), rfl, by omega, by omega, ?_⟩
    refine for_it walk_range (fun i σ H' => ∃ (y6 y7 y8 y9 : Option V) (vs : List V) (cols : List Row), σ = [some (.ref p), some (.int cm), some (.int sm), some (.int (1 + (n1 : Int))), some (.int (1 + (g1 : Int))), some (.ref S), y6, y7, y8, y9] ∧ ExtX T p H H' ∧ RowV H' p sc ∧ H' S = some (.lst vs) ∧ Paired (VCol H') vs cols ∧ cols.length = i ∧ ∀ c ∈ cols, c.length = n1 + 1 ∧ ∀ x ∈ c, 0 ≤ x ∧ x ≤ 99)
      ⟨none, none, none, none, [], [], rfl, e4, rv4, hS4, .nil, rfl, fun _ z => nomatch z⟩ (fun _ _ _ _ _ => trivial) (fun i0 x σ H1 H1' hi0 hP y => ?_) fun σ Hc hP => ?_
    · obtain ⟨y6, y7, y8, y9, vs, cols, rfl, e1, rv1, hS1, pc1, lcols, hcols⟩ := hP
      obtain ⟨rfl, rfl⟩ := y
      refine ⟨_, rfl, 1 + (n1 : Int), rfl, fun rp nrp => ⟨rp, n1 + 1, rfl, by rw [upd_same]; congr 2; omega, by omega, fun l nl0 => ⟨Nat.zero_le _, fun s ns00 => ⟨_, _, rfl, ?_⟩⟩⟩⟩
      have eA : Ext T H1' (upd H1' rp (.rng 0 (1 + (n1 : Int)))) := .new nrp
      have nl : H1' l = none := eA.free nl0
      have eB := eA.add (o := .lst ((List.range (n1 + 1)).map fun (i : Nat) => V.int ((i : Nat) : Int))) nl0
      have ns0 : H1' s = none := eB.free ns00
      have e2 := eB.add (o := .lst []) ns00
      have sl : s ≠ l := fun z => by
        rw [z, upd_same] at ns00
        cases ns00
      have hl2 := (Ext.new (T := T) (o := .lst []) ns00).lst (show (upd (upd H1' rp (.rng 0 (1 + (n1 : Int)))) l (.lst ((List.range (n1 + 1)).map fun (i : Nat) => V.int ((i : Nat) : Int)))) l = some (.lst (((List.range (n1 + 1)).map fun (i : Nat) => ((i : Nat) : Int)).map V.int)) by rw [upd_same, List.map_map]; rfl)
      have rv2 := rv1.ext e2
      have hs2 : (upd (upd (upd H1' rp (.rng 0 (1 + (n1 : Int)))) l (.lst ((List.range (n1 + 1)).map fun (i : Nat) => V.int ((i : Nat) : Int)))) s (.lst [])) s = some (.lst (([] : Row).map V.int)) := upd_same
      generalize upd (upd (upd H1' rp (.rng 0 (1 + (n1 : Int)))) l (.lst ((List.range (n1 + 1)).map fun (i : Nat) => V.int ((i : Nat) : Int)))) s (.lst []) = H2 at e2 hl2 rv2 hs2
      have hlen : ((List.range (n1 + 1)).map fun (i : Nat) => ((i : Nat) : Int)).length + 0 = n1 + 1 := by simp
      have hls : ∀ x ∈ (List.range (n1 + 1)).map fun (i : Nat) => ((i : Nat) : Int), 0 ≤ x ∧ x ≤ 99 := fun x hx => by
        obtain ⟨i, hi, rfl⟩ := List.mem_map.mp hx
        have := List.mem_range.mp hi
        omega
      refine ⟨_, rfl, 1 + (n1 : Int), rfl, by omega, by omega, ?_⟩
      refine for_it walk_range (fun i σ H' => ∃ (y9 : Option V) (ls ss : Row), σ = [some (.ref p), some (.int cm), some (.int sm), some (.int (1 + (n1 : Int))), some (.int (1 + (g1 : Int))), some (.ref S), some (.int (0 + (i0 : Int))), some (.ref l), some (.ref s), y9] ∧ ExtX T p H1' H' ∧ RowV H' p sc ∧ H' l = some (.lst (ls.map V.int)) ∧ H' s = some (.lst (ss.map V.int)) ∧ ls.length + i = n1 + 1 ∧ ss.length = i ∧ (∀ x ∈ ls, 0 ≤ x ∧ x ≤ 99) ∧ ∀ x ∈ ss, 0 ≤ x ∧ x ≤ 99)
        ⟨_, _, [], rfl, e2.x, rv2, hl2, hs2, hlen, rfl, hls, fun _ z => nomatch z⟩ (fun _ _ _ _ _ => trivial) (fun i x σ H3 H3' hi hP y => ?_) fun σ H3 hP => ?_
      · obtain ⟨y9, ls, ss, rfl, e3, rv3, hl3, hs3, len3, lss3, ml, ms⟩ := hP
        obtain ⟨rfl, rfl⟩ := y
        have hi' : i < n1 + 1 := by omega
        refine ⟨_, rfl, .inl ⟨rfl, _, sql_new hs3⟩, _, rfl, .inl ⟨rfl, _, sql_new hl3⟩, _, rfl, _, rfl, l, _, rfl, .inl (sql_new hl3), p, sc, ns, _, rfl, rv3, (e1.trans e3).sqlS ne hsq, ne, by rw [List.length_map]; omega, by rw [List.length_map]; omega, fun H4 r e4 rv4 r0 r1 => ?_⟩
        obtain ⟨k, rfl⟩ := Int.eq_ofNat_of_zero_le r0
        rw [List.length_map] at r1
        have hk : k < ls.length := by omega
        have lp : l ≠ p := rv1.ne nl
        have sp : s ≠ p := rv1.ne ns0
        have hl4 := e4.lst lp hl3
        have hs4 := e4.lst sp hs3
        refine ⟨l, _, (k : Int), k, .int (ls[k]'hk), rfl, rfl, hl4, by omega, by omega, seq_ix (by rw [List.length_map]; exact hk), by rw [List.getElem?_map, List.getElem?_eq_getElem hk]; rfl, ?_⟩
        have hs5 : (upd H4 l (.lst ((ls.map V.int).eraseIdx k))) s = some (.lst (ss.map V.int)) := (upd_ne sl).trans hs4
        refine ⟨s, _, _, rfl, rfl, hs5, small_line (by rw [List.length_map]; omega), ?_⟩
        refine ⟨some (.int (0 + (i : Int))), ls.eraseIdx k, ss ++ [ls[k]'hk], rfl, ((e3.trans e4).mutN nl hl4).mutN ns0 hs5, (rv4.upd lp).upd sp, ?_, ?_, ?_, ?_, ?_, ?_⟩
        · rw [upd_ne sl.symm, upd_same, erase_map]
        · rw [upd_same, List.map_append]
          rfl
        · rw [List.length_eraseIdx_of_lt hk]
          omega
        · rw [List.length_append, lss3]
          rfl
        · exact fun x hx => ml x (List.mem_of_mem_eraseIdx hx)
        · intro x hx
          rcases List.mem_append.mp hx with z | z
          · exact ms x z
          · rw [List.mem_singleton.mp z]
            exact ml _ (List.getElem_mem _)
      · obtain ⟨y9, ls, ss, rfl, e3, rv3, hl3, hs3, len3, lss3, ml, ms⟩ := hP
        have hS3 : H3 S = some (.lst vs) := e3.lst Sp hS1
        have pc3 : Paired (VCol H3) vs cols := Paired.mapP pc1 fun _ _ r => r.mono rv1 e3
        have sS : s ≠ S := fun z => dom_of hS1 (z ▸ ns0)
        have hs3' : H3 s = some (.lst (ss.map V.int)) := hs3
        have sne : ss ≠ [] := fun z => by
          rw [z] at lss3
          simp at lss3
          omega
        have lvs := Paired.length pc1
        refine ⟨_, rfl, .inl ⟨rfl, _, sql_new hS3⟩, _, rfl, S, vs, _, rfl, rfl, hS3, small_line (by omega), ?_⟩
        refine ⟨_, _, _, _, vs ++ [.ref s], cols ++ [ss], rfl, (e1.trans e3).mutN nS hS3, rv3.upd Sp, upd_same, paired_app (Paired.mapP pc3 fun _ _ r => r.upd hS3 pc3) (.cons ⟨s, rfl, sne, (upd_ne sS).trans hs3⟩ .nil), by rw [List.length_append, lcols]; rfl, fun c hc => ?_⟩
        rcases List.mem_append.mp hc with z | z
        · exact hcols c z
        · rw [List.mem_singleton.mp z]
          exact ⟨by rw [lss3]; omega, ms⟩
    · obtain ⟨y6, y7, y8, y9, vs, cols, rfl, e1, rvc, hSc, pcc, lcols, hcc⟩ := hP
      have lvs := Paired.length pcc
      refine ⟨_, rfl, 1 + (n1 : Int), rfl, by omega, by omega, fun D nD => ?_⟩
      refine lc_out walk_range (T := T) nD VRow (fun _ _ _ _ _ h e r => r.kt (e.kt h)) (fun i => some (cols.map fun c => c.getD i 0)) (Nat.le_of_lt (small_line (by omega))) (fun _ _ => trivial)
        (fun i x H8 H8' Ad Z hi e8 y hA hZ => ?_) fun H8 acc e8 eD p8 => ?_
      · obtain ⟨rfl, rfl⟩ := y
        have hi' : i < n1 + 1 := by omega
        have hS8 := e8.lst hSc
        have pc8 := Paired.mapP pcc fun _ _ r => VCol.ext e8 r
        refine ⟨rfl, lc_yes ?_⟩
        refine ⟨_, rfl, S, rfl, ⟨vs, sql_new hS8⟩, fun D2 nD2 => ?_⟩
        refine lc_out (walk_list (xs := vs)) (T := T) nD2 VInt (fun _ _ _ _ _ _ _ h => h) (fun j => (cols[j]?).map fun c => c.getD i 0) (Nat.le_of_lt (small_line (by omega))) (fun H' e => sql_new (e.lst hS8))
          (fun j x H9 H9' Ad Z hj e9 y hA hZ => ?_) fun H9 acc e9 eD2 p9 => ?_
        · obtain ⟨rfl, hx⟩ := y
          obtain ⟨c, hc, ⟨ac, rfl, cne, hac⟩, hj1⟩ := paired_take pc8 hx
          obtain ⟨lc, _⟩ := hcc c (List.mem_of_getElem? hc)
          refine ⟨rfl, lc_yes ?_⟩
          exact ⟨_, rfl, _, rfl, ac, _, _, _, rfl, rfl, sql_new (e9.lst hac), atI_of (row_at (i := i) (by omega)) (by omega), hA _ _ _ (by rw [hc]; rfl) (.refl _ _) rfl⟩
        · obtain rfl := vints p9
          rw [show vs.length = cols.length from Paired.length pcc, filt_at] at eD2
          refine ⟨D2, _, rfl, .inl ⟨sql_new eD2, fun r nr => hA _ _ _ rfl (e9.add nr) ⟨r, rfl, upd_same⟩⟩⟩
      · rw [filterMap_map, show (1 + (n1 : Int)).toNat = n1 + 1 by omega] at p8
        refine ⟨D, _, rfl, .inl ⟨sql_new eD, fun r nr => ?_⟩⟩
        have tr : IsTab (upd H8 r (.tup acc)) r (trans cols (n1 + 1)) := tab_of_rows upd_same (Paired.mapP p8 fun _ _ z => z.kt (Ext.new (T := T) nr).kt)
        exact q _ r (n1 + 1) cols.length _ ((e1.trans e8.x).add nr) ((rvc.ext e8).new nr) (by omega) (by omega) (by omega) (by omega) tr (trans_good hcc)
abbrev n_Lmixed : List Str := ["_law_row", "_law_table_here", "_law_sides", "_law_good", "_law_left", "_law_side", "_law_told", "_law_person"]
theorem sc_Lmixed : FnScope n_Lmixed ["_law_row", "_law_table_here"] (defScope s_Lmixed) := ⟨rfl, rfl, rfl, by decide +kernel, rfl, by decide +kernel, by decide +kernel⟩
def spMixed (T : List (Addr × Str)) (K : PySem.W.Frag) : Sp := fun vs H Q _ => ∃ (p sc a : Addr) (ns : List Int) (n g : Nat) (t : Tab), vs = [.ref p, .ref a] ∧ RowV H p sc ∧ SqL K H sc (ns.map V.int) ∧ Stay K sc p ns ∧ TabOk H a n g t ∧
  ∀ (H' : Hp) (b : Addr) (u : Tab), ExtX T p H H' → RowV H' p sc → IsTab H' b u → Good n g u → Q (.ref b) H'
theorem col_ok {n g : Nat} {t : Tab} (G : Good n g t) {k : Nat} (hk : k < g) : (col k t).length = n ∧ ∀ x ∈ col k t, 0 ≤ x ∧ x ≤ 99 := by
  refine ⟨by unfold col; rw [List.length_map, G.len], fun x hx => ?_⟩
  obtain ⟨r, hr, rfl⟩ := List.mem_map.mp hx
  have h1 := G.wide r hr
  rw [List.getD_eq_getElem?_getD, List.getElem?_eq_getElem (show k < r.length by omega)]
  exact G.heap r hr _ (List.getElem_mem _)
theorem ok_Lmixed (fr : Fr mg) (g_Ltaken : Kn P w K mg base "_law_taken" ["_law_row", "_law_many"] 1 (spTaken T K)) (F : FnP K "_law_mixed" s_Lmixed f fd) : FnOk P w K mg base CX0 2 f fd ["_law_row", "_law_table_here"] (spMixed T K) := by
  refine F.ok sc_Lmixed (fun vs H Q E h => ?_) (fun cdv A outer s H vs Q E hr h => ?_)
  · obtain ⟨p, sc, a, ns, n, g, t, rfl, _⟩ := h
    rfl
  · obtain ⟨p, sc, a, ns, n, g, t, rfl, rv, hsq, ne, tok, q⟩ := h
    have nd := sc_Lmixed.nd
    have G := tok.good
    have ln := G.len
    obtain ⟨z1, z2, z3⟩ := tok.small
    obtain ⟨ts, ha, pr⟩ := tok.tab.rows
    have lts := Paired.length pr
    have ap : a ≠ p := fun z => by
      obtain ⟨_, _, _, _, hr⟩ := rv
      rw [z, hr] at ha
      cases ha
    obtain ⟨b0, hb0, hr0⟩ := tab_at pr (i := 0) (by omega)
    have w0 := getD_wide G (i := 0) (by omega)
    refine ⟨_, (PSs.nox (pss_cons (ps_set (i := 2) nd rfl (by first | exact .inl rfl | exact .inr rfl) (pe_lst pa_nil))
      (pss_cons (ps_for PassesOwn.never rfl (pi_range1 rfl fr.range (pa_cons (pe_callB call_len_seq rfl fr.len (by decide +kernel) (pa_cons (pe_ix ix_tup (pv 1) pe_int (fun _ _ => rfl)) pa_nil)) pa_nil)) (pg_name (i := 3) nd rfl (by first | exact .inl rfl | exact .inr rfl))
      (pss_cons (ps_par (i := 4) (j := 5) rfl nd rfl rfl (by decide) rfl rfl (pa_cons (pe_lc (g := (gName 6)) (own := [("_law_told", 6)]) (tt := tYes) rfl nd (pi_tup (pv 1)) (blkOk_by (N := n_Lmixed) (own := [("_law_told", 6)]) (sc := (defScope s_Lmixed)) (by decide +kernel)) (fun _ _ _ _ _ => (pg_name (i := 6) nd rfl (by first | exact .inl rfl | exact .inr rfl))) (fun _ _ _ _ _ => pts_nil) (fun _ _ _ _ _ => (pe_ix (ix_tupK K rfl) (pv 6) (pv 3) (fun _ _ => rfl)))) (pa_cons (pe_lst pa_nil) pa_nil)) rfl)
      (pss_cons (ps_for PassesOwn.never rfl (pi_range1 rfl fr.range (pa_cons (pe_callB call_len_seq rfl fr.len (by decide +kernel) (pa_cons (pv 1) pa_nil)) pa_nil)) (pg_name (i := 7) nd rfl (by first | exact .inl rfl | exact .inr rfl))
      (pss_one (ps_expr (pe_bm PySem.F.plainAttrs_list PySem.F.slot_list_append PySem.F.type_list_append mt_append (pv 5) (pa_cons (pe_bm PySem.F.plainAttrs_list PySem.F.slot_list_pop PySem.F.type_list_pop mt_popAt (pv 4) (pa_cons (pe_k g_Ltaken (hr.mono (by decide)) rfl (pa_cons (pv 0) (pa_cons (pe_callB call_len_seq rfl fr.len (by decide +kernel) (pa_cons (pv 4) pa_nil)) pa_nil))) pa_nil)) pa_nil)))))
      (pss_one (ps_expr (pe_bm PySem.F.plainAttrs_list PySem.F.slot_list_append PySem.F.type_list_append mt_append (pv 2) (pa_cons (pv 5) pa_nil)))))))
      (pss_one (ps_ret (pe_callTy call_tuple_of rfl fr.tuple (by decide +kernel) (pa_cons (pe_lc (g := (gName 7)) (own := [("_law_person", 7)]) (tt := tYes) rfl nd (pi_range1 rfl fr.range (pa_cons (pe_callB call_len_seq rfl fr.len (by decide +kernel) (pa_cons (pv 1) pa_nil)) pa_nil)) (blkOk_by (N := n_Lmixed) (own := [("_law_person", 7)]) (sc := (defScope s_Lmixed)) (by decide +kernel)) (fun _ _ _ _ _ => (pg_name (i := 7) nd rfl (by first | exact .inl rfl | exact .inr rfl))) (fun _ _ _ _ _ => pts_nil) (fun _ _ _ _ _ => (pe_callTy (call_tuple_ofK K rfl) rfl fr.tuple (by decide +kernel) (pa_cons (pe_lc (g := (gName 5)) (own := [("_law_side", 5)]) (tt := tYes) rfl nd (pi_listK K rfl (pv 2)) (blkOk_by (N := n_Lmixed) (own := [("_law_side", 5)]) (sc := (relC (scOf (argOf (retOf (stAt s_Lmixed 2)))) (defScope s_Lmixed))) (by decide +kernel)) (fun _ _ _ _ _ => (pg_name (i := 5) nd rfl (by first | exact .inl rfl | exact .inr rfl))) (fun _ _ _ _ _ => pts_nil) (fun _ _ _ _ _ => (pe_ix (ix_listK K rfl) (pv 5) (pv 7) (fun _ _ => rfl)))) pa_nil)))) pa_nil))))))), ?_⟩
    refine ⟨Nat.zero_le _, fun S nS => ?_⟩
    have Sp : S ≠ p := rv.ne nS
    have e4 : ExtX T p H (upd H S (.lst [])) := (Ext.new nS).x
    have hS4 : (upd H S (.lst [])) S = some (.lst []) := upd_same
    have rv4 : RowV (upd H S (.lst [])) p sc := rv.new nS
    have k4 : KT H (upd H S (.lst [])) := KT.new nS
    generalize upd H S (.lst []) = H4 at e4 hS4 rv4 k4
    refine ⟨_, rfl, a, ts, 0, _, rfl, rfl, sqt_new (k4 _ _ ha), atI_of hb0 rfl, b0, _, rfl, .inr (sqt_new (hr0.kt k4)), g, by rw [List.length_map, w0], by omega, by omega, ?_⟩
    refine for_it walk_range (fun i σ H' => ∃ (y3 y4 y5 y6 y7 : Option V) (vs : List V) (cols : List Row), σ = [some (.ref p), some (.ref a), some (.ref S), y3, y4, y5, y6, y7] ∧ ExtX T p H H' ∧ RowV H' p sc ∧ H' S = some (.lst vs) ∧ Paired (VCol H') vs cols ∧ cols.length = i ∧ ∀ c ∈ cols, c.length = n ∧ ∀ x ∈ c, 0 ≤ x ∧ x ≤ 99)
      ⟨none, none, none, none, none, [], [], rfl, e4, rv4, hS4, .nil, rfl, fun _ z => nomatch z⟩ (fun _ _ _ _ _ => trivial) (fun i0 x σ H1 H1' hi0 hP y => ?_) fun σ Hc hP => ?_
    · obtain ⟨y3, y4, y5, y6, y7, vs, cols, rfl, e1, rv1, hS1, pc1, lcols, hcols⟩ := hP
      obtain ⟨rfl, rfl⟩ := y
      have hig : i0 < g := by omega
      obtain ⟨lcol, mcol⟩ := col_ok G hig
      have k1 := rv.kt e1
      have ha1 := k1 _ _ ha
      have pr1 : Paired (VRow H1') ts t := Paired.mapP pr fun _ _ r => r.kt k1
      refine ⟨_, rfl, a, rfl, ⟨ts, sqt_new ha1⟩, fun l nl => ?_⟩
      refine lc_out (walk_tup (xs := ts)) (T := T) nl VInt (fun _ _ _ _ _ _ _ h => h) (fun j => (t[j]?).map fun r => r.getD i0 0) (Nat.le_of_lt (small_line (by omega))) (fun H' e => sqt_new (e.tup ha1))
        (fun j x H5 H5' Ad Z hj e5 y hA hZ => ?_) fun H5 acc e5 eD5 p5 => ?_
      · obtain ⟨rfl, hx⟩ := y
        obtain ⟨r, hr, ⟨ar, rfl, har⟩, _⟩ := paired_take pr1 hx
        have wr := G.wide r (List.mem_of_getElem? hr)
        refine ⟨rfl, lc_yes ?_⟩
        exact ⟨_, rfl, _, rfl, ar, _, _, _, rfl, rfl, sqt_new (e5.row har), atI_of (row_at (i := i0) (by omega)) (by omega), hA _ _ _ (by rw [hr]; rfl) (.refl _ _) rfl⟩
      obtain rfl := vints p5
      rw [lts, filt_at] at eD5
      change H5 l = some (.lst ((col i0 t).map V.int)) at eD5
      refine ⟨Nat.zero_le _, fun s ns00 => ⟨_, _, rfl, ?_⟩⟩
      have ns0 : H1' s = none := e5.free ns00
      have e2 := e5.add (o := .lst []) ns00
      have sl : s ≠ l := fun z => by
        rw [z, eD5] at ns00
        cases ns00
      have hl2 := (Ext.new (T := T) (o := .lst []) ns00).lst eD5
      have rv2 := rv1.ext e2
      have hs2 : (upd H5 s (.lst [])) s = some (.lst (([] : Row).map V.int)) := upd_same
      generalize upd H5 s (.lst []) = H2 at e2 hl2 rv2 hs2
      have hlen : (col i0 t).length + 0 = n := lcol
      have hls := mcol
      refine ⟨_, rfl, a, ts, rfl, .inr (sqt_new (e2.tup ha1)), n, by rw [lts, ln], by omega, by omega, ?_⟩
      refine for_it walk_range (fun i σ H' => ∃ (y9 : Option V) (ls ss : Row), σ = [some (.ref p), some (.ref a), some (.ref S), some (.int (0 + (i0 : Int))), some (.ref l), some (.ref s), y6, y9] ∧ ExtX T p H1' H' ∧ RowV H' p sc ∧ H' l = some (.lst (ls.map V.int)) ∧ H' s = some (.lst (ss.map V.int)) ∧ ls.length + i = n ∧ ss.length = i ∧ (∀ x ∈ ls, 0 ≤ x ∧ x ≤ 99) ∧ ∀ x ∈ ss, 0 ≤ x ∧ x ≤ 99)
        ⟨_, _, [], rfl, e2.x, rv2, hl2, hs2, hlen, rfl, hls, fun _ z => nomatch z⟩ (fun _ _ _ _ _ => trivial) (fun i x σ H3 H3' hi hP y => ?_) fun σ H3 hP => ?_
      · obtain ⟨y9, ls, ss, rfl, e3, rv3, hl3, hs3, len3, lss3, ml, ms⟩ := hP
        obtain ⟨rfl, rfl⟩ := y
        have hi' : i < n := by omega
        refine ⟨_, rfl, .inl ⟨rfl, _, sql_new hs3⟩, _, rfl, .inl ⟨rfl, _, sql_new hl3⟩, _, rfl, _, rfl, l, _, rfl, .inl (sql_new hl3), p, sc, ns, _, rfl, rv3, (e1.trans e3).sqlS ne hsq, ne, by rw [List.length_map]; omega, by rw [List.length_map]; omega, fun H4 r e4 rv4 r0 r1 => ?_⟩
        obtain ⟨k, rfl⟩ := Int.eq_ofNat_of_zero_le r0
        rw [List.length_map] at r1
        have hk : k < ls.length := by omega
        have lp : l ≠ p := rv1.ne nl
        have sp : s ≠ p := rv1.ne ns0
        have hl4 := e4.lst lp hl3
        have hs4 := e4.lst sp hs3
        refine ⟨l, _, (k : Int), k, .int (ls[k]'hk), rfl, rfl, hl4, by omega, by omega, seq_ix (by rw [List.length_map]; exact hk), by rw [List.getElem?_map, List.getElem?_eq_getElem hk]; rfl, ?_⟩
        have hs5 : (upd H4 l (.lst ((ls.map V.int).eraseIdx k))) s = some (.lst (ss.map V.int)) := (upd_ne sl).trans hs4
        refine ⟨s, _, _, rfl, rfl, hs5, small_line (by rw [List.length_map]; omega), ?_⟩
        refine ⟨some (.int (0 + (i : Int))), ls.eraseIdx k, ss ++ [ls[k]'hk], rfl, ((e3.trans e4).mutN nl hl4).mutN ns0 hs5, (rv4.upd lp).upd sp, ?_, ?_, ?_, ?_, ?_, ?_⟩
        · rw [upd_ne sl.symm, upd_same, erase_map]
        · rw [upd_same, List.map_append]
          rfl
        · rw [List.length_eraseIdx_of_lt hk]
          omega
        · rw [List.length_append, lss3]
          rfl
        · exact fun x hx => ml x (List.mem_of_mem_eraseIdx hx)
        · intro x hx
          rcases List.mem_append.mp hx with z | z
          · exact ms x z
          · rw [List.mem_singleton.mp z]
            exact ml _ (List.getElem_mem _)
      · obtain ⟨y9, ls, ss, rfl, e3, rv3, hl3, hs3, len3, lss3, ml, ms⟩ := hP
        have hS3 : H3 S = some (.lst vs) := e3.lst Sp hS1
        have pc3 : Paired (VCol H3) vs cols := Paired.mapP pc1 fun _ _ r => r.mono rv1 e3
        have sS : s ≠ S := fun z => dom_of hS1 (z ▸ ns0)
        have hs3' : H3 s = some (.lst (ss.map V.int)) := hs3
        have sne : ss ≠ [] := fun z => by
          rw [z] at lss3
          simp at lss3
          omega
        have lvs := Paired.length pc1
        refine ⟨_, rfl, .inl ⟨rfl, _, sql_new hS3⟩, _, rfl, S, vs, _, rfl, rfl, hS3, small_line (by omega), ?_⟩
        refine ⟨_, _, _, _, _, vs ++ [.ref s], cols ++ [ss], rfl, (e1.trans e3).mutN nS hS3, rv3.upd Sp, upd_same, paired_app (Paired.mapP pc3 fun _ _ r => r.upd hS3 pc3) (.cons ⟨s, rfl, sne, (upd_ne sS).trans hs3⟩ .nil), by rw [List.length_append, lcols]; rfl, fun c hc => ?_⟩
        rcases List.mem_append.mp hc with z | z
        · exact hcols c z
        · rw [List.mem_singleton.mp z]
          exact ⟨by rw [lss3]; omega, ms⟩
    · obtain ⟨y3, y4, y5, y6, y7, vs, cols, rfl, e1, rvc, hSc, pcc, lcols, hcc⟩ := hP
      have lvs := Paired.length pcc
      refine ⟨_, rfl, a, ts, rfl, .inr (sqt_new ((rv.kt e1) _ _ ha)), (n : Int), by rw [lts, ln], by omega, by omega, fun D nD => ?_⟩
      refine lc_out walk_range (T := T) nD VRow (fun _ _ _ _ _ h e r => r.kt (e.kt h)) (fun i => some (cols.map fun c => c.getD i 0)) (Nat.le_of_lt (small_line (by omega))) (fun _ _ => trivial)
        (fun i x H8 H8' Ad Z hi e8 y hA hZ => ?_) fun H8 acc e8 eD p8 => ?_
      · obtain ⟨rfl, rfl⟩ := y
        have hi' : i < n := by omega
        have hS8 := e8.lst hSc
        have pc8 := Paired.mapP pcc fun _ _ r => VCol.ext e8 r
        refine ⟨rfl, lc_yes ?_⟩
        refine ⟨_, rfl, S, rfl, ⟨vs, sql_new hS8⟩, fun D2 nD2 => ?_⟩
        refine lc_out (walk_list (xs := vs)) (T := T) nD2 VInt (fun _ _ _ _ _ _ _ h => h) (fun j => (cols[j]?).map fun c => c.getD i 0) (Nat.le_of_lt (small_line (by omega))) (fun H' e => sql_new (e.lst hS8))
          (fun j x H9 H9' Ad Z hj e9 y hA hZ => ?_) fun H9 acc e9 eD2 p9 => ?_
        · obtain ⟨rfl, hx⟩ := y
          obtain ⟨c, hc, ⟨ac, rfl, cne, hac⟩, hj1⟩ := paired_take pc8 hx
          obtain ⟨lc, _⟩ := hcc c (List.mem_of_getElem? hc)
          refine ⟨rfl, lc_yes ?_⟩
          exact ⟨_, rfl, _, rfl, ac, _, _, _, rfl, rfl, sql_new (e9.lst hac), atI_of (row_at (i := i) (by omega)) (by omega), hA _ _ _ (by rw [hc]; rfl) (.refl _ _) rfl⟩
        · obtain rfl := vints p9
          rw [show vs.length = cols.length from Paired.length pcc, filt_at] at eD2
          refine ⟨D2, _, rfl, .inl ⟨sql_new eD2, fun r nr => hA _ _ _ rfl (e9.add nr) ⟨r, rfl, upd_same⟩⟩⟩
      · rw [filterMap_map, show ((n : Int)).toNat = n by omega] at p8
        refine ⟨D, _, rfl, .inl ⟨sql_new eD, fun r nr => ?_⟩⟩
        have tr : IsTab (upd H8 r (.tup acc)) r (trans cols (n)) := tab_of_rows upd_same (Paired.mapP p8 fun _ _ z => z.kt (Ext.new (T := T) nr).kt)
        have lg : cols.length = g := by omega
        exact q _ r _ ((e1.trans e8.x).add nr) ((rvc.ext e8).new nr) tr (lg ▸ trans_good hcc)
abbrev n_Ltower : List Str := ["_law_table_here", "_law_sides", "_law_row", "_law_good", "_law_side", "_law_at"]
theorem sc_Ltower : FnScope n_Ltower ["_law_table_here"] (defScope s_Ltower) := ⟨rfl, rfl, rfl, by decide +kernel, rfl, by decide +kernel, by decide +kernel⟩
def spTower (T : List (Addr × Str)) : Sp := fun vs H Q _ => ∃ (a : Addr) (n g : Nat) (t : Tab), vs = [.ref a] ∧ TabOk H a n g t ∧ ∀ (H' : Hp) (b : Addr) (u : Tab), Ext T H H' → IsTab H' b u → Good n g u → Q (.ref b) H'
def VColD (D : Addr) (H : Hp) (v : V) (c : Row) : Prop := ∃ a, v = .ref a ∧ a ≠ D ∧ c ≠ [] ∧ H a = some (.lst (c.map V.int))
theorem ok_Ltower (fr : Fr mg) (F : FnP K "_law_tower" s_Ltower f fd) : FnOk P w K mg base CX0 1 f fd ["_law_table_here"] (spTower T) := by
  refine F.ok sc_Ltower (fun vs H Q E h => ?_) (fun cdv A outer s H vs Q E hr h => ?_)
  · obtain ⟨a, n, g, t, rfl, _⟩ := h
    rfl
  · obtain ⟨a, n, g, t, rfl, tok, q⟩ := h
    have nd := sc_Ltower.nd
    have G := tok.good
    have ln := G.len
    obtain ⟨z1, z2, z3⟩ := tok.small
    obtain ⟨ts, ha, pr⟩ := tok.tab.rows
    have lts := Paired.length pr
    obtain ⟨b0, hb0, hr0⟩ := tab_at pr (i := 0) (by omega)
    have w0 := getD_wide G (i := 0) (by omega)
    refine ⟨_, (PSs.nox (pss_cons (ps_set (i := 1) nd rfl (by first | exact .inl rfl | exact .inr rfl) (pe_lc (g := (gName 3)) (own := [("_law_good", 3)]) (tt := tYes) rfl nd (pi_range1 rfl fr.range (pa_cons (pe_callB call_len_seq rfl fr.len (by decide +kernel) (pa_cons (pe_ix ix_tup (pv 0) pe_int (fun _ _ => rfl)) pa_nil)) pa_nil)) (blkOk_by (N := n_Ltower) (own := [("_law_good", 3)]) (sc := (defScope s_Ltower)) (by decide +kernel)) (fun _ _ _ _ _ => (pg_name (i := 3) nd rfl (by first | exact .inl rfl | exact .inr rfl))) (fun _ _ _ _ _ => pts_nil) (fun _ _ _ _ _ => (pe_revLK K rfl (pe_callB (call_sortLK K rfl (hu66 hr)) rfl fr.sorted (by decide +kernel) (pa_cons (pe_lc (g := (gName 2)) (own := [("_law_row", 2)]) (tt := tYes) rfl nd (pi_tupK K rfl (pv 0)) (blkOk_by (N := n_Ltower) (own := [("_law_row", 2)]) (sc := (relC (scOf (retOf (stAt s_Ltower 0))) (defScope s_Ltower))) (by decide +kernel)) (fun _ _ _ _ _ => (pg_name (i := 2) nd rfl (by first | exact .inl rfl | exact .inr rfl))) (fun _ _ _ _ _ => pts_nil) (fun _ _ _ _ _ => (pe_ix (ix_tupK K rfl) (pv 2) (pv 3) (fun _ _ => rfl)))) pa_nil))))))
      (pss_one (ps_ret (pe_callTy call_tuple_of rfl fr.tuple (by decide +kernel) (pa_cons (pe_lc (g := (gName 5)) (own := [("_law_at", 5)]) (tt := tYes) rfl nd (pi_range1 rfl fr.range (pa_cons (pe_callB call_len_seq rfl fr.len (by decide +kernel) (pa_cons (pv 0) pa_nil)) pa_nil)) (blkOk_by (N := n_Ltower) (own := [("_law_at", 5)]) (sc := (defScope s_Ltower)) (by decide +kernel)) (fun _ _ _ _ _ => (pg_name (i := 5) nd rfl (by first | exact .inl rfl | exact .inr rfl))) (fun _ _ _ _ _ => pts_nil) (fun _ _ _ _ _ => (pe_callTy (call_tuple_ofK K rfl) rfl fr.tuple (by decide +kernel) (pa_cons (pe_lc (g := (gName 4)) (own := [("_law_side", 4)]) (tt := tYes) rfl nd (pi_listK K rfl (pv 1)) (blkOk_by (N := n_Ltower) (own := [("_law_side", 4)]) (sc := (relC (scOf (argOf (retOf (stAt s_Ltower 1)))) (defScope s_Ltower))) (by decide +kernel)) (fun _ _ _ _ _ => (pg_name (i := 4) nd rfl (by first | exact .inl rfl | exact .inr rfl))) (fun _ _ _ _ _ => pts_nil) (fun _ _ _ _ _ => (pe_ix (ix_listK K rfl) (pv 4) (pv 5) (fun _ _ => rfl)))) pa_nil)))) pa_nil)))))), ?_⟩
    refine ⟨_, rfl, a, ts, 0, _, rfl, rfl, sqt_new ha, atI_of hb0 rfl, b0, _, rfl, .inr (sqt_new hr0), g, by rw [List.length_map, w0], by omega, by omega, fun S nS => ?_⟩
    refine lc_out2 walk_range (T := T) nS (VColD S) (fun _ _ _ _ e ⟨b, h1, h2, h3, h4⟩ => ⟨b, h1, h2, h3, e.lst h2 h4⟩) (fun i => ((col i t).mergeSort (PySem.W.dataLe false PyData.int)).reverse) (Nat.le_of_lt (small_line (by omega))) (fun _ _ => trivial)
      (fun i x H1 H1' Ad hi e1 sd y hA => ?_) fun Hc vs ec hSc pcd => ?_
    · obtain ⟨rfl, rfl⟩ := y
      have hig : i < g := by omega
      obtain ⟨lcol, mcol⟩ := col_ok G hig
      have ha1 := e1.tup ha
      have pr1 : Paired (VRow H1') ts t := Paired.mapP pr fun _ _ r => r.kt e1.kt
      refine ⟨rfl, ?_⟩
      refine ⟨_, rfl, a, rfl, ⟨ts, sqt_new ha1⟩, fun l nl => ?_⟩
      refine lc_out (walk_tup (xs := ts)) (T := T) nl VInt (fun _ _ _ _ _ _ _ h => h) (fun j => (t[j]?).map fun r => r.getD i 0) (Nat.le_of_lt (small_line (by omega))) (fun H' e => sqt_new (e.tup ha1))
        (fun j x H5 H5' Ad Z hj e5 y hA hZ => ?_) fun H5 acc e5 eD5 p5 => ?_
      · obtain ⟨rfl, hx⟩ := y
        obtain ⟨r, hr, ⟨ar, rfl, har⟩, _⟩ := paired_take pr1 hx
        have wr := G.wide r (List.mem_of_getElem? hr)
        refine ⟨rfl, lc_yes ?_⟩
        exact ⟨_, rfl, _, rfl, ar, _, _, _, rfl, rfl, sqt_new (e5.row har), atI_of (row_at (i := i) (by omega)) (by omega), hA _ _ _ (by rw [hr]; rfl) (.refl _ _) rfl⟩
      obtain rfl := vints p5
      rw [lts, filt_at] at eD5
      change H5 l = some (.lst ((col i t).map V.int)) at eD5
      refine ⟨Int, l, _, col i t, PyData.int, VInt H5, rfl, .inl (sql_new eD5), sd_ints H5 (col i t), fun ps zs nps pz => ?_⟩
      obtain rfl := vints (H := H5) pz
      refine ⟨ps, _, rfl, sql_new upd_same, fun p3 np3 => ?_⟩
      have e6 := (e5.add (o := .lst (((col i t).mergeSort (PySem.W.dataLe false PyData.int)).map V.int)) nps).add (o := .lst (((col i t).mergeSort (PySem.W.dataLe false PyData.int)).map V.int).reverse) np3
      refine hA _ _ e6 ⟨p3, rfl, fun z => ?_, fun z => ?_, by rw [upd_same, List.map_reverse]⟩
      · exact sd ((e5.add (o := .lst (((col i t).mergeSort (PySem.W.dataLe false PyData.int)).map V.int)) nps).free (z ▸ np3))
      · have := congrArg List.length z
        rw [List.length_reverse, List.length_mergeSort, lcol, List.length_nil] at this
        omega
    · generalize hcols : (List.range (g : Int).toNat).map (fun i => ((col i t).mergeSort (PySem.W.dataLe false PyData.int)).reverse) = cols at pcd
      have pcc : Paired (VCol Hc) vs cols := Paired.mapP pcd fun _ _ ⟨b, h1, _, h3, h4⟩ => ⟨b, h1, h3, h4⟩
      have lg : cols.length = g := by
        rw [← hcols]
        simp
      have lvs := Paired.length pcc
      have hcc : ∀ c ∈ cols, c.length = n ∧ ∀ x ∈ c, 0 ≤ x ∧ x ≤ 99 := fun c hc => by
        rw [← hcols] at hc
        obtain ⟨i, hi, rfl⟩ := List.mem_map.mp hc
        have hi := List.mem_range.mp hi
        obtain ⟨lcol, mcol⟩ := col_ok G (k := i) (by omega)
        refine ⟨by rw [List.length_reverse, List.length_mergeSort, lcol], fun x hx => mcol x ?_⟩
        rw [List.mem_reverse] at hx
        exact (List.mergeSort_perm _ _).mem_iff.mp hx
      refine ⟨_, rfl, a, ts, rfl, .inr (sqt_new (ec.tup ha)), (n : Int), by rw [lts, ln], by omega, by omega, fun D nD => ?_⟩
      refine lc_out walk_range (T := T) nD VRow (fun _ _ _ _ _ h e r => r.kt (e.kt h)) (fun i => some (cols.map fun c => c.getD i 0)) (Nat.le_of_lt (small_line (by omega))) (fun _ _ => trivial)
        (fun i x H8 H8' Ad Z hi e8 y hA hZ => ?_) fun H8 acc e8 eD p8 => ?_
      · obtain ⟨rfl, rfl⟩ := y
        have hi' : i < n := by omega
        have hS8 := e8.lst hSc
        have pc8 := Paired.mapP pcc fun _ _ r => VCol.ext e8 r
        refine ⟨rfl, lc_yes ?_⟩
        refine ⟨_, rfl, S, rfl, ⟨vs, sql_new hS8⟩, fun D2 nD2 => ?_⟩
        refine lc_out (walk_list (xs := vs)) (T := T) nD2 VInt (fun _ _ _ _ _ _ _ h => h) (fun j => (cols[j]?).map fun c => c.getD i 0) (Nat.le_of_lt (small_line (by omega))) (fun H' e => sql_new (e.lst hS8))
          (fun j x H9 H9' Ad Z hj e9 y hA hZ => ?_) fun H9 acc e9 eD2 p9 => ?_
        · obtain ⟨rfl, hx⟩ := y
          obtain ⟨c, hc, ⟨ac, rfl, cne, hac⟩, hj1⟩ := paired_take pc8 hx
          obtain ⟨lc, _⟩ := hcc c (List.mem_of_getElem? hc)
          refine ⟨rfl, lc_yes ?_⟩
          exact ⟨_, rfl, _, rfl, ac, _, _, _, rfl, rfl, sql_new (e9.lst hac), atI_of (row_at (i := i) (by omega)) (by omega), hA _ _ _ (by rw [hc]; rfl) (.refl _ _) rfl⟩
        · obtain rfl := vints p9
          rw [show vs.length = cols.length from Paired.length pcc, filt_at] at eD2
          refine ⟨D2, _, rfl, .inl ⟨sql_new eD2, fun r nr => hA _ _ _ rfl (e9.add nr) ⟨r, rfl, upd_same⟩⟩⟩
      · rw [filterMap_map, show ((n : Int)).toNat = n by omega] at p8
        refine ⟨D, _, rfl, .inl ⟨sql_new eD, fun r nr => ?_⟩⟩
        have tr : IsTab (upd H8 r (.tup acc)) r (trans cols (n)) := tab_of_rows upd_same (Paired.mapP p8 fun _ _ z => z.kt (Ext.new (T := T) nr).kt)
        exact q _ r _ ((ec.trans e8).add nr) tr (lg ▸ trans_good hcc)
end
end K5
namespace K5
open PySem PySem.Spec PyProof.Rows PySem.W L2 LamX RZ

/-! ### what the law carries -/
section
variable {P : Program} {w : World} {T : List (Addr × Str)} {H H' : Hp} {p sc d a b pw : Addr} {kvs : List (Tab × V)} {v : V} {n g : Nat} {t : Tab} {zs vs us : List V}
theorem DictW.neRow (hW : DictW P w H d kvs) (rv : RowV H p sc) : d ≠ p := fun z => by
  obtain ⟨_, h, _⟩ := hW
  obtain ⟨_, _, _, _, hr⟩ := rv
  rw [z, hr] at h
  cases h
theorem DictW.extX (hW : DictW P w H d kvs) (rv : RowV H p sc) (e : ExtX T p H H') : DictW P w H' d kvs := by
  have n := hW.neRow rv
  refine hW.kt (rv.kt e) ?_
  obtain ⟨_, h, _⟩ := hW
  rw [h]
  exact e.keep d _ n h fun ps z => nomatch z
theorem VDW.extX (rv : RowV H p sc) (e : ExtX T p H H') (v : V) (k : Nat) (m : Nat × Nat) (h : VDW H v k m) : VDW H' v k m := by
  obtain ⟨a, z, h⟩ := h
  refine ⟨a, z, e.lst (fun q => ?_) h⟩
  obtain ⟨_, _, _, _, hr⟩ := rv
  rw [q, hr] at h
  have h := HO.lst.inj (Option.some.inj h)
  injection h with h1 h2
  cases h1
structure LawS (P : Program) (w : World) (H : Hp) (p sc a : Addr) (n g : Nat) (t : Tab) (d : Addr) (kvs : List (Tab × V)) (pw : Addr) (zs : List V) : Prop where
  rv : RowV H p sc
  tok : TabOk H a n g t
  hW : DictW P w H d kvs
  fo : FO VDW H kvs (bfs t) (best2 t)
  hw : H pw = some (.lst zs)
  pz : Paired (VTab H) zs ((ks (bfs t)).mergeSort tabLe)
  ne : pw ≠ p
theorem LawS.ext (s : LawS P w H p sc a n g t d kvs pw zs) (e : Ext T H H') : LawS P w H' p sc a n g t d kvs pw zs :=
  ⟨s.rv.ext e, s.tok.ext e, s.hW.ext e, s.fo.mono (VDW.ext e), e.lst s.hw, VTabs.kt s.pz e.kt, s.ne⟩
theorem TabOk.kt (h : TabOk H a n g t) (k : KT H H') : TabOk H' a n g t := ⟨h.tab.kt k, h.good, h.small⟩
theorem LawS.extX (s : LawS P w H p sc a n g t d kvs pw zs) (e : ExtX T p H H') (rv : RowV H' p sc) : LawS P w H' p sc a n g t d kvs pw zs :=
  ⟨rv, s.tok.kt (s.rv.kt e), s.hW.extX s.rv e, s.fo.mono (VDW.extX s.rv e), e.lst s.ne s.hw, VTabs.kt s.pz (s.rv.kt e), s.ne⟩
/-! ### alike data -/
theorem alike_list {k : Nat} {l m : Addr} (hl : H l = some (.lst vs)) (hm : H m = some (.lst us)) (e : vs.length = us.length) (z : us.length ≤ 100000) (h : ∀ (i : Nat) (u v : V), vs[i]? = some u → us[i]? = some v → AlikeV H k u v) : AlikeV H (k + 1) (.ref l) (.ref m) :=
  .inr (.inr (.inr ⟨l, m, vs, us, rfl, rfl, e, z, .inr ⟨hl, hm⟩, h⟩))
theorem alike_tup {k : Nat} {l m : Addr} (hl : H l = some (.tup vs)) (hm : H m = some (.tup us)) (e : vs.length = us.length) (z : us.length ≤ 100000) (h : ∀ (i : Nat) (u v : V), vs[i]? = some u → us[i]? = some v → AlikeV H k u v) : AlikeV H (k + 1) (.ref l) (.ref m) :=
  .inr (.inr (.inr ⟨l, m, vs, us, rfl, rfl, e, z, .inl ⟨hl, hm⟩, h⟩))
theorem alike_int {k : Nat} (i : Int) : AlikeV H (k + 1) (.int i) (.int i) := .inl ⟨i, rfl, rfl⟩
theorem alike_bl {k : Nat} (i : Bool) : AlikeV H (k + 1) (.bl i) (.bl i) := .inr (.inl ⟨i, rfl, rfl⟩)
theorem alike_non {k : Nat} : AlikeV H (k + 1) .non .non := .inr (.inr (.inl ⟨rfl, rfl⟩))
theorem alike_row {k : Nat} {r : Row} (ha : IsRow H a r) (hb : IsRow H b r) (z : r.length ≤ 100) : AlikeV H (k + 2) (.ref a) (.ref b) :=
  alike_tup ha hb rfl (by rw [List.length_map]; omega) fun i u v hu hv => by
    rw [hu] at hv
    obtain rfl := Option.some.inj hv
    rw [List.getElem?_map] at hu
    obtain ⟨x, _, rfl⟩ := Option.map_eq_some_iff.mp hu
    exact alike_int x
theorem alike_tab {k : Nat} (ha : IsTab H a t) (hb : IsTab H b t) (G : Good n g t) (sm : Small n g) : AlikeV H (k + 3) (.ref a) (.ref b) := by
  obtain ⟨vs, h1, p1⟩ := ha.rows
  obtain ⟨us, h2, p2⟩ := hb.rows
  obtain ⟨_, _, z⟩ := sm
  have e1 := Paired.length p1
  have e2 := Paired.length p2
  have ln := G.len
  refine alike_tup h1 h2 (by omega) (by omega) fun i u v hu hv => ?_
  obtain ⟨r, hr, a1, rfl, h1⟩ := paired_at p1 hu
  obtain ⟨r', hr', a2, rfl, h2⟩ := paired_at p2 hv
  rw [hr] at hr'
  obtain rfl := Option.some.inj hr'
  have := G.wide r (List.mem_of_getElem? hr)
  exact alike_row h1 h2 (by omega)
theorem alike_tabs {k : Nat} {l m : Addr} {ts : List Tab} (hl : H l = some (.lst vs)) (hm : H m = some (.lst us)) (p1 : Paired (VTab H) vs ts) (p2 : Paired (VTab H) us ts) (z : ts.length ≤ 3000) (sm : Small n g) (G : ∀ x ∈ ts, Good n g x) : AlikeV H (k + 4) (.ref l) (.ref m) := by
  have e1 := Paired.length p1
  have e2 := Paired.length p2
  refine alike_list hl hm (by omega) (by omega) fun i u v hu hv => ?_
  obtain ⟨r, hr, a1, rfl, h1⟩ := paired_at p1 hu
  obtain ⟨r', hr', a2, rfl, h2⟩ := paired_at p2 hv
  rw [hr] at hr'
  obtain rfl := Option.some.inj hr'
  exact alike_tab h1 h2 (G r (List.mem_of_getElem? hr)) sm
theorem alike_ints {k : Nat} {l m : Addr} {xs : List V} (hl : H l = some (.tup xs)) (hm : H m = some (.tup xs)) (z : xs.length ≤ 100000) (h : ∀ x ∈ xs, ∃ i, x = .int i) : AlikeV H (k + 2) (.ref l) (.ref m) :=
  alike_tup hl hm rfl z fun i u v hu hv => by
    rw [hu] at hv
    obtain rfl := Option.some.inj hv
    obtain ⟨x, rfl⟩ := h u (List.mem_of_getElem? hu)
    exact alike_int x
theorem tab_rev (h : IsTab H a t) : ∃ xs, H a = some (.tup xs) ∧ ∀ (H' : Hp) (b : Addr), KT H H' → H' b = some (.tup xs.reverse) → IsTab H' b t.reverse := by
  obtain ⟨xs, h1, p1⟩ := h.rows
  exact ⟨xs, h1, fun H' b k hb => tab_of_rows hb (paired_rev (Paired.mapP p1 fun _ _ r => r.kt k))⟩
end
end K5
namespace K5
open PySem PySem.Spec PyProof.Rows L2 LamX RZ
section
variable {T : List (Addr × Str)} {P : Program} {w : World} {K : PySem.W.Frag} {mg : Str → Option Value} {base : Heap} {f : Addr} {fd : FuncData}
abbrev n_law : List Str := ["_law_script", "_law_row", "_law_table_here", "_law_far", "_law_whole", "_law_sizes", "_law_told", "_law_size", "_law_other", "_law_known", "_law_found", "_law_path", "_law_at"]
theorem sc_law : FnScope n_law ["_law_script"] (defScope s_law) := ⟨rfl, rfl, rfl, by decide +kernel, rfl, by decide +kernel, by decide +kernel⟩
def spLaw (T : List (Addr × Str)) (K : PySem.W.Frag) : Sp := fun vs H Q _ => ∃ (sc : Addr) (ns : List Int), vs = [.ref sc] ∧ SqL K H sc (ns.map V.int) ∧ Tabs T H ∧ ∀ H', Q (.bl true) H'
theorem ok_law (fr : Fr mg) (g_Lpick : Kn P w K mg base "_law_pick" ["_law_row", "_law_things"] 2 (spPick T K)) (g_Ltable : Kn P w K mg base "_law_table" ["_law_row", "_law_crowded", "_law_sorts", "_law_top"] 2 (spTable T K)) (g_Lunlike : Kn P w K mg base "_law_unlike" ["_law_row", "_law_crowded", "_law_sorts"] 2 (spUnlike T K))
    (g_Lmet : Kn P w K mg base "_law_met" ["_law_table_here"] 5 (spMet P w T)) (g_Lalike : Kn P w K mg base "_law_alike" ["_law_found", "_law_due"] 6 (spAlike T 5)) (g_all_met : Kn P w K mg base "all_met" ["table"] 9 (spAllMet T))
    (g_count_met : Kn P w K mg base "count_met" ["table"] 9 (spCountMet T)) (g_Lodds : Kn P w K mg base "_law_odds" ["_law_table_here"] 3 (spOdds T)) (g_count_by_odds : Kn P w K mg base "count_by_odds" ["table"] 9 (spCountByOdds T))
    (g_Lmixed : Kn P w K mg base "_law_mixed" ["_law_row", "_law_table_here"] 2 (spMixed T K)) (g_Ltower : Kn P w K mg base "_law_tower" ["_law_table_here"] 1 (spTower T)) (g_Lcrowd : Kn P w K mg base "_law_crowd" ["_law_table_here"] 1 (spCrowd T))
    (g_can_come : Kn P w K mg base "can_come" ["one", "other"] 9 (spTwo T rCanCome)) (g_least_deeds : Kn P w K mg base "least_deeds" ["one", "other"] 9 (spTwo T rLeast)) (g_most_deeds : Kn P w K mg base "most_deeds" ["one", "other"] 9 (spTwo T rMost))
    (g_count_ways : Kn P w K mg base "count_ways" ["one", "other"] 12 (spTwo T rWays)) (g_way : Kn P w K mg base "way" ["one", "other"] 9 (spWay T)) (g_shows_way : Kn P w K mg base "shows_way" ["one", "other", "value"] 10 (spShowsWay T)) (g_Lnexts : Kn P w K mg base "_law_nexts" ["_law_table_here"] 4 (spNexts T))
    (F : FnP K "law" s_law f fd) : FnOk P w K mg base CX0 13 f fd ["_law_script"] (spLaw T K) := by
  refine F.ok sc_law (fun vs H Q E h => ?_) (fun cdv A outer s H vs Q E hr h => ?_)
  · obtain ⟨sc, ns, rfl, _⟩ := h
    rfl
  · obtain ⟨sc, ns, rfl, hs, hT, q⟩ := h
    have nd := sc_law.nd
    have few10 : ∀ {k : Nat}, k ≤ 10 → k ≤ sizeLine := fun h => Nat.le_of_lt (small_line (by omega))
    refine ⟨_, (PSs.nox (pss_cons (ps_set (i := 1) nd rfl (by first | exact .inl rfl | exact .inr rfl) (pe_lst (pa_cons (pv 0) (pa_cons pe_int (pa_cons pe_int (pa_cons pe_int pa_nil))))))
      (pss_cons (ps_set (i := 2) nd rfl (by first | exact .inl rfl | exact .inr rfl) (pe_k g_Lpick (hr.mono (by decide)) rfl (pa_cons (pv 1) (pa_cons (pe_lst (pa_cons (pe_k g_Ltable (hr.mono (by decide)) rfl (pa_cons (pv 1) (pa_cons pe_int (pa_cons pe_int (pa_cons pe_int pa_nil))))) (pa_cons (pe_k g_Lunlike (hr.mono (by decide)) rfl (pa_cons (pv 1) (pa_cons pe_int (pa_cons pe_int pa_nil)))) (pa_cons (pe_k g_Ltable (hr.mono (by decide)) rfl (pa_cons (pv 1) (pa_cons pe_int (pa_cons pe_int (pa_cons pe_int pa_nil))))) pa_nil)))) pa_nil))))
      (pss_cons (ps_set (i := 3) nd rfl (by first | exact .inl rfl | exact .inr rfl) (pe_k g_Lmet (hr.mono (by decide)) rfl (pa_cons (pv 2) pa_nil)))
      (pss_cons (ps_set (i := 4) nd rfl (by first | exact .inl rfl | exact .inr rfl) (pe_callB (call_sortL (hu66 hr)) rfl fr.sorted (by decide +kernel) (pa_cons (pe_callTy (call_listN rfl) rfl fr.list (by decide +kernel) (pa_cons (pv 3) pa_nil)) pa_nil)))
      (pss_cons (ps_if (pt_not (pt_val (pe_k g_Lalike (hr.mono (by decide)) rfl (pa_cons (pe_lst (pa_cons (pe_k g_all_met (hr.mono (by decide)) rfl (pa_cons (pv 2) pa_nil)) (pa_cons (pe_k g_count_met (hr.mono (by decide)) rfl (pa_cons (pv 2) pa_nil)) pa_nil))) (pa_cons (pe_lst (pa_cons (pv 4) (pa_cons (pe_callB call_len_seq rfl fr.len (by decide +kernel) (pa_cons (pv 4) pa_nil)) pa_nil))) pa_nil))))) (pss_one (ps_ret pe_bl)) pss_nil)
      (pss_cons (ps_set (i := 5) nd rfl (by first | exact .inl rfl | exact .inr rfl) (pe_lc (g := (gName 6)) (own := [("_law_told", 6)]) (tt := tYes) rfl nd (pi_list (pv 4)) (blkOk_by (N := n_law) (own := [("_law_told", 6)]) (sc := (defScope s_law)) (by decide +kernel)) (fun _ _ _ _ _ => (pg_name (i := 6) nd rfl (by first | exact .inl rfl | exact .inr rfl))) (fun _ _ _ _ _ => pts_nil) (fun _ _ _ _ _ => (pe_callB (call_len_seqK K rfl) rfl fr.len (by decide +kernel) (pa_cons (pe_k g_Lodds (hr.mono (by decide)) rfl (pa_cons (pv 6) pa_nil)) pa_nil)))))
      (pss_cons (ps_if (pt_not (pt_val (pe_k g_Lalike (hr.mono (by decide)) rfl (pa_cons (pe_k g_count_by_odds (hr.mono (by decide)) rfl (pa_cons (pv 2) pa_nil)) (pa_cons (pe_callTy call_tuple_of rfl fr.tuple (by decide +kernel) (pa_cons (pe_lc (g := (gName 7)) (own := [("_law_size", 7)]) (tt := tYes) rfl nd (pi_range1 rfl fr.range (pa_cons (pe_op op_add (pe_callB (cr_max rfl) rfl fr.max (by decide +kernel) (pa_cons (pv 5) pa_nil)) pe_int) pa_nil)) (blkOk_by (N := n_law) (own := [("_law_size", 7)]) (sc := (defScope s_law)) (by decide +kernel)) (fun _ _ _ _ _ => (pg_name (i := 7) nd rfl (by first | exact .inl rfl | exact .inr rfl))) (fun _ _ _ _ _ => pts_nil) (fun _ _ _ _ _ => (ttK K rfl (t := fun K => tBM K "list" (rCntI K) _ _) (pe_bm PySem.F.plainAttrs_list PySem.F.slot_list_count PySem.F.type_list_count mt_lcount (pv 5) (pa_cons (pv 7) pa_nil))))) pa_nil)) pa_nil))))) (pss_one (ps_ret pe_bl)) pss_nil)
      (pss_cons (ps_set (i := 8) nd rfl (by first | exact .inl rfl | exact .inr rfl) (pe_k g_Lpick (hr.mono (by decide)) rfl (pa_cons (pv 1) (pa_cons (pe_lst (pa_cons (pe_k g_Lpick (hr.mono (by decide)) rfl (pa_cons (pv 1) (pa_cons (pv 4) pa_nil))) (pa_cons (pe_revT (pe_k g_Lpick (hr.mono (by decide)) rfl (pa_cons (pv 1) (pa_cons (pv 4) pa_nil)))) (pa_cons (pe_k g_Lmixed (hr.mono (by decide)) rfl (pa_cons (pv 1) (pa_cons (pv 2) pa_nil))) (pa_cons (pe_k g_Ltower (hr.mono (by decide)) rfl (pa_cons (pv 2) pa_nil)) pa_nil))))) pa_nil))))
      (pss_cons (ps_set (i := 9) nd rfl (by first | exact .inl rfl | exact .inr rfl) (pe_nget1 hr.units (pv 3) (pe_k g_Lcrowd (hr.mono (by decide)) rfl (pa_cons (pv 8) pa_nil)) ⟨rfl, rfl, rfl, rfl⟩))
      (pss_cons (ps_set (i := 10) nd rfl (by first | exact .inl rfl | exact .inr rfl) (pe_lst (pa_cons (pe_k g_can_come (hr.mono (by decide)) rfl (pa_cons (pv 2) (pa_cons (pv 8) pa_nil))) (pa_cons (pe_k g_least_deeds (hr.mono (by decide)) rfl (pa_cons (pv 2) (pa_cons (pv 8) pa_nil))) (pa_cons (pe_k g_most_deeds (hr.mono (by decide)) rfl (pa_cons (pv 2) (pa_cons (pv 8) pa_nil))) (pa_cons (pe_k g_count_ways (hr.mono (by decide)) rfl (pa_cons (pv 2) (pa_cons (pv 8) pa_nil))) pa_nil))))))
      (pss_cons (ps_if (pt_not (pt_val (pe_k g_Lalike (hr.mono (by decide)) rfl (pa_cons (pv 10) (pa_cons (pe_op op_cat (pe_lst (pa_cons (pe_cmpR op_notN (pv 9) pe_non (nomark _)) pa_nil)) (pe_ifExp (pt_cmpR op_notN (pv 9) pe_non (nomark _)) (pv 9) (pe_lst (pa_cons pe_non (pa_cons pe_non (pa_cons pe_int pa_nil)))))) pa_nil))))) (pss_one (ps_ret pe_bl)) pss_nil)
      (pss_cons (ps_set (i := 11) nd rfl (by first | exact .inl rfl | exact .inr rfl) (pe_k g_way (hr.mono (by decide)) rfl (pa_cons (pv 2) (pa_cons (pv 8) pa_nil))))
      (pss_cons (ps_if (PW.pt (pw_or (pt_cmpR op_ne (pe_cmpR op_isN (pv 11) pe_non (nomark _)) (pe_cmpR op_isN (pv 9) pe_non (nomark _)) (nomark _)) (pw_or1 (pt_cmpR op_isnot_bl (pe_k g_shows_way (hr.mono (by decide)) rfl (pa_cons (pv 2) (pa_cons (pv 8) (pa_cons (pv 11) pa_nil)))) pe_bl (nomark _))))) (pss_one (ps_ret pe_bl)) pss_nil)
      (pss_cons (ps_if (pt_cmpR op_isN (pv 11) pe_non (nomark _)) (pss_one (ps_ret pe_bl)) pss_nil)
      (pss_cons (ps_if (PW.pt (pw_or (pt_cmpR op_ne (pe_callB call_len_seq rfl fr.len (by decide +kernel) (pa_cons (pv 11) pa_nil)) (pe_op op_add (pe_ix ix_list (pv 9) pe_int (fun _ _ => rfl)) pe_int) (nomark _)) (pw_or (pt_cmpR (op_neD hr.units) (pe_ix ix_tup (pv 11) pe_int (fun _ _ => rfl)) (pe_k g_Lcrowd (hr.mono (by decide)) rfl (pa_cons (pv 2) pa_nil)) (nomark _)) (pw_or1 (pt_cmpR (op_neD hr.units) (pe_ix ix_tup (pv 11) (pe_un un_neg pe_int) (fun _ _ => rfl)) (pe_k g_Lcrowd (hr.mono (by decide)) rfl (pa_cons (pv 8) pa_nil)) (nomark _)))))) (pss_one (ps_ret pe_bl)) pss_nil)
      (pss_one (ps_ret (pe_cmpR (op_eqD hr.units) (pe_lc (g := (gName 12)) (own := [("_law_at", 12)]) rfl nd (pi_range1 rfl fr.range (pa_cons (pe_op op_sub (pe_callB call_len_seq rfl fr.len (by decide +kernel) (pa_cons (pv 11) pa_nil)) pe_int) pa_nil)) (blkOk_by (N := n_law) (own := [("_law_at", 12)]) (sc := (defScope s_law)) (by decide +kernel)) (fun _ _ _ _ _ => (pg_name (i := 12) nd rfl (by first | exact .inl rfl | exact .inr rfl))) (fun _ _ _ _ _ => (pts_one (pt_cmpR (op_notInDK K rfl (hu65 hr)) (pe_ix (ix_tupK K rfl) (pv 11) (pe_op op_add (pv 12) pe_int) (fun _ _ => rfl)) (pe_k g_Lnexts (hr.mono (by decide)) rfl (pa_cons (pe_ix (ix_tupK K rfl) (pv 11) (pv 12) (fun _ _ => rfl)) pa_nil)) rfl))) (fun _ _ _ _ _ => (pv 12))) (pe_lst pa_nil) (nomark _)))))))))))))))))))), ?_⟩
    -- the row
    refine ⟨_, rfl, few10 (by simp), fun p np => ?_⟩
    have e1 : Ext T H (upd H p (.lst [.ref sc, .int 0, .int 8005, .int 0])) := .new np
    have rv1 : RowV (upd H p (.lst [.ref sc, .int 0, .int 8005, .int 0])) p sc := ⟨0, 8005, 0, by decide, upd_same⟩
    have st : Stay K sc p ns := stay_of hs np
    generalize upd H p (.lst [.ref sc, .int 0, .int 8005, .int 0]) = H1 at e1 rv1
    -- the table
    refine ⟨_, rfl, _, rfl, p, sc, ns, 4, 3, 5, rfl, rv1, e1.sql hs, st, by decide, by decide, by decide, by decide, by decide, by decide, fun H2 a1 n1 g1 t1 x2 rv2 b1 b2 b3 b4 ta1 G1 => ?_⟩
    have e2 : Ext T H H2 := ExtX.ext e1 np x2
    refine ⟨_, rfl, p, sc, ns, 4, 3, rfl, rv2, e2.sql hs, st, by decide, by decide, by decide, by decide, fun H3 a2 n2 g2 t2 x3 rv3 c1 c2 c3 c4 ta2 G2 => ?_⟩
    have e3 : Ext T H H3 := ExtX.ext e2 np x3
    refine ⟨_, rfl, p, sc, ns, 5, 2, 9, rfl, rv3, e3.sql hs, st, by decide, by decide, by decide, by decide, by decide, by decide, fun H4 a3 n3 g3 t3 x4 rv4 d1 d2 d3 d4 ta3 G3 => ?_⟩
    have e4 : Ext T H H4 := ExtX.ext e3 np x4
    refine ⟨few10 (by simp), fun l nl => ?_⟩
    have f5 : Ext T H4 (upd H4 l (.lst [.ref a1, .ref a2, .ref a3])) := .new nl
    have hl5 : (upd H4 l (.lst [.ref a1, .ref a2, .ref a3])) l = some (.lst [.ref a1, .ref a2, .ref a3]) := upd_same
    have rv5 := rv4.ext f5
    have lp : l ≠ p := rv4.ne nl
    generalize upd H4 l (.lst [.ref a1, .ref a2, .ref a3]) = H5 at f5 hl5 rv5
    have e5 := e4.trans f5
    refine ⟨p, sc, l, ns, _, rfl, rv5, e5.sql hs, st, lp, hl5, by simp, by simp, fun H6 i v x6 rv6 hv => ?_⟩
    have e6 : Ext T H H6 := ExtX.ext e5 np x6
    have k56 := rv5.kt x6
    have k46 := f5.kt.trans k56
    have k36 := (rv3.kt x4).trans k46
    have k26 := (rv2.kt x3).trans k36
    obtain ⟨a, n, g, t, rfl, tok⟩ : ∃ a n g t, v = .ref a ∧ TabOk H6 a n g t := by
      match i, hv with
      | 0, hv => exact ⟨a1, n1, g1, t1, (Option.some.inj hv).symm, ta1.kt k26, G1, b1, b3, .inl ⟨by omega, by omega⟩⟩
      | 1, hv => exact ⟨a2, n2, g2, t2, (Option.some.inj hv).symm, ta2.kt k36, G2, c1, c3, .inl ⟨by omega, by omega⟩⟩
      | 2, hv => exact ⟨a3, n3, g3, t3, (Option.some.inj hv).symm, ta3.kt k46, G3, d1, d3, .inr ⟨by omega, by omega⟩⟩
      | i + 3, hv => simp at hv
    clear x2 x3 x4 f5 hl5 rv1 rv2 rv3 rv4 rv5 ta1 ta2 ta3 G1 G2 G3 e1 e2 e3 e4 e5 x6 k56 k46 k36 k26
    have G := tok.good
    have sm := tok.small
    have z2 : 1 ≤ g := sm.2.1
    have BO := bfs_ok G
    have few8 : (ks (bfs t)).length ≤ 3000 := few sm G BO.nd BO.good
    have n5 : n ≤ 100 ∧ g ≤ 100 := by
      obtain ⟨_, _, z⟩ := sm
      omega
    -- far, whole
    refine ⟨_, rfl, a, n, g, t, rfl, tok, fun H7 d kvs f7 nd7 hW fo => ?_⟩
    obtain ⟨L, hL, eL, kL⟩ := hW.n
    have eK : L.map (·.1) = ks (bfs t) := by
      have := fo.keys
      rw [eL, List.map_map] at this
      exact this
    have pL : Paired (VTab H7) (L.map fun x => V.ref x.2.1) (ks (bfs t)) := eK ▸ dn_tabs kL
    refine ⟨_, rfl, d, L, rfl, hL, kL, fun pl npl => ?_⟩
    have f8 : Ext T H7 (upd H7 pl (.lst (L.map fun x => V.ref x.2.1))) := .new npl
    have pL8 := VTabs.kt pL f8.kt
    have hl8 : (upd H7 pl (.lst (L.map fun x => V.ref x.2.1))) pl = some (.lst (L.map fun x => V.ref x.2.1)) := upd_same
    generalize upd H7 pl (.lst (L.map fun x => V.ref x.2.1)) = H8 at f8 pL8 hl8
    have gne : ∀ r ∈ ks (bfs t), r ≠ [] := fun r hr z => by
      have h1 := (BO.good r hr).1.len
      have h2 := sm.1
      rw [z, List.length_nil] at h1
      omega
    refine ⟨Tab, pl, _, ks (bfs t), tabD, VTab H8, rfl, .inl (sql_new hl8), sd_tabs pL8 gne, fun pw zs npw pz => ?_⟩
    change Paired (VTab H8) zs ((ks (bfs t)).mergeSort tabLe) at pz
    have f9 : Ext T H8 (upd H8 pw (.lst zs)) := .new npw
    have f79 := (f7.trans f8).trans f9
    have e9 := e6.trans f79
    have S9 : LawS P w (upd H8 pw (.lst zs)) p sc a n g t d kvs pw zs :=
      ⟨rv6.ext f79, tok.ext f79, hW.ext (f8.trans f9), fo.mono (VDW.ext (f8.trans f9)), upd_same, VTabs.kt pz f9.kt, (rv6.ext (f7.trans f8)).ne npw⟩
    generalize upd H8 pw (.lst zs) = H9 at f9 f79 e9 S9
    clear f7 f8 f9 f79 hl8 pL8 pz pL eK kL eL hL hW fo tok rv6 e6
    have gW : ∀ x ∈ (ks (bfs t)).mergeSort tabLe, x ∈ ks (bfs t) := fun x hx => (List.mergeSort_perm _ _).mem_iff.mp hx
    have lW : ((ks (bfs t)).mergeSort tabLe).length = (ks (bfs t)).length := List.length_mergeSort _
    have lzs : zs.length = (ks (bfs t)).length := (Paired.length S9.pz).trans lW
    -- the first asking
    refine ⟨_, rfl, a, n, g, t, rfl, S9.tok, e9.tabs hT, fun H10 p1 zs1 f10 np1 hp1 pz1 => ?_⟩
    have S10 := S9.ext f10
    have e10 := e9.trans f10
    refine ⟨_, rfl, a, n, g, t, rfl, S10.tok, e10.tabs hT, fun H11 f11 => ⟨few10 (by simp), fun l1 nl1 => ?_⟩⟩
    have f12 := f11.add (o := .lst [.ref p1, .int (ks (bfs t)).length]) nl1
    have S12 := S10.ext f12
    have hl12 : (upd H11 l1 (.lst [.ref p1, .int (ks (bfs t)).length])) l1 = some (.lst [.ref p1, .int (ks (bfs t)).length]) := upd_same
    have hp12 := f12.lst hp1
    have pz12 := VTabs.kt pz1 f12.kt
    have e12 := e10.trans f12
    generalize upd H11 l1 (.lst [.ref p1, .int (ks (bfs t)).length]) = H12 at f12 S12 hl12 hp12 pz12 e12
    refine ⟨_, rfl, _, rfl, pw, zs, rfl, .inl (sql_new S12.hw), few10 (by simp), fun l2 nl2 => ?_⟩
    have f13 : Ext T H12 (upd H12 l2 (.lst [.ref pw, .int zs.length])) := .new nl2
    have hl13 : (upd H12 l2 (.lst [.ref pw, .int zs.length])) l2 = some (.lst [.ref pw, .int zs.length]) := upd_same
    have S13 := S12.ext f13
    have e13 := e12.trans f13
    generalize upd H12 l2 (.lst [.ref pw, .int zs.length]) = H13 at f13 hl13 S13 e13
    refine ⟨.ref l1, .ref l2, rfl, alike_list (f13.lst hl12) hl13 rfl (by simp) fun i u v hu hv => ?_, fun H14 f14 => ⟨true, rfl, iteF ?_⟩⟩
    · match i, hu, hv with
      | 0, hu, hv =>
        obtain rfl := Option.some.inj hu
        obtain rfl := Option.some.inj hv
        exact alike_tabs (f13.lst hp12) S13.hw (VTabs.kt pz12 f13.kt) S13.pz (by omega) sm fun x hx => (BO.good x (gW x hx)).1
      | 1, hu, hv =>
        obtain rfl := Option.some.inj hu
        obtain rfl := Option.some.inj hv
        rw [lzs]
        exact alike_int _
      | i + 2, hu, hv => simp at hu
    have S14 := S13.ext f14
    have e14 := e13.trans f14
    clear S9 S10 S12 S13 e9 e10 e12 e13 f10 f11 f12 f13 f14 hp1 pz1 hp12 pz12 hl12 hl13
    -- the sizes
    generalize hWd : (ks (bfs t)).mergeSort tabLe = W at *
    have pW : W.Perm (ks (bfs t)) := hWd ▸ List.mergeSort_perm _ _
    have pz14 : Paired (VTab H14) zs W := hWd ▸ S14.pz
    refine ⟨_, rfl, pw, rfl, ⟨zs, sql_new S14.hw⟩, fun D nD => ?_⟩
    refine lc_out (walk_list (xs := zs)) (T := T) nD VInt (fun _ _ _ _ _ _ _ h => h) (fun i => (W[i]?).map fun x => Int.ofNat (oddsT x).length) (Nat.le_of_lt (small_line (by omega))) (fun H' e => sql_new (e.lst S14.hw))
      (fun i x H9 H9' Ad Z hi e9 y hA hZ => ?_) fun H15 acc f15 eD p15 => ?_
    · obtain ⟨rfl, hx⟩ := y
      obtain ⟨t1, ht1, ⟨ah, rfl, tabh⟩, hi1⟩ := paired_take pz14 hx
      have hk1 := gW t1 (List.mem_of_getElem? ht1)
      refine ⟨rfl, lc_yes ?_⟩
      refine ⟨_, rfl, ah, n, g, t1, rfl, e9.tab tabh, (BO.good t1 hk1).1, n5.1, n5.2, fun H'' p ps e2 np hp pp => ⟨p, ps, rfl, .inl (sql_new hp), hA _ _ _ (by rw [ht1]; rfl) e2 ?_⟩⟩
      show V.int _ = V.int _
      rw [Paired.length pp]
      rfl
    obtain rfl := vints p15
    rw [show zs.length = W.length by omega, filt_at] at eD
    have S15 := S14.ext f15
    have e15 := e14.trans f15
    clear S14 e14 pz14 f15 p15
    generalize hsz : (W.map fun x => (oddsT x).length) = szW
    have esz : (W.map fun x => Int.ofNat (oddsT x).length) = szW.map Int.ofNat := by
      rw [← hsz, List.map_map]
      rfl
    have psz : szW.Perm (sizesT t) := by
      rw [← hsz]
      exact pW.map _
    rw [esz] at eD
    have posz : 0 < szW.length := by
      rw [psz.length_eq]
      unfold sizesT
      rw [List.length_map]
      exact List.length_pos_of_mem BO.st
    -- the second asking
    refine ⟨_, rfl, a, n, g, t, rfl, S15.tok, e15.tabs hT, fun m hm hmax H16 p2 f16 np2 hp2 => ?_⟩
    have S16 := S15.ext f16
    have e16 := e15.trans f16
    have eD16 := f16.lst eD
    have hm100 : m ≤ 100 := by
      obtain ⟨x, hx, rfl⟩ := List.mem_map.mp hm
      have := odds_ten (BO.good x hx).1 sm
      omega
    refine ⟨_, rfl, D, szW.map Int.ofNat, rfl, sql_new eD16, by rw [List.length_map]; exact posz, fun mi hmi hmaxi => ?_⟩
    obtain ⟨m', hm', rfl⟩ := List.mem_map.mp hmi
    obtain rfl : m' = m := by
      have h1 := hmax m' (psz.mem_iff.mp hm')
      have h2 := Int.ofNat_le.mp (hmaxi (Int.ofNat m) (List.mem_map.mpr ⟨m, psz.mem_iff.mpr hm, rfl⟩))
      omega
    refine ⟨_, _, rfl, rfl, (m' : Int) + 1, rfl, by omega, by omega, fun D3 nD3 => ?_⟩
    refine lc_out walk_range (T := T) nD3 VInt (fun _ _ _ _ _ _ _ h => h) (fun k => some (((sizesT t).count k : Nat) : Int)) (Nat.le_of_lt (small_line (by omega))) (fun _ _ => trivial)
      (fun k x H3 H3' Ad Z hk e3 y hA hZ => ?_) fun H17 acc f17 eD3 p17 => ?_
    · obtain ⟨rfl, rfl⟩ := y
      refine ⟨rfl, lc_yes ?_⟩
      refine ⟨_, rfl, .inl ⟨rfl, _, sql_new (e3.lst eD16)⟩, _, rfl, D, szW.map Int.ofNat, _, rfl, rfl, sql_new (e3.lst eD16), hA _ _ _ rfl (.refl _ _) ?_⟩
      show V.int _ = V.int _
      rw [Int.zero_add, ← psz.count_eq, ← count_cast]
      rfl
    obtain rfl := vints p17
    rw [filterMap_map, show ((m' : Int) + 1).toNat = m' + 1 by omega, List.map_map] at eD3
    change H17 D3 = some (.lst ((List.range (m' + 1)).map fun s => V.int ((sizesT t).count s))) at eD3
    refine ⟨D3, _, rfl, .inl ⟨sql_new eD3, fun r nr => ?_⟩⟩
    have f18 := f17.add (o := .tup ((List.range (m' + 1)).map fun s => V.int ((sizesT t).count s))) nr
    refine ⟨.ref p2, .ref r, rfl, alike_ints (f18.tup hp2) upd_same (by rw [List.length_map, List.length_range]; omega) fun x hx => ?_, fun H19 f19 => ⟨true, rfl, iteF ?_⟩⟩
    · obtain ⟨s, _, rfl⟩ := List.mem_map.mp hx
      exact ⟨_, rfl⟩
    have S19 := S16.ext (f18.trans f19)
    have e19 := e16.trans (f18.trans f19)
    clear S15 S16 e15 e16 f16 f17 f18 f19 eD eD16 eD3 p17 hp2 hmi hmaxi
    -- the other table
    have lz1 : 1 ≤ zs.length := by
      rw [lzs]
      exact List.length_pos_of_mem BO.st
    subst hWd
    refine ⟨_, rfl, _, rfl, _, rfl, p, sc, pw, ns, zs, rfl, S19.rv, e19.sql hs, st, S19.ne, S19.hw, lz1, by omega, fun H20 i1 v1 x20 rv20 hv1 => ?_⟩
    obtain ⟨u1, hu1, b1, rfl, tb1⟩ := paired_at S19.pz hv1
    have gu1 := (BO.good u1 (gW u1 (List.mem_of_getElem? hu1))).1
    have tb20 := tb1.kt (S19.rv.kt x20)
    have S20 := S19.extX x20 rv20
    have e20 : Ext T H H20 := ExtX.ext e19 np x20
    refine ⟨_, rfl, _, rfl, p, sc, pw, ns, zs, rfl, S20.rv, e20.sql hs, st, S20.ne, S20.hw, lz1, by omega, fun H21 i2 v2 x21 rv21 hv2 => ?_⟩
    obtain ⟨u2, hu2, b2, rfl, tb2⟩ := paired_at S20.pz hv2
    have gu2 := (BO.good u2 (gW u2 (List.mem_of_getElem? hu2))).1
    have tb21 := tb2.kt (S20.rv.kt x21)
    have tb1_21 := tb20.kt (S20.rv.kt x21)
    have S21 := S20.extX x21 rv21
    have e21 : Ext T H H21 := ExtX.ext e20 np x21
    obtain ⟨xs2, hx2, back⟩ := tab_rev tb21
    refine ⟨b2, xs2, rfl, sqt_new hx2, fun b2r nb2 => ?_⟩
    have f22 : Ext T H21 (upd H21 b2r (.tup xs2.reverse)) := .new nb2
    have tb2_22 := back _ b2r f22.kt upd_same
    have tb1_22 := f22.tab tb1_21
    have S22 := S21.ext f22
    have e22 := e21.trans f22
    generalize upd H21 b2r (.tup xs2.reverse) = H22 at f22 tb2_22 tb1_22 S22 e22
    refine ⟨_, rfl, _, rfl, p, sc, a, ns, n, g, t, rfl, S22.rv, e22.sql hs, st, S22.tok, fun H23 b3 u3 x23 rv23 tb3 gu3 => ?_⟩
    have S23 := S22.extX x23 rv23
    have e23 : Ext T H H23 := ExtX.ext e22 np x23
    have k23 := S22.rv.kt x23
    refine ⟨_, rfl, a, n, g, t, rfl, S23.tok, fun H24 b4 u4 f24 tb4 gu4 => ⟨few10 (by simp), fun l5 nl5 => ?_⟩⟩
    have f25 := f24.add (o := .lst [.ref b1, .ref b2r, .ref b3, .ref b4]) nl5
    have f25' : Ext T H24 (upd H24 l5 (.lst [.ref b1, .ref b2r, .ref b3, .ref b4])) := .new nl5
    have S25 := S23.ext f25
    have e25 := e23.trans f25
    have tb1_25 := (tb1_22.kt k23).kt f25.kt
    have tb2_25 := (tb2_22.kt k23).kt f25.kt
    have tb3_25 := tb3.kt f25.kt
    have tb4_25 := f25'.tab tb4
    have hl25 : (upd H24 l5 (.lst [.ref b1, .ref b2r, .ref b3, .ref b4])) l5 = some (.lst [.ref b1, .ref b2r, .ref b3, .ref b4]) := upd_same
    have l5p : l5 ≠ p := fun z => (S23.ext f24).rv.dom (z ▸ nl5)
    generalize upd H24 l5 (.lst [.ref b1, .ref b2r, .ref b3, .ref b4]) = H25 at f25 f25' S25 e25 tb1_25 tb2_25 tb3_25 tb4_25 hl25
    refine ⟨p, sc, l5, ns, _, rfl, S25.rv, e25.sql hs, st, l5p, hl25, by simp, by simp, fun H26 i v x26 rv26 hv => ?_⟩
    have S26 := S25.extX x26 rv26
    have e26 : Ext T H H26 := ExtX.ext e25 np x26
    have k26 := S25.rv.kt x26
    obtain ⟨b, u, rfl, ob⟩ : ∃ b u, v = .ref b ∧ TabOk H26 b n g u := by
      match i, hv with
      | 0, hv => exact ⟨b1, u1, (Option.some.inj hv).symm, tb1_25.kt k26, gu1, sm⟩
      | 1, hv => exact ⟨b2r, u2.reverse, (Option.some.inj hv).symm, tb2_25.kt k26, gu2.perm (List.reverse_perm _), sm⟩
      | 2, hv => exact ⟨b3, u3, (Option.some.inj hv).symm, tb3_25.kt k26, gu3, sm⟩
      | 3, hv => exact ⟨b4, u4, (Option.some.inj hv).symm, tb4_25.kt k26, gu4, sm⟩
      | i + 4, hv => simp at hv
    clear S19 S20 S21 S22 S23 S25 e19 e20 e21 e22 e23 e25 x20 x21 x23 x26 rv20 rv21 rv23 rv26 f22 f24 f25 f25' tb1 tb2 tb3 tb4 tb20 tb21 tb1_21 tb1_22 tb2_22 tb1_25 tb2_25 tb3_25 tb4_25 hl25 k23 k26 back hx2
    -- known
    refine ⟨_, rfl, d, kvs, rfl, S26.hW.n, _, rfl, b, u, rfl, ob.tab, good_ne ob.good z2, fun H27 pc f27 npc tc => ⟨pc, crowd u, rfl, (S26.ext f27).hW.n, tc, ?_⟩⟩
    have S27 := S26.ext f27
    have e27 := e26.trans f27
    have ob27 := ob.ext f27
    clear S26 e26 ob f27 tc npc
    -- found
    refine ⟨_, rfl, _, rfl, a, b, n, g, t, u, rfl, S27.tok, ob27, e27.tabs hT, fun H28 f28 => ?_⟩
    have S28 := S27.ext f28
    have e28 := e27.trans f28
    refine ⟨_, rfl, _, rfl, a, b, n, g, t, u, rfl, S28.tok, ob27.ext f28, e28.tabs hT, fun H29 f29 => ?_⟩
    have S29 := S28.ext f29
    have e29 := e28.trans f29
    have ob29 := (ob27.ext f28).ext f29
    refine ⟨_, rfl, _, rfl, a, b, n, g, t, u, rfl, S29.tok, ob29, e29.tabs hT, fun H30 f30 => ?_⟩
    have S30 := S29.ext f30
    have e30 := e29.trans f30
    have ob30 := ob29.ext f30
    refine ⟨_, rfl, _, rfl, a, b, n, g, t, u, rfl, S30.tok, ob30, e30.tabs hT, fun H31 f31 => ⟨few10 (by simp), fun l6 nl6 => ?_⟩⟩
    have f32 := f31.add (o := .lst [rCanCome t u, rLeast t u, rMost t u, rWays t u]) nl6
    have S32 := S30.ext f32
    have e32 := e30.trans f32
    have ob32 := ob30.ext f32
    have hl32 : (upd H31 l6 (.lst [rCanCome t u, rLeast t u, rMost t u, rWays t u])) l6 = some (.lst [rCanCome t u, rLeast t u, rMost t u, rWays t u]) := upd_same
    generalize upd H31 l6 (.lst [rCanCome t u, rLeast t u, rMost t u, rWays t u]) = H32 at f32 S32 e32 ob32 hl32
    clear S27 S28 S29 S30 e27 e28 e29 e30 ob27 ob29 ob30 f28 f29 f30 f31 f32
    by_cases hin : crowd u ∈ ks (bfs t)
    · -- deeds lead there
      obtain ⟨v, hv, av, rfl, hav⟩ := S32.fo.val (crowd u) hin
      rw [hv]
      refine ⟨_, rfl, _, rfl, rfl, few10 (by simp), fun l7 nl7 => ?_⟩
      have f33 : Ext T H32 (upd H32 l7 (.lst [.bl true])) := .new nl7
      have hl33 : (upd H32 l7 (.lst [.bl true])) l7 = some (.lst [.bl true]) := upd_same
      refine ⟨_, rfl, rfl, true, rfl, iteT ⟨_, rfl, l7, av, _, _, rfl, rfl, hl33, f33.lst hav, few10 (by simp), fun l8 nl8 => ?_⟩⟩
      generalize hH : upd (upd H32 l7 (HO.lst _)) l8 (HO.lst _) = H34
      have f34 : Ext T H32 H34 := by
        rw [← hH]
        exact f33.add nl8
      have hl34 : H34 l8 = some (.lst [.bl true, .int (dOf (bfs t) (crowd u)), .int (mostOf t (crowd u)), .int (waysOf t (crowd u))]) := by
        rw [← hH]
        exact upd_same
      clear hH
      have hl6 := f34.lst hl32
      have e4r : [rCanCome t u, rLeast t u, rMost t u, rWays t u] = [.bl true, .int (dOf (bfs t) (crowd u)), .int (mostOf t (crowd u)), .int (waysOf t (crowd u))] := by
        unfold rCanCome rLeast rMost rWays
        rw [if_pos hin, if_pos hin, if_pos hin, decide_eq_true hin]
      rw [e4r] at hl6
      have S34 := S32.ext f34
      have e34 := e32.trans f34
      have ob34 := ob32.ext f34
      have hav34 := f34.lst hav
      refine ⟨.ref l6, .ref l8, rfl, alike_list hl6 hl34 rfl (by simp) fun i u' v' hu hv' => ?_, fun H35 f35 => ⟨true, rfl, iteF ?_⟩⟩
      · rw [hu] at hv'
        obtain rfl := Option.some.inj hv'
        match i, hu with
        | 0, hu =>
          obtain rfl := Option.some.inj hu
          exact alike_bl _
        | 1, hu =>
          obtain rfl := Option.some.inj hu
          exact alike_int _
        | 2, hu =>
          obtain rfl := Option.some.inj hu
          exact alike_int _
        | 3, hu =>
          obtain rfl := Option.some.inj hu
          exact alike_int _
        | i + 4, hu => simp at hu
      have S35 := S34.ext f35
      have e35 := e34.trans f35
      have ob35 := ob34.ext f35
      have hav35 := f35.lst hav34
      clear S32 S34 e32 e34 ob32 ob34 f33 f34 f35 hav hav34 hl6 hl34 hl32 hl33
      -- the way
      refine ⟨_, rfl, _, rfl, a, b, n, g, t, u, rfl, S35.tok, ob35, e35.tabs hT, fun hn => absurd hin hn, fun _ H36 pp xs lw f36 npp hpp ppr wy => ?_⟩
      have S36 := S35.ext f36
      have e36 := e35.trans f36
      have ob36 := ob35.ext f36
      have hav36 := f36.lst hav35
      have lxs := Paired.length ppr
      have lwy := wy.len
      rw [BO.d0] at lwy
      refine ⟨_, rfl, rfl, _, rfl, rfl, rfl, false, by simp, iteF ?_⟩
      refine ⟨_, rfl, _, rfl, _, rfl, a, b, .ref pp, n, g, t, u, rfl, S36.tok, ob36, e36.tabs hT, .inr ⟨hin, pp, xs, lw, rfl, hpp, ppr, wy⟩, fun H37 f37 => ⟨true, true, rfl, rfl, false, rfl, iteF ?_⟩⟩
      refine ⟨_, rfl, rfl, false, rfl, iteF ?_⟩
      have hpp37 := f37.tup hpp
      have ppr37 := VTabs.kt ppr f37.kt
      have S37 := S36.ext f37
      have e37 := e36.trans f37
      have ob37 := ob36.ext f37
      refine ⟨_, rfl, pp, xs, rfl, .inr (sqt_new hpp37), _, rfl, av, _, 0, _, rfl, rfl, sql_new (f37.lst hav36), rfl, _, _, rfl, rfl, rfl, false, neI_false (by omega), iteF ?_⟩
      obtain ⟨c1, hc1, tc1⟩ := first_tab ppr37 wy.head
      refine ⟨_, rfl, pp, _, 0, _, rfl, rfl, sqt_new hpp37, hc1, _, rfl, a, t, rfl, S37.tok.tab, good_ne G z2, fun H38 pd f38 npd td => ⟨_, _, dp_tab (f38.tab tc1), dp_tab td, shaped_tab _, shaped_tab _, false, by rw [eqv_tab]; simp, iteF ?_⟩⟩
      have ppr38 := VTabs.kt ppr37 f38.kt
      obtain ⟨c2, hc2, tc2⟩ := last_tab ppr38 wy.last
      refine ⟨_, rfl, _, rfl, pp, _, -1, _, rfl, rfl, sqt_new (f38.tup hpp37), hc2, _, rfl, b, u, rfl, (ob37.ext f38).tab, good_ne ob37.good z2, fun H39 pe f39 npe te => ⟨_, _, dp_tab (f39.tab tc2), dp_tab te, shaped_tab _, shaped_tab _, false, by rw [eqv_tab]; simp, iteF ?_⟩⟩
      have hpp39 := f39.tup (f38.tup hpp37)
      have ppr39 := VTabs.kt ppr38 f39.kt
      have lwk := wy.few
      refine ⟨_, rfl, pp, xs, rfl, .inr (sqt_new hpp39), _, _, rfl, rfl, (xs.length : Int) - 1, rfl, by omega, by omega, fun D9 nD9 => ?_⟩
      refine lc_out walk_range (T := T) nD9 VInt (fun _ _ _ _ _ _ _ h => h) (fun _ => none) (Nat.le_of_lt (small_line (by omega))) (fun _ _ => trivial)
        (fun k x H3 H3' Ad Z hk e3 y hA hZ => ?_) fun H3 acc e3 eD9 p9 => ?_
      · obtain ⟨rfl, rfl⟩ := y
        have hk2 : k + 1 < lw.length := by omega
        have hp3 := e3.tup hpp39
        have pr3 := VTabs.kt ppr39 e3.kt
        obtain ⟨v1, hv1, g1, rfl, tg1⟩ := paired_at' pr3 (i := k) (b := lw[k]) (List.getElem?_eq_getElem _)
        obtain ⟨v2, hv2, g2, rfl, tg2⟩ := paired_at' pr3 (i := k + 1) (b := lw[k + 1]) (List.getElem?_eq_getElem _)
        have gd := BO.good lw[k] (wy.mem lw[k] (List.getElem_mem _)).1
        refine ⟨rfl, ?_⟩
        refine ⟨_, rfl, _, rfl, _, _, rfl, rfl, pp, _, _, _, rfl, rfl, sqt_new hp3, atI_of hv2 (by omega), _, rfl, _, rfl, pp, _, _, _, rfl, rfl, sqt_new hp3, atI_of hv1 (by omega), g1, n, g, lw[k], rfl, tg1, gd.1, sm, fun H4 pz zs4 f4 npz hpz ppz => ⟨tabD lw[k + 1], (nexts lw[k]).map tabD, dp_tab (f4.tab tg2), .lst (sql_new hpz) (dp_tabs ppz), shaped_tab _, shaped_tabs _, false, ?_, iteF (hZ _ rfl f4)⟩⟩
        rw [any_tab, decide_eq_true (wy.next k _ _ (List.getElem?_eq_getElem _) (List.getElem?_eq_getElem _))]
        rfl
      have eN : ((List.range ((xs.length : Int) - 1).toNat).filterMap fun _ => (none : Option Int)) = [] := List.filterMap_eq_nil_iff.mpr fun _ _ => rfl
      rw [eN] at p9
      cases p9
      refine ⟨Nat.zero_le _, fun em nem => ?_⟩
      refine ⟨.list [], .list [], .lst (sql_new ((Ext.new (T := T) nem).lst eD9)) .nil, .lst (sql_new upd_same) .nil, shaped_tabs [], shaped_tabs [], ?_⟩
      exact q _
    · -- no deeds lead there
      rw [val_none (by rw [S32.fo.keys]; exact hin)]
      refine ⟨_, rfl, _, rfl, rfl, few10 (by simp), fun l7 nl7 => ?_⟩
      have f33 : Ext T H32 (upd H32 l7 (.lst [.bl false])) := .new nl7
      have hl33 : (upd H32 l7 (.lst [.bl false])) l7 = some (.lst [.bl false]) := upd_same
      refine ⟨_, rfl, rfl, false, rfl, iteF ⟨few10 (by simp), fun l9 nl9 => ⟨l7, l9, _, _, rfl, rfl, (Ext.new (T := T) nl9).lst hl33, upd_same, few10 (by simp), fun l8 nl8 => ?_⟩⟩⟩
      generalize hH : upd (upd (upd H32 l7 (HO.lst _)) l9 (HO.lst _)) l8 (HO.lst _) = H34
      have f34 : Ext T H32 H34 := by
        rw [← hH]
        exact (f33.add nl9).add nl8
      have hl34 : H34 l8 = some (.lst [.bl false, .non, .non, .int 0]) := by
        rw [← hH]
        exact upd_same
      clear hH
      have hl6 := f34.lst hl32
      have e4r : [rCanCome t u, rLeast t u, rMost t u, rWays t u] = [.bl false, .non, .non, .int 0] := by
        unfold rCanCome rLeast rMost rWays
        rw [if_neg hin, if_neg hin, if_neg hin, decide_eq_false hin]
        rfl
      rw [e4r] at hl6
      have S34 := S32.ext f34
      have e34 := e32.trans f34
      have ob34 := ob32.ext f34
      refine ⟨.ref l6, .ref l8, rfl, alike_list hl6 hl34 rfl (by simp) fun i u' v' hu hv' => ?_, fun H35 f35 => ⟨true, rfl, iteF ?_⟩⟩
      · rw [hu] at hv'
        obtain rfl := Option.some.inj hv'
        match i, hu with
        | 0, hu =>
          obtain rfl := Option.some.inj hu
          exact alike_bl _
        | 1, hu =>
          obtain rfl := Option.some.inj hu
          exact alike_non
        | 2, hu =>
          obtain rfl := Option.some.inj hu
          exact alike_non
        | 3, hu =>
          obtain rfl := Option.some.inj hu
          exact alike_int _
        | i + 4, hu => simp at hu
      have S35 := S34.ext f35
      have e35 := e34.trans f35
      have ob35 := ob34.ext f35
      refine ⟨_, rfl, _, rfl, a, b, n, g, t, u, rfl, S35.tok, ob35, e35.tabs hT, fun _ H36 f36 => ?_, fun hh => absurd hh hin⟩
      have S36 := S35.ext f36
      have e36 := e35.trans f36
      have ob36 := ob35.ext f36
      refine ⟨_, rfl, rfl, _, rfl, rfl, rfl, false, by simp, iteF ?_⟩
      refine ⟨_, rfl, _, rfl, _, rfl, a, b, .non, n, g, t, u, rfl, S36.tok, ob36, e36.tabs hT, .inl ⟨rfl, hin⟩, fun H37 f37 => ⟨true, true, rfl, rfl, false, rfl, iteF ?_⟩⟩
      exact ⟨_, rfl, rfl, true, rfl, iteT (q _)⟩
end
end K5
namespace K5
open PySem PySem.Spec PyProof.Rows L2
def d_whole : He.DefD := ⟨("whole", none), "whole", "whole", defArgs s_whole, defBody s_whole, defScope s_whole, [], []⟩
def d_within : He.DefD := ⟨("within", none), "within", "within", defArgs s_within, defBody s_within, defScope s_within, [], []⟩
def d_tuple_of : He.DefD := ⟨("tuple_of", none), "tuple_of", "tuple_of", defArgs s_tuple_of, defBody s_tuple_of, defScope s_tuple_of, [], []⟩
def d_is_row : He.DefD := ⟨("is_row", none), "is_row", "is_row", defArgs s_is_row, defBody s_is_row, defScope s_is_row, [], []⟩
def d_bad_row : He.DefD := ⟨("bad_row", none), "bad_row", "bad_row", defArgs s_bad_row, defBody s_bad_row, defScope s_bad_row, [], []⟩
def d_need_table : He.DefD := ⟨("need_table", none), "need_table", "need_table", defArgs s_need_table, defBody s_need_table, defScope s_need_table, [], []⟩
def d_is_table : He.DefD := ⟨("is_table", none), "is_table", "is_table", defArgs s_is_table, defBody s_is_table, defScope s_is_table, [], []⟩
def d_need_like : He.DefD := ⟨("need_like", none), "need_like", "need_like", defArgs s_need_like, defBody s_need_like, defScope s_need_like, [], []⟩
def d_is_over_row : He.DefD := ⟨("is_over_row", none), "is_over_row", "is_over_row", defArgs s_is_over_row, defBody s_is_over_row, defScope s_is_over_row, [], []⟩
def d_are_at_odds : He.DefD := ⟨("are_at_odds", none), "are_at_odds", "are_at_odds", defArgs s_are_at_odds, defBody s_are_at_odds, defScope s_are_at_odds, [], []⟩
def d_odds_of : He.DefD := ⟨("odds_of", none), "odds_of", "odds_of", defArgs s_odds_of, defBody s_odds_of, defScope s_odds_of, [], []⟩
def d_crowd_of : He.DefD := ⟨("crowd_of", none), "crowd_of", "crowd_of", defArgs s_crowd_of, defBody s_crowd_of, defScope s_crowd_of, [], []⟩
def d_laid : He.DefD := ⟨("laid", none), "laid", "laid", defArgs s_laid, defBody s_laid, defScope s_laid, [], []⟩
def d_nexts_of : He.DefD := ⟨("nexts_of", none), "nexts_of", "nexts_of", defArgs s_nexts_of, defBody s_nexts_of, defScope s_nexts_of, [], []⟩
def d_spread : He.DefD := ⟨("spread", none), "spread", "spread", defArgs s_spread, defBody s_spread, defScope s_spread, [], []⟩
def d_all_met : He.DefD := ⟨("all_met", none), "all_met", "all_met", defArgs s_all_met, defBody s_all_met, defScope s_all_met, [], []⟩
def d_count_met : He.DefD := ⟨("count_met", none), "count_met", "count_met", defArgs s_count_met, defBody s_count_met, defScope s_count_met, [], []⟩
def d_can_come : He.DefD := ⟨("can_come", none), "can_come", "can_come", defArgs s_can_come, defBody s_can_come, defScope s_can_come, [], []⟩
def d_least_deeds : He.DefD := ⟨("least_deeds", none), "least_deeds", "least_deeds", defArgs s_least_deeds, defBody s_least_deeds, defScope s_least_deeds, [], []⟩
def d_most_deeds : He.DefD := ⟨("most_deeds", none), "most_deeds", "most_deeds", defArgs s_most_deeds, defBody s_most_deeds, defScope s_most_deeds, [], []⟩
def d_count_ways : He.DefD := ⟨("count_ways", none), "count_ways", "count_ways", defArgs s_count_ways, defBody s_count_ways, defScope s_count_ways, [], []⟩
def d_way : He.DefD := ⟨("way", none), "way", "way", defArgs s_way, defBody s_way, defScope s_way, [], []⟩
def d_is_row_of_deeds : He.DefD := ⟨("is_row_of_deeds", none), "is_row_of_deeds", "is_row_of_deeds", defArgs s_is_row_of_deeds, defBody s_is_row_of_deeds, defScope s_is_row_of_deeds, [], []⟩
def d_shows_way : He.DefD := ⟨("shows_way", none), "shows_way", "shows_way", defArgs s_shows_way, defBody s_shows_way, defScope s_shows_way, [], []⟩
def d_count_by_odds : He.DefD := ⟨("count_by_odds", none), "count_by_odds", "count_by_odds", defArgs s_count_by_odds, defBody s_count_by_odds, defScope s_count_by_odds, [], []⟩
def d_Ltaken : He.DefD := ⟨("_law_taken", none), "_law_taken", "_law_taken", defArgs s_Ltaken, defBody s_Ltaken, defScope s_Ltaken, [], []⟩
def d_Lpick : He.DefD := ⟨("_law_pick", none), "_law_pick", "_law_pick", defArgs s_Lpick, defBody s_Lpick, defScope s_Lpick, [], []⟩
def d_Ltable : He.DefD := ⟨("_law_table", none), "_law_table", "_law_table", defArgs s_Ltable, defBody s_Ltable, defScope s_Ltable, [], []⟩
def d_Lunlike : He.DefD := ⟨("_law_unlike", none), "_law_unlike", "_law_unlike", defArgs s_Lunlike, defBody s_Lunlike, defScope s_Lunlike, [], []⟩
def d_Lcrowd : He.DefD := ⟨("_law_crowd", none), "_law_crowd", "_law_crowd", defArgs s_Lcrowd, defBody s_Lcrowd, defScope s_Lcrowd, [], []⟩
def d_Lhigh : He.DefD := ⟨("_law_high", none), "_law_high", "_law_high", defArgs s_Lhigh, defBody s_Lhigh, defScope s_Lhigh, [], []⟩
def d_Lless : He.DefD := ⟨("_law_less", none), "_law_less", "_law_less", defArgs s_Lless, defBody s_Lless, defScope s_Lless, [], []⟩
def d_Llaid : He.DefD := ⟨("_law_laid", none), "_law_laid", "_law_laid", defArgs s_Llaid, defBody s_Llaid, defScope s_Llaid, [], []⟩
def d_Lover : He.DefD := ⟨("_law_over", none), "_law_over", "_law_over", defArgs s_Lover, defBody s_Lover, defScope s_Lover, [], []⟩
def d_Lat_odds : He.DefD := ⟨("_law_at_odds", none), "_law_at_odds", "_law_at_odds", defArgs s_Lat_odds, defBody s_Lat_odds, defScope s_Lat_odds, [], []⟩
def d_Lodds : He.DefD := ⟨("_law_odds", none), "_law_odds", "_law_odds", defArgs s_Lodds, defBody s_Lodds, defScope s_Lodds, [], []⟩
def d_Lnexts : He.DefD := ⟨("_law_nexts", none), "_law_nexts", "_law_nexts", defArgs s_Lnexts, defBody s_Lnexts, defScope s_Lnexts, [], []⟩
def d_Lmet : He.DefD := ⟨("_law_met", none), "_law_met", "_law_met", defArgs s_Lmet, defBody s_Lmet, defScope s_Lmet, [], []⟩
def d_Lalike : He.DefD := ⟨("_law_alike", none), "_law_alike", "_law_alike", defArgs s_Lalike, defBody s_Lalike, defScope s_Lalike, [], []⟩
def d_Lmixed : He.DefD := ⟨("_law_mixed", none), "_law_mixed", "_law_mixed", defArgs s_Lmixed, defBody s_Lmixed, defScope s_Lmixed, [], []⟩
def d_Ltower : He.DefD := ⟨("_law_tower", none), "_law_tower", "_law_tower", defArgs s_Ltower, defBody s_Ltower, defScope s_Ltower, [], []⟩
def d_law : He.DefD := ⟨("law", none), "law", "law", defArgs s_law, defBody s_law, defScope s_law, [], []⟩
def fn : List He.DefD := [d_whole, d_within, d_tuple_of, d_is_row, d_bad_row, d_need_table, d_is_table, d_need_like, d_is_over_row, d_are_at_odds, d_odds_of, d_crowd_of, d_laid, d_nexts_of, d_spread, d_all_met, d_count_met, d_can_come, d_least_deeds, d_most_deeds, d_count_ways, d_way, d_is_row_of_deeds, d_shows_way, d_count_by_odds, d_Ltaken, d_Lpick, d_Ltable, d_Lunlike, d_Lcrowd, d_Lhigh, d_Lless, d_Llaid, d_Lover, d_Lat_odds, d_Lodds, d_Lnexts, d_Lmet, d_Lalike, d_Lmixed, d_Ltower, d_law]
def fa : List He.Fa := [.glo "whole", .glo "within", .glo "tuple_of", .glo "is_row", .glo "bad_row", .glo "need_table", .glo "is_table", .glo "need_like", .glo "is_over_row", .glo "are_at_odds", .glo "odds_of", .glo "crowd_of", .glo "laid", .glo "nexts_of", .glo "spread", .glo "all_met", .glo "count_met", .glo "can_come", .glo "least_deeds", .glo "most_deeds", .glo "count_ways", .glo "way", .glo "is_row_of_deeds", .glo "shows_way", .glo "count_by_odds", .glo "_law_taken", .glo "_law_pick", .glo "_law_table", .glo "_law_unlike", .glo "_law_crowd", .glo "_law_high", .glo "_law_less", .glo "_law_laid", .glo "_law_over", .glo "_law_at_odds", .glo "_law_odds", .glo "_law_nexts", .glo "_law_met", .glo "_law_alike", .glo "_law_mixed", .glo "_law_tower", .glo "law", .free "len", .free "zip", .free "all", .free "any", .free "isinstance", .free "int", .free "bool", .free "tuple", .free "list", .free "str", .free "enumerate", .free "range", .free "sorted", .free "max", .free "min", .free "set", .int "MOST_PEOPLE" 6, .int "MOST_GOODS" 5, .int "MOST_HEAP" 99, .int "MOST_MET" 3000]
def loose1 : List PySem.Str := ["LayError", "BadTable", "NotLike", "TooMany", "MOST_PEOPLE", "MOST_GOODS", "MOST_HEAP", "whole", "within", "tuple_of", "is_row", "bad_row", "need_table", "is_table", "need_like", "is_over_row", "are_at_odds", "odds_of", "MOST_MET", "crowd_of", "laid", "nexts_of", "spread", "all_met"]
def loose2 : List PySem.Str := ["count_met", "can_come", "least_deeds", "most_deeds", "count_ways", "way", "is_row_of_deeds", "shows_way", "count_by_odds", "_law_taken", "_law_pick", "_law_table", "_law_unlike", "_law_crowd", "_law_high", "_law_less", "_law_laid", "_law_over", "_law_at_odds", "_law_odds", "_law_nexts", "_law_met", "_law_alike", "_law_mixed", "_law_tower"]
def tf : List He.Defn := [("spread", none), ("count_ways", none)]
/-- the tables of the two defs that make a lambda, told apart -/
def apart (K : PySem.W.Frag) : Bool := decide ((He.cT K ("spread", none)).2 ≠ (He.cT K ("count_ways", none)).2)
abbrev R : PySem.W.OpenRow := PySem.W.OpenLaw.row PySem.Challenge.rw_laytogether_k05_whole_numbers_of_deeds
def loose : List PySem.Str := loose1 ++ loose2
def ob (s : PySem.W.SharedT) : He.AlX := He.obsX 4 fa fn [] tf apart (HandSHeadRun.getT s)
theorem ob_eq (s : PySem.W.SharedT) : ob s = (He.hookX 4 fa fn [] tf apart).obs s.abs := He.obsX_eq (HandSHeadRun.getT_eq s)
theorem run (w : World) : HandSHeadRun.RunEq R (PySem.W.view R.prog [54]) (He.hookX 4 fa fn [] tf apart) ob 6000 loose w := by
  intro os
  kernel_rfl
end K5
namespace K5
open PySem PySem.Spec PyProof.Rows L2 LamX RZ
/-- the tables and the names of their lambdas -/
def TT (K : PySem.W.Frag) : List (Addr × Str) := [((He.cT K ("spread", none)).2, lamQ "spread"), ((He.cT K ("count_ways", none)).2, lamQ "count_ways")]
theorem tt_un {K : PySem.W.Frag} (h : apart K = true) : (∀ p ∈ TT K, p.1 = (He.cT K ("spread", none)).2 → p.2 = lamQ "spread") ∧ ∀ p ∈ TT K, p.1 = (He.cT K ("count_ways", none)).2 → p.2 = lamQ "count_ways" := by
  have h := of_decide_eq_true h
  constructor
  · intro p hp e
    rcases List.mem_cons.mp hp with rfl | hp
    · rfl
    · rw [List.mem_singleton.mp hp] at e
      exact absurd e.symm h
  · intro p hp e
    rcases List.mem_cons.mp hp with rfl | hp
    · exact absurd e h
    · rw [List.mem_singleton.mp hp]
theorem tri0 : TriplesOk (#[] : Array Value).toList := by first | exact .nil | exact trivial | simp [TriplesOk]
theorem tt_tabs {K : PySem.W.Frag} {H : Hp} (h : ∀ p ∈ tf.map (He.cT K), H p.2 = some (.tbl #[])) : Tabs (TT K) H := by
  have e : ∀ q, TabS H (He.cT K ("spread", none)).2 q ∧ TabS H (He.cT K ("count_ways", none)).2 q := fun q =>
    ⟨⟨#[], h _ (by simp [tf]), tri0, fun pos cv hc => nomatch (show none = some cv from hc)⟩, ⟨#[], h _ (by simp [tf]), tri0, fun pos cv hc => nomatch (show none = some cv from hc)⟩⟩
  intro p hp
  rcases List.mem_cons.mp hp with rfl | hp
  · exact (e _).1
  · rw [List.mem_singleton.mp hp]
    exact (e _).2
/-- a def's code object is the one that is told -/
theorem code_is {K : PySem.W.Frag} {x qual : Str} {params : Arguments} {body : List Stmt} {scope : Scope} {dvs : List V} {kws : List (Str × V)} {p : Str × Option Str} {fd : FuncData} (F : FunD K x qual params body scope dvs kws (He.fAd K p) fd) : fd.code = .ref (He.codeOf K p) := by
  obtain ⟨oc, od, dV, kV, doc, pm, an, cdv, ct, osl, rfl, lk, hcd, _, _⟩ := F.ex
  obtain ⟨c, rfl⟩ := He.codeIn_ref hcd
  rw [He.codeOf_eq lk rfl]
section
variable {P : Program} {w : World} {K : PySem.W.Frag} {h : Heap} {mg : Str → Option Value} {base : Heap} {f : Addr}
theorem kn_of {x : Str} {ps : List Str} {k : Nat} {sp : Sp} {params : Arguments} {body : List Stmt} {scope : Scope} {fd : FuncData} (e : mg x = some (.ref f)) (F : FunD K x x params body scope [] [] f fd)
    (hb : ∀ (kV doc pm : Value) (an : Option Addr) (cdv ct : Value) (us : List Value), us.length = ps.length → bindArgs (PySem.W.fnOf x x params body scope .none kV doc pm an cdv ct) ⟨us, []⟩ = pure (ps.zip us)) (ok : FnOk P w K mg base CX0 k f fd ps sp) : Kn P w K mg base x ps k sp :=
  ⟨f, fd, e, F.kp, F.bindsN hb, ok⟩

theorem facts (X : K.In h) (G : h.Ns mainGlobals mg) (c : He.SaysX fa fn [] tf apart w h K) (hfa : mg ("law" : Str) = some (.ref f)) :
    ∃ fd : FuncData, (∀ (s : Shared) (u : Value), BindsTo s fd ⟨[u], []⟩ [("_law_script", u)]) ∧ ∀ base : Heap, K.In base → base.Ns mainGlobals mg → (∀ p ∈ tf.map (He.cT K), TabB base mg p.1 p.2) → FnOk P w K mg base CX0 13 f fd ["_law_script"] (spLaw (TT K) K) := by
  have D := c.t.d
  obtain ⟨fd_whole, F_whole⟩ := D.def_ 0 (d := d_whole) rfl
  obtain ⟨fd_within, F_within⟩ := D.def_ 1 (d := d_within) rfl
  obtain ⟨fd_tuple_of, F_tuple_of⟩ := D.def_ 2 (d := d_tuple_of) rfl
  obtain ⟨fd_is_row, F_is_row⟩ := D.def_ 3 (d := d_is_row) rfl
  obtain ⟨fd_bad_row, F_bad_row⟩ := D.def_ 4 (d := d_bad_row) rfl
  obtain ⟨fd_need_table, F_need_table⟩ := D.def_ 5 (d := d_need_table) rfl
  obtain ⟨fd_is_table, F_is_table⟩ := D.def_ 6 (d := d_is_table) rfl
  obtain ⟨fd_need_like, F_need_like⟩ := D.def_ 7 (d := d_need_like) rfl
  obtain ⟨fd_is_over_row, F_is_over_row⟩ := D.def_ 8 (d := d_is_over_row) rfl
  obtain ⟨fd_are_at_odds, F_are_at_odds⟩ := D.def_ 9 (d := d_are_at_odds) rfl
  obtain ⟨fd_odds_of, F_odds_of⟩ := D.def_ 10 (d := d_odds_of) rfl
  obtain ⟨fd_crowd_of, F_crowd_of⟩ := D.def_ 11 (d := d_crowd_of) rfl
  obtain ⟨fd_laid, F_laid⟩ := D.def_ 12 (d := d_laid) rfl
  obtain ⟨fd_nexts_of, F_nexts_of⟩ := D.def_ 13 (d := d_nexts_of) rfl
  obtain ⟨fd_spread, F_spread⟩ := D.def_ 14 (d := d_spread) rfl
  obtain ⟨fd_all_met, F_all_met⟩ := D.def_ 15 (d := d_all_met) rfl
  obtain ⟨fd_count_met, F_count_met⟩ := D.def_ 16 (d := d_count_met) rfl
  obtain ⟨fd_can_come, F_can_come⟩ := D.def_ 17 (d := d_can_come) rfl
  obtain ⟨fd_least_deeds, F_least_deeds⟩ := D.def_ 18 (d := d_least_deeds) rfl
  obtain ⟨fd_most_deeds, F_most_deeds⟩ := D.def_ 19 (d := d_most_deeds) rfl
  obtain ⟨fd_count_ways, F_count_ways⟩ := D.def_ 20 (d := d_count_ways) rfl
  obtain ⟨fd_way, F_way⟩ := D.def_ 21 (d := d_way) rfl
  obtain ⟨fd_is_row_of_deeds, F_is_row_of_deeds⟩ := D.def_ 22 (d := d_is_row_of_deeds) rfl
  obtain ⟨fd_shows_way, F_shows_way⟩ := D.def_ 23 (d := d_shows_way) rfl
  obtain ⟨fd_count_by_odds, F_count_by_odds⟩ := D.def_ 24 (d := d_count_by_odds) rfl
  obtain ⟨fd_Ltaken, F_Ltaken⟩ := D.def_ 25 (d := d_Ltaken) rfl
  obtain ⟨fd_Lpick, F_Lpick⟩ := D.def_ 26 (d := d_Lpick) rfl
  obtain ⟨fd_Ltable, F_Ltable⟩ := D.def_ 27 (d := d_Ltable) rfl
  obtain ⟨fd_Lunlike, F_Lunlike⟩ := D.def_ 28 (d := d_Lunlike) rfl
  obtain ⟨fd_Lcrowd, F_Lcrowd⟩ := D.def_ 29 (d := d_Lcrowd) rfl
  obtain ⟨fd_Lhigh, F_Lhigh⟩ := D.def_ 30 (d := d_Lhigh) rfl
  obtain ⟨fd_Lless, F_Lless⟩ := D.def_ 31 (d := d_Lless) rfl
  obtain ⟨fd_Llaid, F_Llaid⟩ := D.def_ 32 (d := d_Llaid) rfl
  obtain ⟨fd_Lover, F_Lover⟩ := D.def_ 33 (d := d_Lover) rfl
  obtain ⟨fd_Lat_odds, F_Lat_odds⟩ := D.def_ 34 (d := d_Lat_odds) rfl
  obtain ⟨fd_Lodds, F_Lodds⟩ := D.def_ 35 (d := d_Lodds) rfl
  obtain ⟨fd_Lnexts, F_Lnexts⟩ := D.def_ 36 (d := d_Lnexts) rfl
  obtain ⟨fd_Lmet, F_Lmet⟩ := D.def_ 37 (d := d_Lmet) rfl
  obtain ⟨fd_Lalike, F_Lalike⟩ := D.def_ 38 (d := d_Lalike) rfl
  obtain ⟨fd_Lmixed, F_Lmixed⟩ := D.def_ 39 (d := d_Lmixed) rfl
  obtain ⟨fd_Ltower, F_Ltower⟩ := D.def_ 40 (d := d_Ltower) rfl
  obtain ⟨fd_law, F_law⟩ := D.def_ 41 (d := d_law) rfl
  have e := hfa.symm.trans (He.glo_ok X G (D.fact 41 (f := .glo "law") rfl))
  cases e
  have b := FunD.bindsA (ps := ["_law_script"]) F_law fun _ _ _ _ _ _ us hl => match us, hl with | [_], _ => rfl
  refine ⟨fd_law, fun s v => b s [v] rfl, fun base _ _ TBs => ?_⟩
  have fr : Fr mg := ⟨He.free_ok X G (D.fact 42 (f := .free "len") rfl), He.free_ok X G (D.fact 43 (f := .free "zip") rfl), He.free_ok X G (D.fact 44 (f := .free "all") rfl), He.free_ok X G (D.fact 45 (f := .free "any") rfl), He.free_ok X G (D.fact 46 (f := .free "isinstance") rfl), He.free_ok X G (D.fact 47 (f := .free "int") rfl), He.free_ok X G (D.fact 48 (f := .free "bool") rfl), He.free_ok X G (D.fact 49 (f := .free "tuple") rfl), He.free_ok X G (D.fact 50 (f := .free "list") rfl), He.free_ok X G (D.fact 51 (f := .free "str") rfl), He.free_ok X G (D.fact 52 (f := .free "enumerate") rfl), He.free_ok X G (D.fact 53 (f := .free "range") rfl), He.free_ok X G (D.fact 54 (f := .free "sorted") rfl), He.free_ok X G (D.fact 55 (f := .free "max") rfl), He.free_ok X G (D.fact 56 (f := .free "min") rfl), He.free_ok X G (D.fact 57 (f := .free "set") rfl), He.int_ok X G (D.fact 58 (f := .int "MOST_PEOPLE" 6) rfl), He.int_ok X G (D.fact 59 (f := .int "MOST_GOODS" 5) rfl), He.int_ok X G (D.fact 60 (f := .int "MOST_HEAP" 99) rfl), He.int_ok X G (D.fact 61 (f := .int "MOST_MET" 3000) rfl)⟩
  have TB1 := TBs (He.cT K ("spread", none)) (by simp [tf])
  have TB2 := TBs (He.cT K ("count_ways", none)) (by simp [tf])
  obtain ⟨hu1, hu2⟩ := tt_un c.more
  have g_whole : Kn P w K mg base "whole" ["value"] 1 spWhole := kn_of (He.glo_ok X G (D.fact 0 (f := .glo "whole") rfl)) F_whole (fun _ _ _ _ _ _ us hl => match us, hl with | [_], _ => rfl) (ok_whole fr F_whole)
  have g_within : Kn P w K mg base "within" ["value", "low", "high"] 2 spWithin := kn_of (He.glo_ok X G (D.fact 1 (f := .glo "within") rfl)) F_within (fun _ _ _ _ _ _ us hl => match us, hl with | [_, _, _], _ => rfl) (ok_within fr g_whole F_within)
  have g_tuple_of : Kn P w K mg base "tuple_of" ["value", "low", "high"] 1 spTupleOf := kn_of (He.glo_ok X G (D.fact 2 (f := .glo "tuple_of") rfl)) F_tuple_of (fun _ _ _ _ _ _ us hl => match us, hl with | [_, _, _], _ => rfl) (ok_tuple_of fr F_tuple_of)
  have g_is_row : Kn P w K mg base "is_row" ["value", "goods"] 3 (spIsRow (TT K)) := kn_of (He.glo_ok X G (D.fact 3 (f := .glo "is_row") rfl)) F_is_row (fun _ _ _ _ _ _ us hl => match us, hl with | [_, _], _ => rfl) (ok_is_row fr g_within g_tuple_of F_is_row)
  have g_bad_row : Kn P w K mg base "bad_row" ["table"] 4 (spBadRow (TT K) .non) := kn_of (He.glo_ok X G (D.fact 4 (f := .glo "bad_row") rfl)) F_bad_row (fun _ _ _ _ _ _ us hl => match us, hl with | [_], _ => rfl) (ok_bad_row fr g_is_row g_tuple_of F_bad_row)
  have g_need_table : Kn P w K mg base "need_table" ["table"] 5 (spBadRow (TT K) .non) := kn_of (He.glo_ok X G (D.fact 5 (f := .glo "need_table") rfl)) F_need_table (fun _ _ _ _ _ _ us hl => match us, hl with | [_], _ => rfl) (ok_need_table fr g_tuple_of g_bad_row F_need_table)
  have g_is_table : Kn P w K mg base "is_table" ["value"] 5 (spBadRow (TT K) (.bl true)) := kn_of (He.glo_ok X G (D.fact 6 (f := .glo "is_table") rfl)) F_is_table (fun _ _ _ _ _ _ us hl => match us, hl with | [_], _ => rfl) (ok_is_table fr g_tuple_of g_bad_row F_is_table)
  have g_need_like : Kn P w K mg base "need_like" ["one", "other"] 6 (spNeedLike (TT K)) := kn_of (He.glo_ok X G (D.fact 7 (f := .glo "need_like") rfl)) F_need_like (fun _ _ _ _ _ _ us hl => match us, hl with | [_, _], _ => rfl) (ok_need_like fr g_need_table F_need_like)
  have g_is_over_row : Kn P w K mg base "is_over_row" ["one", "other"] 1 (spRows (TT K) overR) := kn_of (He.glo_ok X G (D.fact 8 (f := .glo "is_over_row") rfl)) F_is_over_row (fun _ _ _ _ _ _ us hl => match us, hl with | [_, _], _ => rfl) (ok_is_over_row fr F_is_over_row)
  have g_are_at_odds : Kn P w K mg base "are_at_odds" ["one", "other"] 2 (spRows (TT K) oddsR) := kn_of (He.glo_ok X G (D.fact 9 (f := .glo "are_at_odds") rfl)) F_are_at_odds (fun _ _ _ _ _ _ us hl => match us, hl with | [_, _], _ => rfl) (ok_are_at_odds fr g_is_over_row F_are_at_odds)
  have g_odds_of : Kn P w K mg base "odds_of" ["table"] 3 (spOdds (TT K)) := kn_of (He.glo_ok X G (D.fact 10 (f := .glo "odds_of") rfl)) F_odds_of (fun _ _ _ _ _ _ us hl => match us, hl with | [_], _ => rfl) (ok_odds_of fr g_are_at_odds F_odds_of)
  have g_crowd_of : Kn P w K mg base "crowd_of" ["table"] 1 (spCrowd (TT K)) := kn_of (He.glo_ok X G (D.fact 11 (f := .glo "crowd_of") rfl)) F_crowd_of (fun _ _ _ _ _ _ us hl => match us, hl with | [_], _ => rfl) (ok_crowd_of fr F_crowd_of)
  have g_laid : Kn P w K mg base "laid" ["table", "one", "other"] 1 (spLaid (TT K)) := kn_of (He.glo_ok X G (D.fact 12 (f := .glo "laid") rfl)) F_laid (fun _ _ _ _ _ _ us hl => match us, hl with | [_, _, _], _ => rfl) (ok_laid fr F_laid)
  have g_nexts_of : Kn P w K mg base "nexts_of" ["table"] 4 (spNexts (TT K)) := kn_of (He.glo_ok X G (D.fact 13 (f := .glo "nexts_of") rfl)) F_nexts_of (fun _ _ _ _ _ _ us hl => match us, hl with | [_], _ => rfl) (ok_nexts_of fr g_odds_of g_crowd_of g_laid F_nexts_of)
  have g_spread : Kn P w K mg base "spread" ["table"] 8 (spSpread P w (TT K)) := kn_of (He.glo_ok X G (D.fact 14 (f := .glo "spread") rfl)) F_spread (fun _ _ _ _ _ _ us hl => match us, hl with | [_], _ => rfl) (ok_spread fr g_odds_of g_crowd_of g_nexts_of TB1 (by simp [TT]) hu1 F_spread (code_is F_spread))
  have g_all_met : Kn P w K mg base "all_met" ["table"] 9 (spAllMet (TT K)) := kn_of (He.glo_ok X G (D.fact 15 (f := .glo "all_met") rfl)) F_all_met (fun _ _ _ _ _ _ us hl => match us, hl with | [_], _ => rfl) (ok_all_met fr g_need_table g_spread F_all_met)
  have g_count_met : Kn P w K mg base "count_met" ["table"] 9 (spCountMet (TT K)) := kn_of (He.glo_ok X G (D.fact 16 (f := .glo "count_met") rfl)) F_count_met (fun _ _ _ _ _ _ us hl => match us, hl with | [_], _ => rfl) (ok_count_met fr g_need_table g_spread F_count_met)
  have g_can_come : Kn P w K mg base "can_come" ["one", "other"] 9 (spTwo (TT K) rCanCome) := kn_of (He.glo_ok X G (D.fact 17 (f := .glo "can_come") rfl)) F_can_come (fun _ _ _ _ _ _ us hl => match us, hl with | [_, _], _ => rfl) (ok_can_come fr g_need_like g_crowd_of g_spread F_can_come)
  have g_least_deeds : Kn P w K mg base "least_deeds" ["one", "other"] 9 (spTwo (TT K) rLeast) := kn_of (He.glo_ok X G (D.fact 18 (f := .glo "least_deeds") rfl)) F_least_deeds (fun _ _ _ _ _ _ us hl => match us, hl with | [_, _], _ => rfl) (ok_least_deeds fr g_need_like g_crowd_of g_spread F_least_deeds)
  have g_most_deeds : Kn P w K mg base "most_deeds" ["one", "other"] 9 (spTwo (TT K) rMost) := kn_of (He.glo_ok X G (D.fact 19 (f := .glo "most_deeds") rfl)) F_most_deeds (fun _ _ _ _ _ _ us hl => match us, hl with | [_, _], _ => rfl) (ok_most_deeds fr g_need_like g_crowd_of g_spread F_most_deeds)
  have g_count_ways : Kn P w K mg base "count_ways" ["one", "other"] 12 (spTwo (TT K) rWays) := kn_of (He.glo_ok X G (D.fact 20 (f := .glo "count_ways") rfl)) F_count_ways (fun _ _ _ _ _ _ us hl => match us, hl with | [_, _], _ => rfl) (ok_count_ways fr g_need_like g_odds_of g_crowd_of g_nexts_of g_spread TB2 (by simp [TT]) hu2 F_count_ways (code_is F_count_ways))
  have g_way : Kn P w K mg base "way" ["one", "other"] 9 (spWay (TT K)) := kn_of (He.glo_ok X G (D.fact 21 (f := .glo "way") rfl)) F_way (fun _ _ _ _ _ _ us hl => match us, hl with | [_, _], _ => rfl) (ok_way fr g_need_like g_crowd_of g_nexts_of g_spread F_way)
  have g_is_row_of_deeds : Kn P w K mg base "is_row_of_deeds" ["value"] 6 (spRowOfDeeds (TT K)) := kn_of (He.glo_ok X G (D.fact 22 (f := .glo "is_row_of_deeds") rfl)) F_is_row_of_deeds (fun _ _ _ _ _ _ us hl => match us, hl with | [_], _ => rfl) (ok_is_row_of_deeds fr g_is_table g_crowd_of g_nexts_of F_is_row_of_deeds)
  have g_shows_way : Kn P w K mg base "shows_way" ["one", "other", "value"] 10 (spShowsWay (TT K)) := kn_of (He.glo_ok X G (D.fact 23 (f := .glo "shows_way") rfl)) F_shows_way (fun _ _ _ _ _ _ us hl => match us, hl with | [_, _, _], _ => rfl) (ok_shows_way fr g_way g_is_row_of_deeds F_shows_way)
  have g_count_by_odds : Kn P w K mg base "count_by_odds" ["table"] 9 (spCountByOdds (TT K)) := kn_of (He.glo_ok X G (D.fact 24 (f := .glo "count_by_odds") rfl)) F_count_by_odds (fun _ _ _ _ _ _ us hl => match us, hl with | [_], _ => rfl) (ok_count_by_odds fr g_need_table g_odds_of g_spread F_count_by_odds)
  have g_Ltaken : Kn P w K mg base "_law_taken" ["_law_row", "_law_many"] 1 (spTaken (TT K) K) := kn_of (He.glo_ok X G (D.fact 25 (f := .glo "_law_taken") rfl)) F_Ltaken (fun _ _ _ _ _ _ us hl => match us, hl with | [_, _], _ => rfl) (ok_Ltaken fr F_Ltaken)
  have g_Lpick : Kn P w K mg base "_law_pick" ["_law_row", "_law_things"] 2 (spPick (TT K) K) := kn_of (He.glo_ok X G (D.fact 26 (f := .glo "_law_pick") rfl)) F_Lpick (fun _ _ _ _ _ _ us hl => match us, hl with | [_, _], _ => rfl) (ok_Lpick fr g_Ltaken F_Lpick)
  have g_Ltable : Kn P w K mg base "_law_table" ["_law_row", "_law_crowded", "_law_sorts", "_law_top"] 2 (spTable (TT K) K) := kn_of (He.glo_ok X G (D.fact 27 (f := .glo "_law_table") rfl)) F_Ltable (fun _ _ _ _ _ _ us hl => match us, hl with | [_, _, _, _], _ => rfl) (ok_Ltable fr g_Ltaken F_Ltable)
  have g_Lunlike : Kn P w K mg base "_law_unlike" ["_law_row", "_law_crowded", "_law_sorts"] 2 (spUnlike (TT K) K) := kn_of (He.glo_ok X G (D.fact 28 (f := .glo "_law_unlike") rfl)) F_Lunlike (fun _ _ _ _ _ _ us hl => match us, hl with | [_, _, _], _ => rfl) (ok_Lunlike fr g_Ltaken F_Lunlike)
  have g_Lcrowd : Kn P w K mg base "_law_crowd" ["_law_table_here"] 1 (spCrowd (TT K)) := kn_of (He.glo_ok X G (D.fact 29 (f := .glo "_law_crowd") rfl)) F_Lcrowd (fun _ _ _ _ _ _ us hl => match us, hl with | [_], _ => rfl) (ok_Lcrowd fr F_Lcrowd)
  have g_Lhigh : Kn P w K mg base "_law_high" ["_law_one", "_law_other"] 1 (spRow2 (TT K) highR) := kn_of (He.glo_ok X G (D.fact 30 (f := .glo "_law_high") rfl)) F_Lhigh (fun _ _ _ _ _ _ us hl => match us, hl with | [_, _], _ => rfl) (ok_Lhigh fr F_Lhigh)
  have g_Lless : Kn P w K mg base "_law_less" ["_law_one", "_law_other"] 1 (spRow2 (TT K) lessR) := kn_of (He.glo_ok X G (D.fact 31 (f := .glo "_law_less") rfl)) F_Lless (fun _ _ _ _ _ _ us hl => match us, hl with | [_, _], _ => rfl) (ok_Lless fr F_Lless)
  have g_Llaid : Kn P w K mg base "_law_laid" ["_law_table_here", "_law_one", "_law_other"] 2 (spLaid (TT K)) := kn_of (He.glo_ok X G (D.fact 32 (f := .glo "_law_laid") rfl)) F_Llaid (fun _ _ _ _ _ _ us hl => match us, hl with | [_, _, _], _ => rfl) (ok_Llaid fr g_Lhigh g_Lless F_Llaid)
  have g_Lover : Kn P w K mg base "_law_over" ["_law_one", "_law_other"] 1 (spRows (TT K) overR) := kn_of (He.glo_ok X G (D.fact 33 (f := .glo "_law_over") rfl)) F_Lover (fun _ _ _ _ _ _ us hl => match us, hl with | [_, _], _ => rfl) (ok_Lover fr F_Lover)
  have g_Lat_odds : Kn P w K mg base "_law_at_odds" ["_law_one", "_law_other"] 2 (spRows (TT K) oddsR) := kn_of (He.glo_ok X G (D.fact 34 (f := .glo "_law_at_odds") rfl)) F_Lat_odds (fun _ _ _ _ _ _ us hl => match us, hl with | [_, _], _ => rfl) (ok_Lat_odds fr g_Lover F_Lat_odds)
  have g_Lodds : Kn P w K mg base "_law_odds" ["_law_table_here"] 3 (spOdds (TT K)) := kn_of (He.glo_ok X G (D.fact 35 (f := .glo "_law_odds") rfl)) F_Lodds (fun _ _ _ _ _ _ us hl => match us, hl with | [_], _ => rfl) (ok_Lodds fr g_Lat_odds F_Lodds)
  have g_Lnexts : Kn P w K mg base "_law_nexts" ["_law_table_here"] 4 (spNexts (TT K)) := kn_of (He.glo_ok X G (D.fact 36 (f := .glo "_law_nexts") rfl)) F_Lnexts (fun _ _ _ _ _ _ us hl => match us, hl with | [_], _ => rfl) (ok_Lnexts fr g_Lodds g_Lcrowd g_Llaid F_Lnexts)
  have g_Lmet : Kn P w K mg base "_law_met" ["_law_table_here"] 5 (spMet P w (TT K)) := kn_of (He.glo_ok X G (D.fact 37 (f := .glo "_law_met") rfl)) F_Lmet (fun _ _ _ _ _ _ us hl => match us, hl with | [_], _ => rfl) (ok_Lmet fr g_Lodds g_Lcrowd g_Lnexts F_Lmet)
  have g_Lalike : Kn P w K mg base "_law_alike" ["_law_found", "_law_due"] 6 (spAlike (TT K) 5) := kn_of (He.glo_ok X G (D.fact 38 (f := .glo "_law_alike") rfl)) F_Lalike (fun _ _ _ _ _ _ us hl => match us, hl with | [_, _], _ => rfl) (ok_Lalike fr F_Lalike (fun k sp ok => kn_of (He.glo_ok X G (D.fact 38 (f := .glo "_law_alike") rfl)) F_Lalike (fun _ _ _ _ _ _ us hl => match us, hl with | [_, _], _ => rfl) ok) 5)
  have g_Lmixed : Kn P w K mg base "_law_mixed" ["_law_row", "_law_table_here"] 2 (spMixed (TT K) K) := kn_of (He.glo_ok X G (D.fact 39 (f := .glo "_law_mixed") rfl)) F_Lmixed (fun _ _ _ _ _ _ us hl => match us, hl with | [_, _], _ => rfl) (ok_Lmixed fr g_Ltaken F_Lmixed)
  have g_Ltower : Kn P w K mg base "_law_tower" ["_law_table_here"] 1 (spTower (TT K)) := kn_of (He.glo_ok X G (D.fact 40 (f := .glo "_law_tower") rfl)) F_Ltower (fun _ _ _ _ _ _ us hl => match us, hl with | [_], _ => rfl) (ok_Ltower fr F_Ltower)
  exact ok_law (T := TT K) fr g_Lpick g_Ltable g_Lunlike g_Lmet g_Lalike g_all_met g_count_met g_Lodds g_count_by_odds g_Lmixed g_Ltower g_Lcrowd g_can_come g_least_deeds g_most_deeds g_count_ways g_way g_shows_way g_Lnexts F_law
end
end K5
open PySem PySem.W PySem.Calls PyProof.Rows
theorem PySem.Challenge.cw_laytogether_k05_whole_numbers_of_deeds_holds : PySem.Challenge.rw_laytogether_k05_whole_numbers_of_deeds.Holds := by
  w_on; o_law
  refine HandSHeadRun.head_any (r := OpenLaw.row PySem.Challenge.rw_laytogether_k05_whole_numbers_of_deeds) (q := view (OpenLaw.row PySem.Challenge.rw_laytogether_k05_whole_numbers_of_deeds).prog [54]) (H := He.hookX 4 K5.fa K5.fn [] K5.tf K5.apart) (ob := K5.ob) (M := 6000) (loose := K5.loose) (d := HandSHeadRun.topDef (OpenLaw.row PySem.Challenge.rw_laytogether_k05_whole_numbers_of_deeds).prog 54) (kwd := []) K5.ob_eq
    (by kernel_rfl) (fun s => by kernel_rfl) K5.run (by kernel_rfl) (by kernel_rfl) (by kernel_rfl) (by rfl) (by first | assumption | decide +kernel) (by decide +kernel) ⟨rfl, rfl, rfl, rfl, rfl, by decide +kernel⟩ ?hw ?hc
  case hw => w_witness2
  case hc =>
    refine LamX.walk_ofTsE (l := PySem.Challenge.rw_laytogether_k05_whole_numbers_of_deeds) (n := 63) (k := 13) (x := "_law_script") (CX := fun _ => L2.CX0) rfl (by decide) (by kernel_rfl) ⟨rfl, by decide, by decide⟩ ?F (fun _ _ _ _ _ z => z)
    intro w mg fa h Y G hmg0
    obtain ⟨K, KX, c⟩ := Y
    have hmg : mg ("law" : PySem.Str) = some (.ref fa) := by
      have e : (HandSHeadRun.topDef (OpenLaw.row PySem.Challenge.rw_laytogether_k05_whole_numbers_of_deeds).prog 54).name = ("law" : PySem.Str) := by kernel_rfl
      rw [← e]
      exact hmg0
    obtain ⟨fd, hb, hF⟩ := K5.facts (P := (PySem.Challenge.rw_laytogether_k05_whole_numbers_of_deeds).prog) (w := w) KX G c hmg
    exact ⟨K, KX, fd, K5.tf.map (He.cT K), K5.spLaw (K5.TT K) K, fun p hp => by
      obtain ⟨q, hq, rfl⟩ := List.mem_map.mp hp
      exact c.empty q hq, fun p hp => by
      obtain ⟨q, hq, rfl⟩ := List.mem_map.mp hp
      exact c.out q hq, fun p hp => by
      obtain ⟨q, hq, rfl⟩ := List.mem_map.mp hp
      exact PySem.W.codeHd_of_K KX (c.hd q hq), hb, fun H a ns hl _ hT hS => ⟨a, ns, rfl, hS, K5.tt_tabs hT, fun _ => rfl⟩, hF⟩

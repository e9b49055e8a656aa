import PyProof.Rows.All
import Wide.All
import OpenK.AllK
import Wide.FinOn
import HandS.ForMost
import HandS.Walk
import HandS.IsInst
import HandS.Style
import HandS.More
import HandS.Wide
import HandS.Conv
import KE.KDictKeyed
import PyProof.ReprRoads
import HandS.Zip
import HandS.EndBits
import HandS.Finally
import KE.KEqNest
import KE.DataMinMax
import HandS.SortKw
import HandS.SetFor
import HandS.Strs
import HandS.Dict
import HandS.Head0
import HandS.Head1
import HandS.Head2
import HandS.HeadHook1
import HandS.HeadHook2
import HandS.HeadHook4
import HandS.HeadNt
import PySem.Challenge.RW_fieldkinds_k05_answers_by_hand
set_option Elab.async false
set_option linter.all false
set_option maxRecDepth 100000
set_option maxHeartbeats 4000000
/-! FK1: what the program asks beyond the layer: dicts whose keys are None or texts, dicts keyed by pairs of these, one look-up for all dicts -/
namespace FK
open PySem L2

/-! ### keys that are None, numbers, texts -/
def lV : Leaf → V
  | .none => .non
  | .num i => .int i
  | .text x => .str x
theorem lV_inj {a b : Leaf} (e : lV a = lV b) : a = b := by
  cases a <;> cases b <;> simp [lV] at e <;> first | rfl | (rw [e])
theorem lV_is {P : Program} {w : World} {k : Leaf} {u : Value} (r : RelV (lV k) u) : (leafKind P w).is k u = true := by
  cases k with
  | none => cases r; rfl
  | num i =>
    obtain ⟨t, rfl⟩ := r
    show Leaf.isOf (.num i) (.int i t) = true
    simp [Leaf.isOf]
  | text x =>
    obtain ⟨t, rfl⟩ := r
    show Leaf.isOf (.text x) (.str x t) = true
    simp [Leaf.isOf, Value.isStrOf]
theorem lVs_are {P : Program} {w : World} : ∀ {ks : List Leaf} {us : List Value}, Vals (ks.map lV) us → ItemsAre (leafKind P w) ks us
  | [], us, r => by cases r; exact .nil
  | k :: ks, us, r => by
    cases r with
    | cons a t => exact .cons (lV_is a) (lVs_are t)

/-- a dict with such keys stands at a -/
def NOb (P : Program) (w : World) (a : Addr) (kvs : List (Leaf × V)) : HO :=
  .ext fun h => kvs.length ≤ sizeLine ∧ (a == sysModules) = false ∧ ∃ vs, KV kvs vs ∧ h.DictOf (leafKind P w) a vs
/-- a dict with pairs (any tuples) of such keys stands at a; each key's own tuple at its address -/
def POb (P : Program) (w : World) (a : Addr) (xs : List (List Leaf × Addr × V)) : HO :=
  .ext fun h => xs.length ≤ sizeLine ∧ (a == sysModules) = false ∧ ∃ ys : List (List Leaf × Addr × Value),
    Paired (fun (p : List Leaf × Addr × V) (q : List Leaf × Addr × Value) => p.1 = q.1 ∧ p.2.1 = q.2.1 ∧ RelV p.2.2 q.2.2) xs ys ∧
    ∃ o es ep, h.get? a = some o ∧ o.ExactDict ∧ o.data = .dict es ep ∧ es.toList = ys.map (entryOfKey (tupleKind (leafKind P w))) ∧ (ys.map (·.1)).Nodup
/-- the table of pairs, by keys and values -/
def PTab (P : Program) (w : World) (H : Hp) (a : Addr) (kvs : List (List Leaf × V)) : Prop :=
  ∃ xs : List (List Leaf × Addr × V), kvs = xs.map (fun x => (x.1, x.2.2)) ∧ H a = some (POb P w a xs) ∧ ∀ x ∈ xs, H x.2.1 = some (.tup (x.1.map lV))

theorem nob_ok {P : Program} {w : World} {H : Hp} {h : Heap} {a : Addr} {kvs : List (Leaf × V)} {vs : List (Leaf × Value)} (h1 : kvs.length ≤ sizeLine) (h2 : (a == sysModules) = false) (r : KV kvs vs)
    (d : h.DictOf (leafKind P w) a vs) : ObjOk P w H h a (NOb P w a kvs) := by
  obtain ⟨o, es, ep, e, rest⟩ := d
  refine ⟨⟨h1, h2, vs, r, o, es, ep, e, rest⟩, ⟨o, e⟩, ?_⟩
  rintro g1 g2 ⟨_, _, vs', r', o', es', ep', e', rest'⟩ k
  exact ⟨h1, h2, vs', r', o', es', ep', k _ e', rest'⟩
theorem nob_get {P : Program} {w : World} {H : Hp} {h : Heap} {a : Addr} {kvs : List (Leaf × V)} (ok : HOk P w H h) (e : Rd H a (NOb P w a kvs)) :
    kvs.length ≤ sizeLine ∧ (a == sysModules) = false ∧ ∃ vs, KV kvs vs ∧ h.DictOf (leafKind P w) a vs := (e.ok ok).1
theorem pob_ok {P : Program} {w : World} {H : Hp} {h : Heap} {a : Addr} {xs : List (List Leaf × Addr × V)} {ys : List (List Leaf × Addr × Value)} (h1 : xs.length ≤ sizeLine) (h2 : (a == sysModules) = false)
    (r : Paired (fun (p : List Leaf × Addr × V) (q : List Leaf × Addr × Value) => p.1 = q.1 ∧ p.2.1 = q.2.1 ∧ RelV p.2.2 q.2.2) xs ys) {o : Obj} {es : Array DictEntry} {ep : Nat} (e : h.get? a = some o) (e1 : o.ExactDict) (e2 : o.data = .dict es ep)
    (e3 : es.toList = ys.map (entryOfKey (tupleKind (leafKind P w)))) (e4 : (ys.map (·.1)).Nodup) : ObjOk P w H h a (POb P w a xs) := by
  refine ⟨⟨h1, h2, ys, r, o, es, ep, e, e1, e2, e3, e4⟩, ⟨o, e⟩, ?_⟩
  rintro g1 g2 ⟨_, _, ys', r', o', es', ep', e', rest'⟩ k
  exact ⟨h1, h2, ys', r', o', es', ep', k _ e', rest'⟩
abbrev PR : List (List Leaf × Addr × V) → List (List Leaf × Addr × Value) → Prop := Paired (fun (p : List Leaf × Addr × V) (q : List Leaf × Addr × Value) => p.1 = q.1 ∧ p.2.1 = q.2.1 ∧ RelV p.2.2 q.2.2)
theorem leaf_key {P : Program} {w : World} {H : Hp} {h : Heap} {b : Addr} {ks : List Leaf} (ok : HOk P w H h) (e : H b = some (.tup (ks.map lV))) : (tupleKind (leafKind P w)).is h ks b := by
  obtain ⟨z, its, r, o, e1, e2, n, e3⟩ := ok b _ e
  exact ⟨o, its.toArray, n, e1, e2, e3, lVs_are r⟩
theorem PR.mem {xs : List (List Leaf × Addr × V)} {ys : List (List Leaf × Addr × Value)} (r : PR xs ys) : ∀ y ∈ ys, ∃ x ∈ xs, x.1 = y.1 ∧ x.2.1 = y.2.1 := by
  induction r with
  | nil => intro y hy; cases hy
  | cons a t ih =>
    intro y hy
    rcases List.mem_cons.mp hy with e | hy
    · subst e; exact ⟨_, List.mem_cons_self, a.1, a.2.1⟩
    · obtain ⟨x, hx, q⟩ := ih y hy
      exact ⟨x, List.mem_cons_of_mem _ hx, q⟩
theorem ptab_heap {P : Program} {w : World} {H : Hp} {h : Heap} {a : Addr} {xs : List (List Leaf × Addr × V)} (ok : HOk P w H h) (e : H a = some (POb P w a xs)) (ht : ∀ x ∈ xs, H x.2.1 = some (.tup (x.1.map lV))) :
    xs.length ≤ sizeLine ∧ (a == sysModules) = false ∧ ∃ ys, PR xs ys ∧ h.DictOfH (tupleKind (leafKind P w)) a ys := by
  obtain ⟨h1, h2, ys, r, o, es, ep, q1, q2, q3, q4, q5⟩ := (ok a _ e).1
  refine ⟨h1, h2, ys, r, o, es, ep, q1, q2, q3, q4, fun y hy => ?_, q5⟩
  obtain ⟨x, hx, e1, e2⟩ := PR.mem r y hy
  rw [← e1, ← e2]
  exact leaf_key ok (ht x hx)
theorem PR.val {xs : List (List Leaf × Addr × V)} {ys : List (List Leaf × Addr × Value)} (r : PR xs ys) (k : List Leaf) : RelO (valV (xs.map fun x => (x.1, x.2.2)) k) ((atKey ys k).map (·.2)) := by
  induction r with
  | nil => trivial
  | @cons x y xs ys a t ih =>
    obtain ⟨e1, e2, e3⟩ := a
    by_cases q : x.1 = k
    · have q' : y.1 = k := e1 ▸ q
      have l1 : valV ((x :: xs).map fun x => (x.1, x.2.2)) k = some x.2.2 := valV_pos (p := (x.1, x.2.2)) q
      have l2 : (atKey (y :: ys) k).map (·.2) = some y.2.2 := by simp [atKey, q']
      rw [l1, l2]
      exact e3
    · have q' : ¬ y.1 = k := e1 ▸ q
      have l1 : valV ((x :: xs).map fun x => (x.1, x.2.2)) k = valV (xs.map fun x => (x.1, x.2.2)) k := valV_neg (p := (x.1, x.2.2)) q
      have l2 : (atKey (y :: ys) k).map (·.2) = (atKey ys k).map (·.2) := by simp [atKey, q']
      rw [l1, l2]
      exact ih
end FK
set_option maxHeartbeats 4000000
namespace FK
open PySem L2 PySem.Spec PyProof.Rows

/-- what the dict at a holds at the key y, whatever keys it has -/
def EGet (P : Program) (w : World) (H : Hp) (a : Addr) (y : V) (r : Option V) : Prop :=
  DGet H a y r ∨ (∃ kvs k, Rd H a (NOb P w a kvs) ∧ y = lV k ∧ r = valV kvs k) ∨
  ∃ kvs k b, PTab P w H a kvs ∧ y = .ref b ∧ H b = some (.tup (k.map lV)) ∧ r = valV kvs k
def putP (xs : List (List Leaf × Addr × V)) (k : List Leaf) (b : Addr) (v : V) : List (List Leaf × Addr × V) :=
  if (valV (xs.map fun x => (x.1, x.2.2)) k).isSome then xs.map (fun x => if x.1 = k then (x.1, x.2.1, v) else x) else xs ++ [(k, b, v)]
/-- the heap behind a[y] = v -/
def EPut (P : Program) (w : World) (H : Hp) (a : Addr) (y v : V) (R : Hp → Prop) : Prop :=
  (∃ H', DPut H a y v H' ∧ R H') ∨ (∃ kvs k, H a = some (NOb P w a kvs) ∧ y = lV k ∧ kvs.length < sizeLine ∧ R (upd H a (NOb P w a (putK kvs k v)))) ∨
  ∃ xs k b, H a = some (POb P w a xs) ∧ (∀ x ∈ xs, H x.2.1 = some (.tup (x.1.map lV))) ∧ y = .ref b ∧ H b = some (.tup (k.map lV)) ∧ xs.length < sizeLine ∧ R (upd H a (POb P w a (putP xs k b v)))

theorem EGet.k {P : Program} {w : World} {H : Hp} {a : Addr} {kvs : List (Key × V)} {k : Key} (e : H a = some (.dK kvs)) : EGet P w H a (kV k) (valV kvs k) := .inl (.k e)
theorem EGet.s {P : Program} {w : World} {H : Hp} {a : Addr} {kvs : List (Key × V)} {x : Str} (e : H a = some (.dK kvs)) : EGet P w H a (.str x) (valV kvs (.inr x)) := .inl (.k (k := Sum.inr x) e)
theorem EGet.n {P : Program} {w : World} {H : Hp} {a : Addr} {kvs : List (Leaf × V)} {k : Leaf} (e : H a = some (NOb P w a kvs)) : EGet P w H a (lV k) (valV kvs k) := .inr (.inl ⟨kvs, k, .inl e, rfl, rfl⟩)
theorem EGet.nR {P : Program} {w : World} {H : Hp} {a : Addr} {kvs : List (Leaf × V)} {k : Leaf} (e : Rd H a (NOb P w a kvs)) : EGet P w H a (lV k) (valV kvs k) := .inr (.inl ⟨kvs, k, e, rfl, rfl⟩)
theorem EGet.sR {P : Program} {w : World} {H : Hp} {a : Addr} {kvs : List (Key × V)} {x : Str} (e : Rd H a (.dK kvs)) : EGet P w H a (.str x) (valV kvs (.inr x)) := .inl (.inl ⟨kvs, Sum.inr x, e, rfl, rfl⟩)
theorem EGet.p {P : Program} {w : World} {H : Hp} {a b : Addr} {kvs : List (List Leaf × V)} {k : List Leaf} (e : PTab P w H a kvs) (hb : H b = some (.tup (k.map lV))) : EGet P w H a (.ref b) (valV kvs k) :=
  .inr (.inr ⟨kvs, k, b, e, rfl, hb, rfl⟩)

section
variable {X : Cx} {pins : List (Addr × Obj)} {σ : L2.St} {H : Hp} {s : Shared} {a : Addr} {y v : V} {u r : Value} {o : Option V} {A : Around} {E : Value → Shared → Prop}

theorem relO_some {v : V} {o : Option Value} (h : RelO (some v) o) : ∃ u, o = some u ∧ RelV v u := by
  cases o with
  | none => exact h.elim
  | some u => exact ⟨u, rfl, h⟩

/-- d[y], there: the value is fixed ahead -/
theorem e_getItem (hu : A.units + 1 < cLine) (I : Inv X pins σ H s) (g : EGet X.prog X.w H a y (some v)) (ry : RelV y u) :
    ∃ w', RelV v w' ∧ s.TypeIs (.ref a) "dict" ∧ ∀ Q : Value → Shared → Prop, (∀ s', Inv X pins σ H s' → Q w' s') → wpAny (model X.prog X.w) A (getItem (.ref a) u) Q E s := by
  rcases g with g | ⟨kvs, k, e, ey, l⟩ | ⟨kvs, k, b, ⟨xs, ek, e, ht⟩, ey, eb, l⟩
  · rcases g with ⟨kvs, k, e, ey, l⟩ | ⟨kvs, k, b, e, ey, eb, l⟩
    · subst ey
      obtain ⟨z, hd, vs, rel, dd⟩ := dk_rd I.hok e
      have q := rel.val k
      rw [← l] at q
      obtain ⟨w', hw, rw'⟩ := relO_some q
      exact ⟨w', rw', dd.typeIs, fun Q h => wpAny_getItem_of (kV_is ry) dd.mapOf hw (h _ (I.tok _))⟩
    · subst ey
      cases (show u = Value.ref b from ry)
      obtain ⟨z, hd, xs, rel, dd⟩ := dt_rd I.hok e
      have q := rel.val k
      rw [← l] at q
      obtain ⟨w', hw, rw'⟩ := relO_some q
      obtain ⟨p, hp, hp2⟩ := Option.map_eq_some_iff.mp hw
      refine ⟨w', rw', dd.typeIs, fun Q h => wpAny_getItem_heap (tupleKind_room_in1 hu) (key_of I.hok eb) dd hp ?_⟩
      rw [hp2]
      exact h _ (I.tok _)
  · subst ey
    obtain ⟨z, hd, vs, rel, dd⟩ := nob_get I.hok e
    have q := rel.val k
    rw [← l] at q
    obtain ⟨w', hw, rw'⟩ := relO_some q
    exact ⟨w', rw', dd.typeIs, fun Q h => wpAny_getItem_of (lV_is ry) dd.mapOf hw (h _ (I.tok _))⟩
  · subst ey
    cases (show u = Value.ref b from ry)
    obtain ⟨z, hd, ys, rel, dd⟩ := ptab_heap I.hok e ht
    have q := PR.val rel k
    rw [← ek, ← l] at q
    obtain ⟨w', hw, rw'⟩ := relO_some q
    obtain ⟨p, hp, hp2⟩ := Option.map_eq_some_iff.mp hw
    refine ⟨w', rw', dd.typeIs, fun Q h => wpAny_getItem_heap (tupleKind_room_in1 hu) (leaf_key I.hok eb) dd hp ?_⟩
    rw [hp2]
    exact h _ (I.tok _)
/-- y in d -/
theorem e_in {Q : Value → Shared → Prop} (hu : A.units + 1 < cLine) (I : Inv X pins σ H s) (g : EGet X.prog X.w H a y o) (ry : RelV y u) (h : ∀ s', Inv X pins σ H s' → Q (.bool o.isSome) s') :
    wpAny (model X.prog X.w) A (compareOp .In u (.ref a)) Q E s := by
  rcases g with g | ⟨kvs, k, e, ey, l⟩ | ⟨kvs, k, b, ⟨xs, ek, e, ht⟩, ey, eb, l⟩
  · exact d_in hu I g ry h
  · subst ey
    obtain ⟨z, hd, vs, rel, dd⟩ := nob_get I.hok e
    refine wpAny_in_of (lV_is ry) hd dd.mapOf ?_
    have q := (rel.val k).isSome_eq
    rw [← l] at q
    rw [← q]
    exact h _ (I.tok _)
  · subst ey
    cases (show u = Value.ref b from ry)
    obtain ⟨z, hd, ys, rel, dd⟩ := ptab_heap I.hok e ht
    refine wpAny_in_heap (tupleKind_room_in1 hu) (leaf_key I.hok eb) hd dd ?_
    have q := (PR.val rel k).isSome_eq
    rw [Option.isSome_map, ← ek, ← l] at q
    rw [← q]
    exact h _ (I.tok _)
theorem e_notIn {Q : Value → Shared → Prop} (hu : A.units + 1 < cLine) (I : Inv X pins σ H s) (g : EGet X.prog X.w H a y o) (ry : RelV y u) (h : ∀ s', Inv X pins σ H s' → Q (.bool (!o.isSome)) s') :
    wpAny (model X.prog X.w) A (compareOp .NotIn u (.ref a)) Q E s := by
  rcases g with g | ⟨kvs, k, e, ey, l⟩ | ⟨kvs, k, b, ⟨xs, ek, e, ht⟩, ey, eb, l⟩
  · exact d_notIn hu I g ry h
  · subst ey
    obtain ⟨z, hd, vs, rel, dd⟩ := nob_get I.hok e
    refine wpAny_notIn_of (lV_is ry) hd dd.mapOf ?_
    have q := (rel.val k).isSome_eq
    rw [← l] at q
    rw [← q]
    exact h _ (I.tok _)
  · subst ey
    cases (show u = Value.ref b from ry)
    obtain ⟨z, hd, ys, rel, dd⟩ := ptab_heap I.hok e ht
    refine wpAny_notIn_heap (tupleKind_room_in1 hu) (leaf_key I.hok eb) hd dd ?_
    have q := (PR.val rel k).isSome_eq
    rw [Option.isSome_map, ← ek, ← l] at q
    rw [← q]
    exact h _ (I.tok _)

/-! ### d[y] = v -/
theorem PR.repl {xs : List (List Leaf × Addr × V)} {ys : List (List Leaf × Addr × Value)} (r : PR xs ys) (k : List Leaf) {v : V} {u : Value} (rv : RelV v u) :
    PR (xs.map fun x => if x.1 = k then (x.1, x.2.1, v) else x) (ys.map (putAt k u)) := by
  induction r with
  | nil => exact .nil
  | @cons x y xs ys a t ih =>
    refine .cons ?_ ih
    obtain ⟨e1, e2, e3⟩ := a
    show (if x.1 = k then (x.1, x.2.1, v) else x).1 = (putAt k u y).1 ∧ (if x.1 = k then (x.1, x.2.1, v) else x).2.1 = (putAt k u y).2.1 ∧ RelV (if x.1 = k then (x.1, x.2.1, v) else x).2.2 (putAt k u y).2.2
    by_cases q : x.1 = k
    · have q' : y.1 = k := e1 ▸ q
      simp only [putAt, if_pos q, if_pos q']
      exact ⟨e1, e2, rv⟩
    · have q' : ¬ y.1 = k := e1 ▸ q
      simp only [putAt, if_neg q, if_neg q']
      exact ⟨e1, e2, e3⟩
theorem PR.snoc {xs : List (List Leaf × Addr × V)} {ys : List (List Leaf × Addr × Value)} (r : PR xs ys) {x : List Leaf × Addr × V} {y : List Leaf × Addr × Value} (q : x.1 = y.1 ∧ x.2.1 = y.2.1 ∧ RelV x.2.2 y.2.2) : PR (xs ++ [x]) (ys ++ [y]) := by
  induction r with
  | nil => exact .cons q .nil
  | cons a t ih => exact .cons a ih
theorem PR.put {xs : List (List Leaf × Addr × V)} {ys : List (List Leaf × Addr × Value)} (r : PR xs ys) (k : List Leaf) (b : Addr) {v : V} {u : Value} (rv : RelV v u) : PR (putP xs k b v) (storedH ys k b u) := by
  have e : (valV (xs.map fun x => (x.1, x.2.2)) k).isSome = (atKey ys k).isSome := by
    rw [(PR.val r k).isSome_eq, Option.isSome_map]
  unfold putP storedH
  rw [e]
  by_cases q : (atKey ys k).isSome = true
  · rw [if_pos q, if_pos q]; exact PR.repl r k rv
  · rw [if_neg q, if_neg q]; exact PR.snoc r ⟨rfl, rfl, rv⟩
theorem putP_keys (xs : List (List Leaf × Addr × V)) (k : List Leaf) (b : Addr) (v : V) : (putP xs k b v).map (fun x => (x.1, x.2.2)) = putK (xs.map fun x => (x.1, x.2.2)) k v := by
  unfold putP putK
  rw [valV_any]
  by_cases q : (valV (xs.map fun x => (x.1, x.2.2)) k).isSome = true
  · rw [if_pos q, if_pos q, List.map_map, List.map_map]
    refine List.map_congr_left fun x _ => ?_
    by_cases e : x.1 = k
    · simp [e]
    · simp [e]
  · rw [if_neg q, if_neg q, List.map_append]
    rfl
theorem putP_mem {xs : List (List Leaf × Addr × V)} {k : List Leaf} {b : Addr} {v : V} {x : List Leaf × Addr × V} (h : x ∈ putP xs k b v) : (x.1 = k ∧ x.2.1 = b) ∨ ∃ y ∈ xs, y.1 = x.1 ∧ y.2.1 = x.2.1 := by
  unfold putP at h
  split at h
  · obtain ⟨y, hy, e⟩ := List.mem_map.mp h
    refine .inr ⟨y, hy, ?_⟩
    by_cases q : y.1 = k
    · rw [if_pos q] at e; subst e; exact ⟨rfl, rfl⟩
    · rw [if_neg q] at e; subst e; exact ⟨rfl, rfl⟩
  · rcases List.mem_append.mp h with h | h
    · exact .inr ⟨x, h, rfl, rfl⟩
    · have e : x = (k, b, v) := by simpa using h
      subst e; exact .inl ⟨rfl, rfl⟩
theorem putP_length (xs : List (List Leaf × Addr × V)) (k : List Leaf) (b : Addr) (v : V) : (putP xs k b v).length ≤ xs.length + 1 := by
  unfold putP
  split
  · simp
  · simp

theorem e_setItem {R : Hp → Prop} {Q : Unit → Shared → Prop} (hu : A.units + 1 < cLine) (I : Inv X pins σ H s) (g : EPut X.prog X.w H a y v R) (ry : RelV y u) (rv : RelV v r) (h : ∀ H' s', Inv X pins σ H' s' → R H' → Q () s') :
    wpAny (model X.prog X.w) A (setItem (.ref a) u r) Q E s := by
  rcases g with ⟨H', g, q⟩ | ⟨kvs, k, e, ey, l, q⟩ | ⟨xs, k, b, e, ht, ey, eb, l, q⟩
  · exact d_setItem hu I g ry rv fun s' I' => h H' s' I' q
  · subst ey
    obtain ⟨z, hd, vs, rel, dd⟩ := nob_get I.hok (.inl e)
    have hz : vs.length ≤ sizeLine := by rw [← rel.length]; exact z
    have hl : (putK kvs k v).length ≤ sizeLine := by have := length_putK kvs k v; omega
    refine wpAny_setItem_pairs (hsz := hz) (lV_is ry) dd fun h' dd' hs => h _ _ ?_ q
    have he : ∃ q, h'.get? a = some q := let ⟨q, _, _, hq, _⟩ := dd'; ⟨q, hq⟩
    exact d_write I (by rw [e]; exact True.intro) hs he (nob_ok hl hd (rel.put k rv) dd')
  · subst ey
    cases (show u = Value.ref b from ry)
    obtain ⟨z, hd, ys, rel, dd⟩ := ptab_heap I.hok e ht
    have hz : ys.length ≤ sizeLine := by rw [← Paired.length rel]; exact z
    have hl : (putP xs k b v).length ≤ sizeLine := by have := putP_length xs k b v; omega
    refine wpAny_setItem_heap (hsz := hz) (tupleKind_room_in1 hu) (leaf_key I.hok eb) dd fun h' dd' hs => ?_
    obtain ⟨ob, es, ep, hq, h2, h3, h4, _, h5⟩ := dd'
    have I' : Inv X pins σ (upd H a (POb X.prog X.w a (putP xs k b v))) { s with heap := h', toks := s.toks + (tupleKind (leafKind X.prog X.w)).draws k } :=
      d_write I (by rw [e]; exact True.intro) hs ⟨ob, hq⟩ (pob_ok hl hd (PR.put rel k b rv) hq h2 h3 h4 h5)
    exact h _ _ I' q
end

/-! ### the rules -/
def rIxE (P : Program) (w : World) : R2 := fun x y H Q => ∃ a v, x = .ref a ∧ EGet P w H a y (some v) ∧ Q v H
def rIxA (P : Program) (w : World) (K : PySem.W.Frag) : R2 := fun x y H Q => rIxL K x y H Q ∨ rIxT K x y H Q ∨ rIxE P w x y H Q
def rInE (P : Program) (w : World) : R2 := fun y x H Q => ∃ a o, x = .ref a ∧ EGet P w H a y o ∧ Q (.bl o.isSome) H
def rNotInE (P : Program) (w : World) : R2 := fun y x H Q => ∃ a o, x = .ref a ∧ EGet P w H a y o ∧ Q (.bl (!o.isSome)) H
def rSetE (P : Program) (w : World) : TSet := fun o i v H R => ∃ a, o = .ref a ∧ EPut P w H a i v R
def rSetA (P : Program) (w : World) : TSet := fun o i v H R => rSetL o i v H R ∨ rSetE P w o i v H R
section
variable {X : Cx}
theorem ix_e (hu : X.A.units + 1 < cLine) : IxR X (rIxE X.prog X.w) := by
  intro value slice pins s σ H x y v u Q I rx ry h hs
  obtain ⟨a, z, rfl, g, q⟩ := h
  cases rx
  obtain ⟨w', rw', ty, run⟩ := e_getItem (E := X.xe) hu I g ry
  exact subscriptTail_builtinR (x := w') ty PySem.F.slot_dict_getitem.lookup (run _ fun s' I' => ⟨rfl, z, H, I', rw', q⟩) hs
theorem ix_any (hu : X.A.units + 1 < cLine) : IxR X (rIxA X.prog X.w X.K) := ix_list.or (ix_tup.or (ix_e hu))
theorem op_inE (hu : X.A.units + 1 < cLine) : OpR X (compareOp .In) (rInE X.prog X.w) := by
  intro pins s σ H x y v u Q I rx ry h
  obtain ⟨a, o, rfl, g, q⟩ := h
  cases ry
  exact e_in hu I g rx fun s' I' => ⟨.bl o.isSome, H, I', rfl, q⟩
theorem op_notInE (hu : X.A.units + 1 < cLine) : OpR X (compareOp .NotIn) (rNotInE X.prog X.w) := by
  intro pins s σ H x y v u Q I rx ry h
  obtain ⟨a, o, rfl, g, q⟩ := h
  cases ry
  exact e_notIn hu I g rx fun s' I' => ⟨.bl (!o.isSome), H, I', rfl, q⟩
theorem set_e (hu : X.A.units + 1 < cLine) : PSet X (rSetE X.prog X.w) := by
  intro pins s σ H o i v ov iv u Q I ro ri rv h
  obtain ⟨a, rfl, g⟩ := h
  cases ro
  exact e_setItem hu I g ri rv fun H' s' I' q => ⟨H', I', q⟩
theorem set_any (hu : X.A.units + 1 < cLine) : PSet X (rSetA X.prog X.w) := by
  intro pins s σ H o i v ov iv u Q I ro ri rv h
  rcases h with h | h
  · exact set_list pins s σ H o i v ov iv u Q I ro ri rv h
  · exact set_e hu pins s σ H o i v ov iv u Q I ro ri rv h
/-- {} as the kind that is wanted -/
def tDNew (P : Program) (w : World) : TE := fun _ H Q => ∀ p, H p = none → Q (.ref p) (upd H p (.dK [])) ∨ Q (.ref p) (upd H p (NOb P w p [])) ∨ Q (.ref p) (upd H p (POb P w p []))
theorem nob_empty {P : Program} {w : World} {H : Hp} (h : Heap) (hb : sysModules < h.objs.size) : ObjOk P w H (h.push { cls := .type "dict", data := .dict #[] }) h.objs.size (NOb P w h.objs.size []) :=
  nob_ok (Nat.zero_le _) (beq_eq_false_iff_ne.mpr (Ne.symm (Nat.ne_of_lt hb))) .nil (Heap.DictOf.new h)
theorem pob_empty {P : Program} {w : World} {H : Hp} (h : Heap) (hb : sysModules < h.objs.size) : ObjOk P w H (h.push { cls := .type "dict", data := .dict #[] }) h.objs.size (POb P w h.objs.size []) :=
  pob_ok (es := #[]) (ep := 0) (Nat.zero_le _) (beq_eq_false_iff_ne.mpr (Ne.symm (Nat.ne_of_lt hb))) .nil (Heap.get?_push_size _ rfl) ⟨rfl, rfl, rfl⟩ rfl rfl List.nodup_nil
theorem pe_dnew {pos : Pos} : PE X (.Dict [] [] pos) (tDNew X.prog X.w) := ⟨fun pins s σ H Q I h => by
  have hn := I.hok.fresh (a := s.heap.objs.size) (Nat.le_refl _)
  rcases h _ hn with q | q | q
  · exact wpAny_Dict_empty ⟨.ref s.heap.objs.size, _, I.laid (o := .dK []) (t' := s.toks) (fun _ _ z => Heap.get?_push_of_some _ z) (Nat.le_refl _) (dk_empty s.heap I.big), rfl, q⟩
  · exact wpAny_Dict_empty ⟨.ref s.heap.objs.size, _, I.laid (o := NOb X.prog X.w s.heap.objs.size []) (t' := s.toks) (fun _ _ z => Heap.get?_push_of_some _ z) (Nat.le_refl _) (nob_empty s.heap I.big), rfl, q⟩
  · exact wpAny_Dict_empty ⟨.ref s.heap.objs.size, _, I.laid (o := POb X.prog X.w s.heap.objs.size []) (t' := s.toks) (fun _ _ z => Heap.get?_push_of_some _ z) (Nat.le_refl _) (pob_empty s.heap I.big), rfl, q⟩⟩
end
end FK
set_option maxHeartbeats 4000000
/-! FK3: len(set(xs)), xs a list of None, numbers, texts -/
namespace FK
open PySem PySem.Spec PyProof.Rows

section
variable {κ : Type} [DecidableEq κ]
def ded1 (acc : List κ) (k : κ) : List κ := if k ∈ acc then acc else acc ++ [k]
/-- each once, as first met -/
def ded (ks : List κ) : List κ := ks.foldl ded1 []
theorem ded_snoc (ks : List κ) (k : κ) : ded (ks ++ [k]) = ded1 (ded ks) k := by
  unfold ded
  rw [List.foldl_append]
  rfl
theorem ded_facts : ∀ (n : Nat) (ks : List κ), ks.length = n → (∀ k, k ∈ ded ks ↔ k ∈ ks) ∧ (ded ks).Nodup ∧ (ded ks).length ≤ ks.length ∧ ((ded ks).length = ks.length → ks.Nodup) ∧ (ks.Nodup → ded ks = ks) := by
  intro n
  induction n with
  | zero =>
    intro ks h
    cases List.length_eq_zero_iff.mp h
    exact ⟨fun k => Iff.rfl, List.nodup_nil, Nat.le_refl _, fun _ => List.nodup_nil, fun _ => rfl⟩
  | succ n ih =>
    intro ks h
    obtain ⟨ys, y, rfl⟩ : ∃ ys y, ks = ys ++ [y] := by
      have hne : ks ≠ [] := fun e => by rw [e] at h; simp at h
      exact ⟨ks.dropLast, ks.getLast hne, (List.dropLast_concat_getLast hne).symm⟩
    have hl : ys.length = n := by simpa using h
    obtain ⟨m, nd, le, back, same⟩ := ih ys hl
    rw [ded_snoc]
    unfold ded1
    by_cases q : y ∈ ded ys
    · rw [if_pos q]
      have q' := (m y).mp q
      refine ⟨fun k => ?_, nd, ?_, fun e => ?_, fun e => ?_⟩
      · rw [m k, List.mem_append]
        constructor
        · intro z; exact .inl z
        · rintro (z | z)
          · exact z
          · rw [List.mem_singleton.mp z]; exact q'
      · rw [List.length_append]; simp; omega
      · rw [List.length_append] at e; simp at e; omega
      · have := (List.nodup_append.mp e).2.2 y q' y (by simp)
        exact absurd rfl this
    · rw [if_neg q]
      have q' : y ∉ ys := fun z => q ((m y).mpr z)
      refine ⟨fun k => ?_, ?_, ?_, fun e => ?_, fun e => ?_⟩
      · rw [List.mem_append, List.mem_append, m k]
      · refine List.nodup_append.mpr ⟨nd, by simp, fun a ha b hb => ?_⟩
        rw [List.mem_singleton.mp hb]
        intro z; exact q (z ▸ ha)
      · rw [List.length_append, List.length_append]; simp; omega
      · rw [List.length_append, List.length_append] at e
        refine List.nodup_append.mpr ⟨back (by simpa using e), by simp, fun a ha b hb => ?_⟩
        rw [List.mem_singleton.mp hb]
        intro z; exact q' (z ▸ ha)
      · rw [same (List.nodup_append.mp e).1]
theorem mem_ded (ks : List κ) (k : κ) : k ∈ ded ks ↔ k ∈ ks := (ded_facts _ ks rfl).1 k
theorem ded_le (ks : List κ) : (ded ks).length ≤ ks.length := (ded_facts _ ks rfl).2.2.1
theorem ded_nodup {ks : List κ} (h : ks.Nodup) : ded ks = ks := (ded_facts _ ks rfl).2.2.2.2 h
theorem nodup_of_ded {ks : List κ} (h : (ded ks).length = ks.length) : ks.Nodup := (ded_facts _ ks rfl).2.2.2.1 h
theorem take_succ_at {ks : List κ} {i : Nat} {k : κ} (h : ks[i]? = some k) : ks.take (i + 1) = ks.take i ++ [k] := by
  rw [List.take_add_one, h]
  rfl
end

section
variable {prog : Program} {w : World} {κ : Type} [DecidableEq κ] [BEq κ] [LawfulBEq κ] {knd : KeyKind prog w κ}
/-- the loop of set.update over a walked list of keys -/
theorem set_keys_loop {A : Around} {R : Result → Shared → Prop} {I : Addr} {fp wr : List Addr} {G : Array GenState → Array GenState → Prop} {n : Nat} {Pv : Nat → Value → Prop} {St : Nat → Shared → Prop}
    (W : WalksS prog w A.in1 I fp wr G n Pv St) (Z : Addr) (hZ : Z ∉ fp) (ks : List κ) (hks : ∀ i v, Pv i v → ∃ k, ks[i]? = some k ∧ knd.is k v = true ∧ v.scannable = true) (hb : n + 1 < scanBound) (hl : ks.length = n) :
    ∀ (j i : Nat) (s : Shared), i + j = n → St i s → s.heap.SetOf knd Z (fun k => decide (k ∈ ks.take i)) (ded (ks.take i)).length →
      (∀ s', Moved (Z :: wr) G s s' → s'.heap.SetOf knd Z (fun k => decide (k ∈ ks)) (ded ks).length → R (.ok (.ret .none)) s') → codeAny (model prog w) A (.builtin "set.update.loop" ⟨[.ref Z, .ref I], []⟩) R s := by
  have hZw : Z ∉ wr := fun q => hZ (W.sub _ q)
  have up : ∀ b ∈ wr, b ∈ Z :: wr := fun b q => List.mem_cons_of_mem _ q
  have stay : ∀ {s s' : Shared} {S : κ → Bool} {m : Nat}, Moved wr G s s' → s.heap.SetOf knd Z S m → s'.heap.SetOf knd Z S m := fun hm hS => by
    obtain ⟨o, es, ep, tb, ho, more⟩ := hS
    exact ⟨o, es, ep, tb, hm.heap Z _ hZw ho, more⟩
  intro j
  induction j with
  | zero =>
    intro i s hij st hS hR
    obtain rfl : i = n := by omega
    rw [← hl, List.take_length] at hS
    refine codeAny_builtin F.entry_set_update_loop ?_
    rw [Around.under_plainId F.plain_set_update_loop _]
    show wpAny _ A.in1 (pyNext (.ref I) >>= _) _ _ s
    exact wpAny_bind (W.done s _ _ st fun s' hm => (wpAny_pure (hR s' (hm.mono up) (stay hm hS)) : wpAny _ A.in1 (ret Value.none) _ _ s'))
  | succ j ih =>
    intro i s hij st hS hR
    have hi : i < n := by omega
    refine codeAny_builtin F.entry_set_update_loop ?_
    rw [Around.under_plainId F.plain_set_update_loop _]
    show wpAny _ A.in1 (pyNext (.ref I) >>= _) _ _ s
    refine wpAny_bind (W.item i s _ _ hi st fun v s' hP st' hm => ?_)
    obtain ⟨k, hk, his, hsc⟩ := hks i v hP
    have hS1 := stay hm hS
    show wpAny _ A.in1 (holding [v] (setAdd Z v) >>= _) _ _ s'
    refine wpAny_bind (wpAny_holding ?_)
    unfold setAdd
    refine wpAny_holding (wpAny_bind (knd.pyHash his ?_))
    have le : (ded (ks.take i)).length ≤ i := Nat.le_trans (ded_le _) (by rw [List.length_take]; omega)
    refine wpAny_setAddHashed_of (s := { s' with toks := s'.toks + 1 }) his hsc hS1 (by omega) fun h' hsb hS2 => ?_
    have hS3 : h'.SetOf knd Z (fun k => decide (k ∈ ks.take (i + 1))) (ded (ks.take (i + 1))).length := by
      refine SetOf_congr hS2 (fun k' => ?_) ?_
      · rw [take_succ_at hk]
        by_cases q : k' = k
        · subst q; simp
        · simp [q]
      · rw [take_succ_at hk, ded_snoc]
        unfold ded1
        by_cases q : k ∈ ks.take i
        · rw [if_pos (decide_eq_true q), if_pos ((mem_ded _ _).mpr q)]
        · rw [if_neg (by simpa using q), if_neg (fun z => q ((mem_ded _ _).mp z)), List.length_append]; rfl
    refine wpAny_pure ⟨plainId_quiet F.plain_set_update_loop _, ih (i + 1) _ (by omega) (W.frame _ s' _ _ st' (Nat.le_succ _) fun b q o e => ?_) hS3 fun s'' hm2 hS4 => hR s'' ?_ hS4⟩
    · rw [hsb.2 b (fun z => hZ (z ▸ q))]; exact e
    · exact Moved.trans W.gtrans ((hm.mono up).then_heap (Nat.le_succ _) fun b o q e => by rw [hsb.2 b (fun z => q (z ▸ List.mem_cons_self))]; exact e) hm2

set_option maxRecDepth 100000 in
/-- set(xs), xs a list of keys -/
theorem call_set_keys {A : Around} {E : Value → Shared → Prop} {s : Shared} {l : Addr} {items : Array Value} {ks : List κ} {Q : Value → Shared → Prop} (hh : A.handled = none) (hl : s.heap.IsList l items)
    (hks : ∀ (i : Nat) (v : Value), items[i]? = some v → ∃ k, ks[i]? = some k ∧ knd.is k v = true ∧ v.scannable = true) (hn : ks.length = items.size) (hb : items.size + 1 < scanBound)
    (h : ∀ (h' : Heap) (tk : Nat), h'.SetOf knd s.heap.objs.size (fun k => decide (k ∈ ks)) (ded ks).length → (∀ b o, s.heap.get? b = some o → h'.get? b = some o) → Q (.ref s.heap.objs.size) { s with heap := h', toks := tk }) :
    wpAny (model prog w) A (call (.type "set") [.ref l]) Q E s := by
  obtain ⟨c, tl, hmro⟩ := PySem.F.called_set.mro
  have hmade := PySem.F.called_set.made
  have hsub := PySem.F.called_set.sub
  have h1 := PySem.F.called_set.notType
  have h2 := PySem.F.called_set.canCreate
  have hct := PySem.F.typeCall_set_1 (.ref l)
  have hli := PySem.F.called_set.init.lookup
  refine wpAny_call (codeAny_of_tree ?_)
  show wpAny _ _ (callAny (.type "set") _) _ _ _
  refine wpAny_pure ⟨Code.quiet_builtin _ (by decide +kernel), codeAny_builtin PySem.F.entry_type_call ?_⟩
  rw [Around.under_plain (weight_type_call_type "set" [.ref l] []) rfl]
  repeat (any_goals (first | assumption | wp_step))
  let ob : Bool → Obj := fun led => { cls := .type "set", dict := none, data := .set #[] 0 (.fresh 0 0 led) }
  refine codeAny_mono (code_set_new_1 (.ref l) (E := E) (Q₁ := fun obj s1 => ∃ led, obj = .ref s.heap.objs.size ∧ s1 = { s with heap := s.heap.push (ob led) }) fun led => ⟨led, rfl, rfl⟩) fun r s1 hr => ?_
  cases r with
  | error e => exact hr
  | ok fl =>
    cases fl with
    | next => exact hr.elim
    | brk => exact hr.elim
    | cont => exact hr.elim
    | ret obj =>
      obtain ⟨led, rfl, rfl⟩ := hr
      have hS : (s.heap.push (ob led)).get? s.heap.objs.size = some (ob led) := Heap.get?_push_size _ rfl
      have hT : Shared.TypeIs { s with heap := s.heap.push (ob led) } (.ref s.heap.objs.size) "set" := ⟨_, hS, rfl⟩
      have hbi := PySem.F.called_set.init.bind (.ref s.heap.objs.size)
      repeat (any_goals (first | assumption | wp_step))
      refine codeAny_mono (codeAny_call_builtin (R := wants (fun r s2 => r = .none ∧ ∃ h' tk, s2 = { s with heap := h', toks := tk } ∧ h'.SetOf knd s.heap.objs.size (fun k => decide (k ∈ ks)) (ded ks).length ∧
        ∀ b o, s.heap.get? b = some o → h'.get? b = some o) E) PySem.F.called_set.init.plain PySem.F.entry_set_init (check_set_init_1 hT ?_)) fun r2 s2 hr2 => ?_
      · obtain ⟨⟨ocls, odict, odata, oslots⟩, hol, hcl, nl, hdl⟩ := hl
        simp only at hcl hdl
        subst hcl hdl
        have hol' : (s.heap.push (ob led)).get? l = some { cls := .type "list", dict := odict, data := .seq items nl, slots := oslots } := Heap.get?_push_of_some _ hol
        have hsls := PySem.F.sub_list_set
        have hslf := PySem.F.sub_list_frozenset
        have hne : (Value.type "list" == Value.type "dict") = false := by decide
        have hl1 : (s.heap.push (ob led)).IsList l items := ⟨_, hol', rfl, nl, rfl⟩
        unfold Builtin.«set.__init__» noKeywords Builtin.Frozenset.updateFrom
        generalize hPI : pyIter = PI
        wp_walk
        subst hPI
        refine wpAny_pyIter_list hl1 (wpAny_bind (wpAny_runValue ?_))
        have hlS : l < s.heap.objs.size := Heap.lt_size hol
        have sz : (s.heap.push (ob led)).objs.size = s.heap.objs.size + 1 := Heap.size_push ..
        have hh3 : A.in1.in1.in1.handled = none := by simp [hh]
        have hneI : l ≠ (s.heap.push (ob led)).objs.size := by rw [sz]; exact Nat.ne_of_lt (Nat.lt_succ_of_lt hlS)
        have hZ : s.heap.objs.size ∉ [(s.heap.push (ob led)).objs.size, l] := by
          intro z
          rcases List.mem_cons.mp z with z | z
          · rw [sz] at z; exact absurd z (Nat.ne_of_lt (Nat.lt_succ_self _))
          · exact absurd (List.mem_singleton.mp z) (Nat.ne_of_gt hlS)
        refine set_keys_loop (knd := knd) ((Walks.list hh3 _ l hneI items).toS) s.heap.objs.size hZ ks hks hb hn items.size 0 _ (Nat.zero_add _) ⟨⟨_, Heap.get?_push_size _ rfl, rfl, rfl⟩, hl1.push _⟩ ?hS0 ?hR
        case hS0 =>
          have hget : ((s.heap.push (ob led)).push { cls := .type "list_iterator", data := .fields #[.ref l, .int 0 0] }).get? s.heap.objs.size = some (ob led) := Heap.get?_push_of_some _ hS
          exact SetOf_congr ((setObjOf_fresh (knd := knd) led).setOf hget (by unfold scanBound; omega)) (fun _ => rfl) rfl
        case hR =>
          rintro ⟨h', g', d', tk', os'⟩ hm hS'
          have eg : g' = s.gens := hm.gens
          have ed : d' = s.drawn := hm.drawn
          have eo : os' = s.os := hm.os
          subst eg ed eo
          show wpAny _ _ _ _ _ _
          refine wpAny_pure ?_
          show wpAny _ _ (ret Value.none) _ _ _
          refine wpAny_pure ⟨rfl, h', tk', rfl, hS', fun b o e => hm.heap b o (fun z => ?_) (Heap.get?_push_of_some _ (Heap.get?_push_of_some _ e))⟩
          have hlt := Heap.lt_size e
          rcases List.mem_cons.mp z with z | z
          · exact absurd z (Nat.ne_of_lt hlt)
          · have z := List.mem_singleton.mp z
            rw [sz] at z
            exact absurd z (Nat.ne_of_lt (Nat.lt_succ_of_lt hlt))
      · cases r2 with
        | error e => exact hr2
        | ok fl2 =>
          cases fl2 with
          | next => exact hr2.elim
          | brk => exact hr2.elim
          | cont => exact hr2.elim
          | ret r =>
            obtain ⟨rfl, h', tk, rfl, hS', hk'⟩ := hr2
            repeat (any_goals (first | assumption | wp_step))
            exact h _ _ hS' hk'
end
end FK

namespace FK
open PySem L2 PySem.Spec PyProof.Rows
instance : BEq Leaf := ⟨fun a b => decide (a = b)⟩
instance : LawfulBEq Leaf where
  eq_of_beq h := of_decide_eq_true h
  rfl := decide_eq_true rfl
theorem leaf_scan {k : Leaf} {u : Value} (r : RelV (lV k) u) : u.scannable = true := by
  cases k with
  | none => cases r; rfl
  | num i => obtain ⟨t, rfl⟩ := r; rfl
  | text x => obtain ⟨t, rfl⟩ := r; rfl
def tLenSetL (K : PySem.W.Frag) (ta : TE) : TE := fun σ H Q => ta σ H fun x H1 => ∃ (l : Addr) (ks : List Leaf), x = .ref l ∧ SqL K H1 l (ks.map lV) ∧ ks.length ≤ 4000 ∧ Q (.int ((ded ks).length : Nat)) H1
theorem pe_lenSetL {X : Cx} {a : Expr} {ta : TE} {p p2 q pos : Pos} (hg : Gl X "len") (hm : X.mg "len" = none) (hg2 : Gl X "set") (hm2 : X.mg "set" = none) (ha : PE X a ta) (hc : X.calm = true := by rfl)
    (na : starEach [a] X.env = (false, eval a X.env) :: starEach [] X.env := by rfl) : PE X (.Call (.Name "len" p) [.Call (.Name "set" p2) [a] [] q] [] pos) (tLenSetL X.K ta) := by
  refine ⟨fun pins s σ H Q I h => Call_ (ld_blt I hg hm boot_len (callWith_builtin1 (args_cons (Call_ (ld_blt I hg2 hm2 boot_set ?_)) rfl) rfl rfl))⟩
  refine callWith_type1 (args_cons (thn (ha.run pins s σ H _ I h) fun v s1 ⟨x, H1, I1, r1, q1⟩ => args_nil ?_) na) na rfl
  obtain ⟨l, ks, rfl, hq, hl, q1⟩ := q1
  cases r1
  obtain ⟨its, r, pl, hz⟩ := I1.list hq
  have hlen : ks.length = its.toArray.size := by rw [List.size_toArray, ← r.length, List.length_map]
  refine call_set_keys (knd := leafKind X.prog X.w) (ks := ks) (I1.ok.hd hc) pl.isList (fun i v e => ?_) hlen (by rw [← hlen]; unfold scanBound; omega) fun h' tk hS hk => ?_
  · have e : its[i]? = some v := by simpa using e
    cases e2 : ks[i]? with
    | none =>
      rw [r.none_of (by rw [List.getElem?_map, e2]; rfl)] at e
      cases e
    | some k =>
      obtain ⟨u, eu, ru⟩ := r.get (i := i) (x := lV k) (by rw [List.getElem?_map, e2]; rfl)
      rw [e] at eu
      cases eu
      exact ⟨k, rfl, lV_is ru, leaf_scan ru⟩
  · refine args_nil ?_
    obtain ⟨o, es, ep, t, ho, hex, hd, _, _, hsc, hf, hn⟩ := hS
    have I2 : Inv X pins σ H1 { s1 with heap := h', toks := tk } := I1.kept hk
    have hle := ded_le ks
    exact call_len_set ho hex hd hf (by rw [hn]; omega) ⟨.int (ded ks).length, H1, I2.tok _, ⟨_, by rw [hn]⟩, q1⟩
end FK
set_option maxHeartbeats 4000000
/-! FK4: defs that ask for a text of a list: no list is being shown where they run (guards) -/
namespace FK
open PySem L2 PySem.Spec PyProof.Rows

/-- as FnOk, where nothing is being shown around the call -/
structure GnOk (P : Program) (w : World) (K : PySem.W.Frag) (mg : Str → Option Value) (base : Heap) (k : Nat) (f : Addr) (fd : FuncData) (ps : List Str) (sp : Sp) : Prop where
  len : ∀ vs H Q E, sp vs H Q E → vs.length = ps.length
  run : ∀ (A : Around) (outer : List Env) (s : Shared) (H : Hp) (args : Args) (us : List Value) (vs : List V) (Q : VK) (E : XK), A.guards = some [] → Room k A → Env0 P w K mg base A outer s H → BindsTo s fd args (ps.zip us) → Vals vs us →
    sp vs H Q E → codeAny (model P w) A (.call (.ref f) args) (CR CX0 outer P w H s Q E) s

section
variable {P : Program} {w : World} {K : PySem.W.Frag} {mg : Str → Option Value} {base : Heap}
theorem gn_of {x qual : Str} {st : Stmt} {f : Addr} {fd : FuncData} {N ps : List Str} {k : Nat} {sp : Sp} (F : Fun K x qual st f fd) (S : FnScope N ps (defScope st)) (len : ∀ vs H Q E, sp vs H Q E → vs.length = ps.length)
    (hbody : ∀ (cdv : Value) (A : Around) (outer : List Env) (s : Shared) (H : Hp) (vs : List V) (Q : VK) (E : XK), (A.deeper (envOfC qual (defScope st) s.heap.objs.size f cdv)).guards = some [] →
      Room k (A.deeper (envOfC qual (defScope st) s.heap.objs.size f cdv)) → sp vs H Q E →
      ∃ t, PSs (cxOf CX0 P w K mg base N qual (defScope st) f cdv A outer s H E).nox (defBody st) t ∧ t { nx := fun _ H' => Q .non H', rt := Q } (start N vs) H) : GnOk P w K mg base (k + 1) f fd ps sp := by
  obtain ⟨oc, od, kV, doc, pm, an, cdv, ct, osl, rfl, lk, hcd⟩ := F.ex
  refine ⟨len, fun A outer s H args us vs Q E hg hr e0 hb r hsp => ?_⟩
  have KX : K.In s.heap := e0.mod.kin.keeps fun b o e => (e0.bs b o e).1
  refine codeAny_call_function hr.depth (KX _ _ lk) rfl S.co S.gen rfl (PySem.W.codeRec_of KX hcd) (hb _ _ _ _ (wpAny_newFunctionEnv_cells S.kind (fun y hy => ?_) fun env he s1 x => ?_))
  · rcases S.par y.1 (List.of_mem_zip (a := y.1) (b := y.2) hy).1 with q | q
    · exact Or.inl q
    · exact Or.inr ⟨q, PySem.W.cellsFrom_some _ _ _ (Or.inl q)⟩
  · subst he
    refine ⟨(e0.mod.nolimit.keeps fun b o e => (e0.bs b o e).1).keeps x.toInCall.keep, codeAny_func ?_⟩
    obtain ⟨t, ht, hq⟩ := hbody cdv A outer s H vs Q E hg (hr.deeper _) hsp
    have I0 := inv_start (CX := CX0) (E := E) S hr.hd e0 (len _ _ _ _ hsp) r x
    refine wpAny_mono (ht.nox.run [] s1 (start N vs) H _ I0 hq) (fun fl s' hs => ?_) fun e s' hs => hs
    cases fl with
    | ret u => obtain ⟨v, σ', H', J, rv, q⟩ := hs; exact ⟨v, H', J.os, J.bare, J.base, J.hok, rv, q⟩
    | next => obtain ⟨σ', H', J, q⟩ := hs; exact ⟨.non, H', J.os, J.bare, J.base, J.hok, rfl, q⟩
    | brk => obtain ⟨_, _, _, q⟩ := hs; exact q.elim
    | cont => obtain ⟨_, _, _, q⟩ := hs; exact q.elim
end

section
variable {X : Cx} {k : Nat} {f : Addr} {fd : FuncData} {ps : List Str} {sp : Sp} {x : Str} {p pos : Pos} {e : Expr} {es : List Expr} {t : TA}
/-- f(e, ..), f such a def, where nothing is being shown -/
theorem pe_callG (F : GnOk X.prog X.w X.K X.mg X.base k f fd ps sp) (hG : X.A.guards = some []) (hr : Room k X.A) (hg : Gl X x) (hm : X.mg x = some (.ref f)) (hk : PySem.W.keepIn X.K (.ref f) = true) (hb : Binds X.K fd ps [])
    (ha : PA X (e :: es) t) (hdb : (x == ("__debug__" : Str)) = false := by decide) (he : starEach (e :: es) X.env = (false, eval e X.env) :: starEach es X.env := by rfl) (hpl : (backTo pos (starEach es X.env)).any (·.1) = false := by rfl) :
    PE X (.Call (.Name x p) (e :: es) [] pos) (tCall sp [] E0 t) := by
  refine ⟨fun pins s σ H Q I h => wpAny_Call_Name_kw (ld_glob I hg hm ?_ hdb)⟩
  refine PySem.W.callWith_K (h₀ := X.base) I.ok.mod.kin hk (thn (ha.run pos pins s σ H _ I h) fun us s1 ⟨vs, H1, I1, r, q⟩ => ⟨I1.kIn, ?_⟩) he hpl
  have q' : sp vs H1 Q E0 := by rw [← List.append_nil vs]; exact q
  have hl : us.length = ps.length := by rw [← r.length]; exact F.len _ _ _ _ q'
  have hbb := hb s1 us I1.kIn (by rw [List.append_nil]; exact hl)
  rw [List.append_nil] at hbb
  refine wpAny_call (codeAny_mono (F.run X.A X.stack s1 H1 ⟨us, []⟩ us vs Q E0 hG hr I1.env0 hbb r q') fun rr s' hq => ?_)
  cases rr with
  | error e => exact hq.elim
  | ok fl =>
    cases fl with
    | ret u => exact I1.after hq
    | next => exact hq.elim
    | brk => exact hq.elim
    | cont => exact hq.elim
end

/-! ### str(x), x a list or tuple of data -/
def rStrD (K : PySem.W.Frag) : List V → Hp → VK → Prop := fun xs H Q => ∃ (a : Addr) (d : PyData), xs = [.ref a] ∧ Dp K H (.ref a) d ∧ d.showable = true ∧ d.hasDict = false ∧ d.depth ≤ 20 ∧ d.shown.length ≤ sizeLine ∧ Q (.str d.shown) H
theorem call_strD {X : Cx} (hG : X.A.guards = some []) (hu : X.A.units + 64 < cLine) : CallR X (.type "str") (rStrD X.K) := by
  intro pins s σ H xs us Q I r h
  obtain ⟨a, d, rfl, hd, hs, hn, hp, hz, q⟩ := h
  cases r with
  | cons r0 rt =>
    cases rt
    obtain ⟨as, rd⟩ := Dp.reads I d _ _ hd r0
    cases r0
    refine str_of_reads rd hs (fun z => absurd z (by rw [hn]; exact Bool.false_ne_true)) hG (by omega) (fun _ _ e => e) (fun h' u tk k => ?_) hz
    exact ⟨.str d.shown, H, I.kept k, ⟨_, rfl⟩, q⟩
end FK
set_option maxHeartbeats 4000000
/-! FK5: the end of a law row from a promise of the law's def that asks for no shown list around it -/
namespace FK
open PySem L2 PySem.Spec PyProof.Rows

section
variable {P : Program} {w : World} {K : PySem.W.Frag} {mg mb : Str → Option Value} {k : Nat} {fa a : Addr} {fd : FuncData} {x : Str} {sp : Sp} {s1 : Shared} {vs : List Value} {ns : List Int}
/-- from a heap H in which at most the script stands -/
theorem law_core {H : Hp} (KX : K.In s1.heap) (hns : s1.heap.Ns mainGlobals mg) (hb : s1.heap.Ns builtinsNs mb) (hbb : ∀ x : Str, x ≠ "__name__" → mb x = bootBuiltins x) (hlim : s1.heap.NoLimit) (hg : s1.gens = #[])
    (ha : ∃ n, s1.heap.get? a = some { cls := .type "list", data := .seq vs.toArray n }) (hr : Room k callerA) (F : ∀ base : Heap, K.In base → base.Ns mainGlobals mg → GnOk P w K mg base k fa fd [x] sp)
    (hbind : ∀ (s : Shared) (u : Value), BindsTo s fd ⟨[u], []⟩ [(x, u)]) (hO : Only H) (hsp : sp [.ref a] H (fun v _ => v = .bl true) fun _ _ _ => False) (hok : HOk P w H s1.heap) (hA : ∀ b, H b ≠ none → b = a) (hK : H a ≠ none → K.lookup a = none) :
    codeAny (model P w) callerA (.call (.ref fa) ⟨[.ref a], []⟩) (fun r s' => r = .ok (.ret (.bool true)) ∧ OldK s1.heap s'.heap ∧ s'.os = s1.os ∧ AllBare s'.gens) s1 := by
  obtain ⟨n0, ha⟩ := ha
  have free : ∀ {b : Addr}, b ≠ a → H b = none := fun {b} q => by
    cases z : H b with
    | none => rfl
    | some u => exact absurd (hA b (by rw [z]; exact fun e => nomatch e)) q
  have isNs : ∀ {b : Addr} {m : Str → Option Value}, s1.heap.Ns b m → (hidT s1.heap H).Ns b m := fun {b m} q => by
    obtain ⟨o, es, ep, e, d, more⟩ := q
    have hb : b ≠ a := by
      rintro rfl
      rw [ha] at e
      cases e
      cases (d : Data.seq _ _ = Data.dict _ _)
    exact ⟨o, es, ep, hidT_get e (free hb), d, more⟩
  have inK : K.In (hidT s1.heap H) := fun b o e => hidT_get (KX b o e) (by
    by_cases q : b = a
    · subst q
      cases z : H b with
      | none => rfl
      | some u => rw [hK (by rw [z]; exact fun e => nomatch e)] at e; cases e
    · exact free q)
  obtain ⟨mc, l1, l2⟩ := hlim
  have e0 : Env0 P w K mg (hidT s1.heap H) callerA [] s1 H := {
    frames := rfl
    mod := ⟨inK, isNs hns, ⟨mb, isNs hb, hbb⟩, ⟨mc, isNs l1, l2⟩⟩
    bs := fun b o e => of_hidT e
    bsz := Nat.le_of_eq (hidT_size _ _)
    funs := trivial
    frf := fun b hb => nomatch (show b ∈ ([] : List Addr) from hb)
    hok := hok
    bare := AllBare.of_eq hg }
  refine codeAny_mono ((F _ inK (isNs hns)).run callerA [] s1 H ⟨[.ref a], []⟩ [.ref a] [.ref a] _ _ rfl hr e0 (hbind s1 (.ref a)) (.cons rfl .nil) hsp) fun r s' h => ?_
  cases r with
  | error e => exact h.elim
  | ok fl =>
    cases fl with
    | next => exact h.elim
    | brk => exact h.elim
    | cont => exact h.elim
    | ret u =>
      obtain ⟨v, H', os, bare, un, hok', rv, q⟩ := h
      obtain rfl : v = .bl true := q
      obtain rfl : u = Value.bool true := rv
      refine ⟨rfl, OldK.of_keep fun b o e => ?_, os, bare⟩
      rcases hO b with z | ⟨ob, xs, z⟩
      · exact un.keep b o e z (fun hb => nomatch (show b ∈ ([] : List Addr) from hb)) (fun hb => nomatch hb)
      · have z1 := (hok b _ z).1
        have z2 := (hok' b _ (un.frzs b ob _ z)).1
        rw [e] at z1
        cases z1
        exact z2
theorem law_callG (KX : K.In s1.heap) (hns : s1.heap.Ns mainGlobals mg) (hb : s1.heap.Ns builtinsNs mb) (hbb : ∀ x : Str, x ≠ "__name__" → mb x = bootBuiltins x) (hlim : s1.heap.NoLimit) (hg : s1.gens = #[])
    (ha : s1.heap.get? a = some { cls := .type "list", data := .seq vs.toArray }) (hi : IntsAre vs ns) (hl : ns.length ≤ sizeLine) (hr : Room k callerA) (F : ∀ base : Heap, K.In base → base.Ns mainGlobals mg → GnOk P w K mg base k fa fd [x] sp)
    (hbind : ∀ (s : Shared) (u : Value), BindsTo s fd ⟨[u], []⟩ [(x, u)]) (hsp : ∀ H : Hp, Only H → SqL K H a (ns.map V.int) → sp [.ref a] H (fun v _ => v = .bl true) fun _ _ _ => False) :
    codeAny (model P w) callerA (.call (.ref fa) ⟨[.ref a], []⟩) (fun r s' => r = .ok (.ret (.bool true)) ∧ OldK s1.heap s'.heap ∧ s'.os = s1.os ∧ AllBare s'.gens) s1 := by
  have rv := vals_ints hi
  cases hk : K.lookup a with
  | some o =>
    have e := KX a o hk
    rw [ha] at e
    cases e
    have hO : Only (fun _ => none) := fun _ => Or.inl rfl
    refine law_core (H := fun _ => none) KX hns hb hbb hlim hg ⟨_, ha⟩ hr F hbind hO (hsp _ hO (Or.inr ⟨_, vs.toArray, _, hk, rfl, rfl, rfl, ?_, by simpa using rv⟩)) (fun b u z => nomatch (show (none : Option HO) = some u from z)) (fun b z => absurd rfl z) fun z => absurd rfl z
    rw [List.size_toArray, hi.length]
    exact hl
  | none =>
    let ob : Obj := { cls := .type "list", data := .seq vs.toArray }
    let H : Hp := fun b => if b = a then some (.frz ob (.lst (ns.map V.int))) else none
    have at_a : H a = some (.frz ob (.lst (ns.map V.int))) := if_pos rfl
    have off : ∀ {b}, b ≠ a → H b = none := fun q => if_neg q
    have hO : Only H := fun b => by
      by_cases q : b = a
      · exact Or.inr ⟨ob, _, by rw [q]; exact at_a⟩
      · exact Or.inl (off q)
    refine law_core (H := H) KX hns hb hbb hlim hg ⟨_, ha⟩ hr F hbind hO (hsp H hO (Or.inl (Or.inr ⟨ob, at_a⟩))) (fun b u z => ?_) (fun b z => ?_) fun _ => hk
    · by_cases q : b = a
      · subst q
        rw [at_a] at z
        cases z
        exact ⟨ha, by rw [List.length_map]; exact hl, vs, _, rv, ha⟩
      · rw [off q] at z; cases z
    · by_cases q : b = a
      · exact q
      · exact absurd (off q) z
end

theorem walk_ofG {l : PySem.W.OpenLaw} {n k : Nat} {q : Program} {loose : List Str} {XP : (Str → Option Value) → Heap → Prop} {YP : World → Heap → Prop} {d : DefRec} {K : Params → PySem.W.Frag} {sp : World → Sp} {x : Str} (hn : l.most = some n) (hn2 : n ≤ sizeLine)
    (hdf : d.params.defaults = []) (hr : Room k callerA) (hY : ∀ (w : World) (h : Heap), YP w h → (K w.params).In h)
    (F : ∀ (w : World) (mg : Str → Option Value) (fa : Addr) (h : Heap), (K w.params).In h → h.Ns mainGlobals mg → mg d.name = some (.ref fa) →
      ∃ fd : FuncData, (∀ (s : Shared) (u : Value), BindsTo s fd ⟨[u], []⟩ [(x, u)]) ∧ ∀ base : Heap, (K w.params).In base → base.Ns mainGlobals mg → GnOk l.prog w (K w.params) mg base k fa fd [x] (sp w))
    (hsp : ∀ (w : World) (H : Hp) (a : Addr) (ns : List Int), ns.length ≤ n → (∀ z ∈ ns, Builtin.Int.intBits z ≤ 1048576) → Only H → SqL (K w.params) H a (ns.map V.int) → sp w [.ref a] H (fun v _ => v = .bl true) fun _ _ _ => False) :
    PySem.W.WalkO q loose XP YP l.row.toRowW d [] (fun f vs => PySem.call f vs) :=
  Att.attach_callB hn hdf fun w s0 s1 mg mb fa o pm cd doc a vs ns G Y ho hd hcd hmg hobj hints hlen hbits hg => by
    obtain ⟨fd, hb, hF⟩ := F w mg fa _ (hY w _ Y) G.T.g hmg
    exact law_callG (hY w _ Y) G.T.g G.T.b G.T.builtins G.T.nolimit hg hobj hints (Nat.le_trans hlen hn2) hr hF hb fun H hO hS => hsp w H a ns hlen hbits hO hS
end FK
set_option maxHeartbeats 4000000
/-! FK6: data trees over the abstract heap, typed environments, the judgements -/
namespace FK
open PySem L2

/-- data; val: a value taken as it is -/
inductive T where
  | non | bl (b : Bool) | int (i : Int) | str (x : Str)
  | lst (ts : List T) | tup (ts : List T)
  | dic (kvs : List (Str × T)) | ndc (kvs : List (Leaf × T)) | pdc (kvs : List (List Leaf × T))
  | obj (C : Addr) (fs : List (Str × T)) | val (v : V) | opq (a : Addr) (φ : Hp → Prop)

mutual
/-- the value v is the tree t in H -/
inductive Is (P : Program) (w : World) (H : Hp) : V → T → Prop
  | non : Is P w H .non .non
  | bl (b : Bool) : Is P w H (.bl b) (.bl b)
  | int (i : Int) : Is P w H (.int i) (.int i)
  | str (x : Str) : Is P w H (.str x) (.str x)
  | lst {a : Addr} {vs : List V} {ts : List T} : H a = some (.lst vs) → IsAll P w H vs ts → Is P w H (.ref a) (.lst ts)
  | tup {a : Addr} {vs : List V} {ts : List T} : H a = some (.tup vs) → IsAll P w H vs ts → Is P w H (.ref a) (.tup ts)
  | dic {a : Addr} {ps : List (Key × V)} {kvs : List (Str × T)} : H a = some (.dK ps) → ps.map (·.1) = kvs.map (fun p => Sum.inr p.1) → IsAll P w H (ps.map (·.2)) (kvs.map (·.2)) → Is P w H (.ref a) (.dic kvs)
  | ndc {a : Addr} {ps : List (Leaf × V)} {kvs : List (Leaf × T)} : H a = some (NOb P w a ps) → ps.map (·.1) = kvs.map (·.1) → IsAll P w H (ps.map (·.2)) (kvs.map (·.2)) → Is P w H (.ref a) (.ndc kvs)
  | pdc {a : Addr} {ps : List (List Leaf × V)} {kvs : List (List Leaf × T)} : PTab P w H a ps → ps.map (·.1) = kvs.map (·.1) → IsAll P w H (ps.map (·.2)) (kvs.map (·.2)) → Is P w H (.ref a) (.pdc kvs)
  | obj {a C dx : Addr} {fs : List (Str × V)} {ts : List (Str × T)} : H a = some (.ins C dx fs) → fs.map (·.1) = ts.map (·.1) → IsAll P w H (fs.map (·.2)) (ts.map (·.2)) → Is P w H (.ref a) (.obj C ts)
  | val (v : V) : Is P w H v (.val v)
  | opq {a : Addr} {φ : Hp → Prop} : φ H → (∀ H1 H2, Same H1 H2 → φ H1 → φ H2) → Is P w H (.ref a) (.opq a φ)
inductive IsAll (P : Program) (w : World) (H : Hp) : List V → List T → Prop
  | nil : IsAll P w H [] []
  | cons {v : V} {vs : List V} {t : T} {ts : List T} : Is P w H v t → IsAll P w H vs ts → IsAll P w H (v :: vs) (t :: ts)
end

section
variable {P : Program} {w : World} {H H' : Hp}
theorem PTab.mono (e : Same H H') {a : Addr} {kvs : List (List Leaf × V)} (h : PTab P w H a kvs) : PTab P w H' a kvs := by
  obtain ⟨xs, h1, h2, h3⟩ := h
  exact ⟨xs, h1, e _ _ h2, fun x hx => e _ _ (h3 x hx)⟩
mutual
theorem Is.mono (e : Same H H') : ∀ {v : V} {t : T}, Is P w H v t → Is P w H' v t
  | _, _, .non => .non
  | _, _, .bl b => .bl b
  | _, _, .int i => .int i
  | _, _, .str x => .str x
  | _, _, .lst h1 h2 => .lst (e _ _ h1) (IsAll.mono e h2)
  | _, _, .tup h1 h2 => .tup (e _ _ h1) (IsAll.mono e h2)
  | _, _, .dic h1 h2 h3 => .dic (e _ _ h1) h2 (IsAll.mono e h3)
  | _, _, .ndc h1 h2 h3 => .ndc (e _ _ h1) h2 (IsAll.mono e h3)
  | _, _, .pdc h1 h2 h3 => .pdc (h1.mono e) h2 (IsAll.mono e h3)
  | _, _, .obj h1 h2 h3 => .obj (e _ _ h1) h2 (IsAll.mono e h3)
  | _, _, .val v => .val v
  | _, _, .opq h1 h2 => .opq (h2 _ _ e h1) h2
theorem IsAll.mono (e : Same H H') : ∀ {vs : List V} {ts : List T}, IsAll P w H vs ts → IsAll P w H' vs ts
  | _, _, .nil => .nil
  | _, _, .cons h1 h2 => .cons (Is.mono e h1) (IsAll.mono e h2)
end
theorem IsAll.length : ∀ {vs : List V} {ts : List T}, IsAll P w H vs ts → vs.length = ts.length
  | _, _, .nil => rfl
  | _, _, .cons _ h => by rw [List.length_cons, List.length_cons, IsAll.length h]
theorem IsAll.get : ∀ {vs : List V} {ts : List T} {i : Nat} {t : T}, IsAll P w H vs ts → ts[i]? = some t → ∃ v, vs[i]? = some v ∧ Is P w H v t
  | _, _, _, _, .nil, e => by simp at e
  | _, _, 0, _, .cons h _, e => by simp at e; subst e; exact ⟨_, rfl, h⟩
  | _, _, i + 1, t, .cons _ h, e => by
    obtain ⟨v, h1, h2⟩ := IsAll.get (i := i) (t := t) h (by simpa using e)
    exact ⟨v, by simpa using h1, h2⟩
theorem IsAll.getv : ∀ {vs : List V} {ts : List T} {i : Nat} {v : V}, IsAll P w H vs ts → vs[i]? = some v → ∃ t, ts[i]? = some t ∧ Is P w H v t
  | _, _, _, _, .nil, e => by simp at e
  | _, _, 0, _, .cons h _, e => by simp at e; subst e; exact ⟨_, rfl, h⟩
  | _, _, i + 1, v, .cons _ h, e => by
    obtain ⟨t, h1, h2⟩ := IsAll.getv (i := i) (v := v) h (by simpa using e)
    exact ⟨t, by simpa using h1, h2⟩
theorem IsAll.append : ∀ {vs us : List V} {ts ss : List T}, IsAll P w H vs ts → IsAll P w H us ss → IsAll P w H (vs ++ us) (ts ++ ss)
  | _, _, _, _, .nil, h => h
  | _, _, _, _, .cons a b, h => .cons a (IsAll.append b h)
theorem IsAll.drop : ∀ {vs : List V} {ts : List T} (n : Nat), IsAll P w H vs ts → IsAll P w H (vs.drop n) (ts.drop n)
  | _, _, 0, h => h
  | _, _, _ + 1, .nil => .nil
  | _, _, n + 1, .cons _ h => IsAll.drop n h
theorem IsAll.take : ∀ {vs : List V} {ts : List T} (n : Nat), IsAll P w H vs ts → IsAll P w H (vs.take n) (ts.take n)
  | _, _, 0, _ => .nil
  | _, _, _ + 1, .nil => .nil
  | _, _, n + 1, .cons a h => .cons a (IsAll.take n h)
theorem IsAll.reverse {vs : List V} {ts : List T} (h : IsAll P w H vs ts) : IsAll P w H vs.reverse ts.reverse := by
  induction vs generalizing ts with
  | nil => cases h; exact .nil
  | cons v vs ih =>
    cases h with
    | cons a b =>
      rw [List.reverse_cons, List.reverse_cons]
      exact (ih b).append (.cons a .nil)
theorem IsAll.set : ∀ {vs : List V} {ts : List T} {v : V} {t : T} (i : Nat), IsAll P w H vs ts → Is P w H v t → IsAll P w H (vs.set i v) (ts.set i t)
  | _, _, _, _, _, .nil, _ => .nil
  | _, _, _, _, 0, .cons _ h, q => .cons q h
  | _, _, _, _, i + 1, .cons a h, q => .cons a (IsAll.set i h q)
theorem IsAll.eraseIdx : ∀ {vs : List V} {ts : List T} (i : Nat), IsAll P w H vs ts → IsAll P w H (vs.eraseIdx i) (ts.eraseIdx i)
  | _, _, _, .nil => .nil
  | _, _, 0, .cons _ h => h
  | _, _, i + 1, .cons a h => .cons a (IsAll.eraseIdx i h)
theorem IsAll.dropLast {vs : List V} {ts : List T} (h : IsAll P w H vs ts) : IsAll P w H vs.dropLast ts.dropLast := by
  rw [List.dropLast_eq_take, List.dropLast_eq_take, h.length]
  exact h.take _

/-! ### look-ups by key -/
def look {κ : Type} [DecidableEq κ] (kvs : List (κ × T)) (k : κ) : Option T := (kvs.find? fun kv => decide (kv.1 = k)).map (·.2)
def put {κ : Type} [DecidableEq κ] (kvs : List (κ × T)) (k : κ) (t : T) : List (κ × T) :=
  if (kvs.any fun kv => decide (kv.1 = k)) then kvs.map (fun kv => if kv.1 = k then (kv.1, t) else kv) else kvs ++ [(k, t)]
section
variable {κ : Type} [DecidableEq κ]
theorem look_rel : ∀ {ps : List (κ × V)} {kvs : List (κ × T)} (k : κ), ps.map (·.1) = kvs.map (·.1) → IsAll P w H (ps.map (·.2)) (kvs.map (·.2)) →
    (∃ v t, valV ps k = some v ∧ look kvs k = some t ∧ Is P w H v t) ∨ (valV ps k = none ∧ look kvs k = none)
  | [], [], k, _, _ => .inr ⟨rfl, rfl⟩
  | [], _ :: _, _, e, _ => by simp at e
  | _ :: _, [], _, e, _ => by simp at e
  | p :: ps, q :: kvs, k, e, h => by
    simp only [List.map_cons] at e h
    injection e with e1 e2
    cases h with
    | cons a b =>
      by_cases z : p.1 = k
      · refine .inl ⟨p.2, q.2, valV_pos z, ?_, a⟩
        simp [look, List.find?_cons, ← e1, z]
      · have z' : ¬ q.1 = k := e1 ▸ z
        have l1 : valV (p :: ps) k = valV ps k := valV_neg z
        have l2 : look (q :: kvs) k = look kvs k := by simp [look, List.find?_cons, z']
        rw [l1, l2]
        exact look_rel k e2 b
theorem any_keys {α β : Type} (k : κ) : ∀ {ps : List (κ × α)} {kvs : List (κ × β)}, ps.map (·.1) = kvs.map (·.1) → (ps.any fun kv => decide (kv.1 = k)) = kvs.any fun kv => decide (kv.1 = k)
  | [], [], _ => rfl
  | [], _ :: _, e => by simp at e
  | _ :: _, [], e => by simp at e
  | p :: ps, q :: kvs, e => by
    simp only [List.map_cons] at e
    injection e with e1 e2
    rw [List.any_cons, List.any_cons, any_keys k e2, e1]
theorem put_rel {ps : List (κ × V)} {kvs : List (κ × T)} (k : κ) {v : V} {t : T} (e : ps.map (·.1) = kvs.map (·.1)) (h : IsAll P w H (ps.map (·.2)) (kvs.map (·.2))) (q : Is P w H v t) :
    (putK ps k v).map (·.1) = (put kvs k t).map (·.1) ∧ IsAll P w H ((putK ps k v).map (·.2)) ((put kvs k t).map (·.2)) := by
  unfold putK put
  rw [any_keys k e]
  by_cases z : (kvs.any fun kv => decide (kv.1 = k)) = true
  · rw [if_pos z, if_pos z]
    clear z
    induction ps generalizing kvs with
    | nil =>
      cases kvs with
      | nil => exact ⟨rfl, .nil⟩
      | cons a b => simp at e
    | cons p ps ih =>
      cases kvs with
      | nil => simp at e
      | cons r kvs =>
        simp only [List.map_cons] at e h ⊢
        injection e with e1 e2
        cases h with
        | cons a b =>
          obtain ⟨i1, i2⟩ := ih e2 b
          by_cases y : p.1 = k
          · have y' : r.1 = k := e1 ▸ y
            rw [if_pos y, if_pos y']
            exact ⟨by rw [i1, e1], .cons q i2⟩
          · have y' : ¬ r.1 = k := e1 ▸ y
            rw [if_neg y, if_neg y']
            exact ⟨by rw [i1, e1], .cons a i2⟩
  · rw [if_neg z, if_neg z]
    simp only [List.map_append, List.map_cons, List.map_nil]
    exact ⟨by rw [e], h.append (.cons q .nil)⟩
theorem put_length_le (kvs : List (κ × T)) (k : κ) (t : T) : (put kvs k t).length ≤ kvs.length + 1 := by
  unfold put
  split <;> simp
theorem look_put (kvs : List (κ × T)) (k j : κ) (t : T) : look (put kvs k t) j = if j = k then some t else look kvs j := by
  unfold put
  by_cases z : (kvs.any fun kv => decide (kv.1 = k)) = true
  · rw [if_pos z]
    induction kvs with
    | nil => simp at z
    | cons p r ih =>
      rw [List.map_cons]
      by_cases y : p.1 = k
      · rw [if_pos y]
        by_cases x : j = k
        · subst x; simp [look, List.find?_cons, y]
        · have x' : ¬ p.1 = j := fun q => x (q.symm.trans y)
          have : look ((p.1, t) :: r.map fun kv => if kv.1 = k then (kv.1, t) else kv) j = look (r.map fun kv => if kv.1 = k then (kv.1, t) else kv) j := by simp [look, List.find?_cons, x']
          rw [this, if_neg x]
          have l2 : look (p :: r) j = look r j := by simp [look, List.find?_cons, x']
          rw [l2]
          by_cases zz : (r.any fun kv => decide (kv.1 = k)) = true
          · rw [ih zz, if_neg x]
          · have same : (r.map fun kv => if kv.1 = k then (kv.1, t) else kv) = r := by
              have : ∀ kv ∈ r, (if kv.1 = k then (kv.1, t) else kv) = kv := fun kv hkv => by
                have : ¬ kv.1 = k := fun q => zz (List.any_eq_true.mpr ⟨kv, hkv, decide_eq_true q⟩)
                rw [if_neg this]
              rw [List.map_congr_left this, List.map_id']
            rw [same]
      · rw [if_neg y]
        have zz : (r.any fun kv => decide (kv.1 = k)) = true := by
          rw [List.any_cons] at z
          simpa [y] using z
        by_cases x : p.1 = j
        · have xk : ¬ j = k := fun q => y (x.trans q)
          rw [if_neg xk]
          simp [look, List.find?_cons, x]
        · have l1 : ∀ s, look (p :: s) j = look s j := fun s => by simp [look, List.find?_cons, x]
          rw [l1, l1]
          exact ih zz
  · rw [if_neg z]
    have no : ∀ kv ∈ kvs, ¬ kv.1 = k := fun kv hkv q => z (List.any_eq_true.mpr ⟨kv, hkv, decide_eq_true q⟩)
    clear z
    induction kvs with
    | nil =>
      by_cases x : j = k
      · subst x; simp [look]
      · have x' : ¬ k = j := fun q => x q.symm
        simp [look, x, x']
    | cons p r ih =>
      rw [List.cons_append]
      by_cases x : p.1 = j
      · have xk : ¬ j = k := fun q => no p List.mem_cons_self (x.trans q)
        rw [if_neg xk]
        simp [look, List.find?_cons, x]
      · have l1 : ∀ s, look (p :: s) j = look s j := fun s => by simp [look, List.find?_cons, x]
        rw [l1, l1]
        exact ih fun kv hkv => no kv (List.mem_cons_of_mem _ hkv)
end
theorem inr_keys {ps : List (Key × V)} {kvs : List (Str × T)} (h : ps.map (·.1) = kvs.map (fun p => Sum.inr p.1)) : ps.map (·.1) = (kvs.map fun p => ((Sum.inr p.1 : Key), p.2)).map (·.1) := by
  rw [h, List.map_map]
  rfl
theorem inr_vals (kvs : List (Str × T)) : (kvs.map fun p => ((Sum.inr p.1 : Key), p.2)).map (·.2) = kvs.map (·.2) := by
  rw [List.map_map]
  rfl
theorem look_inr (kvs : List (Str × T)) (k : Str) : look (kvs.map fun p => ((Sum.inr p.1 : Key), p.2)) (Sum.inr k) = look kvs k := by
  induction kvs with
  | nil => rfl
  | cons p r ih =>
    rw [List.map_cons]
    by_cases z : p.1 = k
    · have z' : (Sum.inr p.1 : Key) = Sum.inr k := by rw [z]
      simp [look, List.find?_cons, z]
    · have z' : ¬ (Sum.inr p.1 : Key) = Sum.inr k := fun q => z (Sum.inr.inj q)
      have l1 : look (((Sum.inr p.1 : Key), p.2) :: r.map fun p => ((Sum.inr p.1 : Key), p.2)) (Sum.inr k) = look (r.map fun p => ((Sum.inr p.1 : Key), p.2)) (Sum.inr k) := by simp [look, List.find?_cons, z]
      have l2 : look (p :: r) k = look r k := by simp [look, List.find?_cons, z]
      rw [l1, l2, ih]
theorem put_inr (kvs : List (Str × T)) (k : Str) (t : T) : put (kvs.map fun p => ((Sum.inr p.1 : Key), p.2)) (Sum.inr k) t = (put kvs k t).map fun p => ((Sum.inr p.1 : Key), p.2) := by
  unfold put
  have e : ((kvs.map fun p => ((Sum.inr p.1 : Key), p.2)).any fun kv => decide (kv.1 = Sum.inr k)) = kvs.any fun kv => decide (kv.1 = k) := by
    rw [List.any_map]
    congr 1
    funext p
    show decide ((Sum.inr p.1 : Key) = Sum.inr k) = decide (p.1 = k)
    by_cases z : p.1 = k
    · rw [z]; simp
    · have z' : ¬ (Sum.inr p.1 : Key) = Sum.inr k := fun q => z (Sum.inr.inj q)
      rw [decide_eq_false z, decide_eq_false z']
  rw [e]
  split
  · rw [List.map_map, List.map_map]
    refine List.map_congr_left fun p _ => ?_
    by_cases z : p.1 = k
    · simp [z]
    · simp [z]
  · rw [List.map_append]; rfl
end
end FK
set_option maxHeartbeats 4000000
/-! FK7: environments (slots with trees; owned objects by their addresses) and judgements -/
namespace FK
open PySem L2

/-- what is owned: changed in place by the code that runs, seen by nobody else -/
inductive O where
  | lst (ts : List T) | dic (kvs : List (Str × T)) | ndc (kvs : List (Leaf × T)) | pdc (kvs : List (List Leaf × T)) | ins (C : Addr) (fs : List (Str × T))
  | dicL (od : Obj) (ps : List (Key × V)) (kvs : List (Str × T)) | ndcL (od : Obj) (ps : List (Leaf × V)) (kvs : List (Leaf × T))
/-- read alone while it is walked -/
def O.lk : O → Bool
  | .dicL _ _ _ => true
  | .ndcL _ _ _ => true
  | _ => false
/-- an owned object; l: lent from the caller -/
structure Gh where
  l : Bool
  a : Addr
  o : O
structure Ev where
  s : List (Option T)
  g : List Gh
def Ev.set (Γ : Ev) (i : Nat) (t : T) : Ev := ⟨Γ.s.set i (some t), Γ.g⟩
def Ev.push (Γ : Ev) (x : Gh) : Ev := ⟨Γ.s, Γ.g ++ [x]⟩
def Ev.own (Γ : Ev) (j : Nat) (x : Gh) : Ev := ⟨Γ.s, Γ.g.set j x⟩
def Ev.era (Γ : Ev) (j : Nat) : Ev := ⟨Γ.s, Γ.g.eraseIdx j⟩
/-- at the entry: the heap He, the part Hb that the arguments stand on, what is lent -/
structure Wd where
  He : Hp
  Hb : Hp
  L : List (Bool × Addr)
def Wd.ads (W : Wd) : List Addr := W.L.map (·.2)
/-- the owned object at a: outside of the part G that all else stands on -/
def Own (P : Program) (w : World) (G H1 : Hp) (a : Addr) : O → Prop
  | .lst ts => ∃ vs, H1 a = some (.lst vs) ∧ IsAll P w G vs ts
  | .dic kvs => ∃ ps, H1 a = some (.dK ps) ∧ ps.map (·.1) = kvs.map (fun p => Sum.inr p.1) ∧ IsAll P w G (ps.map (·.2)) (kvs.map (·.2))
  | .ndc kvs => ∃ ps, H1 a = some (NOb P w a ps) ∧ ps.map (·.1) = kvs.map (·.1) ∧ IsAll P w G (ps.map (·.2)) (kvs.map (·.2))
  | .pdc kvs => ∃ xs, H1 a = some (POb P w a xs) ∧ (∀ x ∈ xs, G x.2.1 = some (.tup (x.1.map lV))) ∧ xs.map (·.1) = kvs.map (·.1) ∧ IsAll P w G (xs.map (·.2.2)) (kvs.map (·.2))
  | .ins C fs => ∃ dx fv, H1 a = some (.ins C dx fv) ∧ fv.map (·.1) = fs.map (·.1) ∧ IsAll P w G (fv.map (·.2)) (fs.map (·.2))
  | .dicL od ps kvs => H1 a = some (.frz od (.dK ps)) ∧ ps.map (·.1) = kvs.map (fun p => Sum.inr p.1) ∧ IsAll P w G (ps.map (·.2)) (kvs.map (·.2))
  | .ndcL od ps kvs => H1 a = some (.frz od (NOb P w a ps)) ∧ ps.map (·.1) = kvs.map (·.1) ∧ IsAll P w G (ps.map (·.2)) (kvs.map (·.2))
theorem Own.at {P : Program} {w : World} {G G' H1 H2 : Hp} {a : Addr} {o : O} (h : Own P w G H1 a o) (e : Same G G') (k : ∀ u, H1 a = some u → H2 a = some u) : Own P w G' H2 a o := by
  cases o with
  | lst ts => obtain ⟨vs, h1, h2⟩ := h; exact ⟨vs, k _ h1, h2.mono e⟩
  | dic kvs => obtain ⟨ps, h1, h2, h3⟩ := h; exact ⟨ps, k _ h1, h2, h3.mono e⟩
  | ndc kvs => obtain ⟨ps, h1, h2, h3⟩ := h; exact ⟨ps, k _ h1, h2, h3.mono e⟩
  | pdc kvs => obtain ⟨xs, h1, h0, h2, h3⟩ := h; exact ⟨xs, k _ h1, fun x hx => e _ _ (h0 x hx), h2, h3.mono e⟩
  | ins C fs => obtain ⟨dx, fv, h1, h2, h3⟩ := h; exact ⟨dx, fv, k _ h1, h2, h3.mono e⟩
  | dicL od ps kvs => obtain ⟨h1, h2, h3⟩ := h; exact ⟨k _ h1, h2, h3.mono e⟩
  | ndcL od ps kvs => obtain ⟨h1, h2, h3⟩ := h; exact ⟨k _ h1, h2, h3.mono e⟩
theorem Own.there {P : Program} {w : World} {G H1 : Hp} {a : Addr} {o : O} (h : Own P w G H1 a o) : ∃ u, H1 a = some u := by
  cases o with
  | lst ts => obtain ⟨vs, h1, h2⟩ := h; exact ⟨_, h1⟩
  | dic kvs => obtain ⟨ps, h1, h2, h3⟩ := h; exact ⟨_, h1⟩
  | ndc kvs => obtain ⟨ps, h1, h2, h3⟩ := h; exact ⟨_, h1⟩
  | pdc kvs => obtain ⟨ps, h1, h2, h3⟩ := h; exact ⟨_, h1⟩
  | ins C fs => obtain ⟨dx, fv, h1, h2, h3⟩ := h; exact ⟨_, h1⟩
  | dicL od ps kvs => obtain ⟨h1, h2, h3⟩ := h; exact ⟨_, h1⟩
  | ndcL od ps kvs => obtain ⟨h1, h2, h3⟩ := h; exact ⟨_, h1⟩

structure Tenv (P : Program) (w : World) (W : Wd) (σ : L2.St) (G H : Hp) (Γ : Ev) : Prop where
  len : σ.length = Γ.s.length
  base : Same G H
  hb : Same W.Hb G
  up : ∀ b o, W.He b = some o → b ∉ W.ads → H b = some o
  lent : ∀ b ∈ W.ads, ∃ o, H b = some o
  new : ∀ b o, G b = some o → W.Hb b = some o ∨ W.He b = none ∨ (false, b) ∈ W.L
  sh : ∀ (i : Nat) (t : T), Γ.s[i]? = some (some t) → ∃ v, σ[i]? = some (some v) ∧ Is P w G v t
  gh : ∀ x ∈ Γ.g, G x.a = none ∧ Own P w G H x.a x.o ∧ ((x.l, x.a) ∈ W.L ∨ (x.l = false ∧ W.He x.a = none))
  sep : (Γ.g.map (·.a)).Nodup

/-- a step that makes new objects alone: from G, H to G', H' -/
structure Grw (G H G' H' : Hp) : Prop where
  gg : Same G G'
  gh : Same G' H'
  hh : Same H H'
  new : ∀ b o, G' b = some o → G b = some o ∨ H b = none
theorem Grw.refl {G H : Hp} (e : Same G H) : Grw G H G H := ⟨Same.refl _, e, Same.refl _, fun _ _ h => .inl h⟩
theorem Grw.trans {G H G1 H1 G2 H2 : Hp} (a : Grw G H G1 H1) (b : Grw G1 H1 G2 H2) : Grw G H G2 H2 :=
  ⟨a.gg.trans b.gg, b.gh, a.hh.trans b.hh, fun c o h => by
    rcases b.new c o h with q | q
    · exact a.new c o q
    · refine .inr ?_
      exact a.hh.free q⟩
theorem same_new {H : Hp} {p : Addr} {o : HO} (h : H p = none) : Same H (upd H p o) := fun b u e => by
  rw [upd_ne (ne_of_none e h)]
  exact e
theorem same_both {G H : Hp} {p : Addr} {o : HO} (e : Same G H) : Same (upd G p o) (upd H p o) := fun b u q => by
  by_cases z : b = p
  · subst z; rw [upd_same] at q ⊢; exact q
  · rw [upd_ne z] at q ⊢; exact e _ _ q
theorem Grw.alloc {G H : Hp} {p : Addr} {o : HO} (e : Same G H) (h : H p = none) : Grw G H (upd G p o) (upd H p o) :=
  ⟨same_new (e.free h), same_both e, same_new h, fun b u q => by
    by_cases z : b = p
    · subst z; exact .inr h
    · rw [upd_ne z] at q; exact .inl q⟩
/-- a new object that stays outside of G -/
theorem Grw.side {G H : Hp} {p : Addr} {o : HO} (e : Same G H) (h : H p = none) : Grw G H G (upd H p o) :=
  ⟨Same.refl _, e.trans (same_new h), same_new h, fun b u q => .inl q⟩

/-- unlike places hold unlike addresses -/
theorem nd_ne {g : List Gh} (h : (g.map (·.a)).Nodup) {i j : Nat} {x y : Gh} (hi : g[i]? = some x) (hj : g[j]? = some y) (n : i ≠ j) : x.a ≠ y.a := by
  induction g generalizing i j with
  | nil => simp at hi
  | cons z g ih =>
    rw [List.map_cons, List.nodup_cons] at h
    have mem : ∀ {k : Nat} {u : Gh}, g[k]? = some u → u.a ∈ g.map (·.a) := fun {k u} e => List.mem_map_of_mem (f := (·.a)) (List.mem_of_getElem? e)
    cases i with
    | zero =>
      cases j with
      | zero => exact absurd rfl n
      | succ j =>
        simp at hi hj
        subst hi
        intro e
        exact h.1 (e ▸ mem hj)
    | succ i =>
      cases j with
      | zero =>
        simp at hi hj
        subst hj
        intro e
        exact h.1 (e ▸ mem hi)
      | succ j => exact ih h.2 (by simpa using hi) (by simpa using hj) (fun e => n (by rw [e]))

section
variable {P : Program} {w : World} {W : Wd} {σ : L2.St} {G H G' H' : Hp} {Γ : Ev}
theorem Tenv.noHe (E : Tenv P w W σ G H Γ) {b : Addr} (h : H b = none) : W.He b = none := by
  cases q : W.He b with
  | none => rfl
  | some o =>
    by_cases z : b ∈ W.ads
    · obtain ⟨u, hu⟩ := E.lent b z
      rw [h] at hu; cases hu
    · rw [E.up b o q z] at h; cases h
theorem Tenv.grow (E : Tenv P w W σ G H Γ) (g : Grw G H G' H') : Tenv P w W σ G' H' Γ where
  len := E.len
  base := g.gh
  hb := E.hb.trans g.gg
  up := fun b o q z => g.hh _ _ (E.up b o q z)
  lent := fun b z => let ⟨o, q⟩ := E.lent b z; ⟨o, g.hh _ _ q⟩
  new := fun b o q => by
    rcases g.new b o q with z | z
    · exact E.new b o z
    · exact .inr (.inl (E.noHe z))
  sh := fun i t q => let ⟨v, h1, h2⟩ := E.sh i t q; ⟨v, h1, h2.mono g.gg⟩
  gh := fun x hx => by
    obtain ⟨h2, h3, h4⟩ := E.gh x hx
    refine ⟨?_, h3.at g.gg fun u e => g.hh _ _ e, h4⟩
    obtain ⟨u, hu⟩ := h3.there
    cases z : G' x.a with
    | none => rfl
    | some y =>
      rcases g.new x.a y z with q | q
      · rw [h2] at q; cases q
      · rw [hu] at q; cases q
  sep := E.sep
/-- a name is given a tree -/
theorem Tenv.setSh (E : Tenv P w W σ G H Γ) {i : Nat} {v : V} {t : T} (h : Is P w G v t) : Tenv P w W (σ.set i (some v)) G H (Γ.set i t) where
  len := by show _ = (Γ.s.set i (some t)).length; rw [List.length_set, List.length_set, E.len]
  base := E.base
  hb := E.hb
  up := E.up
  lent := E.lent
  new := E.new
  sh := fun j u q => by
    have q : (Γ.s.set i (some t))[j]? = some (some u) := q
    by_cases z : i = j
    · subst z
      have hi : i < Γ.s.length := by
        have := (List.getElem?_eq_some_iff.mp q).1
        rwa [List.length_set] at this
      rw [List.getElem?_set_self hi] at q
      cases q
      exact ⟨v, by rw [List.getElem?_set_self (by rw [E.len]; exact hi)], h⟩
    · rw [List.getElem?_set_ne z] at q ⊢
      exact E.sh j u q
  gh := E.gh
  sep := E.sep
/-- a new owned object -/
theorem Tenv.pushG (E : Tenv P w W σ G H Γ) {a : Addr} {o : O} (hG : G a = none) (ho : Own P w G H a o) (he : W.He a = none) (hn : a ∉ Γ.g.map (·.a)) : Tenv P w W σ G H (Γ.push ⟨false, a, o⟩) where
  len := E.len
  base := E.base
  hb := E.hb
  up := E.up
  lent := E.lent
  new := E.new
  sh := E.sh
  gh := fun x hx => by
    rcases List.mem_append.mp (show x ∈ Γ.g ++ [⟨false, a, o⟩] from hx) with hx | hx
    · exact E.gh x hx
    · rw [List.mem_singleton.mp hx]
      exact ⟨hG, ho, .inr ⟨rfl, he⟩⟩
  sep := by
    show ((Γ.g ++ [(⟨false, a, o⟩ : Gh)]).map (·.a)).Nodup
    rw [List.map_append, List.nodup_append]
    refine ⟨E.sep, by simp, fun x hx y hy => ?_⟩
    have : y = a := by simpa using hy
    subst this
    intro e
    exact hn (e ▸ hx)
/-- a fresh address is nobody's -/
theorem Tenv.fresh (E : Tenv P w W σ G H Γ) {p : Addr} (h : H p = none) : G p = none ∧ W.He p = none ∧ p ∉ Γ.g.map (·.a) := by
    refine ⟨E.base.free h, E.noHe h, fun z => ?_⟩
    obtain ⟨x, hx, e⟩ := List.mem_map.mp z
    obtain ⟨_, h3, _⟩ := E.gh x hx
    obtain ⟨u, hu⟩ := h3.there
    rw [e, h] at hu; cases hu
theorem Tenv.pushNew (E : Tenv P w W σ G H Γ) {p : Addr} {u : HO} {o : O} (h : H p = none) (ho : Own P w G (upd H p u) p o) : Tenv P w W σ G (upd H p u) (Γ.push ⟨false, p, o⟩) := by
  obtain ⟨f1, f2, f3⟩ := E.fresh h
  exact (E.grow (Grw.side E.base h)).pushG f1 ho f2 f3
/-- an owned object is changed -/
theorem Tenv.mut (E : Tenv P w W σ G H Γ) {j : Nat} {l : Bool} {a : Addr} {o o' : O} {u : HO} (hj : Γ.g[j]? = some ⟨l, a, o⟩) (ho : Own P w G (upd H a u) a o') : Tenv P w W σ G (upd H a u) (Γ.own j ⟨l, a, o'⟩) := by
  obtain ⟨hG, h3, h4⟩ := E.gh _ (List.mem_of_getElem? hj)
  have hil : j < Γ.g.length := (List.getElem?_eq_some_iff.mp hj).1
  refine ⟨E.len, fun b x q => ?_, E.hb, fun b x q z => ?_, fun b z => ?_, E.new, E.sh, fun x hx => ?_, ?_⟩
  · rw [upd_ne (fun e => by rw [e] at q; rw [show G a = none from hG] at q; cases q)]
    exact E.base _ _ q
  · have hba : b ≠ a := by
      rintro rfl
      rcases h4 with y | y
      · exact z (List.mem_map_of_mem (f := (·.2)) y)
      · have y2 : W.He b = none := y.2
        rw [q] at y2; cases y2
    rw [upd_ne hba]
    exact E.up b x q z
  · by_cases y : b = a
    · subst y; exact ⟨_, upd_same⟩
    · rw [upd_ne y]; exact E.lent b z
  · obtain ⟨k, hk⟩ := List.mem_iff_getElem?.mp (show x ∈ Γ.g.set j ⟨l, a, o'⟩ from hx)
    by_cases z : j = k
    · subst z
      rw [List.getElem?_set_self hil] at hk
      cases hk
      exact ⟨hG, ho, h4⟩
    · rw [List.getElem?_set_ne z] at hk
      obtain ⟨f2, f3, f4⟩ := E.gh x (List.mem_of_getElem? hk)
      refine ⟨f2, f3.at (Same.refl _) fun u' e => ?_, f4⟩
      rw [upd_ne (fun e => nd_ne E.sep hj hk z e.symm)]
      exact e
  · show ((Γ.g.set j ⟨l, a, o'⟩).map (·.a)).Nodup
    have e : (Γ.g.set j ⟨l, a, o'⟩).map (·.a) = Γ.g.map (·.a) := by
      rw [List.map_set]
      refine List.ext_getElem? fun k => ?_
      by_cases z : j = k
      · subst z
        rw [List.getElem?_set_self (by rw [List.length_map]; exact hil), List.getElem?_map, hj]
        rfl
      · rw [List.getElem?_set_ne z]
    rw [e]
    exact E.sep
/-- the owned objects are lent to a call that changes them -/
def Owns (P : Program) (w : World) (G H : Hp) (gs : List (Addr × O)) : Prop := ∀ x ∈ gs, G x.1 = none ∧ Own P w G H x.1 x.2
/-- an owned object is nobody's any more -/
theorem Tenv.erase (E : Tenv P w W σ G H Γ) (j : Nat) : Tenv P w W σ G H (Γ.era j) :=
  ⟨E.len, E.base, E.hb, E.up, E.lent, E.new, E.sh, fun x hx => E.gh x (List.mem_of_mem_eraseIdx hx), by
    show ((Γ.g.eraseIdx j).map (·.a)).Nodup
    exact E.sep.sublist ((List.eraseIdx_sublist Γ.g j).map _)⟩
/-- an owned object as a tree -/
def O.tr : O → T
  | .lst ts => .lst ts
  | .dic kvs => .dic kvs
  | .ndc kvs => .ndc kvs
  | .pdc kvs => .pdc kvs
  | .ins C fs => .obj C fs
  | .dicL _ _ kvs => .dic kvs
  | .ndcL _ _ kvs => .ndc kvs
theorem own_is {G H : Hp} {a : Addr} {o : O} (h : Own P w G H a o) (hG : G a = none) (hp : o.lk = false := by rfl) : ∃ u, H a = some u ∧ Is P w (upd G a u) (.ref a) o.tr := by
  cases o with
  | lst ts => obtain ⟨vs, h1, h2⟩ := h; exact ⟨_, h1, .lst upd_same (h2.mono (same_new hG))⟩
  | dic kvs => obtain ⟨ps, h1, h2, h3⟩ := h; exact ⟨_, h1, .dic upd_same h2 (h3.mono (same_new hG))⟩
  | ndc kvs => obtain ⟨ps, h1, h2, h3⟩ := h; exact ⟨_, h1, .ndc upd_same h2 (h3.mono (same_new hG))⟩
  | pdc kvs =>
    obtain ⟨xs, h1, h0, h2, h3⟩ := h
    refine ⟨_, h1, .pdc (ps := xs.map fun x => (x.1, x.2.2)) ⟨xs, rfl, upd_same, fun x hx => same_new hG _ _ (h0 x hx)⟩ (by rw [List.map_map]; exact h2) ?_⟩
    rw [List.map_map]
    exact h3.mono (same_new hG)
  | ins C fs => obtain ⟨dx, fv, h1, h2, h3⟩ := h; exact ⟨_, h1, .obj upd_same h2 (h3.mono (same_new hG))⟩
  | dicL od ps kvs => cases hp
  | ndcL od ps kvs => cases hp
/-- an own owned object joins what all stands on -/
theorem Tenv.freeze (E : Tenv P w W σ G H Γ) {j : Nat} {a : Addr} {o : O} (hj : Γ.g[j]? = some ⟨false, a, o⟩) (hp : o.lk = false := by rfl) : ∃ G', Same G G' ∧ Tenv P w W σ G' H (Γ.era j) ∧ Is P w G' (.ref a) o.tr := by
  obtain ⟨hG, h3, h4⟩ := E.gh _ (List.mem_of_getElem? hj)
  obtain ⟨u, hu, i⟩ := own_is h3 hG hp
  have sg : Same G (upd G a u) := same_new hG
  have E' := E.erase j
  refine ⟨upd G a u, sg, ⟨E.len, fun b o q => ?_, E.hb.trans sg, E.up, E.lent, fun b o q => ?_, fun i t q => ?_, fun x hx => ?_, E'.sep⟩, i⟩
  · by_cases z : b = a
    · subst z; rw [upd_same] at q; cases q; exact hu
    · rw [upd_ne z] at q; exact E.base _ _ q
  · by_cases z : b = a
    · subst z
      rcases h4 with h4 | h4
      · exact .inr (.inr h4)
      · exact .inr (.inl h4.2)
    · rw [upd_ne z] at q; exact E.new b o q
  · obtain ⟨v, h1, h2⟩ := E.sh i t q
    exact ⟨v, h1, h2.mono sg⟩
  · obtain ⟨k, hk, e⟩ := List.mem_eraseIdx_iff_getElem?.mp (show x ∈ Γ.g.eraseIdx j from hx)
    obtain ⟨f2, f3, f4⟩ := E.gh x (List.mem_of_getElem? e)
    refine ⟨?_, f3.at sg fun _ e => e, f4⟩
    rw [upd_ne (nd_ne E.sep e hj hk)]
    exact f2
end

/-! ### judgements -/
section
variable (P : Program) (w : World)
def Ed (te : TE) (Γ : Ev) (t : T) (Γ' : Ev) : Prop :=
  ∀ W σ G H, Tenv P w W σ G H Γ → ∀ Q : VK, (∀ v G' H', Same G G' → Tenv P w W σ G' H' Γ' → Is P w G' v t → Q v H') → te σ H Q
/-- .. that may be of several kinds -/
def Ex (te : TE) (Γ : Ev) (Φ : T → Ev → Prop) : Prop :=
  ∀ W σ G H, Tenv P w W σ G H Γ → ∀ Q : VK, (∀ v t Γ' G' H', Same G G' → Tenv P w W σ G' H' Γ' → Is P w G' v t → Φ t Γ' → Q v H') → te σ H Q
def EdT (tt : TT) (Γ : Ev) (b : Bool) (Γ' : Ev) : Prop :=
  ∀ W σ G H, Tenv P w W σ G H Γ → ∀ Q : Bool → Hp → Prop, (∀ G' H', Same G G' → Tenv P w W σ G' H' Γ' → Q b H') → tt σ H Q
def EdA (ta : TA) (Γ : Ev) (ts : List T) (Γ' : Ev) : Prop :=
  ∀ W σ G H, Tenv P w W σ G H Γ → ∀ Q : List V → Hp → Prop, (∀ vs G' H', Same G G' → Tenv P w W σ G' H' Γ' → IsAll P w G' vs ts → Q vs H') → ta σ H Q
/-- a new object, owned -/
def EdN (te : TE) (Γ : Ev) (o : O) (Γ' : Ev) : Prop :=
  ∀ W σ G H, Tenv P w W σ G H Γ → ∀ Q : VK, (∀ a G' H', Same G G' → Tenv P w W σ G' H' (Γ'.push ⟨false, a, o⟩) → Q (.ref a) H') → te σ H Q
/-- a target takes a tree -/
def EdG (g : TG) (t : T) (Γ Γ' : Ev) : Prop :=
  ∀ W σ G H, Tenv P w W σ G H Γ → ∀ v, Is P w G v t → ∀ Q : L2.St → Hp → Prop, (∀ σ', Tenv P w W σ' G H Γ' → Q σ' H) → g v σ H Q
def EdGs (g : TGs) (ts : List T) (Γ Γ' : Ev) : Prop :=
  ∀ W σ G H, Tenv P w W σ G H Γ → ∀ vs, IsAll P w G vs ts → ∀ Q : L2.St → Hp → Prop, (∀ σ', Tenv P w W σ' G H Γ' → Q σ' H) → g vs σ H Q
/-- operations by values -/
def RT (r : R2) (x y z : T) : Prop := ∀ G H vx vy, Same G H → Is P w G vx x → Is P w G vy y → ∀ Q : VK, (∀ v G' H', Grw G H G' H' → Is P w G' v z → Q v H') → r vx vy H Q
def RU (r : V → Hp → VK → Prop) (x z : T) : Prop := ∀ G H vx, Same G H → Is P w G vx x → ∀ Q : VK, (∀ v G' H', Grw G H G' H' → Is P w G' v z → Q v H') → r vx H Q
def RC (r : List V → Hp → VK → Prop) (ts : List T) (z : T) : Prop := ∀ G H vs, Same G H → IsAll P w G vs ts → ∀ Q : VK, (∀ v G' H', Grw G H G' H' → Is P w G' v z → Q v H') → r vs H Q
/-- a call that hands back a new object -/
def RN (r : List V → Hp → VK → Prop) (ts : List T) (o : O) : Prop := ∀ G H vs, Same G H → IsAll P w G vs ts → ∀ Q : VK, (∀ a G' H', Grw G H G' H' → H a = none → G' a = none → Own P w G' H' a o → Q (.ref a) H') → r vs H Q
/-- statements: what the next one may find, what may be handed back -/
def Bd (ts : TS) (Γ : Ev) (Nx : Ev → Prop) (Rt : T → Ev → Prop) : Prop :=
  ∀ W σ G H, Tenv P w W σ G H Γ → ∀ D : Ends, (∀ σ' G' H' Γ', Same G G' → Tenv P w W σ' G' H' Γ' → Nx Γ' → D.nx σ' H') → (∀ v σ' G' H' Γ' t, Tenv P w W σ' G' H' Γ' → Is P w G' v t → Rt t Γ' → D.rt v H') → ts D σ H
/-- another reading of what stands there -/
def Sub (Γ Γ' : Ev) : Prop := ∀ W σ G H, Tenv P w W σ G H Γ → ∃ G', Same G G' ∧ Tenv P w W σ G' H Γ'
end
end FK
set_option maxHeartbeats 4000000
/-! FK8: expressions -/
namespace FK
open PySem L2
section
variable {P : Program} {w : World} {K : PySem.W.Frag} {Γ Γ1 Γ2 Γ3 : Ev} {ta tb tc te : TE} {t x y z : T} {r : R2}

/-! ### names, constants -/
theorem ed_var {i : Nat} (h : Γ.s[i]? = some (some t)) : Ed P w (tVar i) Γ t Γ := fun W σ G H E Q q => by
  obtain ⟨v, h1, h2⟩ := E.sh i t h
  exact ⟨v, h1, q v G H (Same.refl _) E h2⟩
theorem ed_int {i : Int} : Ed P w (tC (.int i)) Γ (.int i) Γ := fun W σ G H E Q q => q _ G H (Same.refl _) E (.int i)
theorem ed_bl {b : Bool} : Ed P w (tC (.bl b)) Γ (.bl b) Γ := fun W σ G H E Q q => q _ G H (Same.refl _) E (.bl b)
theorem ed_str {x : Str} : Ed P w (tC (.str x)) Γ (.str x) Γ := fun W σ G H E Q q => q _ G H (Same.refl _) E (.str x)
theorem ed_non : Ed P w (tC .non) Γ .non Γ := fun W σ G H E Q q => q _ G H (Same.refl _) E .non
theorem ed_val {v : V} : Ed P w (tC v) Γ (.val v) Γ := fun W σ G H E Q q => q _ G H (Same.refl _) E (.val v)

/-! ### operations -/
theorem ed_op (ha : Ed P w ta Γ x Γ1) (hb : Ed P w tb Γ1 y Γ2) (hr : RT P w r x y z) : Ed P w (tOp r ta tb) Γ z Γ2 := fun W σ G H E Q q =>
  ha W σ G H E _ fun vx G1 H1 s1 E1 ix => hb W σ G1 H1 E1 _ fun vy G2 H2 s2 E2 iy =>
    hr G2 H2 vx vy E2.base (ix.mono s2) iy Q fun v G3 H3 g iz => q v G3 H3 ((s1.trans s2).trans g.gg) (E2.grow g) iz
theorem ed_un {r : V → Hp → VK → Prop} (ha : Ed P w ta Γ x Γ1) (hr : RU P w r x z) : Ed P w (tUn r ta) Γ z Γ1 := fun W σ G H E Q q =>
  ha W σ G H E _ fun vx G1 H1 s1 E1 ix => hr G1 H1 vx E1.base ix Q fun v G3 H3 g iz => q v G3 H3 (s1.trans g.gg) (E1.grow g) iz
theorem RT.orl {r' : R2} (h : RT P w r x y z) : RT P w (fun x y H Q => r x y H Q ∨ r' x y H Q) x y z := fun G H vx vy s ix iy Q q => .inl (h G H vx vy s ix iy Q q)
theorem RT.orr {r' : R2} (h : RT P w r x y z) : RT P w (fun x y H Q => r' x y H Q ∨ r x y H Q) x y z := fun G H vx vy s ix iy Q q => .inr (h G H vx vy s ix iy Q q)
theorem rt_I0 {g : Int → Int → V} {i j : Int} (h : ∀ G, Is P w G (g i j) z) : RT P w (rI0 g) (.int i) (.int j) z := fun G H vx vy s ix iy Q q => by
  cases ix; cases iy
  exact ⟨i, j, rfl, rfl, q _ G H (Grw.refl s) (h G)⟩
theorem rt_I {C : Int → Int → Prop} {g : Int → Int → V} {i j : Int} (hc : C i j) (h : ∀ G, Is P w G (g i j) z) : RT P w (rI C g) (.int i) (.int j) z := fun G H vx vy s ix iy Q q => by
  cases ix; cases iy
  exact ⟨i, j, rfl, rfl, hc, q _ G H (Grw.refl s) (h G)⟩
theorem ed_neg {i : Int} (ha : Ed P w ta Γ (.int i) Γ1) : Ed P w (tUn (rU fun i => .int (-i)) ta) Γ (.int (-i)) Γ1 := ed_un ha fun G H vx s ix Q q => by
  cases ix
  exact ⟨i, rfl, q _ G H (Grw.refl s) (.int _)⟩
theorem ed_sub {i j : Int} (ha : Ed P w ta Γ (.int i) Γ1) (hb : Ed P w tb Γ1 (.int j) Γ2) : Ed P w (tOp (rI0 fun i j => .int (i - j)) ta tb) Γ (.int (i - j)) Γ2 := ed_op ha hb (rt_I0 fun _ => .int _)
theorem ed_mod {i j : Int} (ha : Ed P w ta Γ (.int i) Γ1) (hb : Ed P w tb Γ1 (.int j) Γ2) (hc : 0 < j) : Ed P w (tOp (rI (fun _ j => 0 < j) fun i j => .int (i % j)) ta tb) Γ (.int (i % j)) Γ2 := ed_op ha hb (rt_I hc fun _ => .int _)
theorem ed_fdiv {i j : Int} (ha : Ed P w ta Γ (.int i) Γ1) (hb : Ed P w tb Γ1 (.int j) Γ2) (hc : CDiv i j) : Ed P w (tOp (rI CDiv fun i j => .int (i / j)) ta tb) Γ (.int (i / j)) Γ2 := ed_op ha hb (rt_I hc fun _ => .int _)
theorem ed_pow {i j : Int} (ha : Ed P w ta Γ (.int i) Γ1) (hb : Ed P w tb Γ1 (.int j) Γ2) (hc : CPow i j) : Ed P w (tOp (rI CPow fun i j => .int (i ^ j.toNat)) ta tb) Γ (.int (i ^ j.toNat)) Γ2 := ed_op ha hb (rt_I hc fun _ => .int _)
theorem ed_lt {i j : Int} (ha : Ed P w ta Γ (.int i) Γ1) (hb : Ed P w tb Γ1 (.int j) Γ2) : Ed P w (tOp (rI0 fun i j => .bl (decide (i < j))) ta tb) Γ (.bl (decide (i < j))) Γ2 := ed_op ha hb (rt_I0 fun _ => .bl _)
theorem ed_le {i j : Int} (ha : Ed P w ta Γ (.int i) Γ1) (hb : Ed P w tb Γ1 (.int j) Γ2) : Ed P w (tOp (rI0 fun i j => .bl (decide (i ≤ j))) ta tb) Γ (.bl (decide (i ≤ j))) Γ2 := ed_op ha hb (rt_I0 fun _ => .bl _)
theorem ed_gt {i j : Int} (ha : Ed P w ta Γ (.int i) Γ1) (hb : Ed P w tb Γ1 (.int j) Γ2) : Ed P w (tOp (rI0 fun i j => .bl (decide (j < i))) ta tb) Γ (.bl (decide (j < i))) Γ2 := ed_op ha hb (rt_I0 fun _ => .bl _)
theorem ed_ge {i j : Int} (ha : Ed P w ta Γ (.int i) Γ1) (hb : Ed P w tb Γ1 (.int j) Γ2) : Ed P w (tOp (rI0 fun i j => .bl (decide (j ≤ i))) ta tb) Γ (.bl (decide (j ≤ i))) Γ2 := ed_op ha hb (rt_I0 fun _ => .bl _)
/-- a + b, numbers or lists; a * b, numbers or a list and a number -/
def rAddA : R2 := fun x y H Q => rI0 (fun i j => .int (i + j)) x y H Q ∨ rCat x y H Q
def rMulA : R2 := fun x y H Q => rI CMul (fun i j => .int (i * j)) x y H Q ∨ rRep x y H Q
theorem op_addA {X : Cx} : OpR X (binaryOp .Add) rAddA := op_add.or op_cat
theorem op_mulA {X : Cx} : OpR X (binaryOp .Mult) rMulA := op_mul.or op_rep
theorem ed_add {i j : Int} (ha : Ed P w ta Γ (.int i) Γ1) (hb : Ed P w tb Γ1 (.int j) Γ2) : Ed P w (tOp rAddA ta tb) Γ (.int (i + j)) Γ2 := ed_op ha hb (RT.orl (rt_I0 fun _ => .int _))
theorem ed_mul {i j : Int} (ha : Ed P w ta Γ (.int i) Γ1) (hb : Ed P w tb Γ1 (.int j) Γ2) (hc : CMul i j) : Ed P w (tOp rMulA ta tb) Γ (.int (i * j)) Γ2 := ed_op ha hb (RT.orl (rt_I hc fun _ => .int _))

/-! ### ends: None or a name -/
abbrev End := Option Str
def eT : End → T
  | none => .non
  | some x => .str x
def eV : End → V
  | none => .non
  | some x => .str x
def eL : End → Leaf
  | none => .none
  | some x => .text x
def lT : Leaf → T
  | .none => .non
  | .num i => .int i
  | .text x => .str x
theorem lT_eL (e : End) : lT (eL e) = eT e := by cases e <;> rfl
theorem eL_inj {a b : End} (h : eL a = eL b) : a = b := by cases a <;> cases b <;> simp [eL] at h <;> first | rfl | rw [h]
theorem eV_inj {a b : End} (h : eV a = eV b) : a = b := by cases a <;> cases b <;> simp [eV] at h <;> first | rfl | rw [h]
theorem is_eT {G : Hp} {v : V} {e : End} (h : Is P w G v (eT e)) : v = eV e := by cases e <;> cases h <;> rfl
theorem is_eV {G : Hp} (e : End) : Is P w G (eV e) (eT e) := by cases e; exact .non; exact .str _
theorem is_lT {G : Hp} {v : V} {k : Leaf} (h : Is P w G v (lT k)) : v = lV k := by cases k <;> cases h <;> rfl
theorem is_lV {G : Hp} (k : Leaf) : Is P w G (lV k) (lT k) := by cases k; exact .non; exact .int _; exact .str _
theorem all_lT {G : Hp} : ∀ {vs : List V} {ks : List Leaf}, IsAll P w G vs (ks.map lT) → vs = ks.map lV
  | _, [], h => by cases h; rfl
  | _, k :: ks, h => by
    cases h with
    | cons a b => rw [is_lT a, all_lT b]; rfl
theorem all_lV {G : Hp} : ∀ (ks : List Leaf), IsAll P w G (ks.map lV) (ks.map lT)
  | [] => .nil
  | k :: ks => .cons (is_lV k) (all_lV ks)

/-! ### data without dicts and objects -/
mutual
def T.dat : T → Bool
  | .non => true | .bl _ => true | .int _ => true | .str _ => true
  | .lst ts => T.datAll ts
  | .tup ts => T.datAll ts
  | _ => false
def T.datAll : List T → Bool
  | [] => true
  | t :: ts => t.dat && T.datAll ts
end
mutual
def T.py : T → PyData
  | .bl b => .bool b | .int i => .int i | .str x => .str x
  | .lst ts => .list (T.pyAll ts)
  | .tup ts => .tuple (T.pyAll ts)
  | _ => .none
def T.pyAll : List T → List PyData
  | [] => []
  | t :: ts => t.py :: T.pyAll ts
end
mutual
theorem is_dp {G H : Hp} (s : Same G H) : ∀ {v : V} {t : T}, Is P w G v t → t.dat = true → Dp K H v t.py
  | _, _, .non, _ => .non
  | _, _, .bl b, _ => .bl b
  | _, _, .int i, _ => .int i
  | _, _, .str x, _ => .str x
  | _, _, .lst h1 h2, d => .lst (SqL.of (s _ _ h1)) (is_dpAll s h2 (by simpa [T.dat] using d))
  | _, _, .tup h1 h2, d => .tup (SqT.of (s _ _ h1)) (is_dpAll s h2 (by simpa [T.dat] using d))
  | _, _, .dic _ _ _, d => by simp [T.dat] at d
  | _, _, .ndc _ _ _, d => by simp [T.dat] at d
  | _, _, .pdc _ _ _, d => by simp [T.dat] at d
  | _, _, .obj _ _ _, d => by simp [T.dat] at d
  | _, _, .val _, d => by simp [T.dat] at d
  | _, _, .opq _ _, d => by simp [T.dat] at d
theorem is_dpAll {G H : Hp} (s : Same G H) : ∀ {vs : List V} {ts : List T}, IsAll P w G vs ts → T.datAll ts = true → DpAll K H vs (T.pyAll ts)
  | _, _, .nil, _ => .nil
  | _, _, .cons h1 h2, d => by
    have d' : (_ && _) = true := d
    rw [Bool.and_eq_true] at d'
    exact .cons (is_dp s h1 d'.1) (is_dpAll s h2 d'.2)
end

/-! ### == and != -/
def rEqA (K : PySem.W.Frag) : R2 := fun x y H Q => rEq x y H Q ∨ rEqD K x y H Q
def rNeA (K : PySem.W.Frag) : R2 := fun x y H Q => rNe x y H Q ∨ rNeD K x y H Q
theorem op_eqA {X : Cx} (hu : X.A.units + 64 < cLine) : OpR X (compareOp .Eq) (rEqA X.K) := op_eq.or (op_eqD hu)
theorem op_neA {X : Cx} (hu : X.A.units + 64 < cLine) : OpR X (compareOp .NotEq) (rNeA X.K) := op_ne.or (op_neD hu)
theorem rt_eqI {i j : Int} : RT P w (rEqA K) (.int i) (.int j) (.bl (decide (i = j))) := fun G H vx vy s ix iy Q q => by
  cases ix; cases iy
  refine .inl ⟨rfl, ?_⟩
  have e : decide (V.int i = V.int j) = decide (i = j) := by
    by_cases z : i = j
    · subst z; simp
    · have z' : ¬ V.int i = V.int j := fun q => z (V.int.inj q)
      rw [decide_eq_false z, decide_eq_false z']
  rw [e]
  exact q _ G H (Grw.refl s) (.bl _)
theorem rt_neI {i j : Int} : RT P w (rNeA K) (.int i) (.int j) (.bl (!decide (i = j))) := fun G H vx vy s ix iy Q q => by
  cases ix; cases iy
  refine .inl ⟨rfl, ?_⟩
  have e : decide (V.int i = V.int j) = decide (i = j) := by
    by_cases z : i = j
    · subst z; simp
    · have z' : ¬ V.int i = V.int j := fun q => z (V.int.inj q)
      rw [decide_eq_false z, decide_eq_false z']
  rw [e]
  exact q _ G H (Grw.refl s) (.bl _)
theorem scal_eV (a b : End) : scal (eV a) (eV b) = true := by cases a <;> cases b <;> rfl
theorem dec_eV (a b : End) : decide (eV a = eV b) = decide (a = b) := by
  by_cases z : a = b
  · subst z; simp
  · rw [decide_eq_false z, decide_eq_false fun q => z (eV_inj q)]
theorem rt_eqE {a b : End} : RT P w (rEqA K) (eT a) (eT b) (.bl (decide (a = b))) := fun G H vx vy s ix iy Q q => by
  rw [is_eT ix, is_eT iy]
  refine .inl ⟨scal_eV a b, ?_⟩
  rw [dec_eV]
  exact q _ G H (Grw.refl s) (.bl _)
theorem rt_neE {a b : End} : RT P w (rNeA K) (eT a) (eT b) (.bl (!decide (a = b))) := fun G H vx vy s ix iy Q q => by
  rw [is_eT ix, is_eT iy]
  refine .inl ⟨scal_eV a b, ?_⟩
  rw [dec_eV]
  exact q _ G H (Grw.refl s) (.bl _)
theorem rt_eqD (hx : x.dat = true) (hy : y.dat = true) (sx : SeqAt.shaped x.py = true) (sy : SeqAt.shaped y.py = true) : RT P w (rEqA K) x y (.bl (PyData.eqv x.py y.py)) := fun G H vx vy s ix iy Q q =>
  .inr ⟨x.py, y.py, is_dp s ix hx, is_dp s iy hy, sx, sy, q _ G H (Grw.refl s) (.bl _)⟩
theorem rt_neD (hx : x.dat = true) (hy : y.dat = true) (sx : SeqAt.shaped x.py = true) (sy : SeqAt.shaped y.py = true) : RT P w (rNeA K) x y (.bl (!PyData.eqv x.py y.py)) := fun G H vx vy s ix iy Q q =>
  .inr ⟨x.py, y.py, is_dp s ix hx, is_dp s iy hy, sx, sy, q _ G H (Grw.refl s) (.bl _)⟩
theorem ed_eqI {i j : Int} (ha : Ed P w ta Γ (.int i) Γ1) (hb : Ed P w tb Γ1 (.int j) Γ2) : Ed P w (tOp (rEqA K) ta tb) Γ (.bl (decide (i = j))) Γ2 := ed_op ha hb rt_eqI
theorem ed_neI {i j : Int} (ha : Ed P w ta Γ (.int i) Γ1) (hb : Ed P w tb Γ1 (.int j) Γ2) : Ed P w (tOp (rNeA K) ta tb) Γ (.bl (!decide (i = j))) Γ2 := ed_op ha hb rt_neI
theorem ed_eqE {a b : End} (ha : Ed P w ta Γ (eT a) Γ1) (hb : Ed P w tb Γ1 (eT b) Γ2) : Ed P w (tOp (rEqA K) ta tb) Γ (.bl (decide (a = b))) Γ2 := ed_op ha hb rt_eqE
theorem ed_neE {a b : End} (ha : Ed P w ta Γ (eT a) Γ1) (hb : Ed P w tb Γ1 (eT b) Γ2) : Ed P w (tOp (rNeA K) ta tb) Γ (.bl (!decide (a = b))) Γ2 := ed_op ha hb rt_neE
theorem ed_eqD (ha : Ed P w ta Γ x Γ1) (hb : Ed P w tb Γ1 y Γ2) (hx : x.dat = true) (hy : y.dat = true) (sx : SeqAt.shaped x.py = true) (sy : SeqAt.shaped y.py = true) : Ed P w (tOp (rEqA K) ta tb) Γ (.bl (PyData.eqv x.py y.py)) Γ2 :=
  ed_op ha hb (rt_eqD hx hy sx sy)
theorem ed_neD (ha : Ed P w ta Γ x Γ1) (hb : Ed P w tb Γ1 y Γ2) (hx : x.dat = true) (hy : y.dat = true) (sx : SeqAt.shaped x.py = true) (sy : SeqAt.shaped y.py = true) : Ed P w (tOp (rNeA K) ta tb) Γ (.bl (!PyData.eqv x.py y.py)) Γ2 :=
  ed_op ha hb (rt_neD hx hy sx sy)

/-! ### is None, is True -/
def T.isN : T → Bool
  | .non => true
  | .val v => decide (v = .non)
  | _ => false
theorem is_isN {G : Hp} {v : V} (h : Is P w G v t) : decide (v = .non) = t.isN := by cases h <;> rfl
theorem eT_isN (e : End) : (eT e).isN = e.isNone := by cases e <;> rfl
def rIsA : R2 := fun x y H Q => (y = .non ∧ Q (.bl (decide (x = .non))) H) ∨ rIsB x y H Q
def rIsNotA : R2 := fun x y H Q => (y = .non ∧ Q (.bl (!decide (x = .non))) H) ∨ rNotB x y H Q
theorem op_isA {X : Cx} : OpR X (compareOp .Is) rIsA := op_isN.or op_isBl
theorem op_isNotA {X : Cx} : OpR X (compareOp .IsNot) rIsNotA := op_notN.or op_notBl
theorem ed_isN (ha : Ed P w ta Γ x Γ1) : Ed P w (tOp rIsA ta (tC .non)) Γ (.bl x.isN) Γ1 := ed_op ha ed_non fun G H vx vy s ix iy Q q => by
  cases iy
  refine .inl ⟨rfl, ?_⟩
  rw [is_isN ix]
  exact q _ G H (Grw.refl s) (.bl _)
theorem ed_notN (ha : Ed P w ta Γ x Γ1) : Ed P w (tOp rIsNotA ta (tC .non)) Γ (.bl (!x.isN)) Γ1 := ed_op ha ed_non fun G H vx vy s ix iy Q q => by
  cases iy
  refine .inl ⟨rfl, ?_⟩
  rw [is_isN ix]
  exact q _ G H (Grw.refl s) (.bl _)
theorem ed_isB {a b : Bool} (ha : Ed P w ta Γ (.bl a) Γ1) : Ed P w (tOp rIsA ta (tC (.bl b))) Γ (.bl (decide (a = b))) Γ1 := ed_op ha ed_bl fun G H vx vy s ix iy Q q => by
  cases ix; cases iy
  exact .inr ⟨a, b, rfl, rfl, q _ G H (Grw.refl s) (.bl _)⟩
theorem ed_notB {a b : Bool} (ha : Ed P w ta Γ (.bl a) Γ1) : Ed P w (tOp rIsNotA ta (tC (.bl b))) Γ (.bl (!decide (a = b))) Γ1 := ed_op ha ed_bl fun G H vx vy s ix iy Q q => by
  cases ix; cases iy
  exact .inr ⟨a, b, rfl, rfl, q _ G H (Grw.refl s) (.bl _)⟩

/-! ### subscripts -/
theorem atI_rel {G : Hp} {vs : List V} {ts : List T} {i : Int} (h : IsAll P w G vs ts) (e : atI ts i = some t) : ∃ v, atI vs i = some v ∧ Is P w G v t := by
  unfold atI at e ⊢
  rw [h.length]
  obtain ⟨j, hj, e⟩ := Option.bind_eq_some_iff.mp e
  obtain ⟨v, h1, h2⟩ := h.get e
  exact ⟨v, by rw [hj]; exact h1, h2⟩
theorem ed_ixL {ts : List T} {i : Int} (ha : Ed P w ta Γ (.lst ts) Γ1) (hb : Ed P w tb Γ1 (.int i) Γ2) (e : atI ts i = some t) : Ed P w (tOp (rIxA P w K) ta tb) Γ t Γ2 := ed_op ha hb fun G H vx vy s ix iy Q q => by
  cases iy
  cases ix with
  | lst h1 h2 =>
    obtain ⟨v, e1, e2⟩ := atI_rel h2 e
    exact .inl ⟨_, _, i, v, rfl, rfl, SqL.of (s _ _ h1), e1, q _ G H (Grw.refl s) e2⟩
theorem ed_ixT {ts : List T} {i : Int} (ha : Ed P w ta Γ (.tup ts) Γ1) (hb : Ed P w tb Γ1 (.int i) Γ2) (e : atI ts i = some t) : Ed P w (tOp (rIxA P w K) ta tb) Γ t Γ2 := ed_op ha hb fun G H vx vy s ix iy Q q => by
  cases iy
  cases ix with
  | tup h1 h2 =>
    obtain ⟨v, e1, e2⟩ := atI_rel h2 e
    exact .inr (.inl ⟨_, _, i, v, rfl, rfl, SqT.of (s _ _ h1), e1, q _ G H (Grw.refl s) e2⟩)
theorem dic_get {G H : Hp} {a : Addr} {ps : List (Key × V)} {kvs : List (Str × T)} {k : Str} (h1 : H a = some (.dK ps)) (h2 : ps.map (·.1) = kvs.map (fun p => Sum.inr p.1)) (h3 : IsAll P w G (ps.map (·.2)) (kvs.map (·.2))) :
    (∃ v t, EGet P w H a (.str k) (some v) ∧ look kvs k = some t ∧ Is P w G v t) ∨ (EGet P w H a (.str k) none ∧ look kvs k = none) := by
  have h3' : IsAll P w G (ps.map (·.2)) ((kvs.map fun p => ((Sum.inr p.1 : Key), p.2)).map (·.2)) := by rw [inr_vals]; exact h3
  have g : EGet P w H a (.str k) (valV ps (Sum.inr k)) := EGet.s h1
  rcases look_rel (Sum.inr k) (inr_keys h2) h3' with ⟨v, t, e1, e2, i⟩ | ⟨e1, e2⟩
  · rw [look_inr] at e2
    rw [e1] at g
    exact .inl ⟨v, t, g, e2, i⟩
  · rw [look_inr] at e2
    rw [e1] at g
    exact .inr ⟨g, e2⟩
theorem ed_ixD {kvs : List (Str × T)} {k : Str} (ha : Ed P w ta Γ (.dic kvs) Γ1) (hb : Ed P w tb Γ1 (.str k) Γ2) (e : look kvs k = some t) : Ed P w (tOp (rIxA P w K) ta tb) Γ t Γ2 := ed_op ha hb fun G H vx vy s ix iy Q q => by
  cases iy
  cases ix with
  | dic h1 h2 h3 =>
    rcases dic_get (k := k) (s _ _ h1) h2 h3 with ⟨v, t', g, e2, i⟩ | ⟨g, e2⟩
    · rw [e] at e2; cases e2
      exact .inr (.inr ⟨_, v, rfl, g, q _ G H (Grw.refl s) i⟩)
    · rw [e] at e2; cases e2
theorem ndc_get {G H : Hp} {a : Addr} {ps : List (Leaf × V)} {kvs : List (Leaf × T)} {k : Leaf} (h1 : H a = some (NOb P w a ps)) (h2 : ps.map (·.1) = kvs.map (·.1)) (h3 : IsAll P w G (ps.map (·.2)) (kvs.map (·.2))) :
    (∃ v t, EGet P w H a (lV k) (some v) ∧ look kvs k = some t ∧ Is P w G v t) ∨ (EGet P w H a (lV k) none ∧ look kvs k = none) := by
  have g : EGet P w H a (lV k) (valV ps k) := EGet.n h1
  rcases look_rel k h2 h3 with ⟨v, t, e1, e2, i⟩ | ⟨e1, e2⟩
  · rw [e1] at g; exact .inl ⟨v, t, g, e2, i⟩
  · rw [e1] at g; exact .inr ⟨g, e2⟩
theorem pdc_get {G H : Hp} {a b : Addr} {ps : List (List Leaf × V)} {kvs : List (List Leaf × T)} {k : List Leaf} (h1 : PTab P w H a ps) (hb : H b = some (.tup (k.map lV))) (h2 : ps.map (·.1) = kvs.map (·.1)) (h3 : IsAll P w G (ps.map (·.2)) (kvs.map (·.2))) :
    (∃ v t, EGet P w H a (.ref b) (some v) ∧ look kvs k = some t ∧ Is P w G v t) ∨ (EGet P w H a (.ref b) none ∧ look kvs k = none) := by
  have g : EGet P w H a (.ref b) (valV ps k) := EGet.p h1 hb
  rcases look_rel k h2 h3 with ⟨v, t, e1, e2, i⟩ | ⟨e1, e2⟩
  · rw [e1] at g; exact .inl ⟨v, t, g, e2, i⟩
  · rw [e1] at g; exact .inr ⟨g, e2⟩
theorem ed_ixN {kvs : List (Leaf × T)} {k : Leaf} (ha : Ed P w ta Γ (.ndc kvs) Γ1) (hb : Ed P w tb Γ1 (lT k) Γ2) (e : look kvs k = some t) : Ed P w (tOp (rIxA P w K) ta tb) Γ t Γ2 := ed_op ha hb fun G H vx vy s ix iy Q q => by
  rw [is_lT iy]
  cases ix with
  | ndc h1 h2 h3 =>
    rcases ndc_get (k := k) (s _ _ h1) h2 h3 with ⟨v, t', g, e2, i⟩ | ⟨g, e2⟩
    · rw [e] at e2; cases e2
      exact .inr (.inr ⟨_, v, rfl, g, q _ G H (Grw.refl s) i⟩)
    · rw [e] at e2; cases e2
theorem ed_ixP {kvs : List (List Leaf × T)} {k : List Leaf} (ha : Ed P w ta Γ (.pdc kvs) Γ1) (hb : Ed P w tb Γ1 (.tup (k.map lT)) Γ2) (e : look kvs k = some t) : Ed P w (tOp (rIxA P w K) ta tb) Γ t Γ2 := ed_op ha hb fun G H vx vy s ix iy Q q => by
  cases iy with
  | tup f1 f2 =>
    rw [all_lT f2] at f1
    cases ix with
    | pdc h1 h2 h3 =>
      rcases pdc_get (k := k) (h1.mono s) (s _ _ f1) h2 h3 with ⟨v, t', g, e2, i⟩ | ⟨g, e2⟩
      · rw [e] at e2; cases e2
        exact .inr (.inr ⟨_, v, rfl, g, q _ G H (Grw.refl s) i⟩)
      · rw [e] at e2; cases e2

/-! ### in, not in -/
def rInS1 : R2 := fun x y H Q => ∃ (c : Nat) (z : Str), x = .str ⟨#[c]⟩ ∧ y = .str z ∧ Q (.bl (decide (c ∈ z.cps.toList))) H
def rInA (P : Program) (w : World) (K : PySem.W.Frag) : R2 := fun x y H Q => rIn K false x y H Q ∨ rInE P w x y H Q ∨ rInS1 x y H Q
def rNotInA (P : Program) (w : World) (K : PySem.W.Frag) : R2 := fun x y H Q => rIn K true x y H Q ∨ rNotInE P w x y H Q
theorem op_inA {X : Cx} (hu : X.A.units + 1 < cLine) : OpR X (compareOp .In) (rInA X.prog X.w X.K) := op_in_seq.or ((op_inE hu).or op_in_sign)
theorem op_notInA {X : Cx} (hu : X.A.units + 1 < cLine) : OpR X (compareOp .NotIn) (rNotInA X.prog X.w X.K) := op_notIn_seq.or (op_notInE hu)
theorem inV_ends (e : End) : ∀ es : List End, inV (eV e) (es.map eV) = decide (e ∈ es)
  | [] => rfl
  | f :: es => by
    have ih := inV_ends e es
    have h : eqV (eV f) (eV e) = decide (e = f) := by
      cases e <;> cases f <;> simp [eV, eqV]
      rename_i a b
      by_cases z : a = b
      · subst z; simp
      · have z' : ¬ b = a := fun q => z q.symm
        simp [z, z']
    show (eqV (eV f) (eV e) || inV (eV e) (es.map eV)) = _
    rw [h, ih]
    by_cases z : e = f
    · subst z; simp
    · simp [z]
theorem flat_ends : ∀ es : List End, (es.map eV).all flatV = true
  | [] => rfl
  | e :: es => by
    rw [List.map_cons, List.all_cons, flat_ends es]
    cases e <;> rfl
theorem all_eT {G : Hp} : ∀ {vs : List V} {es : List End}, IsAll P w G vs (es.map eT) → vs = es.map eV
  | _, [], h => by cases h; rfl
  | _, e :: es, h => by
    cases h with
    | cons a b => rw [is_eT a, all_eT b]; rfl
theorem all_eV {G : Hp} : ∀ (es : List End), IsAll P w G (es.map eV) (es.map eT)
  | [] => .nil
  | e :: es => .cons (is_eV e) (all_eV es)
theorem flat_eV (e : End) : flatV (eV e) = true := by cases e <;> rfl
theorem ed_inE {e : End} {es : List End} (ha : Ed P w ta Γ (eT e) Γ1) (hb : Ed P w tb Γ1 (.lst (es.map eT)) Γ2) : Ed P w (tOp (rInA P w K) ta tb) Γ (.bl (decide (e ∈ es))) Γ2 := ed_op ha hb fun G H vx vy s ix iy Q q => by
  rw [is_eT ix]
  cases iy with
  | lst h1 h2 =>
    rw [all_eT h2] at h1
    refine .inl ⟨_, _, rfl, .inl (SqL.of (s _ _ h1)), flat_eV e, flat_ends es, ?_⟩
    show Q (.bl (inV (eV e) (es.map eV))) H
    rw [inV_ends]
    exact q _ G H (Grw.refl s) (.bl _)
theorem ed_notInE {e : End} {es : List End} (ha : Ed P w ta Γ (eT e) Γ1) (hb : Ed P w tb Γ1 (.lst (es.map eT)) Γ2) : Ed P w (tOp (rNotInA P w K) ta tb) Γ (.bl (!decide (e ∈ es))) Γ2 := ed_op ha hb fun G H vx vy s ix iy Q q => by
  rw [is_eT ix]
  cases iy with
  | lst h1 h2 =>
    rw [all_eT h2] at h1
    refine .inl ⟨_, _, rfl, .inl (SqL.of (s _ _ h1)), flat_eV e, flat_ends es, ?_⟩
    show Q (.bl (!inV (eV e) (es.map eV))) H
    rw [inV_ends]
    exact q _ G H (Grw.refl s) (.bl _)
theorem inV_ints (i : Int) : ∀ ns : List Int, inV (.int i) (ns.map V.int) = decide (i ∈ ns)
  | [] => rfl
  | n :: ns => by
    have ih := inV_ints i ns
    show ((n == i) || inV (.int i) (ns.map V.int)) = _
    rw [ih]
    by_cases z : i = n
    · subst z; simp
    · have z' : ¬ n = i := fun q => z q.symm
      simp [z, z']
theorem all_ints {G : Hp} : ∀ {vs : List V} {ns : List Int}, IsAll P w G vs (ns.map T.int) → vs = ns.map V.int
  | _, [], h => by cases h; rfl
  | _, n :: ns, h => by
    cases h with
    | cons a b => cases a; rw [all_ints b]; rfl
theorem ints_all {G : Hp} : ∀ (ns : List Int), IsAll P w G (ns.map V.int) (ns.map T.int)
  | [] => .nil
  | n :: ns => .cons (.int n) (ints_all ns)
theorem all_bls {G : Hp} : ∀ {vs : List V} {bs : List Bool}, IsAll P w G vs (bs.map T.bl) → vs = bs.map V.bl
  | _, [], h => by cases h; rfl
  | _, n :: ns, h => by
    cases h with
    | cons a b => cases a; rw [all_bls b]; rfl
theorem all_strs {G : Hp} : ∀ {vs : List V} {xs : List Str}, IsAll P w G vs (xs.map T.str) → vs = xs.map V.str
  | _, [], h => by cases h; rfl
  | _, n :: ns, h => by
    cases h with
    | cons a b => cases a; rw [all_strs b]; rfl
theorem strs_all {G : Hp} : ∀ (xs : List Str), IsAll P w G (xs.map V.str) (xs.map T.str)
  | [] => .nil
  | x :: xs => .cons (.str x) (strs_all xs)
theorem ed_inI {i : Int} {ns : List Int} (ha : Ed P w ta Γ (.int i) Γ1) (hb : Ed P w tb Γ1 (.lst (ns.map T.int)) Γ2) : Ed P w (tOp (rInA P w K) ta tb) Γ (.bl (decide (i ∈ ns))) Γ2 := ed_op ha hb fun G H vx vy s ix iy Q q => by
  cases ix
  cases iy with
  | lst h1 h2 =>
    rw [all_ints h2] at h1
    refine .inl ⟨_, _, rfl, .inl (SqL.of (s _ _ h1)), rfl, by simp [flatV], ?_⟩
    show Q (.bl (inV (.int i) (ns.map V.int))) H
    rw [inV_ints]
    exact q _ G H (Grw.refl s) (.bl _)
theorem ed_inD {kvs : List (Str × T)} {k : Str} (ha : Ed P w ta Γ (.str k) Γ1) (hb : Ed P w tb Γ1 (.dic kvs) Γ2) : Ed P w (tOp (rInA P w K) ta tb) Γ (.bl (look kvs k).isSome) Γ2 := ed_op ha hb fun G H vx vy s ix iy Q q => by
  cases ix
  cases iy with
  | dic h1 h2 h3 =>
    rcases dic_get (k := k) (s _ _ h1) h2 h3 with ⟨v, t', g, e2, i⟩ | ⟨g, e2⟩
    · rw [e2] at q
      exact .inr (.inl ⟨_, _, rfl, g, q _ G H (Grw.refl s) (.bl _)⟩)
    · rw [e2] at q
      exact .inr (.inl ⟨_, _, rfl, g, q _ G H (Grw.refl s) (.bl _)⟩)
theorem ed_inN {kvs : List (Leaf × T)} {k : Leaf} (ha : Ed P w ta Γ (lT k) Γ1) (hb : Ed P w tb Γ1 (.ndc kvs) Γ2) : Ed P w (tOp (rInA P w K) ta tb) Γ (.bl (look kvs k).isSome) Γ2 := ed_op ha hb fun G H vx vy s ix iy Q q => by
  rw [is_lT ix]
  cases iy with
  | ndc h1 h2 h3 =>
    rcases ndc_get (k := k) (s _ _ h1) h2 h3 with ⟨v, t', g, e2, i⟩ | ⟨g, e2⟩
    · rw [e2] at q
      exact .inr (.inl ⟨_, _, rfl, g, q _ G H (Grw.refl s) (.bl _)⟩)
    · rw [e2] at q
      exact .inr (.inl ⟨_, _, rfl, g, q _ G H (Grw.refl s) (.bl _)⟩)
theorem ed_inP {kvs : List (List Leaf × T)} {k : List Leaf} (ha : Ed P w ta Γ (.tup (k.map lT)) Γ1) (hb : Ed P w tb Γ1 (.pdc kvs) Γ2) : Ed P w (tOp (rInA P w K) ta tb) Γ (.bl (look kvs k).isSome) Γ2 := ed_op ha hb fun G H vx vy s ix iy Q q => by
  cases ix with
  | tup f1 f2 =>
    rw [all_lT f2] at f1
    cases iy with
    | pdc h1 h2 h3 =>
      rcases pdc_get (k := k) (h1.mono s) (s _ _ f1) h2 h3 with ⟨v, t', g, e2, i⟩ | ⟨g, e2⟩
      · rw [e2] at q
        exact .inr (.inl ⟨_, _, rfl, g, q _ G H (Grw.refl s) (.bl _)⟩)
      · rw [e2] at q
        exact .inr (.inl ⟨_, _, rfl, g, q _ G H (Grw.refl s) (.bl _)⟩)
theorem ed_inS {c : Nat} {z : Str} (ha : Ed P w ta Γ (.str ⟨#[c]⟩) Γ1) (hb : Ed P w tb Γ1 (.str z) Γ2) : Ed P w (tOp (rInA P w K) ta tb) Γ (.bl (decide (c ∈ z.cps.toList))) Γ2 := ed_op ha hb fun G H vx vy s ix iy Q q => by
  cases ix; cases iy
  exact .inr (.inr ⟨c, z, rfl, rfl, q _ G H (Grw.refl s) (.bl _)⟩)

/-! ### fields -/
theorem lookup_rel {G : Hp} (f : Str) : ∀ {fs : List (Str × V)} {ts : List (Str × T)}, fs.map (·.1) = ts.map (·.1) → IsAll P w G (fs.map (·.2)) (ts.map (·.2)) →
    (∃ v t, fs.lookup f = some v ∧ look ts f = some t ∧ Is P w G v t) ∨ (fs.lookup f = none ∧ look ts f = none)
  | [], [], _, _ => .inr ⟨rfl, rfl⟩
  | [], _ :: _, e, _ => by simp at e
  | _ :: _, [], e, _ => by simp at e
  | (a, v) :: fs, (b, t) :: ts, e, h => by
    simp only [List.map_cons] at e h
    injection e with e1 e2
    subst e1
    cases h with
    | cons i1 i2 =>
      by_cases z : a = f
      · subst z
        refine .inl ⟨v, t, ?_, ?_, i1⟩
        · simp [List.lookup]
        · simp [look, List.find?_cons]
      · have l1 : ((a, v) :: fs).lookup f = fs.lookup f := by
          have z' : (f == a) = false := by simpa using fun q => z q.symm
          simp [List.lookup, z']
        have l2 : look ((a, t) :: ts) f = look ts f := by simp [look, List.find?_cons, z]
        rw [l1, l2]
        exact lookup_rel f e2 i2
theorem ed_fld {C : Addr} {fs : List (Str × T)} {f : Str} (hc : Cls K C) (hn : NoAttr K C f) (ha : Ed P w ta Γ (.obj C fs) Γ1) (e : look fs f = some t) : Ed P w (tFld K ta f) Γ t Γ1 := fun W σ G H E Q q =>
  ha W σ G H E _ fun vx G1 H1 s1 E1 ix => by
    cases ix with
    | obj h1 h2 h3 =>
      rcases lookup_rel f h2 h3 with ⟨v, t', e1, e2, i⟩ | ⟨e1, e2⟩
      · rw [e] at e2; cases e2
        exact ⟨_, C, _, _, v, rfl, E1.base _ _ h1, hc, hn, e1, q v G1 H1 s1 E1 i⟩
      · rw [e] at e2; cases e2

/-! ### arguments, displays -/
theorem ea_nil : EdA P w tNil Γ [] Γ := fun W σ G H E Q q => q [] G H (Same.refl _) E .nil
theorem ea_cons {tr : TA} {ts : List T} (ha : Ed P w ta Γ t Γ1) (hr : EdA P w tr Γ1 ts Γ2) : EdA P w (tCons ta tr) Γ (t :: ts) Γ2 := fun W σ G H E Q q =>
  ha W σ G H E _ fun v G1 H1 s1 E1 i => hr W σ G1 H1 E1 _ fun vs G2 H2 s2 E2 is => q (v :: vs) G2 H2 (s1.trans s2) E2 (.cons (i.mono s2) is)
theorem ed_tup {tr : TA} {ts : List T} (h : EdA P w tr Γ ts Γ1) (hl : ts.length ≤ 1000) : Ed P w (tTup tr) Γ (.tup ts) Γ1 := fun W σ G H E Q q =>
  h W σ G H E _ fun vs G1 H1 s1 E1 is => by
    refine ⟨Nat.le_trans (by rw [is.length]; exact hl) (by decide), fun p hp => ?_⟩
    have g : Grw G1 H1 (upd G1 p (.tup vs)) (upd H1 p (.tup vs)) := Grw.alloc E1.base hp
    exact q (.ref p) _ _ (s1.trans g.gg) (E1.grow g) (.tup upd_same (is.mono g.gg))
theorem en_lst {tr : TA} {ts : List T} (h : EdA P w tr Γ ts Γ1) (hl : ts.length ≤ 1000) : EdN P w (tLst tr) Γ (.lst ts) Γ1 := fun W σ G H E Q q =>
  h W σ G H E _ fun vs G1 H1 s1 E1 is => by
    refine ⟨Nat.le_trans (by rw [is.length]; exact hl) (by decide), fun p hp => ?_⟩
    exact q p G1 _ s1 (E1.pushNew hp ⟨vs, upd_same, is⟩)
theorem era_push {Γ : Ev} {x : Gh} : (Γ.push x).era Γ.g.length = Γ := by
  have h : (Γ.g ++ [x]).eraseIdx Γ.g.length = Γ.g := by
    rw [List.eraseIdx_append_of_length_le (Nat.le_refl _)]
    simp
  show (⟨Γ.s, (Γ.g ++ [x]).eraseIdx Γ.g.length⟩ : Ev) = Γ
  rw [h]
theorem ed_of_en {o : O} (h : EdN P w te Γ o Γ1) (hp : o.lk = false := by rfl) : Ed P w te Γ o.tr Γ1 := fun W σ G H E Q q =>
  h W σ G H E _ fun a G1 H1 s1 E1 => by
    obtain ⟨G2, s2, E2, i⟩ := E1.freeze (j := Γ1.g.length) (a := a) (o := o) (by show (Γ1.g ++ [_])[Γ1.g.length]? = _; simp) hp
    rw [era_push] at E2
    exact q _ _ _ (s1.trans s2) E2 i
/-- an owned object is handed over for good -/
theorem ed_frz {j : Nat} {a : Addr} {o : O} (h : Ed P w te Γ (.val (.ref a)) Γ1) (hj : Γ1.g[j]? = some ⟨false, a, o⟩) (hp : o.lk = false := by rfl) : Ed P w te Γ o.tr (Γ1.era j) := fun W σ G H E Q q =>
  h W σ G H E _ fun v G1 H1 s1 E1 i => by
    cases i
    obtain ⟨G2, s2, E2, i⟩ := E1.freeze hj hp
    exact q _ _ _ (s1.trans s2) E2 i
theorem ed_lst {tr : TA} {ts : List T} (h : EdA P w tr Γ ts Γ1) (hl : ts.length ≤ 1000) : Ed P w (tLst tr) Γ (.lst ts) Γ1 := ed_of_en (en_lst h hl)

/-! ### calls of built-ins -/
theorem ed_cb {r : List V → Hp → VK → Prop} {tr : TA} {ts : List T} (h : EdA P w tr Γ ts Γ1) (hr : RC P w r ts z) : Ed P w (tCB r tr) Γ z Γ1 := fun W σ G H E Q q =>
  h W σ G H E _ fun vs G1 H1 s1 E1 is => hr G1 H1 vs E1.base is Q fun v G2 H2 g i => q v G2 H2 (s1.trans g.gg) (E1.grow g) i
theorem en_cb {r : List V → Hp → VK → Prop} {tr : TA} {ts : List T} {o : O} (h : EdA P w tr Γ ts Γ1) (hr : RN P w r ts o) : EdN P w (tCB r tr) Γ o Γ1 := fun W σ G H E Q q =>
  h W σ G H E _ fun vs G1 H1 s1 E1 is => hr G1 H1 vs E1.base is Q fun a G2 H2 g ha hG ho => by
    obtain ⟨f1, f2, f3⟩ := E1.fresh ha
    exact q a G2 H2 (s1.trans g.gg) ((E1.grow g).pushG hG ho f2 f3)
theorem RC.orl {r r' : List V → Hp → VK → Prop} {ts : List T} (h : RC P w r ts z) : RC P w (fun xs H Q => r xs H Q ∨ r' xs H Q) ts z := fun G H vs s is Q q => .inl (h G H vs s is Q q)
theorem RC.orr {r r' : List V → Hp → VK → Prop} {ts : List T} (h : RC P w r ts z) : RC P w (fun xs H Q => r' xs H Q ∨ r xs H Q) ts z := fun G H vs s is Q q => .inr (h G H vs s is Q q)
theorem RN.orl {r r' : List V → Hp → VK → Prop} {ts : List T} {o : O} (h : RN P w r ts o) : RN P w (fun xs H Q => r xs H Q ∨ r' xs H Q) ts o := fun G H vs s is Q q => .inl (h G H vs s is Q q)
theorem RN.orr {r r' : List V → Hp → VK → Prop} {ts : List T} {o : O} (h : RN P w r ts o) : RN P w (fun xs H Q => r' xs H Q ∨ r xs H Q) ts o := fun G H vs s is Q q => .inr (h G H vs s is Q q)
end
end FK
set_option maxHeartbeats 4000000
/-! FK9: built-ins, tests, calls of own defs -/
namespace FK
open PySem L2 PyProof.Rows
section
variable {P : Program} {w : World} {K : PySem.W.Frag} {Γ Γ1 Γ2 Γ3 : Ev} {ta tb tc te : TE} {t x y z : T} {r : R2} {tr : TA}

/-! ### len, abs, max, min, sum, all, any -/
def rLenA (K : PySem.W.Frag) : List V → Hp → VK → Prop := fun xs H Q => (∃ p ys, xs = [.ref p] ∧ (SqL K H p ys ∨ SqT K H p ys) ∧ Q (.int ys.length) H) ∨
  (∃ a kvs, xs = [V.ref a] ∧ H a = some (.dK kvs) ∧ Q (.int kvs.length) H) ∨ ∃ z : Str, xs = [.str z] ∧ z.length ≤ sizeLine ∧ Q (.int z.length) H
theorem call_lenA {X : Cx} : CallR X (.builtin "len") (rLenA X.K) := call_len_seq.or (call_lenD.or call_len_str)
theorem ed_lenL {ts : List T} (h : EdA P w tr Γ [.lst ts] Γ1) : Ed P w (tCB (rLenA K) tr) Γ (.int (ts.length : Nat)) Γ1 := ed_cb h fun G H vs s is Q q => by
  cases is with
  | cons a b =>
    cases b
    cases a with
    | lst h1 h2 =>
      refine .inl ⟨_, _, rfl, .inl (SqL.of (s _ _ h1)), ?_⟩
      rw [h2.length]
      exact q _ G H (Grw.refl s) (.int _)
theorem ed_lenT {ts : List T} (h : EdA P w tr Γ [.tup ts] Γ1) : Ed P w (tCB (rLenA K) tr) Γ (.int (ts.length : Nat)) Γ1 := ed_cb h fun G H vs s is Q q => by
  cases is with
  | cons a b =>
    cases b
    cases a with
    | tup h1 h2 =>
      refine .inl ⟨_, _, rfl, .inr (SqT.of (s _ _ h1)), ?_⟩
      rw [h2.length]
      exact q _ G H (Grw.refl s) (.int _)
theorem ed_lenD {kvs : List (Str × T)} (h : EdA P w tr Γ [.dic kvs] Γ1) : Ed P w (tCB (rLenA K) tr) Γ (.int (kvs.length : Nat)) Γ1 := ed_cb h fun G H vs s is Q q => by
  cases is with
  | cons a b =>
    cases b
    cases a with
    | dic h1 h2 h3 =>
      refine .inr (.inl ⟨_, _, rfl, s _ _ h1, ?_⟩)
      have e := h3.length
      rw [List.length_map, List.length_map] at e
      rw [e]
      exact q _ G H (Grw.refl s) (.int _)
theorem ed_lenS {x : Str} (h : EdA P w tr Γ [.str x] Γ1) (hl : x.length ≤ 1000) : Ed P w (tCB (rLenA K) tr) Γ (.int (x.length : Nat)) Γ1 := ed_cb h fun G H vs s is Q q => by
  cases is with
  | cons a b =>
    cases b
    cases a
    exact .inr (.inr ⟨_, rfl, Nat.le_trans hl (by decide), q _ G H (Grw.refl s) (.int _)⟩)
theorem ed_abs {i : Int} (h : EdA P w tr Γ [.int i] Γ1) : Ed P w (tCB (fun xs H Q => ∃ i, xs = [.int i] ∧ Q (.int (if i < 0 then -i else i)) H) tr) Γ (.int (if i < 0 then -i else i)) Γ1 := ed_cb h fun G H vs s is Q q => by
  cases is with
  | cons a b =>
    cases b
    cases a
    exact ⟨i, rfl, q _ G H (Grw.refl s) (.int _)⟩
theorem ed_max2 {i j : Int} (h : EdA P w tr Γ [.int i, .int j] Γ1) : Ed P w (tCB (fun xs H Q => ∃ i j, xs = [.int i, .int j] ∧ Q (.int (if j > i then j else i)) H) tr) Γ (.int (if j > i then j else i)) Γ1 := ed_cb h fun G H vs s is Q q => by
  cases is with
  | cons a b =>
    cases b with
    | cons c d =>
      cases d
      cases a; cases c
      exact ⟨i, j, rfl, q _ G H (Grw.refl s) (.int _)⟩
theorem ed_min2 {i j : Int} (h : EdA P w tr Γ [.int i, .int j] Γ1) : Ed P w (tCB (fun xs H Q => ∃ i j, xs = [.int i, .int j] ∧ Q (.int (if j < i then j else i)) H) tr) Γ (.int (if j < i then j else i)) Γ1 := ed_cb h fun G H vs s is Q q => by
  cases is with
  | cons a b =>
    cases b with
    | cons c d =>
      cases d
      cases a; cases c
      exact ⟨i, j, rfl, q _ G H (Grw.refl s) (.int _)⟩
theorem ed_sum {ns : List Int} (h : EdA P w tr Γ [.lst (ns.map T.int)] Γ1) : Ed P w (tCB (rSum K) tr) Γ (.int ns.sum) Γ1 := ed_cb h fun G H vs s is Q q => by
  cases is with
  | cons a b =>
    cases b
    cases a with
    | lst h1 h2 =>
      rw [all_ints h2] at h1
      exact ⟨_, ns, rfl, SqL.of (s _ _ h1), q _ G H (Grw.refl s) (.int _)⟩
theorem ed_all {bs : List Bool} (h : EdA P w tr Γ [.lst (bs.map T.bl)] Γ1) : Ed P w (tCB (rAll K) tr) Γ (.bl (bs.all id)) Γ1 := ed_cb h fun G H vs s is Q q => by
  cases is with
  | cons a b =>
    cases b
    cases a with
    | lst h1 h2 =>
      rw [all_bls h2] at h1
      exact ⟨_, bs, rfl, SqL.of (s _ _ h1), q _ G H (Grw.refl s) (.bl _)⟩
theorem ed_any {bs : List Bool} (h : EdA P w tr Γ [.lst (bs.map T.bl)] Γ1) : Ed P w (tCB (rAny K) tr) Γ (.bl (bs.any id)) Γ1 := ed_cb h fun G H vs s is Q q => by
  cases is with
  | cons a b =>
    cases b
    cases a with
    | lst h1 h2 =>
      rw [all_bls h2] at h1
      exact ⟨_, bs, rfl, SqL.of (s _ _ h1), q _ G H (Grw.refl s) (.bl _)⟩
theorem ed_minL {ns : List Int} {m : Int} (h : EdA P w tr Γ [.lst (ns.map T.int)] Γ1) (hm : m ∈ ns) (hle : ∀ y ∈ ns, m ≤ y) : Ed P w (tCB (rMin K) tr) Γ (.int m) Γ1 := ed_cb h fun G H vs s is Q q => by
  cases is with
  | cons a b =>
    cases b
    cases a with
    | lst h1 h2 =>
      rw [all_ints h2] at h1
      refine ⟨_, ns, rfl, SqL.of (s _ _ h1), List.length_pos_of_mem hm, fun m' h3 h4 => ?_⟩
      have : m' = m := Int.le_antisymm (h4 m hm) (hle m' h3)
      rw [this]
      exact q _ G H (Grw.refl s) (.int _)
theorem ed_maxL {ns : List Int} {m : Int} (h : EdA P w tr Γ [.lst (ns.map T.int)] Γ1) (hm : m ∈ ns) (hle : ∀ y ∈ ns, y ≤ m) : Ed P w (tCB (rMax K) tr) Γ (.int m) Γ1 := ed_cb h fun G H vs s is Q q => by
  cases is with
  | cons a b =>
    cases b
    cases a with
    | lst h1 h2 =>
      rw [all_ints h2] at h1
      refine ⟨_, ns, rfl, SqL.of (s _ _ h1), List.length_pos_of_mem hm, fun m' h3 h4 => ?_⟩
      have : m' = m := Int.le_antisymm (hle m' h3) (h4 m hm)
      rw [this]
      exact q _ G H (Grw.refl s) (.int _)
/-- len(set(xs)) of ends -/
theorem ed_lenSet {es : List End} (h : Ed P w ta Γ (.lst (es.map eT)) Γ1) (hl : es.length ≤ 4000) : Ed P w (tLenSetL K ta) Γ (.int ((ded es).length : Nat)) Γ1 := fun W σ G H E Q q =>
  h W σ G H E _ fun v G1 H1 s1 E1 i => by
    cases i with
    | lst h1 h2 =>
      rw [all_eT h2] at h1
      have e : es.map eV = (es.map eL).map lV := by
        rw [List.map_map]
        refine List.map_congr_left fun x _ => ?_
        cases x <;> rfl
      have ed : ∀ (acc : List End) (es : List End), (es.map eL).foldl ded1 (acc.map eL) = (es.foldl ded1 acc).map eL := by
        intro acc es
        induction es generalizing acc with
        | nil => rfl
        | cons x es ih =>
          rw [List.map_cons, List.foldl_cons, List.foldl_cons, ← ih]
          congr 1
          unfold ded1
          by_cases z : x ∈ acc
          · rw [if_pos z, if_pos (List.mem_map_of_mem z)]
          · have z' : eL x ∉ acc.map eL := fun q => by
              obtain ⟨y, hy, e⟩ := List.mem_map.mp q
              rw [eL_inj e] at hy
              exact z hy
            rw [if_neg z, if_neg z', List.map_append]
            rfl
      refine ⟨_, es.map eL, rfl, SqL.of (by rw [← e]; exact E1.base _ _ h1), by rw [List.length_map]; exact hl, ?_⟩
      have l : (ded (es.map eL)).length = (ded es).length := by
        show ((es.map eL).foldl ded1 (([] : List End).map eL)).length = _
        rw [ed, List.length_map]
        rfl
      rw [l]
      exact q _ G1 H1 s1 E1 (.int _)

/-! ### isinstance -/
/-- an own class whose instances isinstance knows -/
structure InsT (K : PySem.W.Frag) (C : Addr) : Prop where
  cl : Cls K C
  ha : PySem.W.findIn K (.ref C) "__class__" = some (some (.builtin "object.__class__"))
  hn : PySem.W.specialIn K (.builtin "object.__class__") "__get__" = some (some (.builtin "getset_descriptor.__get__"))
  htk : PySem.W.takesIn K (.builtin "object.__class__") = some true
  hm : PySem.W.mroIn K C (.type "object") = some true
/-- what isinstance asks of a tree's type -/
def TyT (K : PySem.W.Frag) : T → Value → Prop
  | .non, t => t = .type "NoneType"
  | .bl _, t => t = .type "bool"
  | .int _, t => t = .type "int"
  | .str _, t => t = .type "str"
  | .lst _, t => t = .type "list"
  | .tup _, t => t = .type "tuple"
  | .dic _, t => t = .type "dict"
  | .obj C _, t => t = .ref C ∧ InsT K C
  | _, _ => False
theorem ty_is {G H : Hp} (s : Same G H) {v : V} {u : Value} (h : Is P w G v t) (k : TyT K t u) : TyX K H v u := by
  cases h with
  | non => cases (show u = .type "NoneType" from k); exact .base .non
  | bl b => cases (show u = .type "bool" from k); exact .base (.bl b)
  | int i => cases (show u = .type "int" from k); exact .base (.int i)
  | str x => cases (show u = .type "str" from k); exact .base (.str x)
  | lst h1 h2 => cases (show u = .type "list" from k); exact .base (.lst (s _ _ h1))
  | tup h1 h2 => cases (show u = .type "tuple" from k); exact .base (.tup (s _ _ h1))
  | dic h1 h2 h3 => cases (show u = .type "dict" from k); exact .base (.dK (s _ _ h1))
  | ndc h1 h2 h3 => exact (show False from k).elim
  | pdc h1 h2 h3 => exact (show False from k).elim
  | @obj a C dx fs ts h1 h2 h3 =>
    obtain ⟨e, c⟩ := (show u = .ref C ∧ InsT K C from k)
    cases e
    exact .base (.ins (s _ _ h1) c.cl c.ha c.hn c.htk c.hm)
  | val v => exact (show False from k).elim
  | opq h1 h2 => exact (show False from k).elim
theorem ed_isi {c : V} {u cu : Value} {b : Bool} (h : EdA P w tr Γ [t, .val c] Γ1) (k : TyT K t u) (hc : ClsV c cu) (e : PySem.W.kitOne K u cu = some b) : Ed P w (tCB (rIsi K) tr) Γ (.bl b) Γ1 := ed_cb h fun G H vs s is Q q => by
  cases is with
  | cons a b' =>
    cases b' with
    | cons a2 b2 =>
      cases b2
      cases a2
      exact ⟨_, _, _, _, b, rfl, hc, ty_is s a k, e, q _ G H (Grw.refl s) (.bl _)⟩

/-! ### new lists and dicts -/
theorem own_new {G H : Hp} (s : Same G H) {p : Addr} (hp : H p = none) : G p = none := s.free hp
def rListA (K : PySem.W.Frag) : List V → Hp → VK → Prop := fun xs H Q => (∃ p ys, xs = [.ref p] ∧ (SqL K H p ys ∨ SqT K H p ys) ∧ ∀ l, H l = none → Q (.ref l) (upd H l (.lst ys))) ∨
  ∃ (a : Addr) (kvs : List (Key × V)), xs = [.ref a] ∧ Rd H a (.dK kvs) ∧ ∀ p, H p = none → Q (.ref p) (upd H p (.lst (kvs.map fun kv => kV kv.1)))
theorem call_listA {X : Cx} (hc : X.calm = true) : CallR X (.type "list") (rListA X.K) := call_list_of.or (call_listD hc)
theorem en_listL {ts : List T} (h : EdA P w tr Γ [.lst ts] Γ1) : EdN P w (tCB (rListA K) tr) Γ (.lst ts) Γ1 := en_cb h fun G H vs s is Q q => by
  cases is with
  | cons a b =>
    cases b
    cases a with
    | lst h1 h2 => exact .inl ⟨_, _, rfl, .inl (SqL.of (s _ _ h1)), fun l hl => q l G _ (Grw.side s hl) hl (s.free hl) ⟨_, upd_same, h2⟩⟩
theorem en_listD {kvs : List (Str × T)} (h : EdA P w tr Γ [.dic kvs] Γ1) : EdN P w (tCB (rListA K) tr) Γ (.lst (kvs.map fun p => T.str p.1)) Γ1 := en_cb h fun G H vs s is Q q => by
  cases is with
  | cons a b =>
    cases b
    cases a with
    | @dic a ps kvs h1 h2 h3 =>
      refine .inr ⟨_, _, rfl, .inl (s _ _ h1), fun l hl => q l G _ (Grw.side s hl) hl (s.free hl) ⟨_, upd_same, ?_⟩⟩
      have e : ps.map (fun kv => kV kv.1) = (kvs.map (·.1)).map V.str := by
        have : ps.map (fun kv => kV kv.1) = (ps.map (·.1)).map kV := by rw [List.map_map]; rfl
        rw [this, h2, List.map_map, List.map_map]
        rfl
      have e2 : (kvs.map fun p => T.str p.1) = (kvs.map (·.1)).map T.str := by rw [List.map_map]; rfl
      rw [e, e2]
      exact strs_all _
theorem en_dictD {kvs : List (Str × T)} (h : EdA P w tr Γ [.dic kvs] Γ1) : EdN P w (tCB (fun xs H Q => ∃ (a : Addr) (kvs : List (Key × V)), xs = [.ref a] ∧ Rd H a (.dK kvs) ∧ ∀ p, H p = none → Q (.ref p) (upd H p (.dK kvs))) tr) Γ (.dic kvs) Γ1 :=
  en_cb h fun G H vs s is Q q => by
  cases is with
  | cons a b =>
    cases b
    cases a with
    | dic h1 h2 h3 => exact ⟨_, _, rfl, .inl (s _ _ h1), fun l hl => q l G _ (Grw.side s hl) hl (s.free hl) ⟨_, upd_same, h2, h3⟩⟩
/-- {} as a dict of names, of ends -/
theorem en_dnew : EdN P w (tDNew P w) Γ (.dic []) Γ := fun W σ G H E Q q p hp => .inl (q p G _ (Same.refl _) (E.pushNew hp ⟨[], upd_same, rfl, .nil⟩))
theorem en_nnew : EdN P w (tDNew P w) Γ (.ndc []) Γ := fun W σ G H E Q q p hp => .inr (.inl (q p G _ (Same.refl _) (E.pushNew hp ⟨[], upd_same, rfl, .nil⟩)))
theorem en_pnew : EdN P w (tDNew P w) Γ (.pdc []) Γ := fun W σ G H E Q q p hp => .inr (.inr (q p G _ (Same.refl _) (E.pushNew hp ⟨[], upd_same, fun x hx => (nomatch hx), rfl, .nil⟩)))
/-- xs + ys, xs * n -/
def RO (P : Program) (w : World) (r : R2) (x y : T) (o : O) : Prop := ∀ G H vx vy, Same G H → Is P w G vx x → Is P w G vy y → ∀ Q : VK, (∀ a G' H', Grw G H G' H' → H a = none → G' a = none → Own P w G' H' a o → Q (.ref a) H') → r vx vy H Q
theorem en_op {o : O} (ha : Ed P w ta Γ x Γ1) (hb : Ed P w tb Γ1 y Γ2) (hr : RO P w r x y o) : EdN P w (tOp r ta tb) Γ o Γ2 := fun W σ G H E Q q =>
  ha W σ G H E _ fun vx G1 H1 s1 E1 ix => hb W σ G1 H1 E1 _ fun vy G2 H2 s2 E2 iy =>
    hr G2 H2 vx vy E2.base (ix.mono s2) iy Q fun a G3 H3 g ha hG ho => by
      obtain ⟨f1, f2, f3⟩ := E2.fresh ha
      exact q a G3 H3 ((s1.trans s2).trans g.gg) ((E2.grow g).pushG hG ho f2 f3)
theorem en_cat {xs ys : List T} (ha : Ed P w ta Γ (.lst xs) Γ1) (hb : Ed P w tb Γ1 (.lst ys) Γ2) (hl : xs.length + ys.length ≤ 100000) : EdN P w (tOp rAddA ta tb) Γ (.lst (xs ++ ys)) Γ2 := en_op ha hb fun G H vx vy s ix iy Q q => by
  cases ix with
  | lst h1 h2 =>
    cases iy with
    | lst f1 f2 =>
      refine .inr ⟨_, _, _, _, rfl, rfl, s _ _ h1, s _ _ f1, ?_, fun p hp => q p G _ (Grw.side s hp) hp (s.free hp) ⟨_, upd_same, h2.append f2⟩⟩
      rw [h2.length, f2.length]
      exact Nat.le_trans hl (by decide)
/-- slices -/
def cutT (xs : List T) (lo hi : Option Int) : List T := (xs.drop (HT.sIx xs.length 0 lo)).take (HT.sIx xs.length xs.length hi - HT.sIx xs.length 0 lo)
def EdO (P : Program) (w : World) (to : TO) (Γ : Ev) (o : Option Int) : Prop := ∀ W σ G H, Tenv P w W σ G H Γ → ∀ Q : Option Int → Hp → Prop, (∀ G' H', Same G G' → Tenv P w W σ G' H' Γ → Q o H') → to σ H Q
theorem eo_none : EdO P w tNoPart Γ none := fun W σ G H E Q q => q G H (Same.refl _) E
theorem eo_some {i : Int} (h : Ed P w te Γ (.int i) Γ) : EdO P w (tPart te) Γ (some i) := fun W σ G H E Q q => h W σ G H E _ fun v G1 H1 s1 E1 iv => by
  cases iv
  exact ⟨i, rfl, q G1 H1 s1 E1⟩
theorem en_slice {xs : List T} {lo hi : Option Int} {tl th : TO} (ha : Ed P w ta Γ (.lst xs) Γ) (hl : EdO P w tl Γ lo) (hh : EdO P w th Γ hi) : EdN P w (tSl (rSlL K) ta tl th) Γ (.lst (cutT xs lo hi)) Γ := fun W σ G H E Q q =>
  ha W σ G H E _ fun v G1 H1 s1 E1 i => hl W σ G1 H1 E1 _ fun G2 H2 s2 E2 => hh W σ G2 H2 E2 _ fun G3 H3 s3 E3 => by
    cases (i.mono s2).mono s3 with
    | lst h1 h2 =>
      refine ⟨_, _, rfl, SqL.of (E3.base _ _ h1), fun p hp => ?_⟩
      refine q p G3 _ ((s1.trans s2).trans s3) (E3.pushNew hp ⟨_, upd_same, ?_⟩)
      unfold cutV cutT
      rw [h2.length]
      exact (h2.drop _).take _
theorem en_revL {xs : List T} (ha : Ed P w ta Γ (.lst xs) Γ1) : EdN P w (tRevL K ta) Γ (.lst xs.reverse) Γ1 := fun W σ G H E Q q =>
  ha W σ G H E _ fun v G1 H1 s1 E1 i => by
    cases i with
    | lst h1 h2 =>
      refine ⟨_, _, rfl, SqL.of (E1.base _ _ h1), fun p hp => ?_⟩
      exact q p G1 _ s1 (E1.pushNew hp ⟨_, upd_same, h2.reverse⟩)

/-! ### sorted, of texts -/
def leS (a b : Str) : Bool := !PySem.Spec.ltCps b.cps.toList a.cps.toList
theorem leS_iff (a b : Str) : leS a b = true ↔ ¬ b.cps.toList < a.cps.toList := by
  unfold leS
  rw [PyProof.Rows.ltCps_eq]
  simp
theorem leS_total (a b : Str) : (leS a b || leS b a) = true := by
  rw [Bool.or_eq_true, leS_iff, leS_iff]
  by_cases h : b.cps.toList < a.cps.toList
  · exact .inr fun q => List.lt_asymm h q
  · exact .inl h
theorem leS_trans (a b c : Str) (h1 : leS a b = true) (h2 : leS b c = true) : leS a c = true := by
  rw [leS_iff] at *
  have h1' : a.cps.toList ≤ b.cps.toList := h1
  have h2' : b.cps.toList ≤ c.cps.toList := h2
  exact List.le_trans h1' h2'
theorem leS_antisymm (a b : Str) (h1 : leS a b = true) (h2 : leS b a = true) : a = b := by
  rw [leS_iff] at *
  have e : a.cps.toList = b.cps.toList := List.le_antisymm (show a.cps.toList ≤ b.cps.toList from h1) h2
  cases a; cases b
  simp at e
  rw [e]
theorem pairwise_of_sortedS : ∀ (l : List Str), sortedS l = true → l.Pairwise (fun a b => leS a b = true)
  | [], _ => List.Pairwise.nil
  | x :: r, h => by
    have f : ∀ (r : List Str) (x : Str), risingS x r = true → (x :: r).Pairwise (fun a b => leS a b = true) := by
      intro r
      induction r with
      | nil => intro x _; simp
      | cons y r ih =>
        intro x h
        unfold risingS at h
        rw [Bool.and_eq_true] at h
        have p := ih y h.2
        refine List.pairwise_cons.mpr ⟨fun z hz => ?_, p⟩
        have xy : leS x y = true := h.1
        rcases List.mem_cons.mp hz with e | hz
        · rw [e]; exact xy
        · exact leS_trans x y z xy ((List.pairwise_cons.mp p).1 z hz)
    exact f r x h
def srt (xs : List Str) : List Str := xs.mergeSort leS
theorem srt_perm (xs : List Str) : (srt xs).Perm xs := List.mergeSort_perm xs leS
theorem srt_uniq {xs ys : List Str} (h : ys.Perm xs) (hs : sortedS ys = true) : ys = srt xs := by
  refine List.Perm.eq_of_pairwise (le := fun a b => leS a b = true) (fun a b _ _ h1 h2 => leS_antisymm a b h1 h2) (pairwise_of_sortedS ys hs) (List.pairwise_mergeSort (le := leS) leS_trans leS_total xs) (h.trans (srt_perm xs).symm)
theorem srt_of_perm {xs ys : List Str} (h : xs.Perm ys) : srt xs = srt ys := by
  refine List.Perm.eq_of_pairwise (le := fun a b => leS a b = true) (fun a b _ _ h1 h2 => leS_antisymm a b h1 h2) (List.pairwise_mergeSort (le := leS) leS_trans leS_total xs) (List.pairwise_mergeSort (le := leS) leS_trans leS_total ys) ((srt_perm xs).trans (h.trans (srt_perm ys).symm))
theorem en_sorted {xs : List Str} (h : EdA P w tr Γ [.lst (xs.map T.str)] Γ1) (hl : xs.length < 64) : EdN P w (tCB (rSortedS K) tr) Γ (.lst ((srt xs).map T.str)) Γ1 := en_cb h fun G H vs s is Q q => by
  cases is with
  | cons a b =>
    cases b
    cases a with
    | lst h1 h2 =>
      rw [all_strs h2] at h1
      refine ⟨_, xs, rfl, SqL.of (s _ _ h1), hl, fun ys p hp hs hn => ?_⟩
      rw [srt_uniq hp hs]
      exact q p G _ (Grw.side s hn) hn (s.free hn) ⟨_, upd_same, strs_all _⟩

/-! ### str of data -/
theorem ed_strD (h : EdA P w tr Γ [t] Γ1) (ht : t.dat = true) (hr : ∀ {G : Hp} {v : V}, Is P w G v t → ∃ a, v = .ref a) (h1 : t.py.showable = true) (h2 : t.py.hasDict = false) (h3 : t.py.depth ≤ 20) (h4 : t.py.shown.length ≤ sizeLine) :
    Ed P w (tCB (rStrD K) tr) Γ (.str t.py.shown) Γ1 := ed_cb h fun G H vs s is Q q => by
  cases is with
  | cons a b =>
    cases b
    obtain ⟨p, rfl⟩ := hr a
    exact ⟨p, t.py, rfl, is_dp s a ht, h1, h2, h3, h4, q _ G H (Grw.refl s) (.str _)⟩

/-! ### tests -/
theorem et_val {b : Bool} (h : Ed P w te Γ (.bl b) Γ1) : EdT P w (tB te) Γ b Γ1 := fun W σ G H E Q q => h W σ G H E _ fun v G1 H1 s1 E1 i => by
  cases i
  exact ⟨b, rfl, q G1 H1 s1 E1⟩
theorem et_test {b : Bool} (h : Ed P w te Γ (.bl b) Γ1) : EdT P w (tTest te) Γ b Γ1 := fun W σ G H E Q q => h W σ G H E _ fun v G1 H1 s1 E1 i => by
  cases i
  exact ⟨b, rfl, q G1 H1 s1 E1⟩
variable {tt tu : TT} {b c : Bool}
theorem et_not (h : EdT P w tt Γ b Γ1) : EdT P w (tNot tt) Γ (!b) Γ1 := fun W σ G H E Q q => h W σ G H E _ fun G1 H1 s1 E1 => q G1 H1 s1 E1
theorem et_and (h : EdT P w tt Γ b Γ1) (h2 : b = true → EdT P w tu Γ1 c Γ1) : EdT P w (tAnd tt tu) Γ (b && c) Γ1 := fun W σ G H E Q q => h W σ G H E _ fun G1 H1 s1 E1 => by
  cases b with
  | true =>
    show tu σ H1 Q
    exact h2 rfl W σ G1 H1 E1 Q fun G2 H2 s2 E2 => q G2 H2 (s1.trans s2) E2
  | false =>
    show Q false H1
    exact q G1 H1 s1 E1
theorem et_or (h : EdT P w tt Γ b Γ1) (h2 : b = false → EdT P w tu Γ1 c Γ1) : EdT P w (tOr tt tu) Γ (b || c) Γ1 := fun W σ G H E Q q => h W σ G H E _ fun G1 H1 s1 E1 => by
  cases b with
  | false =>
    show tu σ H1 Q
    exact h2 rfl W σ G1 H1 E1 Q fun G2 H2 s2 E2 => q G2 H2 (s1.trans s2) E2
  | true =>
    show Q true H1
    exact q G1 H1 s1 E1
theorem et_yes : EdT P w tYes Γ true Γ := fun W σ G H E Q q => q G H (Same.refl _) E
theorem ed_ifx (h : EdT P w tt Γ b Γ1) (h1 : b = true → Ed P w ta Γ1 t Γ2) (h2 : b = false → Ed P w tb Γ1 t Γ2) : Ed P w (tIf tt ta tb) Γ t Γ2 := fun W σ G H E Q q => h W σ G H E _ fun G1 H1 s1 E1 => by
  cases b with
  | true =>
    show ta σ H1 Q
    exact h1 rfl W σ G1 H1 E1 Q fun v G2 H2 s2 E2 i => q v G2 H2 (s1.trans s2) E2 i
  | false =>
    show tb σ H1 Q
    exact h2 rfl W σ G1 H1 E1 Q fun v G2 H2 s2 E2 i => q v G2 H2 (s1.trans s2) E2 i
theorem ed_and (h : Ed P w ta Γ (.bl b) Γ1) (h2 : b = true → Ed P w tb Γ1 (.bl c) Γ1) : Ed P w (tAndV ta tb) Γ (.bl (b && c)) Γ1 := fun W σ G H E Q q => h W σ G H E _ fun v G1 H1 s1 E1 i => by
  cases i
  refine ⟨b, rfl, ?_⟩
  cases b with
  | true => exact h2 rfl W σ G1 H1 E1 Q fun v G2 H2 s2 E2 i => q v G2 H2 (s1.trans s2) E2 i
  | false => exact q _ G1 H1 s1 E1 (.bl false)
theorem ed_or (h : Ed P w ta Γ (.bl b) Γ1) (h2 : b = false → Ed P w tb Γ1 (.bl c) Γ1) : Ed P w (tOrV ta tb) Γ (.bl (b || c)) Γ1 := fun W σ G H E Q q => h W σ G H E _ fun v G1 H1 s1 E1 i => by
  cases i
  refine ⟨b, rfl, ?_⟩
  cases b with
  | false => exact h2 rfl W σ G1 H1 E1 Q fun v G2 H2 s2 E2 i => q v G2 H2 (s1.trans s2) E2 i
  | true => exact q _ G1 H1 s1 E1 (.bl true)
theorem ed_not (h : Ed P w ta Γ (.bl b) Γ1) : Ed P w (tNotV ta) Γ (.bl (!b)) Γ1 := fun W σ G H E Q q => h W σ G H E _ fun v G1 H1 s1 E1 i => by
  cases i
  exact ⟨b, rfl, q _ G1 H1 s1 E1 (.bl _)⟩
theorem ed_chain {r' : R2} (ha : Ed P w ta Γ x Γ1) (hb : Ed P w tb Γ1 y Γ2) (hr : RT P w r x y (.bl b)) (hc : b = true → Ed P w tc Γ2 z Γ2) (hr' : b = true → RT P w r' y z (.bl c)) : Ed P w (tChain r r' ta tb tc) Γ (.bl (b && c)) Γ2 := fun W σ G H E Q q =>
  ha W σ G H E _ fun vx G1 H1 s1 E1 ix => hb W σ G1 H1 E1 _ fun vy G2 H2 s2 E2 iy => hr G2 H2 vx vy E2.base (ix.mono s2) iy _ fun v G3 H3 g3 i3 => by
    cases i3
    refine ⟨b, rfl, ?_⟩
    have E3 := E2.grow g3
    cases b with
    | false => exact q _ G3 H3 ((s1.trans s2).trans g3.gg) E3 (.bl false)
    | true =>
      refine hc rfl W σ G3 H3 E3 _ fun vz G4 H4 s4 E4 iz => ?_
      exact hr' rfl G4 H4 vy vz E4.base ((iy.mono g3.gg).mono s4) iz Q fun v G5 H5 g5 i5 => q v G5 H5 ((((s1.trans s2).trans g3.gg).trans s4).trans g5.gg) (E4.grow g5) i5
end
end FK
set_option maxHeartbeats 4000000
/-! FK10: own defs' promises and calls, targets, statements -/
namespace FK
open PySem L2

/-! ### promises -/
abbrev AO := Addr × O
def Gh.ao (x : Gh) : AO := (x.a, x.o)
/-- arguments and result are trees -/
def spT (P : Program) (w : World) (R : List T → T → Prop) : Sp := fun vs H Q _ => ∃ G ts t, Same G H ∧ IsAll P w G vs ts ∧ R ts t ∧ ∀ v G' H', Grw G H G' H' → Is P w G' v t → Q v H'
/-- the result is a new object -/
def spN (P : Program) (w : World) (R : List T → O → Prop) : Sp := fun vs H Q _ => ∃ G ts o, Same G H ∧ IsAll P w G vs ts ∧ R ts o ∧ ∀ a G' H', Grw G H G' H' → H a = none → G' a = none → Own P w G' H' a o → Q (.ref a) H'
/-- the objects at as are changed, else new objects alone -/
structure Grm (as : List Addr) (G H G' H' : Hp) : Prop where
  gg : Same G G'
  gh : Same G' H'
  hh : ∀ b u, b ∉ as → H b = some u → H' b = some u
  at_ : ∀ b ∈ as, ∃ u, H' b = some u
  new : ∀ b o, G' b = some o → G b = some o ∨ H b = none
/-- the objects gs are lent, and changed -/
def spG (P : Program) (w : World) (R : List AO → List T → (T → List AO → Prop) → Prop) : Sp := fun vs H Q _ => ∃ G gs ts Φ, Same G H ∧ IsAll P w G vs ts ∧ Owns P w G H gs ∧ (gs.map (·.1)).Nodup ∧ R gs ts Φ ∧
  ∀ v t gs' G' H', Grm (gs.map (·.1)) G H G' H' → Owns P w G' H' gs' → (gs'.map (·.1)).Nodup → (∀ x ∈ gs', x.1 ∈ gs.map (·.1) ∨ H x.1 = none) → Is P w G' v t → Φ t gs' → Q v H'
/-- .. to what is known -/
def det (R : List AO → List T → T → List AO → Prop) : List AO → List T → (T → List AO → Prop) → Prop := fun gs ts Φ => ∃ t gs', R gs ts t gs' ∧ Φ = fun t2 gs2 => t2 = t ∧ gs2 = gs'
abbrev spM (P : Program) (w : World) (R : List AO → List T → T → List AO → Prop) : Sp := spG P w (det R)

section
variable {P : Program} {w : World} {K : PySem.W.Frag} {Γ Γ1 Γ2 Γ3 : Ev} {ta tb tc te : TE} {t x y z : T} {tr : TA}

/-! ### expressions of several kinds -/
def ExA (P : Program) (w : World) (ta : TA) (Γ : Ev) (Φ : List T → Ev → Prop) : Prop :=
  ∀ W σ G H, Tenv P w W σ G H Γ → ∀ Q : List V → Hp → Prop, (∀ vs ts Γ' G' H', Same G G' → Tenv P w W σ G' H' Γ' → IsAll P w G' vs ts → Φ ts Γ' → Q vs H') → ta σ H Q
theorem ex_ed {Φ : T → Ev → Prop} (h : Ed P w te Γ t Γ1) (q : Φ t Γ1) : Ex P w te Γ Φ := fun W σ G H E Q k => h W σ G H E Q fun v G1 H1 s1 E1 i => k v t Γ1 G1 H1 s1 E1 i q
theorem ex_en {Φ : T → Ev → Prop} {o : O} (h : EdN P w te Γ o Γ1) (q : ∀ a, Φ (.val (.ref a)) (Γ1.push ⟨false, a, o⟩)) : Ex P w te Γ Φ := fun W σ G H E Q k =>
  h W σ G H E Q fun a G1 H1 s1 E1 => k _ _ _ G1 H1 s1 E1 (.val _) (q a)
theorem ed_ex (h : Ex P w te Γ fun t' Γ' => t' = t ∧ Γ' = Γ1) : Ed P w te Γ t Γ1 := fun W σ G H E Q q => h W σ G H E Q fun v t' Γ' G1 H1 s1 E1 i e => by
  obtain ⟨rfl, rfl⟩ := e
  exact q v G1 H1 s1 E1 i
theorem xa_nil {Φ : List T → Ev → Prop} (q : Φ [] Γ) : ExA P w tNil Γ Φ := fun W σ G H E Q k => k [] [] Γ G H (Same.refl _) E .nil q
theorem xa_cons {Φ : List T → Ev → Prop} (h1 : Ex P w ta Γ fun t Γ' => ExA P w tr Γ' fun ts => Φ (t :: ts)) : ExA P w (tCons ta tr) Γ Φ := fun W σ G H E Q k =>
  h1 W σ G H E _ fun v t Γ' G1 H1 s1 E1 i h2 => h2 W σ G1 H1 E1 _ fun vs ts Γ2 G2 H2 s2 E2 is q => k _ _ Γ2 G2 H2 (s1.trans s2) E2 (.cons (i.mono s2) is) q
theorem xa_ea {Φ : List T → Ev → Prop} {ts : List T} (h : EdA P w tr Γ ts Γ1) (q : Φ ts Γ1) : ExA P w tr Γ Φ := fun W σ G H E Q k => h W σ G H E Q fun vs G1 H1 s1 E1 is => k vs ts Γ1 G1 H1 s1 E1 is q

/-! ### calls -/
theorem ed_call {R : List T → T → Prop} {E : XK} {ts : List T} (h : EdA P w tr Γ ts Γ1) (hR : R ts t) : Ed P w (tCall (spT P w R) [] E tr) Γ t Γ1 := fun W σ G H En Q q =>
  h W σ G H En _ fun vs G1 H1 s1 E1 is => ⟨G1, ts, t, E1.base, by rw [List.append_nil]; exact is, hR, fun v G2 H2 g i => q v G2 H2 (s1.trans g.gg) (E1.grow g) i⟩
theorem en_call {R : List T → O → Prop} {E : XK} {ts : List T} {o : O} (h : EdA P w tr Γ ts Γ1) (hR : R ts o) : EdN P w (tCall (spN P w R) [] E tr) Γ o Γ1 := fun W σ G H En Q q =>
  h W σ G H En _ fun vs G1 H1 s1 E1 is => ⟨G1, ts, o, E1.base, by rw [List.append_nil]; exact is, hR, fun a G2 H2 g ha hG ho => by
    obtain ⟨f1, f2, f3⟩ := E1.fresh ha
    exact q a G2 H2 (s1.trans g.gg) ((E1.grow g).pushG hG ho f2 f3)⟩
theorem names_none {G : Hp} {fs : List (Str × V)} {ts : List (Str × T)} {m : Str} (h2 : fs.map (·.1) = ts.map (·.1)) (h3 : IsAll P w G (fs.map (·.2)) (ts.map (·.2))) (h : look ts m = none) : fs.lookup m = none := by
  rcases lookup_rel m h2 h3 with ⟨v, t', e1, e2, i⟩ | ⟨e1, e2⟩
  · rw [h] at e2; cases e2
  · exact e1
theorem ed_meth {C : Addr} {m : Str} {fs : List (Str × T)} {R : List T → T → Prop} {E : XK} {ts : List T} (ho : Ed P w ta Γ (.obj C fs) Γ1) (hm : look fs m = none) (h : EdA P w tr Γ1 ts Γ2) (hR : R (.obj C fs :: ts) t) :
    Ed P w (tMeth C m (spT P w R) [] E ta tr) Γ t Γ2 := fun W σ G H En Q q =>
  ho W σ G H En _ fun v G1 H1 s1 E1 i => by
    have i0 := i
    cases i with
    | obj h1 h2 h3 =>
      refine ⟨_, _, _, rfl, E1.base _ _ h1, names_none h2 h3 hm, h W σ G1 H1 E1 _ fun vs G2 H2 s2 E2 is => ?_⟩
      exact ⟨G2, _, t, E2.base, by rw [List.append_nil]; exact .cons (i0.mono s2) is, hR, fun v G3 H3 g i => q v G3 H3 ((s1.trans s2).trans g.gg) (E2.grow g) i⟩
theorem en_meth {C : Addr} {m : Str} {fs : List (Str × T)} {R : List T → O → Prop} {E : XK} {ts : List T} {o : O} (ho : Ed P w ta Γ (.obj C fs) Γ1) (hm : look fs m = none) (h : EdA P w tr Γ1 ts Γ2) (hR : R (.obj C fs :: ts) o) :
    EdN P w (tMeth C m (spN P w R) [] E ta tr) Γ o Γ2 := fun W σ G H En Q q =>
  ho W σ G H En _ fun v G1 H1 s1 E1 i => by
    have i0 := i
    cases i with
    | obj h1 h2 h3 =>
      refine ⟨_, _, _, rfl, E1.base _ _ h1, names_none h2 h3 hm, h W σ G1 H1 E1 _ fun vs G2 H2 s2 E2 is => ?_⟩
      refine ⟨G2, _, o, E2.base, by rw [List.append_nil]; exact .cons (i0.mono s2) is, hR, fun a G3 H3 g ha hG ho => ?_⟩
      obtain ⟨f1, f2, f3⟩ := E2.fresh ha
      exact q a G3 H3 ((s1.trans s2).trans g.gg) ((E2.grow g).pushG hG ho f2 f3)

/-! ### lending -/
/-- what is owned behind a call that the objects as were lent to -/
theorem Tenv.lend {W : Wd} {σ : L2.St} {G H G' H' : Hp} (E : Tenv P w W σ G H Γ) {as : List Addr} {gs' : List AO} (gr : Grm as G H G' H') (has : ∀ a ∈ as, ∃ x ∈ Γ.g, x.a = a) (ow : Owns P w G' H' gs') {g' : List Gh} (nd : (g'.map (·.a)).Nodup)
    (hg : ∀ x ∈ g', (x ∈ Γ.g ∧ x.a ∉ as) ∨ ((x.a, x.o) ∈ gs' ∧ ((∃ y ∈ Γ.g, y.l = x.l ∧ y.a = x.a) ∨ (x.l = false ∧ H x.a = none)))) : Tenv P w W σ G' H' ⟨Γ.s, g'⟩ := by
  refine ⟨E.len, gr.gh, E.hb.trans gr.gg, fun b o q z => ?_, fun b z => ?_, fun b o q => ?_, fun i t q => ?_, fun x hx => ?_, nd⟩
  · refine gr.hh b o (fun y => ?_) (E.up b o q z)
    obtain ⟨x, hx, rfl⟩ := has b y
    rcases (E.gh x hx).2.2 with f | f
    · exact z (List.mem_map_of_mem (f := (·.2)) f)
    · have f2 := f.2
      rw [q] at f2; cases f2
  · by_cases y : b ∈ as
    · exact gr.at_ b y
    · obtain ⟨u, hu⟩ := E.lent b z
      exact ⟨u, gr.hh b u y hu⟩
  · rcases gr.new b o q with z | z
    · exact E.new b o z
    · exact .inr (.inl (E.noHe z))
  · obtain ⟨v, e1, e2⟩ := E.sh i t q
    exact ⟨v, e1, e2.mono gr.gg⟩
  · rcases hg x hx with ⟨h1, h2⟩ | ⟨h1, h2⟩
    · obtain ⟨f1, f2, f3⟩ := E.gh x h1
      refine ⟨?_, f2.at gr.gg fun u e => gr.hh _ u h2 e, f3⟩
      obtain ⟨u, hu⟩ := f2.there
      cases z : G' x.a with
      | none => rfl
      | some y =>
        rcases gr.new x.a y z with q | q
        · rw [f1] at q; cases q
        · rw [hu] at q; cases q
    · obtain ⟨f1, f2⟩ := ow _ h1
      refine ⟨f1, f2, ?_⟩
      rcases h2 with ⟨y, hy, e1, e2⟩ | ⟨e1, e2⟩
      · rw [← e1, ← e2]
        exact (E.gh y hy).2.2
      · exact .inr ⟨e1, E.noHe e2⟩
/-- the places js of the owned ones hold gh -/
def Lent (g : List Gh) : List Nat → List Gh → Prop
  | [], [] => True
  | j :: js, x :: xs => g[j]? = some x ∧ Lent g js xs
  | _, _ => False
def setAll : List Gh → List Nat → List Gh → List Gh
  | g, j :: js, x :: xs => setAll (g.set j x) js xs
  | g, _, _ => g
theorem Lent.at {g : List Gh} : ∀ {js : List Nat} {xs : List Gh}, Lent g js xs → ∀ x ∈ xs, ∃ j ∈ js, g[j]? = some x
  | [], [], _, x, hx => nomatch hx
  | j :: js, y :: xs, h, x, hx => by
    rcases List.mem_cons.mp hx with e | hx
    · subst e; exact ⟨j, List.mem_cons_self, h.1⟩
    · obtain ⟨k, h1, h2⟩ := Lent.at h.2 x hx
      exact ⟨k, List.mem_cons_of_mem _ h1, h2⟩
  | [], _ :: _, h, _, _ => h.elim
  | _ :: _, [], h, _, _ => h.elim
theorem Lent.nodup {g : List Gh} (hs : (g.map (·.a)).Nodup) : ∀ {js : List Nat} {xs : List Gh}, js.Nodup → Lent g js xs → (xs.map (·.a)).Nodup
  | [], [], _, _ => List.nodup_nil
  | j :: js, y :: xs, n, h => by
    rw [List.nodup_cons] at n
    rw [List.map_cons, List.nodup_cons]
    refine ⟨fun q => ?_, Lent.nodup hs n.2 h.2⟩
    obtain ⟨x, hx, e⟩ := List.mem_map.mp q
    obtain ⟨k, hk, ek⟩ := h.2.at x hx
    exact nd_ne hs ek h.1 (fun z => n.1 (z ▸ hk)) e
  | [], _ :: _, _, h => h.elim
  | _ :: _, [], _, h => h.elim
theorem setAll_a : ∀ {g : List Gh} {js : List Nat} {xs ys : List Gh}, js.Nodup → Lent g js xs → ys.map (fun x => (x.l, x.a)) = xs.map (fun x => (x.l, x.a)) → (setAll g js ys).map (fun x => (x.l, x.a)) = g.map (fun x => (x.l, x.a))
  | g, [], [], ys, _, _, e => by
    cases ys with
    | nil => rfl
    | cons a b => simp at e
  | g, j :: js, x :: xs, ys, n, h, e => by
    cases ys with
    | nil => simp at e
    | cons y ys =>
      simp only [List.map_cons] at e
      injection e with e1 e2
      rw [List.nodup_cons] at n
      have step : (g.set j y).map (fun x => (x.l, x.a)) = g.map (fun x => (x.l, x.a)) := by
        rw [List.map_set]
        refine List.ext_getElem? fun k => ?_
        by_cases z : j = k
        · subst z
          rw [List.getElem?_set_self (by rw [List.length_map]; exact (List.getElem?_eq_some_iff.mp h.1).1), List.getElem?_map, h.1, e1]
          rfl
        · rw [List.getElem?_set_ne z]
      have keep : ∀ {js : List Nat} {xs : List Gh}, j ∉ js → Lent g js xs → Lent (g.set j y) js xs := by
        intro js
        induction js with
        | nil => intro xs _ h; cases xs; exact trivial; exact h.elim
        | cons k js ih =>
          intro xs hn h
          cases xs with
          | nil => exact h.elim
          | cons u xs =>
            refine ⟨?_, ih (fun q => hn (List.mem_cons_of_mem _ q)) h.2⟩
            rw [List.getElem?_set_ne (fun z : j = k => hn (by rw [z]; exact List.mem_cons_self))]
            exact h.1
      show (setAll (g.set j y) js ys).map _ = _
      rw [setAll_a n.2 (keep n.1 h.2) e2, step]
  | _, [], _ :: _, _, _, h, _ => h.elim
  | _, _ :: _, [], _, _, h, _ => h.elim
theorem setAll_mem : ∀ {g : List Gh} {js : List Nat} {ys : List Gh} {x : Gh}, js.length = ys.length → x ∈ setAll g js ys → x ∈ ys ∨ ∃ k, k ∉ js ∧ g[k]? = some x
  | g, [], [], x, _, h => .inr (by
      obtain ⟨k, hk⟩ := List.mem_iff_getElem?.mp (show x ∈ g from h)
      exact ⟨k, by simp, hk⟩)
  | g, j :: js, y :: ys, x, e, h => by
    rcases setAll_mem (by simpa using e) (show x ∈ setAll (g.set j y) js ys from h) with q | ⟨k, hk, ek⟩
    · exact .inl (List.mem_cons_of_mem _ q)
    · by_cases z : j = k
      · subst z
        have hl : j < g.length := by
          have := (List.getElem?_eq_some_iff.mp ek).1
          rwa [List.length_set] at this
        rw [List.getElem?_set_self hl] at ek
        cases ek
        exact .inl List.mem_cons_self
      · rw [List.getElem?_set_ne z] at ek
        exact .inr ⟨k, fun q => (List.mem_cons.mp q).elim (fun e => z e.symm) hk, ek⟩
  | _, [], _ :: _, _, e, _ => by simp at e
  | _, _ :: _, [], _, e, _ => by simp at e
theorem Lent.length {g : List Gh} : ∀ {js : List Nat} {xs : List Gh}, Lent g js xs → js.length = xs.length
  | [], [], _ => rfl
  | _ :: _, _ :: _, h => by rw [List.length_cons, List.length_cons, Lent.length h.2]
  | [], _ :: _, h => h.elim
  | _ :: _, [], h => h.elim
/-- lent and brought back at the same places -/
theorem Tenv.lentBack {W : Wd} {σ : L2.St} {G H G' H' : Hp} (E : Tenv P w W σ G H Γ) {js : List Nat} {gh gh' : List Gh} (n : js.Nodup) (hj : Lent Γ.g js gh) (e : gh'.map (fun x => (x.l, x.a)) = gh.map (fun x => (x.l, x.a)))
    (gr : Grm ((gh.map Gh.ao).map (·.1)) G H G' H') (ow : Owns P w G' H' (gh'.map Gh.ao)) : Tenv P w W σ G' H' ⟨Γ.s, setAll Γ.g js gh'⟩ := by
  have as_ : (gh.map Gh.ao).map (·.1) = gh.map (·.a) := by rw [List.map_map]; rfl
  have ea : gh'.map (·.a) = gh.map (·.a) := by
    have := congrArg (List.map (·.2)) e
    rwa [List.map_map, List.map_map] at this
  have hlen : js.length = gh'.length := by rw [hj.length, ← List.length_map (f := (·.a)), ← ea, List.length_map]
  have nd : ((setAll Γ.g js gh').map (·.a)).Nodup := by
    have := congrArg (List.map (·.2)) (setAll_a n hj e)
    rw [List.map_map, List.map_map] at this
    have h2 : (setAll Γ.g js gh').map (·.a) = Γ.g.map (·.a) := this
    rw [h2]
    exact E.sep
  refine E.lend gr (fun a ha => ?_) ow nd fun x hx => ?_
  · rw [as_] at ha
    obtain ⟨x, hx, rfl⟩ := List.mem_map.mp ha
    obtain ⟨k, _, ek⟩ := hj.at x hx
    exact ⟨x, List.mem_of_getElem? ek, rfl⟩
  · rcases setAll_mem hlen hx with q | ⟨k, hk, ek⟩
    · refine .inr ⟨List.mem_map_of_mem (f := Gh.ao) q, .inl ?_⟩
      have : (x.l, x.a) ∈ gh.map (fun x => (x.l, x.a)) := by rw [← e]; exact List.mem_map_of_mem (f := fun x : Gh => (x.l, x.a)) q
      obtain ⟨y, hy, ey⟩ := List.mem_map.mp this
      obtain ⟨k, _, ek⟩ := hj.at y hy
      exact ⟨y, List.mem_of_getElem? ek, congrArg Prod.fst ey, congrArg Prod.snd ey⟩
    · refine .inl ⟨List.mem_of_getElem? ek, fun q => ?_⟩
      rw [as_] at q
      obtain ⟨y, hy, ey⟩ := List.mem_map.mp q
      obtain ⟨i, hi, ei⟩ := hj.at y hy
      exact nd_ne E.sep ek ei (fun z => hk (z ▸ hi)) ey.symm
/-- f(..), some owned ones lent -/
theorem owns_of {W : Wd} {σ : L2.St} {G H : Hp} (E : Tenv P w W σ G H Γ) {js : List Nat} {gh : List Gh} (hj : Lent Γ.g js gh) : Owns P w G H (gh.map Gh.ao) := fun x hx => by
  obtain ⟨y, hy, rfl⟩ := List.mem_map.mp hx
  obtain ⟨k, _, ek⟩ := hj.at y hy
  exact ⟨(E.gh y (List.mem_of_getElem? ek)).1, (E.gh y (List.mem_of_getElem? ek)).2.1⟩
theorem nd_of {W : Wd} {σ : L2.St} {G H : Hp} (E : Tenv P w W σ G H Γ) {js : List Nat} {gh : List Gh} (n : js.Nodup) (hj : Lent Γ.g js gh) : ((gh.map Gh.ao).map (·.1)).Nodup := by
  rw [List.map_map]
  exact hj.nodup E.sep n
theorem ed_callM {js : List Nat} {gh : List Gh} (gh' : List Gh) {R : List AO → List T → T → List AO → Prop} {E : XK} {ts : List T} (h : EdA P w tr Γ ts Γ1) (n : js.Nodup) (hj : Lent Γ1.g js gh) (e : gh'.map (fun x => (x.l, x.a)) = gh.map (fun x => (x.l, x.a)))
    (hR : R (gh.map Gh.ao) ts t (gh'.map Gh.ao)) : Ed P w (tCall (spM P w R) [] E tr) Γ t ⟨Γ1.s, setAll Γ1.g js gh'⟩ := fun W σ G H En Q q =>
  h W σ G H En _ fun vs G1 H1 s1 E1 is => by
    refine ⟨G1, gh.map Gh.ao, ts, _, E1.base, by rw [List.append_nil]; exact is, owns_of E1 hj, nd_of E1 n hj, ⟨t, gh'.map Gh.ao, hR, rfl⟩, fun v t2 gs2 G2 H2 gr ow nd2 hn i f => ?_⟩
    obtain ⟨rfl, rfl⟩ := f
    exact q v G2 H2 (s1.trans gr.gg) (E1.lentBack n hj e gr ow) i
theorem ed_methM {C : Addr} {m : Str} {l : Bool} {a : Addr} {j : Nat} {fs : List (Str × T)} {js : List Nat} {gh : List Gh} (gh' : List Gh) {R : List AO → List T → T → List AO → Prop} {E : XK} {ts : List T} (ho : Ed P w ta Γ (.val (.ref a)) Γ1) (hs : Γ1.g[j]? = some ⟨l, a, .ins C fs⟩) (hm : look fs m = none)
    (h : EdA P w tr Γ1 ts Γ2) (n : js.Nodup) (hj : Lent Γ2.g js gh) (e : gh'.map (fun x => (x.l, x.a)) = gh.map (fun x => (x.l, x.a)))
    (hR : R (gh.map Gh.ao) (.val (.ref a) :: ts) t (gh'.map Gh.ao)) : Ed P w (tMeth C m (spM P w R) [] E ta tr) Γ t ⟨Γ2.s, setAll Γ2.g js gh'⟩ := fun W σ G H En Q q =>
  ho W σ G H En _ fun v G1 H1 s1 E1 i => by
    cases i
    obtain ⟨_, ⟨dx, fv, h1, h2, h3⟩, _⟩ := E1.gh _ (List.mem_of_getElem? hs)
    refine ⟨_, _, _, rfl, h1, names_none h2 h3 hm, h W σ G1 H1 E1 _ fun vs G2 H2 s2 E2 is => ?_⟩
    refine ⟨G2, gh.map Gh.ao, _, _, E2.base, by rw [List.append_nil]; exact .cons (.val _) is, owns_of E2 hj, nd_of E2 n hj, ⟨t, gh'.map Gh.ao, hR, rfl⟩, fun v t2 gs2 G3 H3 gr ow nd2 hn i f => ?_⟩
    obtain ⟨rfl, rfl⟩ := f
    exact q v G3 H3 ((s1.trans s2).trans gr.gg) (E2.lentBack n hj e gr ow) i
/-- C(..) by an __init__ that is told so -/
theorem en_make {C : Addr} {R : List AO → List T → T → List AO → Prop} {E : XK} {ts : List T} {fs : List (Str × T)} (h : EdA P w tr Γ ts Γ1) (hR : ∀ p, R [(p, .ins C [])] (.val (.ref p) :: ts) .non [(p, .ins C fs)]) :
    EdN P w (tMake C (spM P w R) [] E tr) Γ (.ins C fs) Γ1 := fun W σ G H En Q q =>
  h W σ G H En _ fun vs G1 H1 s1 E1 is p dx hp hdx hne => by
    have s2 : Same H1 (upd (upd H1 dx (.own p)) p (.ins C dx [])) := fun b u e => by
      rw [upd_ne (ne_of_none e hp), upd_ne (ne_of_none e hdx)]
      exact e
    obtain ⟨f1, f2, f3⟩ := E1.fresh hp
    refine ⟨G1, [(p, .ins C [])], _, _, E1.base.trans s2, by rw [List.append_nil]; exact .cons (.val _) is, fun x hx => ?_, by simp, ⟨.non, _, hR p, rfl⟩, fun v t2 gs2 G2 H2 g ow nd2 hn i2 f => ?_⟩
    · rw [List.mem_singleton.mp hx]
      exact ⟨f1, dx, [], upd_same, rfl, .nil⟩
    · obtain ⟨rfl, rfl⟩ := f
      cases i2
      have g2 : Grw G1 H1 G2 H2 := ⟨g.gg, g.gh, fun b u e => g.hh b u (by simpa using ne_of_none e hp) (s2 _ _ e), fun b u e => by
        rcases g.new b u e with q | q
        · exact .inl q
        · exact .inr (s2.free q)⟩
      obtain ⟨o1, o2⟩ := ow _ (List.mem_singleton.mpr rfl)
      exact ⟨rfl, q p G2 H2 (s1.trans g2.gg) ((E1.grow g2).pushG o1 o2 f2 f3)⟩
theorem ed_make {C : Addr} {R : List AO → List T → T → List AO → Prop} {E : XK} {ts : List T} {fs : List (Str × T)} (h : EdA P w tr Γ ts Γ1) (hR : ∀ p, R [(p, .ins C [])] (.val (.ref p) :: ts) .non [(p, .ins C fs)]) : Ed P w (tMake C (spM P w R) [] E tr) Γ (.obj C fs) Γ1 := ed_of_en (en_make h hR)

/-! ### owned things read -/
variable {a : Addr} {l : Bool} {j : Nat}
theorem ed_fldO {C : Addr} {fs : List (Str × T)} {f : Str} (ha : Ed P w ta Γ (.val (.ref a)) Γ1) (hj : Γ1.g[j]? = some ⟨l, a, .ins C fs⟩) (hc : Cls K C) (hn : NoAttr K C f) (e : look fs f = some t) : Ed P w (tFld K ta f) Γ t Γ1 := fun W σ G H E Q q =>
  ha W σ G H E _ fun v G1 H1 s1 E1 i => by
    cases i
    obtain ⟨_, ⟨dx, fv, g1, g2, g3⟩, _⟩ := E1.gh _ (List.mem_of_getElem? hj)
    rcases lookup_rel f g2 g3 with ⟨v, t', e1, e2, i⟩ | ⟨e1, e2⟩
    · rw [e] at e2; cases e2
      exact ⟨a, C, dx, fv, v, rfl, g1, hc, hn, e1, q v G1 H1 s1 E1 i⟩
    · rw [e] at e2; cases e2
theorem ed_ixLO {ts : List T} {i : Int} (ha : Ed P w ta Γ (.val (.ref a)) Γ1) (hb : Ed P w tb Γ1 (.int i) Γ2) (hj : Γ2.g[j]? = some ⟨l, a, .lst ts⟩) (e : atI ts i = some t) : Ed P w (tOp (rIxA P w K) ta tb) Γ t Γ2 := fun W σ G H E Q q =>
  ha W σ G H E _ fun v G1 H1 s1 E1 iv => hb W σ G1 H1 E1 _ fun u G2 H2 s2 E2 iu => by
    cases iv
    cases iu
    obtain ⟨_, ⟨vs, h3, h5⟩, _⟩ := E2.gh _ (List.mem_of_getElem? hj)
    obtain ⟨u, e1, e2⟩ := atI_rel h5 e
    exact .inl ⟨a, vs, i, u, rfl, rfl, SqL.of h3, e1, q u G2 H2 (s1.trans s2) E2 e2⟩
theorem ed_lenLO {ts : List T} (h : EdA P w tr Γ [.val (.ref a)] Γ1) (hj : Γ1.g[j]? = some ⟨l, a, .lst ts⟩) : Ed P w (tCB (rLenA K) tr) Γ (.int (ts.length : Nat)) Γ1 := fun W σ G H E Q q =>
  h W σ G H E _ fun vs G1 H1 s1 E1 is => by
    cases is with
    | cons i1 i2 =>
      cases i1; cases i2
      obtain ⟨_, ⟨vs, h3, h5⟩, _⟩ := E1.gh _ (List.mem_of_getElem? hj)
      refine .inl ⟨a, vs, rfl, .inl (SqL.of h3), ?_⟩
      rw [h5.length]
      exact q _ G1 H1 s1 E1 (.int _)
theorem ed_ixNO {kvs : List (Leaf × T)} {k : Leaf} (ha : Ed P w ta Γ (.val (.ref a)) Γ1) (hb : Ed P w tb Γ1 (lT k) Γ2) (hj : Γ2.g[j]? = some ⟨l, a, .ndc kvs⟩) (e : look kvs k = some t) : Ed P w (tOp (rIxA P w K) ta tb) Γ t Γ2 := fun W σ G H E Q q =>
  ha W σ G H E _ fun v G1 H1 s1 E1 iv => hb W σ G1 H1 E1 _ fun u G2 H2 s2 E2 iu => by
    cases iv
    rw [is_lT iu]
    obtain ⟨_, ⟨ps, h3, h5, h6⟩, _⟩ := E2.gh _ (List.mem_of_getElem? hj)
    rcases ndc_get (k := k) h3 h5 h6 with ⟨u, t', g, e2, i2⟩ | ⟨g, e2⟩
    · rw [e] at e2; cases e2
      exact .inr (.inr ⟨a, u, rfl, g, q u G2 H2 (s1.trans s2) E2 i2⟩)
    · rw [e] at e2; cases e2
theorem ed_ixDO {kvs : List (Str × T)} {k : Str} (ha : Ed P w ta Γ (.val (.ref a)) Γ1) (hb : Ed P w tb Γ1 (.str k) Γ2) (hj : Γ2.g[j]? = some ⟨l, a, .dic kvs⟩) (e : look kvs k = some t) : Ed P w (tOp (rIxA P w K) ta tb) Γ t Γ2 := fun W σ G H E Q q =>
  ha W σ G H E _ fun v G1 H1 s1 E1 iv => hb W σ G1 H1 E1 _ fun u G2 H2 s2 E2 iu => by
    cases iv
    cases iu
    obtain ⟨_, ⟨ps, h3, h5, h6⟩, _⟩ := E2.gh _ (List.mem_of_getElem? hj)
    rcases dic_get (k := k) h3 h5 h6 with ⟨u, t', g, e2, i2⟩ | ⟨g, e2⟩
    · rw [e] at e2; cases e2
      exact .inr (.inr ⟨a, u, rfl, g, q u G2 H2 (s1.trans s2) E2 i2⟩)
    · rw [e] at e2; cases e2
/-- an owned table of pairs -/
theorem own_ptab {G H : Hp} {kvs : List (List Leaf × T)} (s : Same G H) (h : Own P w G H a (.pdc kvs)) : ∃ ps : List (List Leaf × V), PTab P w H a ps ∧ ps.map (·.1) = kvs.map (·.1) ∧ IsAll P w G (ps.map (·.2)) (kvs.map (·.2)) := by
  obtain ⟨xs, h1, h0, h2, h3⟩ := h
  exact ⟨xs.map fun x => (x.1, x.2.2), ⟨xs, rfl, h1, fun x hx => s _ _ (h0 x hx)⟩, by rw [List.map_map]; exact h2, by rw [List.map_map]; exact h3⟩
theorem ed_ixPO {kvs : List (List Leaf × T)} {k : List Leaf} (ha : Ed P w ta Γ (.val (.ref a)) Γ1) (hb : Ed P w tb Γ1 (.tup (k.map lT)) Γ2) (hj : Γ2.g[j]? = some ⟨l, a, .pdc kvs⟩) (e : look kvs k = some t) : Ed P w (tOp (rIxA P w K) ta tb) Γ t Γ2 := fun W σ G H E Q q =>
  ha W σ G H E _ fun v G1 H1 s1 E1 iv => hb W σ G1 H1 E1 _ fun u G2 H2 s2 E2 iu => by
    cases iv
    cases iu with
    | tup f1 f2 =>
      rw [all_lT f2] at f1
      obtain ⟨_, ho, _⟩ := E2.gh _ (List.mem_of_getElem? hj)
      obtain ⟨ps, h1, h2, h3⟩ := own_ptab E2.base ho
      rcases pdc_get (k := k) h1 (E2.base _ _ f1) h2 h3 with ⟨u, t', g, e2, i2⟩ | ⟨g, e2⟩
      · rw [e] at e2; cases e2
        exact .inr (.inr ⟨a, u, rfl, g, q u G2 H2 (s1.trans s2) E2 i2⟩)
      · rw [e] at e2; cases e2
theorem ed_inNO {kvs : List (Leaf × T)} {k : Leaf} (ha : Ed P w ta Γ (lT k) Γ1) (hb : Ed P w tb Γ1 (.val (.ref a)) Γ2) (hj : Γ2.g[j]? = some ⟨l, a, .ndc kvs⟩) : Ed P w (tOp (rInA P w K) ta tb) Γ (.bl (look kvs k).isSome) Γ2 := fun W σ G H E Q q =>
  ha W σ G H E _ fun v G1 H1 s1 E1 iv => hb W σ G1 H1 E1 _ fun u G2 H2 s2 E2 iu => by
    rw [is_lT iv]
    cases iu
    obtain ⟨_, ⟨ps, h3, h5, h6⟩, _⟩ := E2.gh _ (List.mem_of_getElem? hj)
    rcases ndc_get (k := k) h3 h5 h6 with ⟨u, t', g, e2, i2⟩ | ⟨g, e2⟩
    · rw [e2] at q
      exact .inr (.inl ⟨a, _, rfl, g, q _ G2 H2 (s1.trans s2) E2 (.bl _)⟩)
    · rw [e2] at q
      exact .inr (.inl ⟨a, _, rfl, g, q _ G2 H2 (s1.trans s2) E2 (.bl _)⟩)
theorem ed_notInNO {kvs : List (Leaf × T)} {k : Leaf} (ha : Ed P w ta Γ (lT k) Γ1) (hb : Ed P w tb Γ1 (.val (.ref a)) Γ2) (hj : Γ2.g[j]? = some ⟨l, a, .ndc kvs⟩) : Ed P w (tOp (rNotInA P w K) ta tb) Γ (.bl (!(look kvs k).isSome)) Γ2 := fun W σ G H E Q q =>
  ha W σ G H E _ fun v G1 H1 s1 E1 iv => hb W σ G1 H1 E1 _ fun u G2 H2 s2 E2 iu => by
    rw [is_lT iv]
    cases iu
    obtain ⟨_, ⟨ps, h3, h5, h6⟩, _⟩ := E2.gh _ (List.mem_of_getElem? hj)
    rcases ndc_get (k := k) h3 h5 h6 with ⟨u, t', g, e2, i2⟩ | ⟨g, e2⟩
    · rw [e2] at q
      exact .inr ⟨a, _, rfl, g, q _ G2 H2 (s1.trans s2) E2 (.bl _)⟩
    · rw [e2] at q
      exact .inr ⟨a, _, rfl, g, q _ G2 H2 (s1.trans s2) E2 (.bl _)⟩
theorem ed_inPO {kvs : List (List Leaf × T)} {k : List Leaf} (ha : Ed P w ta Γ (.tup (k.map lT)) Γ1) (hb : Ed P w tb Γ1 (.val (.ref a)) Γ2) (hj : Γ2.g[j]? = some ⟨l, a, .pdc kvs⟩) : Ed P w (tOp (rInA P w K) ta tb) Γ (.bl (look kvs k).isSome) Γ2 := fun W σ G H E Q q =>
  ha W σ G H E _ fun v G1 H1 s1 E1 iv => hb W σ G1 H1 E1 _ fun u G2 H2 s2 E2 iu => by
    cases iu
    cases iv.mono s2 with
    | tup f1 f2 =>
      rw [all_lT f2] at f1
      obtain ⟨_, ho, _⟩ := E2.gh _ (List.mem_of_getElem? hj)
      obtain ⟨ps, h1, h2, h3⟩ := own_ptab E2.base ho
      rcases pdc_get (k := k) h1 (E2.base _ _ f1) h2 h3 with ⟨u, t', g, e2, i2⟩ | ⟨g, e2⟩
      · rw [e2] at q
        exact .inr (.inl ⟨a, _, rfl, g, q _ G2 H2 (s1.trans s2) E2 (.bl _)⟩)
      · rw [e2] at q
        exact .inr (.inl ⟨a, _, rfl, g, q _ G2 H2 (s1.trans s2) E2 (.bl _)⟩)
theorem ed_notInPO {kvs : List (List Leaf × T)} {k : List Leaf} (ha : Ed P w ta Γ (.tup (k.map lT)) Γ1) (hb : Ed P w tb Γ1 (.val (.ref a)) Γ2) (hj : Γ2.g[j]? = some ⟨l, a, .pdc kvs⟩) : Ed P w (tOp (rNotInA P w K) ta tb) Γ (.bl (!(look kvs k).isSome)) Γ2 := fun W σ G H E Q q =>
  ha W σ G H E _ fun v G1 H1 s1 E1 iv => hb W σ G1 H1 E1 _ fun u G2 H2 s2 E2 iu => by
    cases iu
    cases iv.mono s2 with
    | tup f1 f2 =>
      rw [all_lT f2] at f1
      obtain ⟨_, ho, _⟩ := E2.gh _ (List.mem_of_getElem? hj)
      obtain ⟨ps, h1, h2, h3⟩ := own_ptab E2.base ho
      rcases pdc_get (k := k) h1 (E2.base _ _ f1) h2 h3 with ⟨u, t', g, e2, i2⟩ | ⟨g, e2⟩
      · rw [e2] at q
        exact .inr ⟨a, _, rfl, g, q _ G2 H2 (s1.trans s2) E2 (.bl _)⟩
      · rw [e2] at q
        exact .inr ⟨a, _, rfl, g, q _ G2 H2 (s1.trans s2) E2 (.bl _)⟩
theorem ed_inDO {kvs : List (Str × T)} {k : Str} (ha : Ed P w ta Γ (.str k) Γ1) (hb : Ed P w tb Γ1 (.val (.ref a)) Γ2) (hj : Γ2.g[j]? = some ⟨l, a, .dic kvs⟩) : Ed P w (tOp (rInA P w K) ta tb) Γ (.bl (look kvs k).isSome) Γ2 := fun W σ G H E Q q =>
  ha W σ G H E _ fun v G1 H1 s1 E1 iv => hb W σ G1 H1 E1 _ fun u G2 H2 s2 E2 iu => by
    cases iv
    cases iu
    obtain ⟨_, ⟨ps, h3, h5, h6⟩, _⟩ := E2.gh _ (List.mem_of_getElem? hj)
    rcases dic_get (k := k) h3 h5 h6 with ⟨u, t', g, e2, i2⟩ | ⟨g, e2⟩
    · rw [e2] at q
      exact .inr (.inl ⟨a, _, rfl, g, q _ G2 H2 (s1.trans s2) E2 (.bl _)⟩)
    · rw [e2] at q
      exact .inr (.inl ⟨a, _, rfl, g, q _ G2 H2 (s1.trans s2) E2 (.bl _)⟩)
/-- xs.pop(i) of an owned list -/
theorem ed_popAt {ts ts1 : List T} {i : Int} {k : Nat} (ha : Ed P w ta Γ (.val (.ref a)) Γ1) (hj1 : Γ1.g[j]? = some ⟨l, a, .lst ts⟩) (hb : Ed P w tb Γ1 (.int i) Γ2) (hj : Γ2.g[j]? = some ⟨l, a, .lst ts1⟩) (h0 : 0 ≤ i) (hk : i.toNat = k) (e : ts1[k]? = some t) (hl : ts1.length ≤ 1000) :
    Ed P w (tBM K "list" rPopAt ta (tCons tb tNil)) Γ t (Γ2.own j ⟨l, a, .lst (ts1.eraseIdx k)⟩) := fun W σ G H E Q q =>
  ha W σ G H E _ fun v G1 H1 s1 E1 iv => by
    cases iv
    obtain ⟨_, ⟨vs, h3, h5⟩, _⟩ := E1.gh _ (List.mem_of_getElem? hj1)
    refine ⟨.inl ⟨rfl, _, SqL.of h3⟩, hb W σ G1 H1 E1 _ fun v G2 H2 s2 E2 iv => ?_⟩
    cases iv
    obtain ⟨_, ⟨vs', h3', h5'⟩, _⟩ := E2.gh _ (List.mem_of_getElem? hj)
    obtain ⟨u, e1, e2⟩ := h5'.get e
    have hlt : k < ts1.length := (List.getElem?_eq_some_iff.mp e).1
    have hll : vs'.length = ts1.length := h5'.length
    refine ⟨a, vs', i, k, u, rfl, rfl, h3', by omega, by omega, ?_, e1, ?_⟩
    · have : ixN vs'.length i = some k := by unfold ixN; rw [if_pos h0, if_pos (by omega), hk]
      exact (ixN_seq this).1
    · exact q u G2 _ (s1.trans s2) (E2.mut (o' := .lst (ts1.eraseIdx k)) hj ⟨_, upd_same, h5'.eraseIdx k⟩) e2

/-! ### targets -/
theorem eg_name {i : Nat} : EdG P w (gName i) t Γ (Γ.set i t) := fun W σ G H E v iv Q q => q _ (E.setSh iv)
theorem egs_nil : EdGs P w gNil [] Γ Γ := fun W σ G H E vs is Q q => by
  cases is
  exact ⟨rfl, q σ E⟩
theorem egs_cons {g : TG} {gs : TGs} {ts : List T} (h1 : EdG P w g t Γ Γ1) (h2 : EdGs P w gs ts Γ1 Γ2) : EdGs P w (gCons g gs) (t :: ts) Γ Γ2 := fun W σ G H E vs is Q q => by
  cases is with
  | cons a b => exact ⟨_, _, rfl, h1 W σ G H E _ a _ fun σ1 E1 => h2 W σ1 G H E1 _ b Q q⟩
theorem eg_tup {n : Nat} {gs : TGs} {ts : List T} (h : EdGs P w gs ts Γ Γ1) (hn : ts.length = n) : EdG P w (gTup K n gs) (.tup ts) Γ Γ1 := fun W σ G H E v iv Q q => by
  cases iv with
  | tup h1 h2 => exact ⟨_, _, rfl, SqT.of (E.base _ _ h1), by rw [h2.length]; exact hn, h W σ G H E _ h2 Q q⟩

/-! ### statements -/
variable {Nx Nx' : Ev → Prop} {Rt : T → Ev → Prop} {s1 s2 : TS} {tt : TT} {b : Bool}
theorem bd_seq (h1 : Bd P w s1 Γ Nx Rt) (h2 : ∀ Γ', Nx Γ' → Bd P w s2 Γ' Nx' Rt) : Bd P w (tSeq s1 s2) Γ Nx' Rt := fun W σ G H E D qn qr =>
  h1 W σ G H E { D with nx := s2 D } (fun σ' G' H' Γ' sg E' n => h2 Γ' n W σ' G' H' E' D (fun σ2 G2 H2 Γ2 sg2 => qn σ2 G2 H2 Γ2 (sg.trans sg2)) qr) qr
/-- the first statement's end is what the second one begins with -/
theorem bd_then (h1 : Bd P w s1 Γ (fun Γ' => Bd P w s2 Γ' Nx Rt) Rt) : Bd P w (tSeq s1 s2) Γ Nx Rt := bd_seq h1 fun _ h => h
theorem bd_mono {Rt' : T → Ev → Prop} (h : Bd P w s1 Γ Nx Rt) (hn : ∀ Γ', Nx Γ' → Nx' Γ') (hr : ∀ t Γ', Rt t Γ' → Rt' t Γ') : Bd P w s1 Γ Nx' Rt' := fun W σ G H E D qn qr =>
  h W σ G H E D (fun σ' G' H' Γ' sg E' n => qn σ' G' H' Γ' sg E' (hn Γ' n)) fun v σ' G' H' Γ' t E' i r => qr v σ' G' H' Γ' t E' i (hr t Γ' r)
theorem bd_sub (hs : Sub P w Γ Γ1) (h : Bd P w s1 Γ1 Nx Rt) : Bd P w s1 Γ Nx Rt := fun W σ G H E D qn qr => by
  obtain ⟨G1, sg, E1⟩ := hs W σ G H E
  exact h W σ G1 H E1 D (fun σ' G' H' Γ' sg' => qn σ' G' H' Γ' (sg.trans sg')) qr
theorem bd_asg {g : TG} (h : Ed P w te Γ t Γ1) (hg : EdG P w g t Γ1 Γ2) (n : Nx Γ2) : Bd P w (tAsg te g) Γ Nx Rt := fun W σ G H E D qn qr =>
  h W σ G H E _ fun v G1 H1 s1 E1 i => hg W σ G1 H1 E1 v i _ fun σ2 E2 => qn σ2 G1 H1 Γ2 s1 E2 n
theorem bd_asgX {i : Nat} (h : Ex P w te Γ fun t Γ' => Nx (Γ'.set i t)) : Bd P w (tAsg te (gName i)) Γ Nx Rt := fun W σ G H E D qn qr =>
  h W σ G H E _ fun v t Γ1 G1 H1 s1 E1 i n => qn _ G1 H1 _ s1 (E1.setSh i) n
theorem bd_asgN {i : Nat} {o : O} (h : EdN P w te Γ o Γ1) (n : ∀ a, Nx ((Γ1.push ⟨false, a, o⟩).set i (.val (.ref a)))) : Bd P w (tAsg te (gName i)) Γ Nx Rt := bd_asgX (ex_en h n)
theorem bd_drop (h : Ed P w te Γ t Γ1) (n : Nx Γ1) : Bd P w (tDrop te) Γ Nx Rt := fun W σ G H E D qn qr => h W σ G H E _ fun v G1 H1 s1 E1 i => qn σ G1 H1 Γ1 s1 E1 n
theorem bd_dropX (h : Ex P w te Γ fun _ Γ' => Nx Γ') : Bd P w (tDrop te) Γ Nx Rt := fun W σ G H E D qn qr => h W σ G H E _ fun v t Γ1 G1 H1 s1 E1 i n => qn σ G1 H1 Γ1 s1 E1 n
theorem bd_ret (h : Ed P w te Γ t Γ1) (r : Rt t Γ1) : Bd P w (tRet te) Γ Nx Rt := fun W σ G H E D qn qr => h W σ G H E _ fun v G1 H1 s1 E1 i => qr v σ G1 H1 Γ1 t E1 i r
theorem bd_retX (h : Ex P w te Γ Rt) : Bd P w (tRet te) Γ Nx Rt := fun W σ G H E D qn qr => h W σ G H E _ fun v t Γ1 G1 H1 s1 E1 i r => qr v σ G1 H1 Γ1 t E1 i r
theorem bd_if (h : EdT P w tt Γ b Γ1) (h1 : b = true → Bd P w s1 Γ1 Nx Rt) (h2 : b = false → Bd P w s2 Γ1 Nx Rt) : Bd P w (tIfS tt s1 s2) Γ Nx Rt := fun W σ G H E D qn qr => h W σ G H E _ fun G1 H1 sg E1 => by
  cases b with
  | true =>
    show s1 D σ H1
    exact h1 rfl W σ G1 H1 E1 D (fun σ2 G2 H2 Γ2 sg2 => qn σ2 G2 H2 Γ2 (sg.trans sg2)) qr
  | false =>
    show s2 D σ H1
    exact h2 rfl W σ G1 H1 E1 D (fun σ2 G2 H2 Γ2 sg2 => qn σ2 G2 H2 Γ2 (sg.trans sg2)) qr
theorem bd_next (n : Nx Γ) : Bd P w tNext Γ Nx Rt := fun W σ G H E D qn qr => qn σ G H Γ (Same.refl _) E n
/-- a, b = e1, e2 -/
theorem bd_parX {i j : Nat} (h : ExA P w tr Γ fun ts Γ' => ∃ t1 t2, ts = [t1, t2] ∧ Nx ((Γ'.set i t1).set j t2)) : Bd P w (tPar i j tr) Γ Nx Rt := fun W σ G H E D qn qr => h W σ G H E _ fun vs ts Γ1 G1 H1 s1 E1 is f => by
  obtain ⟨t1, t2, rfl, n⟩ := f
  cases is with
  | cons a b =>
    cases b with
    | cons c d =>
      cases d
      exact ⟨_, _, rfl, qn _ G1 H1 _ s1 ((E1.setSh a).setSh c) n⟩
theorem bd_par {i j : Nat} {t1 t2 : T} (h : EdA P w tr Γ [t1, t2] Γ1) (n : Nx ((Γ1.set i t1).set j t2)) : Bd P w (tPar i j tr) Γ Nx Rt := bd_parX (xa_ea h ⟨t1, t2, rfl, n⟩)
theorem bd_par3X {i j k : Nat} (h : ExA P w tr Γ fun ts Γ' => ∃ t1 t2 t3, ts = [t1, t2, t3] ∧ Nx (((Γ'.set i t1).set j t2).set k t3)) : Bd P w (tPar3 i j k tr) Γ Nx Rt := fun W σ G H E D qn qr => h W σ G H E _ fun vs ts Γ1 G1 H1 s1 E1 is f => by
  obtain ⟨t1, t2, t3, rfl, n⟩ := f
  cases is with
  | cons a b =>
    cases b with
    | cons c d =>
      cases d with
      | cons e f =>
        cases f
        exact ⟨_, _, _, rfl, qn _ G1 H1 _ s1 (((E1.setSh a).setSh c).setSh e) n⟩
/-- xs.append(e) of an owned list -/
theorem bd_append {ts ts1 : List T} (ho : Ed P w ta Γ (.val (.ref a)) Γ1) (hj1 : Γ1.g[j]? = some ⟨l, a, .lst ts⟩) (h : Ed P w te Γ1 t Γ2) (hj : Γ2.g[j]? = some ⟨l, a, .lst ts1⟩) (hl : ts1.length < 100000) (n : Nx (Γ2.own j ⟨l, a, .lst (ts1 ++ [t])⟩)) :
    Bd P w (tDrop (tBM K "list" rAppend ta (tCons te tNil))) Γ Nx Rt := fun W σ G H E D qn qr => ho W σ G H E _ fun v G1 H1 s1 E1 i => by
  cases i
  obtain ⟨_, ⟨vs, h3, h5⟩, _⟩ := E1.gh _ (List.mem_of_getElem? hj1)
  refine ⟨.inl ⟨rfl, _, SqL.of h3⟩, h W σ G1 H1 E1 _ fun v G2 H2 s2 E2 iv => ?_⟩
  obtain ⟨_, ⟨vs', h3', h5'⟩, _⟩ := E2.gh _ (List.mem_of_getElem? hj)
  refine ⟨a, vs', v, rfl, rfl, h3', by rw [h5'.length]; exact Nat.lt_of_lt_of_le hl (by decide), ?_⟩
  exact qn _ G2 _ _ (s1.trans s2) (E2.mut (o' := .lst (ts1 ++ [t])) hj ⟨_, upd_same, h5'.append (.cons iv .nil)⟩) n
/-- .. of something new -/
theorem bd_appendX {ts : List T} (ho : Ed P w ta Γ (.val (.ref a)) Γ1) (hj1 : Γ1.g[j]? = some ⟨l, a, .lst ts⟩) (h : Ex P w te Γ1 fun t Γ2 => ∃ ts1, Γ2.g[j]? = some ⟨l, a, .lst ts1⟩ ∧ ts1.length < 100000 ∧ Nx (Γ2.own j ⟨l, a, .lst (ts1 ++ [t])⟩)) :
    Bd P w (tDrop (tBM K "list" rAppend ta (tCons te tNil))) Γ Nx Rt := fun W σ G H E D qn qr => ho W σ G H E _ fun v G1 H1 s1 E1 i => by
  cases i
  obtain ⟨_, ⟨vs, h3, h5⟩, _⟩ := E1.gh _ (List.mem_of_getElem? hj1)
  refine ⟨.inl ⟨rfl, _, SqL.of h3⟩, h W σ G1 H1 E1 _ fun v t Γ2 G2 H2 s2 E2 iv f => ?_⟩
  obtain ⟨ts1, hj, hl, n⟩ := f
  obtain ⟨_, ⟨vs', h3', h5'⟩, _⟩ := E2.gh _ (List.mem_of_getElem? hj)
  refine ⟨a, vs', v, rfl, rfl, h3', by rw [h5'.length]; exact Nat.lt_of_lt_of_le hl (by decide), ?_⟩
  exact qn _ G2 _ _ (s1.trans s2) (E2.mut (o' := .lst (ts1 ++ [t])) hj ⟨_, upd_same, h5'.append (.cons iv .nil)⟩) n
/-- xs[i] = e of an owned list -/
theorem bd_setL {ts1 : List T} {i : Int} {k : Nat} (h : Ed P w te Γ t Γ1) (ho : Ed P w ta Γ1 (.val (.ref a)) Γ2) (hb : Ed P w tb Γ2 (.int i) Γ3) (hj : Γ3.g[j]? = some ⟨l, a, .lst ts1⟩) (hk : ixN ts1.length i = some k) (n : Nx (Γ3.own j ⟨l, a, .lst (ts1.set k t)⟩)) :
    Bd P w (tAsg te (gSub ta tb (rSetA P w))) Γ Nx Rt := fun W σ G H E D qn qr =>
  h W σ G H E _ fun v G1 H1 s1 E1 iv => ho W σ G1 H1 E1 _ fun u G2 H2 s2 E2 iu => hb W σ G2 H2 E2 _ fun k' G3 H3 s3 E3 ik => by
    cases iu
    cases ik
    obtain ⟨_, ⟨vs', h3', h5'⟩, _⟩ := E3.gh _ (List.mem_of_getElem? hj)
    refine .inl ⟨a, vs', i, k, rfl, rfl, h3', by rw [h5'.length]; exact hk, ?_⟩
    exact qn _ G3 _ _ ((s1.trans s2).trans s3) (E3.mut (o' := .lst (ts1.set k t)) hj ⟨_, upd_same, h5'.set k (iv.mono (s2.trans s3))⟩) n
/-- d[k] = e of an owned dict -/
theorem put_own {G H : Hp} {kvs : List (Str × T)} {k : Str} {v : V} {ps : List (Key × V)} (h5 : ps.map (·.1) = kvs.map (fun p => Sum.inr p.1)) (h6 : IsAll P w G (ps.map (·.2)) (kvs.map (·.2))) (iv : Is P w G v t) :
    (putK ps (Sum.inr k) v).map (·.1) = (put kvs k t).map (fun p => Sum.inr p.1) ∧ IsAll P w G ((putK ps (Sum.inr k) v).map (·.2)) ((put kvs k t).map (·.2)) := by
  have h6' : IsAll P w G (ps.map (·.2)) ((kvs.map fun p => ((Sum.inr p.1 : Key), p.2)).map (·.2)) := by rw [inr_vals]; exact h6
  obtain ⟨r1, r2⟩ := put_rel (Sum.inr k) (inr_keys h5) h6' iv
  rw [put_inr] at r1 r2
  rw [inr_vals] at r2
  rw [List.map_map] at r1
  exact ⟨r1, r2⟩
theorem own_len {G : Hp} {α β : Type} {f : α → V} {g : β → T} {ps : List α} {kvs : List β} (h : IsAll P w G (ps.map f) (kvs.map g)) : ps.length = kvs.length := by
  have := h.length
  rwa [List.length_map, List.length_map] at this
theorem bd_putD {kvs : List (Str × T)} {k : Str} (h : Ed P w te Γ t Γ1) (ho : Ed P w ta Γ1 (.val (.ref a)) Γ2) (hb : Ed P w tb Γ2 (.str k) Γ3) (hj : Γ3.g[j]? = some ⟨l, a, .dic kvs⟩) (hl : kvs.length < 100000) (n : Nx (Γ3.own j ⟨l, a, .dic (put kvs k t)⟩)) :
    Bd P w (tAsg te (gSub ta tb (rSetA P w))) Γ Nx Rt := fun W σ G H E D qn qr =>
  h W σ G H E _ fun v G1 H1 s1 E1 iv => ho W σ G1 H1 E1 _ fun u G2 H2 s2 E2 iu => hb W σ G2 H2 E2 _ fun k' G3 H3 s3 E3 ik => by
    cases iu
    cases ik
    obtain ⟨_, ⟨ps, h3', h5', h6'⟩, _⟩ := E3.gh _ (List.mem_of_getElem? hj)
    obtain ⟨r1, r2⟩ := put_own (H := H3) (k := k) h5' h6' (iv.mono (s2.trans s3))
    refine .inr ⟨a, rfl, .inl ⟨_, DPut.k (k := Sum.inr k) h3' (by rw [own_len h6']; exact Nat.lt_of_lt_of_le hl (by decide)), ?_⟩⟩
    exact qn _ G3 _ _ ((s1.trans s2).trans s3) (E3.mut (o' := .dic (put kvs k t)) hj ⟨_, upd_same, r1, r2⟩) n
theorem bd_putN {kvs : List (Leaf × T)} {k : Leaf} (h : Ed P w te Γ t Γ1) (ho : Ed P w ta Γ1 (.val (.ref a)) Γ2) (hb : Ed P w tb Γ2 (lT k) Γ3) (hj : Γ3.g[j]? = some ⟨l, a, .ndc kvs⟩) (hl : kvs.length < 100000) (n : Nx (Γ3.own j ⟨l, a, .ndc (put kvs k t)⟩)) :
    Bd P w (tAsg te (gSub ta tb (rSetA P w))) Γ Nx Rt := fun W σ G H E D qn qr =>
  h W σ G H E _ fun v G1 H1 s1 E1 iv => ho W σ G1 H1 E1 _ fun u G2 H2 s2 E2 iu => hb W σ G2 H2 E2 _ fun k' G3 H3 s3 E3 ik => by
    cases iu
    rw [is_lT ik]
    obtain ⟨_, ⟨ps, h3', h5', h6'⟩, _⟩ := E3.gh _ (List.mem_of_getElem? hj)
    obtain ⟨r1, r2⟩ := put_rel k h5' h6' (iv.mono (s2.trans s3))
    refine .inr ⟨a, rfl, .inr (.inl ⟨ps, k, h3', rfl, by rw [own_len h6']; exact Nat.lt_of_lt_of_le hl (by decide), ?_⟩)⟩
    exact qn _ G3 _ _ ((s1.trans s2).trans s3) (E3.mut (o' := .ndc (put kvs k t)) hj ⟨_, upd_same, r1, r2⟩) n
theorem bd_putP {kvs : List (List Leaf × T)} {k : List Leaf} (h : Ed P w te Γ t Γ1) (ho : Ed P w ta Γ1 (.val (.ref a)) Γ2) (hb : Ed P w tb Γ2 (.tup (k.map lT)) Γ3) (hj : Γ3.g[j]? = some ⟨l, a, .pdc kvs⟩) (hl : kvs.length < 100000) (n : Nx (Γ3.own j ⟨l, a, .pdc (put kvs k t)⟩)) :
    Bd P w (tAsg te (gSub ta tb (rSetA P w))) Γ Nx Rt := fun W σ G H E D qn qr =>
  h W σ G H E _ fun v G1 H1 s1 E1 iv => ho W σ G1 H1 E1 _ fun u G2 H2 s2 E2 iu => hb W σ G2 H2 E2 _ fun k' G3 H3 s3 E3 ik => by
    cases iu
    cases ik with
    | @tup kb kvs' _ f1 f2 =>
      rw [all_lT f2] at f1
      obtain ⟨_, ⟨xs, h3', h0', h5', h6'⟩, _⟩ := E3.gh _ (List.mem_of_getElem? hj)
      have h5'' : (xs.map fun x => (x.1, x.2.2)).map (·.1) = kvs.map (·.1) := by rw [List.map_map]; exact h5'
      have h6'' : IsAll P w G3 ((xs.map fun x => (x.1, x.2.2)).map (·.2)) (kvs.map (·.2)) := by rw [List.map_map]; exact h6'
      obtain ⟨r1, r2⟩ := put_rel k h5'' h6'' (iv.mono (s2.trans s3))
      rw [← putP_keys xs k kb v, List.map_map] at r1 r2
      refine .inr ⟨a, rfl, .inr (.inr ⟨xs, k, kb, h3', fun x hx => E3.base _ _ (h0' x hx), rfl, E3.base _ _ f1, by rw [own_len h6']; exact Nat.lt_of_lt_of_le hl (by decide), ?_⟩)⟩
      refine qn _ G3 _ _ ((s1.trans s2).trans s3) (E3.mut (o' := .pdc (put kvs k t)) hj ⟨_, upd_same, fun x hx => ?_, r1, r2⟩) n
      rcases putP_mem hx with ⟨e1, e2⟩ | ⟨y', hy, e1, e2⟩
      · rw [e1, e2]; exact f1
      · rw [← e1, ← e2]; exact h0' y' hy
/-- self.f = e of an owned instance -/
def putT (f : Str) (t : T) : List (Str × T) → List (Str × T)
  | [] => [(f, t)]
  | (g, x) :: r => if g = f then (g, t) :: r else (g, x) :: putT f t r
theorem putT_rel {G : Hp} {f : Str} {v : V} (i : Is P w G v t) : ∀ {fs : List (Str × V)} {ts : List (Str × T)}, fs.map (·.1) = ts.map (·.1) → IsAll P w G (fs.map (·.2)) (ts.map (·.2)) →
    (putF f v fs).map (·.1) = (putT f t ts).map (·.1) ∧ IsAll P w G ((putF f v fs).map (·.2)) ((putT f t ts).map (·.2))
  | [], [], _, _ => ⟨rfl, .cons i .nil⟩
  | [], _ :: _, e, _ => by simp at e
  | _ :: _, [], e, _ => by simp at e
  | (a, x) :: fs, (c, y) :: ts, e, h => by
    simp only [List.map_cons] at e h
    injection e with e1 e2
    subst e1
    cases h with
    | cons i1 i2 =>
      unfold putF putT
      by_cases z : a = f
      · rw [if_pos z, if_pos z]
        exact ⟨by simp only [List.map_cons]; rw [e2], .cons i i2⟩
      · rw [if_neg z, if_neg z]
        obtain ⟨r1, r2⟩ := putT_rel i e2 i2
        exact ⟨by simp only [List.map_cons]; rw [r1], .cons i1 r2⟩
theorem bd_fld {C : Addr} {fs : List (Str × T)} {f : Str} (hc : Cls K C) (hn : NoAttr K C f) (h : Ed P w te Γ t Γ1) (ho : Ed P w ta Γ1 (.val (.ref a)) Γ2) (hj : Γ2.g[j]? = some ⟨l, a, .ins C fs⟩) (hl : fs.length < 1000) (n : Nx (Γ2.own j ⟨l, a, .ins C (putT f t fs)⟩)) :
    Bd P w (sFld K ta te f) Γ Nx Rt := fun W σ G H E D qn qr =>
  h W σ G H E _ fun v G1 H1 s1 E1 iv => ho W σ G1 H1 E1 _ fun u G2 H2 s2 E2 iu => by
    cases iu
    obtain ⟨_, ⟨dx, fv, h3, h5, h6⟩, _⟩ := E2.gh _ (List.mem_of_getElem? hj)
    obtain ⟨r1, r2⟩ := putT_rel (f := f) (iv.mono s2) h5 h6
    exact ⟨a, C, dx, fv, rfl, h3, hc, hn, by rw [own_len h6]; exact hl, qn _ G2 _ _ (s1.trans s2) (E2.mut (o' := .ins C (putT f t fs)) hj ⟨dx, _, upd_same, r1, r2⟩) n⟩
/-- self.f = something new -/
theorem bd_fldN {C : Addr} {fs : List (Str × T)} {f : Str} {o : O} (hc : Cls K C) (hn : NoAttr K C f) (h : EdN P w te Γ o Γ1) (ho : ∀ d, Ed P w ta (Γ1.push ⟨false, d, o⟩) (.val (.ref a)) (Γ1.push ⟨false, d, o⟩)) (hj : ∀ d, (Γ1.push ⟨false, d, o⟩).g[j]? = some ⟨l, a, .ins C fs⟩) (hl : fs.length < 1000)
    (n : ∀ d, Nx ((Γ1.push ⟨false, d, o⟩).own j ⟨l, a, .ins C (putT f (.val (.ref d)) fs)⟩)) : Bd P w (sFld K ta te f) Γ Nx Rt := fun W σ G H E D qn qr =>
  h W σ G H E _ fun d G1 H1 s1 E1 => bd_fld hc hn (te := tC (.ref d)) ed_val (ho d) (hj d) hl (n d) W σ G1 H1 E1 D (fun σ' G' H' Γ' sg' => qn σ' G' H' Γ' (s1.trans sg')) qr
end
end FK
set_option maxHeartbeats 4000000
/-! FK11: what stands aside stays; loops, comprehensions; a def's promise by its body -/
namespace FK
open PySem L2
section
variable {P : Program} {w : World} {K : PySem.W.Frag}

/-! ### the frame -/
/-- the same place with another entry: what is there now -/
def Wd.here (G H : Hp) (Γ : Ev) : Wd := ⟨H, G, Γ.g.map fun x => (x.l, x.a)⟩
theorem mem_ads {G H : Hp} {Γ : Ev} {b : Addr} (h : b ∈ (Wd.here G H Γ).ads) : ∃ x ∈ Γ.g, x.a = b := by
  obtain ⟨⟨l, a⟩, h1, h2⟩ := List.mem_map.mp h
  obtain ⟨x, hx, e⟩ := List.mem_map.mp h1
  exact ⟨x, hx, (congrArg Prod.snd e).trans h2⟩
theorem Tenv.here {W : Wd} {σ : L2.St} {G H : Hp} {Γ : Ev} (E : Tenv P w W σ G H Γ) : Tenv P w (Wd.here G H Γ) σ G H Γ where
  len := E.len
  base := E.base
  hb := Same.refl _
  up := fun b o q _ => q
  lent := fun b z => by
    obtain ⟨x, hx, rfl⟩ := mem_ads z
    exact (E.gh x hx).2.1.there
  new := fun b o q => .inl q
  sh := E.sh
  gh := fun x hx => ⟨(E.gh x hx).1, (E.gh x hx).2.1, .inl (List.mem_map_of_mem (f := fun x : Gh => (x.l, x.a)) hx)⟩
  sep := E.sep
theorem Tenv.back {W : Wd} {σ σ' : L2.St} {G H G' H' : Hp} {Γ Γ' : Ev} (E : Tenv P w W σ G H Γ) (F : Tenv P w (Wd.here G H Γ) σ' G' H' Γ') : Tenv P w W σ' G' H' Γ' where
  len := F.len
  base := F.base
  hb := E.hb.trans F.hb
  up := fun b o q z => by
    refine F.up b o (E.up b o q z) fun y => ?_
    obtain ⟨x, hx, rfl⟩ := mem_ads y
    rcases (E.gh x hx).2.2 with f4 | f4
    · exact z (List.mem_map_of_mem (f := (·.2)) f4)
    · have f5 := f4.2
      rw [q] at f5; cases f5
  lent := fun b z => by
    by_cases y : b ∈ (Wd.here G H Γ).ads
    · exact F.lent b y
    · obtain ⟨o, q⟩ := E.lent b z
      exact ⟨o, F.up b o q y⟩
  new := fun b o q => by
    rcases F.new b o q with z | z | z
    · exact E.new b o z
    · exact .inr (.inl (E.noHe z))
    · obtain ⟨x, hx, e⟩ := List.mem_map.mp z
      have e1 : x.l = false := congrArg Prod.fst e
      have e2 : x.a = b := congrArg Prod.snd e
      rcases (E.gh x hx).2.2 with f | f
      · rw [e1, e2] at f; exact .inr (.inr f)
      · rw [e2] at f; exact .inr (.inl f.2)
  sh := F.sh
  gh := fun x hx => by
    obtain ⟨f2, f3, f4⟩ := F.gh x hx
    refine ⟨f2, f3, ?_⟩
    rcases f4 with f4 | f4
    · obtain ⟨y, hy, e⟩ := List.mem_map.mp f4
      rw [← show y.l = x.l from congrArg Prod.fst e, ← show y.a = x.a from congrArg Prod.snd e]
      exact (E.gh y hy).2.2
    · exact .inr ⟨f4.1, E.noHe f4.2⟩
  sep := F.sep
/-- an object aside: not of G, not owned -/
theorem Tenv.aside {W : Wd} {σ σ' : L2.St} {G H G' H' : Hp} {Γ Γ' : Ev} (E : Tenv P w W σ G H Γ) (F : Tenv P w (Wd.here G H Γ) σ' G' H' Γ') {D : Addr} {u : HO} (hD : H D = some u) (hG : G D = none)
    (hn : D ∉ Γ.g.map (·.a)) : H' D = some u ∧ G' D = none ∧ D ∉ Γ'.g.map (·.a) := by
  have no : D ∉ (Wd.here G H Γ).ads := fun y => by
    obtain ⟨x, hx, rfl⟩ := mem_ads y
    exact hn (List.mem_map_of_mem (f := (·.a)) hx)
  have h' : H' D = some u := F.up D u hD no
  refine ⟨h', ?_, fun q => ?_⟩
  · cases z : G' D with
    | none => rfl
    | some y =>
      rcases F.new D y z with q | q | q
      · rw [show G D = some y from q] at hG; cases hG
      · rw [show H D = none from q] at hD; cases hD
      · exact absurd (List.mem_map_of_mem (f := (·.2)) q) no
  · obtain ⟨x, hx, rfl⟩ := List.mem_map.mp q
    rcases (F.gh x hx).2.2 with f4 | f4
    · exact no (List.mem_map_of_mem (f := (·.2)) f4)
    · rw [show H x.a = none from f4.2] at hD; cases hD
/-- such an object is changed -/
theorem Tenv.updAside {W : Wd} {σ : L2.St} {G H : Hp} {Γ : Ev} (E : Tenv P w W σ G H Γ) {D : Addr} {u : HO} (hG : G D = none) (he : W.He D = none) (hn : D ∉ Γ.g.map (·.a)) : Tenv P w W σ G (upd H D u) Γ where
  len := E.len
  base := fun b o q => by rw [upd_ne (fun z => by rw [z, hG] at q; cases q)]; exact E.base _ _ q
  hb := E.hb
  up := fun b o q z => by rw [upd_ne (fun y => by rw [y, he] at q; cases q)]; exact E.up b o q z
  lent := fun b z => by
    by_cases y : b = D
    · subst y; exact ⟨_, upd_same⟩
    · rw [upd_ne y]; exact E.lent b z
  new := E.new
  sh := E.sh
  gh := fun x hx => by
    obtain ⟨f2, f3, f4⟩ := E.gh x hx
    refine ⟨f2, f3.at (Same.refl _) fun u' e => ?_, f4⟩
    rw [upd_ne (fun z : x.a = D => hn (by rw [← z]; exact List.mem_map_of_mem (f := (·.a)) hx))]
    exact e
  sep := E.sep

/-! ### what is walked -/
structure WalkT (P : Program) (w : World) (J : It) (n : Nat) (G : Hp) (Y : Nat → T) : Prop where
  goes : ∀ i H, i < n → Same G H → J.go i H
  stops : ∀ H, Same G H → J.stop n H
  yields : ∀ i H x H' Gc, i < n → Same G Gc → Same Gc H → J.yld i H x H' → ∃ G', Grw Gc H G' H' ∧ Is P w G' x (Y i)
def EdI (P : Program) (w : World) (wi : TI) (Γ : Ev) (n : Nat) (Y : Nat → T) (Γ' : Ev) : Prop :=
  ∀ W σ G H, Tenv P w W σ G H Γ → ∀ R : It → Hp → Prop, (∀ J G' H', Same G G' → Tenv P w W σ G' H' Γ' → WalkT P w J n G' Y → R J H') → wi σ H R
variable {Γ Γ1 Γ2 Γ3 : Ev} {ta tb tc te : TE} {t x y z : T} {tr : TA}
theorem getD_of {ts : List T} {i : Nat} (h : i < ts.length) : ts[i]? = some (ts.getD i .non) := by
  rw [List.getD_eq_getElem?_getD, List.getElem?_eq_getElem h]
  rfl
theorem ei_list {ts : List T} (h : Ed P w ta Γ (.lst ts) Γ1) : EdI P w (iList K ta) Γ ts.length (fun i => ts.getD i .non) Γ1 := fun W σ G H E R q => h W σ G H E _ fun v G1 H1 s1 E1 i => by
  cases i with
  | @lst a vs ts h1 h2 =>
    have at_ : ∀ H', Same G1 H' → SqL K H' a vs := fun H' s => SqL.of (s _ _ h1)
    refine ⟨a, rfl, ⟨vs, at_ H1 E1.base⟩, q (Itl K a) G1 H1 s1 E1 ⟨fun i H' hi s => ?_, fun H' s => ?_, fun i H' x H'' Gc hi sg s y => ?_⟩⟩
    · obtain ⟨v, e1, e2⟩ := h2.get (getD_of hi)
      exact ⟨vs, v, at_ H' s, e1⟩
    · exact ⟨vs, at_ H' s, by rw [h2.length]; exact Nat.le_refl _⟩
    · obtain ⟨e, y⟩ := y
      subst e
      obtain ⟨v, e1, e2⟩ := h2.get (getD_of hi)
      have := y vs (at_ _ (sg.trans s))
      rw [e1] at this
      cases this
      exact ⟨Gc, Grw.refl s, e2.mono sg⟩
theorem ei_tup {ts : List T} (h : Ed P w ta Γ (.tup ts) Γ1) : EdI P w (iTup K ta) Γ ts.length (fun i => ts.getD i .non) Γ1 := fun W σ G H E R q => h W σ G H E _ fun v G1 H1 s1 E1 i => by
  cases i with
  | @tup a vs ts h1 h2 =>
    have at_ : ∀ H', Same G1 H' → SqT K H' a vs := fun H' s => SqT.of (s _ _ h1)
    refine ⟨a, rfl, ⟨vs, at_ H1 E1.base⟩, q (Itt K a) G1 H1 s1 E1 ⟨fun i H' hi s => ?_, fun H' s => ?_, fun i H' x H'' Gc hi sg s y => ?_⟩⟩
    · obtain ⟨v, e1, e2⟩ := h2.get (getD_of hi)
      exact ⟨vs, v, at_ H' s, e1⟩
    · exact ⟨vs, at_ H' s, by rw [h2.length]; exact Nat.le_refl _⟩
    · obtain ⟨e, y⟩ := y
      subst e
      obtain ⟨v, e1, e2⟩ := h2.get (getD_of hi)
      have := y vs (at_ _ (sg.trans s))
      rw [e1] at this
      cases this
      exact ⟨Gc, Grw.refl s, e2.mono sg⟩
theorem ei_range1 {j : Int} (h : EdA P w tr Γ [.int j] Γ1) (h1 : -(2 ^ 62) ≤ j) (h2 : j < 2 ^ 62) : EdI P w (iRng1 tr) Γ j.toNat (fun i => .int (0 + (i : Nat))) Γ1 := fun W σ G H E R q => h W σ G H E _ fun vs G1 H1 s1 E1 is => by
  cases is with
  | cons a b =>
    cases b
    cases a
    refine ⟨j, rfl, h1, h2, q _ G1 H1 s1 E1 ⟨fun i H' hi s => hi, fun H' s => Nat.le_refl _, fun i H' x H'' Gc hi sg s y => ?_⟩⟩
    obtain ⟨e1, e2⟩ := y
    subst e1 e2
    exact ⟨Gc, Grw.refl s, .int _⟩
theorem ei_range3 {a b c : Int} {n : Nat} (h : EdA P w tr Γ [.int a, .int b, .int c] Γ1) (hr : RgC a b c n) : EdI P w (iRng3 tr) Γ n (fun i => .int (a + (i : Nat) * c)) Γ1 := fun W σ G H E R q => h W σ G H E _ fun vs G1 H1 s1 E1 is => by
  cases is with
  | cons i1 is =>
    cases is with
    | cons i2 is =>
      cases is with
      | cons i3 is =>
        cases is
        cases i1; cases i2; cases i3
        refine ⟨a, b, c, n, rfl, hr, q _ G1 H1 s1 E1 ⟨fun i H' hi s => hi, fun H' s => Nat.le_refl _, fun i H' x H'' Gc hi sg s y => ?_⟩⟩
        obtain ⟨e1, e2⟩ := y
        subst e1 e2
        exact ⟨Gc, Grw.refl s, .int _⟩
theorem ei_enum {ts : List T} (h : EdA P w tr Γ [.lst ts] Γ1) : EdI P w (iEnum K tr) Γ ts.length (fun i => .tup [.int (i : Nat), ts.getD i .non]) Γ1 := fun W σ G H E R q => h W σ G H E _ fun vs G1 H1 s1 E1 is => by
  cases is with
  | cons i1 is =>
    cases is
    cases i1 with
    | @lst a vs ts h1 h2 =>
      have at_ : ∀ H', Same G1 H' → SqL K H' a vs := fun H' s => SqL.of (s _ _ h1)
      refine ⟨a, vs, rfl, at_ H1 E1.base, q (Ite K a) G1 H1 s1 E1 ⟨fun i H' hi s => ?_, fun H' s => ?_, fun i H' x H'' Gc hi sg s y => ?_⟩⟩
      · obtain ⟨v, e1, e2⟩ := h2.get (getD_of hi)
        exact ⟨vs, v, at_ H' s, e1⟩
      · exact ⟨vs, at_ H' s, by rw [h2.length]; exact Nat.le_refl _⟩
      · obtain ⟨Tp, u, rfl, hT, rfl, y⟩ := y
        obtain ⟨v, e1, e2⟩ := h2.get (getD_of hi)
        have e3 := y vs (at_ _ (sg.trans s))
        rw [e1] at e3
        obtain rfl : v = u := Option.some.inj e3
        have g : Grw Gc H' (upd Gc Tp (.tup [.int (i : Nat), v])) (upd H' Tp (.tup [.int (i : Nat), v])) := Grw.alloc s hT
        exact ⟨_, g, .tup upd_same (.cons (.int _) (.cons ((e2.mono sg).mono g.gg) .nil))⟩
theorem ei_zip {ts ss : List T} (h : EdA P w tr Γ [.lst ts, .lst ss] Γ1) : EdI P w (iZip K tr) Γ (min ts.length ss.length) (fun i => .tup [ts.getD i .non, ss.getD i .non]) Γ1 := fun W σ G H E R q => h W σ G H E _ fun vs G1 H1 s1 E1 is => by
  cases is with
  | cons i1 is =>
    cases is with
    | cons i2 is =>
      cases is
      cases i1 with
      | @lst a vs ts h1 h2 =>
        cases i2 with
        | @lst b us ss f1 f2 =>
          have at_ : ∀ H', Same G1 H' → SqL K H' a vs := fun H' s => SqL.of (s _ _ h1)
          have bt_ : ∀ H', Same G1 H' → SqL K H' b us := fun H' s => SqL.of (s _ _ f1)
          refine ⟨a, b, vs, us, rfl, at_ H1 E1.base, bt_ H1 E1.base, q (Itz K a b) G1 H1 s1 E1 ⟨fun i H' hi s => ?_, fun H' s => ?_, fun i H' x H'' Gc hi sg s y => ?_⟩⟩
          · obtain ⟨v, e1, e2⟩ := h2.get (getD_of (Nat.lt_of_lt_of_le hi (Nat.min_le_left _ _)))
            obtain ⟨u, g1, g2⟩ := f2.get (getD_of (Nat.lt_of_lt_of_le hi (Nat.min_le_right _ _)))
            exact ⟨vs, us, v, u, at_ H' s, bt_ H' s, e1, g1⟩
          · refine ⟨vs, us, at_ H' s, bt_ H' s, ?_⟩
            rw [h2.length, f2.length]
            omega
          · obtain ⟨Tp, x1, x2, rfl, hT, rfl, y1, y2⟩ := y
            obtain ⟨v, e1, e2⟩ := h2.get (getD_of (Nat.lt_of_lt_of_le hi (Nat.min_le_left _ _)))
            obtain ⟨u, g1, g2⟩ := f2.get (getD_of (Nat.lt_of_lt_of_le hi (Nat.min_le_right _ _)))
            have z1 := y1 vs (at_ _ (sg.trans s))
            have z2 := y2 us (bt_ _ (sg.trans s))
            rw [e1] at z1
            rw [g1] at z2
            obtain rfl : v = x1 := Option.some.inj z1
            obtain rfl : u = x2 := Option.some.inj z2
            have g : Grw Gc H' (upd Gc Tp (.tup [v, u])) (upd H' Tp (.tup [v, u])) := Grw.alloc s hT
            exact ⟨_, g, .tup upd_same (.cons ((e2.mono sg).mono g.gg) (.cons ((g2.mono sg).mono g.gg) .nil))⟩
/-- for c in a text -/
theorem ei_str {x : Str} (h : Ed P w ta Γ (.str x) Γ1) : EdI P w (iStr ta) Γ x.cps.size (fun i => .str ⟨#[x.cps.toList.getD i 0]⟩) Γ1 := fun W σ G H E R q => h W σ G H E _ fun v G1 H1 s1 E1 i => by
  cases i
  refine ⟨x, rfl, q _ G1 H1 s1 E1 ⟨fun i H' hi s => hi, fun H' s => Nat.le_refl _, fun i H' y H'' Gc hi sg s z => ?_⟩⟩
  obtain ⟨e1, e2⟩ := z
  subst e1
  refine ⟨Gc, Grw.refl s, ?_⟩
  obtain ⟨c, e3, rfl⟩ := e2
  have : x.cps.toList.getD i 0 = c := by
    rw [List.getD_eq_getElem?_getD, Array.getElem?_toList, e3]
    rfl
  rw [this]
  exact .str _

/-! ### for -/
variable {Nx : Ev → Prop} {Rt : T → Ev → Prop} {wi : TI} {g : TG} {sb : TS} {n : Nat} {Y : Nat → T}
theorem bd_for (Inv : Nat → Ev → Prop) (hi : EdI P w wi Γ n Y Γ1) (h0 : Inv 0 Γ1) (hs : ∀ i Γ', i < n → Inv i Γ' → ∃ Γ'', EdG P w g (Y i) Γ' Γ'' ∧ Bd P w sb Γ'' (Inv (i + 1)) Rt) (hd : ∀ Γ', Inv n Γ' → Nx Γ') :
    Bd P w (tFor wi g sb) Γ Nx Rt := fun W σ G H E D qn qr => hi W σ G H E _ fun J G1 H1 s1 E1 Wk => by
  refine ⟨fun i m σ' H' => m = n - i ∧ i ≤ n ∧ ∃ G' Γ', Same G1 G' ∧ Tenv P w W σ' G' H' Γ' ∧ Inv i Γ', ⟨n, by simp, Nat.zero_le _, G1, Γ1, Same.refl _, E1, h0⟩, ?_⟩
  rintro i m σ' H' ⟨rfl, hin, G', Γ', sg, E', iv⟩
  by_cases hlt : i < n
  · refine .inr ⟨Wk.goes i H' hlt (sg.trans E'.base), fun σ2 H2 => ∃ G2 Γ2, Same G1 G2 ∧ Tenv P w W σ2 G2 H2 Γ2 ∧ Inv (i + 1) Γ2, ?_, fun x H2 y => ?_⟩
    · rintro σ2 H2 ⟨G2, Γ2, a, b, c⟩
      exact ⟨n - (i + 1), by omega, rfl, hlt, G2, Γ2, a, b, c⟩
    · obtain ⟨G2, gr, ix⟩ := Wk.yields i H' x H2 G' hlt sg E'.base y
      obtain ⟨Γ3, hg, hb⟩ := hs i Γ' hlt iv
      refine hg W σ' G2 H2 (E'.grow gr) x ix _ fun σ3 E3 => hb W σ3 G2 H2 E3 _ (fun σ4 G4 H4 Γ4 s4 E4 n4 => ?_) qr
      exact ⟨G4, Γ4, (sg.trans gr.gg).trans s4, E4, n4⟩
  · have e : i = n := by omega
    subst e
    exact .inl ⟨Wk.stops H' (sg.trans E'.base), qn σ' G' H' Γ' (s1.trans sg) E' (hd Γ' iv)⟩

/-! ### while -/
theorem bd_while {tt : TT} (Inv : Nat → Ev → Prop) {m0 : Nat} (h0 : Inv m0 Γ) (hs : ∀ m Γ', Inv m Γ' → ∃ b Γ'', EdT P w tt Γ' b Γ'' ∧ (b = true → Bd P w sb Γ'' (fun Γ3 => ∃ m', m' < m ∧ Inv m' Γ3) Rt) ∧ (b = false → Nx Γ'')) :
    Bd P w (tWhile tt sb) Γ Nx Rt := fun W σ G H E D qn qr => by
  refine ⟨fun m σ' H' => ∃ G' Γ', Same G G' ∧ Tenv P w W σ' G' H' Γ' ∧ Inv m Γ', ⟨m0, G, Γ, Same.refl _, E, h0⟩, ?_⟩
  rintro m σ' H' ⟨G', Γ', sg, E', iv⟩
  obtain ⟨b, Γ2, ht, hT, hF⟩ := hs m Γ' iv
  refine ht W σ' G' H' E' _ fun G2 H2 s2 E2 => ?_
  cases b with
  | true =>
    show ∃ N : L2.St → Hp → Prop, _ ∧ _
    refine ⟨fun σ3 H3 => ∃ m', m' < m ∧ ∃ G3 Γ3, Same G G3 ∧ Tenv P w W σ3 G3 H3 Γ3 ∧ Inv m' Γ3, fun σ3 H3 q => q, hT rfl W σ' G2 H2 E2 _ (fun σ4 G4 H4 Γ4 s4 E4 n4 => ?_) qr⟩
    obtain ⟨m', hm, i4⟩ := n4
    exact ⟨m', hm, G4, Γ4, (sg.trans s2).trans s4, E4, i4⟩
  | false =>
    show D.nx σ' H2
    exact qn σ' G2 H2 Γ2 (sg.trans s2) E2 (hF rfl)
end
end FK
set_option maxHeartbeats 4000000
/-! FK12: comprehensions; a def's promise by its body -/
namespace FK
open PySem L2
section
variable {P : Program} {w : World} {K : PySem.W.Frag} {Γ Γ1 Γ2 Γ3 : Ev} {ta tb tc te : TE} {t x y z : T} {tr : TA}

/-! ### the slots of a comprehension's own names -/
theorem wipe_at {σ : L2.St} {i : Nat} : ∀ {vs : List Nat}, i ∉ vs → (wipe σ vs)[i]? = σ[i]?
  | [], _ => rfl
  | v :: vs, h => by
    unfold wipe
    rw [List.getElem?_set_ne (fun e => h (by rw [e]; exact List.mem_cons_self))]
    exact wipe_at fun q => h (List.mem_cons_of_mem _ q)
theorem wipe_setIn {σ : L2.St} {i : Nat} {o : Option V} : ∀ {vs : List Nat}, i ∈ vs → wipe (σ.set i o) vs = wipe σ vs := by
  intro vs h
  have len : (wipe (σ.set i o) vs).length = (wipe σ vs).length := by rw [wipe_length, wipe_length, List.length_set]
  refine List.ext_getElem? fun j => ?_
  by_cases hj : j ∈ vs
  · have f : ∀ (σ : L2.St) (vs : List Nat), j ∈ vs → (wipe σ vs)[j]? = if j < σ.length then some none else none := by
      intro σ vs
      induction vs with
      | nil => intro q; cases q
      | cons v vs ih =>
        intro q
        unfold wipe
        by_cases e : v = j
        · subst e
          by_cases l : v < σ.length
          · rw [List.getElem?_set_self (by rw [wipe_length]; exact l), if_pos l]
          · rw [if_neg l, List.getElem?_eq_none (by rw [List.length_set, wipe_length]; omega)]
        · rw [List.getElem?_set_ne e]
          exact ih ((List.mem_cons.mp q).resolve_left fun z => e z.symm)
    rw [f _ _ hj, f _ _ hj, List.length_set]
  · rw [wipe_at hj, wipe_at hj]
    have hij : i ≠ j := fun e => hj (e ▸ h)
    rw [List.getElem?_set_ne hij]
def forgetS (Γ : List (Option T)) : List Nat → List (Option T)
  | [] => Γ
  | v :: vs => (forgetS Γ vs).set v none
def forget (Γ : Ev) (vs : List Nat) : Ev := ⟨forgetS Γ.s vs, Γ.g⟩
theorem forget_length (Γ : List (Option T)) : ∀ vs, (forgetS Γ vs).length = Γ.length
  | [] => rfl
  | v :: vs => by unfold forgetS; rw [List.length_set, forget_length Γ vs]
theorem forget_at {Γ : List (Option T)} {i : Nat} {t : T} : ∀ {vs : List Nat}, (forgetS Γ vs)[i]? = some (some t) → i ∉ vs ∧ Γ[i]? = some (some t)
  | [], h => ⟨by simp, h⟩
  | v :: vs, h => by
    unfold forgetS at h
    by_cases z : v = i
    · subst z
      have hl : v < (forgetS Γ vs).length := by
        have := (List.getElem?_eq_some_iff.mp h).1
        rwa [List.length_set] at this
      rw [List.getElem?_set_self hl] at h
      cases h
    · rw [List.getElem?_set_ne z] at h
      obtain ⟨a, b⟩ := forget_at h
      exact ⟨fun q => (List.mem_cons.mp q).elim (fun e => z e.symm) a, b⟩
/-- from slots σ to slots σ' that agree but for vs -/
theorem Tenv.slots {W : Wd} {σ σ' : L2.St} {G H : Hp} {vs : List Nat} (E : Tenv P w W σ G H Γ) (hs : wipe σ vs = wipe σ' vs) : Tenv P w W σ' G H (forget Γ vs) := by
  have at_ : ∀ i, i ∉ vs → σ'[i]? = σ[i]? := fun i hi => by rw [← wipe_at hi, ← hs, wipe_at hi]
  have hlen : σ'.length = σ.length := by rw [← wipe_length σ' vs, ← hs, wipe_length]
  refine ⟨?_, E.base, E.hb, E.up, E.lent, E.new, fun i t q => ?_, E.gh, E.sep⟩
  · show _ = (forgetS Γ.s vs).length
    rw [forget_length, hlen, E.len]
  · obtain ⟨a, b⟩ := forget_at q
    rw [at_ i a]
    exact E.sh i t b
theorem wipe_wipe (σ : L2.St) (vs : List Nat) : wipe (wipe σ vs) vs = wipe σ vs := by
  have : ∀ us : List Nat, (∀ u ∈ us, u ∈ vs) → wipe (wipe σ us) vs = wipe σ vs := by
    intro us
    induction us with
    | nil => intro _; rfl
    | cons u us ih =>
      intro h
      show wipe ((wipe σ us).set u none) vs = wipe σ vs
      rw [wipe_setIn (h u List.mem_cons_self), ih fun v hv => h v (List.mem_cons_of_mem _ hv)]
  exact this vs fun _ h => h
/-- a target that stores its own names alone -/
def EdV (P : Program) (w : World) (g : TG) (t : T) (Γ Γ' : Ev) (vs : List Nat) : Prop :=
  ∀ W σ G H, Tenv P w W σ G H Γ → ∀ v, Is P w G v t → ∀ Q : L2.St → Hp → Prop, (∀ σ', Tenv P w W σ' G H Γ' → wipe σ' vs = wipe σ vs → Q σ' H) → g v σ H Q
def EdVs (P : Program) (w : World) (g : TGs) (ts : List T) (Γ Γ' : Ev) (vs : List Nat) : Prop :=
  ∀ W σ G H, Tenv P w W σ G H Γ → ∀ us, IsAll P w G us ts → ∀ Q : L2.St → Hp → Prop, (∀ σ', Tenv P w W σ' G H Γ' → wipe σ' vs = wipe σ vs → Q σ' H) → g us σ H Q
theorem ev_name {i : Nat} {vs : List Nat} (h : i ∈ vs) : EdV P w (gName i) t Γ (Γ.set i t) vs := fun W σ G H E v iv Q q => q _ (E.setSh iv) (wipe_setIn h)
theorem evs_nil {vs : List Nat} : EdVs P w gNil [] Γ Γ vs := fun W σ G H E us is Q q => by
  cases is
  exact ⟨rfl, q σ E rfl⟩
theorem evs_cons {g : TG} {gs : TGs} {ts : List T} {vs : List Nat} (h1 : EdV P w g t Γ Γ1 vs) (h2 : EdVs P w gs ts Γ1 Γ2 vs) : EdVs P w (gCons g gs) (t :: ts) Γ Γ2 vs := fun W σ G H E us is Q q => by
  cases is with
  | cons a b => exact ⟨_, _, rfl, h1 W σ G H E _ a _ fun σ1 E1 e1 => h2 W σ1 G H E1 _ b Q fun σ2 E2 e2 => q σ2 E2 (e2.trans e1)⟩
theorem ev_tup {n : Nat} {gs : TGs} {ts : List T} {vs : List Nat} (h : EdVs P w gs ts Γ Γ1 vs) (hn : ts.length = n) : EdV P w (gTup K n gs) (.tup ts) Γ Γ1 vs := fun W σ G H E v iv Q q => by
  cases iv with
  | tup h1 h2 => exact ⟨_, _, rfl, SqT.of (E.base _ _ h1), by rw [h2.length]; exact hn, h W σ G H E _ h2 Q q⟩

/-- what a comprehension hands back: Γs i the environment ahead of turn i, ys i what turn i adds -/
def made (ys : Nat → Option T) (n : Nat) : List T := (List.range n).filterMap ys
theorem made_succ (ys : Nat → Option T) (n : Nat) : made ys (n + 1) = made ys n ++ (ys n).toList := by
  unfold made
  rw [List.range_succ, List.filterMap_append]
  cases h : ys n <;> simp [h]
theorem made_le (ys : Nat → Option T) (n : Nat) : (made ys n).length ≤ n := by
  have := List.length_filterMap_le ys (List.range n)
  rwa [List.length_range] at this
variable {wi : TI} {g : TG} {tt : TT} {n : Nat} {Y : Nat → T} {vs : List Nat}
theorem en_lc (Γs : Nat → Ev) (ys : Nat → Option T) (hi : EdI P w wi Γ n Y (Γs 0)) (hn : n ≤ 100000)
    (hs : ∀ i, i < n → ∃ Γa b Γb, EdV P w g (Y i) (forget (Γs i) vs) Γa vs ∧ EdT P w tt Γa b Γb ∧ (b = true → ∃ t Γc, ys i = some t ∧ Ed P w te Γb t Γc ∧ forget Γc vs = Γs (i + 1)) ∧ (b = false → ys i = none ∧ forget Γb vs = Γs (i + 1))) :
    EdN P w (tLc wi g tt te vs) Γ (.lst (made ys n)) (Γs n) := fun W σ G H E Q q => hi W σ G H E _ fun J G1 H1 s1 E1 Wk D hD => by
  have hsz : ∀ k, k ≤ n → (made ys k).length ≤ 100000 := fun k hk => Nat.le_trans (made_le ys k) (by omega)
  obtain ⟨f1, f2, f4⟩ := E1.fresh hD
  refine ⟨fun i m H' => m = n - i ∧ i ≤ n ∧ ∃ G' acc, Same G1 G' ∧ Tenv P w W σ G' H' (Γs i) ∧ H' D = some (.lst acc) ∧ G' D = none ∧ D ∉ (Γs i).g.map (·.a) ∧ IsAll P w G' acc (made ys i),
    ⟨n, by simp, Nat.zero_le _, G1, [], Same.refl _, E1.grow (Grw.side E1.base hD), upd_same, f1, f4, .nil⟩, ?_⟩
  rintro i m H' ⟨rfl, hin, G', acc, sg, E', hDl, hGD, hnD, hacc⟩
  by_cases hlt : i < n
  · refine .inr ⟨Wk.goes i H' hlt (sg.trans E'.base), fun H2 => ∃ G2 acc2, Same G1 G2 ∧ Tenv P w W σ G2 H2 (Γs (i + 1)) ∧ H2 D = some (.lst acc2) ∧ G2 D = none ∧
      D ∉ (Γs (i + 1)).g.map (·.a) ∧ IsAll P w G2 acc2 (made ys (i + 1)), ?_, fun x H2 y => ?_⟩
    · rintro H2 ⟨G2, acc2, a, b, c, d, e, f⟩
      exact ⟨n - (i + 1), by omega, rfl, hlt, G2, acc2, a, b, c, d, e, f⟩
    · obtain ⟨G2, gr, ix⟩ := Wk.yields i H' x H2 G' hlt sg E'.base y
      obtain ⟨Γa, b, Γb, hg, ht, hT, hF⟩ := hs i hlt
      have E2 : Tenv P w W σ G2 H2 (Γs i) := E'.grow gr
      have hD2 : H2 D = some (.lst acc) := gr.hh _ _ hDl
      have hG2 : G2 D = none := by
        cases z : G2 D with
        | none => rfl
        | some u =>
          rcases gr.new D u z with q | q
          · rw [hGD] at q; cases q
          · rw [hDl] at q; cases q
      have E3 : Tenv P w W (wipe σ vs) G2 H2 (forget (Γs i) vs) := E2.slots (wipe_wipe σ vs).symm
      refine hg _ (wipe σ vs) G2 H2 E3.here x ix _ fun σ3 F3 ew => ⟨by rw [ew, wipe_wipe], ?_⟩
      have ew' : wipe σ3 vs = wipe σ vs := by rw [ew, wipe_wipe]
      refine ht _ σ3 G2 H2 F3 _ fun G4 H4 s4 F4 => ?_
      have fin : ∀ {G5 H5 : Hp} {Γ5 : Ev} {acc5 : List V} (F5 : Tenv P w (Wd.here G2 H2 (forget (Γs i) vs)) σ3 G5 H5 Γ5), Same G2 G5 → forget Γ5 vs = Γs (i + 1) → IsAll P w G5 acc5 (made ys (i + 1)) →
          ∃ G2' acc2, Same G1 G2' ∧ Tenv P w W σ G2' (upd H5 D (.lst acc5)) (Γs (i + 1)) ∧ (upd H5 D (.lst acc5)) D = some (.lst acc2) ∧ G2' D = none ∧
            D ∉ (Γs (i + 1)).g.map (·.a) ∧ IsAll P w G2' acc2 (made ys (i + 1)) := fun {G5 H5 Γ5 acc5} F5 s5 e5 i5 => by
        obtain ⟨k1, k2, k3⟩ := E3.aside F5 hD2 hG2 hnD
        have E5 : Tenv P w W σ G5 H5 (Γs (i + 1)) := by
          rw [← e5]
          exact (E3.back F5).slots ew'
        have n5 : D ∉ (Γs (i + 1)).g.map (·.a) := by
          rw [← e5]
          exact k3
        exact ⟨G5, acc5, (sg.trans gr.gg).trans s5, E5.updAside k2 f2 n5, upd_same, k2, n5, i5⟩
      cases b with
      | true =>
        obtain ⟨t, Γc, ey, he, ec⟩ := hT rfl
        show te σ3 H4 _
        refine he _ σ3 G4 H4 F4 _ fun v G5 H5 s5 F5 iv => ?_
        obtain ⟨k1, k2, k3⟩ := E3.aside F5 hD2 hG2 hnD
        have s25 : Same G2 G5 := s4.trans s5
        refine ⟨acc, k1, by rw [hacc.length]; exact Nat.lt_of_le_of_lt (hsz i hin) (by decide), fin F5 s25 ec ?_⟩
        rw [made_succ, ey]
        exact (hacc.mono (gr.gg.trans s25)).append (.cons iv .nil)
      | false =>
        obtain ⟨ey, ec⟩ := hF rfl
        show ∃ G2 acc2, _
        obtain ⟨k1, k2, k3⟩ := E3.aside F4 hD2 hG2 hnD
        have r := fin (acc5 := acc) F4 s4 ec (by
          rw [made_succ, ey]
          have := hacc.mono (gr.gg.trans s4)
          simpa using this)
        have eu : upd H4 D (.lst acc) = H4 := by
          funext b
          by_cases z : b = D
          · subst z; rw [upd_same]; exact k1.symm
          · rw [upd_ne z]
        rw [eu] at r
        exact r
  · have e : i = n := by omega
    subst e
    refine .inl ⟨Wk.stops H' (sg.trans E'.base), q D G' H' (s1.trans sg) (E'.pushG hGD ⟨acc, hDl, hacc⟩ f2 hnD)⟩

/-! ### a def's promise by its body -/
variable {mg : Str → Option Value} {base : Heap}
/-- the environment at a def's entry -/
abbrev entG (N : List Str) (gs : List AO) (ts : List T) : Ev := ⟨ts.map some ++ List.replicate (N.length - ts.length) none, gs.map fun x => ⟨true, x.1, x.2⟩⟩
abbrev entT (N : List Str) (ts : List T) : Ev := entG N [] ts
theorem start_env {G H : Hp} {N : List Str} {us : List V} {ts : List T} {gs : List AO} (s : Same G H) (is : IsAll P w G us ts) (ow : Owns P w G H gs) (nd : (gs.map (·.1)).Nodup) : Tenv P w ⟨H, G, gs.map fun x => (true, x.1)⟩ (start N us) G H (entG N gs ts) := by
  have hlen := is.length
  refine ⟨?_, s, Same.refl _, fun b o q _ => q, fun b z => ?_, fun b o q => .inl q, fun i t q => ?_, fun x hx => ?_, ?_⟩
  · unfold L2.start
    show _ = (ts.map some ++ List.replicate (N.length - ts.length) none).length
    simp only [List.length_append, List.length_map, List.length_replicate, hlen]
  · obtain ⟨p, hp, e⟩ := List.mem_map.mp z
    obtain ⟨x, hx, rfl⟩ := List.mem_map.mp hp
    cases e
    exact (ow x hx).2.there
  · have q : (ts.map some ++ List.replicate (N.length - ts.length) none)[i]? = some (some t) := q
    by_cases hi : i < ts.length
    · rw [List.getElem?_append_left (by rw [List.length_map]; exact hi), List.getElem?_map] at q
      cases e : ts[i]? with
      | none => rw [e] at q; cases q
      | some t' =>
        rw [e] at q
        cases q
        obtain ⟨v, e1, e2⟩ := is.get e
        refine ⟨v, ?_, e2⟩
        unfold L2.start
        rw [List.getElem?_append_left (by rw [List.length_map, hlen]; exact hi), List.getElem?_map, e1]
        rfl
    · rw [List.getElem?_append_right (by rw [List.length_map]; omega), List.getElem?_replicate] at q
      split at q <;> cases q
  · obtain ⟨y, hy, rfl⟩ := List.mem_map.mp hx
    exact ⟨(ow y hy).1, (ow y hy).2, .inl (List.mem_map_of_mem (f := fun x : AO => (true, x.1)) hy)⟩
  · show ((gs.map fun x => (⟨true, x.1, x.2⟩ : Gh)).map (·.a)).Nodup
    rw [List.map_map]
    exact nd
theorem grm_of {G H G' H' : Hp} {as : List Addr} {σ' : L2.St} {Γ' : Ev} (E' : Tenv P w ⟨H, G, as.map fun x => (true, x)⟩ σ' G' H' Γ') : Grm as G H G' H' := by
  have mem : ∀ {b : Addr}, b ∈ (⟨H, G, as.map fun x => (true, x)⟩ : Wd).ads ↔ b ∈ as := fun {b} => by
    show b ∈ (as.map fun x => (true, x)).map (·.2) ↔ _
    rw [List.map_map]
    show b ∈ as.map id ↔ _
    rw [List.map_id]
  refine ⟨E'.hb, E'.base, fun b u n q => E'.up b u q (fun z => n (mem.mp z)), fun b z => E'.lent b (mem.mpr z), fun b o q => ?_⟩
  rcases E'.new b o q with z | z | z
  · exact .inl z
  · exact .inr z
  · obtain ⟨x, _, e⟩ := List.mem_map.mp z
    exact absurd (congrArg Prod.fst e) (by intro z; cases z)
theorem grw_of {G H G' H' : Hp} {σ' : L2.St} {Γ' : Ev} (E' : Tenv P w ⟨H, G, []⟩ σ' G' H' Γ') : Grw G H G' H' := by
  have g := grm_of (as := []) E'
  exact ⟨g.gg, g.gh, fun b u e => g.hh b u (by simp) e, g.new⟩
theorem run_T {R : List T → T → Prop} {N : List Str} {ts0 : TS} {us : List V} {H : Hp} {Q : VK} {E : XK} (h : spT P w R us H Q E)
    (hb : ∀ ts r, R ts r → Bd P w ts0 (entT N ts) (fun _ => r = .non) (fun t _ => t = r)) : ts0 { nx := fun _ H' => Q .non H', rt := Q } (start N us) H := by
  obtain ⟨G, ts, r, s, is, hR, q⟩ := h
  refine hb ts r hR ⟨H, G, []⟩ _ G H (start_env (gs := []) s is (fun x hx => nomatch hx) List.nodup_nil) _ (fun σ' G' H' Γ' _ E' n => ?_) fun v σ' G' H' Γ' t E' i e => ?_
  · subst n
    exact q .non G' H' (grw_of E') .non
  · subst e
    exact q v G' H' (grw_of E') i
theorem len_T {R : List T → T → Prop} {n : Nat} (h : ∀ ts t, R ts t → ts.length = n) : ∀ vs H Q E, spT P w R vs H Q E → vs.length = n := fun vs H Q E ⟨G, ts, t, s, is, hR, q⟩ => by rw [is.length]; exact h ts t hR
/-- .. that hands back a new object -/
theorem run_N {R : List T → O → Prop} {N : List Str} {ts0 : TS} {us : List V} {H : Hp} {Q : VK} {E : XK} (h : spN P w R us H Q E)
    (hb : ∀ ts o, R ts o → Bd P w ts0 (entT N ts) (fun _ => False) (fun t Γ' => ∃ a, t = .val (.ref a) ∧ ⟨false, a, o⟩ ∈ Γ'.g)) : ts0 { nx := fun _ H' => Q .non H', rt := Q } (start N us) H := by
  obtain ⟨G, ts, o, s, is, hR, q⟩ := h
  refine hb ts o hR ⟨H, G, []⟩ _ G H (start_env (gs := []) s is (fun x hx => nomatch hx) List.nodup_nil) _ (fun σ' G' H' Γ' _ E' n => n.elim) fun v σ' G' H' Γ' t E' i e => ?_
  obtain ⟨a, rfl, hx⟩ := e
  cases i
  obtain ⟨f1, f2, f3⟩ := E'.gh _ hx
  rcases f3 with f3 | f3
  · exact nomatch f3
  · exact q a G' H' (grw_of E') f3.2 f1 f2
theorem len_N {R : List T → O → Prop} {n : Nat} (h : ∀ ts o, R ts o → ts.length = n) : ∀ vs H Q E, spN P w R vs H Q E → vs.length = n := fun vs H Q E ⟨G, ts, t, s, is, hR, q⟩ => by rw [is.length]; exact h ts t hR
/-- .. that some objects are lent to -/
theorem run_G {R : List AO → List T → (T → List AO → Prop) → Prop} {N : List Str} {ts0 : TS} {us : List V} {H : Hp} {Q : VK} {E : XK} (h : spG P w R us H Q E)
    (hb : ∀ gs ts Φ, R gs ts Φ → Bd P w ts0 (entG N gs ts) (fun Γ' => ∃ gs' rest, Γ'.g.map Gh.ao = gs' ++ rest ∧ Φ .non gs') (fun t Γ' => ∃ gs' rest, Γ'.g.map Gh.ao = gs' ++ rest ∧ Φ t gs')) : ts0 { nx := fun _ H' => Q .non H', rt := Q } (start N us) H := by
  obtain ⟨G, gs, ts, Φ, s, is, ow, nd, hR, q⟩ := h
  have fin : ∀ {v : V} {t : T} {σ' : L2.St} {G' H' : Hp} {Γ' : Ev}, Tenv P w ⟨H, G, gs.map fun x => (true, x.1)⟩ σ' G' H' Γ' → Is P w G' v t → (∃ gs' rest, Γ'.g.map Gh.ao = gs' ++ rest ∧ Φ t gs') → Q v H' := fun {v t σ' G' H' Γ'} E' i ⟨gs', rest, e, f⟩ => by
    have mem : ∀ x ∈ gs', ∃ y ∈ Γ'.g, y.ao = x := fun x hx => List.mem_map.mp (by rw [e]; exact List.mem_append_left _ hx)
    have E2 : Tenv P w ⟨H, G, (gs.map (·.1)).map fun x => (true, x)⟩ σ' G' H' Γ' := by rw [List.map_map]; exact E'
    refine q v t gs' G' H' (grm_of E2) (fun x hx => ?_) ?_ (fun x hx => ?_) i f
    · obtain ⟨y, hy, rfl⟩ := mem x hx
      exact ⟨(E'.gh y hy).1, (E'.gh y hy).2.1⟩
    · have h1 := E'.sep
      have h2 : Γ'.g.map (·.a) = (Γ'.g.map Gh.ao).map (·.1) := by rw [List.map_map]; rfl
      rw [h2, e, List.map_append, List.nodup_append] at h1
      exact h1.1
    · obtain ⟨y, hy, rfl⟩ := mem x hx
      rcases (E'.gh y hy).2.2 with z | z
      · obtain ⟨u, hu, eu⟩ := List.mem_map.mp z
        have e2 : u.1 = y.a := congrArg Prod.snd eu
        exact .inl (by show y.a ∈ _; rw [← e2]; exact List.mem_map_of_mem (f := (·.1)) hu)
      · exact .inr z.2
  refine hb gs ts Φ hR ⟨H, G, gs.map fun x => (true, x.1)⟩ _ G H (start_env s is ow nd) _ (fun σ' G' H' Γ' _ E' n => fin E' .non n) fun v σ' G' H' Γ' t E' i e => fin E' i e
theorem run_M {R : List AO → List T → T → List AO → Prop} {N : List Str} {ts0 : TS} {us : List V} {H : Hp} {Q : VK} {E : XK} (h : spM P w R us H Q E)
    (hb : ∀ gs ts r gs', R gs ts r gs' → Bd P w ts0 (entG N gs ts) (fun Γ' => r = .non ∧ ∃ rest, Γ'.g.map Gh.ao = gs' ++ rest) (fun t Γ' => t = r ∧ ∃ rest, Γ'.g.map Gh.ao = gs' ++ rest)) : ts0 { nx := fun _ H' => Q .non H', rt := Q } (start N us) H :=
  run_G h fun gs ts Φ ⟨r, gs', hR, e⟩ => by
    subst e
    exact bd_mono (hb gs ts r gs' hR) (fun Γ' ⟨n, rest, er⟩ => ⟨gs', rest, er, n.symm, rfl⟩) fun t Γ' ⟨n, rest, er⟩ => ⟨gs', rest, er, n, rfl⟩
theorem len_G {R : List AO → List T → (T → List AO → Prop) → Prop} {n : Nat} (h : ∀ gs ts Φ, R gs ts Φ → ts.length = n) : ∀ vs H Q E, spG P w R vs H Q E → vs.length = n := fun vs H Q E ⟨G, gs, ts, Φ, s, is, ow, nd, hR, q⟩ => by
  rw [is.length]
  exact h gs ts Φ hR
theorem len_M {R : List AO → List T → T → List AO → Prop} {n : Nat} (h : ∀ gs ts t gs', R gs ts t gs' → ts.length = n) : ∀ vs H Q E, spM P w R vs H Q E → vs.length = n := len_G fun gs ts Φ ⟨t, gs', hR, _⟩ => h gs ts t gs' hR
end
end FK
set_option maxHeartbeats 4000000
/-! FK13: what a law's text gives: its defs, classes, constants; trees of this program's data -/
namespace FK
open PySem L2
/-- a target that is a name -/
theorem gn {X : Cx} (i : Nat) {x : Str} {pos : Pos} (hN : X.N.Nodup) (hi : X.N[i]? = some x := by rfl) (hx : Loc X.env.scope x := by first | exact Or.inl rfl | exact Or.inr rfl)
    (hf : X.fn x = true ∨ X.env.scope.names.lookup x = some .local := by first | exact Or.inl rfl | exact Or.inr rfl) : PG X (.Name x pos) (gName i) := pg_name hN hi hx hf
/-- two readings of one expression -/
def tOrE (t u : TE) : TE := fun σ H Q => t σ H Q ∨ u σ H Q
theorem PE.or {X : Cx} {e : Expr} {t u : TE} (h1 : PE X e t) (h2 : PE X e u) : PE X e (tOrE t u) := ⟨fun pins s σ H Q I h => h.elim (fun h => h1.run pins s σ H Q I h) fun h => h2.run pins s σ H Q I h⟩
section
variable {P : Program} {w : World} {K : PySem.W.Frag} {Γ Γ1 : Ev} {ta tb : TE} {t : T} {o : O}
theorem ed_orl (h : Ed P w ta Γ t Γ1) : Ed P w (tOrE ta tb) Γ t Γ1 := fun W σ G H E Q q => .inl (h W σ G H E Q q)
theorem ed_orr (h : Ed P w tb Γ t Γ1) : Ed P w (tOrE ta tb) Γ t Γ1 := fun W σ G H E Q q => .inr (h W σ G H E Q q)
theorem en_orl (h : EdN P w ta Γ o Γ1) : EdN P w (tOrE ta tb) Γ o Γ1 := fun W σ G H E Q q => .inl (h W σ G H E Q q)
theorem en_orr (h : EdN P w tb Γ o Γ1) : EdN P w (tOrE ta tb) Γ o Γ1 := fun W σ G H E Q q => .inr (h W σ G H E Q q)
variable {tt : TT} {b : Bool}
theorem ed_ifp (h : EdT P w tt Γ b Γ1) (h1 : b = true → Ed P w ta Γ1 t Γ1) (h2 : b = false → Ed P w tb Γ1 t Γ1) : Ed P w (tIf tt ta tb) Γ t Γ1 := ed_ifx h h1 h2
/-- a list of ints that stands outside: its length, its items -/
theorem ed_lenQ {a : Addr} {ns : List Int} (h : Ed P w ta Γ (.opq a fun H => SqL K H a (ns.map V.int)) Γ1) : Ed P w (tCB (rLenA K) (tCons ta tNil)) Γ (.int (ns.length : Nat)) Γ1 := fun W σ G H E Q q => h W σ G H E _ fun v G1 H1 s1 E1 i => by
  cases i with
  | opq h1 h2 =>
    refine .inl ⟨a, _, rfl, .inl (h2 _ _ E1.base h1), ?_⟩
    rw [List.length_map]
    exact q _ G1 H1 s1 E1 (.int _)
theorem ed_ixQ {a : Addr} {ns : List Int} {i n : Int} (h : Ed P w ta Γ (.opq a fun H => SqL K H a (ns.map V.int)) Γ1) (hb : Ed P w tb Γ1 (.int i) Γ1) (e : atI ns i = some n) : Ed P w (tOp (rIxA P w K) ta tb) Γ (.int n) Γ1 := ed_op h hb fun G H vx vy s ix iy Q q => by
  cases iy
  cases ix with
  | opq h1 h2 =>
    refine .inl ⟨a, _, i, .int n, rfl, rfl, h2 _ _ s h1, ?_, q _ G H (Grw.refl s) (.int n)⟩
    unfold atI at e ⊢
    rw [List.length_map]
    obtain ⟨j, hj, e⟩ := Option.bind_eq_some_iff.mp e
    rw [hj]
    show (ns.map V.int)[j]? = _
    rw [List.getElem?_map, e]
    rfl
theorem Ed.to {t' : T} (h : Ed P w ta Γ t Γ1) (e : t = t') : Ed P w ta Γ t' Γ1 := e ▸ h
end
/-- a def of the module; a method of a class; a class -/
structure Df (K : PySem.W.Frag) (mg : Str → Option Value) (x qual : Str) (st : Stmt) (ps : List Str) where
  f : Addr
  fd : FuncData
  F : Fun K x qual st f fd
  g : mg x = some (.ref f)
  b : Binds K fd ps []
structure Mt (K : PySem.W.Frag) (C : Addr) (x qual : Str) (st : Stmt) (ps : List Str) where
  f : Addr
  fd : FuncData
  F : Fun K x qual st f fd
  m : Meth K C x f
  b : Binds K fd ps []
structure Cl (K : PySem.W.Frag) (mg : Str → Option Value) (x : Str) where
  C : Addr
  g : mg x = some (.ref C)
  cl : Cls K C
  ins : InsT K C

/-! ### trees -/
abbrev Chk := End × End × Int
abbrev Thing := List (Str × Int)
def cT (c : Chk) : T := .tup [eT c.1, eT c.2.1, .int c.2.2]
def csT (cs : List Chk) : T := .lst (cs.map cT)
def fsT (fs : List Str) : T := .lst (fs.map T.str)
def tT (th : Thing) : T := .dic (th.map fun p => (p.1, T.int p.2))
def oT : Option Nat → T
  | none => .non
  | some i => .int (i : Nat)
def getN (th : Thing) (x : Str) : Option Int := (th.find? fun p => decide (p.1 = x)).map (·.2)
def numAt (th : Thing) : End → Int
  | none => 0
  | some x => (getN th x).getD 0
def Has (th : Thing) (e : End) : Prop := ∀ x, e = some x → ∃ n, getN th x = some n
theorem look_tT (th : Thing) (x : Str) : look (th.map fun p => (p.1, T.int p.2)) x = (getN th x).map T.int := by
  induction th with
  | nil => rfl
  | cons p r ih =>
    rw [List.map_cons]
    by_cases z : p.1 = x
    · simp [look, getN, List.find?_cons, z]
    · have l1 : look ((p.1, T.int p.2) :: r.map fun p => (p.1, T.int p.2)) x = look (r.map fun p => (p.1, T.int p.2)) x := by simp [look, List.find?_cons, z]
      have l2 : getN (p :: r) x = getN r x := by simp [getN, List.find?_cons, z]
      rw [l1, l2, ih]
theorem look_has {th : Thing} {x : Str} (h : Has th (some x)) : look (th.map fun p => (p.1, T.int p.2)) x = some (.int (numAt th (some x))) := by
  obtain ⟨n, e⟩ := h x rfl
  rw [look_tT, e]
  show some (T.int n) = some (T.int ((getN th x).getD 0))
  rw [e]
  rfl
def soB (th : Thing) (c : Chk) : Bool := decide (numAt th c.1 - numAt th c.2.1 ≤ c.2.2)
/-- the count of the first check that isn't so -/
def fwFrom (th : Thing) : Nat → List Chk → Option Nat
  | _, [] => none
  | i, c :: cs => if soB th c then fwFrom th (i + 1) cs else some i
def fw (cs : List Chk) (th : Thing) : Option Nat := fwFrom th 0 cs
theorem fwFrom_pre (th : Thing) : ∀ (pre rest : List Chk) (i : Nat), (∀ c ∈ pre, soB th c = true) → fwFrom th i (pre ++ rest) = fwFrom th (i + pre.length) rest
  | [], rest, i, _ => rfl
  | c :: pre, rest, i, h => by
    rw [List.cons_append]
    show (if soB th c then fwFrom th (i + 1) (pre ++ rest) else some i) = _
    rw [h c List.mem_cons_self, if_pos rfl, fwFrom_pre th pre rest (i + 1) fun d hd => h d (List.mem_cons_of_mem _ hd), List.length_cons]
    congr 1
    omega
end FK
set_option maxHeartbeats 4000000
/-! FM1: chains of checks, the table of least sums, rings; going round -/
namespace FK
section
variable {κ β : Type} [DecidableEq κ]
def getA (kvs : List (κ × β)) (k : κ) : Option β := (kvs.find? fun p => decide (p.1 = k)).map (·.2)
def putA (kvs : List (κ × β)) (k : κ) (b : β) : List (κ × β) := if (kvs.any fun p => decide (p.1 = k)) then kvs.map (fun p => if p.1 = k then (p.1, b) else p) else kvs ++ [(k, b)]
theorem getA_cons (p : κ × β) (r : List (κ × β)) (k : κ) : getA (p :: r) k = if p.1 = k then some p.2 else getA r k := by
  by_cases z : p.1 = k
  · simp [getA, List.find?_cons, z]
  · simp [getA, List.find?_cons, z]
theorem getA_nil (k : κ) : getA ([] : List (κ × β)) k = none := rfl
theorem getA_none {kvs : List (κ × β)} {k : κ} : getA kvs k = none ↔ ¬ (kvs.any fun p => decide (p.1 = k)) = true := by
  induction kvs with
  | nil => simp [getA_nil]
  | cons p r ih =>
    rw [getA_cons]
    by_cases z : p.1 = k
    · simp [z]
    · rw [if_neg z, ih]
      simp [z]
theorem getA_map_put (k j : κ) (b : β) (kvs : List (κ × β)) : getA (kvs.map (fun p => if p.1 = k then (p.1, b) else p)) j = if j = k then (getA kvs j).map fun _ => b else getA kvs j := by
  induction kvs with
  | nil => simp [getA_nil]
  | cons p r ih =>
    rw [List.map_cons, getA_cons, ih, getA_cons]
    by_cases z : p.1 = k
    · rw [if_pos z]
      by_cases y : j = k
      · subst y
        rw [if_pos z, if_pos rfl, if_pos z]
        rfl
      · have y' : ¬ p.1 = j := fun q => y (q.symm.trans z)
        rw [if_neg y', if_neg y, if_neg y, if_neg y']
    · rw [if_neg z]
      by_cases y : p.1 = j
      · have : ¬ j = k := fun q => z (y.trans q)
        rw [if_pos y, if_neg this, if_pos y]
      · rw [if_neg y, if_neg y]
theorem getA_append (xs ys : List (κ × β)) (k : κ) : getA (xs ++ ys) k = (getA xs k).or (getA ys k) := by
  induction xs with
  | nil => simp [getA_nil]
  | cons p r ih =>
    rw [List.cons_append, getA_cons, getA_cons, ih]
    split <;> simp
theorem getA_putA (kvs : List (κ × β)) (k j : κ) (b : β) : getA (putA kvs k b) j = if j = k then some b else getA kvs j := by
  unfold putA
  by_cases z : (kvs.any fun p => decide (p.1 = k)) = true
  · rw [if_pos z, getA_map_put]
    by_cases y : j = k
    · rw [if_pos y, if_pos y]
      subst y
      cases q : getA kvs j with
      | none => exact absurd z (getA_none.mp q)
      | some c => rfl
    · rw [if_neg y, if_neg y]
  · rw [if_neg z, getA_append, getA_cons, getA_nil]
    by_cases y : j = k
    · subst y
      rw [if_pos rfl, if_pos rfl, getA_none.mpr z]
      rfl
    · have y' : ¬ k = j := fun q => y q.symm
      rw [if_neg y, if_neg y']
      simp
theorem putA_length_le (kvs : List (κ × β)) (k : κ) (b : β) : (putA kvs k b).length ≤ kvs.length + 1 := by
  unfold putA
  split <;> simp
theorem getA_mem {kvs : List (κ × β)} {k : κ} {b : β} (h : getA kvs k = some b) : (k, b) ∈ kvs := by
  induction kvs with
  | nil => simp [getA_nil] at h
  | cons p r ih =>
    rw [getA_cons] at h
    by_cases z : p.1 = k
    · rw [if_pos z] at h
      cases h
      subst z
      exact List.mem_cons_self
    · rw [if_neg z] at h
      exact List.mem_cons_of_mem _ (ih h)
end

section
variable {E : Type} [DecidableEq E]
abbrev Ck (E : Type) := E × E × Int
/-- the checks of the counts lead from a to b -/
def Lk (rules : List (Ck E)) : E → List Nat → E → Prop
  | a, [], b => a = b
  | a, i :: is, b => ∃ c, rules[i]? = some c ∧ c.1 = a ∧ Lk rules c.2.1 is b
def num (rules : List (Ck E)) (i : Nat) : Int := (rules[i]?.map (·.2.2)).getD 0
def sumC (rules : List (Ck E)) (cs : List Nat) : Int := (cs.map (num rules)).sum
theorem sumC_cons (rules : List (Ck E)) (i : Nat) (is : List Nat) : sumC rules (i :: is) = num rules i + sumC rules is := by
  simp [sumC]
theorem sumC_append (rules : List (Ck E)) (xs ys : List Nat) : sumC rules (xs ++ ys) = sumC rules xs + sumC rules ys := by
  simp [sumC]
theorem num_of {rules : List (Ck E)} {i : Nat} {c : Ck E} (h : rules[i]? = some c) : num rules i = c.2.2 := by
  simp [num, h]
theorem Lk.append {rules : List (Ck E)} : ∀ {a b c : E} {xs ys : List Nat}, Lk rules a xs b → Lk rules b ys c → Lk rules a (xs ++ ys) c
  | a, b, c, [], ys, h1, h2 => by
    have : a = b := h1
    subst this
    exact h2
  | a, b, c, i :: xs, ys, ⟨d, e1, e2, h⟩, h2 => ⟨d, e1, e2, Lk.append h h2⟩
theorem Lk.split {rules : List (Ck E)} : ∀ {a c : E} {xs ys : List Nat}, Lk rules a (xs ++ ys) c → ∃ b, Lk rules a xs b ∧ Lk rules b ys c
  | a, c, [], ys, h => ⟨a, rfl, h⟩
  | a, c, i :: xs, ys, h => by
    obtain ⟨d, e1, e2, h⟩ := h
    obtain ⟨b, h1, h2⟩ := Lk.split (xs := xs) h
    exact ⟨b, ⟨d, e1, e2, h1⟩, h2⟩
/-- numbers for which all checks are so -/
def Pot (rules : List (Ck E)) (p : E → Int) : Prop := ∀ c ∈ rules, p c.1 - p c.2.1 ≤ c.2.2
theorem Pot.le {rules : List (Ck E)} {p : E → Int} (h : Pot rules p) : ∀ {a b : E} {cs : List Nat}, Lk rules a cs b → p a - p b ≤ sumC rules cs
  | a, b, [], e => by
    have : a = b := e
    subst this
    simp [sumC]
  | a, b, i :: is, ⟨c, e1, e2, k⟩ => by
    have h1 := h c (List.mem_of_getElem? e1)
    have h2 := Pot.le h k
    rw [sumC_cons, num_of e1]
    subst e2
    omega

/-! ### the table -/
structure Cs (E : Type) where
  tab : List ((E × E) × (Int × List Nat))
  ring : Option (List Nat)
def better (s : Cs E) (a b : E) (t : Int) (cs : List Nat) : Cs E :=
  if a = b then (if t < 0 ∧ s.ring = none then { s with ring := some cs } else s)
  else match getA s.tab (a, b) with
    | none => { s with tab := putA s.tab (a, b) (t, cs) }
    | some v => if t < v.1 then { s with tab := putA s.tab (a, b) (t, cs) } else s
def jstep (m one other : E) (s : Cs E) : Cs E :=
  if one ≠ m ∧ other ≠ m then
    match getA s.tab (one, m), getA s.tab (m, other) with
    | some f, some g => better s one other (f.1 + g.1) (f.2 ++ g.2)
    | _, _ => s
  else s
def joinE (ends : List E) (m : E) (s : Cs E) : Cs E := ends.foldl (fun s one => ends.foldl (fun s other => jstep m one other s) s) s
def beginE (rules : List (Ck E)) : Cs E := rules.zipIdx.foldl (fun s p => better s p.1.1 p.1.2.1 p.1.2.2 [p.2]) ⟨[], none⟩
def stepE (ends : List E) (s : Cs E) (m : E) : Cs E := if s.ring = none then joinE ends m s else s
def chainsE (ends : List E) (rules : List (Ck E)) : Cs E := ends.foldl (stepE ends) (beginE rules)

/-! ### its entries are chains -/
structure CInv (rules : List (Ck E)) (s : Cs E) : Prop where
  tab : ∀ a b t cs, getA s.tab (a, b) = some (t, cs) → a ≠ b ∧ cs ≠ [] ∧ Lk rules a cs b ∧ sumC rules cs = t
  ring : ∀ cs, s.ring = some cs → cs ≠ [] ∧ ∃ a, Lk rules a cs a ∧ sumC rules cs < 0
theorem CInv.put {rules : List (Ck E)} {s : Cs E} (I : CInv rules s) {a b : E} {t : Int} {cs : List Nat} (n : a ≠ b) (ne : cs ≠ []) (h : Lk rules a cs b) (e : sumC rules cs = t) : CInv rules { s with tab := putA s.tab (a, b) (t, cs) } := by
  refine ⟨fun a' b' t' cs' q => ?_, I.ring⟩
  have q : getA (putA s.tab (a, b) (t, cs)) (a', b') = some (t', cs') := q
  rw [getA_putA] at q
  by_cases z : (a', b') = (a, b)
  · rw [if_pos z] at q
    cases q
    cases z
    exact ⟨n, ne, h, e⟩
  · rw [if_neg z] at q
    exact I.tab a' b' t' cs' q
theorem CInv.better {rules : List (Ck E)} {s : Cs E} (I : CInv rules s) {a b : E} {t : Int} {cs : List Nat} (ne : cs ≠ []) (h : Lk rules a cs b) (e : sumC rules cs = t) : CInv rules (better s a b t cs) := by
  unfold FK.better
  by_cases z : a = b
  · subst z
    rw [if_pos rfl]
    by_cases y : t < 0 ∧ s.ring = none
    · rw [if_pos y]
      refine ⟨I.tab, fun cs' q => ?_⟩
      cases (show some cs = some cs' from q)
      exact ⟨ne, a, h, by rw [e]; exact y.1⟩
    · rw [if_neg y]
      exact I
  · rw [if_neg z]
    split
    · exact I.put z ne h e
    · split
      · exact I.put z ne h e
      · exact I
theorem CInv.jstep {rules : List (Ck E)} {s : Cs E} (I : CInv rules s) {m one other : E} : CInv rules (jstep m one other s) := by
  unfold FK.jstep
  split
  · split
    · rename_i f g e1 e2
      obtain ⟨_, n1, l1, s1⟩ := I.tab _ _ f.1 f.2 e1
      obtain ⟨_, n2, l2, s2⟩ := I.tab _ _ g.1 g.2 e2
      exact I.better (by simp [n1]) (l1.append l2) (by rw [sumC_append, s1, s2])
    · exact I
  · exact I
theorem foldl_inv {α σ : Type} (Q : σ → Prop) (f : σ → α → σ) (l : List α) (h : ∀ s a, a ∈ l → Q s → Q (f s a)) : ∀ s, Q s → Q (l.foldl f s) := by
  induction l with
  | nil => intro s q; exact q
  | cons a l ih => intro s q; exact ih (fun s b hb => h s b (List.mem_cons_of_mem _ hb)) _ (h s a List.mem_cons_self q)
theorem CInv.join {rules : List (Ck E)} {s : Cs E} (I : CInv rules s) {ends : List E} {m : E} : CInv rules (joinE ends m s) :=
  foldl_inv _ _ _ (fun s one _ q => foldl_inv _ _ _ (fun s other _ q => q.jstep) s q) s I
theorem CInv.begin (rules : List (Ck E)) : CInv rules (beginE rules) := by
  refine foldl_inv (CInv rules) _ _ (fun s p hp I => ?_) _ ⟨fun a b t cs q => by simp [getA_nil] at q, fun cs q => by simp at q⟩
  have e : rules[p.2]? = some p.1 := by
    obtain ⟨c, i⟩ := p
    have := List.mem_zipIdx hp
    simp at this
    obtain ⟨h1, h2⟩ := this
    rw [List.getElem?_eq_getElem h1, h2]
  exact I.better (by simp) ⟨p.1, e, rfl, rfl⟩ (by rw [sumC_cons, num_of e]; simp [sumC])
theorem CInv.chains (ends : List E) (rules : List (Ck E)) : CInv rules (chainsE ends rules) := by
  refine foldl_inv (CInv rules) _ _ (fun s m _ I => ?_) _ (CInv.begin rules)
  unfold stepE
  split
  · exact I.join
  · exact I

/-! ### least sums -/
def dist (s : Cs E) (a b : E) : Option Int := if a = b then some 0 else (getA s.tab (a, b)).map (·.1)
theorem dist_self (s : Cs E) (a : E) : dist s a a = some 0 := by simp [dist]
theorem dist_ne (s : Cs E) {a b : E} (h : a ≠ b) : dist s a b = (getA s.tab (a, b)).map (·.1) := by simp [dist, h]
/-- at most x -/
def Le (o : Option Int) (x : Int) : Prop := ∃ y, o = some y ∧ y ≤ x
theorem Le.mono {o : Option Int} {x y : Int} (h : Le o x) (e : x ≤ y) : Le o y := by
  obtain ⟨z, h1, h2⟩ := h
  exact ⟨z, h1, by omega⟩
theorem better_ring {s : Cs E} {a b : E} {t : Int} {cs : List Nat} (h : (better s a b t cs).ring = none) : s.ring = none ∧ (a = b → 0 ≤ t) := by
  unfold better at h
  by_cases z : a = b
  · rw [if_pos z] at h
    by_cases y : t < 0 ∧ s.ring = none
    · rw [if_pos y] at h
      cases (show some cs = none from h)
    · rw [if_neg y] at h
      exact ⟨h, fun _ => by
        by_cases x : t < 0
        · exact absurd ⟨x, h⟩ y
        · omega⟩
  · rw [if_neg z] at h
    split at h
    · exact ⟨h, fun q => absurd q z⟩
    · split at h
      · exact ⟨h, fun q => absurd q z⟩
      · exact ⟨h, fun q => absurd q z⟩
theorem better_dist {s : Cs E} {a b : E} {t : Int} {cs : List Nat} (n : a ≠ b) (c d : E) : dist (better s a b t cs) c d = if (c, d) = (a, b) then some (match dist s a b with | none => t | some v => if t < v then t else v) else dist s c d := by
  by_cases e : c = d
  · subst e
    have : ¬ (c, c) = (a, b) := fun q => n ((congrArg Prod.fst q).symm.trans (congrArg Prod.snd q))
    rw [if_neg this, dist_self, dist_self]
  · rw [dist_ne _ e, dist_ne _ n]
    unfold better
    rw [if_neg n]
    cases q : getA s.tab (a, b) with
    | none =>
      show (getA (putA s.tab (a, b) (t, cs)) (c, d)).map (·.1) = _
      rw [getA_putA]
      by_cases z : (c, d) = (a, b)
      · rw [if_pos z, if_pos z]; rfl
      · rw [if_neg z, if_neg z, dist_ne _ e]
    | some v =>
      show (getA (if t < v.1 then { s with tab := putA s.tab (a, b) (t, cs) } else s : Cs E).tab (c, d)).map (·.1) = if (c, d) = (a, b) then some (if t < v.1 then t else v.1) else dist s c d
      by_cases y : t < v.1
      · rw [if_pos y, if_pos y]
        show (getA (putA s.tab (a, b) (t, cs)) (c, d)).map (·.1) = _
        rw [getA_putA]
        by_cases z : (c, d) = (a, b)
        · rw [if_pos z, if_pos z]; rfl
        · rw [if_neg z, if_neg z, dist_ne _ e]
      · rw [if_neg y, if_neg y]
        by_cases z : (c, d) = (a, b)
        · rw [if_pos z, z, q]; rfl
        · rw [if_neg z, dist_ne _ e]
theorem better_same {s : Cs E} {a : E} {t : Int} {cs : List Nat} (c d : E) : dist (better s a a t cs) c d = dist s c d := by
  unfold better
  rw [if_pos rfl]
  split
  · rfl
  · rfl
theorem jstep_ring {s : Cs E} {m one other : E} (h : (jstep m one other s).ring = none) : s.ring = none := by
  unfold jstep at h
  split at h
  · split at h
    · exact (better_ring h).1
    · exact h
  · exact h
/-- what joining at m has done to the pairs ps -/
structure Jd (m : E) (s s' : Cs E) (ps : List (E × E)) : Prop where
  le : ∀ a b x, dist s a b = some x → Le (dist s' a b) x
  by_ : ∀ a b x y, (a, b) ∈ ps → dist s a m = some x → dist s m b = some y → Le (dist s' a b) (x + y)
  of : ∀ a b z, dist s' a b = some z → dist s a b = some z ∨ ∃ x y, dist s a m = some x ∧ dist s m b = some y ∧ z = x + y
  row : ∀ b, dist s' m b = dist s m b
  col : ∀ a, dist s' a m = dist s a m
theorem Jd.refl (m : E) (s : Cs E) : Jd m s s [] := ⟨fun a b x h => ⟨x, h, Int.le_refl _⟩, fun a b x y h => (nomatch h), fun a b z h => .inl h, fun _ => rfl, fun _ => rfl⟩
theorem Jd.step {m : E} {s s' : Cs E} {ps : List (E × E)} (J : Jd m s s' ps) (one other : E) (hr : (jstep m one other s').ring = none) : Jd m s (jstep m one other s') (ps ++ [(one, other)]) := by
  have mem : ∀ {a b : E}, (a, b) ∈ ps ++ [(one, other)] → (a, b) ∈ ps ∨ (a = one ∧ b = other) := fun {a b} h => by
    rcases List.mem_append.mp h with h | h
    · exact .inl h
    · have : (a, b) = (one, other) := by simpa using h
      exact .inr ⟨congrArg Prod.fst this, congrArg Prod.snd this⟩
  by_cases z : one ≠ m ∧ other ≠ m
  · have d1 : dist s one m = (getA s'.tab (one, m)).map (·.1) := by rw [← J.col, dist_ne _ z.1]
    have d2 : dist s m other = (getA s'.tab (m, other)).map (·.1) := by rw [← J.row, dist_ne _ (Ne.symm z.2)]
    cases e1 : getA s'.tab (one, m) with
    | none =>
      have es : jstep m one other s' = s' := by unfold jstep; rw [if_pos z]; simp [e1]
      rw [es]
      refine ⟨J.le, fun a b x y h h1 h2 => ?_, J.of, J.row, J.col⟩
      rcases mem h with h | ⟨rfl, rfl⟩
      · exact J.by_ a b x y h h1 h2
      · rw [h1, e1] at d1; cases d1
    | some f =>
      cases e2 : getA s'.tab (m, other) with
      | none =>
        have es : jstep m one other s' = s' := by unfold jstep; rw [if_pos z]; simp [e1, e2]
        rw [es]
        refine ⟨J.le, fun a b x y h h1 h2 => ?_, J.of, J.row, J.col⟩
        rcases mem h with h | ⟨rfl, rfl⟩
        · exact J.by_ a b x y h h1 h2
        · rw [h2, e2] at d2; cases d2
      | some g =>
        have es : jstep m one other s' = better s' one other (f.1 + g.1) (f.2 ++ g.2) := by unfold jstep; rw [if_pos z]; simp [e1, e2]
        rw [es] at hr ⊢
        rw [e1] at d1
        rw [e2] at d2
        have d1 : dist s one m = some f.1 := d1
        have d2 : dist s m other = some g.1 := d2
        by_cases y : one = other
        · subst y
          have h0 : 0 ≤ f.1 + g.1 := (better_ring hr).2 rfl
          have ed : ∀ c d, dist (better s' one one (f.1 + g.1) (f.2 ++ g.2)) c d = dist s' c d := better_same
          refine ⟨fun a b x h => by rw [ed]; exact J.le a b x h, fun a b x y h h1 h2 => ?_, fun a b z h => by rw [ed] at h; exact J.of a b z h, fun b => by rw [ed]; exact J.row b, fun a => by rw [ed]; exact J.col a⟩
          rw [ed]
          rcases mem h with h | ⟨rfl, rfl⟩
          · exact J.by_ a b x y h h1 h2
          · rw [h1] at d1; rw [h2] at d2
            cases d1; cases d2
            exact ⟨0, dist_self _ _, h0⟩
        · have ed : ∀ c d, dist (better s' one other (f.1 + g.1) (f.2 ++ g.2)) c d = if (c, d) = (one, other) then some (match dist s' one other with | none => f.1 + g.1 | some v => if f.1 + g.1 < v then f.1 + g.1 else v) else dist s' c d := better_dist y
          refine ⟨fun a b x h => ?_, fun a b x y' h h1 h2 => ?_, fun a b z' h => ?_, fun b => ?_, fun a => ?_⟩
          · rw [ed]
            obtain ⟨v, e3, e4⟩ := J.le a b x h
            by_cases q : (a, b) = (one, other)
            · rw [if_pos q]
              cases q
              rw [e3]
              refine ⟨_, rfl, ?_⟩
              show (if f.1 + g.1 < v then f.1 + g.1 else v) ≤ x
              split <;> omega
            · rw [if_neg q]
              exact ⟨v, e3, e4⟩
          · rw [ed]
            by_cases q : (a, b) = (one, other)
            · rw [if_pos q]
              cases q
              rw [h1] at d1; rw [h2] at d2
              cases d1; cases d2
              refine ⟨_, rfl, ?_⟩
              cases e3 : dist s' one other with
              | none => exact Int.le_refl _
              | some v =>
                show (if f.1 + g.1 < v then f.1 + g.1 else v) ≤ f.1 + g.1
                by_cases p : f.1 + g.1 < v
                · rw [if_pos p]; exact Int.le_refl _
                · rw [if_neg p]; omega
            · rw [if_neg q]
              rcases mem h with h | ⟨rfl, rfl⟩
              · exact J.by_ a b x y' h h1 h2
              · exact absurd rfl q
          · rw [ed] at h
            by_cases q : (a, b) = (one, other)
            · rw [if_pos q] at h
              cases q
              cases e3 : dist s' one other with
              | none =>
                rw [e3] at h
                cases h
                exact .inr ⟨f.1, g.1, d1, d2, rfl⟩
              | some v =>
                rw [e3] at h
                have h : some (if f.1 + g.1 < v then f.1 + g.1 else v) = some z' := h
                by_cases p : f.1 + g.1 < v
                · rw [if_pos p] at h
                  cases h
                  exact .inr ⟨f.1, g.1, d1, d2, rfl⟩
                · rw [if_neg p] at h
                  cases h
                  exact J.of _ _ _ e3
            · rw [if_neg q] at h
              exact J.of _ _ _ h
          · rw [ed, if_neg (fun q => z.1 (congrArg Prod.fst q).symm)]
            exact J.row b
          · rw [ed, if_neg (fun q => z.2 (congrArg Prod.snd q).symm)]
            exact J.col a
  · have es : jstep m one other s' = s' := by unfold jstep; rw [if_neg z]
    rw [es]
    refine ⟨J.le, fun a b x y h h1 h2 => ?_, J.of, J.row, J.col⟩
    rcases mem h with h | ⟨rfl, rfl⟩
    · exact J.by_ a b x y h h1 h2
    · by_cases q : a = m
      · subst q
        rw [dist_self] at h1
        cases h1
        refine (J.le a b y h2).mono (by omega)
      · have q2 : b = m := by
          by_cases q3 : b = m
          · exact q3
          · exact absurd ⟨q, q3⟩ z
        subst q2
        rw [dist_self] at h2
        cases h2
        exact (J.le a b x h1).mono (by omega)
theorem fold_ring {ps : List (E × E)} {m : E} : ∀ {s : Cs E}, (ps.foldl (fun s p => jstep m p.1 p.2 s) s).ring = none → s.ring = none := by
  induction ps with
  | nil => intro s h; exact h
  | cons p ps ih => intro s h; exact jstep_ring (ih h)
theorem Jd.fold {m : E} {s : Cs E} : ∀ {ps qs : List (E × E)} {s' : Cs E}, Jd m s s' qs → (ps.foldl (fun s p => jstep m p.1 p.2 s) s').ring = none → Jd m s (ps.foldl (fun s p => jstep m p.1 p.2 s) s') (qs ++ ps)
  | [], qs, s', J, h => by simpa using J
  | p :: ps, qs, s', J, h => by
    have h2 : (jstep m p.1 p.2 s').ring = none := fold_ring (ps := ps) h
    have := Jd.fold (ps := ps) (J.step p.1 p.2 h2) h
    simpa using this
def pairs (ends : List E) : List (E × E) := ends.flatMap fun a => ends.map fun b => (a, b)
theorem mem_pairs {ends : List E} {a b : E} (ha : a ∈ ends) (hb : b ∈ ends) : (a, b) ∈ pairs ends := List.mem_flatMap.mpr ⟨a, ha, List.mem_map.mpr ⟨b, hb, rfl⟩⟩
theorem joinE_eq (ends : List E) (m : E) (s : Cs E) : joinE ends m s = (pairs ends).foldl (fun s p => jstep m p.1 p.2 s) s := by
  unfold joinE pairs
  rw [List.foldl_flatMap]
  simp only [List.foldl_map]
theorem joinE_jd {ends : List E} {m : E} {s : Cs E} (h : (joinE ends m s).ring = none) : Jd m s (joinE ends m s) (pairs ends) := by
  rw [joinE_eq] at h ⊢
  have := Jd.fold (ps := pairs ends) (Jd.refl m s) h
  simpa using this
/-- the way over any end of M is no shorter -/
def Tri (ends M : List E) (s : Cs E) : Prop := ∀ m ∈ M, ∀ a ∈ ends, ∀ b ∈ ends, ∀ x y, dist s a m = some x → dist s m b = some y → Le (dist s a b) (x + y)
theorem Tri.join {ends M : List E} {s : Cs E} (h : Tri ends M s) (hM : ∀ m ∈ M, m ∈ ends) {m : E} (hm : m ∈ ends) (hr : (joinE ends m s).ring = none) : Tri ends (m :: M) (joinE ends m s) := by
  have J := joinE_jd hr
  intro k hk a ha b hb x y h1 h2
  rcases List.mem_cons.mp hk with e | hk
  · subst e
    rw [J.col] at h1
    rw [J.row] at h2
    exact J.by_ a b x y (mem_pairs ha hb) h1 h2
  · have hke := hM k hk
    rcases J.of _ _ _ h1 with e1 | ⟨x1, x2, e1, e2, rfl⟩
    · rcases J.of _ _ _ h2 with f1 | ⟨y1, y2, f1, f2, rfl⟩
      · obtain ⟨z, g1, g2⟩ := h k hk a ha b hb x y e1 f1
        exact (J.le a b z g1).mono g2
      · obtain ⟨z, g1, g2⟩ := h k hk a ha m hm x y1 e1 f1
        exact (J.by_ a b z y2 (mem_pairs ha hb) g1 f2).mono (by omega)
    · rcases J.of _ _ _ h2 with f1 | ⟨y1, y2, f1, f2, rfl⟩
      · obtain ⟨z, g1, g2⟩ := h k hk m hm b hb x2 y e2 f1
        exact (J.by_ a b x1 z (mem_pairs ha hb) e1 g1).mono (by omega)
      · obtain ⟨z, g1, g2⟩ := h k hk m hm m hm x2 y1 e2 f1
        rw [dist_self] at g1
        cases g1
        exact (J.by_ a b x1 y2 (mem_pairs ha hb) e1 f2).mono (by omega)
theorem stepE_ring {ends : List E} : ∀ {ms : List E} {s : Cs E}, (ms.foldl (stepE ends) s).ring = none → s.ring = none
  | [], s, h => h
  | m :: ms, s, h => by
    have h2 : (stepE ends s m).ring = none := stepE_ring (ms := ms) h
    unfold stepE at h2
    by_cases z : s.ring = none
    · exact z
    · rw [if_neg z] at h2; exact h2
theorem Tri.steps {ends : List E} : ∀ {ms M : List E} {s : Cs E}, Tri ends M s → (∀ m ∈ M, m ∈ ends) → (∀ m ∈ ms, m ∈ ends) → (ms.foldl (stepE ends) s).ring = none →
    Tri ends (ms.reverse ++ M) (ms.foldl (stepE ends) s) ∧ ∀ a b x, dist s a b = some x → Le (dist (ms.foldl (stepE ends) s) a b) x
  | [], M, s, h, _, _, _ => ⟨h, fun a b x q => ⟨x, q, Int.le_refl _⟩⟩
  | m :: ms, M, s, h, hM, hms, hr => by
    have h1 : (stepE ends s m).ring = none := stepE_ring (ms := ms) hr
    have h0 : s.ring = none := stepE_ring (ms := [m]) h1
    have es : stepE ends s m = joinE ends m s := by unfold stepE; rw [if_pos h0]
    rw [List.foldl_cons] at hr ⊢
    rw [es] at h1 hr ⊢
    have J := joinE_jd h1
    obtain ⟨t1, t2⟩ := Tri.steps (ms := ms) (h.join hM (hms m List.mem_cons_self) h1) (fun k hk => (List.mem_cons.mp hk).elim (fun e => e ▸ hms m List.mem_cons_self) (hM k)) (fun k hk => hms k (List.mem_cons_of_mem _ hk)) hr
    refine ⟨by simpa using t1, fun a b x q => ?_⟩
    obtain ⟨y, f1, f2⟩ := J.le a b x q
    exact (t2 a b y f1).mono f2
theorem better_le {s : Cs E} {a b : E} {t : Int} {cs : List Nat} {c d : E} {x : Int} (h : Le (dist s c d) x) : Le (dist (better s a b t cs) c d) x := by
  by_cases z : a = b
  · subst z; rw [better_same]; exact h
  · rw [better_dist z]
    by_cases y : (c, d) = (a, b)
    · rw [if_pos y]
      cases y
      obtain ⟨v, e1, e2⟩ := h
      rw [e1]
      refine ⟨_, rfl, ?_⟩
      show (if t < v then t else v) ≤ x
      split <;> omega
    · rw [if_neg y]; exact h
theorem begin_le (rules : List (Ck E)) : ∀ c ∈ rules, c.1 ≠ c.2.1 → Le (dist (beginE rules) c.1 c.2.1) c.2.2 := by
  have key : ∀ (l : List (Ck E × Nat)) (s : Cs E) (c : Ck E), c.1 ≠ c.2.1 → (Le (dist s c.1 c.2.1) c.2.2 ∨ ∃ i, (c, i) ∈ l) → Le (dist (l.foldl (fun s p => better s p.1.1 p.1.2.1 p.1.2.2 [p.2]) s) c.1 c.2.1) c.2.2 := by
    intro l
    induction l with
    | nil =>
      intro s c _ h
      rcases h with h | ⟨i, h⟩
      · exact h
      · cases h
    | cons p l ih =>
      intro s c n h
      rw [List.foldl_cons]
      refine ih _ c n ?_
      rcases h with h | ⟨i, h⟩
      · exact .inl (better_le h)
      · rcases List.mem_cons.mp h with e | h
        · subst e
          refine .inl ?_
          rw [better_dist n, if_pos rfl]
          refine ⟨_, rfl, ?_⟩
          show (match dist s c.1 c.2.1 with | none => c.2.2 | some v => if c.2.2 < v then c.2.2 else v) ≤ c.2.2
          split
          · exact Int.le_refl _
          · split <;> omega
        · exact .inr ⟨i, h⟩
  intro c hc n
  obtain ⟨i, hi, e⟩ := List.mem_iff_getElem.mp hc
  exact key _ _ c n (.inr ⟨i, by rw [List.mem_zipIdx_iff_getElem?, List.getElem?_eq_getElem hi, e]⟩)
/-- without a ring: the table is closed, and within the checks -/
theorem chains_tri {ends : List E} {rules : List (Ck E)} (hr : (chainsE ends rules).ring = none) : Tri ends ends (chainsE ends rules) ∧ ∀ c ∈ rules, c.1 ≠ c.2.1 → Le (dist (chainsE ends rules) c.1 c.2.1) c.2.2 := by
  obtain ⟨t1, t2⟩ := Tri.steps (ends := ends) (ms := ends) (M := []) (s := beginE rules) (fun m h => nomatch h) (fun m h => nomatch h) (fun m h => h) hr
  refine ⟨fun m hm => t1 m (by simpa using hm), fun c hc n => ?_⟩
  obtain ⟨x, e1, e2⟩ := begin_le rules c hc n
  exact (t2 _ _ x e1).mono e2

/-! ### a thing -/
def minI (x : Int) (xs : List Int) : Int := xs.foldl (fun m y => if y < m then y else m) x
theorem minI_mem : ∀ (xs : List Int) (x : Int), minI x xs ∈ x :: xs
  | [], x => by simp [minI]
  | y :: xs, x => by
    have := minI_mem xs (if y < x then y else x)
    show minI (if y < x then y else x) xs ∈ _
    rcases List.mem_cons.mp this with e | h
    · rw [e]
      split <;> simp
    · simp [h]
theorem minI_le : ∀ (xs : List Int) (x : Int), ∀ y ∈ x :: xs, minI x xs ≤ y
  | [], x, y, h => by simp at h; subst h; simp [minI]
  | z :: xs, x, y, h => by
    show minI (if z < x then z else x) xs ≤ y
    have h1 := minI_le xs (if z < x then z else x) (if z < x then z else x) List.mem_cons_self
    rcases List.mem_cons.mp h with e | h
    · subst e
      split at h1 <;> rename_i q <;> simp [q] <;> omega
    · rcases List.mem_cons.mp h with e | h
      · subst e
        split at h1 <;> rename_i q <;> simp [q] <;> omega
      · exact minI_le xs _ y (List.mem_cons_of_mem _ h)
def sums (ends : List E) (s : Cs E) (a : E) : List Int := ends.filterMap fun b => (getA s.tab (a, b)).map (·.1)
def low (ends : List E) (s : Cs E) (a : E) : Int := minI 0 (sums ends s a)
theorem low_le {ends : List E} {s : Cs E} {a b : E} {x : Int} (hb : b ∈ ends) (h : dist s a b = some x) : low ends s a ≤ x := by
  by_cases z : a = b
  · subst z
    rw [dist_self] at h
    cases h
    exact minI_le _ _ 0 List.mem_cons_self
  · rw [dist_ne _ z] at h
    exact minI_le _ _ x (List.mem_cons_of_mem _ (List.mem_filterMap.mpr ⟨b, hb, h⟩))
theorem low_le0 {ends : List E} {s : Cs E} {a : E} : low ends s a ≤ 0 := minI_le _ _ 0 List.mem_cons_self
theorem low_of {ends : List E} {rules : List (Ck E)} {s : Cs E} (I : CInv rules s) (a : E) : low ends s a = 0 ∨ ∃ b ∈ ends, dist s a b = some (low ends s a) := by
  rcases List.mem_cons.mp (minI_mem (sums ends s a) 0) with e | h
  · exact .inl e
  · obtain ⟨b, hb, e⟩ := List.mem_filterMap.mp h
    refine .inr ⟨b, hb, ?_⟩
    obtain ⟨v, e1, e2⟩ := Option.map_eq_some_iff.mp e
    have n := (I.tab a b v.1 v.2 e1).1
    rw [dist_ne _ n, e1]
    exact congrArg some e2
theorem low_pot {ends : List E} {rules : List (Ck E)} {s : Cs E} (I : CInv rules s) (t : Tri ends ends s) {a b : E} (ha : a ∈ ends) (hb : b ∈ ends) {x : Int} (h : dist s a b = some x) : low ends s a ≤ x + low ends s b := by
  rcases low_of (ends := ends) I b with e | ⟨c, hc, e⟩
  · rw [e]
    have := low_le hb h
    omega
  · obtain ⟨y, f1, f2⟩ := t b hb a ha c hc x _ h e
    have := low_le hc f1
    omega
theorem chains_pot {ends : List E} {rules : List (Ck E)} (he : ∀ c ∈ rules, c.1 ∈ ends ∧ c.2.1 ∈ ends ∧ c.1 ≠ c.2.1) (hr : (chainsE ends rules).ring = none) : Pot rules (low ends (chainsE ends rules)) := fun c hc => by
  obtain ⟨t1, t2⟩ := chains_tri hr
  obtain ⟨h1, h2, h3⟩ := he c hc
  obtain ⟨x, e1, e2⟩ := t2 c hc h3
  have := low_pot (CInv.chains ends rules) t1 h1 h2 e1
  omega
/-- a ring with a sum below 0, or numbers for which all checks are so -/
theorem ring_none_of_pot {ends : List E} {rules : List (Ck E)} {p : E → Int} (h : Pot rules p) : (chainsE ends rules).ring = none := by
  cases e : (chainsE ends rules).ring with
  | none => rfl
  | some cs =>
    obtain ⟨_, a, l, s⟩ := (CInv.chains ends rules).ring cs e
    have := h.le l
    omega

/-! ### going round -/
def relax (st : List (E × Int) × Bool) (c : Ck E) : List (E × Int) × Bool :=
  match getA st.1 c.1 with
  | none => st
  | some x => match getA st.1 c.2.1 with
    | none => (putA st.1 c.2.1 (x + c.2.2), true)
    | some y => if x + c.2.2 < y then (putA st.1 c.2.1 (x + c.2.2), true) else st
def roundE (cs : List (Ck E)) (f : List (E × Int)) : List (E × Int) × Bool := cs.foldl relax (f, false)
def bf (cs : List (Ck E)) : Nat → List (E × Int) → Option (List (E × Int))
  | 0, _ => none
  | n + 1, f => if (roundE cs f).2 then bf cs n (roundE cs f).1 else some (roundE cs f).1
def goes (cs : List (Ck E)) (n : Nat) (start : E) : Option (List (E × Int)) := bf cs n [(start, 0)]
theorem relax_le {st : List (E × Int) × Bool} {c : Ck E} {v : E} {x : Int} (h : Le (getA st.1 v) x) : Le (getA (relax st c).1 v) x := by
  unfold relax
  cases e1 : getA st.1 c.1 with
  | none => exact h
  | some u =>
    cases e2 : getA st.1 c.2.1 with
    | none =>
      show Le (getA (putA st.1 c.2.1 (u + c.2.2)) v) x
      rw [getA_putA]
      by_cases z : v = c.2.1
      · subst z
        obtain ⟨y, q, _⟩ := h
        rw [e2] at q; cases q
      · rw [if_neg z]; exact h
    | some y =>
      show Le (getA (if u + c.2.2 < y then (putA st.1 c.2.1 (u + c.2.2), true) else st : List (E × Int) × Bool).1 v) x
      by_cases q : u + c.2.2 < y
      · rw [if_pos q]
        show Le (getA (putA st.1 c.2.1 (u + c.2.2)) v) x
        rw [getA_putA]
        by_cases z : v = c.2.1
        · subst z
          obtain ⟨y', q', q2⟩ := h
          rw [e2] at q'
          cases q'
          rw [if_pos rfl]
          exact ⟨_, rfl, by omega⟩
        · rw [if_neg z]; exact h
      · rw [if_neg q]; exact h
theorem relax_by {st : List (E × Int) × Bool} {c : Ck E} {x : Int} (h : Le (getA st.1 c.1) x) : Le (getA (relax st c).1 c.2.1) (x + c.2.2) := by
  obtain ⟨u, e1, hu⟩ := h
  unfold relax
  rw [e1]
  cases e2 : getA st.1 c.2.1 with
  | none =>
    show Le (getA (putA st.1 c.2.1 (u + c.2.2)) c.2.1) (x + c.2.2)
    rw [getA_putA, if_pos rfl]
    exact ⟨_, rfl, by omega⟩
  | some y =>
    show Le (getA (if u + c.2.2 < y then (putA st.1 c.2.1 (u + c.2.2), true) else st : List (E × Int) × Bool).1 c.2.1) (x + c.2.2)
    by_cases q : u + c.2.2 < y
    · rw [if_pos q]
      show Le (getA (putA st.1 c.2.1 (u + c.2.2)) c.2.1) (x + c.2.2)
      rw [getA_putA, if_pos rfl]
      exact ⟨_, rfl, by omega⟩
    · rw [if_neg q]
      exact ⟨y, e2, by omega⟩
theorem fold_relax_le {cs : List (Ck E)} {v : E} {x : Int} : ∀ {st : List (E × Int) × Bool}, Le (getA st.1 v) x → Le (getA (cs.foldl relax st).1 v) x := fun {st} h => foldl_inv (fun st => Le (getA st.1 v) x) _ _ (fun s c _ q => relax_le q) st h
theorem round_by {cs : List (Ck E)} {c : Ck E} (hc : c ∈ cs) : ∀ {st : List (E × Int) × Bool} {x : Int}, Le (getA st.1 c.1) x → Le (getA (cs.foldl relax st).1 c.2.1) (x + c.2.2) := by
  induction cs with
  | nil => cases hc
  | cons d cs ih =>
    intro st x h
    rw [List.foldl_cons]
    rcases List.mem_cons.mp hc with e | hc
    · subst e
      exact fold_relax_le (relax_by h)
    · exact ih hc (relax_le h)
/-- what was found are sums of ways from the start -/
def Snd (rules : List (Ck E)) (start : E) (f : List (E × Int)) : Prop := ∀ v x, getA f v = some x → ∃ w, Lk rules start w v ∧ sumC rules w = x
theorem Snd.relax {rules : List (Ck E)} {start : E} {st : List (E × Int) × Bool} (h : Snd rules start st.1) {c : Ck E} (hc : c ∈ rules) : Snd rules start (relax st c).1 := by
  have new : ∀ u, getA st.1 c.1 = some u → Snd rules start (putA st.1 c.2.1 (u + c.2.2)) := fun u e1 v x q => by
    rw [getA_putA] at q
    by_cases z : v = c.2.1
    · rw [if_pos z] at q
      cases q
      obtain ⟨w, l, s⟩ := h _ _ e1
      obtain ⟨i, hi, ei⟩ := List.mem_iff_getElem.mp hc
      have hi' : rules[i]? = some c := by rw [List.getElem?_eq_getElem hi, ei]
      refine ⟨w ++ [i], l.append ⟨c, hi', rfl, z.symm⟩, ?_⟩
      rw [sumC_append, s, sumC_cons, num_of hi']
      simp [sumC]
    · rw [if_neg z] at q
      exact h v x q
  unfold FK.relax
  cases e1 : getA st.1 c.1 with
  | none => exact h
  | some u =>
    cases e2 : getA st.1 c.2.1 with
    | none => exact new u e1
    | some y =>
      show Snd rules start (if u + c.2.2 < y then (putA st.1 c.2.1 (u + c.2.2), true) else st : List (E × Int) × Bool).1
      by_cases q : u + c.2.2 < y
      · rw [if_pos q]; exact new u e1
      · rw [if_neg q]; exact h
theorem Snd.round {rules : List (Ck E)} {start : E} {f : List (E × Int)} (h : Snd rules start f) : Snd rules start (roundE rules f).1 := foldl_inv (fun st : List (E × Int) × Bool => Snd rules start st.1) _ _ (fun s c hc q => q.relax hc) (f, false) h
/-- changed: something is less than it was -/
theorem round_changed {cs : List (Ck E)} {f : List (E × Int)} (h : (roundE cs f).2 = true) : ∃ v x, getA (roundE cs f).1 v = some x ∧ ∀ y, getA f v = some y → x < y := by
  have key : ∀ (cs : List (Ck E)) (st : List (E × Int) × Bool), (∀ v x, Le (getA f v) x → Le (getA st.1 v) x) → (st.2 = true → ∃ v x, getA st.1 v = some x ∧ ∀ y, getA f v = some y → x < y) → (cs.foldl relax st).2 = true →
      ∃ v x, getA (cs.foldl relax st).1 v = some x ∧ ∀ y, getA f v = some y → x < y := by
    intro cs
    induction cs with
    | nil => intro st _ h1 h2; exact h1 h2
    | cons c cs ih =>
      intro st h0 h1 h2
      rw [List.foldl_cons] at h2 ⊢
      refine ih _ (fun v x q => relax_le (h0 v x q)) (fun q => ?_) h2
      have old : st.2 = true → ∃ v x, getA (relax st c).1 v = some x ∧ ∀ y, getA f v = some y → x < y := fun q => by
        obtain ⟨v, x, e1, e2⟩ := h1 q
        obtain ⟨x', e3, e4⟩ := relax_le (c := c) ⟨x, e1, Int.le_refl _⟩
        exact ⟨v, x', e3, fun y hy => by have := e2 y hy; omega⟩
      cases e1 : getA st.1 c.1 with
      | none =>
        have er : relax st c = st := by unfold relax; rw [e1]
        rw [er] at q
        exact old q
      | some u =>
        cases e2 : getA st.1 c.2.1 with
        | none =>
          have er : relax st c = (putA st.1 c.2.1 (u + c.2.2), true) := by unfold relax; rw [e1, e2]
          rw [er]
          refine ⟨c.2.1, u + c.2.2, by show getA (putA _ _ _) _ = _; rw [getA_putA, if_pos rfl], fun y hy => ?_⟩
          obtain ⟨z, q1, _⟩ := h0 _ y ⟨y, hy, Int.le_refl _⟩
          rw [e2] at q1; cases q1
        | some v =>
          by_cases z : u + c.2.2 < v
          · have er : relax st c = (putA st.1 c.2.1 (u + c.2.2), true) := by unfold relax; rw [e1, e2]; simp [z]
            rw [er]
            refine ⟨c.2.1, u + c.2.2, by show getA (putA _ _ _) _ = _; rw [getA_putA, if_pos rfl], fun y hy => ?_⟩
            obtain ⟨z', q1, q2⟩ := h0 _ y ⟨y, hy, Int.le_refl _⟩
            rw [e2] at q1
            cases q1
            omega
          · have er : relax st c = st := by unfold relax; rw [e1, e2]; simp [z]
            rw [er] at q
            exact old q
  exact key cs (f, false) (fun v x h => h) (fun q => by cases q) h
/-- not changed: all checks are so where they begin -/
theorem round_same {cs : List (Ck E)} {f : List (E × Int)} (h : (roundE cs f).2 = false) : (roundE cs f).1 = f ∧ ∀ c ∈ cs, ∀ x, getA f c.1 = some x → Le (getA f c.2.1) (x + c.2.2) := by
  have once : ∀ (st : List (E × Int) × Bool) (c : Ck E), (relax st c).2 = false → relax st c = st ∧ st.2 = false := fun st c q => by
    cases e1 : getA st.1 c.1 with
    | none =>
      have er : relax st c = st := by unfold relax; rw [e1]
      exact ⟨er, by rw [er] at q; exact q⟩
    | some u =>
      cases e2 : getA st.1 c.2.1 with
      | none =>
        have er : relax st c = (putA st.1 c.2.1 (u + c.2.2), true) := by unfold relax; rw [e1, e2]
        rw [er] at q; cases q
      | some v =>
        by_cases z : u + c.2.2 < v
        · have er : relax st c = (putA st.1 c.2.1 (u + c.2.2), true) := by unfold relax; rw [e1, e2]; simp [z]
          rw [er] at q; cases q
        · have er : relax st c = st := by unfold relax; rw [e1, e2]; simp [z]
          exact ⟨er, by rw [er] at q; exact q⟩
  have key : ∀ (cs : List (Ck E)) (st : List (E × Int) × Bool), (cs.foldl relax st).2 = false → cs.foldl relax st = st ∧ st.2 = false ∧ ∀ c ∈ cs, relax st c = st := by
    intro cs
    induction cs with
    | nil => intro st q; exact ⟨rfl, q, fun c h => nomatch h⟩
    | cons c cs ih =>
      intro st q
      rw [List.foldl_cons] at q
      obtain ⟨i1, i2, i3⟩ := ih _ q
      obtain ⟨o1, o2⟩ := once st c i2
      rw [List.foldl_cons, i1, o1]
      refine ⟨rfl, o2, fun d hd => ?_⟩
      rcases List.mem_cons.mp hd with e | hd
      · subst e; exact o1
      · have := i3 d hd
        rw [o1] at this
        exact this
  obtain ⟨k1, _, k3⟩ := key cs (f, false) h
  refine ⟨congrArg Prod.fst k1, fun c hc x hx => ?_⟩
  have := relax_by (st := (f, false)) (c := c) ⟨x, hx, Int.le_refl _⟩
  rw [k3 c hc] at this
  exact this
/-- the end of going round is closed -/
theorem bf_closed {cs : List (Ck E)} : ∀ {n : Nat} {f r : List (E × Int)}, bf cs n f = some r → (∀ c ∈ cs, ∀ x, getA r c.1 = some x → Le (getA r c.2.1) (x + c.2.2)) ∧ ∀ v x, Le (getA f v) x → Le (getA r v) x
  | 0, f, r, h => by cases h
  | n + 1, f, r, h => by
    unfold bf at h
    cases e : (roundE cs f).2 with
    | true =>
      rw [e, if_pos rfl] at h
      obtain ⟨h1, h2⟩ := bf_closed h
      exact ⟨h1, fun v x q => h2 v x (fold_relax_le q)⟩
    | false =>
      rw [e, if_neg Bool.false_ne_true] at h
      obtain ⟨k1, k2⟩ := round_same e
      cases h
      rw [k1]
      exact ⟨k2, fun v x q => q⟩
theorem closed_le {cs : List (Ck E)} {r : List (E × Int)} (h : ∀ c ∈ cs, ∀ x, getA r c.1 = some x → Le (getA r c.2.1) (x + c.2.2)) : ∀ {w : List Nat} {a b : E} {x : Int}, Lk cs a w b → Le (getA r a) x → Le (getA r b) (x + sumC cs w)
  | [], a, b, x, l, q => by
    have : a = b := l
    subst this
    exact q.mono (by simp [sumC])
  | i :: w, a, b, x, ⟨c, e1, e2, l⟩, q => by
    subst e2
    obtain ⟨y, q1, q2⟩ := q
    have := closed_le h l ((h c (List.mem_of_getElem? e1) y q1).mono (y := x + c.2.2) (by omega))
    rw [sumC_cons, num_of e1]
    exact this.mono (by omega)
/-- with a ring below 0 going round from one of its ends has no end -/
theorem goes_none {cs : List (Ck E)} {n : Nat} {a : E} {w : List Nat} (l : Lk cs a w a) (hs : sumC cs w < 0) : goes cs n a = none := by
  cases e : goes cs n a with
  | none => rfl
  | some r =>
    obtain ⟨h1, h2⟩ := bf_closed e
    have h0 : getA [(a, (0 : Int))] a = some 0 := by rw [getA_cons, if_pos rfl]
    obtain ⟨x, q1, q2⟩ := h2 a 0 ⟨0, h0, Int.le_refl _⟩
    obtain ⟨y, q3, q4⟩ := closed_le h1 l ⟨x, q1, Int.le_refl _⟩
    rw [q1] at q3
    cases q3
    omega

/-! ### ways cut short -/
def verts (rules : List (Ck E)) : E → List Nat → List E
  | a, [] => [a]
  | a, i :: is => a :: (match rules[i]? with | some c => verts rules c.2.1 is | none => [])
theorem mem_verts {rules : List (Ck E)} : ∀ {w : List Nat} {a b u : E}, Lk rules a w b → u ∈ verts rules a w → ∃ w1 w2, w = w1 ++ w2 ∧ Lk rules a w1 u ∧ Lk rules u w2 b
  | [], a, b, u, l, h => by
    have : u = a := by simpa [verts] using h
    subst this
    exact ⟨[], [], rfl, rfl, l⟩
  | i :: is, a, b, u, ⟨c, e1, e2, l⟩, h => by
    have h : u ∈ a :: (match rules[i]? with | some c => verts rules c.2.1 is | none => []) := h
    rw [e1] at h
    rcases List.mem_cons.mp h with e | h
    · subst e
      exact ⟨[], i :: is, rfl, rfl, c, e1, e2, l⟩
    · obtain ⟨w1, w2, f1, f2, f3⟩ := mem_verts l h
      exact ⟨i :: w1, w2, by rw [f1]; rfl, ⟨c, e1, e2, f2⟩, f3⟩
theorem verts_length {rules : List (Ck E)} : ∀ {w : List Nat} {a b : E}, Lk rules a w b → (verts rules a w).length = w.length + 1
  | [], _, _, _ => rfl
  | i :: is, a, b, ⟨c, e1, e2, l⟩ => by
    show (a :: (match rules[i]? with | some c => verts rules c.2.1 is | none => [])).length = _
    rw [e1]
    show (verts rules c.2.1 is).length + 1 = _
    rw [verts_length l]
    rfl
theorem verts_sub {rules : List (Ck E)} {V : List E} (hV : ∀ c ∈ rules, c.1 ∈ V ∧ c.2.1 ∈ V) : ∀ {w : List Nat} {a b : E}, Lk rules a w b → a ∈ V → ∀ u ∈ verts rules a w, u ∈ V
  | [], a, b, l, ha, u, h => by
    have : u = a := by simpa [verts] using h
    rw [this]; exact ha
  | i :: is, a, b, ⟨c, e1, e2, l⟩, ha, u, h => by
    have h : u ∈ a :: (match rules[i]? with | some c => verts rules c.2.1 is | none => []) := h
    rw [e1] at h
    rcases List.mem_cons.mp h with e | h
    · rw [e]; exact ha
    · exact verts_sub hV l (hV c (List.mem_of_getElem? e1)).2 u h
theorem nodup_len {α : Type} [DecidableEq α] : ∀ {l V : List α}, l.Nodup → (∀ a ∈ l, a ∈ V) → l.length ≤ V.length
  | [], V, _, _ => Nat.zero_le _
  | a :: l, V, n, h => by
    rw [List.nodup_cons] at n
    have ha := h a List.mem_cons_self
    have := nodup_len (l := l) (V := V.erase a) n.2 (fun b hb => (List.mem_erase_of_ne (fun e : b = a => n.1 (by rw [← e]; exact hb))).mpr (h b (List.mem_cons_of_mem _ hb)))
    rw [List.length_erase_of_mem ha] at this
    have : 0 < V.length := List.length_pos_of_mem ha
    simp only [List.length_cons]
    omega
theorem dup_or {rules : List (Ck E)} : ∀ {w : List Nat} {a b : E}, Lk rules a w b → (verts rules a w).Nodup ∨ ∃ w1 w2 w3 u, w = w1 ++ w2 ++ w3 ∧ w2 ≠ [] ∧ Lk rules a w1 u ∧ Lk rules u w2 u ∧ Lk rules u w3 b
  | [], a, b, l => .inl (by simp [verts])
  | i :: is, a, b, ⟨c, e1, e2, l⟩ => by
    have ev : verts rules a (i :: is) = a :: verts rules c.2.1 is := by
      show a :: (match rules[i]? with | some c => verts rules c.2.1 is | none => []) = _
      rw [e1]
    rcases dup_or l with n | ⟨w1, w2, w3, u, f1, f2, f3, f4, f5⟩
    · by_cases z : a ∈ verts rules c.2.1 is
      · obtain ⟨x, y, g1, g2, g3⟩ := mem_verts l z
        exact .inr ⟨[], i :: x, y, a, by rw [g1]; rfl, by simp, rfl, ⟨c, e1, e2, g2⟩, g3⟩
      · exact .inl (by rw [ev, List.nodup_cons]; exact ⟨z, n⟩)
    · exact .inr ⟨i :: w1, w2, w3, u, by rw [f1]; rfl, f2, ⟨c, e1, e2, f3⟩, f4, f5⟩
theorem cut_short {rules : List (Ck E)} {p : E → Int} (hp : Pot rules p) {V : List E} (hV : ∀ c ∈ rules, c.1 ∈ V ∧ c.2.1 ∈ V) {a b : E} (ha : a ∈ V) : ∀ {n : Nat} {w : List Nat}, w.length = n → Lk rules a w b → ∃ w', Lk rules a w' b ∧ w'.length + 1 ≤ V.length ∧ sumC rules w' ≤ sumC rules w := by
  intro n
  induction n using Nat.strongRecOn with
  | ind n ih =>
    intro w hw l
    rcases dup_or l with nd | ⟨w1, w2, w3, u, f1, f2, f3, f4, f5⟩
    · refine ⟨w, l, ?_, Int.le_refl _⟩
      rw [← verts_length l]
      exact nodup_len nd (verts_sub hV l ha)
    · have hl : (w1 ++ w3).length < n := by
        rw [← hw, f1]
        have : 0 < w2.length := List.length_pos_iff.mpr f2
        simp only [List.length_append]
        omega
      obtain ⟨w', g1, g2, g3⟩ := ih _ hl rfl (f3.append f5)
      refine ⟨w', g1, g2, ?_⟩
      have h0 := hp.le f4
      rw [f1]
      simp only [sumC_append] at g3 ⊢
      omega
/-- with numbers for which all checks are so going round ends in time -/
theorem bf_some {rules : List (Ck E)} {p : E → Int} (hp : Pot rules p) {V : List E} (hV : ∀ c ∈ rules, c.1 ∈ V ∧ c.2.1 ∈ V) {start : E} (hs : start ∈ V) : ∀ {n k : Nat} {f : List (E × Int)}, Snd rules start f → (∀ v w, Lk rules start w v → w.length ≤ k → Le (getA f v) (sumC rules w)) → k + 1 ≤ V.length → V.length ≤ n + k →
    ∃ r, bf rules n f = some r
  | 0, k, f, _, _, h1, h2 => by omega
  | n + 1, k, f, hS, hk, h1, h2 => by
    unfold bf
    cases e : (roundE rules f).2 with
    | false => exact ⟨_, by rw [if_neg Bool.false_ne_true]⟩
    | true =>
      rw [if_pos rfl]
      by_cases z : V.length = k + 1
      · exfalso
        obtain ⟨v, x, q1, q2⟩ := round_changed e
        obtain ⟨w, l, s⟩ := hS.round v x q1
        obtain ⟨w', l', hl', s'⟩ := cut_short hp hV hs rfl l
        obtain ⟨y, q3, q4⟩ := hk v w' l' (by omega)
        have := q2 y q3
        omega
      · refine bf_some hp hV hs hS.round (k := k + 1) (fun v w l hw => ?_) (by omega) (by omega)
        by_cases q : w.length ≤ k
        · exact fold_relax_le (hk v w l q)
        · have hne : w ≠ [] := fun e => by subst e; simp at q
          have ew : w = w.dropLast ++ [w.getLast hne] := (List.dropLast_concat_getLast hne).symm
          rw [ew] at l
          obtain ⟨u, l1, c, e1, e2, e3⟩ := Lk.split l
          have e3 : c.2.1 = v := e3
          have h3 := hk u w.dropLast l1 (by rw [List.length_dropLast]; omega)
          rw [← e2] at h3
          have h4 := round_by (st := (f, false)) (List.mem_of_getElem? e1) h3
          rw [e3] at h4
          have : sumC rules w = sumC rules w.dropLast + c.2.2 := by
            conv => lhs; rw [ew]
            rw [sumC_append, sumC_cons, num_of e1]
            simp [sumC]
          rw [this]
          exact h4
theorem goes_some {rules : List (Ck E)} {p : E → Int} (hp : Pot rules p) {V : List E} (hV : ∀ c ∈ rules, c.1 ∈ V ∧ c.2.1 ∈ V) {start : E} (hs : start ∈ V) {n : Nat} (hn : V.length ≤ n) : ∃ r, goes rules n start = some r := by
  have h0 : ∀ v x, getA [(start, (0 : Int))] v = some x → v = start ∧ x = 0 := fun v x q => by
    rw [getA_cons, getA_nil] at q
    by_cases z : start = v
    · rw [if_pos z] at q
      cases q
      exact ⟨z.symm, rfl⟩
    · rw [if_neg z] at q; cases q
  refine bf_some hp hV hs (k := 0) (fun v x q => ?_) (fun v w l hw => ?_) (by have := List.length_pos_of_mem hs; omega) (by omega)
  · obtain ⟨rfl, rfl⟩ := h0 v x q
    exact ⟨[], rfl, rfl⟩
  · cases w with
    | nil =>
      have : start = v := l
      subst this
      exact ⟨0, by rw [getA_cons, if_pos rfl], by simp [sumC]⟩
    | cons i is => simp at hw
end
end FK
set_option maxHeartbeats 4000000
/-! FM2: trees of this program's data, what is asked of them -/
namespace FK
open PySem L2
section
variable {κ κ' β : Type} [DecidableEq κ] [DecidableEq κ']
theorem look_cons (p : κ × T) (r : List (κ × T)) (k : κ) : look (p :: r) k = if p.1 = k then some p.2 else look r k := by
  by_cases z : p.1 = k
  · simp [look, List.find?_cons, z]
  · simp [look, List.find?_cons, z]
theorem look_map (f : κ → κ') (g : β → T) (hf : ∀ a b, f a = f b → a = b) (k : κ) : ∀ (kvs : List (κ × β)), look (kvs.map fun p => (f p.1, g p.2)) (f k) = (getA kvs k).map g
  | [] => rfl
  | p :: r => by
    rw [List.map_cons, look_cons, getA_cons, look_map f g hf k r]
    by_cases z : p.1 = k
    · rw [if_pos z, if_pos (by show f p.1 = f k; rw [z])]; rfl
    · rw [if_neg z, if_neg (fun q => z (hf _ _ q))]
theorem any_map (f : κ → κ') (g : β → T) (hf : ∀ a b, f a = f b → a = b) (k : κ) : ∀ (kvs : List (κ × β)), ((kvs.map fun p => (f p.1, g p.2)).any fun kv => decide (kv.1 = f k)) = kvs.any fun kv => decide (kv.1 = k)
  | [] => rfl
  | p :: r => by
    rw [List.map_cons, List.any_cons, List.any_cons, any_map f g hf k r]
    by_cases z : p.1 = k
    · have : f p.1 = f k := by rw [z]
      simp [z]
    · have : ¬ f p.1 = f k := fun q => z (hf _ _ q)
      simp [z, this]
theorem put_map (f : κ → κ') (g : β → T) (hf : ∀ a b, f a = f b → a = b) (k : κ) (b : β) (kvs : List (κ × β)) : put (kvs.map fun p => (f p.1, g p.2)) (f k) (g b) = (putA kvs k b).map fun p => (f p.1, g p.2) := by
  unfold put putA
  rw [any_map f g hf]
  by_cases q : (kvs.any fun kv => decide (kv.1 = k)) = true
  · rw [if_pos q, if_pos q, List.map_map, List.map_map]
    refine List.map_congr_left fun p _ => ?_
    by_cases z : p.1 = k
    · have : f p.1 = f k := by rw [z]
      show (if f p.1 = f k then (f p.1, g b) else (f p.1, g p.2)) = (f (if p.1 = k then (p.1, b) else p).1, g (if p.1 = k then (p.1, b) else p).2)
      rw [if_pos this, if_pos z]
    · have : ¬ f p.1 = f k := fun q => z (hf _ _ q)
      show (if f p.1 = f k then (f p.1, g b) else (f p.1, g p.2)) = (f (if p.1 = k then (p.1, b) else p).1, g (if p.1 = k then (p.1, b) else p).2)
      rw [if_neg this, if_neg z]
  · rw [if_neg q, if_neg q, List.map_append]
    rfl
/-- keys put one by one, unlike ones -/
theorem putA_new {kvs : List (κ × β)} {k : κ} {b : β} (h : k ∉ kvs.map (·.1)) : putA kvs k b = kvs ++ [(k, b)] := by
  unfold putA
  rw [if_neg]
  intro q
  obtain ⟨p, hp, e⟩ := List.any_eq_true.mp q
  exact h (by rw [← of_decide_eq_true e]; exact List.mem_map_of_mem (f := (·.1)) hp)
theorem getA_map (f : κ → β) {k : κ} : ∀ {ks : List κ}, k ∈ ks → getA (ks.map fun x => (x, f x)) k = some (f k)
  | x :: ks, h => by
    rw [List.map_cons, getA_cons]
    by_cases z : x = k
    · subst z; rw [if_pos rfl]
    · rw [if_neg z]
      exact getA_map f ((List.mem_cons.mp h).resolve_left fun e => z e.symm)
theorem getA_map_none (f : κ → β) {k : κ} : ∀ {ks : List κ}, k ∉ ks → getA (ks.map fun x => (x, f x)) k = none
  | [], _ => rfl
  | x :: ks, h => by
    rw [List.map_cons, getA_cons, if_neg (fun z : x = k => h (by rw [z]; exact List.mem_cons_self))]
    exact getA_map_none f fun q => h (List.mem_cons_of_mem _ q)
theorem getA_some_iff {kvs : List (κ × β)} {k : κ} : (getA kvs k).isSome = true ↔ k ∈ kvs.map (·.1) := by
  induction kvs with
  | nil => simp [getA_nil]
  | cons p r ih =>
    rw [getA_cons, List.map_cons, List.mem_cons]
    by_cases z : p.1 = k
    · rw [if_pos z]; simp [z]
    · rw [if_neg z, ih]
      exact ⟨fun h => .inr h, fun h => h.resolve_left fun e => z e.symm⟩
end

/-- isinstance of an own class's object -/
theorem kit_own {K : PySem.W.Frag} {A C : Addr} {cd : ClassData} {b : Bool} (h1 : PySem.W.clsIn K C = some cd) (h2 : PySem.W.typeIn K (.ref C) = some (.type "type")) (h3 : PySem.W.subIn K (.ref A) (.ref C) = some b) (hb : A = C → b = true) :
    PySem.W.kitOne K (.ref A) (.ref C) = some b := by
  have hc : PySem.W.kitCls K (.ref A) (.ref C) = some b := by
    show (if ((PySem.W.clsIn K C).isSome && PySem.W.typeIn K (.ref C) == some (.type "type")) = true then PySem.W.subIn K (.ref A) (.ref C) else none) = some b
    rw [h1, h2, if_pos (by rfl)]
    exact h3
  unfold PySem.W.kitOne
  by_cases z : ((Value.ref A) == (Value.ref C)) = true
  · rw [if_pos z]
    have e := eq_of_beq z
    injection e with e
    rw [hb e]
  · rw [if_neg z]
    exact hc
theorem kit_int_int {K : PySem.W.Frag} : PySem.W.kitOne K (.type "int") (.type "int") = some true := by rfl
theorem kit_int_bool {K : PySem.W.Frag} : PySem.W.kitOne K (.type "int") (.type "bool") = some false := by rfl
theorem kit_str_str {K : PySem.W.Frag} : PySem.W.kitOne K (.type "str") (.type "str") = some true := by rfl
theorem kit_list {K : PySem.W.Frag} : PySem.W.kitOne K (.type "list") (.type "list") = some true := by rfl
theorem kit_tuple {K : PySem.W.Frag} : PySem.W.kitOne K (.type "tuple") (.type "tuple") = some true := by rfl
theorem kit_dict {K : PySem.W.Frag} : PySem.W.kitOne K (.type "dict") (.type "dict") = some true := by rfl
/-! ### lists of numbers, ends, fields -/
def intsT (ns : List Int) : T := .lst (ns.map T.int)
def natsI (cs : List Nat) : List Int := cs.map fun i : Nat => ((i : Nat) : Int)
def natsT (cs : List Nat) : T := intsT (natsI cs)
def endsT (es : List End) : T := .lst (es.map eT)
theorem fsT_ends (fs : List Str) : fsT fs = endsT (fs.map some) := by
  unfold fsT endsT
  rw [List.map_map]
  rfl
/-- the ends of a kind -/
def endsOf (fs : List Str) : List End := fs.map some ++ [none]
theorem endsT_of (fs : List Str) : T.lst (fs.map T.str ++ [.non]) = endsT (endsOf fs) := by
  unfold endsT endsOf
  rw [List.map_append, List.map_map]
  rfl
theorem mem_endsOf {fs : List Str} {e : End} : e ∈ endsOf fs ↔ ∀ x, e = some x → x ∈ fs := by
  unfold endsOf
  cases e with
  | none => simp
  | some x => simp
/-! ### the table -/
def pk (p : End × End) : List Leaf := [eL p.1, eL p.2]
theorem pk_inj (p q : End × End) (h : pk p = pk q) : p = q := by
  unfold pk at h
  injection h with h1 h2
  injection h2 with h2 _
  exact Prod.ext (eL_inj h1) (eL_inj h2)
def entT' (v : Int × List Nat) : T := .tup [.int v.1, natsT v.2]
abbrev Tab := List ((End × End) × (Int × List Nat))
def tabL (tab : Tab) : List (List Leaf × T) := tab.map fun p => (pk p.1, entT' p.2)
theorem look_tab (tab : Tab) (p : End × End) : look (tabL tab) (pk p) = (getA tab p).map entT' := look_map pk entT' pk_inj p tab
theorem put_tab (tab : Tab) (p : End × End) (v : Int × List Nat) : put (tabL tab) (pk p) (entT' v) = tabL (putA tab p v) := put_map pk entT' pk_inj p v tab
theorem pk_tup (a b : End) : T.tup [eT a, eT b] = T.tup ((pk (a, b)).map lT) := by
  unfold pk
  simp only [List.map_cons, List.map_nil, lT_eL]
def ringT : Option (List Nat) → T
  | none => .non
  | some cs => natsT cs
theorem ringT_isN (r : Option (List Nat)) : (ringT r).isN = r.isNone := by cases r <;> rfl
/-! ### kinds, things -/
def kFs (fs : List Str) (cs : List Chk) : List (Str × T) := [("row", fsT fs), ("rules", csT cs)]
def kT (C : Addr) (fs : List Str) (cs : List Chk) : T := .obj C (kFs fs cs)
def tL (th : Thing) : List (Str × T) := th.map fun p => (p.1, T.int p.2)
theorem tT_eq (th : Thing) : tT th = .dic (tL th) := rfl
theorem look_tL (th : Thing) (x : Str) : look (tL th) x = (getA th x).map T.int := look_map (κ := Str) (κ' := Str) id T.int (fun _ _ h => h) x th
theorem put_tL (th : Thing) (x : Str) (n : Int) : put (tL th) x (.int n) = tL (putA th x n) := put_map (κ := Str) (κ' := Str) id T.int (fun _ _ h => h) x n th
def nL (ns : List (End × Int)) : List (Leaf × T) := ns.map fun p => (eL p.1, T.int p.2)
theorem look_nL (ns : List (End × Int)) (e : End) : look (nL ns) (eL e) = (getA ns e).map T.int := look_map eL T.int (fun _ _ h => eL_inj h) e ns
theorem put_nL (ns : List (End × Int)) (e : End) (n : Int) : put (nL ns) (eL e) (.int n) = nL (putA ns e n) := put_map eL T.int (fun _ _ h => eL_inj h) e n ns
def letters : Str := "abcdefghijklmnopqrstuvwxyz"
def nameB (x : Str) : Bool := (decide (1 ≤ x.length) && decide (x.length ≤ 8)) && (x.cps.toList.all fun c => decide (c ∈ letters.cps.toList))
def endB (e : End) (fs : List Str) : Bool := decide (e ∈ endsOf fs)
def chkB (fs : List Str) (c : Chk) : Bool := (decide (-100 ≤ c.2.2) && decide (c.2.2 ≤ 100)) && (endB c.1 fs && (endB c.2.1 fs && !decide (c.1 = c.2.1)))
/-- fields, checks of a kind -/
structure Fld (fs : List Str) : Prop where
  pos : 1 ≤ fs.length
  most : fs.length ≤ 6
  nd : fs.Nodup
  names : ∀ x ∈ fs, nameB x = true
structure Cks (fs : List Str) (cs : List Chk) : Prop where
  most : cs.length ≤ 16
  ok : ∀ c ∈ cs, chkB fs c = true
theorem Cks.ends {fs : List Str} {cs : List Chk} (h : Cks fs cs) : ∀ c ∈ cs, c.1 ∈ endsOf fs ∧ c.2.1 ∈ endsOf fs ∧ c.1 ≠ c.2.1 := fun c hc => by
  have := h.ok c hc
  unfold chkB endB at this
  simp only [Bool.and_eq_true, decide_eq_true_eq, Bool.not_eq_true', decide_eq_false_iff_not] at this
  exact ⟨this.2.1, this.2.2.1, this.2.2.2⟩
/-- a thing of the fields -/
def IsTh (fs : List Str) (th : Thing) : Prop := ∀ x ∈ fs, ∃ n, getA th x = some n
theorem IsTh.has {fs : List Str} {th : Thing} (h : IsTh fs th) {e : End} (he : e ∈ endsOf fs) : Has th e := fun x q => h x (mem_endsOf.mp he x q)
theorem numAt_some (th : Thing) (x : Str) : numAt th (some x) = (getA th x).getD 0 := rfl
end FK
set_option maxHeartbeats 4000000
/-! FM3: readings made easier: comprehensions that map, tests that are known -/
namespace FK
open PySem L2
section
variable {P : Program} {w : World} {K : PySem.W.Frag} {Γ Γ1 Γ2 : Ev} {ta tb te : TE} {t : T} {tr : TA} {tt : TT} {wi : TI} {gt : TG} {vs : List Nat} {b b' : Bool}
theorem EdT.to (h : EdT P w tt Γ b Γ1) (e : b = b') : EdT P w tt Γ b' Γ1 := e ▸ h
theorem et_testC (h : Ed P w te Γ (.bl b) Γ1) : EdT P w (tTest te) Γ b Γ1 := et_test h
theorem made_all (f : Nat → T) (n : Nat) : made (fun i => some (f i)) n = (List.range n).map f := by
  unfold made
  rw [List.filterMap_eq_map']
theorem range_getD {α : Type} (d : T) (g : α → T) (h : α → T) : ∀ (xs : List α) (f : Nat → T), (∀ i (hi : i < xs.length), f i = h xs[i]) → (List.range xs.length).map f = xs.map h := by
  intro xs f hf
  refine List.ext_getElem (by simp) fun i h1 h2 => ?_
  simp only [List.getElem_map, List.getElem_range]
  exact hf i (by simpa using h2)
/-- [e for x in ..], nothing else changed -/
theorem en_mapI {n : Nat} {Y : Nat → T} (f : Nat → T) (hi : EdI P w wi Γ n Y Γ) (hn : n ≤ 100000) (hf : forget Γ vs = Γ) (hs : ∀ i, i < n → ∃ Γa Γc, EdV P w gt (Y i) Γ Γa vs ∧ Ed P w te Γa (f i) Γc ∧ forget Γc vs = Γ) :
    EdN P w (tLc wi gt tYes te vs) Γ (.lst ((List.range n).map f)) Γ := by
  rw [← made_all]
  refine en_lc (fun _ => Γ) (fun i => some (f i)) hi hn fun i h => ?_
  obtain ⟨Γa, Γc, h1, h2, h3⟩ := hs i h
  refine ⟨Γa, true, Γa, by rw [hf]; exact h1, et_yes, fun _ => ⟨_, Γc, rfl, h2, h3⟩, fun q => by cases q⟩
theorem getD_map {α : Type} {g : α → T} {xs : List α} {i : Nat} (hi : i < xs.length) : (xs.map g).getD i .non = g xs[i] := by
  rw [List.getD_eq_getElem?_getD, List.getElem?_map, List.getElem?_eq_getElem hi]
  rfl
theorem en_mapL {α : Type} {g : α → T} {xs : List α} (h : α → T) (hi : Ed P w ta Γ (.lst (xs.map g)) Γ) (hn : xs.length ≤ 100000) (hf : forget Γ vs = Γ) (hs : ∀ x ∈ xs, ∃ Γa Γc, EdV P w gt (g x) Γ Γa vs ∧ Ed P w te Γa (h x) Γc ∧ forget Γc vs = Γ) :
    EdN P w (tLc (iList K ta) gt tYes te vs) Γ (.lst (xs.map h)) Γ := by
  have e : xs.map h = (List.range (xs.map g).length).map fun i => (xs.map h).getD i .non := by
    rw [List.length_map]
    exact (range_getD .non g h xs _ fun i hi => getD_map hi).symm
  rw [e]
  refine en_mapI _ (ei_list hi) (by rw [List.length_map]; exact hn) hf fun i hi => ?_
  have hi' : i < xs.length := by rwa [List.length_map] at hi
  show ∃ Γa Γc, EdV P w gt ((xs.map g).getD i .non) Γ Γa vs ∧ Ed P w te Γa ((xs.map h).getD i .non) Γc ∧ forget Γc vs = Γ
  rw [getD_map hi', getD_map hi']
  exact hs _ (List.getElem_mem hi')
/-- .. with a test -/
theorem en_filtL {α : Type} {g : α → T} {xs : List α} (p : α → Bool) (h : α → T) (hi : Ed P w ta Γ (.lst (xs.map g)) Γ) (hn : xs.length ≤ 100000) (hf : forget Γ vs = Γ)
    (hs : ∀ x ∈ xs, ∃ Γa, EdV P w gt (g x) Γ Γa vs ∧ EdT P w tt Γa (p x) Γa ∧ (p x = true → Ed P w te Γa (h x) Γa) ∧ forget Γa vs = Γ) :
    EdN P w (tLc (iList K ta) gt tt te vs) Γ (.lst ((xs.filter p).map h)) Γ := by
  let ys : Nat → Option T := fun i => (xs[i]?).bind fun x => if p x then some (h x) else none
  have e : (xs.filter p).map h = made ys xs.length := by
    have key : ∀ (l pre : List α), xs = pre ++ l → (l.filter p).map h = (List.range l.length).filterMap fun i => ys (pre.length + i) := by
      intro l
      induction l with
      | nil => intro pre _; rfl
      | cons x l ih =>
        intro pre e
        have ih' := ih (pre ++ [x]) (by rw [e]; simp)
        rw [List.length_cons, List.range_succ_eq_map, List.filterMap_cons]
        have hx : ys (pre.length + 0) = if p x then some (h x) else none := by
          show (xs[pre.length + 0]?).bind _ = _
          rw [e]
          simp
        rw [hx, List.filterMap_map]
        have hr : (fun i => ys (pre.length + i)) ∘ Nat.succ = fun i => ys ((pre ++ [x]).length + i) := by
          funext i
          show ys (pre.length + (i + 1)) = _
          congr 1
          simp
          omega
        rw [hr, ← ih']
        by_cases z : p x = true
        · rw [if_pos z, List.filter_cons_of_pos z, List.map_cons]
        · rw [if_neg z, List.filter_cons_of_neg z]
    have := key xs [] rfl
    rw [this]
    unfold made
    congr 1
    funext i
    simp
  rw [e]
  have hl : xs.length = (xs.map g).length := by rw [List.length_map]
  rw [hl]
  refine en_lc (fun _ => Γ) ys (ei_list hi) (by rw [List.length_map]; exact hn) fun i hi => ?_
  have hi' : i < xs.length := by rwa [List.length_map] at hi
  obtain ⟨Γa, h1, h2, h3, h4⟩ := hs _ (List.getElem_mem hi')
  have hy : ys i = if p xs[i] then some (h xs[i]) else none := by
    show (xs[i]?).bind _ = _
    rw [List.getElem?_eq_getElem hi']
    rfl
  refine ⟨Γa, p xs[i], Γa, by rw [hf, getD_map hi']; exact h1, h2, fun q => ⟨h xs[i], Γa, by rw [hy, if_pos q], h3 q, h4⟩, fun q => ⟨by rw [hy, if_neg (by rw [q]; exact Bool.false_ne_true)], h4⟩⟩
theorem ea_one (h : Ed P w te Γ t Γ1) : EdA P w (tCons te tNil) Γ [t] Γ1 := ea_cons h ea_nil
theorem ed_allL {α : Type} {g : α → T} {xs : List α} (p : α → Bool) (hi : Ed P w ta Γ (.lst (xs.map g)) Γ) (hn : xs.length ≤ 100000) (hf : forget Γ vs = Γ) (hs : ∀ x ∈ xs, ∃ Γa Γc, EdV P w gt (g x) Γ Γa vs ∧ Ed P w te Γa (.bl (p x)) Γc ∧ forget Γc vs = Γ) :
    Ed P w (tCB (rAll K) (tCons (tLc (iList K ta) gt tYes te vs) tNil)) Γ (.bl (xs.all p)) Γ := by
  have h := ed_of_en (en_mapL (K := K) (fun x => T.bl (p x)) hi hn hf hs)
  have e : xs.map (fun x => T.bl (p x)) = (xs.map p).map T.bl := by rw [List.map_map]; rfl
  have h2 : Ed P w (tLc (iList K ta) gt tYes te vs) Γ (.lst ((xs.map p).map T.bl)) Γ := by rw [← e]; exact h
  have h3 := ed_all (K := K) (ea_one h2)
  have e3 : (xs.map p).all id = xs.all p := by rw [List.all_map]; rfl
  rw [e3] at h3
  exact h3
theorem ed_anyL {α : Type} {g : α → T} {xs : List α} (p : α → Bool) (hi : Ed P w ta Γ (.lst (xs.map g)) Γ) (hn : xs.length ≤ 100000) (hf : forget Γ vs = Γ) (hs : ∀ x ∈ xs, ∃ Γa Γc, EdV P w gt (g x) Γ Γa vs ∧ Ed P w te Γa (.bl (p x)) Γc ∧ forget Γc vs = Γ) :
    Ed P w (tCB (rAny K) (tCons (tLc (iList K ta) gt tYes te vs) tNil)) Γ (.bl (xs.any p)) Γ := by
  have h := ed_of_en (en_mapL (K := K) (fun x => T.bl (p x)) hi hn hf hs)
  have e : xs.map (fun x => T.bl (p x)) = (xs.map p).map T.bl := by rw [List.map_map]; rfl
  have h2 : Ed P w (tLc (iList K ta) gt tYes te vs) Γ (.lst ((xs.map p).map T.bl)) Γ := by rw [← e]; exact h
  have h3 := ed_any (K := K) (ea_one h2)
  have e3 : (xs.map p).any id = xs.any p := by rw [List.any_map]; rfl
  rw [e3] at h3
  exact h3
theorem ed_sumL {α : Type} {g : α → T} {xs : List α} (p : α → Int) (hi : Ed P w ta Γ (.lst (xs.map g)) Γ) (hn : xs.length ≤ 100000) (hf : forget Γ vs = Γ) (hs : ∀ x ∈ xs, ∃ Γa Γc, EdV P w gt (g x) Γ Γa vs ∧ Ed P w te Γa (.int (p x)) Γc ∧ forget Γc vs = Γ) :
    Ed P w (tCB (rSum K) (tCons (tLc (iList K ta) gt tYes te vs) tNil)) Γ (.int (xs.map p).sum) Γ := by
  have h := ed_of_en (en_mapL (K := K) (fun x => T.int (p x)) hi hn hf hs)
  have e : xs.map (fun x => T.int (p x)) = (xs.map p).map T.int := by rw [List.map_map]; rfl
  have h2 : Ed P w (tLc (iList K ta) gt tYes te vs) Γ (.lst ((xs.map p).map T.int)) Γ := by rw [← e]; exact h
  exact ed_sum (K := K) (ea_one h2)
/-- all(..) over any walk -/
theorem ed_allI {n : Nat} {Y : Nat → T} (p : Nat → Bool) (hi : EdI P w wi Γ n Y Γ) (hn : n ≤ 100000) (hf : forget Γ vs = Γ) (hs : ∀ i, i < n → ∃ Γa Γc, EdV P w gt (Y i) Γ Γa vs ∧ Ed P w te Γa (.bl (p i)) Γc ∧ forget Γc vs = Γ) :
    Ed P w (tCB (rAll K) (tCons (tLc wi gt tYes te vs) tNil)) Γ (.bl ((List.range n).all p)) Γ := by
  have h := ed_of_en (en_mapI (fun i => T.bl (p i)) hi hn hf hs)
  have e : (List.range n).map (fun i => T.bl (p i)) = ((List.range n).map p).map T.bl := by rw [List.map_map]; rfl
  have h2 : Ed P w (tLc wi gt tYes te vs) Γ (.lst (((List.range n).map p).map T.bl)) Γ := by rw [← e]; exact h
  have h3 := ed_all (K := K) (ea_one h2)
  have e3 : ((List.range n).map p).all id = (List.range n).all p := by rw [List.all_map]; rfl
  rw [e3] at h3
  exact h3
variable {Nx : Ev → Prop} {Rt : T → Ev → Prop} {s1 s2 : TS}
/-- a test that is not so: nothing is raised -/
theorem bd_skip (h : EdT P w tt Γ false Γ1) (n : Nx Γ1) : Bd P w (tIfS tt s1 tNext) Γ Nx Rt := bd_if h (fun q => by cases q) fun _ => bd_next n
theorem bd_else (h : EdT P w tt Γ false Γ1) (n : Bd P w s2 Γ1 Nx Rt) : Bd P w (tIfS tt s1 s2) Γ Nx Rt := bd_if h (fun q => by cases q) fun _ => n
theorem bd_yes (h : EdT P w tt Γ true Γ1) (n : Bd P w s1 Γ1 Nx Rt) : Bd P w (tIfS tt s1 s2) Γ Nx Rt := bd_if h (fun _ => n) fun q => by cases q
/-- texts compared -/
theorem ed_eqS {x y : Str} (ha : Ed P w ta Γ (.str x) Γ1) (hb : Ed P w tb Γ1 (.str y) Γ2) : Ed P w (tOp (rEqA K) ta tb) Γ (.bl (decide (x = y))) Γ2 := by
  have h := ed_eqE (K := K) (a := some x) (b := some y) ha hb
  have e : decide ((some x : End) = some y) = decide (x = y) := by
    by_cases z : x = y
    · subst z; simp
    · have : ¬ (some x : End) = some y := fun q => z (Option.some.inj q)
      rw [decide_eq_false z, decide_eq_false this]
  rw [e] at h
  exact h
theorem ed_neS {x y : Str} (ha : Ed P w ta Γ (.str x) Γ1) (hb : Ed P w tb Γ1 (.str y) Γ2) : Ed P w (tOp (rNeA K) ta tb) Γ (.bl (!decide (x = y))) Γ2 := by
  have h := ed_neE (K := K) (a := some x) (b := some y) ha hb
  have e : decide ((some x : End) = some y) = decide (x = y) := by
    by_cases z : x = y
    · subst z; simp
    · have : ¬ (some x : End) = some y := fun q => z (Option.some.inj q)
      rw [decide_eq_false z, decide_eq_false this]
  rw [e] at h
  exact h
end
end FK
set_option maxHeartbeats 4000000
/-! FM4: loops as folds; sizes of chains -/
namespace FK
open PySem L2
section
variable {P : Program} {w : World} {K : PySem.W.Frag} {Γ Γ1 Γ2 : Ev} {ta tb te : TE} {t : T} {tr : TA} {gt : TG} {sb : TS} {Nx : Ev → Prop} {Rt : T → Ev → Prop}
theorem take_succ_foldl {α σ : Type} (f : σ → α → σ) (s : σ) (xs : List α) {i : Nat} (h : i < xs.length) : (xs.take (i + 1)).foldl f s = f ((xs.take i).foldl f s) xs[i] := by
  rw [List.take_succ_eq_append_getElem h, List.foldl_append]
  rfl
theorem bd_foldL {α σ : Type} {xs : List α} {g : α → T} (st : σ → Ev → Prop) (f : σ → α → σ) (s0 : σ) (hi : Ed P w ta Γ (.lst (xs.map g)) Γ1) (h0 : st s0 Γ1)
    (hs : ∀ x ∈ xs, ∀ s Γ', st s Γ' → ∃ Γ'', EdG P w gt (g x) Γ' Γ'' ∧ Bd P w sb Γ'' (st (f s x)) Rt) (hd : ∀ Γ', st (xs.foldl f s0) Γ' → Nx Γ') : Bd P w (tFor (iList K ta) gt sb) Γ Nx Rt := by
  refine bd_for (fun i Γ' => st ((xs.take i).foldl f s0) Γ') (ei_list hi) h0 (fun i Γ' hi' q => ?_) (fun Γ' q => ?_)
  · have h : i < xs.length := by rwa [List.length_map] at hi'
    rw [getD_map h, take_succ_foldl f s0 xs h]
    exact hs _ (List.getElem_mem h) _ _ q
  · have q : st ((xs.take (xs.map g).length).foldl f s0) Γ' := q
    rw [List.length_map, List.take_length] at q
    exact hd Γ' q
theorem bd_foldLi {α σ : Type} {xs : List α} {g : α → T} (st : σ → Ev → Prop) (f : σ → α → σ) (s0 : σ) (hi : Ed P w ta Γ (.lst (xs.map g)) Γ1) (h0 : st s0 Γ1)
    (hs : ∀ i (h : i < xs.length) Γ', st ((xs.take i).foldl f s0) Γ' → ∃ Γ'', EdG P w gt (g xs[i]) Γ' Γ'' ∧ Bd P w sb Γ'' (st (f ((xs.take i).foldl f s0) xs[i])) Rt) (hd : ∀ Γ', st (xs.foldl f s0) Γ' → Nx Γ') : Bd P w (tFor (iList K ta) gt sb) Γ Nx Rt := by
  refine bd_for (fun i Γ' => st ((xs.take i).foldl f s0) Γ') (ei_list hi) h0 (fun i Γ' hi' q => ?_) (fun Γ' q => ?_)
  · have h : i < xs.length := by rwa [List.length_map] at hi'
    rw [getD_map h, take_succ_foldl f s0 xs h]
    exact hs i h _ q
  · have q : st ((xs.take (xs.map g).length).foldl f s0) Γ' := q
    rw [List.length_map, List.take_length] at q
    exact hd Γ' q
/-- .. with counts -/
theorem bd_foldE {α σ : Type} {xs : List α} {g : α → T} (st : σ → Ev → Prop) (f : σ → α × Nat → σ) (s0 : σ) (hi : EdA P w tr Γ [.lst (xs.map g)] Γ1) (h0 : st s0 Γ1)
    (hs : ∀ x i, xs[i]? = some x → ∀ s Γ', st s Γ' → ∃ Γ'', EdG P w gt (.tup [.int (i : Nat), g x]) Γ' Γ'' ∧ Bd P w sb Γ'' (st (f s (x, i))) Rt) (hd : ∀ Γ', st (xs.zipIdx.foldl f s0) Γ' → Nx Γ') : Bd P w (tFor (iEnum K tr) gt sb) Γ Nx Rt := by
  have hz : xs.zipIdx.length = xs.length := List.length_zipIdx
  refine bd_for (fun i Γ' => st ((xs.zipIdx.take i).foldl f s0) Γ') (ei_enum hi) h0 (fun i Γ' hi' q => ?_) (fun Γ' q => ?_)
  · have h : i < xs.length := by rwa [List.length_map] at hi'
    have h2 : i < xs.zipIdx.length := by rw [hz]; exact h
    have e : xs.zipIdx[i] = (xs[i], i) := by simp
    rw [getD_map h, take_succ_foldl f s0 _ h2, e]
    exact hs _ i (List.getElem?_eq_getElem h) _ _ q
  · have q : st ((xs.zipIdx.take (xs.map g).length).foldl f s0) Γ' := q
    rw [List.length_map, ← hz, List.take_length] at q
    exact hd Γ' q
end

section
variable {E : Type} [DecidableEq E]
/-- no more than n entries, none longer than L -/
structure Szd (n L : Nat) (s : Cs E) : Prop where
  len : s.tab.length ≤ n
  ent : ∀ p v, getA s.tab p = some v → v.2.length ≤ L
theorem better_len (s : Cs E) (a b : E) (t : Int) (cs : List Nat) : (better s a b t cs).tab.length ≤ s.tab.length + 1 := by
  have h := putA_length_le s.tab (a, b) (t, cs)
  unfold better
  split
  · split
    · exact Nat.le_succ _
    · exact Nat.le_succ _
  · split
    · exact h
    · split
      · exact h
      · exact Nat.le_succ _
theorem better_get (s : Cs E) {a b : E} {t : Int} {cs : List Nat} {p : E × E} {v : Int × List Nat} (h : getA (better s a b t cs).tab p = some v) : (p = (a, b) ∧ a ≠ b ∧ v = (t, cs)) ∨ getA s.tab p = some v := by
  unfold better at h
  by_cases z : a = b
  · rw [if_pos z] at h
    split at h <;> exact .inr h
  · rw [if_neg z] at h
    have new : getA (putA s.tab (a, b) (t, cs)) p = some v → (p = (a, b) ∧ a ≠ b ∧ v = (t, cs)) ∨ getA s.tab p = some v := fun q => by
      rw [getA_putA] at q
      by_cases y : p = (a, b)
      · rw [if_pos y] at q
        exact .inl ⟨y, z, (Option.some.inj q).symm⟩
      · rw [if_neg y] at q
        exact .inr q
    split at h
    · exact new h
    · split at h
      · exact new h
      · exact .inr h
theorem Szd.better {n L : Nat} {s : Cs E} (h : Szd n L s) {a b : E} {t : Int} {cs : List Nat} (hc : cs.length ≤ L) : Szd (n + 1) L (better s a b t cs) := by
  refine ⟨Nat.le_trans (better_len s a b t cs) (by have := h.len; omega), fun p v q => ?_⟩
  rcases better_get s q with ⟨_, _, e⟩ | q
  · rw [e]; exact hc
  · exact h.ent p v q
/-- .. while joining at m -/
structure Szj (m : E) (n L : Nat) (s : Cs E) : Prop where
  sz : Szd n (2 * L) s
  row : ∀ b v, getA s.tab (m, b) = some v → v.2.length ≤ L
  col : ∀ a v, getA s.tab (a, m) = some v → v.2.length ≤ L
theorem Szd.toJ {n L : Nat} {s : Cs E} (h : Szd n L s) (m : E) : Szj m n L s := ⟨⟨h.len, fun p v q => by have := h.ent p v q; omega⟩, fun b v q => h.ent _ v q, fun a v q => h.ent _ v q⟩
theorem Szj.jstep {m : E} {n L : Nat} {s : Cs E} (h : Szj m n L s) (one other : E) : Szj m (n + 1) L (jstep m one other s) := by
  have same : Szj m (n + 1) L s := ⟨⟨Nat.le_succ_of_le h.sz.len, h.sz.ent⟩, h.row, h.col⟩
  unfold FK.jstep
  by_cases z : one ≠ m ∧ other ≠ m
  · rw [if_pos z]
    split
    · rename_i f g e1 e2
      have l1 := h.col _ f e1
      have l2 := h.row _ g e2
      refine ⟨h.sz.better (by rw [List.length_append]; omega), fun b v q => ?_, fun a v q => ?_⟩
      · rcases better_get s q with ⟨e, _, _⟩ | q
        · exact absurd (congrArg Prod.fst e).symm z.1
        · exact h.row b v q
      · rcases better_get s q with ⟨e, _, _⟩ | q
        · exact absurd (congrArg Prod.snd e).symm z.2
        · exact h.col a v q
    · exact same
  · rw [if_neg z]
    exact same
theorem Szj.fold {m : E} {L : Nat} (one : E) : ∀ (ends : List E) {n : Nat} {s : Cs E}, Szj m n L s → Szj m (n + ends.length) L (ends.foldl (fun s other => FK.jstep m one other s) s)
  | [], n, s, h => h
  | e :: ends, n, s, h => by
    have := Szj.fold one ends (h.jstep one e)
    rw [List.length_cons, List.foldl_cons, show n + (ends.length + 1) = n + 1 + ends.length by omega]
    exact this
theorem Szj.join {m : E} {L : Nat} (all : List E) : ∀ (ends : List E) {n : Nat} {s : Cs E}, Szj m n L s → Szj m (n + ends.length * all.length) L (ends.foldl (fun s one => all.foldl (fun s other => FK.jstep m one other s) s) s)
  | [], n, s, h => by simpa using h
  | e :: ends, n, s, h => by
    have := Szj.join all ends (Szj.fold e all h)
    rw [List.length_cons, List.foldl_cons, show n + (ends.length + 1) * all.length = n + all.length + ends.length * all.length by rw [Nat.add_mul]; omega]
    exact this
theorem Szd.joinE {n L : Nat} {s : Cs E} (h : Szd n L s) (ends : List E) (m : E) : Szd (n + ends.length * ends.length) (2 * L) (joinE ends m s) := (Szj.join ends ends (h.toJ m)).sz
theorem Szd.mono {n L n' L' : Nat} {s : Cs E} (h : Szd n L s) (h1 : n ≤ n') (h2 : L ≤ L') : Szd n' L' s := ⟨Nat.le_trans h.len h1, fun p v q => Nat.le_trans (h.ent p v q) h2⟩
theorem Szd.stepE {n L : Nat} {s : Cs E} (h : Szd n L s) (ends : List E) (m : E) : Szd (n + ends.length * ends.length) (2 * L) (stepE ends s m) := by
  unfold FK.stepE
  split
  · exact h.joinE ends m
  · exact h.mono (by omega) (by omega)
theorem Szd.steps {ends : List E} : ∀ (ms : List E) {n L : Nat} {s : Cs E}, Szd n L s → Szd (n + ms.length * (ends.length * ends.length)) (2 ^ ms.length * L) (ms.foldl (FK.stepE ends) s)
  | [], n, L, s, h => h.mono (by simp) (by simp)
  | m :: ms, n, L, s, h => by
    have := Szd.steps (ends := ends) ms (h.stepE ends m)
    rw [List.foldl_cons]
    refine this.mono ?_ ?_
    · rw [List.length_cons, Nat.add_mul]
      omega
    · rw [List.length_cons, Nat.pow_succ, Nat.mul_assoc]
      exact Nat.le_refl _
theorem Szd.begin {l : List (Ck E × Nat)} : ∀ {n : Nat} {s : Cs E}, Szd n 1 s → Szd (n + l.length) 1 (l.foldl (fun s p => FK.better s p.1.1 p.1.2.1 p.1.2.2 [p.2]) s) := by
  induction l with
  | nil => intro n s h; exact h
  | cons p l ih =>
    intro n s h
    rw [List.foldl_cons, List.length_cons, show n + (l.length + 1) = n + 1 + l.length by omega]
    exact ih (h.better (by simp))
end
end FK
set_option maxHeartbeats 4000000
/-! FM5: an owned object is tucked into a field of another one -/
namespace FK
open PySem L2
section
variable {P : Program} {w : World} {K : PySem.W.Frag} {Γ Γ1 Γ2 : Ev} {sb : TS} {Nx Nx' : Ev → Prop} {Rt : T → Ev → Prop}
theorem Lent.one {g : List Gh} {j : Nat} {x : Gh} (h : g[j]? = some x) : Lent g [j] [x] := ⟨h, trivial⟩
theorem Lent.two {g : List Gh} {j k : Nat} {x y : Gh} (h : g[j]? = some x) (h2 : g[k]? = some y) : Lent g [j, k] [x, y] := ⟨h, h2, trivial⟩
theorem Lent.three {g : List Gh} {j k i : Nat} {x y z : Gh} (h : g[j]? = some x) (h2 : g[k]? = some y) (h3 : g[i]? = some z) : Lent g [j, k, i] [x, y, z] := ⟨h, h2, h3, trivial⟩
theorem bd_post (h : Bd P w sb Γ Nx' Rt) (hn : ∀ Γ', Nx' Γ' → ∃ Γ2, Sub P w Γ' Γ2 ∧ Nx Γ2) : Bd P w sb Γ Nx Rt := fun W σ G H E D qn qr =>
  h W σ G H E D (fun σ' G' H' Γ' sg E' n => by
    obtain ⟨Γ2, hs, n2⟩ := hn Γ' n
    obtain ⟨G2, s2, E2⟩ := hs W σ' G' H' E'
    exact qn σ' G2 H' Γ2 (sg.trans s2) E2 n2) qr
def RtyAll (P : Program) (w : World) (G : Hp) : List T → List T → Prop
  | [], [] => True
  | t :: ts, t' :: ts' => (t = t' ∨ ∃ v, t = .val v ∧ Is P w G v t') ∧ RtyAll P w G ts ts'
  | _, _ => False
theorem IsAll.retype {G : Hp} : ∀ {vs : List V} {ts ts' : List T}, IsAll P w G vs ts → RtyAll P w G ts ts' → IsAll P w G vs ts'
  | _, _, [], .nil, _ => .nil
  | _, _, _ :: _, .nil, h => h.elim
  | _, _, [], .cons _ _, h => h.elim
  | _, _, t' :: ts', .cons a b, h => by
    refine .cons ?_ (IsAll.retype b h.2)
    rcases h.1 with e | ⟨v, e, i⟩
    · rw [← e]; exact a
    · rw [e] at a
      cases a
      exact i
/-- another reading of an owned object -/
theorem Tenv.retype {W : Wd} {σ : L2.St} {G H : Hp} (E : Tenv P w W σ G H Γ) {j : Nat} {l : Bool} {a : Addr} {o o' : O} (hj : Γ.g[j]? = some ⟨l, a, o⟩) (h : Own P w G H a o → Own P w G H a o') : Tenv P w W σ G H (Γ.own j ⟨l, a, o'⟩) := by
  obtain ⟨hG, h3, h4⟩ := E.gh _ (List.mem_of_getElem? hj)
  have hil : j < Γ.g.length := (List.getElem?_eq_some_iff.mp hj).1
  refine ⟨E.len, E.base, E.hb, E.up, E.lent, E.new, E.sh, fun x hx => ?_, ?_⟩
  · rcases List.mem_or_eq_of_mem_set (show x ∈ Γ.g.set j ⟨l, a, o'⟩ from hx) with q | q
    · exact E.gh x q
    · rw [q]
      exact ⟨hG, h h3, h4⟩
  · show ((Γ.g.set j ⟨l, a, o'⟩).map (·.a)).Nodup
    have e : (Γ.g.set j ⟨l, a, o'⟩).map (·.a) = Γ.g.map (·.a) := by
      rw [List.map_set]
      refine List.ext_getElem? fun k => ?_
      by_cases z : j = k
      · subst z
        rw [List.getElem?_set_self (by rw [List.length_map]; exact hil), List.getElem?_map, hj]
        rfl
      · rw [List.getElem?_set_ne z]
    rw [e]
    exact E.sep
theorem sub_tuck {j k : Nat} {l : Bool} {p d C : Addr} {o : O} {fs fs' : List (Str × T)} (hk : Γ.g[k]? = some ⟨false, d, o⟩) (hj : (Γ.era k).g[j]? = some ⟨l, p, .ins C fs⟩) (hf : fs'.map (·.1) = fs.map (·.1))
    (hr : ∀ G, Is P w G (.ref d) o.tr → RtyAll P w G (fs.map (·.2)) (fs'.map (·.2))) (hp : o.lk = false := by rfl) : Sub P w Γ ((Γ.era k).own j ⟨l, p, .ins C fs'⟩) := fun W σ G H E => by
  obtain ⟨G', sg, E', i⟩ := E.freeze hk hp
  refine ⟨G', sg, E'.retype hj fun ho => ?_⟩
  obtain ⟨dx, fv, h1, h2, h3⟩ := ho
  exact ⟨dx, fv, h1, h2.trans hf.symm, h3.retype (hr G' i)⟩
/-- an owned object becomes a tree at its name -/
theorem sub_share {i k : Nat} {d : Addr} {o : O} (hk : Γ.g[k]? = some ⟨false, d, o⟩) (hi : Γ.s[i]? = some (some (.val (.ref d)))) (hp : o.lk = false := by rfl) : Sub P w Γ ((Γ.era k).set i o.tr) := fun W σ G H E => by
  obtain ⟨G', sg, E', is⟩ := E.freeze hk hp
  obtain ⟨v, e1, e2⟩ := E.sh i _ hi
  cases e2
  have := E'.setSh (i := i) is
  have es : σ.set i (some (.ref d)) = σ := by
    refine List.ext_getElem? fun j => ?_
    by_cases z : i = j
    · subst z
      rw [List.getElem?_set_self (List.getElem?_eq_some_iff.mp e1).1, e1]
    · rw [List.getElem?_set_ne z]
  rw [es] at this
  exact ⟨G', sg, this⟩
variable {tr : TA} {gt : TG}
theorem bd_foldEi {α σ : Type} {xs : List α} {g : α → T} (st : σ → Ev → Prop) (f : σ → α × Nat → σ) (s0 : σ) (hi : EdA P w tr Γ [.lst (xs.map g)] Γ1) (h0 : st s0 Γ1)
    (hs : ∀ i (h : i < xs.length) Γ', st ((xs.zipIdx.take i).foldl f s0) Γ' → ∃ Γ'', EdG P w gt (.tup [.int (i : Nat), g xs[i]]) Γ' Γ'' ∧ Bd P w sb Γ'' (st (f ((xs.zipIdx.take i).foldl f s0) (xs[i], i))) Rt) (hd : ∀ Γ', st (xs.zipIdx.foldl f s0) Γ' → Nx Γ') : Bd P w (tFor (iEnum K tr) gt sb) Γ Nx Rt := by
  have hz : xs.zipIdx.length = xs.length := List.length_zipIdx
  refine bd_for (fun i Γ' => st ((xs.zipIdx.take i).foldl f s0) Γ') (ei_enum hi) h0 (fun i Γ' hi' q => ?_) (fun Γ' q => ?_)
  · have h : i < xs.length := by rwa [List.length_map] at hi'
    have h2 : i < xs.zipIdx.length := by rw [hz]; exact h
    have e : xs.zipIdx[i] = (xs[i], i) := by simp
    rw [getD_map h, take_succ_foldl f s0 _ h2, e]
    exact hs i h _ q
  · have q : st ((xs.zipIdx.take (xs.map g).length).foldl f s0) Γ' := q
    rw [List.length_map, ← hz, List.take_length] at q
    exact hd Γ' q
theorem fold_len {α β : Type} {f : List β → α → List β} (h : ∀ acc a, (f acc a).length ≤ acc.length + 1) : ∀ (l : List α) (acc : List β), (l.foldl f acc).length ≤ acc.length + l.length
  | [], acc => Nat.le_refl _
  | a :: l, acc => by
    have h1 := h acc a
    have h2 := fold_len h l (f acc a)
    rw [List.foldl_cons, List.length_cons]
    omega
end
/-! ### things by numbers -/
section
theorem fold_put_get {κ β : Type} [DecidableEq κ] (f : κ → β) {e : κ} : ∀ {es : List κ} {acc : List (κ × β)}, (e ∈ es ∨ getA acc e = some (f e)) → getA (es.foldl (fun acc e => putA acc e (f e)) acc) e = some (f e)
  | [], acc, h => h.resolve_left (by simp)
  | x :: es, acc, h => by
    rw [List.foldl_cons]
    refine fold_put_get f ?_
    by_cases z : e = x
    · subst z
      exact .inr (by rw [getA_putA, if_pos rfl])
    · rcases h with h | h
      · exact .inl ((List.mem_cons.mp h).resolve_left z)
      · exact .inr (by rw [getA_putA, if_neg z]; exact h)
def thStep (f : End → Int) (acc : Thing) : End → Thing
  | none => acc
  | some x => putA acc x (f (some x) - f none)
def thingOf (es : List End) (f : End → Int) : Thing := es.foldl (thStep f) []
theorem thStep_len (f : End → Int) (acc : Thing) (e : End) : (thStep f acc e).length ≤ acc.length + 1 := by
  cases e with
  | none => exact Nat.le_succ _
  | some x => exact putA_length_le _ _ _
theorem thingOf_ends {fs : List Str} (nd : fs.Nodup) (f : End → Int) : thingOf (endsOf fs) f = fs.map fun x => (x, f (some x) - f none) := by
  have key : ∀ (l : List Str) (acc : Thing), l.Nodup → (∀ x ∈ l, x ∉ acc.map (·.1)) → (l.map some).foldl (thStep f) acc = acc ++ l.map fun x => (x, f (some x) - f none) := by
    intro l
    induction l with
    | nil => intro acc _ _; simp
    | cons x l ih =>
      intro acc n h
      rw [List.nodup_cons] at n
      rw [List.map_cons, List.foldl_cons, ih _ n.2 ?_]
      · show putA acc x _ ++ _ = _
        rw [putA_new (h x List.mem_cons_self)]
        simp
      · intro y hy
        show y ∉ (putA acc x _).map (·.1)
        rw [putA_new (h x List.mem_cons_self)]
        intro q
        rw [List.map_append] at q
        rcases List.mem_append.mp q with q | q
        · exact h y (List.mem_cons_of_mem _ hy) q
        · have : y = x := by simpa using q
          subst this
          exact n.1 hy
  unfold thingOf endsOf
  rw [List.foldl_append, key fs [] nd (by simp)]
  rfl
theorem sums_filter (es : List End) (s : Cs End) (a : End) : (es.filter fun e => (getA s.tab (a, e)).isSome).map (fun e => T.int ((getA s.tab (a, e)).getD (0, [])).1) = (sums es s a).map T.int := by
  unfold sums
  induction es with
  | nil => rfl
  | cons e es ih =>
    rw [List.filterMap_cons]
    cases h : getA s.tab (a, e) with
    | none =>
      rw [List.filter_cons_of_neg (by simp [h]), ih]
      rfl
    | some v =>
      rw [List.filter_cons_of_pos (by simp [h]), List.map_cons, ih]
      simp [h]
end
end FK
set_option maxHeartbeats 4000000
/-! FM6: data compared; counts that lead on -/
namespace FK
open PySem L2
/-! ### shapes -/
structure Shp (n : Nat) (t : T) : Prop where
  dat : t.dat = true
  lay : t.py.canLay0 = true
  dep : t.py.depth ≤ n
theorem Shp.int {n : Nat} (i : Int) : Shp n (.int i) := ⟨rfl, rfl, Nat.zero_le _⟩
theorem Shp.bl {n : Nat} (b : Bool) : Shp n (.bl b) := ⟨rfl, rfl, Nat.zero_le _⟩
theorem Shp.non {n : Nat} : Shp n .non := ⟨rfl, rfl, Nat.zero_le _⟩
theorem Shp.str {n : Nat} {x : Str} (h : PyData.strOk x = true) : Shp n (.str x) := ⟨rfl, by show PyData.strOk x = true; exact h, Nat.zero_le _⟩
theorem shp_all {n : Nat} : ∀ {ts : List T}, (∀ t ∈ ts, Shp n t) → T.datAll ts = true ∧ PyData.canLayAll0 (T.pyAll ts) = true ∧ PyData.depthAll (T.pyAll ts) ≤ n
  | [], _ => ⟨rfl, rfl, Nat.zero_le _⟩
  | t :: ts, h => by
    obtain ⟨i1, i2, i3⟩ := shp_all (ts := ts) fun u hu => h u (List.mem_cons_of_mem _ hu)
    have s := h t List.mem_cons_self
    refine ⟨?_, ?_, ?_⟩
    · show (t.dat && T.datAll ts) = true
      rw [s.dat, i1]; rfl
    · show (t.py.canLay0 && PyData.canLayAll0 (T.pyAll ts)) = true
      rw [s.lay, i2]; rfl
    · show max t.py.depth (PyData.depthAll (T.pyAll ts)) ≤ n
      have := s.dep
      omega
theorem Shp.lst {n : Nat} {ts : List T} (h : ∀ t ∈ ts, Shp n t) : Shp (n + 1) (.lst ts) := by
  obtain ⟨i1, i2, i3⟩ := shp_all h
  exact ⟨i1, i2, Nat.succ_le_succ i3⟩
theorem Shp.tup {n : Nat} {ts : List T} (h : ∀ t ∈ ts, Shp n t) : Shp (n + 1) (.tup ts) := by
  obtain ⟨i1, i2, i3⟩ := shp_all h
  exact ⟨i1, i2, Nat.succ_le_succ i3⟩
theorem Shp.shaped {n : Nat} {t : T} (h : Shp n t) (hn : n ≤ 64) : SeqAt.shaped t.py = true := by
  unfold SeqAt.shaped
  rw [h.lay, Bool.true_and]
  exact decide_eq_true (Nat.le_trans h.dep hn)
theorem Shp.lstMap {α : Type} {n : Nat} {g : α → T} {xs : List α} (h : ∀ x ∈ xs, Shp n (g x)) : Shp (n + 1) (.lst (xs.map g)) := Shp.lst fun t ht => by
  obtain ⟨x, hx, rfl⟩ := List.mem_map.mp ht
  exact h x hx
theorem shp_ints (ns : List Int) : Shp 1 (intsT ns) := Shp.lstMap fun i _ => Shp.int i
theorem shp_end {n : Nat} {e : End} (h : ∀ x, e = some x → PyData.strOk x = true) : Shp n (eT e) := by
  cases e with
  | none => exact Shp.non
  | some x => exact Shp.str (h x rfl)
theorem name_ok {x : Str} (h : nameB x = true) : PyData.strOk x = true := by
  unfold nameB at h
  rw [Bool.and_eq_true, List.all_eq_true] at h
  unfold PyData.strOk
  rw [Array.all_eq_true_iff_forall_mem]
  intro c hc
  have h2 := of_decide_eq_true (h.2 c (Array.mem_toList_iff.mpr hc))
  have key : ∀ c ∈ letters.cps.toList, decide (c < 0x110000) = true := by decide
  exact key c h2
theorem shp_fs {fs : List Str} (h : ∀ x ∈ fs, nameB x = true) : Shp 1 (fsT fs) := Shp.lstMap fun x hx => Shp.str (name_ok (h x hx))
theorem shp_c {fs : List Str} (hf : ∀ x ∈ fs, nameB x = true) {c : Chk} (hc : chkB fs c = true) : Shp 1 (cT c) := by
  have h := (Cks.ends (fs := fs) (cs := [c]) ⟨by simp, by simpa using hc⟩ c (by simp))
  refine Shp.tup fun t ht => ?_
  have e1 : Shp 0 (eT c.1) := shp_end fun x q => name_ok (hf x (mem_endsOf.mp h.1 x q))
  have e2 : Shp 0 (eT c.2.1) := shp_end fun x q => name_ok (hf x (mem_endsOf.mp h.2.1 x q))
  simp only [List.mem_cons, List.not_mem_nil, or_false] at ht
  rcases ht with rfl | rfl | rfl
  · exact e1
  · exact e2
  · exact Shp.int _
theorem shp_cs {fs : List Str} (hf : ∀ x ∈ fs, nameB x = true) {cs : List Chk} (hc : Cks fs cs) : Shp 2 (csT cs) := Shp.lstMap fun c h => shp_c hf (hc.ok c h)
/-! ### compared -/
section
variable {P : Program} {w : World} {K : PySem.W.Frag} {Γ Γ1 Γ2 : Ev} {ta tb te : TE} {t x y : T} {tr : TA} {gt : TG} {vs : List Nat}
theorem ed_eqSame {n : Nat} (ha : Ed P w ta Γ x Γ1) (hb : Ed P w tb Γ1 x Γ2) (s : Shp n x) (hn : n ≤ 64) : Ed P w (tOp (rEqA K) ta tb) Γ (.bl true) Γ2 :=
  (ed_eqD ha hb s.dat s.dat (s.shaped hn) (s.shaped hn)).to (by rw [SeqAt.eqv_refl _ s.lay])
theorem ed_neSame {n : Nat} (ha : Ed P w ta Γ x Γ1) (hb : Ed P w tb Γ1 x Γ2) (s : Shp n x) (hn : n ≤ 64) : Ed P w (tOp (rNeA K) ta tb) Γ (.bl false) Γ2 :=
  (ed_neD ha hb s.dat s.dat (s.shaped hn) (s.shaped hn)).to (by rw [SeqAt.eqv_refl _ s.lay]; rfl)
theorem eqvAll_dec {α : Type} [DecidableEq α] {g : α → T} (hg : ∀ a b, PyData.eqv (g a).py (g b).py = decide (a = b)) : ∀ xs ys : List α, PyData.eqvAll (T.pyAll (xs.map g)) (T.pyAll (ys.map g)) = decide (xs = ys)
  | [], [] => rfl
  | [], y :: ys => rfl
  | x :: xs, [] => rfl
  | x :: xs, y :: ys => by
    show (PyData.eqv (g x).py (g y).py && PyData.eqvAll (T.pyAll (xs.map g)) (T.pyAll (ys.map g))) = _
    rw [hg, eqvAll_dec hg xs ys]
    by_cases h1 : x = y
    · by_cases h2 : xs = ys
      · simp [h1, h2]
      · simp [h1, h2]
    · simp [h1]
theorem ed_eqDec {α : Type} [DecidableEq α] {g : α → T} {n : Nat} {xs ys : List α} (hg : ∀ a b, PyData.eqv (g a).py (g b).py = decide (a = b)) (ha : Ed P w ta Γ (.lst (xs.map g)) Γ1) (hb : Ed P w tb Γ1 (.lst (ys.map g)) Γ2) (hx : ∀ a ∈ xs, Shp n (g a)) (hy : ∀ a ∈ ys, Shp n (g a)) (hn : n + 1 ≤ 64) :
    Ed P w (tOp (rEqA K) ta tb) Γ (.bl (decide (xs = ys))) Γ2 :=
  (ed_eqD ha hb (Shp.lstMap hx).dat (Shp.lstMap hy).dat ((Shp.lstMap hx).shaped hn) ((Shp.lstMap hy).shaped hn)).to (congrArg T.bl (eqvAll_dec hg xs ys))
theorem ed_neDec {α : Type} [DecidableEq α] {g : α → T} {n : Nat} {xs ys : List α} (hg : ∀ a b, PyData.eqv (g a).py (g b).py = decide (a = b)) (ha : Ed P w ta Γ (.lst (xs.map g)) Γ1) (hb : Ed P w tb Γ1 (.lst (ys.map g)) Γ2) (hx : ∀ a ∈ xs, Shp n (g a)) (hy : ∀ a ∈ ys, Shp n (g a)) (hn : n + 1 ≤ 64) :
    Ed P w (tOp (rNeA K) ta tb) Γ (.bl (!decide (xs = ys))) Γ2 :=
  (ed_neD ha hb (Shp.lstMap hx).dat (Shp.lstMap hy).dat ((Shp.lstMap hx).shaped hn) ((Shp.lstMap hy).shaped hn)).to (congrArg (fun b => T.bl (!b)) (eqvAll_dec hg xs ys))
theorem eqv_int (a b : Int) : PyData.eqv (T.int a).py (T.int b).py = decide (a = b) := by
  show (a == b) = _
  by_cases z : a = b
  · simp [z]
  · simp [z]
theorem eqv_str (a b : Str) : PyData.eqv (T.str a).py (T.str b).py = decide (a = b) := by
  show (a == b) = _
  by_cases z : a = b
  · simp [z]
  · simp [z]
theorem eqv_bl (a b : Bool) : PyData.eqv (T.bl a).py (T.bl b).py = decide (a = b) := by
  show (a == b) = _
  cases a <;> cases b <;> rfl
theorem ed_eqInts {ns ms : List Int} (ha : Ed P w ta Γ (intsT ns) Γ1) (hb : Ed P w tb Γ1 (intsT ms) Γ2) : Ed P w (tOp (rEqA K) ta tb) Γ (.bl (decide (ns = ms))) Γ2 := ed_eqDec (n := 0) eqv_int ha hb (fun i _ => Shp.int i) (fun i _ => Shp.int i) (by decide)
theorem ed_neBls {bs cs : List Bool} (ha : Ed P w ta Γ (.lst (bs.map T.bl)) Γ1) (hb : Ed P w tb Γ1 (.lst (cs.map T.bl)) Γ2) : Ed P w (tOp (rNeA K) ta tb) Γ (.bl (!decide (bs = cs))) Γ2 := ed_neDec (n := 0) eqv_bl ha hb (fun i _ => Shp.bl i) (fun i _ => Shp.bl i) (by decide)
theorem ed_neStrs {xs ys : List Str} (ha : Ed P w ta Γ (.lst (xs.map T.str)) Γ1) (hb : Ed P w tb Γ1 (.lst (ys.map T.str)) Γ2) (hx : ∀ x ∈ xs, PyData.strOk x = true) (hy : ∀ x ∈ ys, PyData.strOk x = true) : Ed P w (tOp (rNeA K) ta tb) Γ (.bl (!decide (xs = ys))) Γ2 :=
  ed_neDec (n := 0) eqv_str ha hb (fun i h => Shp.str (hx i h)) (fun i h => Shp.str (hy i h)) (by decide)
/-! ### all over two lists -/
theorem ed_allZ {α β : Type} {g : α → T} {h : β → T} {xs : List α} {ys : List β} (p : α → β → Bool) (hi : EdA P w tr Γ [.lst (xs.map g), .lst (ys.map h)] Γ) (hn : xs.length ≤ 100000) (hf : forget Γ vs = Γ)
    (hs : ∀ a b, (a, b) ∈ xs.zip ys → ∃ Γa Γc, EdV P w gt (.tup [g a, h b]) Γ Γa vs ∧ Ed P w te Γa (.bl (p a b)) Γc ∧ forget Γc vs = Γ) :
    Ed P w (tCB (rAll K) (tCons (tLc (iZip K tr) gt tYes te vs) tNil)) Γ (.bl ((xs.zip ys).all fun q => p q.1 q.2)) Γ := by
  have hl : min (xs.map g).length (ys.map h).length = (xs.zip ys).length := by simp
  have key := ed_allI (K := K) (P := P) (w := w) (Γ := Γ) (gt := gt) (te := te) (vs := vs) (fun i => match (xs.zip ys)[i]? with | some q => p q.1 q.2 | none => true) (ei_zip (K := K) hi) (by rw [hl, List.length_zip]; omega) hf (fun i hi' => by
    rw [hl] at hi'
    have h1 : i < xs.length := by rw [List.length_zip] at hi'; omega
    have h2 : i < ys.length := by rw [List.length_zip] at hi'; omega
    have e : (xs.zip ys)[i]? = some (xs[i], ys[i]) := by rw [List.getElem?_eq_getElem hi', List.getElem_zip]
    have m : (xs[i], ys[i]) ∈ xs.zip ys := List.mem_of_getElem? e
    rw [e, getD_map h1, getD_map h2]
    exact hs _ _ m)
  refine key.to (congrArg T.bl ?_)
  rw [hl, Bool.eq_iff_iff, List.all_eq_true, List.all_eq_true]
  constructor
  · intro q c hc
    obtain ⟨i, hi', e⟩ := List.mem_iff_getElem.mp hc
    have := q i (List.mem_range.mpr hi')
    rw [List.getElem?_eq_getElem hi', e] at this
    exact this
  · intro q i hi'
    have hi' := List.mem_range.mp hi'
    show (match (xs.zip ys)[i]? with | some q => p q.1 q.2 | none => true) = true
    rw [List.getElem?_eq_getElem hi']
    exact q _ (List.getElem_mem hi')
theorem cut_tail (xs : List T) : cutT xs (some 1) none = xs.tail := by
  unfold cutT
  have e1 : HT.sIx xs.length 0 (some 1) = min 1 xs.length := HT.sIx_nat xs.length 0 1
  have e2 : HT.sIx xs.length xs.length none = xs.length := rfl
  rw [e1, e2]
  cases xs with
  | nil => rfl
  | cons a l =>
    have : min 1 (a :: l).length = 1 := by simp
    rw [this]
    simp
end
/-! ### counts -/
def ckAt (cs : List Chk) (i : Int) : Chk := (cs[i.toNat]?).getD (none, none, 0)
def inR (n : Nat) (i : Int) : Bool := decide (0 ≤ i) && decide (i < n)
def leadsB (cs : List Chk) (ns : List Int) : Bool := !decide (ns = []) && (ns.all (inR cs.length) && (ns.zip ns.tail).all fun p => decide ((ckAt cs p.1).2.1 = (ckAt cs p.2).1))
def headI (ns : List Int) : Int := ns.head?.getD 0
def lastI (ns : List Int) : Int := ns.getLast?.getD 0
def ringB (cs : List Chk) (ns : List Int) : Bool := leadsB cs ns && decide ((ckAt cs (lastI ns)).2.1 = (ckAt cs (headI ns)).1)
def sumI (cs : List Chk) (ns : List Int) : Int := (ns.map fun i => (ckAt cs i).2.2).sum
theorem atI_map {α : Type} {g : α → T} {xs : List α} {i : Int} {x : α} (h : atI xs i = some x) : atI (xs.map g) i = some (g x) := by
  unfold atI at h ⊢
  rw [List.length_map]
  obtain ⟨j, hj, e⟩ := Option.bind_eq_some_iff.mp h
  rw [hj]
  show (xs.map g)[j]? = _
  rw [List.getElem?_map, e]
  rfl
theorem atI_ck {cs : List Chk} {i : Int} (h : inR cs.length i = true) : atI cs i = some (ckAt cs i) := by
  unfold inR at h
  rw [Bool.and_eq_true, decide_eq_true_eq, decide_eq_true_eq] at h
  unfold atI ixN
  rw [if_pos h.1, if_pos h.2]
  show cs[i.toNat]? = _
  have hl : i.toNat < cs.length := by omega
  unfold ckAt
  rw [List.getElem?_eq_getElem hl]
  rfl
theorem atI_last {α : Type} {xs : List α} {x : α} (h : xs.getLast? = some x) : atI xs (-1) = some x := by
  have hne : xs ≠ [] := by rintro rfl; cases h
  have hl : 0 < xs.length := List.length_pos_iff.mpr hne
  unfold atI ixN
  rw [if_neg (by decide), if_pos (by omega)]
  show xs[(-1 + (xs.length : Int)).toNat]? = _
  have e : (-1 + (xs.length : Int)).toNat = xs.length - 1 := by omega
  rw [e, ← List.getLast?_eq_getElem?]
  exact h
theorem atI_head {α : Type} {xs : List α} {x : α} (h : xs.head? = some x) : atI xs 0 = some x := by
  cases xs with
  | nil => cases h
  | cons a l =>
    unfold atI ixN
    rw [if_pos (by decide), if_pos (by simp)]
    exact h
theorem last_of {ns : List Int} (h : ns ≠ []) : ns.getLast? = some (lastI ns) ∧ lastI ns ∈ ns := by
  cases e : ns.getLast? with
  | none => exact absurd (List.getLast?_eq_none_iff.mp e) h
  | some x =>
    have : lastI ns = x := by unfold lastI; rw [e]; rfl
    rw [this]
    exact ⟨rfl, List.mem_of_getLast? e⟩
theorem head_of {ns : List Int} (h : ns ≠ []) : ns.head? = some (headI ns) ∧ headI ns ∈ ns := by
  cases ns with
  | nil => exact absurd rfl h
  | cons a l => exact ⟨rfl, List.mem_cons_self⟩
theorem leads_in {cs : List Chk} {ns : List Int} (h : leadsB cs ns = true) : ns ≠ [] ∧ ∀ i ∈ ns, inR cs.length i = true := by
  unfold leadsB at h
  rw [Bool.and_eq_true, Bool.and_eq_true, List.all_eq_true] at h
  exact ⟨by simpa using h.1, h.2.1⟩
end FK
set_option maxHeartbeats 4000000
/-! FM7: the draws of the laws -/
namespace FK
open PySem L2
def scT (K : PySem.W.Frag) (a : Addr) (ns : List Int) : T := .opq a fun H => SqL K H a (ns.map V.int)
def cellV (ns : List Int) (k : Int) : Int := (ns[k.toNat]?).getD 0
def primes : List Int := [1000003, 1000033, 1000037, 1000039, 1000081, 1000099, 1000117, 1000121, 1000133, 1000151, 1000159, 1000171, 1000183, 1000187, 1000193, 1000199]
def primeV (k : Int) : Int := (atI primes (k % 16)).getD 1
theorem prime_at (k : Int) : atI primes (k % 16) = some (primeV k) ∧ 0 < primeV k := by
  have h0 := Int.emod_nonneg k (show (16 : Int) ≠ 0 by decide)
  have h1 := Int.emod_lt_of_pos k (show (0 : Int) < 16 by decide)
  unfold primeV
  generalize k % 16 = j at h0 h1 ⊢
  obtain ⟨n, rfl⟩ := Int.eq_ofNat_of_zero_le h0
  have hn : n < 16 := by omega
  have key : ∀ m : Fin 16, atI primes ((m.1 : Nat) : Int) = some ((atI primes ((m.1 : Nat) : Int)).getD 1) ∧ 0 < (atI primes ((m.1 : Nat) : Int)).getD 1 := by decide
  exact key ⟨n, hn⟩
def drawV (c k m : Int) : Int := (c * 48271 + k * 69621) % primeV k % m
theorem draw_in (c k : Int) {m : Int} (h : 0 < m) : 0 ≤ drawV c k m ∧ drawV c k m < m := ⟨Int.emod_nonneg _ (by omega), Int.emod_lt_of_pos _ h⟩
def restV (c : Int) : Nat → Int
  | 0 => c - 10 ^ (18 : Int).toNat
  | n + 1 => restV c n / 1009
def numV (c k m : Int) : Int := if 0 < restV c (k % 24).toNat then restV c (k % 24).toNat % 1009 % m
  else drawV ((c % 1000003 + 977 * k) * (c % 1000003 + 31 * k + 5)) (k % 9 + 1) 999983 % m
theorem num_in (c k : Int) {m : Int} (h : 0 < m) : 0 ≤ numV c k m ∧ numV c k m < m := by
  unfold numV
  split
  · exact ⟨Int.emod_nonneg _ (by omega), Int.emod_lt_of_pos _ h⟩
  · exact ⟨Int.emod_nonneg _ (by omega), Int.emod_lt_of_pos _ h⟩
def nextV (ns : List Int) (b k m : Int) : Int := numV (cellV ns (b + (k + 1) / 12) + 31 * ((k + 1) / 12)) ((k + 1) % 12 + 1) m
theorem next_in (ns : List Int) (b k : Int) {m : Int} (h : 0 < m) : 0 ≤ nextV ns b k m ∧ nextV ns b k m < m := num_in _ _ h
/-- the state of the draws -/
def stO (K : PySem.W.Frag) (a : Addr) (ns : List Int) (b k : Int) : O := .lst [scT K a ns, .int b, .int k]
/-! ### a thing drawn -/
def thgStep (ns : List Int) (b far : Int) (s : Thing × Int) (x : Str) : Thing × Int := (putA s.1 x (nextV ns b s.2 (2 * far + 1) - far), s.2 + 1)
def thgV (ns : List Int) (b k far : Int) (fs : List Str) : Thing × Int := fs.foldl (thgStep ns b far) ([], k)
theorem thg_prop (ns : List Int) (b far : Int) (hf : 0 ≤ far) : ∀ (fs : List Str) (s : Thing × Int), fs.Nodup → (∀ x ∈ fs, x ∉ s.1.map (·.1)) → (∀ p ∈ s.1, -far ≤ p.2 ∧ p.2 ≤ far) → 0 ≤ s.2 →
    ((fs.foldl (thgStep ns b far) s).1.map (·.1) = s.1.map (·.1) ++ fs) ∧ (∀ p ∈ (fs.foldl (thgStep ns b far) s).1, -far ≤ p.2 ∧ p.2 ≤ far) ∧ 0 ≤ (fs.foldl (thgStep ns b far) s).2
  | [], s, _, _, h, k => ⟨by simp, h, k⟩
  | x :: fs, s, n, hx, h, k => by
    rw [List.nodup_cons] at n
    have e : putA s.1 x (nextV ns b s.2 (2 * far + 1) - far) = s.1 ++ [(x, nextV ns b s.2 (2 * far + 1) - far)] := putA_new (hx x List.mem_cons_self)
    obtain ⟨i1, i2, i3⟩ := thg_prop ns b far hf fs (thgStep ns b far s x) n.2 (fun y hy q => by
      have q : y ∈ (putA s.1 x (nextV ns b s.2 (2 * far + 1) - far)).map (·.1) := q
      rw [e, List.map_append] at q
      rcases List.mem_append.mp q with q | q
      · exact hx y (List.mem_cons_of_mem _ hy) q
      · have : y = x := by simpa using q
        subst this
        exact n.1 hy) (fun p hp => by
      have hp : p ∈ putA s.1 x (nextV ns b s.2 (2 * far + 1) - far) := hp
      rw [e] at hp
      rcases List.mem_append.mp hp with hp | hp
      · exact h p hp
      · rw [List.mem_singleton.mp hp]
        have := next_in ns b s.2 (m := 2 * far + 1) (by omega)
        show -far ≤ nextV ns b s.2 (2 * far + 1) - far ∧ nextV ns b s.2 (2 * far + 1) - far ≤ far
        omega) (by show 0 ≤ s.2 + 1; omega)
    refine ⟨?_, i2, i3⟩
    rw [List.foldl_cons, i1]
    show (putA s.1 x _).map (·.1) ++ fs = _
    rw [e]
    simp
theorem thgV_prop (ns : List Int) (b far : Int) (hf : 0 ≤ far) {k : Int} (hk : 0 ≤ k) {fs : List Str} (nd : fs.Nodup) : (thgV ns b k far fs).1.map (·.1) = fs ∧ (∀ p ∈ (thgV ns b k far fs).1, -far ≤ p.2 ∧ p.2 ≤ far) ∧ 0 ≤ (thgV ns b k far fs).2 := by
  have := thg_prop ns b far hf fs ([], k) nd (by simp) (by simp) hk
  simpa [thgV] using this
/-- keys: all fields -/
theorem getA_of_keys {th : Thing} {x : Str} (h : x ∈ th.map (·.1)) : ∃ n, getA th x = some n ∧ (x, n) ∈ th := by
  obtain ⟨n, hn⟩ := Option.isSome_iff_exists.mp (getA_some_iff.mpr h)
  exact ⟨n, hn, getA_mem hn⟩
section
variable {P : Program} {w : World} {K : PySem.W.Frag} {Γ Γ1 Γ2 : Ev} {tr : TA} {wi : TI} {gt : TG} {sb : TS} {Nx : Ev → Prop} {Rt : T → Ev → Prop} {te ta : TE} {t : T}
/-- f(..), some owned ones lent, changed to what is one of several -/
theorem ex_callG {js : List Nat} {gh : List Gh} {R : List AO → List T → (T → List AO → Prop) → Prop} {E : XK} {ts : List T} {Φ : T → List AO → Prop} {Ψ : T → Ev → Prop} (h : EdA P w tr Γ ts Γ1) (n : js.Nodup) (hj : Lent Γ1.g js gh) (hR : R (gh.map Gh.ao) ts Φ)
    (hk : ∀ t gs', Φ t gs' → ∃ gh' : List Gh, gs' = gh'.map Gh.ao ∧ gh'.map (fun x => (x.l, x.a)) = gh.map (fun x => (x.l, x.a)) ∧ Ψ t ⟨Γ1.s, setAll Γ1.g js gh'⟩) : Ex P w (tCall (spG P w R) [] E tr) Γ Ψ := fun W σ G H En Q q =>
  h W σ G H En _ fun vs G1 H1 s1 E1 is => by
    refine ⟨G1, gh.map Gh.ao, ts, Φ, E1.base, by rw [List.append_nil]; exact is, owns_of E1 hj, nd_of E1 n hj, hR, fun v t2 gs2 G2 H2 gr ow nd2 hn i f => ?_⟩
    obtain ⟨gh', rfl, e, ψ⟩ := hk t2 gs2 f
    exact q v t2 _ G2 H2 (s1.trans gr.gg) (E1.lentBack n hj e gr ow) i ψ
/-- for i in range(n) -/
theorem bd_range {j : Int} (Inv : Nat → Ev → Prop) (hi : EdA P w tr Γ [.int j] Γ1) (h0 : 0 ≤ j) (hj : j < 2 ^ 62) (hz : Inv 0 Γ1) (hs : ∀ i Γ', i < j.toNat → Inv i Γ' → ∃ Γ'', EdG P w gt (.int (i : Nat)) Γ' Γ'' ∧ Bd P w sb Γ'' (Inv (i + 1)) Rt) (hd : ∀ Γ', Inv j.toNat Γ' → Nx Γ') :
    Bd P w (tFor (iRng1 tr) gt sb) Γ Nx Rt := by
  refine bd_for Inv (ei_range1 hi (by omega) hj) hz (fun i Γ' h q => ?_) hd
  have e : (0 : Int) + ((i : Nat) : Int) = (i : Nat) := by omega
  rw [e]
  exact hs i Γ' h q
end
end FK
set_option maxHeartbeats 4000000
/-! FM8: data shown as texts; owned objects borrowed as trees -/
namespace FK
open PySem L2
/-! ### texts of data -/
structure Shw (n d : Nat) (t : T) : Prop where
  dat : t.dat = true
  show_ : t.py.showable = true
  nd : t.py.hasDict = false
  dep : t.py.depth ≤ d
  len : t.py.shown.length ≤ n
theorem Shw.non {d : Nat} : Shw 2000 d .non := ⟨rfl, rfl, rfl, Nat.zero_le _, by decide⟩
theorem Shw.bl {d : Nat} (b : Bool) : Shw 2000 d (.bl b) := ⟨rfl, rfl, rfl, Nat.zero_le _, by cases b <;> decide⟩
theorem Shw.int {d : Nat} {i : Int} (h : i.natAbs.log2 < 1920) : Shw 2000 d (.int i) := ⟨rfl, decide_eq_true h, rfl, Nat.zero_le _, by
  have := PyProof.Rows.int_text_len_1921 h
  show (Str.ofString (toString i)).length ≤ 2000
  omega⟩
theorem repr_size (q : Nat) : ∀ (l : List Nat) (acc : Array Nat), (∀ c ∈ l, (Builtin.Str.reprChar q c).length ≤ 10) → (l.foldl (fun out c => out ++ (Builtin.Str.reprChar q c).toArray) acc).size ≤ acc.size + 10 * l.length
  | [], acc, _ => by simp
  | c :: l, acc, h => by
    have h1 := h c List.mem_cons_self
    have h2 := repr_size q l (acc ++ (Builtin.Str.reprChar q c).toArray) fun d hd => h d (List.mem_cons_of_mem _ hd)
    rw [List.foldl_cons, List.length_cons]
    have e1 : (acc ++ (Builtin.Str.reprChar q c).toArray).size = acc.size + (Builtin.Str.reprChar q c).length := by simp
    rw [e1] at h2
    omega
theorem Shw.name {d : Nat} {x : Str} (h : nameB x = true) : Shw 2000 d (.str x) := ⟨rfl, rfl, rfl, Nat.zero_le _, by
  unfold nameB at h
  simp only [Bool.and_eq_true, decide_eq_true_eq, List.all_eq_true] at h
  obtain ⟨⟨_, hl⟩, hc⟩ := h
  have key : ∀ c ∈ letters.cps.toList, (Builtin.Str.reprChar 34 c).length ≤ 10 ∧ (Builtin.Str.reprChar 39 c).length ≤ 10 := by decide +kernel
  show (reprText x).length ≤ 2000
  unfold reprText reprQuote
  have hx : x.cps.toList.length = x.length := by simp [Str.length]
  have go : ∀ q, (∀ c ∈ letters.cps.toList, (Builtin.Str.reprChar q c).length ≤ 10) → ((⟨(x.cps.foldl (fun out c => out ++ (Builtin.Str.reprChar q c).toArray) #[q]).push q⟩ : Str)).length ≤ 2000 := fun q hq => by
    have := repr_size q x.cps.toList #[q] fun c hc' => hq c (hc c hc')
    rw [hx] at this
    show ((x.cps.foldl (fun out c => out ++ (Builtin.Str.reprChar q c).toArray) #[q]).push q).size ≤ 2000
    rw [Array.size_push, ← Array.foldl_toList]
    have e : (#[q] : Array Nat).size = 1 := rfl
    omega
  split
  · exact go 34 fun c hc' => (key c hc').1
  · exact go 39 fun c hc' => (key c hc').2⟩
theorem textFrom_le {n : Nat} : ∀ (ts : List Str) (k : Nat) (acc : Str), (∀ t ∈ ts, t.length ≤ n) → (textFrom k acc ts).length ≤ acc.length + (n + 2) * ts.length
  | [], k, acc, _ => Nat.le_refl _
  | t :: ts, k, acc, h => by
    have h1 := h t List.mem_cons_self
    have h2 := textFrom_le ts (k + 1) (acc ++ (if k > 0 then ", " else "" : String) ++ t) fun u hu => h u (List.mem_cons_of_mem _ hu)
    show (textFrom (k + 1) (acc ++ (if k > 0 then ", " else "" : String) ++ t) ts).length ≤ _
    have e : ((acc ++ (if k > 0 then ", " else "" : String) ++ t : Str)).length ≤ acc.length + 2 + t.length := by
      rw [strLen_append, strLen_append]
      have : ((((if k > 0 then ", " else "" : String)) : Str)).length ≤ 2 := by split <;> decide
      omega
    rw [List.length_cons, Nat.mul_add]
    omega
theorem listText_le {n : Nat} {ts : List Str} (h : ∀ t ∈ ts, t.length ≤ n) : (listText ts).length ≤ 2 + (n + 2) * ts.length := by
  have := textFrom_le ts 0 "[" h
  unfold listText
  rw [strLen_append]
  have e1 : ((("[" : String) : Str)).length = 1 := rfl
  have e2 : ((("]" : String) : Str)).length = 1 := rfl
  omega
theorem piled_le {n : Nat} : ∀ {ts : List Str}, (∀ t ∈ ts, t.length ≤ n) → piled ts ≤ (n + 2) * ts.length
  | [], _ => Nat.zero_le _
  | t :: ts, h => by
    have h1 := h t List.mem_cons_self
    have h2 := piled_le (ts := ts) fun u hu => h u (List.mem_cons_of_mem _ hu)
    rw [piled_cons, List.length_cons, Nat.mul_add]
    omega
theorem tupleText_le {n : Nat} {ts : List Str} (h : ∀ t ∈ ts, t.length ≤ n) : (tupleText ts).length ≤ 3 + (n + 2) * ts.length := by
  have hp := piled_le h
  have hj : (Str.join ", " ts).length ≤ piled ts := by
    cases ts with
    | nil => exact Nat.zero_le _
    | cons a l => have := join_length_add (a :: l) (by simp); omega
  unfold tupleText
  rw [strLen_append, strLen_append]
  have e1 : ((("(" : String) : Str)).length = 1 := rfl
  have e3 : (((if ts.length == 1 then ",)" else ")" : String) : Str)).length ≤ 2 := by split <;> decide
  omega
theorem shw_all {n d : Nat} : ∀ {ts : List T}, (∀ t ∈ ts, Shw n d t) → T.datAll ts = true ∧ PyData.showableAll (T.pyAll ts) = true ∧ PyData.hasDictAll (T.pyAll ts) = false ∧ PyData.depthAll (T.pyAll ts) ≤ d ∧ (∀ u ∈ PyData.shownAll (T.pyAll ts), u.length ≤ n) ∧ (PyData.shownAll (T.pyAll ts)).length = ts.length
  | [], _ => ⟨rfl, rfl, rfl, Nat.zero_le _, (fun u h => nomatch h), rfl⟩
  | t :: ts, h => by
    obtain ⟨i1, i2, i3, i4, i5, i6⟩ := shw_all (ts := ts) fun u hu => h u (List.mem_cons_of_mem _ hu)
    have s := h t List.mem_cons_self
    refine ⟨?_, ?_, ?_, ?_, ?_, ?_⟩
    · show (t.dat && T.datAll ts) = true
      rw [s.dat, i1]; rfl
    · show (t.py.showable && PyData.showableAll (T.pyAll ts)) = true
      rw [s.show_, i2]; rfl
    · show (t.py.hasDict || PyData.hasDictAll (T.pyAll ts)) = false
      rw [s.nd, i3]; rfl
    · show max t.py.depth (PyData.depthAll (T.pyAll ts)) ≤ d
      have := s.dep
      omega
    · intro u hu
      rcases List.mem_cons.mp (show u ∈ t.py.shown :: PyData.shownAll (T.pyAll ts) from hu) with e | hu
      · rw [e]; exact s.len
      · exact i5 u hu
    · show (PyData.shownAll (T.pyAll ts)).length + 1 = _
      rw [i6]; rfl
theorem Shw.lst {n d : Nat} {ts : List T} (h : ∀ t ∈ ts, Shw n d t) : Shw (2 + (n + 2) * ts.length) (d + 1) (.lst ts) := by
  obtain ⟨i1, i2, i3, i4, i5, i6⟩ := shw_all h
  refine ⟨i1, i2, i3, Nat.succ_le_succ i4, ?_⟩
  show (listText (PyData.shownAll (T.pyAll ts))).length ≤ _
  rw [← i6]
  exact listText_le i5
theorem Shw.tup {n d : Nat} {ts : List T} (h : ∀ t ∈ ts, Shw n d t) : Shw (3 + (n + 2) * ts.length) (d + 1) (.tup ts) := by
  obtain ⟨i1, i2, i3, i4, i5, i6⟩ := shw_all h
  refine ⟨i1, i2, i3, Nat.succ_le_succ i4, ?_⟩
  show (tupleText (PyData.shownAll (T.pyAll ts))).length ≤ _
  rw [← i6]
  exact tupleText_le i5
theorem Shw.mono {n d n' d' : Nat} {t : T} (h : Shw n d t) (h1 : n ≤ n') (h2 : d ≤ d') : Shw n' d' t := ⟨h.dat, h.show_, h.nd, Nat.le_trans h.dep h2, Nat.le_trans h.len h1⟩
theorem Shw.lstMap {α : Type} {n d : Nat} {g : α → T} {xs : List α} (h : ∀ x ∈ xs, Shw n d (g x)) : Shw (2 + (n + 2) * xs.length) (d + 1) (.lst (xs.map g)) := by
  have := Shw.lst (ts := xs.map g) fun t ht => by
    obtain ⟨x, hx, rfl⟩ := List.mem_map.mp ht
    exact h x hx
  rwa [List.length_map] at this
theorem shw_fs {fs : List Str} (h : Fld fs) : Shw 20000 2 (fsT fs) := (Shw.lstMap (n := 2000) (d := 0) fun x hx => Shw.name (h.names x hx)).mono (by have := h.most; omega) (by decide)
theorem small_log {i : Int} (h : -100 ≤ i ∧ i ≤ 100) : i.natAbs.log2 < 1920 := by
  have h1 : i.natAbs ≤ 100 := by omega
  have : i.natAbs.log2 ≤ i.natAbs := Nat.log2_le_self _
  omega
theorem shw_end {fs : List Str} (h : Fld fs) {e : End} (he : e ∈ endsOf fs) : Shw 2000 0 (eT e) := by
  cases e with
  | none => exact Shw.non
  | some x => exact Shw.name (h.names x (mem_endsOf.mp he x rfl))
theorem chk_num {fs : List Str} {c : Chk} (h : chkB fs c = true) : -100 ≤ c.2.2 ∧ c.2.2 ≤ 100 := by
  unfold chkB at h
  simp only [Bool.and_eq_true, decide_eq_true_eq] at h
  exact h.1
theorem shw_cs {fs : List Str} (h : Fld fs) {cs : List Chk} (hc : Cks fs cs) : Shw 200000 2 (csT cs) := by
  refine (Shw.lstMap (n := 3 + (2000 + 2) * 3) (d := 1) fun c hc' => ?_).mono (by have := hc.most; omega) (by decide)
  refine Shw.tup (ts := [eT c.1, eT c.2.1, .int c.2.2]) fun t ht => ?_
  simp only [List.mem_cons, List.not_mem_nil, or_false] at ht
  rcases ht with rfl | rfl | rfl
  · exact shw_end h (hc.ends c hc').1
  · exact shw_end h (hc.ends c hc').2.1
  · exact Shw.int (small_log (chk_num (hc.ok c hc')))
section
variable {P : Program} {w : World} {K : PySem.W.Frag} {Γ Γ1 Γ2 : Ev} {ta tb te : TE} {t : T} {tr : TA} {Nx : Ev → Prop} {Rt : T → Ev → Prop}
/-- str of a list, of a number -/
def rStrA (K : PySem.W.Frag) : List V → Hp → VK → Prop := fun xs H Q => rStrD K xs H Q ∨ ∃ i : Int, xs = [.int i] ∧ i.natAbs.log2 < 1920 ∧ Q (.str (toString i)) H
theorem call_strA {X : Cx} (hG : X.A.guards = some []) (hu : X.A.units + 64 < cLine) : CallR X (.type "str") (rStrA X.K) := (call_strD hG hu).or call_str_int
theorem ed_strI {i : Int} (h : EdA P w tr Γ [.int i] Γ1) (hi : i.natAbs.log2 < 1920) : Ed P w (tCB (rStrA K) tr) Γ (.str (toString i)) Γ1 := ed_cb h fun G H vs s is Q q => by
  cases is with
  | cons a b =>
    cases b
    cases a
    exact .inr ⟨i, rfl, hi, q _ G H (Grw.refl s) (.str _)⟩
theorem ed_strL {n d : Nat} {ts : List T} (h : EdA P w tr Γ [.lst ts] Γ1) (s : Shw n d (.lst ts)) (hn : n ≤ 10000000) (hd : d ≤ 20) : Ed P w (tCB (rStrA K) tr) Γ (.str (T.lst ts).py.shown) Γ1 :=
  ed_cb h fun G H vs sg is Q q => by
    cases is with
    | cons a b =>
      cases b
      have a0 := a
      cases a with
      | lst h1 h2 => exact .inl ⟨_, (T.lst ts).py, rfl, is_dp sg a0 s.dat, s.show_, s.nd, Nat.le_trans s.dep hd, Nat.le_trans s.len (Nat.le_trans hn (by decide)), q _ G H (Grw.refl sg) (.str _)⟩
/-- something new is changed and let go -/
theorem bd_newClear {ts : List T} (h : EdN P w ta Γ (.lst ts) Γ1) (n : Nx Γ1) : Bd P w (tDrop (tBM0 K "list" rClear ta)) Γ Nx Rt := fun W σ G H E D qn qr => h W σ G H E _ fun a G1 H1 s1 E1 => by
  have hj : (Γ1.push ⟨false, a, .lst ts⟩).g[Γ1.g.length]? = some ⟨false, a, .lst ts⟩ := by show (Γ1.g ++ [_])[Γ1.g.length]? = _; simp
  obtain ⟨_, ⟨vs, h3, h5⟩, _⟩ := E1.gh _ (List.mem_of_getElem? hj)
  refine ⟨.inl ⟨rfl, _, SqL.of h3⟩, a, vs, rfl, rfl, h3, ?_⟩
  have E2 := (E1.mut (o' := .lst []) hj ⟨_, upd_same, .nil⟩).erase Γ1.g.length
  have e : ((Γ1.push ⟨false, a, .lst ts⟩).own Γ1.g.length ⟨false, a, .lst []⟩).era Γ1.g.length = Γ1 := by
    show (⟨Γ1.s, ((Γ1.g ++ [_]).set Γ1.g.length _).eraseIdx Γ1.g.length⟩ : Ev) = Γ1
    rw [List.set_append_right _ _ (Nat.le_refl _)]
    simp [List.eraseIdx_append_of_length_le]
  rw [e] at E2
  exact qn _ G1 _ _ s1 E2 n
theorem bd_newAppend {ts : List T} (h : EdN P w ta Γ (.lst ts) Γ1) (he : ∀ a, Ed P w te (Γ1.push ⟨false, a, .lst ts⟩) t (Γ1.push ⟨false, a, .lst ts⟩)) (hl : ts.length < 100000) (n : Nx Γ1) : Bd P w (tDrop (tBM K "list" rAppend ta (tCons te tNil))) Γ Nx Rt := fun W σ G H E D qn qr => h W σ G H E _ fun a G1 H1 s1 E1 => by
  have hj : (Γ1.push ⟨false, a, .lst ts⟩).g[Γ1.g.length]? = some ⟨false, a, .lst ts⟩ := by show (Γ1.g ++ [_])[Γ1.g.length]? = _; simp
  obtain ⟨_, ⟨vs, h3, h5⟩, _⟩ := E1.gh _ (List.mem_of_getElem? hj)
  refine ⟨.inl ⟨rfl, _, SqL.of h3⟩, he a W σ G1 H1 E1 _ fun v G2 H2 s2 E2 iv => ?_⟩
  obtain ⟨_, ⟨vs', h3', h5'⟩, _⟩ := E2.gh _ (List.mem_of_getElem? hj)
  refine ⟨a, vs', v, rfl, rfl, h3', by rw [h5'.length]; exact Nat.lt_of_lt_of_le hl (by decide), ?_⟩
  have E3 := (E2.mut (o' := .lst (ts ++ [t])) hj ⟨_, upd_same, h5'.append (.cons iv .nil)⟩).erase Γ1.g.length
  have e : ((Γ1.push ⟨false, a, .lst ts⟩).own Γ1.g.length ⟨false, a, .lst (ts ++ [t])⟩).era Γ1.g.length = Γ1 := by
    show (⟨Γ1.s, ((Γ1.g ++ [_]).set Γ1.g.length _).eraseIdx Γ1.g.length⟩ : Ev) = Γ1
    rw [List.set_append_right _ _ (Nat.le_refl _)]
    simp [List.eraseIdx_append_of_length_le]
  rw [e] at E3
  exact qn _ G2 _ _ (s1.trans s2) E3 n
/-- truths compared -/
theorem ed_eqB {a b : Bool} (ha : Ed P w ta Γ (.bl a) Γ1) (hb : Ed P w tb Γ1 (.bl b) Γ2) : Ed P w (tOp (rEqA K) ta tb) Γ (.bl (decide (a = b))) Γ2 := ed_op ha hb fun G H vx vy s ix iy Q q => by
  cases ix; cases iy
  refine .inl ⟨rfl, ?_⟩
  have e : decide (V.bl a = V.bl b) = decide (a = b) := by cases a <;> cases b <;> rfl
  rw [e]
  exact q _ G H (Grw.refl s) (.bl _)
theorem ed_neB {a b : Bool} (ha : Ed P w ta Γ (.bl a) Γ1) (hb : Ed P w tb Γ1 (.bl b) Γ2) : Ed P w (tOp (rNeA K) ta tb) Γ (.bl (!decide (a = b))) Γ2 := ed_op ha hb fun G H vx vy s ix iy Q q => by
  cases ix; cases iy
  refine .inl ⟨rfl, ?_⟩
  have e : decide (V.bl a = V.bl b) = decide (a = b) := by cases a <;> cases b <;> rfl
  rw [e]
  exact q _ G H (Grw.refl s) (.bl _)
end
end FK
set_option maxHeartbeats 4000000
/-! FM9: owned lists and dicts handed to a maker that copies them -/
namespace FK
open PySem L2
/-! ### trees without lists, dicts, objects -/
mutual
def T.flat : T → Bool
  | .non => true | .bl _ => true | .int _ => true | .str _ => true | .val _ => true
  | .tup ts => T.flatAll ts
  | _ => false
def T.flatAll : List T → Bool
  | [] => true
  | t :: ts => t.flat && T.flatAll ts
end
def O.flat : O → Bool
  | .lst ts => T.flatAll ts
  | .dic kvs => T.flatAll (kvs.map (·.2))
  | .ins _ fs => T.flatAll (fs.map (·.2))
  | _ => false
def less (G : Hp) (as : List Addr) : Hp := fun b => if b ∈ as then none else G b
theorem less_in {G : Hp} {as : List Addr} {b : Addr} (h : b ∈ as) : less G as b = none := if_pos h
theorem less_out {G : Hp} {as : List Addr} {b : Addr} (h : b ∉ as) : less G as b = G b := if_neg h
/-- what stands at as is no tuple -/
def NoTup (G : Hp) (as : List Addr) : Prop := ∀ a ∈ as, ∀ vs, G a ≠ some (.tup vs)
section
variable {P : Program} {w : World} {K : PySem.W.Frag}
mutual
theorem Is.less {G : Hp} {as : List Addr} (n : NoTup G as) : ∀ {v : V} {t : T}, Is P w G v t → t.flat = true → Is P w (less G as) v t
  | _, _, .non, _ => .non
  | _, _, .bl b, _ => .bl b
  | _, _, .int i, _ => .int i
  | _, _, .str x, _ => .str x
  | _, _, .lst _ _, f => by simp [T.flat] at f
  | _, _, .tup (a := a) (vs := vs) (ts := ts) h1 h2, f => by
    have f : T.flatAll ts = true := f
    refine .tup (vs := vs) ?_ (IsAll.less n h2 f)
    rw [less_out fun q => n a q vs h1]
    exact h1
  | _, _, .dic _ _ _, f => by simp [T.flat] at f
  | _, _, .ndc _ _ _, f => by simp [T.flat] at f
  | _, _, .pdc _ _ _, f => by simp [T.flat] at f
  | _, _, .obj _ _ _, f => by simp [T.flat] at f
  | _, _, .val v, _ => .val v
  | _, _, .opq _ _, f => by simp [T.flat] at f
theorem IsAll.less {G : Hp} {as : List Addr} (n : NoTup G as) : ∀ {vs : List V} {ts : List T}, IsAll P w G vs ts → T.flatAll ts = true → IsAll P w (less G as) vs ts
  | _, _, .nil, _ => .nil
  | _, _, .cons h1 h2, f => by
    have f : (_ && _) = true := f
    rw [Bool.and_eq_true] at f
    exact .cons (Is.less n h1 f.1) (IsAll.less n h2 f.2)
end
theorem Own.less {G H : Hp} {as : List Addr} (n : NoTup G as) {a : Addr} {o : O} (h : Own P w G H a o) (f : o.flat = true) : Own P w (less G as) H a o := by
  cases o with
  | lst ts => obtain ⟨vs, h1, h2⟩ := h; exact ⟨vs, h1, h2.less n f⟩
  | dic kvs => obtain ⟨ps, h1, h2, h3⟩ := h; exact ⟨ps, h1, h2, h3.less n f⟩
  | ndc kvs => exact absurd f Bool.false_ne_true
  | pdc kvs => exact absurd f Bool.false_ne_true
  | ins C fs => obtain ⟨dx, fv, h1, h2, h3⟩ := h; exact ⟨dx, fv, h1, h2, h3.less n f⟩
  | dicL od ps kvs => exact absurd f Bool.false_ne_true
  | ndcL od ps kvs => exact absurd f Bool.false_ne_true
/-- lists, dicts -/
def O.big : O → Bool
  | .ins _ _ => false
  | _ => true
theorem own_noTup {G H : Hp} {a : Addr} {o : O} (h : Own P w G H a o) (vs : List V) : H a ≠ some (.tup vs) := fun q => by
  cases o with
  | lst ts => obtain ⟨us, h1, h2⟩ := h; rw [q] at h1; cases h1
  | dic kvs => obtain ⟨ps, h1, h2⟩ := h; rw [q] at h1; cases h1
  | ndc kvs => obtain ⟨ps, h1, h2⟩ := h; rw [q] at h1; cases h1
  | pdc kvs => obtain ⟨ps, h1, h2⟩ := h; rw [q] at h1; cases h1
  | ins C fs => obtain ⟨dx, fv, h1, h2⟩ := h; rw [q] at h1; cases h1
  | dicL od ps kvs => obtain ⟨h1, h2⟩ := h; rw [q] at h1; cases h1
  | ndcL od ps kvs => obtain ⟨h1, h2⟩ := h; rw [q] at h1; cases h1
variable {Γ Γ1 : Ev} {tr : TA} {te : TE}
/-- C(..) of owned things that are copied: they stay owned -/
theorem ex_makeB {C : Addr} {R : List AO → List T → (T → List AO → Prop) → Prop} {E : XK} {ts ts' : List T} {js : List Nat} {bs : List Gh} (Φ : Addr → T → List AO → Prop) {Ψ : T → Ev → Prop} (h : EdA P w tr Γ ts Γ1) (hj : Lent Γ1.g js bs) (hlk : (bs.all fun x => !x.o.lk) = true)
    (hr : ∀ G, (∀ x ∈ bs, Is P w G (.ref x.a) x.o.tr) → RtyAll P w G ts ts') (hR : ∀ p, R [(p, .ins C [])] (.val (.ref p) :: ts') (Φ p))
    (hΦ : ∀ p t gs', Φ p t gs' → t = .non ∧ (∀ x ∈ gs', x.2.flat = true)) (k : ∀ p gs', Φ p .non gs' → Ψ (.val (.ref p)) ⟨Γ1.s, Γ1.g ++ gs'.map fun x => ⟨false, x.1, x.2⟩⟩) :
    Ex P w (tMake C (spG P w R) [] E tr) Γ Ψ := fun W σ G H En Q q => h W σ G H En _ fun vs G1 H1 s1 E1 is p dx hp hdx hne => by
  let as := bs.map (·.a)
  let Gp : Hp := fun b => if b ∈ as then H1 b else G1 b
  have gin : ∀ {b : Addr}, b ∈ as → Gp b = H1 b := fun hb => if_pos hb
  have gout : ∀ {b : Addr}, b ∉ as → Gp b = G1 b := fun hb => if_neg hb
  have mem : ∀ {b : Addr}, b ∈ as → ∃ x ∈ Γ1.g, x ∈ bs ∧ x.a = b := fun {b} hb => by
    obtain ⟨x, hx, e⟩ := List.mem_map.mp hb
    obtain ⟨j, _, ej⟩ := hj.at x hx
    exact ⟨x, List.mem_of_getElem? ej, hx, e⟩
  have noG1 : ∀ {b : Addr}, b ∈ as → G1 b = none := fun {b} hb => by
    obtain ⟨x, hx, _, e⟩ := mem hb
    rw [← e]; exact (E1.gh x hx).1
  have s1p : Same G1 Gp := fun b o e => by
    rw [gout fun hb => by rw [noG1 hb] at e; cases e]
    exact e
  have sp1 : Same Gp H1 := fun b o e => by
    by_cases hb : b ∈ as
    · rw [gin hb] at e; exact e
    · rw [gout hb] at e; exact E1.base _ _ e
  have s2 : Same H1 (upd (upd H1 dx (.own p)) p (.ins C dx [])) := fun b u e => by
    rw [upd_ne (ne_of_none e hp), upd_ne (ne_of_none e hdx)]
    exact e
  obtain ⟨f1, f2, f3⟩ := E1.fresh hp
  have isb : ∀ x ∈ bs, Is P w Gp (.ref x.a) x.o.tr := fun x hx => by
    obtain ⟨j, _, ej⟩ := hj.at x hx
    obtain ⟨g1, g2, _⟩ := E1.gh x (List.mem_of_getElem? ej)
    obtain ⟨u, hu, i⟩ := own_is g2 g1 (by have := List.all_eq_true.mp hlk x hx; simpa using this)
    refine i.mono fun b o e => ?_
    by_cases z : b = x.a
    · subst z
      rw [upd_same] at e
      cases e
      rw [gin (List.mem_map_of_mem (f := (·.a)) hx)]
      exact hu
    · rw [upd_ne z] at e
      exact s1p _ _ e
  have isp : IsAll P w Gp vs ts' := (is.mono s1p).retype (hr Gp isb)
  have pas : p ∉ as := fun hb => by
    obtain ⟨x, hx, _, e⟩ := mem hb
    obtain ⟨u, hu⟩ := (E1.gh x hx).2.1.there
    rw [e, hp] at hu; cases hu
  refine ⟨Gp, [(p, .ins C [])], _, Φ p, sp1.trans s2, by rw [List.append_nil]; exact .cons (.val _) isp, fun x hx => ?_, by simp, hR p, fun v t2 gs2 G2 H2 g ow nd2 hn i2 f => ?_⟩
  · rw [List.mem_singleton.mp hx]
    exact ⟨by rw [gout pas]; exact f1, dx, [], upd_same, rfl, .nil⟩
  · obtain ⟨rfl, hflat⟩ := hΦ p t2 gs2 f
    cases i2
    have at2 : ∀ {b : Addr} {u : HO}, H1 b = some u → H2 b = some u := fun {b u} e => g.hh b u (by simpa using ne_of_none e hp) (s2 _ _ e)
    have s1l : Same G1 (less G2 as) := fun b o e => by
      rw [less_out fun hb => by rw [noG1 hb] at e; cases e]
      exact g.gg _ _ (s1p _ _ e)
    have noT : NoTup G2 as := fun b hb vs' q => by
      obtain ⟨x, hx, _, e⟩ := mem hb
      obtain ⟨u, hu⟩ := (E1.gh x hx).2.1.there
      have := g.gg b u (by rw [gin hb, ← e]; exact hu)
      rw [this] at q
      exact own_noTup (E1.gh x hx).2.1 vs' (hu.trans q)
    have lh : Same (less G2 as) H2 := fun b o e => by
      by_cases hb : b ∈ as
      · rw [less_in hb] at e; cases e
      · rw [less_out hb] at e; exact g.gh _ _ e
    have newF : ∀ x ∈ gs2, H1 x.1 = none := fun x hx => by
      rcases hn x hx with z | z
      · have : x.1 = p := by simpa using z
        rw [this]; exact hp
      · exact s2.free z
    refine ⟨rfl, q (.ref p) (.val (.ref p)) _ (less G2 as) H2 (s1.trans s1l) ?_ (.val _) (k p gs2 f)⟩
    refine ⟨E1.len, lh, E1.hb.trans s1l, fun b o e z => at2 (E1.up b o e z), fun b z => let ⟨u, hu⟩ := E1.lent b z; ⟨u, at2 hu⟩, fun b o e => ?_, fun i t e => let ⟨v, h1, h2⟩ := E1.sh i t e; ⟨v, h1, h2.mono s1l⟩, fun x hx => ?_, ?_⟩
    · by_cases hb : b ∈ as
      · rw [less_in hb] at e; cases e
      · rw [less_out hb] at e
        rcases g.new b o e with z | z
        · rw [gout hb] at z; exact E1.new b o z
        · exact .inr (.inl (E1.noHe (s2.free z)))
    · rcases List.mem_append.mp (show x ∈ Γ1.g ++ gs2.map fun x => ⟨false, x.1, x.2⟩ from hx) with hx | hx
      · obtain ⟨g1, g2, g3⟩ := E1.gh x hx
        obtain ⟨u, hu⟩ := g2.there
        refine ⟨?_, g2.at s1l fun u e => at2 e, g3⟩
        by_cases hb : x.a ∈ as
        · exact less_in hb
        · rw [less_out hb]
          cases z : G2 x.a with
          | none => rfl
          | some y =>
            rcases g.new x.a y z with q' | q'
            · rw [gout hb, g1] at q'; cases q'
            · rw [s2 _ _ hu] at q'; cases q'
      · obtain ⟨y, hy, rfl⟩ := List.mem_map.mp hx
        obtain ⟨o1, o2⟩ := ow y hy
        refine ⟨?_, o2.less noT (hflat y hy), .inr ⟨rfl, E1.noHe (newF y hy)⟩⟩
        by_cases hb : y.1 ∈ as
        · exact less_in hb
        · show less G2 as y.1 = none
          rw [less_out hb]; exact o1
    · show ((Γ1.g ++ gs2.map fun x => (⟨false, x.1, x.2⟩ : Gh)).map (·.a)).Nodup
      rw [List.map_append, List.map_map, List.nodup_append]
      refine ⟨E1.sep, nd2, fun x hx y hy e => ?_⟩
      obtain ⟨z, hz, rfl⟩ := List.mem_map.mp hx
      obtain ⟨y', hy', rfl⟩ := List.mem_map.mp hy
      obtain ⟨u, hu⟩ := (E1.gh z hz).2.1.there
      rw [show z.a = y'.1 from e, newF y' hy'] at hu
      cases hu
end
end FK
namespace FK
open PySem L2
section
variable {P : Program} {w : World} {K : PySem.W.Frag} {Γ Γ1 Γ2 : Ev} {ta tb te : TE} {t : T} {tr : TA}
theorem sub_era (j : Nat) : Sub P w Γ (Γ.era j) := fun W σ G H E => ⟨G, Same.refl _, E.erase j⟩
theorem Sub.trans (h1 : Sub P w Γ Γ1) (h2 : Sub P w Γ1 Γ2) : Sub P w Γ Γ2 := fun W σ G H E => by
  obtain ⟨G1, s1, E1⟩ := h1 W σ G H E
  obtain ⟨G2, s2, E2⟩ := h2 W σ G1 H E1
  exact ⟨G2, s1.trans s2, E2⟩
/-- xs * n -/
theorem en_rep {xs : List T} {n : Int} (ha : Ed P w ta Γ (.lst xs) Γ1) (hb : Ed P w tb Γ1 (.int n) Γ2) (h0 : 0 ≤ n) (hn : n ≤ 1000) (hl : xs.length ≤ 1000) : EdN P w (tOp rMulA ta tb) Γ (.lst (List.replicate n.toNat xs).flatten) Γ2 := en_op ha hb fun G H vx vy s ix iy Q q => by
  cases ix with
  | @lst a vs ts h1 h2 =>
    cases iy
    refine .inr ⟨_, _, _, rfl, rfl, s _ _ h1, by omega, by omega, ?_, fun p hp => q p G _ (Grw.side s hp) hp (s.free hp) ⟨_, upd_same, ?_⟩⟩
    · rw [h2.length]
      have : xs.length * n.toNat ≤ 1000 * 1000 := Nat.mul_le_mul hl (by omega)
      exact Nat.le_trans this (by decide)
    · have key : ∀ k : Nat, IsAll P w G (List.replicate k vs).flatten (List.replicate k xs).flatten := by
        intro k
        induction k with
        | zero => exact .nil
        | succ k ih =>
          rw [List.replicate_succ, List.replicate_succ, List.flatten_cons, List.flatten_cons]
          exact h2.append ih
      exact key _
end
end FK
set_option maxHeartbeats 4000000
/-! FM10: least sums and ways; things far apart -/
namespace FK
section
variable {E : Type} [DecidableEq E]
theorem dist_walk {ends : List E} {rules : List (Ck E)} {s : Cs E} (t : Tri ends ends s) (hb : ∀ c ∈ rules, Le (dist s c.1 c.2.1) c.2.2) (he : ∀ c ∈ rules, c.1 ∈ ends ∧ c.2.1 ∈ ends) : ∀ {w : List Nat} {a b : E}, Lk rules a w b → a ∈ ends → b ∈ ends → Le (dist s a b) (sumC rules w)
  | [], a, b, l, _, _ => by
    have : a = b := l
    subst this
    exact ⟨0, dist_self _ _, by simp [sumC]⟩
  | i :: w, a, b, ⟨c, e1, e2, l⟩, ha, hb' => by
    have hc := List.mem_of_getElem? e1
    subst e2
    obtain ⟨y, h1, h2⟩ := dist_walk t hb he l (he c hc).2 hb'
    obtain ⟨x, h3, h4⟩ := hb c hc
    rw [sumC_cons, num_of e1]
    exact (t c.2.1 (he c hc).2 c.1 ha b hb' x y h3 h1).mono (by omega)
theorem dist_chain {rules : List (Ck E)} {s : Cs E} (I : CInv rules s) {a b : E} {x : Int} (h : dist s a b = some x) : ∃ w, Lk rules a w b ∧ sumC rules w = x := by
  by_cases z : a = b
  · subst z
    rw [dist_self] at h
    cases h
    exact ⟨[], rfl, rfl⟩
  · rw [dist_ne _ z] at h
    obtain ⟨v, e1, e2⟩ := Option.map_eq_some_iff.mp h
    obtain ⟨_, _, l, hs⟩ := I.tab a b v.1 v.2 e1
    exact ⟨v.2, l, hs.trans e2⟩
theorem Snd.bf {rules : List (Ck E)} {start : E} : ∀ {n : Nat} {f r : List (E × Int)}, Snd rules start f → bf rules n f = some r → Snd rules start r
  | 0, f, r, _, h => by cases h
  | n + 1, f, r, hs, h => by
    unfold FK.bf at h
    cases e : (roundE rules f).2 with
    | true => rw [e, if_pos rfl] at h; exact Snd.bf hs.round h
    | false =>
      rw [e, if_neg Bool.false_ne_true] at h
      cases h
      exact hs.round
/-- what all is known of a kind with things -/
structure Full (ends : List E) (rules : List (Ck E)) (s : Cs E) : Prop where
  inv : CInv rules s
  tri : Tri ends ends s
  le : ∀ c ∈ rules, Le (dist s c.1 c.2.1) c.2.2
  ends : ∀ c ∈ rules, c.1 ∈ ends ∧ c.2.1 ∈ ends
theorem full_of {ends : List E} {rules : List (Ck E)} (he : ∀ c ∈ rules, c.1 ∈ ends ∧ c.2.1 ∈ ends ∧ c.1 ≠ c.2.1) (hr : (chainsE ends rules).ring = none) : Full ends rules (chainsE ends rules) := by
  obtain ⟨t1, t2⟩ := chains_tri hr
  exact ⟨CInv.chains ends rules, t1, fun c hc => t2 c hc (he c hc).2.2, fun c hc => ⟨(he c hc).1, (he c hc).2.1⟩⟩
variable {ends : List E} {rules : List (Ck E)} {s : Cs E}
theorem Full.pot (F : Full ends rules s) : Pot rules (low ends s) := fun c hc => by
  obtain ⟨x, h1, h2⟩ := F.le c hc
  have := low_pot F.inv F.tri (F.ends c hc).1 (F.ends c hc).2 h1
  omega
theorem Full.walk (F : Full ends rules s) {w : List Nat} {a b : E} (l : Lk rules a w b) (ha : a ∈ ends) (hb : b ∈ ends) : Le (dist s a b) (sumC rules w) := dist_walk F.tri F.le F.ends l ha hb
/-- going round finds the least sums -/
theorem Full.goes (F : Full ends rules s) {n : Nat} {a b : E} {r : List (E × Int)} (h : goes rules n a = some r) (ha : a ∈ ends) (hb : b ∈ ends) : getA r b = dist s a b := by
  have snd0 : Snd rules a [(a, 0)] := fun v x q => by
    rw [getA_cons, getA_nil] at q
    by_cases z : a = v
    · rw [if_pos z] at q
      cases q
      exact ⟨[], z, rfl⟩
    · rw [if_neg z] at q; cases q
  have snd := Snd.bf snd0 h
  obtain ⟨c1, c2⟩ := bf_closed h
  have start : Le (getA r a) 0 := c2 a 0 ⟨0, by rw [getA_cons, if_pos rfl], Int.le_refl _⟩
  cases e : dist s a b with
  | none =>
    cases e2 : getA r b with
    | none => rfl
    | some y =>
      obtain ⟨w, l, _⟩ := snd b y e2
      obtain ⟨z, hz, _⟩ := F.walk l ha hb
      rw [e] at hz; cases hz
  | some x =>
    obtain ⟨w, l, hw⟩ := dist_chain F.inv e
    obtain ⟨y, h1, h2⟩ := closed_le c1 l start
    rw [h1]
    obtain ⟨w2, l2, hw2⟩ := snd b y h1
    obtain ⟨z, h3, h4⟩ := F.walk l2 ha hb
    rw [e] at h3
    cases h3
    congr 1
    omega
theorem sum_abs {B : Int} (hB : ∀ c ∈ rules, -B ≤ c.2.2 ∧ c.2.2 ≤ B) : ∀ {w : List Nat} {a b : E}, Lk rules a w b → -(B * (w.length : Nat)) ≤ sumC rules w ∧ sumC rules w ≤ B * (w.length : Nat)
  | [], _, _, _ => by simp [sumC]
  | i :: w, a, b, ⟨c, e1, e2, l⟩ => by
    obtain ⟨h1, h2⟩ := sum_abs hB l
    obtain ⟨h3, h4⟩ := hB c (List.mem_of_getElem? e1)
    rw [sumC_cons, num_of e1, List.length_cons]
    have e : B * ((w.length + 1 : Nat) : Int) = B * (w.length : Nat) + B := by
      rw [show ((w.length + 1 : Nat) : Int) = (w.length : Int) + 1 from rfl, Int.mul_add, Int.mul_one]
    rw [e]
    omega
theorem Full.bound (F : Full ends rules s) (hB : ∀ c ∈ rules, -100 ≤ c.2.2 ∧ c.2.2 ≤ 100) (hl : ends.length ≤ 7) {a b : E} (ha : a ∈ ends) (hb : b ∈ ends) {x : Int} (h : dist s a b = some x) : -600 ≤ x ∧ x ≤ 600 := by
  obtain ⟨w, l, hw⟩ := dist_chain F.inv h
  obtain ⟨w', l', hl', hs'⟩ := cut_short F.pot (V := ends) F.ends ha rfl l
  obtain ⟨b1, b2⟩ := sum_abs (B := 100) hB l'
  obtain ⟨y, h1, h2⟩ := F.walk l' ha hb
  rw [h] at h1
  cases h1
  omega
theorem Full.low_ge (F : Full ends rules s) (hB : ∀ c ∈ rules, -100 ≤ c.2.2 ∧ c.2.2 ≤ 100) (hl : ends.length ≤ 7) {a : E} (ha : a ∈ ends) : -600 ≤ low ends s a := by
  rcases low_of (ends := ends) F.inv a with e | ⟨b, hb, e⟩
  · omega
  · exact (F.bound hB hl ha hb e).1
/-- numbers far above an end, as far as can be -/
def apart (ends : List E) (s : Cs E) (o e : E) : Int := match dist s e o with
  | some x => x
  | none => 5000 + low ends s e
theorem Full.apart (F : Full ends rules s) (hB : ∀ c ∈ rules, -100 ≤ c.2.2 ∧ c.2.2 ≤ 100) (hl : ends.length ≤ 7) {o : E} (ho : o ∈ ends) : Pot rules (apart ends s o) := fun c hc => by
  obtain ⟨x, h1, h2⟩ := F.le c hc
  obtain ⟨e1, e2⟩ := F.ends c hc
  unfold FK.apart
  cases h3 : dist s c.2.1 o with
  | some y =>
    obtain ⟨z, h4, h5⟩ := F.tri c.2.1 e2 c.1 e1 o ho x y h1 h3
    rw [h4]
    show z - y ≤ c.2.2
    omega
  | none =>
    cases h4 : dist s c.1 o with
    | some z =>
      have := F.bound hB hl e1 ho h4
      have := F.low_ge hB hl e2
      have := hB c hc
      show z - (5000 + low ends s c.2.1) ≤ c.2.2
      omega
    | none =>
      have := low_pot F.inv F.tri e1 e2 h1
      show 5000 + low ends s c.1 - (5000 + low ends s c.2.1) ≤ c.2.2
      omega
theorem apart_self (o : E) : apart ends s o o = 0 := by unfold apart; rw [dist_self]
/-- all ends that chains lead to -/
def comeTo (ends : List E) (s : Cs E) (a : E) : List E := ends.filter fun e => (dist s a e).isSome
theorem Full.comeTo (F : Full ends rules s) {a : E} (ha : a ∈ ends) {c : Ck E} (hc : c ∈ rules) (h : c.1 ∈ FK.comeTo ends s a) : c.2.1 ∈ FK.comeTo ends s a := by
  obtain ⟨e1, e2⟩ := F.ends c hc
  have h := (List.mem_filter.mp h).2
  obtain ⟨x, hx⟩ := Option.isSome_iff_exists.mp h
  obtain ⟨y, hy, _⟩ := F.le c hc
  obtain ⟨z, hz, _⟩ := F.tri c.1 e1 a ha c.2.1 e2 x y hx hy
  exact List.mem_filter.mpr ⟨e2, by rw [hz]; rfl⟩
/-- numbers beyond -/
theorem Full.beyond (F : Full ends rules s) {a : E} (ha : a ∈ ends) {p : E → Int} (hp : Pot rules p) {k : Int} (hk : 0 ≤ k) : Pot rules fun e => p e + if e ∈ FK.comeTo ends s a then k else 0 := fun c hc => by
  have h := hp c hc
  show (p c.1 + if c.1 ∈ FK.comeTo ends s a then k else 0) - (p c.2.1 + if c.2.1 ∈ FK.comeTo ends s a then k else 0) ≤ c.2.2
  by_cases z : c.1 ∈ FK.comeTo ends s a
  · rw [if_pos z, if_pos (F.comeTo ha hc z)]; omega
  · rw [if_neg z]
    split <;> omega
end
end FK
set_option maxHeartbeats 4000000
/-! FM11: owned objects read by calls that tell a plain value; new objects with owned parts -/
namespace FK
open PySem L2
section
variable {P : Program} {w : World} {K : PySem.W.Frag} {Γ Γ1 Γ2 : Ev} {tr : TA} {te ta : TE} {t : T}
/-- what all stands on, with what stands at as -/
def more (G H : Hp) (as : List Addr) : Hp := fun b => if b ∈ as then H b else G b
theorem own_tr {G : Hp} {a : Addr} {o : O} (h : Own P w G G a o) (hp : o.lk = false := by rfl) : Is P w G (.ref a) o.tr := by
  cases o with
  | lst ts => obtain ⟨vs, h1, h2⟩ := h; exact .lst h1 h2
  | dic kvs => obtain ⟨ps, h1, h2, h3⟩ := h; exact .dic h1 h2 h3
  | ndc kvs => obtain ⟨ps, h1, h2, h3⟩ := h; exact .ndc h1 h2 h3
  | pdc kvs =>
    obtain ⟨xs, h1, h0, h2, h3⟩ := h
    exact .pdc (ps := xs.map fun x => (x.1, x.2.2)) ⟨xs, rfl, h1, h0⟩ (by rw [List.map_map]; exact h2) (by rw [List.map_map]; exact h3)
  | ins C fs => obtain ⟨dx, fv, h1, h2, h3⟩ := h; exact .obj h1 h2 h3
  | dicL od ps kvs => cases hp
  | ndcL od ps kvs => cases hp
theorem own_trR {G : Hp} {a C : Addr} {fs fs' : List (Str × T)} (h : Own P w G G a (.ins C fs)) (hf : fs'.map (·.1) = fs.map (·.1)) (hr : RtyAll P w G (fs.map (·.2)) (fs'.map (·.2))) : Is P w G (.ref a) (.obj C fs') := by
  obtain ⟨dx, fv, h1, h2, h3⟩ := h
  exact .obj h1 (h2.trans hf.symm) (h3.retype hr)
theorem own_trL {G : Hp} {a : Addr} {ts ts' : List T} (h : Own P w G G a (.lst ts)) (hr : RtyAll P w G ts ts') : Is P w G (.ref a) (.lst ts') := by
  obtain ⟨vs, h1, h2⟩ := h
  exact .lst h1 (h2.retype hr)
theorem borrow {W : Wd} {σ : L2.St} {G H : Hp} (E : Tenv P w W σ G H Γ) {js : List Nat} {bs : List Gh} (hj : Lent Γ.g js bs) :
    Same G (more G H (bs.map (·.a))) ∧ Same (more G H (bs.map (·.a))) H ∧ (∀ x ∈ bs, Own P w (more G H (bs.map (·.a))) (more G H (bs.map (·.a))) x.a x.o) ∧
    ∀ G' H', Grw (more G H (bs.map (·.a))) H G' H' → NoTup G' (bs.map (·.a)) ∧ Same G (less G' (bs.map (·.a))) ∧ Tenv P w W σ (less G' (bs.map (·.a))) H' Γ := by
  have gin : ∀ {b : Addr}, b ∈ bs.map (·.a) → more G H (bs.map (·.a)) b = H b := fun hb => if_pos hb
  have gout : ∀ {b : Addr}, b ∉ bs.map (·.a) → more G H (bs.map (·.a)) b = G b := fun hb => if_neg hb
  have mem : ∀ {b : Addr}, b ∈ bs.map (·.a) → ∃ x ∈ Γ.g, x ∈ bs ∧ x.a = b := fun {b} hb => by
    obtain ⟨x, hx, e⟩ := List.mem_map.mp hb
    obtain ⟨j, _, ej⟩ := hj.at x hx
    exact ⟨x, List.mem_of_getElem? ej, hx, e⟩
  have noG1 : ∀ {b : Addr}, b ∈ bs.map (·.a) → G b = none := fun {b} hb => by
    obtain ⟨x, hx, _, e⟩ := mem hb
    rw [← e]; exact (E.gh x hx).1
  have s1p : Same G (more G H (bs.map (·.a))) := fun b o e => by
    rw [gout fun hb => by rw [noG1 hb] at e; cases e]
    exact e
  have sp1 : Same (more G H (bs.map (·.a))) H := fun b o e => by
    by_cases hb : b ∈ bs.map (·.a)
    · rw [gin hb] at e; exact e
    · rw [gout hb] at e; exact E.base _ _ e
  refine ⟨s1p, sp1, fun x hx => ?_, fun G' H' g => ?_⟩
  · obtain ⟨j, _, ej⟩ := hj.at x hx
    obtain ⟨g1, g2, _⟩ := E.gh x (List.mem_of_getElem? ej)
    exact g2.at s1p fun u e => by rw [gin (List.mem_map_of_mem (f := (·.a)) hx)]; exact e
  · have s1l : Same G (less G' (bs.map (·.a))) := fun b o e => by
      rw [less_out fun hb => by rw [noG1 hb] at e; cases e]
      exact g.gg _ _ (s1p _ _ e)
    have noT : NoTup G' (bs.map (·.a)) := fun b hb vs' q => by
      obtain ⟨x, hx, _, e⟩ := mem hb
      obtain ⟨u, hu⟩ := (E.gh x hx).2.1.there
      have := g.gg b u (by rw [gin hb, ← e]; exact hu)
      rw [this] at q
      exact own_noTup (E.gh x hx).2.1 vs' (hu.trans q)
    refine ⟨noT, s1l, E.len, fun b o e => ?_, E.hb.trans s1l, fun b o e z => g.hh _ _ (E.up b o e z), fun b z => let ⟨u, hu⟩ := E.lent b z; ⟨u, g.hh _ _ hu⟩, fun b o e => ?_, fun i t e => let ⟨v, h1, h2⟩ := E.sh i t e; ⟨v, h1, h2.mono s1l⟩, fun x hx => ?_, E.sep⟩
    · by_cases hb : b ∈ bs.map (·.a)
      · rw [less_in hb] at e; cases e
      · rw [less_out hb] at e; exact g.gh _ _ e
    · by_cases hb : b ∈ bs.map (·.a)
      · rw [less_in hb] at e; cases e
      · rw [less_out hb] at e
        rcases g.new b o e with z | z
        · rw [gout hb] at z; exact E.new b o z
        · exact .inr (.inl (E.noHe z))
    · obtain ⟨g1, g2, g3⟩ := E.gh x hx
      obtain ⟨u, hu⟩ := g2.there
      refine ⟨?_, g2.at s1l fun u e => g.hh _ _ e, g3⟩
      by_cases hb : x.a ∈ bs.map (·.a)
      · exact less_in hb
      · rw [less_out hb]
        cases z : G' x.a with
        | none => rfl
        | some y =>
          rcases g.new x.a y z with q' | q'
          · rw [gout hb, g1] at q'; cases q'
          · rw [hu] at q'; cases q'
/-- f(..) that reads owned things and tells a plain value -/
theorem ed_callB {R : List T → T → Prop} {E : XK} {ts ts' : List T} {js : List Nat} {bs : List Gh} (h : EdA P w tr Γ ts Γ1) (hj : Lent Γ1.g js bs) (hr : ∀ G, (∀ x ∈ bs, Own P w G G x.a x.o) → RtyAll P w G ts ts') (hR : R ts' t) (hf : t.flat = true) :
    Ed P w (tCall (spT P w R) [] E tr) Γ t Γ1 := fun W σ G H En Q q => h W σ G H En _ fun vs G1 H1 s1 E1 is => by
  obtain ⟨b1, b2, b3, b4⟩ := borrow E1 hj
  refine ⟨_, ts', t, b2, by rw [List.append_nil]; exact (is.mono b1).retype (hr _ b3), hR, fun v G2 H2 g i => ?_⟩
  obtain ⟨c1, c2, c3⟩ := b4 G2 H2 g
  exact q v _ H2 (s1.trans c2) c3 (i.less c1 hf)
theorem ed_methB {C : Addr} {m : Str} {l : Bool} {a : Addr} {j : Nat} {fs : List (Str × T)} {R : List T → T → Prop} {E : XK} {ts ts' : List T} {js : List Nat} {bs : List Gh} (ho : Ed P w ta Γ (.val (.ref a)) Γ1) (hs : Γ1.g[j]? = some ⟨l, a, .ins C fs⟩) (hm : look fs m = none) (h : EdA P w tr Γ1 ts Γ2) (hj : Lent Γ2.g js bs)
    (hr : ∀ G, (∀ x ∈ bs, Own P w G G x.a x.o) → RtyAll P w G (.val (.ref a) :: ts) ts') (hR : R ts' t) (hf : t.flat = true) : Ed P w (tMeth C m (spT P w R) [] E ta tr) Γ t Γ2 := fun W σ G H En Q q => ho W σ G H En _ fun v G1 H1 s1 E1 i => by
  cases i
  obtain ⟨_, ⟨dx, fv, h1, h2, h3⟩, _⟩ := E1.gh _ (List.mem_of_getElem? hs)
  refine ⟨_, _, _, rfl, h1, names_none h2 h3 hm, h W σ G1 H1 E1 _ fun vs G2 H2 s2 E2 is => ?_⟩
  obtain ⟨b1, b2, b3, b4⟩ := borrow E2 hj
  refine ⟨_, ts', t, b2, by rw [List.append_nil]; exact IsAll.retype ((IsAll.cons (.val _) is).mono b1) (hr _ b3), hR, fun v G3 H3 g i => ?_⟩
  obtain ⟨c1, c2, c3⟩ := b4 G3 H3 g
  exact q v _ H3 ((s1.trans s2).trans c2) c3 (i.less c1 hf)
/-- C(..), the new object has owned parts -/
theorem ex_makeG {C : Addr} {R : List AO → List T → (T → List AO → Prop) → Prop} {E : XK} {ts : List T} (Φ : Addr → T → List AO → Prop) {Ψ : T → Ev → Prop} (h : EdA P w tr Γ ts Γ1) (hR : ∀ p, R [(p, .ins C [])] (.val (.ref p) :: ts) (Φ p))
    (hΦ : ∀ p t gs', Φ p t gs' → t = .non) (k : ∀ p gs', Φ p .non gs' → Ψ (.val (.ref p)) ⟨Γ1.s, Γ1.g ++ gs'.map fun x => ⟨false, x.1, x.2⟩⟩) :
    Ex P w (tMake C (spG P w R) [] E tr) Γ Ψ := fun W σ G H En Q q => h W σ G H En _ fun vs G1 H1 s1 E1 is p dx hp hdx hne => by
  have s2 : Same H1 (upd (upd H1 dx (.own p)) p (.ins C dx [])) := fun b u e => by
    rw [upd_ne (ne_of_none e hp), upd_ne (ne_of_none e hdx)]
    exact e
  obtain ⟨f1, f2, f3⟩ := E1.fresh hp
  refine ⟨G1, [(p, .ins C [])], _, Φ p, E1.base.trans s2, by rw [List.append_nil]; exact .cons (.val _) is, fun x hx => ?_, by simp, hR p, fun v t2 gs2 G2 H2 g ow nd2 hn i2 f => ?_⟩
  · rw [List.mem_singleton.mp hx]
    exact ⟨f1, dx, [], upd_same, rfl, .nil⟩
  · obtain rfl := hΦ p t2 gs2 f
    cases i2
    have g2 : Grw G1 H1 G2 H2 := ⟨g.gg, g.gh, fun b u e => g.hh b u (by simpa using ne_of_none e hp) (s2 _ _ e), fun b u e => by
      rcases g.new b u e with q | q
      · exact .inl q
      · exact .inr (s2.free q)⟩
    have newF : ∀ x ∈ gs2, H1 x.1 = none := fun x hx => by
      rcases hn x hx with z | z
      · have : x.1 = p := by simpa using z
        rw [this]; exact hp
      · exact s2.free z
    have E2 := E1.grow g2
    refine ⟨rfl, q (.ref p) (.val (.ref p)) ⟨Γ1.s, Γ1.g ++ gs2.map fun x => ⟨false, x.1, x.2⟩⟩ G2 H2 (s1.trans g2.gg) ⟨E2.len, E2.base, E2.hb, E2.up, E2.lent, E2.new, E2.sh, fun x hx => ?_, ?_⟩ (.val _) (k p gs2 f)⟩
    · rcases List.mem_append.mp (show x ∈ Γ1.g ++ gs2.map fun x => ⟨false, x.1, x.2⟩ from hx) with hx | hx
      · exact E2.gh x hx
      · obtain ⟨y, hy, rfl⟩ := List.mem_map.mp hx
        obtain ⟨o1, o2⟩ := ow y hy
        exact ⟨o1, o2, .inr ⟨rfl, E1.noHe (newF y hy)⟩⟩
    · show ((Γ1.g ++ gs2.map fun x => (⟨false, x.1, x.2⟩ : Gh)).map (·.a)).Nodup
      rw [List.map_append, List.map_map, List.nodup_append]
      refine ⟨E1.sep, nd2, fun x hx y hy e => ?_⟩
      obtain ⟨z, hz, rfl⟩ := List.mem_map.mp hx
      obtain ⟨y', hy', rfl⟩ := List.mem_map.mp hy
      obtain ⟨u, hu⟩ := (E1.gh z hz).2.1.there
      rw [show z.a = y'.1 from e, newF y' hy'] at hu
      cases hu
/-- f(..) that hands back new owned things, none lent -/
theorem ex_callN {R : List AO → List T → (T → List AO → Prop) → Prop} {E : XK} {ts : List T} {Φ : T → List AO → Prop} {Ψ : T → Ev → Prop} (h : EdA P w tr Γ ts Γ1) (hR : R [] ts Φ) (k : ∀ t gs', Φ t gs' → Ψ t ⟨Γ1.s, Γ1.g ++ gs'.map fun x => ⟨false, x.1, x.2⟩⟩) :
    Ex P w (tCall (spG P w R) [] E tr) Γ Ψ := fun W σ G H En Q q => h W σ G H En _ fun vs G1 H1 s1 E1 is => by
  refine ⟨G1, [], ts, Φ, E1.base, by rw [List.append_nil]; exact is, (fun x hx => nomatch hx), List.nodup_nil, hR, fun v t2 gs2 G2 H2 g ow nd2 hn i f => ?_⟩
  have g2 : Grw G1 H1 G2 H2 := ⟨g.gg, g.gh, fun b u e => g.hh b u (by simp) e, g.new⟩
  have newF : ∀ x ∈ gs2, H1 x.1 = none := fun x hx => (hn x hx).resolve_left (by simp)
  have E2 := E1.grow g2
  refine q v t2 ⟨Γ1.s, Γ1.g ++ gs2.map fun x => ⟨false, x.1, x.2⟩⟩ G2 H2 (s1.trans g2.gg) ⟨E2.len, E2.base, E2.hb, E2.up, E2.lent, E2.new, E2.sh, fun x hx => ?_, ?_⟩ i (k t2 gs2 f)
  · rcases List.mem_append.mp (show x ∈ Γ1.g ++ gs2.map fun x => ⟨false, x.1, x.2⟩ from hx) with hx | hx
    · exact E2.gh x hx
    · obtain ⟨y, hy, rfl⟩ := List.mem_map.mp hx
      obtain ⟨o1, o2⟩ := ow y hy
      exact ⟨o1, o2, .inr ⟨rfl, E1.noHe (newF y hy)⟩⟩
  · show ((Γ1.g ++ gs2.map fun x => (⟨false, x.1, x.2⟩ : Gh)).map (·.a)).Nodup
    rw [List.map_append, List.map_map, List.nodup_append]
    refine ⟨E1.sep, nd2, fun x hx y hy e => ?_⟩
    obtain ⟨z, hz, rfl⟩ := List.mem_map.mp hx
    obtain ⟨y', hy', rfl⟩ := List.mem_map.mp hy
    obtain ⟨u, hu⟩ := (E1.gh z hz).2.1.there
    rw [show z.a = y'.1 from e, newF y' hy'] at hu
    cases hu
/-- isinstance of an owned object -/
theorem ed_isiO {C : Addr} {j : Nat} {l : Bool} {a : Addr} {fs : List (Str × T)} {c : V} {cu : Value} {b : Bool} (h : EdA P w tr Γ [.val (.ref a), .val c] Γ1) (hj : Γ1.g[j]? = some ⟨l, a, .ins C fs⟩) (k : InsT K C) (hc : ClsV c cu) (e : PySem.W.kitOne K (.ref C) cu = some b) : Ed P w (tCB (rIsi K) tr) Γ (.bl b) Γ1 := fun W σ G H E Q q => h W σ G H E _ fun vs G1 H1 s1 E1 is => by
  obtain ⟨_, ⟨dx, fv, h1, h2, h3⟩, _⟩ := E1.gh _ (List.mem_of_getElem? hj)
  cases is with
  | cons i1 is =>
    cases is with
    | cons i2 is =>
      cases is
      cases i1; cases i2
      exact ⟨_, _, _, _, b, rfl, hc, .base (.ins h1 k.cl k.ha k.hn k.htk k.hm), e, q _ G1 H1 s1 E1 (.bl _)⟩
variable {Nx : Ev → Prop} {Rt : T → Ev → Prop} {a : Addr} {l : Bool} {j : Nat}
/-- d.clear() of an owned dict -/
theorem bd_clearD {kvs : List (Str × T)} (ho : Ed P w ta Γ (.val (.ref a)) Γ1) (hj : Γ1.g[j]? = some ⟨l, a, .dic kvs⟩) (n : Nx (Γ1.own j ⟨l, a, .dic []⟩)) : Bd P w (tDrop (tBM0 K "dict" rDClear ta)) Γ Nx Rt := fun W σ G H E D qn qr => ho W σ G H E _ fun v G1 H1 s1 E1 i => by
  cases i
  obtain ⟨_, ⟨ps, h3, h5, h6⟩, _⟩ := E1.gh _ (List.mem_of_getElem? hj)
  refine ⟨.inr (.inr (.inl ⟨rfl, .inl ⟨_, h3⟩⟩)), a, ps, rfl, rfl, h3, ?_⟩
  exact qn _ G1 _ _ s1 (E1.mut (o' := .dic []) hj ⟨_, upd_same, rfl, .nil⟩) n
theorem bd_clearL {ts : List T} (ho : Ed P w ta Γ (.val (.ref a)) Γ1) (hj : Γ1.g[j]? = some ⟨l, a, .lst ts⟩) (n : Nx (Γ1.own j ⟨l, a, .lst []⟩)) : Bd P w (tDrop (tBM0 K "list" rClear ta)) Γ Nx Rt := fun W σ G H E D qn qr => ho W σ G H E _ fun v G1 H1 s1 E1 i => by
  cases i
  obtain ⟨_, ⟨vs, h3, h5⟩, _⟩ := E1.gh _ (List.mem_of_getElem? hj)
  refine ⟨.inl ⟨rfl, _, SqL.of h3⟩, a, vs, rfl, rfl, h3, ?_⟩
  exact qn _ G1 _ _ s1 (E1.mut (o' := .lst []) hj ⟨_, upd_same, .nil⟩) n
end
end FK
set_option maxHeartbeats 4000000
/-! FM12: owned dicts walked; xs[::2]; d[k] += v -/
namespace FK
open PySem L2 PySem.Spec PyProof.Rows
/-! ### walks over dicts whose keys are None or texts -/
def ItkN (P : Program) (w : World) (d : Addr) (o : Obj) (kvs : List (Leaf × V)) : It :=
  ⟨fun i H => (H d = some (.frz o (NOb P w d kvs)) ∧ ∀ p ∈ kvs, ∀ i, p.1 ≠ .num i) ∧ i < kvs.length, fun i H x H' => H' = H ∧ ∃ k v, kvs[i]? = some (k, v) ∧ x = lV k, fun i H => H d = some (.frz o (NOb P w d kvs)) ∧ kvs.length ≤ i⟩
theorem relV_leaf {P : Program} {w : World} {k : Leaf} {u : Value} (hk : ∀ i, k ≠ .num i) (h : (leafKind P w).is k u = true) : RelV (lV k) u := by
  have h : Leaf.isOf k u = true := h
  cases k with
  | none => cases u <;> simp [Leaf.isOf] at h ⊢ <;> rfl
  | num i => exact absurd rfl (hk i)
  | text x => cases u <;> simp [Leaf.isOf, Value.isStrOf] at h ⊢; subst h; exact ⟨_, rfl⟩
section
variable {X : Cx} {pins : List (Addr × Obj)} {σ : L2.St} {H : Hp} {s : Shared} {d : Addr} {o : Obj}
theorem frzN {kvs : List (Leaf × V)} (I : Inv X pins σ H s) (h : H d = some (.frz o (NOb X.prog X.w d kvs))) :
    (d == sysModules) = false ∧ s.heap.get? d = some o ∧ o.ExactDict ∧ ∃ (es : Array DictEntry) (ep : Nat) (vs : List (Leaf × Value)), o.data = .dict es ep ∧ es.size = kvs.length ∧ KV kvs vs ∧ s.heap.DictAt (leafKind X.prog X.w) d vs ep := by
  obtain ⟨hd, ⟨z, hs, vs, kv, o', es, ep, ho, hx, hdt, r⟩, _⟩ := I.hok d _ h
  rw [hd] at ho
  cases ho
  refine ⟨hs, hd, hx, es, ep, vs, hdt, ?_, kv, o, es, hd, hx, hdt, r⟩
  have l1 := r.2.1.length
  have l2 : kvs.length = vs.length := Paired.length kv
  rw [Array.length_toList] at l1
  omega
theorem turn_keysN {P : Program} {w : World} {K : PySem.W.Frag} {tg : Expr} {es : Array DictEntry} {ep : Nat} {kvs : List (Leaf × V)} (it : Addr) (hod : o.data = .dict es ep) : Turn P w K tg (ItkN P w d o kvs) [it] it (fun i h => h.IsKeyIter it d i kvs.length ep) where
  mem := by simp
  obj := fun i h st b hb => by
    have e : b = it := by simpa using hb
    subst e
    obtain ⟨oi, e, c, dd⟩ := st
    exact ⟨oi, e, fun v z => by rw [dd] at z; cases z⟩
  keep := fun i h h' st k => st.at fun oi e => k it (by simp) oi e
  item := by
    intro X hP hw hK hc i pins s σ H E I hf st hg
    subst hP hw hK
    obtain ⟨⟨hd, hnum⟩, hi⟩ := hg
    obtain ⟨f0, f1, f2, f3, f4, f5⟩ := hf it (by simp)
    obtain ⟨hs, hgd, hx, es', ep', vs, hdt, hsz, kv, hm⟩ := frzN I hd
    obtain ⟨rfl, rfl⟩ := dict_ep hod hdt
    obtain ⟨⟨k, v⟩, hkv⟩ : ∃ p, kvs[i]? = some p := ⟨kvs[i], List.getElem?_eq_getElem hi⟩
    obtain ⟨u, hu, ru⟩ := kv_get kv hkv
    have hl : kvs.length = vs.length := Paired.length kv
    rw [hl] at st
    refine wpAny_pyNext_dict_item st hm hu fun key h' hkey st' sb => ?_
    have I1 : Inv X pins σ H { s with heap := h' } := I.turned (t' := s.toks) (fun b ob hb e => (sb.2 b hb).trans e) f0 f1 f3 f4 f5
    obtain ⟨oi, e, c, dd⟩ := id st'
    refine ⟨key, rfl, go_of (s := { s with heap := h' }) e c dd (by decide) ⟨lV k, H, I1, relV_leaf (fun n => hnum (k, v) (List.mem_of_getElem? hkv) n) hkey, ⟨rfl, k, v, hkv, rfl⟩, ?_, fun b hb => (hf b hb).1⟩⟩
    show h'.IsKeyIter it d (i + 1) kvs.length _
    rw [hl]
    exact st'
  done := by
    intro X hP hw hK hc i pins s σ H E I hf st hg
    subst hP hw hK
    obtain ⟨hd, hi⟩ := hg
    obtain ⟨f0, f1, f2, f3, f4, f5⟩ := hf it (by simp)
    obtain ⟨hs, hgd, hx, es', ep', vs, hdt, hsz, kv, hm⟩ := frzN I hd
    obtain ⟨rfl, rfl⟩ := dict_ep hod hdt
    exact next_key_end (I.ok.hd hc) st hgd hdt hsz hi fun h' eb => ⟨rfl, I.turned (t' := s.toks) (fun b ob hb e => eb b ob hb e) f0 f1 f3 f4 f5⟩
  self := fun A i s Q E st h => wpAny_pyIter_keyiter st h
/-- for k in d, d locked -/
def iKeysA (P : Program) (w : World) (td : TE) : TI := fun σ H R => td σ H fun x H1 => ∃ d o, x = .ref d ∧ ((∃ kvs, H1 d = some (.frz o (.dK kvs)) ∧ R (Itk d o kvs) H1) ∨ ∃ kvs, H1 d = some (.frz o (NOb P w d kvs)) ∧ R (ItkN P w d o kvs) H1)
theorem pi_keysA {tg e : Expr} {td : TE} (he : PE X e td) : PI X tg e (iKeysA X.prog X.w td) := by
  refine ⟨fun pins s σ H R I h => ?_⟩
  refine thn (he.run pins s σ H _ I h) fun u s1 ⟨x, H1, I1, rx, d, o, ex, q⟩ => ?_
  subst ex
  obtain rfl : u = Value.ref d := rx
  rcases q with ⟨kvs, hd, q⟩ | ⟨kvs, hd, q⟩
  · obtain ⟨hs, hgd, hx, es, ep, vs, hdt, hsz, kv, hm⟩ := I1.frzK hd
    refine iter_keys hs hgd hx hdt (pi_one (tk := s1.toks) I1 _ (turn_keys _ hdt) ⟨_, Heap.get?_push_size _ rfl, rfl, ?_⟩ q)
    rw [hsz] <;> rfl
  · obtain ⟨hs, hgd, hx, es, ep, vs, hdt, hsz, kv, hm⟩ := frzN I1 hd
    refine iter_keys hs hgd hx hdt (pi_one (tk := s1.toks) I1 _ (turn_keysN _ hdt) ⟨_, Heap.get?_push_size _ rfl, rfl, ?_⟩ q)
    rw [hsz] <;> rfl
end
section
variable {P : Program} {w : World} {K : PySem.W.Frag} {Γ Γ1 Γ2 : Ev} {ta tb te : TE} {t : T} {tr : TA} {wi : TI} {g : TG} {tt : TT} {n : Nat} {Y : Nat → T} {vs : List Nat} {sb : TS} {Nx : Ev → Prop} {Rt : T → Ev → Prop} {a : Addr} {l : Bool} {j : Nat}
/-- a walk that asks the heap for C alone -/
structure WalkG (P : Program) (w : World) (J : It) (n : Nat) (C : Hp → Prop) (Y : Nat → T) : Prop where
  goes : ∀ i H, i < n → C H → J.go i H
  stops : ∀ H, C H → J.stop n H
  yields : ∀ i H x H', i < n → C H → J.yld i H x H' → H' = H ∧ ∀ G, Is P w G x (Y i)
theorem bd_forG {C : Hp → Prop} {J : It} (Inv : Nat → Ev → Prop) (hi : ∀ W σ G H, Tenv P w W σ G H Γ → ∀ R : It → Hp → Prop, (∀ G' H', Same G G' → Tenv P w W σ G' H' Γ1 → R J H') → wi σ H R) (Wk : WalkG P w J n C Y)
    (hC : ∀ i Γ', Inv i Γ' → ∀ W σ G H, Tenv P w W σ G H Γ' → C H) (h0 : Inv 0 Γ1) (hs : ∀ i Γ', i < n → Inv i Γ' → ∃ Γ'', EdG P w g (Y i) Γ' Γ'' ∧ Bd P w sb Γ'' (Inv (i + 1)) Rt) (hd : ∀ Γ', Inv n Γ' → Nx Γ') :
    Bd P w (tFor wi g sb) Γ Nx Rt := fun W σ G H E D qn qr => hi W σ G H E _ fun G1 H1 s1 E1 => by
  refine ⟨fun i m σ' H' => m = n - i ∧ i ≤ n ∧ ∃ G' Γ', Same G1 G' ∧ Tenv P w W σ' G' H' Γ' ∧ Inv i Γ', ⟨n, by simp, Nat.zero_le _, G1, Γ1, Same.refl _, E1, h0⟩, ?_⟩
  rintro i m σ' H' ⟨rfl, hin, G', Γ', sg, E', iv⟩
  by_cases hlt : i < n
  · refine .inr ⟨Wk.goes i H' hlt (hC i Γ' iv _ _ _ _ E'), fun σ2 H2 => ∃ G2 Γ2, Same G1 G2 ∧ Tenv P w W σ2 G2 H2 Γ2 ∧ Inv (i + 1) Γ2, ?_, fun x H2 y => ?_⟩
    · rintro σ2 H2 ⟨G2, Γ2, a, b, c⟩
      exact ⟨n - (i + 1), by omega, rfl, hlt, G2, Γ2, a, b, c⟩
    · obtain ⟨rfl, ix⟩ := Wk.yields i H' x H2 hlt (hC i Γ' iv _ _ _ _ E') y
      obtain ⟨Γ3, hg, hb⟩ := hs i Γ' hlt iv
      refine hg W σ' G' H2 E' x (ix G') _ fun σ3 E3 => hb W σ3 G' H2 E3 _ (fun σ4 G4 H4 Γ4 s4 E4 n4 => ?_) qr
      exact ⟨G4, Γ4, sg.trans s4, E4, n4⟩
  · have e : i = n := by omega
    subst e
    exact .inl ⟨Wk.stops H' (hC i Γ' iv _ _ _ _ E'), qn σ' G' H' Γ' (s1.trans sg) E' (hd Γ' iv)⟩
theorem en_lcG {C : Hp → Prop} {J : It} (Γs : Nat → Ev) (ys : Nat → Option T) (hi : ∀ W σ G H, Tenv P w W σ G H Γ → ∀ R : It → Hp → Prop, (∀ G' H', Same G G' → Tenv P w W σ G' H' (Γs 0) → R J H') → wi σ H R) (Wk : WalkG P w J n C Y) (hC : ∀ i W σ G H, i ≤ n → Tenv P w W σ G H (Γs i) → C H) (hn : n ≤ 100000)
    (hs : ∀ i, i < n → ∃ Γa b Γb, EdV P w g (Y i) (forget (Γs i) vs) Γa vs ∧ EdT P w tt Γa b Γb ∧ (b = true → ∃ t Γc, ys i = some t ∧ Ed P w te Γb t Γc ∧ forget Γc vs = Γs (i + 1)) ∧ (b = false → ys i = none ∧ forget Γb vs = Γs (i + 1))) :
    EdN P w (tLc wi g tt te vs) Γ (.lst (made ys n)) (Γs n) := fun W σ G H E Q q => hi W σ G H E _ fun G1 H1 s1 E1 D hD => by
  have hsz : ∀ k, k ≤ n → (made ys k).length ≤ 100000 := fun k hk => Nat.le_trans (made_le ys k) (by omega)
  obtain ⟨f1, f2, f4⟩ := E1.fresh hD
  refine ⟨fun i m H' => m = n - i ∧ i ≤ n ∧ ∃ G' acc, Same G1 G' ∧ Tenv P w W σ G' H' (Γs i) ∧ H' D = some (.lst acc) ∧ G' D = none ∧ D ∉ (Γs i).g.map (·.a) ∧ IsAll P w G' acc (made ys i),
    ⟨n, by simp, Nat.zero_le _, G1, [], Same.refl _, E1.grow (Grw.side E1.base hD), upd_same, f1, f4, .nil⟩, ?_⟩
  rintro i m H' ⟨rfl, hin, G', acc, sg, E', hDl, hGD, hnD, hacc⟩
  by_cases hlt : i < n
  · refine .inr ⟨Wk.goes i H' hlt (hC i _ _ _ _ hin E'), fun H2 => ∃ G2 acc2, Same G1 G2 ∧ Tenv P w W σ G2 H2 (Γs (i + 1)) ∧ H2 D = some (.lst acc2) ∧ G2 D = none ∧
      D ∉ (Γs (i + 1)).g.map (·.a) ∧ IsAll P w G2 acc2 (made ys (i + 1)), ?_, fun x H2 y => ?_⟩
    · rintro H2 ⟨G2, acc2, a, b, c, d, e, f⟩
      exact ⟨n - (i + 1), by omega, rfl, hlt, G2, acc2, a, b, c, d, e, f⟩
    · obtain ⟨rfl, ix⟩ := Wk.yields i H' x H2 hlt (hC i _ _ _ _ hin E') y
      have ix := ix G'
      have gr : Grw G' H2 G' H2 := Grw.refl E'.base
      obtain ⟨Γa, b, Γb, hg, ht, hT, hF⟩ := hs i hlt
      have E2 : Tenv P w W σ G' H2 (Γs i) := E'
      have hD2 : H2 D = some (.lst acc) := hDl
      have hG2 : G' D = none := hGD
      have E3 : Tenv P w W (wipe σ vs) G' H2 (forget (Γs i) vs) := E2.slots (wipe_wipe σ vs).symm
      refine hg _ (wipe σ vs) G' H2 E3.here x ix _ fun σ3 F3 ew => ⟨by rw [ew, wipe_wipe], ?_⟩
      have ew' : wipe σ3 vs = wipe σ vs := by rw [ew, wipe_wipe]
      refine ht _ σ3 G' H2 F3 _ fun G4 H4 s4 F4 => ?_
      have fin : ∀ {G5 H5 : Hp} {Γ5 : Ev} {acc5 : List V} (F5 : Tenv P w (Wd.here G' H2 (forget (Γs i) vs)) σ3 G5 H5 Γ5), Same G' G5 → forget Γ5 vs = Γs (i + 1) → IsAll P w G5 acc5 (made ys (i + 1)) →
          ∃ G'' acc2, Same G1 G'' ∧ Tenv P w W σ G'' (upd H5 D (.lst acc5)) (Γs (i + 1)) ∧ (upd H5 D (.lst acc5)) D = some (.lst acc2) ∧ G'' D = none ∧
            D ∉ (Γs (i + 1)).g.map (·.a) ∧ IsAll P w G'' acc2 (made ys (i + 1)) := fun {G5 H5 Γ5 acc5} F5 s5 e5 i5 => by
        obtain ⟨k1, k2, k3⟩ := E3.aside F5 hD2 hG2 hnD
        have E5 : Tenv P w W σ G5 H5 (Γs (i + 1)) := by
          rw [← e5]
          exact (E3.back F5).slots ew'
        have n5 : D ∉ (Γs (i + 1)).g.map (·.a) := by
          rw [← e5]
          exact k3
        exact ⟨G5, acc5, (sg.trans gr.gg).trans s5, E5.updAside k2 f2 n5, upd_same, k2, n5, i5⟩
      cases b with
      | true =>
        obtain ⟨t, Γc, ey, he, ec⟩ := hT rfl
        show te σ3 H4 _
        refine he _ σ3 G4 H4 F4 _ fun v G5 H5 s5 F5 iv => ?_
        obtain ⟨k1, k2, k3⟩ := E3.aside F5 hD2 hG2 hnD
        have s25 : Same G' G5 := s4.trans s5
        refine ⟨acc, k1, by rw [hacc.length]; exact Nat.lt_of_le_of_lt (hsz i hin) (by decide), fin F5 s25 ec ?_⟩
        rw [made_succ, ey]
        exact (hacc.mono (gr.gg.trans s25)).append (.cons iv .nil)
      | false =>
        obtain ⟨ey, ec⟩ := hF rfl
        show ∃ G2 acc2, _
        obtain ⟨k1, k2, k3⟩ := E3.aside F4 hD2 hG2 hnD
        have r := fin (acc5 := acc) F4 s4 ec (by
          rw [made_succ, ey]
          have := hacc.mono (gr.gg.trans s4)
          simpa using this)
        have eu : upd H4 D (.lst acc) = H4 := by
          funext b
          by_cases z : b = D
          · subst z; rw [upd_same]; exact k1.symm
          · rw [upd_ne z]
        rw [eu] at r
        exact r
  · have e : i = n := by omega
    subst e
    refine .inl ⟨Wk.stops H' (hC i _ _ _ _ hin E'), q D G' H' (s1.trans sg) (E'.pushG hGD ⟨acc, hDl, hacc⟩ f2 hnD)⟩

/-! ### locked owned dicts -/
theorem walkN {od : Obj} {ps : List (Leaf × V)} {kvs : List (Leaf × T)} (e : ps.map (·.1) = kvs.map (·.1)) (hk : ∀ p ∈ kvs, ∀ i, p.1 ≠ .num i) : WalkG P w (ItkN P w a od ps) kvs.length (fun H => H a = some (.frz od (NOb P w a ps))) (fun i => lT ((kvs[i]?.map (·.1)).getD .none)) := by
  have hl : ps.length = kvs.length := by have := congrArg List.length e; rwa [List.length_map, List.length_map] at this
  have hp : ∀ p ∈ ps, ∀ i, p.1 ≠ .num i := fun p hp i => by
    have : p.1 ∈ kvs.map (·.1) := by rw [← e]; exact List.mem_map_of_mem (f := (·.1)) hp
    obtain ⟨q, hq, eq⟩ := List.mem_map.mp this
    rw [← eq]; exact hk q hq i
  refine ⟨fun i H hi hC => ⟨⟨hC, hp⟩, by omega⟩, fun H hC => ⟨hC, by omega⟩, fun i H x H' hi hC y => ?_⟩
  obtain ⟨e1, k, v, ek, rfl⟩ := y
  refine ⟨e1, fun G => ?_⟩
  have e2 : (ps.map (·.1))[i]? = some k := by rw [List.getElem?_map, ek]; rfl
  rw [e, List.getElem?_map] at e2
  rw [e2]
  exact is_lV k
theorem walkD {od : Obj} {ps : List (Key × V)} {kvs : List (Str × T)} (e : ps.map (·.1) = kvs.map (fun p => Sum.inr p.1)) : WalkG P w (Itk a od ps) kvs.length (fun H => H a = some (.frz od (.dK ps))) (fun i => .str ((kvs[i]?.map (·.1)).getD Str.empty)) := by
  have hl : ps.length = kvs.length := by have := congrArg List.length e; rwa [List.length_map, List.length_map] at this
  refine ⟨fun i H hi hC => ⟨hC, by omega⟩, fun H hC => ⟨hC, by omega⟩, fun i H x H' hi hC y => ?_⟩
  obtain ⟨e1, k, v, ek, rfl⟩ := y
  refine ⟨e1, fun G => ?_⟩
  have e2 : (ps.map (·.1))[i]? = some k := by rw [List.getElem?_map, ek]; rfl
  rw [e, List.getElem?_map] at e2
  obtain ⟨q, hq, eq⟩ := Option.map_eq_some_iff.mp e2
  rw [hq]
  subst eq
  exact .str _
theorem ik_N {od : Obj} {ps : List (Leaf × V)} {kvs : List (Leaf × T)} (ha : Ed P w ta Γ (.val (.ref a)) Γ1) (hj : Γ1.g[j]? = some ⟨l, a, .ndcL od ps kvs⟩) : ∀ W σ G H, Tenv P w W σ G H Γ → ∀ R : It → Hp → Prop, (∀ G' H', Same G G' → Tenv P w W σ G' H' Γ1 → R (ItkN P w a od ps) H') → iKeysA P w ta σ H R := fun W σ G H E R q =>
  ha W σ G H E _ fun v G1 H1 s1 E1 i => by
    cases i
    obtain ⟨_, ⟨h1, _⟩, _⟩ := E1.gh _ (List.mem_of_getElem? hj)
    exact ⟨a, od, rfl, .inr ⟨ps, h1, q G1 H1 s1 E1⟩⟩
theorem ik_D {od : Obj} {ps : List (Key × V)} {kvs : List (Str × T)} (ha : Ed P w ta Γ (.val (.ref a)) Γ1) (hj : Γ1.g[j]? = some ⟨l, a, .dicL od ps kvs⟩) : ∀ W σ G H, Tenv P w W σ G H Γ → ∀ R : It → Hp → Prop, (∀ G' H', Same G G' → Tenv P w W σ G' H' Γ1 → R (Itk a od ps) H') → iKeysA P w ta σ H R := fun W σ G H E R q =>
  ha W σ G H E _ fun v G1 H1 s1 E1 i => by
    cases i
    obtain ⟨_, ⟨h1, _⟩, _⟩ := E1.gh _ (List.mem_of_getElem? hj)
    exact ⟨a, od, rfl, .inl ⟨ps, h1, q G1 H1 s1 E1⟩⟩
theorem lk_N {od : Obj} {ps : List (Leaf × V)} {kvs : List (Leaf × T)} (hj : Γ.g[j]? = some ⟨l, a, .ndcL od ps kvs⟩) {W : Wd} {σ : L2.St} {G H : Hp} (E : Tenv P w W σ G H Γ) : H a = some (.frz od (NOb P w a ps)) := (E.gh _ (List.mem_of_getElem? hj)).2.1.1
theorem lk_D {od : Obj} {ps : List (Key × V)} {kvs : List (Str × T)} (hj : Γ.g[j]? = some ⟨l, a, .dicL od ps kvs⟩) {W : Wd} {σ : L2.St} {G H : Hp} (E : Tenv P w W σ G H Γ) : H a = some (.frz od (.dK ps)) := (E.gh _ (List.mem_of_getElem? hj)).2.1.1
/-- a statement that walks an owned dict -/
theorem bd_lockN {kvs : List (Leaf × T)} (hj : Γ.g[j]? = some ⟨l, a, .ndc kvs⟩) (h : ∀ od ps, ps.map (·.1) = kvs.map (·.1) → Bd P w sb (Γ.own j ⟨l, a, .ndcL od ps kvs⟩) (fun Γ' => Γ'.g[j]? = some ⟨l, a, .ndcL od ps kvs⟩ ∧ Nx (Γ'.own j ⟨l, a, .ndc kvs⟩)) (fun r Γ' => Γ'.g[j]? = some ⟨l, a, .ndcL od ps kvs⟩ ∧ Rt r (Γ'.own j ⟨l, a, .ndc kvs⟩))) :
    Bd P w (tLock sb) Γ Nx Rt := fun W σ G H E D qn qr => by
  obtain ⟨_, ⟨ps, h1, h2, h3⟩, _⟩ := E.gh _ (List.mem_of_getElem? hj)
  refine ⟨a, NOb P w a ps, h1, trivial, fun od => ?_⟩
  refine h od ps h2 W σ G _ (E.mut (o' := .ndcL od ps kvs) hj ⟨upd_same, h2, h3⟩) _ (fun σ' G' H' Γ' sg E' n => ?_) (fun v σ' G' H' Γ' t E' i r => ?_)
  · obtain ⟨_, ⟨k1, k2, k3⟩, _⟩ := E'.gh _ (List.mem_of_getElem? n.1)
    exact ⟨k1, qn σ' G' _ _ sg (E'.mut (o' := .ndc kvs) n.1 ⟨ps, upd_same, k2, k3⟩) n.2⟩
  · obtain ⟨_, ⟨k1, k2, k3⟩, _⟩ := E'.gh _ (List.mem_of_getElem? r.1)
    exact ⟨k1, qr v σ' G' _ _ t (E'.mut (o' := .ndc kvs) r.1 ⟨ps, upd_same, k2, k3⟩) i r.2⟩
theorem bd_lockD {kvs : List (Str × T)} (hj : Γ.g[j]? = some ⟨l, a, .dic kvs⟩) (h : ∀ od ps, ps.map (·.1) = kvs.map (fun p => (Sum.inr p.1 : Key)) → Bd P w sb (Γ.own j ⟨l, a, .dicL od ps kvs⟩) (fun Γ' => Γ'.g[j]? = some ⟨l, a, .dicL od ps kvs⟩ ∧ Nx (Γ'.own j ⟨l, a, .dic kvs⟩)) (fun r Γ' => Γ'.g[j]? = some ⟨l, a, .dicL od ps kvs⟩ ∧ Rt r (Γ'.own j ⟨l, a, .dic kvs⟩))) :
    Bd P w (tLock sb) Γ Nx Rt := fun W σ G H E D qn qr => by
  obtain ⟨_, ⟨ps, h1, h2, h3⟩, _⟩ := E.gh _ (List.mem_of_getElem? hj)
  refine ⟨a, .dK ps, h1, trivial, fun od => ?_⟩
  refine h od ps h2 W σ G _ (E.mut (o' := .dicL od ps kvs) hj ⟨upd_same, h2, h3⟩) _ (fun σ' G' H' Γ' sg E' n => ?_) (fun v σ' G' H' Γ' t E' i r => ?_)
  · obtain ⟨_, ⟨k1, k2, k3⟩, _⟩ := E'.gh _ (List.mem_of_getElem? n.1)
    exact ⟨k1, qn σ' G' _ _ sg (E'.mut (o' := .dic kvs) n.1 ⟨ps, upd_same, k2, k3⟩) n.2⟩
  · obtain ⟨_, ⟨k1, k2, k3⟩, _⟩ := E'.gh _ (List.mem_of_getElem? r.1)
    exact ⟨k1, qr v σ' G' _ _ t (E'.mut (o' := .dic kvs) r.1 ⟨ps, upd_same, k2, k3⟩) i r.2⟩
theorem own_push {x y : Gh} (h : j < Γ.g.length) : (Γ.push x).own j y = (Γ.own j y).push x := by
  show (⟨Γ.s, (Γ.g ++ [x]).set j y⟩ : Ev) = ⟨Γ.s, Γ.g.set j y ++ [x]⟩
  rw [List.set_append_left _ _ h]
/-- a comprehension that walks an owned dict -/
theorem en_lockN {kvs : List (Leaf × T)} {o : O} (hj : Γ.g[j]? = some ⟨l, a, .ndc kvs⟩) (h : ∀ od ps, ps.map (·.1) = kvs.map (·.1) → EdN P w te (Γ.own j ⟨l, a, .ndcL od ps kvs⟩) o (Γ.own j ⟨l, a, .ndcL od ps kvs⟩)) : EdN P w (tLockE te) Γ o Γ := fun W σ G H E Q q => by
  obtain ⟨_, ⟨ps, h1, h2, h3⟩, _⟩ := E.gh _ (List.mem_of_getElem? hj)
  have hlt : j < Γ.g.length := (List.getElem?_eq_some_iff.mp hj).1
  refine ⟨a, NOb P w a ps, h1, trivial, fun od => ?_⟩
  refine h od ps h2 W σ G _ (E.mut (o' := .ndcL od ps kvs) hj ⟨upd_same, h2, h3⟩) _ fun b G' H' sg E' => ?_
  have hj' : ((Γ.own j ⟨l, a, .ndcL od ps kvs⟩).push ⟨false, b, o⟩).g[j]? = some ⟨l, a, .ndcL od ps kvs⟩ := by
    show (Γ.g.set j _ ++ [_])[j]? = _
    rw [List.getElem?_append_left (by rw [List.length_set]; exact hlt), List.getElem?_set_self hlt]
  obtain ⟨_, ⟨k1, k2, k3⟩, _⟩ := E'.gh _ (List.mem_of_getElem? hj')
  refine ⟨k1, q b G' _ sg ?_⟩
  have E2 := E'.mut (o' := .ndc kvs) (u := NOb P w a ps) hj' ⟨ps, upd_same, k2, k3⟩
  have e : ((Γ.own j ⟨l, a, .ndcL od ps kvs⟩).push ⟨false, b, o⟩).own j ⟨l, a, .ndc kvs⟩ = Γ.push ⟨false, b, o⟩ := by
    show (⟨Γ.s, (Γ.g.set j _ ++ [_]).set j _⟩ : Ev) = ⟨Γ.s, Γ.g ++ [_]⟩
    rw [List.set_append_left _ _ (by rw [List.length_set]; exact hlt), List.set_set]
    congr 2
    refine List.ext_getElem? fun k => ?_
    by_cases z : j = k
    · subst z; rw [List.getElem?_set_self hlt, hj]
    · rw [List.getElem?_set_ne z]
  rw [e] at E2
  exact E2
/-- reading locked ones -/
theorem ed_ixNL {od : Obj} {ps : List (Leaf × V)} {kvs : List (Leaf × T)} {k : Leaf} (ha : Ed P w ta Γ (.val (.ref a)) Γ1) (hb : Ed P w tb Γ1 (lT k) Γ2) (hj : Γ2.g[j]? = some ⟨l, a, .ndcL od ps kvs⟩) (e : look kvs k = some t) : Ed P w (tOp (rIxA P w K) ta tb) Γ t Γ2 := fun W σ G H E Q q =>
  ha W σ G H E _ fun v G1 H1 s1 E1 iv => hb W σ G1 H1 E1 _ fun u G2 H2 s2 E2 iu => by
    cases iv
    rw [is_lT iu]
    obtain ⟨_, ⟨h3, h5, h6⟩, _⟩ := E2.gh _ (List.mem_of_getElem? hj)
    have g : EGet P w H2 a (lV k) (valV ps k) := EGet.nR (.inr ⟨od, h3⟩)
    rcases look_rel k h5 h6 with ⟨v, t', e1, e2, i⟩ | ⟨e1, e2⟩
    · rw [e] at e2; cases e2
      rw [e1] at g
      exact .inr (.inr ⟨a, v, rfl, g, q v G2 H2 (s1.trans s2) E2 i⟩)
    · rw [e] at e2; cases e2
theorem ed_ixDL {od : Obj} {ps : List (Key × V)} {kvs : List (Str × T)} {k : Str} (ha : Ed P w ta Γ (.val (.ref a)) Γ1) (hb : Ed P w tb Γ1 (.str k) Γ2) (hj : Γ2.g[j]? = some ⟨l, a, .dicL od ps kvs⟩) (e : look kvs k = some t) : Ed P w (tOp (rIxA P w K) ta tb) Γ t Γ2 := fun W σ G H E Q q =>
  ha W σ G H E _ fun v G1 H1 s1 E1 iv => hb W σ G1 H1 E1 _ fun u G2 H2 s2 E2 iu => by
    cases iv
    cases iu
    obtain ⟨_, ⟨h3, h5, h6⟩, _⟩ := E2.gh _ (List.mem_of_getElem? hj)
    have g : EGet P w H2 a (.str k) (valV ps (Sum.inr k)) := EGet.sR (.inr ⟨od, h3⟩)
    have h6' : IsAll P w G2 (ps.map (·.2)) ((kvs.map fun p => ((Sum.inr p.1 : Key), p.2)).map (·.2)) := by rw [inr_vals]; exact h6
    rcases look_rel (Sum.inr k) (inr_keys h5) h6' with ⟨v, t', e1, e2, i⟩ | ⟨e1, e2⟩
    · rw [look_inr, e] at e2; cases e2
      rw [e1] at g
      exact .inr (.inr ⟨a, v, rfl, g, q v G2 H2 (s1.trans s2) E2 i⟩)
    · rw [look_inr, e] at e2; cases e2
end
end FK
set_option maxHeartbeats 4000000
/-! FM13: xs[::2]; d[k] += v -/
namespace FK
open PySem L2 PySem.Spec PyProof.Rows
def st2 {α : Type} : List α → List α
  | [] => []
  | [x] => [x]
  | x :: _ :: r => x :: st2 r
theorem st2_map {α β : Type} (f : α → β) : ∀ l : List α, st2 (l.map f) = (st2 l).map f
  | [] => rfl
  | [_] => rfl
  | x :: y :: r => by
    show f x :: st2 (r.map f) = f x :: (st2 r).map f
    rw [st2_map f r]
theorem st2_mem {α : Type} {x : α} : ∀ {l : List α}, x ∈ st2 l → x ∈ l
  | [], h => h
  | [_], h => h
  | a :: b :: r, h => by
    rcases List.mem_cons.mp h with rfl | h
    · exact List.mem_cons_self
    · exact List.mem_cons_of_mem _ (List.mem_cons_of_mem _ (st2_mem h))
theorem st2_length {α : Type} : ∀ l : List α, (st2 l).length ≤ l.length
  | [] => Nat.le_refl _
  | [_] => Nat.le_refl _
  | _ :: _ :: r => by
    have := st2_length r
    show (st2 r).length + 1 ≤ r.length + 1 + 1
    omega
theorem st2_pick {α : Type} : ∀ l : List α, (List.range ((l.length + 1) / 2)).filterMap (fun k => l[2 * k]?) = st2 l
  | [] => by simp [st2]
  | [x] => by simp [st2, List.range_succ]
  | x :: y :: r => by
    have e : ((x :: y :: r).length + 1) / 2 = (r.length + 1) / 2 + 1 := by simp only [List.length_cons]; omega
    rw [e, List.range_succ_eq_map, List.filterMap_cons]
    show x :: (List.map Nat.succ (List.range ((r.length + 1) / 2))).filterMap _ = x :: st2 r
    rw [List.filterMap_map, ← st2_pick r]
    rfl
theorem pick_st2 (items : Array Value) : slicePick items none none (some 2) = (st2 items.toList).toArray := by
  unfold slicePick
  have hb : sliceBounds none none (some 2) items.size = (0, (items.size : Int), 2) := by first | rfl | simp [sliceBounds]
  rw [hb]
  show ((sliceRange 0 (items.size : Int) 2).filterMap (items[·]?)).toArray = _
  have hr : sliceRange 0 (items.size : Int) 2 = (List.range ((items.toList.length + 1) / 2)).map (fun k => 2 * k) := by
    unfold sliceRange
    have h2 : (2 : Int) > 0 := by decide
    rw [Array.length_toList]
    by_cases h : (0 : Int) < (items.size : Int)
    · have e : (((items.size : Int) - 0 + 2 - 1) / 2).toNat = (items.size + 1) / 2 := by omega
      simp only [h2, if_true, h, e]
      apply List.map_congr_left
      intro k hk
      omega
    · have e : items.size = 0 := by omega
      rw [e]
      rfl
  rw [hr, List.filterMap_map, ← st2_pick]
  congr 1
  refine congrArg (fun f => List.filterMap f _) (funext fun k => ?_)
  show items[2 * k]? = _
  simp
theorem vals_st2 : ∀ {xs : List V} {us : List Value}, Vals xs us → Vals (st2 xs) (st2 us)
  | _, _, .nil => .nil
  | _, _, .cons r .nil => .cons r .nil
  | _, _, .cons r (.cons _ t) => .cons r (vals_st2 t)
def tStep2 (K : PySem.W.Frag) (te : TE) : TE := fun σ H Q => te σ H fun x H1 => ∃ a xs, x = .ref a ∧ SqL K H1 a xs ∧ ∀ p, H1 p = none → Q (.ref p) (upd H1 p (.lst (st2 xs)))
section
variable {X : Cx}
theorem pe_step2 {e : Expr} {te : TE} {k : Nat} {p1 p3 pos : Pos} (he : PE X e te) : PE X (.Subscript e (.Slice none none (some (.Constant (.int 2) k p1)) p3) pos) (tStep2 X.K te) := by
  refine ⟨fun pins s σ H Q I h => ?_⟩
  refine Subscript_ (thn (he.run pins s σ H _ I h) fun v s1 ⟨x, H1, I1, r1, q1⟩ => ?_)
  obtain ⟨a, xs, ex, hx, q⟩ := q1
  subst ex
  cases r1
  have hst : PO X (some (.Constant (.int 2) k p1)) (tPart (tC (.int 2))) := po_some pe_int
  refine wpAny_Slice (thn (po_none.run pins s1 σ H1 (fun o H2 => o = none ∧ H2 = H1) I1 ⟨rfl, rfl⟩) fun vl s2 ⟨l, H2, I2, pl, el, e2⟩ => ?_)
  subst el e2
  refine thn (po_none.run pins s2 σ H2 (fun o H3 => o = none ∧ H3 = H2) I2 ⟨rfl, rfl⟩) fun vu s3 ⟨u, H3, I3, pu, eu, e3⟩ => ?_
  subst eu e3
  refine thn (hst.run pins s3 σ H3 (fun o H4 => o = some 2 ∧ H4 = H3) I3 ⟨2, rfl, rfl, rfl⟩) fun vs s4 ⟨o, H4, I4, ps, eo, e4⟩ => ?_
  subst eo e4
  have I5 : Inv X pins σ H4 { s4 with heap := s4.heap.push { cls := .type "slice", data := .fields #[vl, vu, vs] } } := I4.kept (t' := s4.toks) fun b ob q => Heap.get?_push_of_some _ q
  obtain ⟨its, r, ht, hz⟩ := I5.list hx
  have hlen := r.length
  show wpAny (model X.prog X.w) X.A (subscriptTail e (.Slice none none (some (.Constant (.int 2) k p1)) p3) (.ref a) (.ref s4.heap.objs.size)) (EP X pins σ Q) X.xe { s4 with heap := s4.heap.push { cls := .type "slice", data := .fields #[vl, vu, vs] } }
  refine tail_any (ops := [.ref a, .ref s4.heap.objs.size]) ht.isList.typeIs (PySem.slot_list_getitem.lookup) ?_ (by with_unfolding_all rfl)
  refine wpAny_getItem_list_slice ht.isList (Heap.IsSliceOf.new _ vl vu vs) pl pu ps (by decide) ?_ (by rw [List.size_toArray]; omega)
  rw [pick_st2]
  refine ⟨.ref _, _, I5.laid (t' := s4.toks) (o := .lst (st2 xs)) (fun b ob q => Heap.get?_push_of_some _ q) (Nat.le_refl _) ?_, rfl, q _ (I5.hok.fresh (Nat.le_refl _))⟩
  exact ⟨Nat.le_trans (st2_length xs) hz, _, 0, vals_st2 r, Heap.get?_push_size _ rfl⟩
theorem get_e (hu : X.A.units + 1 < cLine) : PGet X (rIxE X.prog X.w) := by
  intro pins s σ H x y v u Q I rx ry h
  obtain ⟨a, z, rfl, g, q⟩ := h
  cases rx
  obtain ⟨w', rw', ty, run⟩ := e_getItem (E := X.xe) hu I g ry
  exact run _ fun s' I' => ⟨z, H, I', rw', q⟩
end
section
variable {P : Program} {w : World} {K : PySem.W.Frag} {Γ Γ1 Γ2 Γ3 : Ev} {ta tb te : TE} {Nx : Ev → Prop} {Rt : T → Ev → Prop} {a : Addr} {l : Bool} {j : Nat}
theorem is_st2 {G : Hp} : ∀ {vs : List V} {ts : List T}, IsAll P w G vs ts → IsAll P w G (st2 vs) (st2 ts)
  | _, _, .nil => .nil
  | _, _, .cons r .nil => .cons r .nil
  | _, _, .cons r (.cons _ t) => .cons r (is_st2 t)
theorem en_step2 {xs : List T} (ha : Ed P w ta Γ (.lst xs) Γ1) : EdN P w (tStep2 K ta) Γ (.lst (st2 xs)) Γ1 := fun W σ G H E Q q =>
  ha W σ G H E _ fun v G1 H1 s1 E1 i => by
    cases i with
    | lst h1 h2 =>
      refine ⟨_, _, rfl, SqL.of (E1.base _ _ h1), fun p hp => ?_⟩
      exact q p G1 _ s1 (E1.pushNew hp ⟨_, upd_same, is_st2 h2⟩)
/-- d[k] += v, d owned -/
theorem bd_augN {kvs : List (Leaf × T)} {k : Leaf} {m n : Int} (ho : Ed P w ta Γ (.val (.ref a)) Γ1) (hb : Ed P w tb Γ1 (lT k) Γ2) (hj : Γ2.g[j]? = some ⟨l, a, .ndc kvs⟩) (e : look kvs k = some (.int m)) (h : Ed P w te Γ2 (.int n) Γ3) (hj3 : Γ3.g[j]? = some ⟨l, a, .ndc kvs⟩) (hl : kvs.length < 100000) (nx : Nx (Γ3.own j ⟨l, a, .ndc (put kvs k (.int (m + n)))⟩)) :
    Bd P w (tAugS ta tb te (rIxE P w) (ipI fun i j => i + j) (rSetA P w)) Γ Nx Rt := fun W σ G H E D qn qr =>
  ho W σ G H E _ fun u G1 H1 s1 E1 iu => hb W σ G1 H1 E1 _ fun k' G2 H2 s2 E2 ik => by
    cases iu
    rw [is_lT ik]
    obtain ⟨_, ⟨ps, h3, h5, h6⟩, _⟩ := E2.gh _ (List.mem_of_getElem? hj)
    have g : EGet P w H2 a (lV k) (valV ps k) := EGet.nR (.inl h3)
    rcases look_rel k h5 h6 with ⟨v, t', e1, e2, i⟩ | ⟨e1, e2⟩
    · rw [e] at e2; cases e2
      rw [e1] at g
      cases i
      refine ⟨a, _, rfl, g, ?_⟩
      refine h W σ G2 H2 E2 _ fun v G3 H3 s3 E3 iv => ?_
      cases iv
      refine ⟨m, n, rfl, rfl, ?_⟩
      obtain ⟨_, ⟨ps', h3', h5', h6'⟩, _⟩ := E3.gh _ (List.mem_of_getElem? hj3)
      obtain ⟨r1, r2⟩ := put_rel k h5' h6' (show Is P w G3 (.int (m + n)) (.int (m + n)) from Is.int _)
      refine .inr ⟨a, rfl, .inr (.inl ⟨ps', k, h3', rfl, by rw [own_len h6']; exact Nat.lt_of_lt_of_le hl (by decide), ?_⟩)⟩
      exact qn _ G3 _ _ ((s1.trans s2).trans s3) (E3.mut (o' := .ndc (put kvs k (.int (m + n)))) hj3 ⟨_, upd_same, r1, r2⟩) nx
    · rw [e] at e2; cases e2
end
end FK
set_option maxHeartbeats 4000000
/-! FM14: walks that end early -/
namespace FK
open PySem L2 PySem.Spec PyProof.Rows
section
variable {P : Program} {w : World} {K : PySem.W.Frag} {Γ Γ1 Γ2 Γ3 : Ev} {ta tb te : TE} {Nx : Ev → Prop} {Rt : T → Ev → Prop} {a : Addr} {l : Bool} {j : Nat}
/-! ### a walk that ends at the first that is not so -/
theorem bd_weak {sb : TS} {Nx' : Ev → Prop} {Rt' : T → Ev → Prop} (h : Bd P w sb Γ Nx Rt) (a : ∀ Γ', Nx Γ' → Nx' Γ') (b : ∀ t Γ', Rt t Γ' → Rt' t Γ') : Bd P w sb Γ Nx' Rt' := fun W σ G H E D qn qr =>
  h W σ G H E D (fun σ' G' H' Γ' s E' n => qn σ' G' H' Γ' s E' (a _ n)) (fun v σ' G' H' Γ' t E' i r => qr v σ' G' H' Γ' t E' i (b _ _ r))
theorem bd_scan {α : Type} [DecidableEq α] {xs : List α} {n : Nat} {Y : Nat → T} {wi : TI} {g : TG} {sb : TS} (p : α → Bool) (st : Ev → Prop) (hi : EdI P w wi Γ n Y Γ1) (hn : n = xs.length) (h0 : st Γ1)
    (hs : ∀ i (h : i < xs.length) Γ', st Γ' → ∃ Γ'', EdG P w g (Y i) Γ' Γ'' ∧ Bd P w sb Γ'' (fun Γ' => p xs[i] = true ∧ st Γ') (fun t Γ' => p xs[i] = false ∧ (xs.all p = false → Rt t Γ')))
    (hd : xs.all p = true → ∀ Γ', st Γ' → Nx Γ') : Bd P w (tFor wi g sb) Γ Nx Rt := by
  subst hn
  refine bd_for (fun i Γ' => st Γ' ∧ ∀ x ∈ xs.take i, p x = true) hi ⟨h0, by simp⟩ (fun i Γ' hi' q => ?_) (fun Γ' q => ?_)
  · obtain ⟨Γ'', e, b⟩ := hs i hi' Γ' q.1
    refine ⟨Γ'', e, bd_weak b (fun Γ2 z => ⟨z.2, fun x hx => ?_⟩) (fun t Γ2 z => z.2 ?_)⟩
    · rw [take_succ_at (List.getElem?_eq_getElem hi')] at hx
      rcases List.mem_append.mp hx with hx | hx
      · exact q.2 x hx
      · rw [List.mem_singleton.mp hx]; exact z.1
    · rw [Bool.eq_false_iff]
      intro h
      have := List.all_eq_true.mp h xs[i] (List.getElem_mem hi')
      rw [z.1] at this; cases this
  · refine hd (List.all_eq_true.mpr fun x hx => q.2 x ?_) Γ' q.1
    rw [List.take_length]; exact hx
end
end FK
set_option maxHeartbeats 4000000
/-! FM15: slots forgotten; a walk over what calls tell; a locked dict's keys with a test; the ends of going round -/
namespace FK
open PySem L2 PySem.Spec PyProof.Rows
section
variable {P : Program} {w : World} {K : PySem.W.Frag} {Γ Γ1 Γ2 Γ3 : Ev} {ta tb te : TE} {t : T} {tr : TA} {wi : TI} {g gt : TG} {tt : TT} {vs : List Nat} {sb : TS} {Nx : Ev → Prop} {Rt : T → Ev → Prop} {a : Addr} {l : Bool} {j : Nat}
theorem sub_forget (vs : List Nat) : Sub P w Γ (forget Γ vs) := fun W σ G H E => ⟨G, Same.refl _, E.slots rfl⟩
theorem ex_tup {Φ : T → Ev → Prop} (h : ExA P w tr Γ fun ts Γ' => ts.length ≤ 1000 ∧ Φ (.tup ts) Γ') : Ex P w (tTup tr) Γ Φ := fun W σ G H E Q q =>
  h W σ G H E _ fun vs ts Γ1 G1 H1 s1 E1 is f => by
    refine ⟨Nat.le_trans (by rw [is.length]; exact f.1) (by decide), fun p hp => ?_⟩
    have g : Grw G1 H1 (upd G1 p (.tup vs)) (upd H1 p (.tup vs)) := Grw.alloc E1.base hp
    exact q (.ref p) _ _ _ _ (s1.trans g.gg) (E1.grow g) (.tup upd_same (is.mono g.gg)) f.2
/-- a walk over a tuple that is one of several -/
theorem bd_forT (h : Ex P w ta Γ fun t Γ1 => ∃ ts, t = .tup ts ∧ ∃ Inv : Nat → Ev → Prop, Inv 0 Γ1 ∧ (∀ i Γ', i < ts.length → Inv i Γ' → ∃ Γ'', EdG P w g (ts.getD i .non) Γ' Γ'' ∧ Bd P w sb Γ'' (Inv (i + 1)) Rt) ∧ ∀ Γ', Inv ts.length Γ' → Nx Γ') :
    Bd P w (tFor (iTup K ta) g sb) Γ Nx Rt := fun W σ G H E D qn qr => h W σ G H E _ fun v t Γ1 G1 H1 s1 E1 i f => by
  obtain ⟨ts, rfl, Inv, h0, hs, hd⟩ := f
  cases i with
  | @tup a vs ts h1 h2 =>
    have at_ : ∀ H', Same G1 H' → SqT K H' a vs := fun H' s => SqT.of (s _ _ h1)
    have Wk : WalkT P w (Itt K a) ts.length G1 (fun i => ts.getD i .non) := ⟨fun i H' hi s => by
      obtain ⟨v, e1, e2⟩ := h2.get (getD_of hi)
      exact ⟨vs, v, at_ H' s, e1⟩, fun H' s => ⟨vs, at_ H' s, by rw [h2.length]; exact Nat.le_refl _⟩, fun i H' x H'' Gc hi sg s y => by
      obtain ⟨e, y⟩ := y
      subst e
      obtain ⟨v, e1, e2⟩ := h2.get (getD_of hi)
      have := y vs (at_ _ (sg.trans s))
      rw [e1] at this
      cases this
      exact ⟨Gc, Grw.refl s, e2.mono sg⟩⟩
    refine ⟨a, rfl, ⟨vs, at_ H1 E1.base⟩, ?_⟩
    refine ⟨fun i m σ' H' => m = ts.length - i ∧ i ≤ ts.length ∧ ∃ G' Γ', Same G1 G' ∧ Tenv P w W σ' G' H' Γ' ∧ Inv i Γ', ⟨ts.length, by simp, Nat.zero_le _, G1, Γ1, Same.refl _, E1, h0⟩, ?_⟩
    rintro i m σ' H' ⟨rfl, hin, G', Γ', sg, E', iv⟩
    by_cases hlt : i < ts.length
    · refine .inr ⟨Wk.goes i H' hlt (sg.trans E'.base), fun σ2 H2 => ∃ G2 Γ2, Same G1 G2 ∧ Tenv P w W σ2 G2 H2 Γ2 ∧ Inv (i + 1) Γ2, ?_, fun x H2 y => ?_⟩
      · rintro σ2 H2 ⟨G2, Γ2, a, b, c⟩
        exact ⟨ts.length - (i + 1), by omega, rfl, hlt, G2, Γ2, a, b, c⟩
      · obtain ⟨G2, gr, ix⟩ := Wk.yields i H' x H2 G' hlt sg E'.base y
        obtain ⟨Γ3, hg, hb⟩ := hs i Γ' hlt iv
        refine hg W σ' G2 H2 (E'.grow gr) x ix _ fun σ3 E3 => hb W σ3 G2 H2 E3 _ (fun σ4 G4 H4 Γ4 s4 E4 n4 => ?_) qr
        exact ⟨G4, Γ4, (sg.trans gr.gg).trans s4, E4, n4⟩
    · have e : i = ts.length := by omega
      subst e
      exact .inl ⟨Wk.stops H' (sg.trans E'.base), qn σ' G' H' Γ' (s1.trans sg) E' (hd Γ' iv)⟩
def filtY {α : Type} (xs : List α) (p : α → Bool) (h : α → T) (i : Nat) : Option T := (xs[i]?).bind fun x => if p x then some (h x) else none
theorem made_filt {α : Type} (xs : List α) (p : α → Bool) (h : α → T) : (xs.filter p).map h = made (filtY xs p h) xs.length := by
  have key : ∀ (l pre : List α), xs = pre ++ l → (l.filter p).map h = (List.range l.length).filterMap fun i => filtY xs p h (pre.length + i) := by
    intro l
    induction l with
    | nil => intro pre _; rfl
    | cons x l ih =>
      intro pre e
      have ih' := ih (pre ++ [x]) (by rw [e]; simp)
      rw [List.length_cons, List.range_succ_eq_map, List.filterMap_cons]
      have hx : filtY xs p h (pre.length + 0) = if p x then some (h x) else none := by
        show (xs[pre.length + 0]?).bind _ = _
        rw [e]
        simp
      rw [hx, List.filterMap_map]
      have hr : (fun i => filtY xs p h (pre.length + i)) ∘ Nat.succ = fun i => filtY xs p h ((pre ++ [x]).length + i) := by
        funext i
        show filtY xs p h (pre.length + (i + 1)) = _
        congr 1
        simp
        omega
      rw [hr, ← ih']
      by_cases z : p x = true
      · rw [if_pos z, List.filter_cons_of_pos z, List.map_cons]
      · rw [if_neg z, List.filter_cons_of_neg z]
  have := key xs [] rfl
  rw [this]
  unfold made
  congr 1
  funext i
  simp
theorem nL_num (r : List (End × Int)) : ∀ p ∈ nL r, ∀ i, p.1 ≠ .num i := fun p hp i q => by
  obtain ⟨x, _, rfl⟩ := List.mem_map.mp hp
  have q : eL x.1 = .num i := q
  cases e : x.1 <;> rw [e] at q <;> cases q
/-- the keys of a locked dict, with a test -/
theorem en_filtN {r : List (End × Int)} {od : Obj} {ps : List (Leaf × V)} (e : ps.map (·.1) = (nL r).map (·.1)) (p : End × Int → Bool) (h : End × Int → T) (hi : Ed P w ta Γ (.val (.ref a)) Γ) (hj : Γ.g[j]? = some ⟨l, a, .ndcL od ps (nL r)⟩) (hn : r.length ≤ 100000) (hf : forget Γ vs = Γ)
    (hs : ∀ q ∈ r, ∃ Γa, EdV P w gt (eT q.1) Γ Γa vs ∧ EdT P w tt Γa (p q) Γa ∧ (p q = true → Ed P w te Γa (h q) Γa) ∧ forget Γa vs = Γ) :
    EdN P w (tLc (iKeysA P w ta) gt tt te vs) Γ (.lst ((r.filter p).map h)) Γ := by
  rw [made_filt]
  have hl : r.length = (nL r).length := by unfold nL; rw [List.length_map]
  rw [hl]
  refine en_lcG (fun _ => Γ) (filtY r p h) (ik_N hi hj) (walkN e (nL_num r)) (fun i W σ G H _ E' => lk_N hj E') (by rw [← hl]; exact hn) fun i hi' => ?_
  rw [← hl] at hi'
  obtain ⟨Γa, h1, h2, h3, h4⟩ := hs _ (List.getElem_mem hi')
  have hy : filtY r p h i = if p r[i] then some (h r[i]) else none := by
    show (r[i]?).bind _ = _
    rw [List.getElem?_eq_getElem hi']
    rfl
  have hk : lT (((nL r)[i]?.map (·.1)).getD .none) = eT r[i].1 := by
    unfold nL
    rw [List.getElem?_map, List.getElem?_eq_getElem hi']
    exact lT_eL _
  refine ⟨Γa, p r[i], Γa, ?_, h2, fun z => ⟨h r[i], Γa, by rw [hy, if_pos z], h3 z, h4⟩, fun z => ⟨by rw [hy, if_neg (by rw [z]; exact Bool.false_ne_true)], h4⟩⟩
  rw [hk, hf]
  exact h1
end
section
variable {E : Type} [DecidableEq E] {rules : List (Ck E)} {V : List E}
theorem lk_in (hV : ∀ c ∈ rules, c.1 ∈ V ∧ c.2.1 ∈ V) : ∀ {w : List Nat} {a b : E}, Lk rules a w b → a ∈ V → b ∈ V
  | [], a, b, l, h => by
    have l : a = b := l
    rw [← l]; exact h
  | i :: is, a, b, ⟨c, e1, e2, l⟩, h => lk_in hV l (hV c (List.mem_of_getElem? e1)).2
theorem goes_in (hV : ∀ c ∈ rules, c.1 ∈ V ∧ c.2.1 ∈ V) {n : Nat} {a : E} {r : List (E × Int)} (h : goes rules n a = some r) (ha : a ∈ V) : ∀ q ∈ r, q.1 ∈ V := fun q hq => by
  have snd0 : Snd rules a [(a, 0)] := fun v x q => by
    rw [getA_cons] at q
    split at q
    · rename_i z
      cases q
      exact ⟨[], z, rfl⟩
    · cases q
  obtain ⟨x, hx⟩ := Option.isSome_iff_exists.mp (getA_some_iff.mpr (List.mem_map_of_mem (f := (·.1)) hq))
  obtain ⟨w, l, _⟩ := (Snd.bf snd0 h) q.1 x hx
  exact lk_in hV l ha
end
end FK
set_option maxHeartbeats 4000000
/-! FM16: numbers that can't be moved are bound (for led) -/
namespace FK
open PySem L2 PySem.Spec PyProof.Rows
section
variable {E : Type} [DecidableEq E] {rules : List (Ck E)} {V : List E} {s : Cs E}
theorem filter_lt {α : Type} {p q : α → Bool} : ∀ {l : List α}, (∀ x ∈ l, p x = true → q x = true) → (∃ x ∈ l, p x = false ∧ q x = true) → (l.filter p).length < (l.filter q).length
  | [], _, ⟨x, h, _⟩ => nomatch h
  | a :: l, hpq, hex => by
    have mono : (l.filter p).length ≤ (l.filter q).length := by
      have : ∀ l' : List α, (∀ x ∈ l', p x = true → q x = true) → (l'.filter p).length ≤ (l'.filter q).length := by
        intro l'
        induction l' with
        | nil => intro _; exact Nat.le_refl _
        | cons b l' ih =>
          intro h
          have ih := ih fun x hx => h x (List.mem_cons_of_mem _ hx)
          have hb := h b List.mem_cons_self
          cases e1 : p b <;> cases e2 : q b <;> simp [List.filter_cons, e1, e2] at * <;> omega
      exact this l fun x hx => hpq x (List.mem_cons_of_mem _ hx)
    obtain ⟨x, hx, h1, h2⟩ := hex
    rcases List.mem_cons.mp hx with e | hx
    · subst e
      simp [List.filter_cons, h1, h2]
      omega
    · have ih := filter_lt (l := l) (fun y hy => hpq y (List.mem_cons_of_mem _ hy)) ⟨x, hx, h1, h2⟩
      have ha := hpq a List.mem_cons_self
      cases e1 : p a <;> cases e2 : q a <;> simp [List.filter_cons, e1, e2] at * <;> omega
theorem dist_ge (F : Full V rules s) {h : E → Int} (hp : Pot rules h) {a b : E} {x : Int} (e : dist s a b = some x) : h a - h b ≤ x := by
  obtain ⟨w, l, rfl⟩ := dist_chain F.inv e
  exact hp.le l
def tightB (s : Cs E) (h : E → Int) (D : E → Bool) (f e : E) : Bool := D e && decide (dist s e f = some (h e - h f))
/-- each of some ends has a tight check from one of them: two are bound -/
theorem stuck (F : Full V rules s) {h : E → Int} (hp : Pot rules h) (D : E → Bool) (hD : ∀ f ∈ V, D f = true → ∃ c ∈ rules, c.2.1 = f ∧ c.1 ≠ f ∧ D c.1 = true ∧ h c.1 - h f = c.2.2) :
    ∀ (n : Nat) (f : E), f ∈ V → D f = true → (V.filter (tightB s h D f)).length ≤ n → ∃ f' ∈ V, D f' = true ∧ ∃ e ∈ V, e ≠ f' ∧ ∃ x y, dist s f' e = some x ∧ dist s e f' = some y ∧ x + y = 0
  | n, f, hf, df, hn => by
    obtain ⟨c, hc, ef, hne, dc, ht⟩ := hD f hf df
    obtain ⟨x, hx, hxle⟩ := F.le c hc
    rw [ef] at hx
    have hge := dist_ge F hp hx
    have hxe : x = h c.1 - h f := by omega
    subst hxe
    have hcV := (F.ends c hc).1
    by_cases z : tightB s h D c.1 f = true
    · have z := of_decide_eq_true ((Bool.and_eq_true _ _).mp z).2
      exact ⟨f, hf, df, c.1, hcV, hne, _, _, z, hx, by omega⟩
    · have hlt : (V.filter (tightB s h D c.1)).length < (V.filter (tightB s h D f)).length := by
        refine filter_lt (fun e he q => ?_) ⟨f, hf, by simpa using z, ?_⟩
        · obtain ⟨q1, q2⟩ := (Bool.and_eq_true _ _).mp q
          have q2 := of_decide_eq_true q2
          obtain ⟨y, hy, hyle⟩ := F.tri c.1 hcV e he f hf _ _ q2 hx
          have := dist_ge F hp hy
          refine (Bool.and_eq_true _ _).mpr ⟨q1, decide_eq_true ?_⟩
          rw [hy]; congr 1; omega
        · refine (Bool.and_eq_true _ _).mpr ⟨df, decide_eq_true ?_⟩
          rw [dist_self]; congr 1; omega
      match n, hn with
      | 0, hn => omega
      | n + 1, hn => exact stuck F hp D hD n c.1 hcV dc (by omega)
def tightU (s : Cs E) (h : E → Int) (D : E → Bool) (f e : E) : Bool := D e && decide (dist s f e = some (h f - h e))
/-- .. to one of them -/
theorem stuckU (F : Full V rules s) {h : E → Int} (hp : Pot rules h) (D : E → Bool) (hD : ∀ f ∈ V, D f = true → ∃ c ∈ rules, c.1 = f ∧ c.2.1 ≠ f ∧ D c.2.1 = true ∧ h f - h c.2.1 = c.2.2) :
    ∀ (n : Nat) (f : E), f ∈ V → D f = true → (V.filter (tightU s h D f)).length ≤ n → ∃ f' ∈ V, D f' = true ∧ ∃ e ∈ V, e ≠ f' ∧ ∃ x y, dist s f' e = some x ∧ dist s e f' = some y ∧ x + y = 0
  | n, f, hf, df, hn => by
    obtain ⟨c, hc, ef, hne, dc, ht⟩ := hD f hf df
    obtain ⟨x, hx, hxle⟩ := F.le c hc
    rw [ef] at hx
    have hge := dist_ge F hp hx
    have hxe : x = h f - h c.2.1 := by omega
    subst hxe
    have hcV := (F.ends c hc).2
    by_cases z : tightU s h D c.2.1 f = true
    · have z := of_decide_eq_true ((Bool.and_eq_true _ _).mp z).2
      exact ⟨f, hf, df, c.2.1, hcV, hne, _, _, hx, z, by omega⟩
    · have hlt : (V.filter (tightU s h D c.2.1)).length < (V.filter (tightU s h D f)).length := by
        refine filter_lt (fun e he q => ?_) ⟨f, hf, by simpa using z, ?_⟩
        · obtain ⟨q1, q2⟩ := (Bool.and_eq_true _ _).mp q
          have q2 := of_decide_eq_true q2
          obtain ⟨y, hy, hyle⟩ := F.tri c.2.1 hcV f hf e he _ _ hx q2
          have := dist_ge F hp hy
          refine (Bool.and_eq_true _ _).mpr ⟨q1, decide_eq_true ?_⟩
          rw [hy]; congr 1; omega
        · refine (Bool.and_eq_true _ _).mpr ⟨df, decide_eq_true ?_⟩
          rw [dist_self]; congr 1; omega
      match n, hn with
      | 0, hn => omega
      | n + 1, hn => exact stuckU F hp D hD n c.2.1 hcV dc (by omega)
end
end FK
set_option maxHeartbeats 4000000
/-! FM17: max and min with default=None; dicts of ints compared; tuples of such; sorted(set(ints)); slices of the script -/
namespace PySem.SeqAt
open AutoSeq1 (wpAny_loadPart')
open MeetsSeq MeetsSeq2 MeetsSeq3 SeqRoads2
section
variable {prog : Program} {w : World}
theorem tuple_neX (p q : Addr) (us vs : Array Value) (n m : Nat) (d1 d2 : Option Addr) (z1 z2 : Array (Option Value)) (f : Nat → Bool) :
    MeetsIn prog w (Builtin.«tuple.__ne__» ⟨[.ref p, .ref q], []⟩)
      (fun A R s => s.heap.get? p = some { cls := .type "tuple", dict := d1, data := .seq us n, slots := z1 } ∧ s.heap.get? q = some { cls := .type "tuple", dict := d2, data := .seq vs m, slots := z2 } ∧
        (∀ j (h1 : j < us.size) (h2 : j < vs.size), EqIn prog w A.in1 s us[j] vs[j] (f j)) ∧
        R (.ok (.ret (.bool (!((List.range (min us.size vs.size)).all f && us.size == vs.size))))) s) :=
  .of_wp fun A R s h => by
    obtain ⟨hp, g, d, tk, os⟩ := s; obtain ⟨hp1, hq1, hf, hR0⟩ := h
    have f2 := AutoSeq1.sub_tuple_tuple
    have lz : (us.toList.zip vs.toList).length = min us.size vs.size := by simp
    wp_walk using wpAny_loadPart' hp1, wpAny_loadPart' hq1, wpAny_forIn_list _ (fun rest b s' => b.1 = none ∧ s' = ⟨hp, g, d, tk, os⟩ ∧ ∃ i, rest = (us.toList.zip vs.toList).drop i ∧
      R (.ok (.ret (.bool (!(((List.range (min us.size vs.size)).drop i).all f && us.size == vs.size))))) ⟨hp, g, d, tk, os⟩) _
    case turn =>
      rintro ⟨y, x⟩ rest b s' ⟨hb', rfl, i, hz, hR⟩
      have il : i < (us.toList.zip vs.toList).length := by
        rcases Nat.lt_or_ge i (us.toList.zip vs.toList).length with c | c
        · exact c
        · rw [List.drop_of_length_le c] at hz; cases hz
      have im : i < min us.size vs.size := lz ▸ il
      have i1 : i < us.size := by omega
      have i2 : i < vs.size := by omega
      rw [List.drop_eq_getElem_cons il] at hz
      injection hz with hyx hrest
      have ey : y = us[i] := by have := congrArg Prod.fst hyx; simpa using this
      have ex : x = vs[i] := by have := congrArg Prod.snd hyx; simpa using this
      subst ey ex
      have ed : (List.range (min us.size vs.size)).drop i = i :: (List.range (min us.size vs.size)).drop (i + 1) := by simp [List.drop_eq_getElem_cons, im]
      rw [ed, List.all_cons] at hR
      refine wpAny_bind (hf i i1 i2 _ _ ?_)
      cases e : f i with
      | true =>
        rw [e] at hR
        wp_walk
        exact ⟨rfl, rfl, i + 1, hrest, by simpa using hR⟩
      | false =>
        rw [e] at hR
        wp_walk
        exact ⟨_, rfl, by simpa using hR⟩
    case fin =>
      rintro ⟨b1, b2⟩ s' ⟨hb', rfl, i, hz, hR⟩
      simp only at hb'
      subst hb'
      have ig : min us.size vs.size ≤ i := by
        rcases Nat.lt_or_ge i (us.toList.zip vs.toList).length with c | c
        · rw [List.drop_eq_getElem_cons c] at hz; cases hz
        · exact lz ▸ c
      rw [List.drop_of_length_le (by simpa using ig)] at hR
      wp_walk
      exact ⟨_, rfl, by simpa [Builtin.Tuple.tupleCompareSizes, bne] using hR⟩
    case h =>
      exact ⟨rfl, rfl, 0, rfl, by simpa using hR0⟩
variable {A : Around} {s : Shared}
theorem rcNeX_tuples {E : Value → Shared → Prop} {p q : Addr} {us vs : Array Value} {f : Nat → Bool} {Q : Value → Shared → Prop} (hp : s.heap.IsTuple p us) (hq : s.heap.IsTuple q vs) (hu : A.units < cLine)
    (he : ∀ j (h1 : j < us.size) (h2 : j < vs.size), EqIn prog w A.in1 s us[j] vs[j] (f j)) (h : Q (.bool (!((List.range (min us.size vs.size)).all f && us.size == vs.size))) s) :
    wpAny (model prog w) A (compareOp .NotEq (.ref p) (.ref q)) Q E s := by
  obtain ⟨⟨c1, d1, e1, z1⟩, o1, k1, n1, g1⟩ := id hp
  obtain ⟨⟨c2, d2, e2, z2⟩, o2, k2, n2, g2⟩ := id hq
  simp only at k1 g1 k2 g2
  subst k1 g1 k2 g2
  exact wpAny_richCompare_same_room (T := "tuple") (op := .NotEq) ⟨_, o1, rfl⟩ ⟨_, o2, rfl⟩ F.slot_tuple_ne (call_meetsIn F.slot_tuple_ne ⟨_, o1, rfl⟩ F.entry_tuple_ne (F.args_tuple_ne_2 _ _) (tuple_neX p q us vs n1 n2 d1 d2 z1 z2 f)
    ⟨o1, o2, he, show Value.bool (!((List.range (min us.size vs.size)).all f && us.size == vs.size)) ≠ Value.notImplemented ∧ _ from ⟨(fun x => nomatch x), h⟩⟩) hu
end
end PySem.SeqAt

namespace FK
open PySem L2 PySem.Spec PyProof.Rows
section
variable {X : Cx}
/-! ### max, min with default=None -/
def rMaxDf (K : PySem.W.Frag) : List V → List V → Hp → VK → Prop := fun vs zs H Q => ∃ (a : Addr) (ns : List Int), vs = [V.ref a] ∧ zs = [.non] ∧ SqL K H a (ns.map V.int) ∧ (ns = [] → Q .non H) ∧ ∀ m, m ∈ ns → (∀ y ∈ ns, y ≤ m) → Q (.int m) H
def rMinDf (K : PySem.W.Frag) : List V → List V → Hp → VK → Prop := fun vs zs H Q => ∃ (a : Addr) (ns : List Int), vs = [V.ref a] ∧ zs = [.non] ∧ SqL K H a (ns.map V.int) ∧ (ns = [] → Q .non H) ∧ ∀ m, m ∈ ns → (∀ y ∈ ns, m ≤ y) → Q (.int m) H
theorem cr_maxDf (hc : X.calm = true) : CallRK X (.builtin "max") [Str.ofString "default"] (rMaxDf X.K) := by
  intro pins s σ H vs zs us ws Q I r rz h
  obtain ⟨a, ns, rfl, rfl, hs, q0, q1⟩ := h
  obtain ⟨its, rv, hl, _⟩ := I.list hs
  rw [Vals.ref1 r]
  obtain ⟨w1, rfl, e1⟩ := vals1 rz
  obtain rfl : w1 = Value.none := e1
  have hi := rv.ints
  obtain ⟨xs, e⟩ := hi.allInts.items
  have hn : numsOf (intItems xs).toList = ns := by rw [← e]; exact hi.numsOf
  rw [nums_intItems] at hn
  subst hn
  have hl' := hl.isList
  rw [e] at hl'
  have hsz : (intItems xs).size = xs.size := by simp [intItems]
  refine call_max_walkD (PySem.W.iter_listW (A := X.A.in1) (I.ok.hd hc) hl' fun s₂ e2 Wk st hfp hw hk => ?_)
  refine ⟨_, _, _, _, _, _, _, s.heap, fun i j => decide (PySem.numAt xs i > PySem.numAt xs j), rfl, Wk, st, hfp, hw, hk, fun hz s' m => ?_, fun hp => ⟨fun i j vi vj s Q E _ hi hj h => CmpOf.ints_gt (PySem.numAt xs) (fun _ _ => intItems_at) i j vi vj s Q E hi hj h, fun v s' hP m => ?_⟩⟩
  · obtain ⟨h', tk, rfl, hk'⟩ := PySem.W.moved_old e2 rfl m
    refine ⟨.non, H, I.kept hk', rfl, q0 ?_⟩
    rw [hsz] at hz
    exact List.eq_nil_of_length_eq_zero (by simpa using hz)
  · obtain ⟨h', tk, rfl, hk'⟩ := PySem.W.moved_old e2 rfl m
    obtain ⟨t, rfl⟩ := intItems_at hP
    rw [hsz] at hp ⊢
    obtain ⟨h1, h2⟩ := argBest_gt (PySem.numAt xs) (xs.size - 1)
    refine ⟨.int _, H, I.kept hk', ⟨_, rfl⟩, q1 _ ?_ fun y hy => ?_⟩
    · rw [numAt_eq]; exact PySem.getD_mem (by rw [List.length_map, Array.length_toList]; omega)
    · obtain ⟨j, hj, rfl⟩ := mem_getD hy
      rw [List.length_map, Array.length_toList] at hj
      rw [← numAt_eq]; exact h2 j (by omega)
theorem cr_minDf (hc : X.calm = true) : CallRK X (.builtin "min") [Str.ofString "default"] (rMinDf X.K) := by
  intro pins s σ H vs zs us ws Q I r rz h
  obtain ⟨a, ns, rfl, rfl, hs, q0, q1⟩ := h
  obtain ⟨its, rv, hl, _⟩ := I.list hs
  rw [Vals.ref1 r]
  obtain ⟨w1, rfl, e1⟩ := vals1 rz
  obtain rfl : w1 = Value.none := e1
  have hi := rv.ints
  obtain ⟨xs, e⟩ := hi.allInts.items
  have hn : numsOf (intItems xs).toList = ns := by rw [← e]; exact hi.numsOf
  rw [nums_intItems] at hn
  subst hn
  have hl' := hl.isList
  rw [e] at hl'
  have hsz : (intItems xs).size = xs.size := by simp [intItems]
  refine call_min_walkD (PySem.W.iter_listW (A := X.A.in1) (I.ok.hd hc) hl' fun s₂ e2 Wk st hfp hw hk => ?_)
  refine ⟨_, _, _, _, _, _, _, s.heap, fun i j => decide (PySem.numAt xs i < PySem.numAt xs j), rfl, Wk, st, hfp, hw, hk, fun hz s' m => ?_, fun hp => ⟨fun i j vi vj s Q E _ hi hj h => CmpOf.ints_lt (PySem.numAt xs) (fun _ _ => intItems_at) i j vi vj s Q E hi hj h, fun v s' hP m => ?_⟩⟩
  · obtain ⟨h', tk, rfl, hk'⟩ := PySem.W.moved_old e2 rfl m
    refine ⟨.non, H, I.kept hk', rfl, q0 ?_⟩
    rw [hsz] at hz
    exact List.eq_nil_of_length_eq_zero (by simpa using hz)
  · obtain ⟨h', tk, rfl, hk'⟩ := PySem.W.moved_old e2 rfl m
    obtain ⟨t, rfl⟩ := intItems_at hP
    rw [hsz] at hp ⊢
    obtain ⟨h1, h2⟩ := argBest_lt (PySem.numAt xs) (xs.size - 1)
    refine ⟨.int _, H, I.kept hk', ⟨_, rfl⟩, q1 _ ?_ fun y hy => ?_⟩
    · rw [numAt_eq]; exact PySem.getD_mem (by rw [List.length_map, Array.length_toList]; omega)
    · obtain ⟨j, hj, rfl⟩ := mem_getD hy
      rw [List.length_map, Array.length_toList] at hj
      rw [← numAt_eq]; exact h2 j (by omega)
end

/-! ### dicts of ints compared -/
def IntK (ks : List (Key × V)) : Prop := ∀ p ∈ ks, ∃ i, p.2 = V.int i
def dkB (ks ls : List (Key × V)) : Bool := decide (ks.length = ls.length) && ks.all fun p => decide (valV ls p.1 = some p.2)
theorem valV_mem {ls : List (Key × V)} {k : Key} {u : V} (h : valV ls k = some u) : ∃ p ∈ ls, p.2 = u := by
  unfold valV at h
  obtain ⟨p, hp, e⟩ := Option.map_eq_some_iff.mp h
  exact ⟨p, List.mem_of_find?_eq_some hp, e⟩
theorem hits_int {A : Around} {s : Shared} {ls : List (Key × V)} {vb : List (Key × Value)} (rb : KV ls vb) (hl : IntK ls) : ∀ {ks : List (Key × V)} {va : List (Key × Value)}, KV ks va → IntK ks →
    PySem.W.KeqHits A s vb va (ks.all fun p => decide (valV ls p.1 = some p.2)) := by
  intro ks va ra
  unfold KV at ra
  induction ra with
  | nil => intro _; exact .nil
  | @cons p q ps qs h t ih =>
    intro hk
    obtain ⟨h1, h2⟩ := h
    obtain ⟨key, v⟩ := q
    have h1 : p.1 = key := h1
    subst h1
    obtain ⟨i, hi⟩ := hk p List.mem_cons_self
    have ih := ih fun p' hp' => hk p' (List.mem_cons_of_mem _ hp')
    have h2 : RelV p.2 v := h2
    rw [hi] at h2
    obtain ⟨t1, rfl⟩ := h2
    have rr := rb.val p.1
    rw [List.all_cons]
    cases e : valV ls p.1 with
    | none =>
      rw [e] at rr
      exact .miss (RelO.none_of rr)
    | some u =>
      rw [e] at rr
      obtain ⟨y, hy, ry⟩ := RelO.some_of rr
      obtain ⟨p', hp', rfl⟩ := valV_mem e
      obtain ⟨j, hj⟩ := hl p' hp'
      rw [hj] at ry
      obtain ⟨t2, rfl⟩ := ry
      have eb : decide (some p'.2 = some p.2) = PyData.eqv (.int i) (.int j) := by
        rw [hj, hi]
        show _ = decide _
        by_cases z : i = j
        · subst z; simp
        · have z' : ¬ j = i := fun q => z q.symm
          simp [z, z']
      rw [eb]
      exact .hit hy (SeqAt.EqAt.int_int i t1 j t2) ih
def rEqTh : R2 := fun x y H Q => ∃ a b ks ls, x = .ref a ∧ y = .ref b ∧ H a = some (.dK ks) ∧ H b = some (.dK ls) ∧ IntK ks ∧ IntK ls ∧ Q (.bl (dkB ks ls)) H
def rNeTh : R2 := fun x y H Q => ∃ a b ks ls, x = .ref a ∧ y = .ref b ∧ H a = some (.dK ks) ∧ H b = some (.dK ls) ∧ IntK ks ∧ IntK ls ∧ Q (.bl (!dkB ks ls)) H
theorem len_beq (a b : Nat) : (a == b) = decide (a = b) := by
  by_cases z : a = b
  · subst z; simp
  · simp [z]
section
variable {X : Cx}
theorem th_eq {pins : List (Addr × Obj)} {s : Shared} {σ : L2.St} {H : Hp} (I : Inv X pins σ H s) {A : Around} {a b : Addr} {ks ls : List (Key × V)} (ea : H a = some (.dK ks)) (eb : H b = some (.dK ls)) (ik : IntK ks) (il : IntK ls) (hu : A.units < cLine) {E Q : Value → Shared → Prop} (q : Q (.bool (dkB ks ls)) s) :
    wpAny (model X.prog X.w) A (compareOp .Eq (.ref a) (.ref b)) Q E s := by
  obtain ⟨_, ya, va, ra, da⟩ := (show ObjOk X.prog X.w H s.heap a (.dK ks) from I.hok a _ ea)
  obtain ⟨_, yb, vb, rb, db⟩ := (show ObjOk X.prog X.w H s.heap b (.dK ls) from I.hok b _ eb)
  refine PySem.W.keq_eq (knd := mixKind X.prog X.w) ya yb da db hu (fun _ => hits_int rb il ra ik) ?_
  rw [← ra.length, ← rb.length, len_beq]
  exact q
theorem op_eqTh (hu : X.A.units < cLine) : OpR X (compareOp .Eq) rEqTh := by
  intro pins s σ H x y v u Q I rx ry h
  obtain ⟨a, b, ks, ls, rfl, rfl, ea, eb, ik, il, q⟩ := h
  obtain rfl : v = Value.ref a := rx
  obtain rfl : u = Value.ref b := ry
  exact th_eq I ea eb ik il hu (fin_bl I q rfl)
theorem op_neTh (hu : X.A.units < cLine) : OpR X (compareOp .NotEq) rNeTh := by
  intro pins s σ H x y v u Q I rx ry h
  obtain ⟨a, b, ks, ls, rfl, rfl, ea, eb, ik, il, q⟩ := h
  obtain rfl : v = Value.ref a := rx
  obtain rfl : u = Value.ref b := ry
  obtain ⟨_, ya, va, ra, da⟩ := (show ObjOk X.prog X.w H s.heap a (.dK ks) from I.hok a _ ea)
  obtain ⟨_, yb, vb, rb, db⟩ := (show ObjOk X.prog X.w H s.heap b (.dK ls) from I.hok b _ eb)
  refine PySem.W.keq_ne (knd := mixKind X.prog X.w) ya yb da db hu (fun _ => hits_int rb il ra ik) ?_
  rw [← ra.length, ← rb.length, len_beq]
  exact fin_bl I q rfl
/-- two dicts of ints that are alike -/
def DEq (H : Hp) (x y : V) : Prop := ∃ a b ks ls, x = .ref a ∧ y = .ref b ∧ H a = some (.dK ks) ∧ H b = some (.dK ls) ∧ IntK ks ∧ IntK ls ∧ dkB ks ls = true
def rNeT2 (K : PySem.W.Frag) : R2 := fun x y H Q => ∃ p q x1 x2 y1 y2, x = .ref p ∧ y = .ref q ∧ SqT K H p [x1, x2] ∧ SqT K H q [y1, y2] ∧ DEq H x1 y1 ∧ DEq H x2 y2 ∧ Q (.bl false) H
theorem deq_in {pins : List (Addr × Obj)} {s : Shared} {σ : L2.St} {H : Hp} (I : Inv X pins σ H s) {A : Around} (hu : A.units < cLine) {x y : V} {v u : Value} (h : DEq H x y) (rx : RelV x v) (ry : RelV y u) : SeqAt.EqIn X.prog X.w A s v u true := by
  obtain ⟨a, b, ks, ls, rfl, rfl, ea, eb, ik, il, e⟩ := h
  obtain rfl : v = Value.ref a := rx
  obtain rfl : u = Value.ref b := ry
  by_cases z : a = b
  · subst z
    exact (SeqAt.EqAt.same _).inModel _ _
  · exact SeqAt.EqIn.of_refs z fun E Q hq => th_eq I ea eb ik il hu (by rw [e]; exact hq)
theorem op_neT2 (hu : X.A.units + 64 < cLine) : OpR X (compareOp .NotEq) (rNeT2 X.K) := by
  intro pins s σ H x y v u Q I rx ry h
  obtain ⟨p, q, x1, x2, y1, y2, rfl, rfl, hp, hq, d1, d2, qq⟩ := h
  obtain rfl : v = Value.ref p := rx
  obtain rfl : u = Value.ref q := ry
  obtain ⟨us, r1, t1, _⟩ := I.tuple hp
  obtain ⟨vs, r2, t2, _⟩ := I.tuple hq
  obtain ⟨u1, u2, rfl, ru1, ru2⟩ := vals2 r1
  obtain ⟨v1, v2, rfl, rv1, rv2⟩ := vals2 r2
  have hu1 : X.A.in1.units < cLine := by show X.A.units + 1 < cLine; omega
  refine SeqAt.rcNeX_tuples (f := fun _ => true) t1 t2 (by omega) (fun j j1 j2 => ?_) ⟨.bl false, H, I, rfl, qq⟩
  match j, j1, j2 with
  | 0, _, _ => exact deq_in I hu1 d1 ru1 rv1
  | 1, _, _ => exact deq_in I hu1 d2 ru2 rv2
  | n + 2, j1, _ => exact absurd j1 (by simp)
end
end FK
set_option maxHeartbeats 4000000
/-! FM18: rules over trees for FM17; sorted(set(ints)); the script's slices; int of a truth; in a tuple -/
namespace FK
open PySem L2 PySem.Spec PyProof.Rows
def opI : Option Int → T
  | none => .non
  | some i => .int i
theorem opI_isN (o : Option Int) : (opI o).isN = o.isNone := by cases o <;> rfl
def maxO : List Int → Option Int
  | [] => none
  | x :: xs => some (xs.foldl (fun a b => if b > a then b else a) x)
def minO : List Int → Option Int
  | [] => none
  | x :: xs => some (xs.foldl (fun a b => if b < a then b else a) x)
theorem foldMax : ∀ (xs : List Int) (x : Int), xs.foldl (fun a b => if b > a then b else a) x ∈ x :: xs ∧ ∀ y ∈ x :: xs, y ≤ xs.foldl (fun a b => if b > a then b else a) x
  | [], x => ⟨by simp, fun y hy => by simp at hy; subst hy; exact Int.le_refl _⟩
  | z :: xs, x => by
    obtain ⟨h1, h2⟩ := foldMax xs (if z > x then z else x)
    rw [List.foldl_cons]
    generalize xs.foldl (fun a b => if b > a then b else a) (if z > x then z else x) = r at h1 h2 ⊢
    refine ⟨?_, fun y hy => ?_⟩
    · rcases List.mem_cons.mp h1 with e | e
      · rw [e]; split <;> simp
      · simp [e]
    · have h0 := h2 _ List.mem_cons_self
      rcases List.mem_cons.mp hy with e | hy
      · subst e; split at h0 <;> omega
      · rcases List.mem_cons.mp hy with e | hy
        · subst e; split at h0 <;> omega
        · exact h2 y (List.mem_cons_of_mem _ hy)
theorem foldMin : ∀ (xs : List Int) (x : Int), xs.foldl (fun a b => if b < a then b else a) x ∈ x :: xs ∧ ∀ y ∈ x :: xs, xs.foldl (fun a b => if b < a then b else a) x ≤ y
  | [], x => ⟨by simp, fun y hy => by simp at hy; subst hy; exact Int.le_refl _⟩
  | z :: xs, x => by
    obtain ⟨h1, h2⟩ := foldMin xs (if z < x then z else x)
    rw [List.foldl_cons]
    generalize xs.foldl (fun a b => if b < a then b else a) (if z < x then z else x) = r at h1 h2 ⊢
    refine ⟨?_, fun y hy => ?_⟩
    · rcases List.mem_cons.mp h1 with e | e
      · rw [e]; split <;> simp
      · simp [e]
    · have h0 := h2 _ List.mem_cons_self
      rcases List.mem_cons.mp hy with e | hy
      · subst e; split at h0 <;> omega
      · rcases List.mem_cons.mp hy with e | hy
        · subst e; split at h0 <;> omega
        · exact h2 y (List.mem_cons_of_mem _ hy)
theorem maxO_mem {ns : List Int} {m : Int} (h : maxO ns = some m) : m ∈ ns ∧ ∀ y ∈ ns, y ≤ m := by
  cases ns with
  | nil => cases h
  | cons x xs => cases h; exact foldMax xs x
theorem minO_mem {ns : List Int} {m : Int} (h : minO ns = some m) : m ∈ ns ∧ ∀ y ∈ ns, m ≤ y := by
  cases ns with
  | nil => cases h
  | cons x xs => cases h; exact foldMin xs x
theorem maxO_none {ns : List Int} (h : maxO ns = none) : ns = [] := by cases ns <;> simp [maxO] at h ⊢
theorem minO_none {ns : List Int} (h : minO ns = none) : ns = [] := by cases ns <;> simp [minO] at h ⊢
section
variable {P : Program} {w : World} {K : PySem.W.Frag} {Γ Γ1 Γ2 : Ev} {ta tb te : TE} {t : T} {tr : TA}
theorem ed_maxDf {ns : List Int} (h : Ed P w ta Γ (.lst (ns.map T.int)) Γ1) : Ed P w (tCKw (rMaxDf K) (tCons ta tNil) (tCons (tC .non) tNil)) Γ (opI (maxO ns)) Γ1 := fun W σ G H E Q q =>
  h W σ G H E _ fun v G' H' s' E' i => by
    cases i with
    | lst h1 h2 =>
      have e := all_ints h2
      subst e
      refine ⟨_, ns, rfl, rfl, SqL.of (E'.base _ _ h1), fun z => ?_, fun m hm hle => ?_⟩
      · subst z; exact q _ _ _ s' E' .non
      · have e : maxO ns = some m := by
          cases e : maxO ns with
          | none => rw [maxO_none e] at hm; cases hm
          | some m' =>
            obtain ⟨h3, h4⟩ := maxO_mem e
            have := h4 m hm
            have := hle m' h3
            congr 1; omega
        rw [e] at q
        exact q _ _ _ s' E' (.int m)
theorem ed_minDf {ns : List Int} (h : Ed P w ta Γ (.lst (ns.map T.int)) Γ1) : Ed P w (tCKw (rMinDf K) (tCons ta tNil) (tCons (tC .non) tNil)) Γ (opI (minO ns)) Γ1 := fun W σ G H E Q q =>
  h W σ G H E _ fun v G' H' s' E' i => by
    cases i with
    | lst h1 h2 =>
      have e := all_ints h2
      subst e
      refine ⟨_, ns, rfl, rfl, SqL.of (E'.base _ _ h1), fun z => ?_, fun m hm hle => ?_⟩
      · subst z; exact q _ _ _ s' E' .non
      · have e : minO ns = some m := by
          cases e : minO ns with
          | none => rw [minO_none e] at hm; cases hm
          | some m' =>
            obtain ⟨h3, h4⟩ := minO_mem e
            have := h4 m hm
            have := hle m' h3
            congr 1; omega
        rw [e] at q
        exact q _ _ _ s' E' (.int m)
/-! dicts of ints -/
def kvT (th : Thing) : List (Key × V) := th.map fun p => ((Sum.inr p.1 : Key), V.int p.2)
theorem kvT_int (th : Thing) : IntK (kvT th) := fun p hp => by
  obtain ⟨q, _, rfl⟩ := List.mem_map.mp hp
  exact ⟨q.2, rfl⟩
theorem kvT_of : ∀ {th : Thing} {ps : List (Key × V)} {G : Hp}, ps.map (·.1) = (tL th).map (fun p => Sum.inr p.1) → IsAll P w G (ps.map (·.2)) ((tL th).map (·.2)) → ps = kvT th
  | [], [], _, _, _ => rfl
  | [], p :: ps, _, e, _ => by simp [tL] at e
  | q :: th, [], _, e, _ => by simp [tL] at e
  | q :: th, p :: ps, G, e, h => by
    have e : p.1 :: ps.map (·.1) = Sum.inr q.1 :: (tL th).map (fun p => Sum.inr p.1) := e
    injection e with e1 e2
    have h : IsAll P w G (p.2 :: ps.map (·.2)) (.int q.2 :: (tL th).map (·.2)) := h
    cases h with
    | cons a b =>
      have ih := kvT_of (th := th) e2 b
      have ep : p = (Sum.inr q.1, V.int q.2) := by
        have a2 : p.2 = V.int q.2 := by
          generalize hp2 : p.2 = v at a
          cases a; rfl
        exact Prod.ext e1 a2
      rw [ep, ih]; rfl
theorem is_tT {G : Hp} {v : V} {th : Thing} (h : Is P w G v (tT th)) : ∃ a, v = .ref a ∧ G a = some (.dK (kvT th)) := by
  have h : Is P w G v (.dic (tL th)) := h
  cases h with
  | dic h1 h2 h3 => exact ⟨_, rfl, by rw [h1, kvT_of h2 h3]⟩
theorem valV_kvT (th : Thing) (x : Str) : valV (kvT th) (Sum.inr x) = (getA th x).map V.int := by
  induction th with
  | nil => rfl
  | cons p th ih =>
    by_cases z : p.1 = x
    · have z' : (Sum.inr p.1 : Key) = Sum.inr x := by rw [z]
      have e1 : valV (kvT (p :: th)) (Sum.inr x) = some (V.int p.2) := valV_pos z'
      rw [e1, getA_cons, if_pos z]; rfl
    · have z' : ¬ (Sum.inr p.1 : Key) = Sum.inr x := fun q => z (Sum.inr.inj q)
      have e1 : valV (kvT (p :: th)) (Sum.inr x) = valV (kvT th) (Sum.inr x) := valV_neg z'
      rw [e1, getA_cons, if_neg z, ih]
def eqTh (a b : Thing) : Bool := decide (a.length = b.length) && a.all fun p => decide (getA b p.1 = some p.2)
theorem dkB_kvT (a b : Thing) : dkB (kvT a) (kvT b) = eqTh a b := by
  unfold dkB eqTh
  have l : ∀ t : Thing, (kvT t).length = t.length := fun t => List.length_map ..
  rw [l, l]
  congr 1
  rw [kvT, List.all_map]
  congr 1
  funext p
  show decide (valV (kvT b) (Sum.inr p.1) = some (V.int p.2)) = _
  rw [valV_kvT]
  cases getA b p.1 with
  | none => simp
  | some n =>
    by_cases z : n = p.2
    · subst z; simp
    · have z' : ¬ (V.int n : V) = V.int p.2 := fun q => z (by injection q)
      simp [z]
theorem ed_eqTh {a b : Thing} (ha : Ed P w ta Γ (tT a) Γ1) (hb : Ed P w tb Γ1 (tT b) Γ2) : Ed P w (tOp rEqTh ta tb) Γ (.bl (eqTh a b)) Γ2 := ed_op ha hb fun G H vx vy s ix iy Q q => by
  obtain ⟨p, rfl, hp⟩ := is_tT ix
  obtain ⟨r, rfl, hr⟩ := is_tT iy
  exact ⟨p, r, _, _, rfl, rfl, s _ _ hp, s _ _ hr, kvT_int a, kvT_int b, by rw [dkB_kvT]; exact q _ G H (Grw.refl s) (.bl _)⟩
theorem ed_neTh {a b : Thing} (ha : Ed P w ta Γ (tT a) Γ1) (hb : Ed P w tb Γ1 (tT b) Γ2) : Ed P w (tOp rNeTh ta tb) Γ (.bl (!eqTh a b)) Γ2 := ed_op ha hb fun G H vx vy s ix iy Q q => by
  obtain ⟨p, rfl, hp⟩ := is_tT ix
  obtain ⟨r, rfl, hr⟩ := is_tT iy
  exact ⟨p, r, _, _, rfl, rfl, s _ _ hp, s _ _ hr, kvT_int a, kvT_int b, by rw [dkB_kvT]; exact q _ G H (Grw.refl s) (.bl _)⟩
theorem ed_neT2 {a b c d : Thing} (ha : Ed P w ta Γ (.tup [tT a, tT b]) Γ1) (hb : Ed P w tb Γ1 (.tup [tT c, tT d]) Γ2) (h1 : eqTh a c = true) (h2 : eqTh b d = true) : Ed P w (tOp (rNeT2 K) ta tb) Γ (.bl false) Γ2 := ed_op ha hb fun G H vx vy s ix iy Q q => by
  cases ix with
  | tup g1 g2 =>
    cases iy with
    | tup k1 k2 =>
      cases g2 with
      | cons i1 g2 =>
        cases g2 with
        | cons i2 g2 =>
          cases g2
          cases k2 with
          | cons j1 k2 =>
            cases k2 with
            | cons j2 k2 =>
              cases k2
              obtain ⟨p1, rfl, e1⟩ := is_tT i1
              obtain ⟨p2, rfl, e2⟩ := is_tT i2
              obtain ⟨q1, rfl, f1⟩ := is_tT j1
              obtain ⟨q2, rfl, f2⟩ := is_tT j2
              exact ⟨_, _, _, _, _, _, rfl, rfl, SqT.of (s _ _ g1), SqT.of (s _ _ k1), ⟨_, _, _, _, rfl, rfl, s _ _ e1, s _ _ f1, kvT_int _, kvT_int _, by rw [dkB_kvT]; exact h1⟩, ⟨_, _, _, _, rfl, rfl, s _ _ e2, s _ _ f2, kvT_int _, kvT_int _, by rw [dkB_kvT]; exact h2⟩, q _ G H (Grw.refl s) (.bl false)⟩
/-! the script's slices -/
theorem en_sliceQ {a : Addr} {ns : List Int} {hi : Option Int} {th : TO} (ha : Ed P w ta Γ (.opq a fun H => SqL K H a (ns.map V.int)) Γ) (hh : EdO P w th Γ hi) : EdN P w (tSl (rSlL K) ta tNoPart th) Γ (.lst (cutT (ns.map T.int) none hi)) Γ := fun W σ G H E Q q =>
  ha W σ G H E _ fun v G1 H1 s1 E1 iv => eo_none W σ G1 H1 E1 _ fun G2 H2 s2 E2 => hh W σ G2 H2 E2 _ fun G3 H3 s3 E3 => by
    cases iv.mono (s2.trans s3) with
    | opq h1 h2 =>
      refine ⟨_, _, rfl, h2 _ _ E3.base h1, fun p hp => ?_⟩
      refine q p G3 _ (s1.trans (s2.trans s3)) (E3.pushNew hp ⟨_, upd_same, ?_⟩)
      have i := ints_all (P := P) (w := w) (G := G3) ns
      unfold cutV cutT
      rw [i.length]
      exact (i.drop _).take _
/-! int of a truth -/
theorem ed_intB {b : Bool} (h : EdA P w tr Γ [.bl b] Γ1) : Ed P w (tCB (fun xs H Q => (∃ i, xs = [.int i] ∧ Q (.int i) H) ∨ ∃ k, xs = [.bl k] ∧ Q (.int (if k then 1 else 0)) H) tr) Γ (.int (if b then 1 else 0)) Γ1 := ed_cb h fun G H vs s is Q q => by
  cases is with
  | cons i1 i2 =>
    cases i2
    cases i1
    exact .inr ⟨b, rfl, q _ G H (Grw.refl s) (.int _)⟩
/-! in a tuple of texts -/
theorem ed_inTE {e : End} {es : List End} (ha : Ed P w ta Γ (eT e) Γ1) (hb : Ed P w tb Γ1 (.tup (es.map eT)) Γ2) : Ed P w (tOp (rInA P w K) ta tb) Γ (.bl (decide (e ∈ es))) Γ2 := ed_op ha hb fun G H vx vy s ix iy Q q => by
  have ex := is_eT ix
  subst ex
  cases iy with
  | tup h1 h2 =>
    have ev := all_eT h2
    subst ev
    refine .inl ⟨_, _, rfl, .inr (SqT.of (s _ _ h1)), flat_eV e, flat_ends es, ?_⟩
    have := q (.bl (decide (e ∈ es))) G H (Grw.refl s) (.bl _)
    rw [← inV_ends] at this
    exact this
end
end FK
set_option maxHeartbeats 4000000
/-! FM20: counts that lead on, least sums by going round (as before in specs); the maths of led -/
namespace FK
open PySem L2 PySem.Spec PyProof.Rows
theorem endsOf_len (fs : List Str) : (endsOf fs).length = fs.length + 1 := by unfold endsOf; simp
theorem perm_of_sub {α : Type} [DecidableEq α] : ∀ {l m : List α}, l.Nodup → (∀ x ∈ l, x ∈ m) → m.length ≤ l.length → l.Perm m
  | [], m, _, _, h => by
    have : m = [] := List.length_eq_zero_iff.mp (Nat.le_zero.mp h)
    rw [this]
  | a :: l, m, n, h, hl => by
    rw [List.nodup_cons] at n
    have ha := h a List.mem_cons_self
    have i := perm_of_sub (l := l) (m := m.erase a) n.2 (fun x hx => (List.mem_erase_of_ne (fun e : x = a => n.1 (by rw [← e]; exact hx))).mpr (h x (List.mem_cons_of_mem _ hx))) (by rw [List.length_erase_of_mem ha]; simp at hl; omega)
    exact (List.Perm.cons a i).trans (List.perm_cons_erase ha).symm
theorem fw_none {cs : List Chk} {th : Thing} (h : ∀ c ∈ cs, soB th c = true) : fw cs th = none := by
  unfold fw
  have := fwFrom_pre th cs [] 0 h
  rw [List.append_nil] at this
  rw [this]; rfl
theorem fw_none_iff {cs : List Chk} {th : Thing} : fw cs th = none ↔ ∀ c ∈ cs, soB th c = true := by
  refine ⟨fun h => ?_, fw_none⟩
  have key : ∀ (l : List Chk) (i : Nat), fwFrom th i l = none → ∀ c ∈ l, soB th c = true := by
    intro l
    induction l with
    | nil => intro i _ c hc; cases hc
    | cons d l ih =>
      intro i q c hc
      have q : (if soB th d then fwFrom th (i + 1) l else some i) = none := q
      by_cases z : soB th d = true
      · rw [if_pos z] at q
        rcases List.mem_cons.mp hc with e | hc
        · rw [e]; exact z
        · exact ih (i + 1) q c hc
      · rw [if_neg z] at q; cases q
  exact key cs 0 h
/-! counts that lead on -/
theorem ckAt_nat {cs : List Chk} {i : Nat} {c : Chk} (h : cs[i]? = some c) : ckAt cs (i : Int) = c ∧ inR cs.length (i : Int) = true := by
  have hl : i < cs.length := (List.getElem?_eq_some_iff.mp h).1
  refine ⟨?_, ?_⟩
  · unfold ckAt
    rw [Int.toNat_natCast, h]; rfl
  · unfold inR
    rw [Bool.and_eq_true, decide_eq_true_eq, decide_eq_true_eq]; omega
theorem lk_leads {cs : List Chk} : ∀ {r : List Nat} {a b : End}, Lk cs a r b → r ≠ [] → leadsB cs (natsI r) = true ∧ (ckAt cs (headI (natsI r))).1 = a ∧ (ckAt cs (lastI (natsI r))).2.1 = b
  | [], _, _, _, h => absurd rfl h
  | [i], a, b, ⟨c, e1, e2, l⟩, _ => by
    obtain ⟨k1, k2⟩ := ckAt_nat e1
    have l : c.2.1 = b := l
    refine ⟨?_, ?_, ?_⟩
    · show (!decide ([(i : Int)] = []) && (([(i : Int)].all (inR cs.length)) && _)) = true
      simp [k2, natsI]
    · show (ckAt cs (i : Int)).1 = a
      rw [k1]; exact e2
    · show (ckAt cs (i : Int)).2.1 = b
      rw [k1]; exact l
  | i :: j :: is, a, b, ⟨c, e1, e2, l⟩, _ => by
    obtain ⟨k1, k2⟩ := ckAt_nat e1
    obtain ⟨h1, h2, h3⟩ := lk_leads l (by simp)
    unfold leadsB at h1
    simp only [Bool.and_eq_true] at h1
    refine ⟨?_, ?_, ?_⟩
    · unfold leadsB
      have e : natsI (i :: j :: is) = (i : Int) :: natsI (j :: is) := rfl
      rw [e]
      simp only [Bool.and_eq_true, List.all_cons, List.tail_cons]
      refine ⟨by simp, ⟨k2, h1.2.1⟩, ?_⟩
      have z : ((i : Int) :: natsI (j :: is)).zip (natsI (j :: is)) = ((i : Int), (j : Int)) :: (natsI (j :: is)).zip (natsI (j :: is)).tail := rfl
      rw [z, List.all_cons, Bool.and_eq_true]
      refine ⟨decide_eq_true ?_, h1.2.2⟩
      show (ckAt cs (i : Int)).2.1 = (ckAt cs (j : Int)).1
      rw [k1]; exact h2.symm
    · show (ckAt cs (i : Int)).1 = a
      rw [k1]; exact e2
    · have e : lastI (natsI (i :: j :: is)) = lastI (natsI (j :: is)) := by unfold lastI natsI; simp [List.getLast?_cons]
      rw [e]; exact h3
theorem sumI_nats (cs : List Chk) : ∀ {r : List Nat} {a b : End}, Lk cs a r b → sumI cs (natsI r) = sumC cs r
  | [], _, _, _ => rfl
  | i :: is, a, b, ⟨c, e1, e2, l⟩ => by
    rw [sumC_cons, num_of e1]
    show (ckAt cs (i : Int)).2.2 + sumI cs (natsI is) = _
    rw [(ckAt_nat e1).1, sumI_nats cs l]
theorem numAt_map {fs : List Str} {f : End → Int} {e : End} (h : e ∈ endsOf fs) : numAt (fs.map fun x => (x, f (some x) - f none)) e = f e - f none := by
  cases e with
  | none => show (0 : Int) = _; omega
  | some x => rw [numAt_some, getA_map (fun x => f (some x) - f none) (mem_endsOf.mp h x rfl)]; rfl
theorem endsOf_nd {fs : List Str} (h : fs.Nodup) : (endsOf fs).Nodup := by
  unfold endsOf
  rw [List.nodup_append]
  refine ⟨?_, by simp, fun x hx y hy => ?_⟩
  · rw [List.nodup_iff_pairwise_ne, List.pairwise_map]
    exact h.imp fun h q => h (Option.some.inj q)
  · obtain ⟨z, _, rfl⟩ := List.mem_map.mp hx
    have : y = none := by simpa using hy
    rw [this]
    exact fun q => by cases q
theorem ent_len {fs : List Str} {cs : List Chk} (hf : fs.length ≤ 6) {p : End × End} {v : Int × List Nat} (h : getA (chainsE (endsOf fs) cs).tab p = some v) : v.2.length ≤ 128 := by
  have z0 : Szd (0 + cs.zipIdx.length) 1 (beginE cs) := Szd.begin ⟨Nat.le_refl _, fun p v q => by cases q⟩
  have := (Szd.steps (ends := endsOf fs) (endsOf fs) z0).ent p v h
  have h2 : 2 ^ (endsOf fs).length ≤ 2 ^ 7 := Nat.pow_le_pow_right (by decide) (by rw [endsOf_len]; omega)
  omega
theorem full_k {fs : List Str} {cs : List Chk} (hc : Cks fs cs) (hr : (chainsE (endsOf fs) cs).ring = none) : Full (endsOf fs) cs (chainsE (endsOf fs) cs) := full_of hc.ends hr
theorem nums_k {fs : List Str} {cs : List Chk} (hc : Cks fs cs) : ∀ c ∈ cs, -100 ≤ c.2.2 ∧ c.2.2 ≤ 100 := fun c h => chk_num (hc.ok c h)
theorem numAt_of {fs : List Str} (hf : Fld fs) {f : End → Int} {e : End} (h : e ∈ endsOf fs) : numAt (thingOf (endsOf fs) f) e = f e - f none := by rw [thingOf_ends hf.nd]; exact numAt_map h
theorem keys_of {fs : List Str} (hf : Fld fs) (f : End → Int) : (thingOf (endsOf fs) f).map (·.1) = fs := by rw [thingOf_ends hf.nd, List.map_map]; exact List.map_id' fs
/-- a kind that a thing fits has no ring -/
theorem ring_of_thing {fs : List Str} {cs : List Chk} {th : Thing} (h : ∀ c ∈ cs, soB th c = true) : (chainsE (endsOf fs) cs).ring = none := ring_none_of_pot (p := numAt th) fun c hc => of_decide_eq_true (h c hc)
/-- going round finds the least sums -/
theorem goes_k {fs : List Str} {cs : List Chk} (hc : Cks fs cs) (hr : (chainsE (endsOf fs) cs).ring = none) {a : End} (ha : a ∈ endsOf fs) : ∃ r, goes cs (fs.length + 2) a = some r ∧ ∀ b ∈ endsOf fs, getA r b = dist (chainsE (endsOf fs) cs) a b := by
  have F := full_k hc hr
  obtain ⟨r, hr'⟩ := goes_some F.pot (V := endsOf fs) F.ends ha (n := fs.length + 2) (by rw [endsOf_len]; omega)
  exact ⟨r, hr', fun b hb => F.goes hr' ha hb⟩
/-! ### things whose fields are set -/
theorem numAt_put (th : Thing) (x : Str) (n : Int) (e : End) : numAt (putA th x n) e = if e = some x then n else numAt th e := by
  cases e with
  | none => simp [numAt]
  | some y =>
    rw [numAt_some, numAt_some, getA_putA]
    by_cases z : y = x
    · subst z; simp
    · have z' : ¬ (some y : End) = some x := fun q => z (Option.some.inj q)
      rw [if_neg z, if_neg z']
theorem IsTh.put {fs : List Str} {th : Thing} (h : IsTh fs th) (x : Str) (n : Int) : IsTh fs (putA th x n) := fun y hy => by
  rw [getA_putA]
  by_cases z : y = x
  · exact ⟨n, by rw [if_pos z]⟩
  · rw [if_neg z]; exact h y hy
theorem IsTh.get {fs : List Str} {th : Thing} (h : IsTh fs th) {x : Str} (hx : x ∈ fs) : getA th x = some (numAt th (some x)) := by
  obtain ⟨n, hn⟩ := h x hx
  rw [numAt_some, hn]; rfl
theorem IsTh.look {fs : List Str} {th : Thing} (h : IsTh fs th) {x : Str} (hx : x ∈ fs) : look (tL th) x = some (.int (numAt th (some x))) := by
  rw [look_tL, h.get hx]; rfl
theorem putA_keys {th : Thing} {x : Str} (h : x ∈ th.map (·.1)) (n : Int) : (putA th x n).map (·.1) = th.map (·.1) := by
  unfold putA
  have e : (th.any fun p => decide (p.1 = x)) = true := by
    obtain ⟨p, hp, e⟩ := List.mem_map.mp h
    exact List.any_eq_true.mpr ⟨p, hp, decide_eq_true e⟩
  rw [if_pos e, List.map_map]
  refine List.map_congr_left fun p _ => ?_
  show (if p.1 = x then (p.1, n) else p).1 = p.1
  split <;> rfl
theorem IsTh.keys {fs : List Str} {th : Thing} (h : IsTh fs th) {x : Str} (hx : x ∈ fs) : x ∈ th.map (·.1) := by
  obtain ⟨n, hn⟩ := h x hx
  exact getA_some_iff.mp (by rw [hn]; rfl)
theorem fw_pot {cs : List Chk} {th : Thing} : fw cs th = none ↔ Pot cs (numAt th) := by
  rw [fw_none_iff]
  exact ⟨fun h c hc => of_decide_eq_true (h c hc), fun h c hc => decide_eq_true (h c hc)⟩
/-- a thing of the fields, in any order -/
def Tg (fs : List Str) (th : Thing) : Prop := (th.map (·.1)).Perm fs
theorem Tg.th {fs : List Str} {th : Thing} (h : Tg fs th) : IsTh fs th := fun x hx => (getA_of_keys (h.mem_iff.mpr hx)).imp fun n h => h.1
theorem Tg.put {fs : List Str} {th : Thing} (h : Tg fs th) {x : Str} (hx : x ∈ fs) (n : Int) : Tg fs (putA th x n) := by
  unfold Tg
  rw [putA_keys (h.mem_iff.mpr hx)]; exact h
theorem Tg.len {fs : List Str} {th : Thing} (h : Tg fs th) : th.length = fs.length := by have := h.length_eq; rwa [List.length_map] at this
theorem Tg.nd {fs : List Str} {th : Thing} (h : Tg fs th) (n : fs.Nodup) : (th.map (·.1)).Nodup := h.nodup_iff.mpr n
theorem getA_nd {th : Thing} : ∀ (n : (th.map (·.1)).Nodup) {p : Str × Int}, p ∈ th → getA th p.1 = some p.2 := by
  induction th with
  | nil => intro _ p hp; cases hp
  | cons q th ih =>
    intro n p hp
    rw [List.map_cons, List.nodup_cons] at n
    rw [getA_cons]
    rcases List.mem_cons.mp hp with e | hp
    · subst e; rw [if_pos rfl]
    · have z : ¬ q.1 = p.1 := fun e => n.1 (by rw [e]; exact List.mem_map_of_mem (f := (·.1)) hp)
      rw [if_neg z]; exact ih n.2 hp
theorem eqTh_of {fs : List Str} {a b : Thing} (ha : Tg fs a) (hb : Tg fs b) (nd : fs.Nodup) (h : ∀ x ∈ fs, numAt a (some x) = numAt b (some x)) : eqTh a b = true := by
  unfold eqTh
  rw [Bool.and_eq_true, decide_eq_true_eq, List.all_eq_true]
  refine ⟨by rw [ha.len, hb.len], fun p hp => decide_eq_true ?_⟩
  have hx : p.1 ∈ fs := ha.mem_iff.mp (List.mem_map_of_mem (f := (·.1)) hp)
  have e1 := getA_nd (ha.nd nd) hp
  rw [hb.th.get hx, ← h _ hx, numAt_some, e1]; rfl
theorem eqTh_self {fs : List Str} {a : Thing} (ha : Tg fs a) (nd : fs.Nodup) : eqTh a a = true := eqTh_of ha ha nd fun _ _ => rfl
theorem eqTh_num {a b : Thing} (h : eqTh a b = true) {fs : List Str} (ha : Tg fs a) (nd : fs.Nodup) {x : Str} (hx : x ∈ fs) : numAt a (some x) = numAt b (some x) := by
  unfold eqTh at h
  rw [Bool.and_eq_true, List.all_eq_true] at h
  have e := ha.th.get hx
  have := of_decide_eq_true (h.2 _ (getA_mem e))
  rw [numAt_some (th := b), this]; rfl
/-! ### sets that lead on -/
inductive Way (fs : List Str) (cs : List Chk) (lo hi : Str → Int) (th0 : Thing) : List (Str × Int) → Thing → Prop
  | nil : Way fs cs lo hi th0 [] th0
  | snoc {sets : List (Str × Int)} {th : Thing} {x : Str} {n : Int} : Way fs cs lo hi th0 sets th → x ∈ fs → numAt th (some x) ≠ n → lo x ≤ n → n ≤ hi x → Pot cs (numAt (putA th x n)) → Way fs cs lo hi th0 (sets ++ [(x, n)]) (putA th x n)
theorem Way.tg {fs : List Str} {cs : List Chk} {lo hi : Str → Int} {th0 th : Thing} {sets : List (Str × Int)} (w : Way fs cs lo hi th0 sets th) (h : Tg fs th0) : Tg fs th := by
  induction w with
  | nil => exact h
  | snoc _ hx _ _ _ _ ih => exact ih.put hx _
def goB (fs : List Str) (cs : List Chk) (lo hi : Str → Int) (here : Thing) (x : Str) (n : Int) : Bool := ((decide (x ∈ fs) && !decide (numAt here (some x) = n)) && (decide (lo x ≤ n) && decide (n ≤ hi x))) && (fw cs (putA here x n)).isNone
def runB (fs : List Str) (cs : List Chk) (lo hi : Str → Int) : Thing → List (Str × Int) → Option Thing
  | here, [] => some here
  | here, q :: r => if goB fs cs lo hi here q.1 q.2 then runB fs cs lo hi (putA here q.1 q.2) r else none
theorem runB_snoc (fs : List Str) (cs : List Chk) (lo hi : Str → Int) (q : Str × Int) : ∀ (sets : List (Str × Int)) (here : Thing), runB fs cs lo hi here (sets ++ [q]) = (runB fs cs lo hi here sets).bind fun h => if goB fs cs lo hi h q.1 q.2 then some (putA h q.1 q.2) else none
  | [], here => rfl
  | p :: sets, here => by
    show (if goB fs cs lo hi here p.1 p.2 then runB fs cs lo hi (putA here p.1 p.2) (sets ++ [q]) else none) = (if goB fs cs lo hi here p.1 p.2 then runB fs cs lo hi (putA here p.1 p.2) sets else none).bind _
    split
    · exact runB_snoc fs cs lo hi q sets _
    · rfl
theorem Way.run {fs : List Str} {cs : List Chk} {lo hi : Str → Int} {th0 th : Thing} {sets : List (Str × Int)} (w : Way fs cs lo hi th0 sets th) : runB fs cs lo hi th0 sets = some th := by
  induction w with
  | nil => rfl
  | @snoc sets th x n _ hx hn h1 h2 hp ih =>
    rw [runB_snoc, ih]
    have z : goB fs cs lo hi th x n = true := by
      unfold goB
      rw [fw_pot.mpr hp]
      simp [hx, hn, h1, h2]
    show (if goB fs cs lo hi th x n = true then _ else _) = _
    rw [if_pos z]
theorem run_way {fs : List Str} {cs : List Chk} {lo hi : Str → Int} {th0 : Thing} : ∀ (sets : List (Str × Int)) (pre : List (Str × Int)) (h th : Thing), Way fs cs lo hi th0 pre h → runB fs cs lo hi h sets = some th → Way fs cs lo hi th0 (pre ++ sets) th
  | [], pre, h, th, w, e => by cases e; rw [List.append_nil]; exact w
  | q :: sets, pre, h, th, w, e => by
    have e : (if goB fs cs lo hi h q.1 q.2 then runB fs cs lo hi (putA h q.1 q.2) sets else none) = some th := e
    by_cases z : goB fs cs lo hi h q.1 q.2 = true
    · rw [if_pos z] at e
      have z2 := z
      unfold goB at z2
      simp only [Bool.and_eq_true, decide_eq_true_eq, Bool.not_eq_true', decide_eq_false_iff_not, Option.isNone_iff_eq_none] at z2
      have := run_way sets (pre ++ [q]) _ th (Way.snoc w z2.1.1.1 z2.1.1.2 z2.1.2.1 z2.1.2.2 (fw_pot.mp z2.2)) e
      rwa [List.append_assoc] at this
    · rw [if_neg z] at e; cases e
def loN (a b : Thing) (x : Str) : Int := if numAt b (some x) < numAt a (some x) then numAt b (some x) else numAt a (some x)
def hiN (a b : Thing) (x : Str) : Int := if numAt b (some x) > numAt a (some x) then numAt b (some x) else numAt a (some x)
def ledB (fs : List Str) (cs : List Chk) (a b : Thing) (sets : List (Str × Int)) : Bool := match runB fs cs (loN a b) (hiN a b) a sets with
  | none => false
  | some h => eqTh h b
/-! ### ends bound by a ring of sum 0 -/
def tieB (s : Cs End) (f e : End) : Bool := !decide (e = f) && (match dist s f e, dist s e f with
  | some x, some y => decide (x + y = 0)
  | _, _ => false)
def cnt (s : Cs End) (a b : End) : List Nat := ((getA s.tab (a, b)).map (·.2)).getD []
def bindE (es : List End) (s : Cs End) (f : End) : Option (List Nat) := (es.find? (tieB s f)).map fun e => cnt s f e ++ cnt s e f
theorem tieB_of {s : Cs End} {f e : End} (h : tieB s f e = true) : e ≠ f ∧ ∃ u v, getA s.tab (f, e) = some u ∧ getA s.tab (e, f) = some v ∧ u.1 + v.1 = 0 := by
  unfold tieB at h
  rw [Bool.and_eq_true] at h
  obtain ⟨h1, h2⟩ := h
  have hne : e ≠ f := by simpa using h1
  refine ⟨hne, ?_⟩
  rw [dist_ne _ (Ne.symm hne), dist_ne _ hne] at h2
  cases e1 : getA s.tab (f, e) with
  | none => rw [e1] at h2; simp at h2
  | some u =>
    cases e2 : getA s.tab (e, f) with
    | none => rw [e1, e2] at h2; simp at h2
    | some v =>
      rw [e1, e2] at h2
      exact ⟨u, v, rfl, rfl, of_decide_eq_true h2⟩
theorem tieB_mk {s : Cs End} {f e : End} {x y : Int} (hne : e ≠ f) (h1 : dist s f e = some x) (h2 : dist s e f = some y) (h : x + y = 0) : tieB s f e = true := by
  unfold tieB
  rw [h1, h2]
  simp [hne, h]
/-! ### fields lowered and raised -/
def lowF (cs : List Chk) (th : Thing) (x : Str) : Option Int := maxO ((cs.filter fun c => decide (c.2.1 = some x)).map fun c => numAt th c.1 - c.2.2)
def highF (cs : List Chk) (th : Thing) (x : Str) : Option Int := minO ((cs.filter fun c => decide (c.1 = some x)).map fun c => numAt th c.2.1 + c.2.2)
def lowN (cs : List Chk) (th : Thing) (g : Int) (x : Str) : Int := match lowF cs th x with
  | none => g
  | some m => if m > g then m else g
def highN (cs : List Chk) (th : Thing) (g : Int) (x : Str) : Int := match highF cs th x with
  | none => g
  | some m => if m < g then m else g
abbrev Sq := Thing × List (Str × Int)
def lowS (cs : List Chk) (goal : Thing) (q : Sq) (x : Str) : Sq := if lowN cs q.1 (numAt goal (some x)) x < numAt q.1 (some x) then (putA q.1 x (lowN cs q.1 (numAt goal (some x)) x), q.2 ++ [(x, lowN cs q.1 (numAt goal (some x)) x)]) else q
def upS (cs : List Chk) (goal : Thing) (q : Sq) (x : Str) : Sq := if numAt q.1 (some x) < highN cs q.1 (numAt goal (some x)) x then (putA q.1 x (highN cs q.1 (numAt goal (some x)) x), q.2 ++ [(x, highN cs q.1 (numAt goal (some x)) x)]) else q
def mu (fs : List Str) (goal th : Thing) : Nat := (fs.map fun x => (numAt th (some x) - numAt goal (some x)).natAbs).sum
theorem sum_lt {α : Type} {f g : α → Nat} : ∀ {l : List α}, (∀ y ∈ l, f y ≤ g y) → (∃ x ∈ l, f x < g x) → (l.map f).sum < (l.map g).sum
  | [], _, ⟨x, h, _⟩ => nomatch h
  | a :: l, hle, ⟨x, hx, hlt⟩ => by
    have mono : ∀ l' : List α, (∀ y ∈ l', f y ≤ g y) → (l'.map f).sum ≤ (l'.map g).sum := by
      intro l'
      induction l' with
      | nil => intro _; exact Nat.le_refl _
      | cons b l' ih =>
        intro h
        have := ih fun y hy => h y (List.mem_cons_of_mem _ hy)
        have := h b List.mem_cons_self
        simp only [List.map_cons, List.sum_cons]; omega
    have ha := hle a List.mem_cons_self
    simp only [List.map_cons, List.sum_cons]
    rcases List.mem_cons.mp hx with e | hx
    · subst e
      have := mono l fun y hy => hle y (List.mem_cons_of_mem _ hy)
      omega
    · have := sum_lt (l := l) (fun y hy => hle y (List.mem_cons_of_mem _ hy)) ⟨x, hx, hlt⟩
      omega
theorem sum_le {α : Type} {f : α → Nat} {k : Nat} : ∀ {l : List α}, (∀ y ∈ l, f y ≤ k) → (l.map f).sum ≤ k * l.length
  | [], _ => by simp
  | a :: l, h => by
    have := sum_le (l := l) fun y hy => h y (List.mem_cons_of_mem _ hy)
    have := h a List.mem_cons_self
    simp only [List.map_cons, List.sum_cons, List.length_cons, Nat.mul_add]; omega
theorem mu_put {fs : List Str} {goal th : Thing} {x : Str} {n : Int} (hx : x ∈ fs) (h : (n - numAt goal (some x)).natAbs < (numAt th (some x) - numAt goal (some x)).natAbs) : mu fs goal (putA th x n) < mu fs goal th := by
  refine sum_lt (fun y hy => ?_) ⟨x, hx, ?_⟩
  · rw [numAt_put]
    by_cases z : (some y : End) = some x
    · rw [if_pos z]; cases z; omega
    · rw [if_neg z]; exact Nat.le_refl _
  · rw [numAt_put, if_pos rfl]; exact h
/-- what stays so while fields are set -/
structure Mv (fs : List Str) (cs : List Chk) (lo hi : Str → Int) (th0 : Thing) (q : Sq) : Prop where
  way : Way fs cs lo hi th0 q.2 q.1
  pot : Pot cs (numAt q.1)
  isth : IsTh fs q.1
theorem low_step {fs : List Str} {cs : List Chk} {lo hi : Str → Int} {th0 goal : Thing} {B : Nat} (hc : Cks fs cs) (hlo : ∀ x ∈ fs, lo x ≤ numAt goal (some x)) {q : Sq} (M : Mv fs cs lo hi th0 q) (hge : ∀ x ∈ fs, numAt goal (some x) ≤ numAt q.1 (some x)) (hhi : ∀ x ∈ fs, numAt q.1 (some x) ≤ hi x) (hB : q.2.length + mu fs goal q.1 ≤ B) {x : Str} (hx : x ∈ fs) :
    (Mv fs cs lo hi th0 (lowS cs goal q x) ∧ (∀ y ∈ fs, numAt goal (some y) ≤ numAt (lowS cs goal q x).1 (some y)) ∧ (∀ y ∈ fs, numAt (lowS cs goal q x).1 (some y) ≤ hi y) ∧ (lowS cs goal q x).2.length + mu fs goal (lowS cs goal q x).1 ≤ B) ∧ (lowS cs goal q x = q ∨ mu fs goal (lowS cs goal q x).1 < mu fs goal q.1) := by
  unfold lowS
  generalize hn : lowN cs q.1 (numAt goal (some x)) x = n
  by_cases z : n < numAt q.1 (some x)
  · rw [if_pos z]
    have hg : numAt goal (some x) ≤ n := by
      rw [← hn]; unfold lowN
      split
      · exact Int.le_refl _
      · split <;> omega
    have hm : ∀ c ∈ cs, c.2.1 = some x → numAt q.1 c.1 - c.2.2 ≤ n := fun c hc' e => by
      have hmem : numAt q.1 c.1 - c.2.2 ∈ (cs.filter fun c => decide (c.2.1 = some x)).map fun c => numAt q.1 c.1 - c.2.2 := List.mem_map.mpr ⟨c, List.mem_filter.mpr ⟨hc', decide_eq_true e⟩, rfl⟩
      rw [← hn]; unfold lowN
      cases e2 : lowF cs q.1 x with
      | none => unfold lowF at e2; rw [maxO_none e2] at hmem; cases hmem
      | some m =>
        have := (maxO_mem (show maxO _ = some m from e2)).2 _ hmem
        show _ ≤ if m > numAt goal (some x) then m else numAt goal (some x)
        split <;> omega
    have hp : Pot cs (numAt (putA q.1 x n)) := fun c hc' => by
      have h0 := M.pot c hc'
      have h1 := (hc.ends c hc').2.2
      rw [numAt_put, numAt_put]
      by_cases a : c.1 = some x
      · have b : ¬ c.2.1 = some x := fun b => h1 (a.trans b.symm)
        rw [if_pos a, if_neg b]
        rw [a] at h0; omega
      · rw [if_neg a]
        by_cases b : c.2.1 = some x
        · rw [if_pos b]
          have := hm c hc' b; omega
        · rw [if_neg b]; exact h0
    have hmu : mu fs goal (putA q.1 x n) < mu fs goal q.1 := mu_put hx (by omega)
    have hh := hhi x hx
    have hl := hlo x hx
    refine ⟨⟨⟨M.way.snoc hx (by omega) (by omega) (by omega) hp, hp, M.isth.put x n⟩, fun y hy => ?_, fun y hy => ?_, ?_⟩, .inr hmu⟩
    · rw [numAt_put]
      by_cases a : (some y : End) = some x
      · rw [if_pos a]; cases a; exact hg
      · rw [if_neg a]; exact hge y hy
    · rw [numAt_put]
      by_cases a : (some y : End) = some x
      · rw [if_pos a]; cases a; omega
      · rw [if_neg a]; exact hhi y hy
    · have hmu : mu fs goal ((putA q.1 x n, q.2 ++ [(x, n)]) : Sq).1 < mu fs goal q.1 := hmu
      rw [List.length_append]
      show q.2.length + 1 + _ ≤ B
      omega
  · rw [if_neg z]
    exact ⟨⟨M, hge, hhi, hB⟩, .inl rfl⟩
theorem up_step {fs : List Str} {cs : List Chk} {lo hi : Str → Int} {th0 goal : Thing} {B : Nat} (hc : Cks fs cs) (hhi : ∀ x ∈ fs, numAt goal (some x) ≤ hi x) {q : Sq} (M : Mv fs cs lo hi th0 q) (hle : ∀ x ∈ fs, numAt q.1 (some x) ≤ numAt goal (some x)) (hlo : ∀ x ∈ fs, lo x ≤ numAt q.1 (some x)) (hB : q.2.length + mu fs goal q.1 ≤ B) {x : Str} (hx : x ∈ fs) :
    (Mv fs cs lo hi th0 (upS cs goal q x) ∧ (∀ y ∈ fs, numAt (upS cs goal q x).1 (some y) ≤ numAt goal (some y)) ∧ (∀ y ∈ fs, lo y ≤ numAt (upS cs goal q x).1 (some y)) ∧ (upS cs goal q x).2.length + mu fs goal (upS cs goal q x).1 ≤ B) ∧ (upS cs goal q x = q ∨ mu fs goal (upS cs goal q x).1 < mu fs goal q.1) := by
  unfold upS
  generalize hn : highN cs q.1 (numAt goal (some x)) x = n
  by_cases z : numAt q.1 (some x) < n
  · rw [if_pos z]
    have hg : n ≤ numAt goal (some x) := by
      rw [← hn]; unfold highN
      split
      · exact Int.le_refl _
      · split <;> omega
    have hm : ∀ c ∈ cs, c.1 = some x → n ≤ numAt q.1 c.2.1 + c.2.2 := fun c hc' e => by
      have hmem : numAt q.1 c.2.1 + c.2.2 ∈ (cs.filter fun c => decide (c.1 = some x)).map fun c => numAt q.1 c.2.1 + c.2.2 := List.mem_map.mpr ⟨c, List.mem_filter.mpr ⟨hc', decide_eq_true e⟩, rfl⟩
      rw [← hn]; unfold highN
      cases e2 : highF cs q.1 x with
      | none => unfold highF at e2; rw [minO_none e2] at hmem; cases hmem
      | some m =>
        have := (minO_mem (show minO _ = some m from e2)).2 _ hmem
        show (if m < numAt goal (some x) then m else numAt goal (some x)) ≤ _
        split <;> omega
    have hp : Pot cs (numAt (putA q.1 x n)) := fun c hc' => by
      have h0 := M.pot c hc'
      have h1 := (hc.ends c hc').2.2
      rw [numAt_put, numAt_put]
      by_cases a : c.1 = some x
      · have b : ¬ c.2.1 = some x := fun b => h1 (a.trans b.symm)
        rw [if_pos a, if_neg b]
        have := hm c hc' a; omega
      · rw [if_neg a]
        by_cases b : c.2.1 = some x
        · rw [if_pos b]
          rw [b] at h0; omega
        · rw [if_neg b]; exact h0
    have hmu : mu fs goal (putA q.1 x n) < mu fs goal q.1 := mu_put hx (by omega)
    have hh := hhi x hx
    have hl := hlo x hx
    refine ⟨⟨⟨M.way.snoc hx (by omega) (by omega) (by omega) hp, hp, M.isth.put x n⟩, fun y hy => ?_, fun y hy => ?_, ?_⟩, .inr hmu⟩
    · rw [numAt_put]
      by_cases a : (some y : End) = some x
      · rw [if_pos a]; cases a; exact hg
      · rw [if_neg a]; exact hle y hy
    · rw [numAt_put]
      by_cases a : (some y : End) = some x
      · rw [if_pos a]; cases a; omega
      · rw [if_neg a]; exact hlo y hy
    · have hmu : mu fs goal ((putA q.1 x n, q.2 ++ [(x, n)]) : Sq).1 < mu fs goal q.1 := hmu
      rw [List.length_append]
      show q.2.length + 1 + _ ≤ B
      omega
  · rw [if_neg z]
    exact ⟨⟨M, hle, hlo, hB⟩, .inl rfl⟩
/-- a pass: nothing is changed, or all is nearer -/
theorem pass_prog {α σ : Type} {I : σ → Prop} {step : σ → α → σ} {m : σ → Nat} {all : List α} (h : ∀ q, I q → ∀ x ∈ all, I (step q x) ∧ (step q x = q ∨ m (step q x) < m q)) : ∀ (l : List α), (∀ x ∈ l, x ∈ all) → ∀ q, I q → I (l.foldl step q) ∧ ((l.foldl step q = q ∧ ∀ x ∈ l, step q x = q) ∨ m (l.foldl step q) < m q)
  | [], _, q, i => ⟨i, .inl ⟨rfl, fun x hx => nomatch hx⟩⟩
  | a :: l, hl, q, i => by
    obtain ⟨i1, h1⟩ := h q i a (hl a List.mem_cons_self)
    obtain ⟨i2, h2⟩ := pass_prog h l (fun x hx => hl x (List.mem_cons_of_mem _ hx)) (step q a) i1
    refine ⟨i2, ?_⟩
    rw [List.foldl_cons]
    rcases h1 with e | e
    · rw [e] at h2 ⊢
      rcases h2 with ⟨e2, h3⟩ | h2
      · exact .inl ⟨e2, fun x hx => by
          rcases List.mem_cons.mp hx with r | r
          · rw [r]; exact e
          · exact h3 x r⟩
      · exact .inr h2
    · rcases h2 with ⟨e2, h3⟩ | h2
      · rw [e2]; exact .inr e
      · exact .inr (Nat.lt_trans h2 e)
/-- no field whose bounds differ is bound -/
def Unb (fs : List Str) (s : Cs End) (lo hi : Str → Int) : Prop := ∀ x ∈ fs, lo x < hi x → ∀ e ∈ endsOf fs, tieB s (some x) e = false
theorem low_done {fs : List Str} {cs : List Chk} {lo hi : Str → Int} {th0 goal : Thing} {s : Cs End} (F : Full (endsOf fs) cs s) (hc : Cks fs cs) (hlo : ∀ x ∈ fs, lo x ≤ numAt goal (some x)) (hgp : Pot cs (numAt goal)) {q : Sq} (M : Mv fs cs lo hi th0 q) (hge : ∀ x ∈ fs, numAt goal (some x) ≤ numAt q.1 (some x)) (hhi : ∀ x ∈ fs, numAt q.1 (some x) ≤ hi x) (hu : Unb fs s lo hi) (hst : ∀ x ∈ fs, lowS cs goal q x = q) : ∀ x ∈ fs, numAt q.1 (some x) = numAt goal (some x) := by
  intro x hx
  by_cases z : numAt q.1 (some x) = numAt goal (some x)
  · exact z
  exfalso
  have dn : ∀ {e : End}, decide (numAt goal e < numAt q.1 e) = true → ∃ y, e = some y := fun {e} h => by
    cases e with
    | none => have h := of_decide_eq_true h; exact absurd h (Int.lt_irrefl 0)
    | some y => exact ⟨y, rfl⟩
  have hD : ∀ f ∈ endsOf fs, decide (numAt goal f < numAt q.1 f) = true → ∃ c ∈ cs, c.2.1 = f ∧ c.1 ≠ f ∧ decide (numAt goal c.1 < numAt q.1 c.1) = true ∧ numAt q.1 c.1 - numAt q.1 f = c.2.2 := by
    intro f hf hd
    obtain ⟨y, rfl⟩ := dn hd
    have hd := of_decide_eq_true hd
    have hy : y ∈ fs := mem_endsOf.mp hf y rfl
    have h1 := hst y hy
    unfold lowS at h1
    by_cases a : lowN cs q.1 (numAt goal (some y)) y < numAt q.1 (some y)
    · rw [if_pos a] at h1
      have := congrArg (fun r : Sq => r.2.length) h1
      simp at this
    · unfold lowN at a
      cases e2 : lowF cs q.1 y with
      | none => rw [e2] at a; exact absurd hd a
      | some m =>
        rw [e2] at a
        have a : ¬ (if m > numAt goal (some y) then m else numAt goal (some y)) < numAt q.1 (some y) := a
        have hm : numAt q.1 (some y) ≤ m := by split at a <;> omega
        obtain ⟨h3, _⟩ := maxO_mem (show maxO _ = some m from e2)
        obtain ⟨c, hc', e3⟩ := List.mem_map.mp h3
        obtain ⟨hc', e4⟩ := List.mem_filter.mp hc'
        have e4 := of_decide_eq_true e4
        have e3 : numAt q.1 c.1 - c.2.2 = m := e3
        have p1 := M.pot c hc'
        have p2 := hgp c hc'
        rw [e4] at p1 p2
        refine ⟨c, hc', e4, fun e => (hc.ends c hc').2.2 (e.trans e4.symm), decide_eq_true (by omega), by omega⟩
  have hlt : numAt goal (some x) < numAt q.1 (some x) := by have := hge x hx; omega
  obtain ⟨f', hf', d', e, he, hne, u, v, h1, h2, h3⟩ := stuck F M.pot (fun e => decide (numAt goal e < numAt q.1 e)) hD _ (some x) (mem_endsOf.mpr fun y e => by cases e; exact hx) (decide_eq_true hlt) (Nat.le_refl _)
  obtain ⟨y, rfl⟩ := dn d'
  have d' := of_decide_eq_true d'
  have hy : y ∈ fs := mem_endsOf.mp hf' y rfl
  have := hu y hy (by have := hlo y hy; have := hhi y hy; omega) e he
  rw [tieB_mk hne h1 h2 h3] at this
  cases this
theorem up_done {fs : List Str} {cs : List Chk} {lo hi : Str → Int} {th0 goal : Thing} {s : Cs End} (F : Full (endsOf fs) cs s) (hc : Cks fs cs) (hhi : ∀ x ∈ fs, numAt goal (some x) ≤ hi x) (hgp : Pot cs (numAt goal)) {q : Sq} (M : Mv fs cs lo hi th0 q) (hle : ∀ x ∈ fs, numAt q.1 (some x) ≤ numAt goal (some x)) (hlo : ∀ x ∈ fs, lo x ≤ numAt q.1 (some x)) (hu : Unb fs s lo hi) (hst : ∀ x ∈ fs, upS cs goal q x = q) : ∀ x ∈ fs, numAt q.1 (some x) = numAt goal (some x) := by
  intro x hx
  by_cases z : numAt q.1 (some x) = numAt goal (some x)
  · exact z
  exfalso
  have dn : ∀ {e : End}, decide (numAt q.1 e < numAt goal e) = true → ∃ y, e = some y := fun {e} h => by
    cases e with
    | none => have h := of_decide_eq_true h; exact absurd h (Int.lt_irrefl 0)
    | some y => exact ⟨y, rfl⟩
  have hD : ∀ f ∈ endsOf fs, decide (numAt q.1 f < numAt goal f) = true → ∃ c ∈ cs, c.1 = f ∧ c.2.1 ≠ f ∧ decide (numAt q.1 c.2.1 < numAt goal c.2.1) = true ∧ numAt q.1 f - numAt q.1 c.2.1 = c.2.2 := by
    intro f hf hd
    obtain ⟨y, rfl⟩ := dn hd
    have hd := of_decide_eq_true hd
    have hy : y ∈ fs := mem_endsOf.mp hf y rfl
    have h1 := hst y hy
    unfold upS at h1
    by_cases a : numAt q.1 (some y) < highN cs q.1 (numAt goal (some y)) y
    · rw [if_pos a] at h1
      have := congrArg (fun r : Sq => r.2.length) h1
      simp at this
    · unfold highN at a
      cases e2 : highF cs q.1 y with
      | none => rw [e2] at a; exact absurd hd a
      | some m =>
        rw [e2] at a
        have a : ¬ numAt q.1 (some y) < (if m < numAt goal (some y) then m else numAt goal (some y)) := a
        have hm : m ≤ numAt q.1 (some y) := by split at a <;> omega
        obtain ⟨h3, _⟩ := minO_mem (show minO _ = some m from e2)
        obtain ⟨c, hc', e3⟩ := List.mem_map.mp h3
        obtain ⟨hc', e4⟩ := List.mem_filter.mp hc'
        have e4 := of_decide_eq_true e4
        have e3 : numAt q.1 c.2.1 + c.2.2 = m := e3
        have p1 := M.pot c hc'
        have p2 := hgp c hc'
        rw [e4] at p1 p2
        refine ⟨c, hc', e4, fun e => (hc.ends c hc').2.2 (e4.trans e.symm), decide_eq_true (by omega), by omega⟩
  have hlt : numAt q.1 (some x) < numAt goal (some x) := by have := hle x hx; omega
  obtain ⟨f', hf', d', e, he, hne, u, v, h1, h2, h3⟩ := stuckU F M.pot (fun e => decide (numAt q.1 e < numAt goal e)) hD _ (some x) (mem_endsOf.mpr fun y e => by cases e; exact hx) (decide_eq_true hlt) (Nat.le_refl _)
  obtain ⟨y, rfl⟩ := dn d'
  have d' := of_decide_eq_true d'
  have hy : y ∈ fs := mem_endsOf.mp hf' y rfl
  have := hu y hy (by have := hlo y hy; have := hhi y hy; omega) e he
  rw [tieB_mk hne h1 h2 h3] at this
  cases this
section
variable {P : Program} {w : World} {K : PySem.W.Frag} {Γ : Ev} {te : TE} {Nx : Ev → Prop} {Rt : T → Ev → Prop}
/-- a target of any sort takes one of several trees -/
theorem bd_asgXG {g : TG} (h : Ex P w te Γ fun t Γ' => ∃ Γ2, EdG P w g t Γ' Γ2 ∧ Nx Γ2) : Bd P w (tAsg te g) Γ Nx Rt := fun W σ G H E D qn qr =>
  h W σ G H E _ fun v t Γ1 G1 H1 s1 E1 i ⟨Γ2, hg, n⟩ => hg W σ G1 H1 E1 v i _ fun σ' E2 => qn σ' G1 H1 Γ2 s1 E2 n
end
end FK
set_option maxHeartbeats 4000000
/-! FM21: displayed dicts whose keys are texts -/
namespace FK
open PySem L2 PySem.Spec PyProof.Rows
section
variable {P : Program} {w : World} {K : PySem.W.Frag} {Γ Γ1 Γ2 Γ3 : Ev} {tk tv : TE} {t : T} {trs : List (TE × TE)} {kts : List (Str × T)} {x : Str}
def zipK (ks : List Str) (vs : List V) : List (Key × V) := (ks.zip vs).map fun p => ((Sum.inr p.1 : Key), p.2)
def EdP (P : Program) (w : World) (trs : List (TE × TE)) (Γ : Ev) (kts : List (Str × T)) (Γ' : Ev) : Prop :=
  ∀ W σ G H, Tenv P w W σ G H Γ → ∀ Q : List (V × V) → Hp → Prop, (∀ (vs : List V) G' H', Same G G' → Tenv P w W σ G' H' Γ' → IsAll P w G' vs (kts.map (·.2)) → Q ((zipK (kts.map (·.1)) vs).map fun kv => (kV kv.1, kv.2)) H') → tPairs trs σ H Q
theorem ep_nil : EdP P w [] Γ [] Γ := fun W σ G H E Q q => q [] G H (Same.refl _) E .nil
theorem ep_cons (hk : Ed P w tk Γ (.str x) Γ1) (hv : Ed P w tv Γ1 t Γ2) (hr : EdP P w trs Γ2 kts Γ3) : EdP P w ((tk, tv) :: trs) Γ ((x, t) :: kts) Γ3 := fun W σ G H E Q q =>
  hk W σ G H E _ fun vk G1 H1 s1 E1 ik => hv W σ G1 H1 E1 _ fun v G2 H2 s2 E2 iv => hr W σ G2 H2 E2 _ fun vs G3 H3 s3 E3 is => by
    cases ik
    exact q (v :: vs) G3 H3 (s1.trans (s2.trans s3)) E3 (.cons (iv.mono s3) is)
theorem merge_rel {G : Hp} : ∀ {kts : List (Str × T)} {vs : List V} {ps : List (Key × V)} {acc : List (Str × T)}, IsAll P w G vs (kts.map (·.2)) → ps.map (·.1) = acc.map (fun p => Sum.inr p.1) → IsAll P w G (ps.map (·.2)) (acc.map (·.2)) →
    (mergeK ps (zipK (kts.map (·.1)) vs)).map (·.1) = (kts.foldl (fun acc p => put acc p.1 p.2) acc).map (fun p => Sum.inr p.1) ∧ IsAll P w G ((mergeK ps (zipK (kts.map (·.1)) vs)).map (·.2)) ((kts.foldl (fun acc p => put acc p.1 p.2) acc).map (·.2))
  | [], vs, ps, acc, h, e, i => by
    cases h
    exact ⟨e, i⟩
  | q :: kts, vs, ps, acc, h, e, i => by
    cases h with
    | cons a b =>
      obtain ⟨r1, r2⟩ := put_own (H := G) (k := q.1) e i a
      exact merge_rel (kts := kts) b r1 r2
theorem put_newT {acc : List (Str × T)} {k : Str} {t : T} (h : k ∉ acc.map (·.1)) : put acc k t = acc ++ [(k, t)] := by
  unfold put
  rw [if_neg]
  intro q
  obtain ⟨p, hp, e⟩ := List.any_eq_true.mp q
  exact h (by rw [← of_decide_eq_true e]; exact List.mem_map_of_mem (f := (·.1)) hp)
theorem fold_new : ∀ (kts acc : List (Str × T)), (acc.map (·.1) ++ kts.map (·.1)).Nodup → kts.foldl (fun acc p => put acc p.1 p.2) acc = acc ++ kts
  | [], acc, _ => by simp
  | q :: kts, acc, n => by
    have h : q.1 ∉ acc.map (·.1) := fun z => (List.nodup_append.mp n).2.2 _ z _ (by simp) rfl
    rw [List.foldl_cons, put_newT h, fold_new kts (acc ++ [(q.1, q.2)]) (by simpa using n)]
    simp
theorem en_disp (h : ∀ p, EdP P w trs (Γ.push ⟨false, p, .dic []⟩) kts (Γ1.push ⟨false, p, .dic []⟩)) (hl : kts.length ≤ 15) (nd : (kts.map (·.1)).Nodup) : EdN P w (tDisp trs) Γ (.dic kts) Γ1 := fun W σ G H E Q q p hp => by
  have E0 : Tenv P w W σ G (upd H p (.dK [])) (Γ.push ⟨false, p, .dic []⟩) := E.pushNew hp ⟨[], upd_same, rfl, .nil⟩
  refine h p W σ G _ E0 _ fun vs G' H' s' E' is => ?_
  have hj : (Γ1.push ⟨false, p, .dic []⟩).g[Γ1.g.length]? = some ⟨false, p, .dic []⟩ := by
    show (Γ1.g ++ [_])[Γ1.g.length]? = _
    simp
  obtain ⟨_, ⟨ps, h1, h2, h3⟩, _⟩ := E'.gh _ (List.mem_of_getElem? hj)
  have hps : ps = [] := by
    cases ps with
    | nil => rfl
    | cons a b => simp at h2
  subst hps
  obtain ⟨r1, r2⟩ := merge_rel (P := P) (w := w) (G := G') (ps := []) (acc := []) is rfl .nil
  rw [fold_new kts [] (by simpa using nd), List.nil_append] at r1 r2
  refine ⟨h1, zipK (kts.map (·.1)) vs, rfl, ?_, ?_⟩
  · unfold zipK
    rw [List.length_map, List.length_zip, List.length_map]
    exact Nat.le_trans (Nat.min_le_left _ _) hl
  · have E2 := E'.mut (u := .dK (mergeK [] (zipK (kts.map (·.1)) vs))) (o' := .dic kts) hj ⟨_, upd_same, r1, r2⟩
    have e : (Γ1.push ⟨false, p, .dic []⟩).own Γ1.g.length ⟨false, p, .dic kts⟩ = Γ1.push ⟨false, p, .dic kts⟩ := by
      show (⟨Γ1.s, (Γ1.g ++ [_]).set Γ1.g.length _⟩ : Ev) = ⟨Γ1.s, Γ1.g ++ [_]⟩
      rw [List.set_append_right _ _ (Nat.le_refl _), Nat.sub_self]; rfl
    rw [e] at E2
    exact q p G' _ s' E2
end
end FK
set_option maxHeartbeats 4000000
/-! FM22: comprehensions whose iterable changes what is owned; zips; ways within bounds -/
namespace FK
open PySem L2 PySem.Spec PyProof.Rows
section
variable {P : Program} {w : World} {K : PySem.W.Frag} {Γ Γ1 Γ2 Γ3 : Ev} {ta te : TE} {t : T} {gt : TG} {tt : TT} {vs : List Nat}
theorem en_filtL1 {α : Type} {g : α → T} {xs : List α} (p : α → Bool) (h : α → T) (hi : Ed P w ta Γ (.lst (xs.map g)) Γ1) (hn : xs.length ≤ 100000) (hf : forget Γ1 vs = Γ1)
    (hs : ∀ x ∈ xs, ∃ Γa, EdV P w gt (g x) Γ1 Γa vs ∧ EdT P w tt Γa (p x) Γa ∧ (p x = true → Ed P w te Γa (h x) Γa) ∧ forget Γa vs = Γ1) :
    EdN P w (tLc (iList K ta) gt tt te vs) Γ (.lst ((xs.filter p).map h)) Γ1 := by
  rw [made_filt]
  have e : xs.length = (xs.map g).length := by rw [List.length_map]
  rw [e]
  refine en_lc (fun _ => Γ1) (filtY xs p h) (ei_list hi) (by rw [List.length_map]; exact hn) fun i hi' => ?_
  have hi2 : i < xs.length := by rw [List.length_map] at hi'; exact hi'
  obtain ⟨Γa, h1, h2, h3, h4⟩ := hs xs[i] (List.getElem_mem hi2)
  refine ⟨Γa, p xs[i], Γa, ?_, h2, fun z => ⟨h xs[i], Γa, ?_, h3 z, h4⟩, fun z => ⟨?_, h4⟩⟩
  · rw [hf, getD_map hi2]; exact h1
  · unfold filtY; rw [List.getElem?_eq_getElem hi2]; simp [z]
  · unfold filtY; rw [List.getElem?_eq_getElem hi2]; simp [z]
end
theorem zipA_at {α β : Type} {g : α → T} {h : β → T} {xs : List α} {ys : List β} {i : Nat} (hi : i < (xs.zip ys).length) : T.tup [(xs.map g).getD i .non, (ys.map h).getD i .non] = .tup [g (xs.zip ys)[i].1, h (xs.zip ys)[i].2] := by
  have h2 := hi
  rw [List.length_zip] at h2
  rw [getD_map (by omega : i < xs.length), getD_map (by omega : i < ys.length), List.getElem_zip]
theorem zipA_len {α β : Type} {g : α → T} {h : β → T} (xs : List α) (ys : List β) : min (xs.map g).length (ys.map h).length = (xs.zip ys).length := by rw [List.length_map, List.length_map, List.length_zip]
/-- each with the next one, the last with the first -/
def nextP {α : Type} (xs : List α) : List (α × α) := xs.zip (xs.tail ++ xs.take 1)
theorem nextP_mem {α : Type} {xs : List α} {q : α × α} (h : q ∈ nextP xs) : q.1 ∈ xs ∧ q.2 ∈ xs := by
  have := List.of_mem_zip h
  refine ⟨this.1, ?_⟩
  rcases List.mem_append.mp this.2 with m | m
  · exact List.mem_of_mem_tail m
  · exact List.mem_of_mem_take m
theorem nextP_ne {α : Type} {xs : List α} (nd : xs.Nodup) (hl : 1 < xs.length) {q : α × α} (h : q ∈ nextP xs) : q.1 ≠ q.2 := by
  obtain ⟨i, hi, e⟩ := List.mem_iff_getElem.mp h
  unfold nextP at hi e
  have hi2 := hi
  rw [List.length_zip] at hi2
  have h1 : i < xs.length := by omega
  rw [List.getElem_zip] at e
  subst e
  show xs[i] ≠ (xs.tail ++ xs.take 1)[i]'(by omega)
  intro e2
  by_cases z : i + 1 < xs.length
  · have e3 : (xs.tail ++ xs.take 1)[i]'(by omega) = xs[i + 1] := by
      rw [List.getElem_append_left (by rw [List.length_tail]; omega), List.getElem_tail]
    rw [e3] at e2
    have := (List.getElem_inj nd).mp e2
    omega
  · have e3 : (xs.tail ++ xs.take 1)[i]'(by omega) = xs[0] := by
      have hz : i - xs.tail.length = 0 := by rw [List.length_tail]; omega
      rw [List.getElem_append_right (by rw [List.length_tail]; omega)]
      simp only [hz, List.getElem_take]
    rw [e3] at e2
    have := (List.getElem_inj nd).mp e2
    omega
theorem Way.within {fs : List Str} {cs : List Chk} {lo hi : Str → Int} {th0 th : Thing} {sets : List (Str × Int)} (w : Way fs cs lo hi th0 sets th) (h : ∀ x ∈ fs, lo x ≤ numAt th0 (some x) ∧ numAt th0 (some x) ≤ hi x) : ∀ x ∈ fs, lo x ≤ numAt th (some x) ∧ numAt th (some x) ≤ hi x := by
  induction w with
  | nil => exact h
  | @snoc sets th x n _ hx _ h1 h2 _ ih =>
    intro y hy
    rw [numAt_put]
    by_cases z : (some y : End) = some x
    · rw [if_pos z]; cases z; exact ⟨h1, h2⟩
    · rw [if_neg z]; exact ih y hy
end FK
set_option maxHeartbeats 4000000
/-! FM23: d.get(k), keys None or texts; least sums of kinds that lead to one another -/
namespace FK
open PySem L2 PySem.Spec PyProof.Rows
def tNGet (P : Program) (w : World) (td ty : TE) : TE := fun σ H Q => td σ H fun x H1 => ∃ a, x = .ref a ∧ (∃ kvs, H1 a = some (NOb P w a kvs)) ∧ ty σ H1 fun y H2 => ∃ kvs k, H2 a = some (NOb P w a kvs) ∧ y = lV k ∧ Q ((valV kvs k).getD .non) H2
section
variable {X : Cx} {o e : Expr} {apos cpos : Pos} {td ty : TE}
theorem pe_nget (ho : PE X o td) (he : PE X e ty) (m : M1 X o "get" apos e cpos) : PE X (.Call (.Attribute o "get" apos) [e] [] cpos) (tNGet X.prog X.w td ty) := by
  refine ⟨fun pins s σ H Q I h => wpAny_Call_method m.base m.few m.line PySem.F.plainAttrs_dict PySem.F.slot_dict_get PySem.F.type_dict_get (thn (ho.run pins s σ H _ I h) fun u s1 ⟨x, H1, I1, rx, a, ex, d, q1⟩ => ?_)⟩
  subst ex
  obtain rfl : u = Value.ref a := rx
  obtain ⟨kvs0, d⟩ := d
  obtain ⟨z0, hd0, vs0, rel0, dd0⟩ := nob_get I1.hok (.inl d)
  have dd1 := dd0
  obtain ⟨ob, _, _, h1, h2, _⟩ := dd1
  refine ⟨dd0.typeIs, (fun b q => by cases q; exact ⟨ob, h1, h2.2.1⟩), ?_⟩
  rw [m.trees]
  refine Calls.callWith_builtin rfl (Calls.evalArgs_plain (Calls.spliced_cons (thn (he.run pins s1 σ H1 _ I1 q1) fun iv s2 ⟨y, H2, I2, ry, kvs, k, e2, ey, q2⟩ => Calls.spliced_nil ?_)))
  subst ey
  obtain ⟨z, hd, vs, rel, dd⟩ := nob_get I2.hok (.inl e2)
  exact call_meetsIn PySem.F.slot_dict_get dd.typeIs PySem.F.entry_dict_get (PySem.F.args_dict_get_2 _ _) (meets_dict_get (leafKind X.prog X.w) a (lV_is ry) hd) ⟨_, dd.mapOf, _, H2, I2.tok _, (rel.val k).getD (d := .non) (d' := .none) rfl, q2⟩
end
section
variable {P : Program} {w : World} {K : PySem.W.Frag} {Γ Γ1 Γ2 : Ev} {ta tb : TE}
theorem ed_getN {kvs : List (Leaf × T)} {k : Leaf} (ha : Ed P w ta Γ (.ndc kvs) Γ1) (hb : Ed P w tb Γ1 (lT k) Γ2) : Ed P w (tNGet P w ta tb) Γ ((look kvs k).getD .non) Γ2 := fun W σ G H E Q q =>
  ha W σ G H E _ fun v G1 H1 s1 E1 iv => by
    cases iv with
    | ndc h1 h2 h3 =>
      refine ⟨_, rfl, ⟨_, E1.base _ _ h1⟩, hb W σ G1 H1 E1 _ fun u G2 H2 s2 E2 iu => ?_⟩
      rw [is_lT iu]
      refine ⟨_, k, E2.base _ _ (s2 _ _ h1), rfl, ?_⟩
      rcases look_rel k h2 (h3.mono s2) with ⟨v, t, e1, e2, i⟩ | ⟨e1, e2⟩
      · rw [e1]; rw [e2] at q; exact q _ G2 H2 (s1.trans s2) E2 i
      · rw [e1]; rw [e2] at q; exact q _ G2 H2 (s1.trans s2) E2 .non
end
/-! ### least sums of two kinds -/
section
variable {E E' : Type} [DecidableEq E] [DecidableEq E'] {rules : List (Ck E)} {rules' : List (Ck E')} {V : List E} {V' : List E'} {s : Cs E} {s' : Cs E'}
theorem Le.add (F : Full V' rules' s') {a b c : E'} (ha : a ∈ V') (hb : b ∈ V') (hc : c ∈ V') {x y : Int} (h1 : Le (dist s' a b) x) (h2 : Le (dist s' b c) y) : Le (dist s' a c) (x + y) := by
  obtain ⟨x1, e1, l1⟩ := h1
  obtain ⟨y1, e2, l2⟩ := h2
  obtain ⟨z, e3, l3⟩ := F.tri b hb a ha c hc _ _ e1 e2
  exact ⟨z, e3, by omega⟩
theorem walk_map (F' : Full V' rules' s') (f : E → E') (hV : ∀ c ∈ rules, c.1 ∈ V ∧ c.2.1 ∈ V) (hf : ∀ e ∈ V, f e ∈ V') (hle : ∀ c ∈ rules, Le (dist s' (f c.1) (f c.2.1)) c.2.2) : ∀ {w : List Nat} {a b : E}, Lk rules a w b → a ∈ V → b ∈ V → Le (dist s' (f a) (f b)) (sumC rules w)
  | [], a, b, h, _, _ => by
    have h : a = b := h
    subst h
    exact ⟨0, dist_self _ _, by simp [sumC]⟩
  | i :: is, a, b, ⟨c, e1, e2, l⟩, ha, hb => by
    have hm := List.mem_of_getElem? e1
    have hc := hV c hm
    rw [sumC_cons, num_of e1]
    subst e2
    exact Le.add F' (hf _ ha) (hf _ hc.2) (hf _ hb) (hle c hm) (walk_map F' f hV hf hle l hc.2 hb)
theorem walk_rev (F' : Full V' rules' s') (f : E → E') (hV : ∀ c ∈ rules, c.1 ∈ V ∧ c.2.1 ∈ V) (hf : ∀ e ∈ V, f e ∈ V') (hle : ∀ c ∈ rules, Le (dist s' (f c.2.1) (f c.1)) c.2.2) : ∀ {w : List Nat} {a b : E}, Lk rules a w b → a ∈ V → b ∈ V → Le (dist s' (f b) (f a)) (sumC rules w)
  | [], a, b, h, _, _ => by
    have h : a = b := h
    subst h
    exact ⟨0, dist_self _ _, by simp [sumC]⟩
  | i :: is, a, b, ⟨c, e1, e2, l⟩, ha, hb => by
    have hm := List.mem_of_getElem? e1
    have hc := hV c hm
    rw [sumC_cons, num_of e1, Int.add_comm]
    subst e2
    exact Le.add F' (hf _ hb) (hf _ hc.2) (hf _ ha) (walk_rev F' f hV hf hle l hc.2 hb) (hle c hm)
theorem dist_map (F : Full V rules s) (F' : Full V' rules' s') (f : E → E') (hf : ∀ e ∈ V, f e ∈ V') (hle : ∀ c ∈ rules, Le (dist s' (f c.1) (f c.2.1)) c.2.2) {a b : E} (ha : a ∈ V) (hb : b ∈ V) {x : Int} (h : dist s a b = some x) : Le (dist s' (f a) (f b)) x := by
  obtain ⟨w, l, rfl⟩ := dist_chain F.inv h
  exact walk_map F' f F.ends hf hle l ha hb
theorem dist_rev (F : Full V rules s) (F' : Full V' rules' s') (f : E → E') (hf : ∀ e ∈ V, f e ∈ V') (hle : ∀ c ∈ rules, Le (dist s' (f c.2.1) (f c.1)) c.2.2) {a b : E} (ha : a ∈ V) (hb : b ∈ V) {x : Int} (h : dist s a b = some x) : Le (dist s' (f b) (f a)) x := by
  obtain ⟨w, l, rfl⟩ := dist_chain F.inv h
  exact walk_rev F' f F.ends hf hle l ha hb
/-- two that bound one another are the same -/
theorem opt_same {o o' : Option Int} (h1 : ∀ x, o = some x → Le o' x) (h2 : ∀ x, o' = some x → Le o x) : o = o' := by
  cases o with
  | none =>
    cases o' with
    | none => rfl
    | some y =>
      obtain ⟨z, e, _⟩ := h2 y rfl
      cases e
  | some x =>
    obtain ⟨y, e, l⟩ := h1 x rfl
    subst e
    obtain ⟨z, e2, l2⟩ := h2 y rfl
    cases e2
    congr 1; omega
end
end FK
set_option maxHeartbeats 4000000
/-! FM24: operations on one of several trees -/
namespace FK
open PySem L2 PySem.Spec PyProof.Rows
section
variable {P : Program} {w : World} {K : PySem.W.Frag} {Γ Γ1 Γ2 : Ev} {ta tb te : TE} {t : T} {tr : TA} {Φ : T → Ev → Prop}
theorem ex_cb {r : List V → Hp → VK → Prop} (h : ExA P w tr Γ fun ts Γ' => ∃ z, RC P w r ts z ∧ Φ z Γ') : Ex P w (tCB r tr) Γ Φ := fun W σ G H E Q q =>
  h W σ G H E _ fun vs ts Γ1 G1 H1 s1 E1 is ⟨z, hr, f⟩ => hr G1 H1 vs E1.base is _ fun v G2 H2 g i => q v z Γ1 G2 H2 (s1.trans g.gg) (E1.grow g) i f
theorem ex_op {r : R2} (h : Ex P w ta Γ fun x Γ1 => Ex P w tb Γ1 fun y Γ2 => ∃ z, RT P w r x y z ∧ Φ z Γ2) : Ex P w (tOp r ta tb) Γ Φ := fun W σ G H E Q q =>
  h W σ G H E _ fun vx x Γ1 G1 H1 s1 E1 ix h2 => h2 W σ G1 H1 E1 _ fun vy y Γ2 G2 H2 s2 E2 iy ⟨z, hr, f⟩ => hr G2 H2 vx vy E2.base (ix.mono s2) iy _ fun v G3 H3 g i => q v z Γ2 G3 H3 (s1.trans (s2.trans g.gg)) (E2.grow g) i f
theorem rc_isi {c : V} {u cu : Value} {b : Bool} (k : TyT K t u) (hc : ClsV c cu) (e : PySem.W.kitOne K u cu = some b) : RC P w (rIsi K) [t, .val c] (.bl b) := fun G H vs s is Q q => by
  cases is with
  | cons i1 i2 =>
    cases i2 with
    | cons j1 j2 =>
      cases j2
      cases j1
      exact ⟨_, _, _, _, b, rfl, hc, ty_is s i1 k, e, q _ G H (Grw.refl s) (.bl b)⟩
theorem rt_eqB {a b : Bool} : RT P w (rEqA K) (.bl a) (.bl b) (.bl (decide (a = b))) := fun G H vx vy s ix iy Q q => by
  cases ix
  cases iy
  refine .inl ⟨rfl, ?_⟩
  have e : decide (V.bl a = V.bl b) = decide (a = b) := decide_eq_decide.mpr ⟨fun h => by cases h; rfl, fun h => by rw [h]⟩
  rw [e]
  exact q _ G H (Grw.refl s) (.bl _)
end
end FK
set_option maxHeartbeats 4000000
/-! FM25: d.pop(key) of an owned dict; parts of lists by g; lists of numbers drawn by a state -/
namespace FK
open PySem L2
section
variable {P : Program} {w : World} {K : PySem.W.Frag} {Γ Γ1 Γ2 : Ev} {ta tb te : TE} {t : T} {tr : TA}
variable {Nx : Ev → Prop} {Rt : T → Ev → Prop} {a : Addr} {l : Bool} {j : Nat}
theorem IsAll.dropK {G : Hp} {k : Str} : ∀ {ps : List (Key × V)} {kvs : List (Str × T)}, ps.map (·.1) = kvs.map (fun p => Sum.inr p.1) → IsAll P w G (ps.map (·.2)) (kvs.map (·.2)) →
    (L2.dropK ps (Sum.inr k)).map (·.1) = (kvs.filter fun p => decide (p.1 ≠ k)).map (fun p => Sum.inr p.1) ∧ IsAll P w G ((L2.dropK ps (Sum.inr k)).map (·.2)) ((kvs.filter fun p => decide (p.1 ≠ k)).map (·.2))
  | [], [], _, _ => ⟨rfl, .nil⟩
  | [], _ :: _, e, _ => by simp at e
  | _ :: _, [], e, _ => by simp at e
  | p :: ps, q :: kvs, e, h => by
    simp only [List.map_cons] at e h
    injection e with e1 e2
    cases h with
    | cons a b =>
      obtain ⟨r1, r2⟩ := IsAll.dropK (k := k) e2 b
      by_cases z : q.1 = k
      · have z' : p.1 = Sum.inr k := by rw [e1, z]
        have d1 : L2.dropK (p :: ps) (Sum.inr k) = L2.dropK ps (Sum.inr k) := by simp [L2.dropK, z']
        have d2 : ((q :: kvs).filter fun p => decide (p.1 ≠ k)) = kvs.filter fun p => decide (p.1 ≠ k) := by simp [z]
        rw [d1, d2]; exact ⟨r1, r2⟩
      · have z' : ¬ p.1 = Sum.inr k := fun y => z (Sum.inr.inj (e1.symm.trans y))
        have d1 : L2.dropK (p :: ps) (Sum.inr k) = p :: L2.dropK ps (Sum.inr k) := by simp [L2.dropK, z']
        have d2 : ((q :: kvs).filter fun p => decide (p.1 ≠ k)) = q :: kvs.filter fun p => decide (p.1 ≠ k) := by simp [z]
        rw [d1, d2]
        refine ⟨?_, ?_⟩
        · rw [List.map_cons, List.map_cons, e1, r1]
        · rw [List.map_cons, List.map_cons]; exact .cons a r2
/-- d.pop(k) of an owned dict, the key there -/
theorem bd_popD {kvs0 kvs : List (Str × T)} {k : Str} (ho : Ed P w ta Γ (.val (.ref a)) Γ1) (hj1 : Γ1.g[j]? = some ⟨l, a, .dic kvs0⟩) (hb : Ed P w tb Γ1 (.str k) Γ2) (hj : Γ2.g[j]? = some ⟨l, a, .dic kvs⟩) (hk : look kvs k = some t) (n : Nx (Γ2.own j ⟨l, a, .dic (kvs.filter fun p => decide (p.1 ≠ k))⟩)) :
    Bd P w (tDrop (tDPop1 ta tb)) Γ Nx Rt := fun W σ G H E D qn qr => ho W σ G H E _ fun v G1 H1 s1 E1 i => by
  cases i
  obtain ⟨_, ⟨ps0, g3, _⟩, _⟩ := E1.gh _ (List.mem_of_getElem? hj1)
  refine ⟨a, rfl, .inl ⟨_, .inl g3⟩, hb W σ G1 H1 E1 _ fun u G2 H2 s2 E2 iu => ?_⟩
  cases iu
  obtain ⟨_, ⟨ps, h3, h5, h6⟩, _⟩ := E2.gh _ (List.mem_of_getElem? hj)
  have h6' : IsAll P w G2 (ps.map (·.2)) ((kvs.map fun p => ((Sum.inr p.1 : Key), p.2)).map (·.2)) := by rw [inr_vals]; exact h6
  rcases look_rel (Sum.inr k) (inr_keys h5) h6' with ⟨v, t', e1, e2, i2⟩ | ⟨e1, e2⟩
  · obtain ⟨r1, r2⟩ := IsAll.dropK (k := k) h5 h6
    exact ⟨ps, Sum.inr k, v, h3, rfl, e1, qn _ G2 _ _ (s1.trans s2) (E2.mut (o' := .dic (kvs.filter fun p => decide (p.1 ≠ k))) hj ⟨_, upd_same, r1, r2⟩) n⟩
  · rw [look_inr, hk] at e2; cases e2
end
/-! ### parts of lists -/
def cutG {α : Type} (xs : List α) (lo hi : Option Int) : List α := (xs.drop (HT.sIx xs.length 0 lo)).take (HT.sIx xs.length xs.length hi - HT.sIx xs.length 0 lo)
theorem cut_map {α : Type} {g : α → T} (xs : List α) (lo hi : Option Int) : cutT (xs.map g) lo hi = (cutG xs lo hi).map g := by
  unfold cutT cutG
  rw [List.length_map, List.map_take, List.map_drop]
theorem cutG_len {α : Type} (xs : List α) (lo hi : Option Int) : (cutG xs lo hi).length ≤ xs.length := by
  unfold cutG
  rw [List.length_take, List.length_drop]
  omega
theorem cutG_mem {α : Type} {xs : List α} {lo hi : Option Int} {x : α} (h : x ∈ cutG xs lo hi) : x ∈ xs := List.mem_of_mem_drop (List.mem_of_mem_take h)
section
variable {P : Program} {w : World} {K : PySem.W.Frag} {Γ Γ1 Γ2 : Ev} {ta tb te : TE} {t : T} {tr : TA}
theorem ed_cutG {α : Type} {g : α → T} {xs : List α} {lo hi : Option Int} {tl th : TO} (ha : Ed P w ta Γ (.lst (xs.map g)) Γ) (hl : EdO P w tl Γ lo) (hh : EdO P w th Γ hi) : Ed P w (tSl (rSlL K) ta tl th) Γ (.lst ((cutG xs lo hi).map g)) Γ :=
  (ed_of_en (en_slice ha hl hh)).to (congrArg T.lst (cut_map xs lo hi))
theorem ed_catG {α : Type} {g : α → T} {xs ys : List α} (ha : Ed P w ta Γ (.lst (xs.map g)) Γ1) (hb : Ed P w tb Γ1 (.lst (ys.map g)) Γ2) (hl : xs.length + ys.length ≤ 100000) : Ed P w (tOp rAddA ta tb) Γ (.lst ((xs ++ ys).map g)) Γ2 :=
  (ed_of_en (en_cat ha hb (by rw [List.length_map, List.length_map]; exact hl))).to (congrArg T.lst List.map_append.symm)
theorem ed_revG {α : Type} {g : α → T} {xs : List α} (ha : Ed P w ta Γ (.lst (xs.map g)) Γ1) : Ed P w (tRevL K ta) Γ (.lst (xs.reverse.map g)) Γ1 :=
  (ed_of_en (en_revL ha)).to (congrArg T.lst List.map_reverse.symm)
variable {Nx : Ev → Prop} {Rt : T → Ev → Prop} {g : TG} {sb : TS}
theorem bd_forL (h : Ex P w ta Γ fun t Γ1 => ∃ ts, t = .lst ts ∧ ∃ Inv : Nat → Ev → Prop, Inv 0 Γ1 ∧ (∀ i Γ', i < ts.length → Inv i Γ' → ∃ Γ'', EdG P w g (ts.getD i .non) Γ' Γ'' ∧ Bd P w sb Γ'' (Inv (i + 1)) Rt) ∧ ∀ Γ', Inv ts.length Γ' → Nx Γ') :
    Bd P w (tFor (iList K ta) g sb) Γ Nx Rt := fun W σ G H E D qn qr => h W σ G H E _ fun v t Γ1 G1 H1 s1 E1 i f => by
  obtain ⟨ts, rfl, Inv, h0, hs, hd⟩ := f
  cases i with
  | @lst a vs ts h1 h2 =>
    have at_ : ∀ H', Same G1 H' → SqL K H' a vs := fun H' s => SqL.of (s _ _ h1)
    have Wk : WalkT P w (Itl K a) ts.length G1 (fun i => ts.getD i .non) := ⟨fun i H' hi s => by
      obtain ⟨v, e1, e2⟩ := h2.get (getD_of hi)
      exact ⟨vs, v, at_ H' s, e1⟩, fun H' s => ⟨vs, at_ H' s, by rw [h2.length]; exact Nat.le_refl _⟩, fun i H' x H'' Gc hi sg s y => by
      obtain ⟨e, y⟩ := y
      subst e
      obtain ⟨v, e1, e2⟩ := h2.get (getD_of hi)
      have := y vs (at_ _ (sg.trans s))
      rw [e1] at this
      cases this
      exact ⟨Gc, Grw.refl s, e2.mono sg⟩⟩
    refine ⟨a, rfl, ⟨vs, at_ H1 E1.base⟩, ?_⟩
    refine ⟨fun i m σ' H' => m = ts.length - i ∧ i ≤ ts.length ∧ ∃ G' Γ', Same G1 G' ∧ Tenv P w W σ' G' H' Γ' ∧ Inv i Γ', ⟨ts.length, by simp, Nat.zero_le _, G1, Γ1, Same.refl _, E1, h0⟩, ?_⟩
    rintro i m σ' H' ⟨rfl, hin, G', Γ', sg, E', iv⟩
    by_cases hlt : i < ts.length
    · refine .inr ⟨Wk.goes i H' hlt (sg.trans E'.base), fun σ2 H2 => ∃ G2 Γ2, Same G1 G2 ∧ Tenv P w W σ2 G2 H2 Γ2 ∧ Inv (i + 1) Γ2, ?_, fun x H2 y => ?_⟩
      · rintro σ2 H2 ⟨G2, Γ2, a, b, c⟩
        exact ⟨ts.length - (i + 1), by omega, rfl, hlt, G2, Γ2, a, b, c⟩
      · obtain ⟨G2, gr, ix⟩ := Wk.yields i H' x H2 G' hlt sg E'.base y
        obtain ⟨Γ3, hg, hb⟩ := hs i Γ' hlt iv
        refine hg W σ' G2 H2 (E'.grow gr) x ix _ fun σ3 E3 => hb W σ3 G2 H2 E3 _ (fun σ4 G4 H4 Γ4 s4 E4 n4 => ?_) qr
        exact ⟨G4, Γ4, (sg.trans gr.gg).trans s4, E4, n4⟩
    · have e : i = ts.length := by omega
      subst e
      exact .inl ⟨Wk.stops H' (sg.trans E'.base), qn σ' G' H' Γ' (s1.trans sg) E' (hd Γ' iv)⟩
/-- list(range(n)) -/
theorem en_listRg {n : Nat} (h : Ed P w ta Γ (.int (n : Nat)) Γ1) (hn : n ≤ 100000) : EdN P w (tLstRg (tRg1 ta)) Γ (.lst ((natsI (List.range n)).map T.int)) Γ1 := fun W σ G H E Q q => h W σ G H E _ fun v G1 H1 s1 E1 i => by
  cases i
  refine ⟨_, rfl, RgOk.of_le (by omega) (by omega) (by omega) (by omega), fun p hp => q p G1 _ s1 (E1.pushNew hp ⟨_, upd_same, ?_⟩)⟩
  have e : rgV 0 (n : Nat) = (natsI (List.range n)).map V.int := by
    unfold rgV natsI
    rw [List.map_map]
    show (List.range ((n : Int) - 0).toNat).map _ = _
    have : ((n : Int) - 0).toNat = n := by omega
    rw [this]
    exact List.map_congr_left fun i _ => congrArg V.int (by show (0 : Int) + (i : Nat) = (i : Nat); omega)
  rw [e]
  generalize natsI (List.range n) = l
  induction l with
  | nil => exact .nil
  | cons x l ih => exact .cons (.int x) ih
end
end FK
set_option maxHeartbeats 4000000
/-! FM36: the law's end by one run of the top in the kernel; facts by names -/
namespace FK
open PySem L2 PySem.Spec PyProof.Rows
/-! ### facts beyond He's -/
def insB (K : PySem.W.Frag) (C : Str) : Bool := He.eqO (PySem.W.findIn K (.ref (He.ga K C)) "__class__") (some (some (.builtin "object.__class__"))) && decide (PySem.W.mroIn K (He.ga K C) (.type "object") = some true)
def getB (K : PySem.W.Frag) : Bool := He.eqO (PySem.W.specialIn K (.builtin "object.__class__") "__get__") (some (some (.builtin "getset_descriptor.__get__"))) && decide (PySem.W.takesIn K (.builtin "object.__class__") = some true)
def isiB (K : PySem.W.Frag) (A B : Str) (b : Bool) : Bool := decide (PySem.W.kitOne K (.ref (He.ga K A)) (.ref (He.ga K B)) = some b)
theorem isiB_ok {K : PySem.W.Frag} {A B : Str} {b : Bool} (h : isiB K A B b = true) : PySem.W.kitOne K (.ref (He.ga K A)) (.ref (He.ga K B)) = some b := of_decide_eq_true h
theorem ins_of {K : PySem.W.Frag} {C : Str} (c : Cls K (He.ga K C)) (h : insB K C = true) (g : getB K = true) : InsT K (He.ga K C) := by
  obtain ⟨h1, h2⟩ := He.ba h
  obtain ⟨g1, g2⟩ := He.ba g
  exact ⟨c, He.eqO_ok h1, He.eqO_ok g1, of_decide_eq_true g2, of_decide_eq_true h2⟩
/-! ### the Hook -/
def obsF (fa : List He.Fa) (ex : List (PySem.W.Frag → Bool)) (fn : List He.DefD) (K : PySem.W.Frag) : He.AlD := ((fa.all fun f => f.ok K) && ((ex.all fun f => f K) && fn.all fun d => d.ok K), fn.map fun d => He.fnW K d.at_)
def SaysF (fa : List He.Fa) (ex : List (PySem.W.Frag → Bool)) (fn : List He.DefD) (K : PySem.W.Frag) : Prop := obsF fa ex fn K = He.valD fn
def hookF (ad : List Addr) (fa : List He.Fa) (ex : List (PySem.W.Frag → Bool)) (fn : List He.DefD) : PySem.W.Hook where
  α := He.AlD
  obs := fun s => obsF fa ex fn (He.frG s.heap.get? ad)
  val := fun _ => He.valD fn
  says := fun _ h => ∃ K : PySem.W.Frag, K.In h ∧ SaysF fa ex fn K
  of := fun _ _ e => ⟨_, He.frG_in (as := ad), e⟩
  keeps := fun _ _ _ z st => z.elim fun K y => ⟨K, PySem.W.Frag.In.keeps y.1 st, y.2⟩
def obF (ad : List Addr) (fa : List He.Fa) (ex : List (PySem.W.Frag → Bool)) (fn : List He.DefD) (s : PySem.W.SharedT) : He.AlD := obsF fa ex fn (He.frG (HandSHeadRun.getT s) ad)
theorem obF_eq {ad : List Addr} {fa : List He.Fa} {ex : List (PySem.W.Frag → Bool)} {fn : List He.DefD} (s : PySem.W.SharedT) : obF ad fa ex fn s = (hookF ad fa ex fn).obs s.abs := by
  have e : HandSHeadRun.getT s = s.abs.heap.get? := funext (HandSHeadRun.getT_eq s)
  unfold obF
  rw [e]
  rfl
section
variable {fa : List He.Fa} {ex : List (PySem.W.Frag → Bool)} {fn : List He.DefD} {K : PySem.W.Frag}
theorem SaysF.parts (c : SaysF fa ex fn K) : (fa.all fun f => f.ok K) = true ∧ (ex.all fun f => f K) = true ∧ (fn.all fun d => d.ok K) = true := by
  obtain ⟨h1, h2⟩ := He.ba (show ((fa.all fun f => f.ok K) && ((ex.all fun f => f K) && fn.all fun d => d.ok K)) = true from congrArg (fun z : He.AlD => z.1) c)
  exact ⟨h1, He.ba h2⟩
theorem SaysF.fact (c : SaysF fa ex fn K) (i : Nat) {f : He.Fa} (h : fa[i]? = some f) : f.ok K = true := List.all_eq_true.mp c.parts.1 f (List.mem_of_getElem? h)
theorem SaysF.more (c : SaysF fa ex fn K) (i : Nat) {f : PySem.W.Frag → Bool} (h : ex[i]? = some f) : f K = true := List.all_eq_true.mp c.parts.2.1 f (List.mem_of_getElem? h)
theorem SaysF.def_ (c : SaysF fa ex fn K) (i : Nat) {d : He.DefD} (h : fn[i]? = some d) : ∃ fd, FunD K d.name d.qual d.params d.body d.scope (d.dvs K) (d.kws K) (He.fAd K d.at_) fd := by
  have e2 := congrArg (fun z : He.AlD => z.2[i]?) c
  simp only [obsF, He.valD, List.getElem?_map, h, Option.map_some] at e2
  exact He.DefD.funD (Option.some.inj e2) (List.all_eq_true.mp c.parts.2.2 d (List.mem_of_getElem? h))
end
/-! ### the run by parts -/
/-- what the run ends in, by a look -/
def RunP {α : Type} (r : PySem.W.OpenRow) (M : Nat) (w : World) (look : PySem.W.SharedT → α) (val : α) : Prop :=
  ∀ os : OsState, (HandSHeadRun.endF (HandSHeadRun.stepQ (HandSHeadRun.denQ HandSHeadRun.tabQ) r.prog w) M r.prog w os).map look = some val
theorem RunP.and {α β : Type} {r : PySem.W.OpenRow} {M : Nat} {w : World} {f : PySem.W.SharedT → α} {g : PySem.W.SharedT → β} {a : α} {b : β} (h1 : RunP r M w f a) (h2 : RunP r M w g b) : RunP r M w (fun s => (f s, g s)) (a, b) := fun os => by
  have e1 := h1 os
  have e2 := h2 os
  generalize HandSHeadRun.endF _ M r.prog w os = z at e1 e2
  cases z with
  | none => cases e1
  | some s =>
    have e1 := Option.some.inj e1
    have e2 := Option.some.inj e2
    show some (f s, g s) = some (a, b)
    rw [e1, e2]
theorem RunP.imp {α β : Type} {r : PySem.W.OpenRow} {M : Nat} {w : World} {f : PySem.W.SharedT → α} {g : PySem.W.SharedT → β} {a : α} {b : β} (h : RunP r M w f a) (k : ∀ s, f s = a → g s = b) : RunP r M w g b := fun os => by
  have e1 := h os
  generalize HandSHeadRun.endF _ M r.prog w os = z at e1
  cases z with
  | none => cases e1
  | some s => exact congrArg some (k s (Option.some.inj e1))
def allFa (ad : List Addr) (fa : List He.Fa) (s : PySem.W.SharedT) : Bool := fa.all fun f => f.ok (He.frG (HandSHeadRun.getT s) ad)
def allEx (ad : List Addr) (ex : List (PySem.W.Frag → Bool)) (s : PySem.W.SharedT) : Bool := ex.all fun f => f (He.frG (HandSHeadRun.getT s) ad)
def allFn (ad : List Addr) (fn : List He.DefD) (s : PySem.W.SharedT) : Bool × List He.FnW := (fn.all fun d => d.ok (He.frG (HandSHeadRun.getT s) ad), fn.map fun d => He.fnW (He.frG (HandSHeadRun.getT s) ad) d.at_)
def valFn (fn : List He.DefD) : Bool × List He.FnW := (true, fn.map He.DefD.val)
theorem RunP.fa2 {r : PySem.W.OpenRow} {M : Nat} {w : World} {ad : List Addr} {x y : List He.Fa} (h1 : RunP r M w (allFa ad x) true) (h2 : RunP r M w (allFa ad y) true) : RunP r M w (allFa ad (x ++ y)) true :=
  (h1.and h2).imp fun s e => by
    have e1 := congrArg Prod.fst e
    have e2 := congrArg Prod.snd e
    show ((x ++ y).all _) = true
    rw [List.all_append]
    exact Bool.and_eq_true_iff.mpr ⟨e1, e2⟩
theorem RunP.fn2 {r : PySem.W.OpenRow} {M : Nat} {w : World} {ad : List Addr} {x y : List He.DefD} (h1 : RunP r M w (allFn ad x) (valFn x)) (h2 : RunP r M w (allFn ad y) (valFn y)) : RunP r M w (allFn ad (x ++ y)) (valFn (x ++ y)) :=
  (h1.and h2).imp fun s e => by
    have e1 : (allFn ad x s) = valFn x := congrArg Prod.fst e
    have e2 : (allFn ad y s) = valFn y := congrArg Prod.snd e
    have a1 := congrArg Prod.fst e1
    have a2 := congrArg Prod.fst e2
    have b1 := congrArg Prod.snd e1
    have b2 := congrArg Prod.snd e2
    unfold allFn valFn
    simp only [allFn, valFn] at a1 a2 b1 b2
    rw [List.all_append, List.map_append, List.map_append, a1, a2, b1, b2]
    rfl
theorem RunP.whole {r : PySem.W.OpenRow} {q : Program} {M : Nat} {w : World} {lo : List Str} {ad : List Addr} {fa : List He.Fa} {ex : List (PySem.W.Frag → Bool)} {fn : List He.DefD}
    (h0 : HandSHeadRun.RunEq r q PySem.W.Hook.none (fun _ => ()) M lo w) (h1 : RunP r M w (allFa ad fa) true) (h2 : RunP r M w (allEx ad ex) true) (h3 : RunP r M w (allFn ad fn) (valFn fn)) :
    HandSHeadRun.RunEq r q (hookF ad fa ex fn) (obF ad fa ex fn) M lo w := by
  have k0 : RunP r M w _ _ := h0
  exact ((k0.and h1).and (h2.and h3)).imp fun s e => by
    have e0 := congrArg (fun z => z.1.1) e
    have e1 : allFa ad fa s = true := congrArg (fun z => z.1.2) e
    have e2 : allEx ad ex s = true := congrArg (fun z => z.2.1) e
    have e3 : allFn ad fn s = valFn fn := congrArg (fun z => z.2.2) e
    have a3 := congrArg Prod.fst e3
    have b3 := congrArg Prod.snd e3
    have ob : obF ad fa ex fn s = He.valD fn := by
      unfold obF obsF He.valD
      simp only [allFn, valFn] at a3 b3
      simp only [allFa, allEx] at e1 e2
      rw [e1, e2, a3, b3]
      rfl
    have x1 := congrArg Prod.fst e0
    have x2 := congrArg (fun z => z.2.1) e0
    exact Prod.ext x1 (Prod.ext x2 ob)
/-- the law's end, the written part being one of several -/
theorem walk_ofGE {lw : PySem.W.OpenLaw} {m k : Nat} {q : Program} {ns0 : List Str} {XQ : (Str → Option Value) → Heap → Prop} {YQ : World → Heap → Prop} {dr : DefRec} {x : Str} (hm : lw.most = some m) (hs : m ≤ sizeLine) (h0 : dr.params.defaults = []) (hr : Room k callerA)
    (Fc : ∀ (w : World) (gm : Str → Option Value) (af : Addr) (hp : Heap), YQ w hp → hp.Ns mainGlobals gm → gm dr.name = some (.ref af) → ∃ (K : PySem.W.Frag) (fd : FuncData) (sp : Sp), K.In hp ∧ (∀ (s : Shared) (u : Value), BindsTo s fd ⟨[u], []⟩ [(x, u)]) ∧
      (∀ (H : Hp) (a : Addr) (zs : List Int), zs.length ≤ m → (∀ z ∈ zs, Builtin.Int.intBits z ≤ 1048576) → Only H → SqL K H a (zs.map V.int) → sp [.ref a] H (fun v _ => v = .bl true) fun _ _ _ => False) ∧ ∀ bs : Heap, K.In bs → bs.Ns mainGlobals gm → GnOk lw.prog w K gm bs k af fd [x] sp) :
    PySem.W.WalkO q ns0 XQ YQ lw.row.toRowW dr [] (fun f us => PySem.call f us) :=
  Att.attach_callB hm h0 fun w s0 s1 gm mb af o pm cd doc a us zs G Y ho hd hcd hg0 hob hin hle hbi hg => (Fc w gm af _ Y G.T.g hg0).elim fun K y => y.elim fun fd y => y.elim fun sp y =>
    law_callG y.1 G.T.g G.T.b G.T.builtins G.T.nolimit hg hob hin (Nat.le_trans hle hs) hr y.2.2.2 y.2.1 fun H hO hS => y.2.2.1 H a zs hle hbi hO hS
end FK
set_option maxHeartbeats 8000000
namespace FK
open PySem L2
def top (i : Nat) : Stmt := PySem.Challenge.pw_fieldkinds_k05_answers_by_hand.main.body.getD i (.Pass ⟨0, 0, 0, 0⟩)
abbrev s_is_number : Stmt := (top 16)
abbrev n_is_number : List Str := ["thing"]
theorem sc_is_number : FnScope n_is_number ["thing"] (defScope s_is_number) := ⟨rfl, rfl, rfl, by decide +kernel, rfl, by decide +kernel, by decide +kernel⟩
abbrev s_is_name : Stmt := (top 17)
abbrev n_is_name : List Str := ["thing", "sign"]
theorem sc_is_name : FnScope n_is_name ["thing"] (defScope s_is_name) := ⟨rfl, rfl, rfl, by decide +kernel, rfl, by decide +kernel, by decide +kernel⟩
abbrev s_is_end : Stmt := (top 18)
abbrev n_is_end : List Str := ["thing", "fields"]
theorem sc_is_end : FnScope n_is_end ["thing", "fields"] (defScope s_is_end) := ⟨rfl, rfl, rfl, by decide +kernel, rfl, by decide +kernel, by decide +kernel⟩
abbrev s_is_check : Stmt := (top 19)
abbrev n_is_check : List Str := ["thing", "fields"]
theorem sc_is_check : FnScope n_is_check ["thing", "fields"] (defScope s_is_check) := ⟨rfl, rfl, rfl, by decide +kernel, rfl, by decide +kernel, by decide +kernel⟩
abbrev s_is_thing : Stmt := (top 21)
abbrev n_is_thing : List Str := ["thing", "row", "field"]
theorem sc_is_thing : FnScope n_is_thing ["thing", "row"] (defScope s_is_thing) := ⟨rfl, rfl, rfl, by decide +kernel, rfl, by decide +kernel, by decide +kernel⟩
abbrev s_number_at : Stmt := (top 22)
abbrev n_number_at : List Str := ["thing", "end"]
theorem sc_number_at : FnScope n_number_at ["thing", "end"] (defScope s_number_at) := ⟨rfl, rfl, rfl, by decide +kernel, rfl, by decide +kernel, by decide +kernel⟩
abbrev s_is_so : Stmt := (top 23)
abbrev n_is_so : List Str := ["check", "thing"]
theorem sc_is_so : FnScope n_is_so ["check", "thing"] (defScope s_is_so) := ⟨rfl, rfl, rfl, by decide +kernel, rfl, by decide +kernel, by decide +kernel⟩
abbrev s_first_wrong : Stmt := (top 24)
abbrev n_first_wrong : List Str := ["rules", "thing", "at", "check"]
theorem sc_first_wrong : FnScope n_first_wrong ["rules", "thing"] (defScope s_first_wrong) := ⟨rfl, rfl, rfl, by decide +kernel, rfl, by decide +kernel, by decide +kernel⟩
abbrev s_leads_on : Stmt := (top 27)
abbrev n_leads_on : List Str := ["rules", "counts", "at", "one", "other"]
theorem sc_leads_on : FnScope n_leads_on ["rules", "counts"] (defScope s_leads_on) := ⟨rfl, rfl, rfl, by decide +kernel, rfl, by decide +kernel, by decide +kernel⟩
abbrev s_is_chain : Stmt := (top 28)
abbrev n_is_chain : List Str := ["rules", "counts", "one", "other"]
theorem sc_is_chain : FnScope n_is_chain ["rules", "counts", "one", "other"] (defScope s_is_chain) := ⟨rfl, rfl, rfl, by decide +kernel, rfl, by decide +kernel, by decide +kernel⟩
abbrev s_is_ring : Stmt := (top 29)
abbrev n_is_ring : List Str := ["rules", "counts"]
theorem sc_is_ring : FnScope n_is_ring ["rules", "counts"] (defScope s_is_ring) := ⟨rfl, rfl, rfl, by decide +kernel, rfl, by decide +kernel, by decide +kernel⟩
abbrev s_sum_of : Stmt := (top 30)
abbrev n_sum_of : List Str := ["rules", "counts", "at"]
theorem sc_sum_of : FnScope n_sum_of ["rules", "counts"] (defScope s_sum_of) := ⟨rfl, rfl, rfl, by decide +kernel, rfl, by decide +kernel, by decide +kernel⟩
abbrev s_has_things : Stmt := (top 31)
abbrev n_has_things : List Str := ["kind"]
theorem sc_has_things : FnScope n_has_things ["kind"] (defScope s_has_things) := ⟨rfl, rfl, rfl, by decide +kernel, rfl, by decide +kernel, by decide +kernel⟩
abbrev s_is_good : Stmt := (top 32)
abbrev n_is_good : List Str := ["kind", "thing"]
theorem sc_is_good : FnScope n_is_good ["kind", "thing"] (defScope s_is_good) := ⟨rfl, rfl, rfl, by decide +kernel, rfl, by decide +kernel, by decide +kernel⟩
abbrev s_full_chains : Stmt := (top 43)
abbrev n_full_chains : List Str := ["kind", "chains"]
theorem sc_full_chains : FnScope n_full_chains ["kind"] (defScope s_full_chains) := ⟨rfl, rfl, rfl, by decide +kernel, rfl, by decide +kernel, by decide +kernel⟩
abbrev s_farthest : Stmt := (top 44)
abbrev n_farthest : List Str := ["kind", "one", "other", "chains", "number"]
theorem sc_farthest : FnScope n_farthest ["kind", "one", "other"] (defScope s_farthest) := ⟨rfl, rfl, rfl, by decide +kernel, rfl, by decide +kernel, by decide +kernel⟩
abbrev s_check_things : Stmt := (top 45)
abbrev n_check_things : List Str := ["kind", "things", "thing", "at", "field"]
theorem sc_check_things : FnScope n_check_things ["kind", "things"] (defScope s_check_things) := ⟨rfl, rfl, rfl, by decide +kernel, rfl, by decide +kernel, by decide +kernel⟩
abbrev s_binding : Stmt := (top 46)
abbrev n_binding : List Str := ["chains", "field", "end", "one", "other"]
theorem sc_binding : FnScope n_binding ["chains", "field"] (defScope s_binding) := ⟨rfl, rfl, rfl, by decide +kernel, rfl, by decide +kernel, by decide +kernel⟩
abbrev s_lowest_for : Stmt := (top 47)
abbrev n_lowest_for : List Str := ["kind", "here", "field", "check"]
theorem sc_lowest_for : FnScope n_lowest_for ["kind", "here", "field"] (defScope s_lowest_for) := ⟨rfl, rfl, rfl, by decide +kernel, rfl, by decide +kernel, by decide +kernel⟩
abbrev s_highest_for : Stmt := (top 48)
abbrev n_highest_for : List Str := ["kind", "here", "field", "check"]
theorem sc_highest_for : FnScope n_highest_for ["kind", "here", "field"] (defScope s_highest_for) := ⟨rfl, rfl, rfl, by decide +kernel, rfl, by decide +kernel, by decide +kernel⟩
abbrev s_lowered : Stmt := (top 49)
abbrev n_lowered : List Str := ["kind", "here", "goal", "sets", "field", "least", "number"]
theorem sc_lowered : FnScope n_lowered ["kind", "here", "goal", "sets"] (defScope s_lowered) := ⟨rfl, rfl, rfl, by decide +kernel, rfl, by decide +kernel, by decide +kernel⟩
abbrev s_raised : Stmt := (top 50)
abbrev n_raised : List Str := ["kind", "here", "goal", "sets", "field", "greatest", "number"]
theorem sc_raised : FnScope n_raised ["kind", "here", "goal", "sets"] (defScope s_raised) := ⟨rfl, rfl, rfl, by decide +kernel, rfl, by decide +kernel, by decide +kernel⟩
abbrev s_led : Stmt := (top 51)
abbrev n_led : List Str := ["kind", "thing", "there", "chains", "field", "ring", "here", "low", "sets"]
theorem sc_led : FnScope n_led ["kind", "thing", "there"] (defScope s_led) := ⟨rfl, rfl, rfl, by decide +kernel, rfl, by decide +kernel, by decide +kernel⟩
abbrev s__law_cell_at : Stmt := (top 53)
abbrev n__law_cell_at : List Str := ["_law_script", "_law_k"]
theorem sc__law_cell_at : FnScope n__law_cell_at ["_law_script", "_law_k"] (defScope s__law_cell_at) := ⟨rfl, rfl, rfl, by decide +kernel, rfl, by decide +kernel, by decide +kernel⟩
abbrev s__law_draw : Stmt := (top 54)
abbrev n__law_draw : List Str := ["_law_cell", "_law_k", "_law_most", "_law_primes"]
theorem sc__law_draw : FnScope n__law_draw ["_law_cell", "_law_k", "_law_most"] (defScope s__law_draw) := ⟨rfl, rfl, rfl, by decide +kernel, rfl, by decide +kernel, by decide +kernel⟩
abbrev s__law_number : Stmt := (top 55)
abbrev n__law_number : List Str := ["_law_cell", "_law_k", "_law_limit", "_law_rest", "_law_turn", "_law_small"]
theorem sc__law_number : FnScope n__law_number ["_law_cell", "_law_k", "_law_limit"] (defScope s__law_number) := ⟨rfl, rfl, rfl, by decide +kernel, rfl, by decide +kernel, by decide +kernel⟩
abbrev s__law_next : Stmt := (top 56)
abbrev n__law_next : List Str := ["_law_state", "_law_limit", "_law_at_here", "_law_cell"]
theorem sc__law_next : FnScope n__law_next ["_law_state", "_law_limit"] (defScope s__law_next) := ⟨rfl, rfl, rfl, by decide +kernel, rfl, by decide +kernel, by decide +kernel⟩
abbrev s__law_fields : Stmt := (top 57)
abbrev n__law_fields : List Str := ["_law_state", "_law_names", "_law_many", "_law_found", "_law_at_here"]
theorem sc__law_fields : FnScope n__law_fields ["_law_state"] (defScope s__law_fields) := ⟨rfl, rfl, rfl, by decide +kernel, rfl, by decide +kernel, by decide +kernel⟩
abbrev s__law_checks : Stmt := (top 58)
abbrev n__law_checks : List Str := ["_law_state", "_law_fields_here", "_law_many", "_law_thing_here", "_law_ends", "_law_found", "_law_at_here", "_law_one", "_law_other", "_law_number_here", "_law_gap"]
theorem sc__law_checks : FnScope n__law_checks ["_law_state", "_law_fields_here", "_law_many", "_law_thing_here"] (defScope s__law_checks) := ⟨rfl, rfl, rfl, by decide +kernel, rfl, by decide +kernel, by decide +kernel⟩
abbrev s__law_thing : Stmt := (top 59)
abbrev n__law_thing : List Str := ["_law_state", "_law_fields_here", "_law_far", "_law_found", "_law_field"]
theorem sc__law_thing : FnScope n__law_thing ["_law_state", "_law_fields_here", "_law_far"] (defScope s__law_thing) := ⟨rfl, rfl, rfl, by decide +kernel, rfl, by decide +kernel, by decide +kernel⟩
abbrev s__law_at : Stmt := (top 60)
abbrev n__law_at : List Str := ["_law_thing_here", "_law_end"]
theorem sc__law_at : FnScope n__law_at ["_law_thing_here", "_law_end"] (defScope s__law_at) := ⟨rfl, rfl, rfl, by decide +kernel, rfl, by decide +kernel, by decide +kernel⟩
abbrev s__law_wrong : Stmt := (top 61)
abbrev n__law_wrong : List Str := ["_law_checks_here", "_law_thing_here", "_law_at_here", "_law_check"]
theorem sc__law_wrong : FnScope n__law_wrong ["_law_checks_here", "_law_thing_here"] (defScope s__law_wrong) := ⟨rfl, rfl, rfl, by decide +kernel, rfl, by decide +kernel, by decide +kernel⟩
abbrev s__law_sums : Stmt := (top 62)
abbrev n__law_sums : List Str := ["_law_fields_here", "_law_checks_here", "_law_start", "_law_found", "_law_turn", "_law_changed", "_law_one", "_law_other", "_law_number_here", "_law_total_here"]
theorem sc__law_sums : FnScope n__law_sums ["_law_fields_here", "_law_checks_here", "_law_start"] (defScope s__law_sums) := ⟨rfl, rfl, rfl, by decide +kernel, rfl, by decide +kernel, by decide +kernel⟩
abbrev s__law_has : Stmt := (top 63)
abbrev n__law_has : List Str := ["_law_fields_here", "_law_checks_here", "_law_end"]
theorem sc__law_has : FnScope n__law_has ["_law_fields_here", "_law_checks_here"] (defScope s__law_has) := ⟨rfl, rfl, rfl, by decide +kernel, rfl, by decide +kernel, by decide +kernel⟩
abbrev s__law_leads : Stmt := (top 64)
abbrev n__law_leads : List Str := ["_law_checks_here", "_law_counts", "_law_at_here", "_law_one", "_law_other"]
theorem sc__law_leads : FnScope n__law_leads ["_law_checks_here", "_law_counts"] (defScope s__law_leads) := ⟨rfl, rfl, rfl, by decide +kernel, rfl, by decide +kernel, by decide +kernel⟩
abbrev s__law_total : Stmt := (top 65)
abbrev n__law_total : List Str := ["_law_checks_here", "_law_counts", "_law_at_here"]
theorem sc__law_total : FnScope n__law_total ["_law_checks_here", "_law_counts"] (defScope s__law_total) := ⟨rfl, rfl, rfl, by decide +kernel, rfl, by decide +kernel, by decide +kernel⟩
abbrev s__law_chain : Stmt := (top 66)
abbrev n__law_chain : List Str := ["_law_checks_here", "_law_counts", "_law_one", "_law_other"]
theorem sc__law_chain : FnScope n__law_chain ["_law_checks_here", "_law_counts", "_law_one", "_law_other"] (defScope s__law_chain) := ⟨rfl, rfl, rfl, by decide +kernel, rfl, by decide +kernel, by decide +kernel⟩
abbrev s__law_ring : Stmt := (top 67)
abbrev n__law_ring : List Str := ["_law_checks_here", "_law_counts"]
theorem sc__law_ring : FnScope n__law_ring ["_law_checks_here", "_law_counts"] (defScope s__law_ring) := ⟨rfl, rfl, rfl, by decide +kernel, rfl, by decide +kernel, by decide +kernel⟩
abbrev s__law_is_thing : Stmt := (top 68)
abbrev n__law_is_thing : List Str := ["_law_fields_here", "_law_thing_here", "_law_one"]
theorem sc__law_is_thing : FnScope n__law_is_thing ["_law_fields_here", "_law_thing_here"] (defScope s__law_is_thing) := ⟨rfl, rfl, rfl, by decide +kernel, rfl, by decide +kernel, by decide +kernel⟩
abbrev s__law_good : Stmt := (top 69)
abbrev n__law_good : List Str := ["_law_fields_here", "_law_checks_here", "_law_thing_here"]
theorem sc__law_good : FnScope n__law_good ["_law_fields_here", "_law_checks_here", "_law_thing_here"] (defScope s__law_good) := ⟨rfl, rfl, rfl, by decide +kernel, rfl, by decide +kernel, by decide +kernel⟩
abbrev s__law_led : Stmt := (top 70)
abbrev n__law_led : List Str := ["_law_fields_here", "_law_checks_here", "_law_thing_here", "_law_there", "_law_found", "_law_here", "_law_field", "_law_number_here"]
theorem sc__law_led : FnScope n__law_led ["_law_fields_here", "_law_checks_here", "_law_thing_here", "_law_there", "_law_found"] (defScope s__law_led) := ⟨rfl, rfl, rfl, by decide +kernel, rfl, by decide +kernel, by decide +kernel⟩
abbrev s__law_bound : Stmt := (top 71)
abbrev n__law_bound : List Str := ["_law_fields_here", "_law_checks_here", "_law_thing_here", "_law_there", "_law_found", "_law_at_here"]
theorem sc__law_bound : FnScope n__law_bound ["_law_fields_here", "_law_checks_here", "_law_thing_here", "_law_there", "_law_found"] (defScope s__law_bound) := ⟨rfl, rfl, rfl, by decide +kernel, rfl, by decide +kernel, by decide +kernel⟩
abbrev s__law_near : Stmt := (top 74)
abbrev n__law_near : List Str := ["_law_state", "_law_fields_here", "_law_checks_here", "_law_thing_here", "_law_here", "_law_turn", "_law_late", "_law_more", "_law_field"]
theorem sc__law_near : FnScope n__law_near ["_law_state", "_law_fields_here", "_law_checks_here", "_law_thing_here"] (defScope s__law_near) := ⟨rfl, rfl, rfl, by decide +kernel, rfl, by decide +kernel, by decide +kernel⟩
abbrev s__law_lists : Stmt := (top 75)
abbrev n__law_lists : List Str := ["_law_state", "_law_counts", "_law_many", "_law_found", "_law_at_here", "_law_turn"]
theorem sc__law_lists : FnScope n__law_lists ["_law_state", "_law_counts", "_law_many"] (defScope s__law_lists) := ⟨rfl, rfl, rfl, by decide +kernel, rfl, by decide +kernel, by decide +kernel⟩
abbrev s__law_things : Stmt := (top 76)
abbrev n__law_things : List Str := ["_law_thing_here", "_law_fields_here", "_law_found", "_law_more", "_law_late", "_law_fewer", "_law_wider"]
theorem sc__law_things : FnScope n__law_things ["_law_thing_here", "_law_fields_here"] (defScope s__law_things) := ⟨rfl, rfl, rfl, by decide +kernel, rfl, by decide +kernel, by decide +kernel⟩
abbrev s__law_rings_right : Stmt := (top 77)
abbrev n__law_rings_right : List Str := ["_law_state", "_law_fields_here", "_law_checks_here", "_law_thing_here", "_law_kind", "_law_late", "_law_handed", "_law_answer", "_law_due_here", "_law_counts"]
theorem sc__law_rings_right : FnScope n__law_rings_right ["_law_state", "_law_fields_here", "_law_checks_here", "_law_thing_here"] (defScope s__law_rings_right) := ⟨rfl, rfl, rfl, by decide +kernel, rfl, by decide +kernel, by decide +kernel⟩
abbrev s__law_most_due : Stmt := (top 78)
abbrev n__law_most_due : List Str := ["_law_fields_here", "_law_checks_here", "_law_one", "_law_other", "_law_found"]
theorem sc__law_most_due : FnScope n__law_most_due ["_law_fields_here", "_law_checks_here", "_law_one", "_law_other", "_law_found"] (defScope s__law_most_due) := ⟨rfl, rfl, rfl, by decide +kernel, rfl, by decide +kernel, by decide +kernel⟩
abbrev s__law_free_due : Stmt := (top 79)
abbrev n__law_free_due : List Str := ["_law_fields_here", "_law_checks_here", "_law_one", "_law_other", "_law_lot", "_law_end", "_law_check"]
theorem sc__law_free_due : FnScope n__law_free_due ["_law_fields_here", "_law_checks_here", "_law_one", "_law_other", "_law_lot"] (defScope s__law_free_due) := ⟨rfl, rfl, rfl, by decide +kernel, rfl, by decide +kernel, by decide +kernel⟩
abbrev s__law_ends_right : Stmt := (top 80)
abbrev n__law_ends_right : List Str := ["_law_state", "_law_fields_here", "_law_checks_here", "_law_one", "_law_other", "_law_kind", "_law_found", "_law_counts", "_law_number_here", "_law_thing_here", "_law_late", "_law_more", "_law_answer", "_law_lots", "_law_lot"]
theorem sc__law_ends_right : FnScope n__law_ends_right ["_law_state", "_law_fields_here", "_law_checks_here", "_law_one", "_law_other"] (defScope s__law_ends_right) := ⟨rfl, rfl, rfl, by decide +kernel, rfl, by decide +kernel, by decide +kernel⟩
abbrev s__law_kept_right : Stmt := (top 81)
abbrev n__law_kept_right : List Str := ["_law_state", "_law_fields_here", "_law_checks_here", "_law_other", "_law_thing_here", "_law_kind", "_law_late", "_law_rows", "_law_lots", "_law_chains", "_law_answer", "_law_due_here", "_law_counts", "_law_check", "_law_lot_here", "_law_at_here"]
theorem sc__law_kept_right : FnScope n__law_kept_right ["_law_state", "_law_fields_here", "_law_checks_here", "_law_other", "_law_thing_here"] (defScope s__law_kept_right) := ⟨rfl, rfl, rfl, by decide +kernel, rfl, by decide +kernel, by decide +kernel⟩
abbrev s__law_sets_right : Stmt := (top 82)
abbrev n__law_sets_right : List Str := ["_law_state", "_law_fields_here", "_law_checks_here", "_law_thing_here", "_law_there", "_law_kind", "_law_found", "_law_sets", "_law_lots", "_law_lot_here", "_law_answer", "_law_due_here", "_law_counts", "_law_field"]
theorem sc__law_sets_right : FnScope n__law_sets_right ["_law_state", "_law_fields_here", "_law_checks_here", "_law_thing_here", "_law_there"] (defScope s__law_sets_right) := ⟨rfl, rfl, rfl, by decide +kernel, rfl, by decide +kernel, by decide +kernel⟩
abbrev s_law : Stmt := (top 83)
abbrev n_law : List Str := ["_law_script", "_law_by", "_law_state", "_law_fields_here", "_law_thing_here", "_law_checks_here", "_law_bad", "_law_there", "_law_one", "_law_other", "_law_tied_here"]
theorem sc_law : FnScope n_law ["_law_script"] (defScope s_law) := ⟨rfl, rfl, rfl, by decide +kernel, rfl, by decide +kernel, by decide +kernel⟩
abbrev s_Chains_init : Stmt := (inClass (top 3) 0)
abbrev n_Chains_init : List Str := ["self", "kind", "at", "check", "middle"]
theorem sc_Chains_init : FnScope n_Chains_init ["self", "kind"] (defScope s_Chains_init) := ⟨rfl, rfl, rfl, by decide +kernel, rfl, by decide +kernel, by decide +kernel⟩
abbrev s_Chains_better : Stmt := (inClass (top 3) 1)
abbrev n_Chains_better : List Str := ["self", "pair", "total", "counts"]
theorem sc_Chains_better : FnScope n_Chains_better ["self", "pair", "total", "counts"] (defScope s_Chains_better) := ⟨rfl, rfl, rfl, by decide +kernel, rfl, by decide +kernel, by decide +kernel⟩
abbrev s_Chains_join : Stmt := (inClass (top 3) 2)
abbrev n_Chains_join : List Str := ["self", "middle", "one", "other", "first", "second"]
theorem sc_Chains_join : FnScope n_Chains_join ["self", "middle"] (defScope s_Chains_join) := ⟨rfl, rfl, rfl, by decide +kernel, rfl, by decide +kernel, by decide +kernel⟩
abbrev s_Chains_sum_of : Stmt := (inClass (top 3) 3)
abbrev n_Chains_sum_of : List Str := ["self", "one", "other"]
theorem sc_Chains_sum_of : FnScope n_Chains_sum_of ["self", "one", "other"] (defScope s_Chains_sum_of) := ⟨rfl, rfl, rfl, by decide +kernel, rfl, by decide +kernel, by decide +kernel⟩
abbrev s_Chains_counts_of : Stmt := (inClass (top 3) 4)
abbrev n_Chains_counts_of : List Str := ["self", "one", "other"]
theorem sc_Chains_counts_of : FnScope n_Chains_counts_of ["self", "one", "other"] (defScope s_Chains_counts_of) := ⟨rfl, rfl, rfl, by decide +kernel, rfl, by decide +kernel, by decide +kernel⟩
abbrev s_Chains_lowest : Stmt := (inClass (top 3) 5)
abbrev n_Chains_lowest : List Str := ["self", "one", "other"]
theorem sc_Chains_lowest : FnScope n_Chains_lowest ["self", "one"] (defScope s_Chains_lowest) := ⟨rfl, rfl, rfl, by decide +kernel, rfl, by decide +kernel, by decide +kernel⟩
abbrev s_Chains_thing_of : Stmt := (inClass (top 3) 6)
abbrev n_Chains_thing_of : List Str := ["self", "numbers", "found", "end"]
theorem sc_Chains_thing_of : FnScope n_Chains_thing_of ["self", "numbers"] (defScope s_Chains_thing_of) := ⟨rfl, rfl, rfl, by decide +kernel, rfl, by decide +kernel, by decide +kernel⟩
abbrev s_Chains_thing_apart : Stmt := (inClass (top 3) 8)
abbrev n_Chains_thing_apart : List Str := ["self", "other", "numbers", "end", "total"]
theorem sc_Chains_thing_apart : FnScope n_Chains_thing_apart ["self", "other"] (defScope s_Chains_thing_apart) := ⟨rfl, rfl, rfl, by decide +kernel, rfl, by decide +kernel, by decide +kernel⟩
abbrev s_Chains_come_to : Stmt := (inClass (top 3) 9)
abbrev n_Chains_come_to : List Str := ["self", "one", "end"]
theorem sc_Chains_come_to : FnScope n_Chains_come_to ["self", "one"] (defScope s_Chains_come_to) := ⟨rfl, rfl, rfl, by decide +kernel, rfl, by decide +kernel, by decide +kernel⟩
abbrev s_Kind_init : Stmt := (inClass (top 20) 0)
abbrev n_Kind_init : List Str := ["self", "fields", "checks", "one", "check"]
theorem sc_Kind_init : FnScope n_Kind_init ["self", "fields", "checks"] (defScope s_Kind_init) := ⟨rfl, rfl, rfl, by decide +kernel, rfl, by decide +kernel, by decide +kernel⟩
abbrev s_Some_init : Stmt := (inClass (top 33) 0)
abbrev n_Some_init : List Str := ["self", "thing"]
theorem sc_Some_init : FnScope n_Some_init ["self", "thing"] (defScope s_Some_init) := ⟨rfl, rfl, rfl, by decide +kernel, rfl, by decide +kernel, by decide +kernel⟩
abbrev s_Some_shows : Stmt := (inClass (top 33) 1)
abbrev n_Some_shows : List Str := ["self", "kind"]
theorem sc_Some_shows : FnScope n_Some_shows ["self", "kind"] (defScope s_Some_shows) := ⟨rfl, rfl, rfl, by decide +kernel, rfl, by decide +kernel, by decide +kernel⟩
abbrev s_Ring_init : Stmt := (inClass (top 34) 0)
abbrev n_Ring_init : List Str := ["self", "counts"]
theorem sc_Ring_init : FnScope n_Ring_init ["self", "counts"] (defScope s_Ring_init) := ⟨rfl, rfl, rfl, by decide +kernel, rfl, by decide +kernel, by decide +kernel⟩
abbrev s_Ring_shows : Stmt := (inClass (top 34) 1)
abbrev n_Ring_shows : List Str := ["self", "kind"]
theorem sc_Ring_shows : FnScope n_Ring_shows ["self", "kind"] (defScope s_Ring_shows) := ⟨rfl, rfl, rfl, by decide +kernel, rfl, by decide +kernel, by decide +kernel⟩
abbrev s_Most_init : Stmt := (inClass (top 35) 0)
abbrev n_Most_init : List Str := ["self", "number", "counts", "thing"]
theorem sc_Most_init : FnScope n_Most_init ["self", "number", "counts", "thing"] (defScope s_Most_init) := ⟨rfl, rfl, rfl, by decide +kernel, rfl, by decide +kernel, by decide +kernel⟩
abbrev s_Most_shows : Stmt := (inClass (top 35) 1)
abbrev n_Most_shows : List Str := ["self", "kind", "one", "other"]
theorem sc_Most_shows : FnScope n_Most_shows ["self", "kind", "one", "other"] (defScope s_Most_shows) := ⟨rfl, rfl, rfl, by decide +kernel, rfl, by decide +kernel, by decide +kernel⟩
abbrev s_Free_init : Stmt := (inClass (top 36) 0)
abbrev n_Free_init : List Str := ["self", "lot"]
theorem sc_Free_init : FnScope n_Free_init ["self", "lot"] (defScope s_Free_init) := ⟨rfl, rfl, rfl, by decide +kernel, rfl, by decide +kernel, by decide +kernel⟩
abbrev s_Free_shows : Stmt := (inClass (top 36) 1)
abbrev n_Free_shows : List Str := ["self", "kind", "one", "other", "ends", "end", "check"]
theorem sc_Free_shows : FnScope n_Free_shows ["self", "kind", "one", "other"] (defScope s_Free_shows) := ⟨rfl, rfl, rfl, by decide +kernel, rfl, by decide +kernel, by decide +kernel⟩
abbrev s_Keeps_init : Stmt := (inClass (top 37) 0)
abbrev n_Keeps_init : List Str := ["self", "chains", "counts"]
theorem sc_Keeps_init : FnScope n_Keeps_init ["self", "chains"] (defScope s_Keeps_init) := ⟨rfl, rfl, rfl, by decide +kernel, rfl, by decide +kernel, by decide +kernel⟩
abbrev s_Keeps_shows : Stmt := (inClass (top 37) 1)
abbrev n_Keeps_shows : List Str := ["self", "kind", "other", "counts", "check"]
theorem sc_Keeps_shows : FnScope n_Keeps_shows ["self", "kind", "other"] (defScope s_Keeps_shows) := ⟨rfl, rfl, rfl, by decide +kernel, rfl, by decide +kernel, by decide +kernel⟩
abbrev s_Strays_init : Stmt := (inClass (top 38) 0)
abbrev n_Strays_init : List Str := ["self", "thing", "at"]
theorem sc_Strays_init : FnScope n_Strays_init ["self", "thing", "at"] (defScope s_Strays_init) := ⟨rfl, rfl, rfl, by decide +kernel, rfl, by decide +kernel, by decide +kernel⟩
abbrev s_Strays_shows : Stmt := (inClass (top 38) 1)
abbrev n_Strays_shows : List Str := ["self", "kind", "other"]
theorem sc_Strays_shows : FnScope n_Strays_shows ["self", "kind", "other"] (defScope s_Strays_shows) := ⟨rfl, rfl, rfl, by decide +kernel, rfl, by decide +kernel, by decide +kernel⟩
abbrev s_Led_init : Stmt := (inClass (top 39) 0)
abbrev n_Led_init : List Str := ["self", "sets"]
theorem sc_Led_init : FnScope n_Led_init ["self", "sets"] (defScope s_Led_init) := ⟨rfl, rfl, rfl, by decide +kernel, rfl, by decide +kernel, by decide +kernel⟩
abbrev s_Led_shows : Stmt := (inClass (top 39) 1)
abbrev n_Led_shows : List Str := ["self", "kind", "thing", "there", "here", "field", "number"]
theorem sc_Led_shows : FnScope n_Led_shows ["self", "kind", "thing", "there"] (defScope s_Led_shows) := ⟨rfl, rfl, rfl, by decide +kernel, rfl, by decide +kernel, by decide +kernel⟩
abbrev s_Bound_init : Stmt := (inClass (top 40) 0)
abbrev n_Bound_init : List Str := ["self", "field", "counts"]
theorem sc_Bound_init : FnScope n_Bound_init ["self", "field", "counts"] (defScope s_Bound_init) := ⟨rfl, rfl, rfl, by decide +kernel, rfl, by decide +kernel, by decide +kernel⟩
abbrev s_Bound_shows : Stmt := (inClass (top 40) 1)
abbrev n_Bound_shows : List Str := ["self", "kind", "thing", "there", "at"]
theorem sc_Bound_shows : FnScope n_Bound_shows ["self", "kind", "thing", "there"] (defScope s_Bound_shows) := ⟨rfl, rfl, rfl, by decide +kernel, rfl, by decide +kernel, by decide +kernel⟩
/-- what the text gives -/
structure Tx (K : PySem.W.Frag) (mg : Str → Option Value) where
  is_number : Df K mg "is_number" "is_number" s_is_number ["thing"]
  is_name : Df K mg "is_name" "is_name" s_is_name ["thing"]
  is_end : Df K mg "is_end" "is_end" s_is_end ["thing", "fields"]
  is_check : Df K mg "is_check" "is_check" s_is_check ["thing", "fields"]
  is_thing : Df K mg "is_thing" "is_thing" s_is_thing ["thing", "row"]
  number_at : Df K mg "number_at" "number_at" s_number_at ["thing", "end"]
  is_so : Df K mg "is_so" "is_so" s_is_so ["check", "thing"]
  first_wrong : Df K mg "first_wrong" "first_wrong" s_first_wrong ["rules", "thing"]
  leads_on : Df K mg "leads_on" "leads_on" s_leads_on ["rules", "counts"]
  is_chain : Df K mg "is_chain" "is_chain" s_is_chain ["rules", "counts", "one", "other"]
  is_ring : Df K mg "is_ring" "is_ring" s_is_ring ["rules", "counts"]
  sum_of : Df K mg "sum_of" "sum_of" s_sum_of ["rules", "counts"]
  has_things : Df K mg "has_things" "has_things" s_has_things ["kind"]
  is_good : Df K mg "is_good" "is_good" s_is_good ["kind", "thing"]
  full_chains : Df K mg "full_chains" "full_chains" s_full_chains ["kind"]
  farthest : Df K mg "farthest" "farthest" s_farthest ["kind", "one", "other"]
  check_things : Df K mg "check_things" "check_things" s_check_things ["kind", "things"]
  binding : Df K mg "binding" "binding" s_binding ["chains", "field"]
  lowest_for : Df K mg "lowest_for" "lowest_for" s_lowest_for ["kind", "here", "field"]
  highest_for : Df K mg "highest_for" "highest_for" s_highest_for ["kind", "here", "field"]
  lowered : Df K mg "lowered" "lowered" s_lowered ["kind", "here", "goal", "sets"]
  raised : Df K mg "raised" "raised" s_raised ["kind", "here", "goal", "sets"]
  led : Df K mg "led" "led" s_led ["kind", "thing", "there"]
  _law_cell_at : Df K mg "_law_cell_at" "_law_cell_at" s__law_cell_at ["_law_script", "_law_k"]
  _law_draw : Df K mg "_law_draw" "_law_draw" s__law_draw ["_law_cell", "_law_k", "_law_most"]
  _law_number : Df K mg "_law_number" "_law_number" s__law_number ["_law_cell", "_law_k", "_law_limit"]
  _law_next : Df K mg "_law_next" "_law_next" s__law_next ["_law_state", "_law_limit"]
  _law_fields : Df K mg "_law_fields" "_law_fields" s__law_fields ["_law_state"]
  _law_checks : Df K mg "_law_checks" "_law_checks" s__law_checks ["_law_state", "_law_fields_here", "_law_many", "_law_thing_here"]
  _law_thing : Df K mg "_law_thing" "_law_thing" s__law_thing ["_law_state", "_law_fields_here", "_law_far"]
  _law_at : Df K mg "_law_at" "_law_at" s__law_at ["_law_thing_here", "_law_end"]
  _law_wrong : Df K mg "_law_wrong" "_law_wrong" s__law_wrong ["_law_checks_here", "_law_thing_here"]
  _law_sums : Df K mg "_law_sums" "_law_sums" s__law_sums ["_law_fields_here", "_law_checks_here", "_law_start"]
  _law_has : Df K mg "_law_has" "_law_has" s__law_has ["_law_fields_here", "_law_checks_here"]
  _law_leads : Df K mg "_law_leads" "_law_leads" s__law_leads ["_law_checks_here", "_law_counts"]
  _law_total : Df K mg "_law_total" "_law_total" s__law_total ["_law_checks_here", "_law_counts"]
  _law_chain : Df K mg "_law_chain" "_law_chain" s__law_chain ["_law_checks_here", "_law_counts", "_law_one", "_law_other"]
  _law_ring : Df K mg "_law_ring" "_law_ring" s__law_ring ["_law_checks_here", "_law_counts"]
  _law_is_thing : Df K mg "_law_is_thing" "_law_is_thing" s__law_is_thing ["_law_fields_here", "_law_thing_here"]
  _law_good : Df K mg "_law_good" "_law_good" s__law_good ["_law_fields_here", "_law_checks_here", "_law_thing_here"]
  _law_led : Df K mg "_law_led" "_law_led" s__law_led ["_law_fields_here", "_law_checks_here", "_law_thing_here", "_law_there", "_law_found"]
  _law_bound : Df K mg "_law_bound" "_law_bound" s__law_bound ["_law_fields_here", "_law_checks_here", "_law_thing_here", "_law_there", "_law_found"]
  _law_near : Df K mg "_law_near" "_law_near" s__law_near ["_law_state", "_law_fields_here", "_law_checks_here", "_law_thing_here"]
  _law_lists : Df K mg "_law_lists" "_law_lists" s__law_lists ["_law_state", "_law_counts", "_law_many"]
  _law_things : Df K mg "_law_things" "_law_things" s__law_things ["_law_thing_here", "_law_fields_here"]
  _law_rings_right : Df K mg "_law_rings_right" "_law_rings_right" s__law_rings_right ["_law_state", "_law_fields_here", "_law_checks_here", "_law_thing_here"]
  _law_most_due : Df K mg "_law_most_due" "_law_most_due" s__law_most_due ["_law_fields_here", "_law_checks_here", "_law_one", "_law_other", "_law_found"]
  _law_free_due : Df K mg "_law_free_due" "_law_free_due" s__law_free_due ["_law_fields_here", "_law_checks_here", "_law_one", "_law_other", "_law_lot"]
  _law_ends_right : Df K mg "_law_ends_right" "_law_ends_right" s__law_ends_right ["_law_state", "_law_fields_here", "_law_checks_here", "_law_one", "_law_other"]
  _law_kept_right : Df K mg "_law_kept_right" "_law_kept_right" s__law_kept_right ["_law_state", "_law_fields_here", "_law_checks_here", "_law_other", "_law_thing_here"]
  _law_sets_right : Df K mg "_law_sets_right" "_law_sets_right" s__law_sets_right ["_law_state", "_law_fields_here", "_law_checks_here", "_law_thing_here", "_law_there"]
  law : Df K mg "law" "law" s_law ["_law_script"]
  Chains : Cl K mg "Chains"
  Kind : Cl K mg "Kind"
  Some : Cl K mg "Some"
  Ring : Cl K mg "Ring"
  Most : Cl K mg "Most"
  Free : Cl K mg "Free"
  Keeps : Cl K mg "Keeps"
  Strays : Cl K mg "Strays"
  Led : Cl K mg "Led"
  Bound : Cl K mg "Bound"
  Chains_init : Mt K Chains.C "__init__" "Chains.__init__" s_Chains_init ["self", "kind"]
  mk_Chains : Mk K Chains.C Chains_init.f
  Chains_better : Mt K Chains.C "better" "Chains.better" s_Chains_better ["self", "pair", "total", "counts"]
  Chains_join : Mt K Chains.C "join" "Chains.join" s_Chains_join ["self", "middle"]
  Chains_sum_of : Mt K Chains.C "sum_of" "Chains.sum_of" s_Chains_sum_of ["self", "one", "other"]
  Chains_counts_of : Mt K Chains.C "counts_of" "Chains.counts_of" s_Chains_counts_of ["self", "one", "other"]
  Chains_lowest : Mt K Chains.C "lowest" "Chains.lowest" s_Chains_lowest ["self", "one"]
  Chains_thing_of : Mt K Chains.C "thing_of" "Chains.thing_of" s_Chains_thing_of ["self", "numbers"]
  Chains_thing_apart : Mt K Chains.C "thing_apart" "Chains.thing_apart" s_Chains_thing_apart ["self", "other"]
  Chains_come_to : Mt K Chains.C "come_to" "Chains.come_to" s_Chains_come_to ["self", "one"]
  Kind_init : Mt K Kind.C "__init__" "Kind.__init__" s_Kind_init ["self", "fields", "checks"]
  mk_Kind : Mk K Kind.C Kind_init.f
  Some_init : Mt K Some.C "__init__" "Some.__init__" s_Some_init ["self", "thing"]
  mk_Some : Mk K Some.C Some_init.f
  Some_shows : Mt K Some.C "shows" "Some.shows" s_Some_shows ["self", "kind"]
  Ring_init : Mt K Ring.C "__init__" "Ring.__init__" s_Ring_init ["self", "counts"]
  mk_Ring : Mk K Ring.C Ring_init.f
  Ring_shows : Mt K Ring.C "shows" "Ring.shows" s_Ring_shows ["self", "kind"]
  Most_init : Mt K Most.C "__init__" "Most.__init__" s_Most_init ["self", "number", "counts", "thing"]
  mk_Most : Mk K Most.C Most_init.f
  Most_shows : Mt K Most.C "shows" "Most.shows" s_Most_shows ["self", "kind", "one", "other"]
  Free_init : Mt K Free.C "__init__" "Free.__init__" s_Free_init ["self", "lot"]
  mk_Free : Mk K Free.C Free_init.f
  Free_shows : Mt K Free.C "shows" "Free.shows" s_Free_shows ["self", "kind", "one", "other"]
  Keeps_init : Mt K Keeps.C "__init__" "Keeps.__init__" s_Keeps_init ["self", "chains"]
  mk_Keeps : Mk K Keeps.C Keeps_init.f
  Keeps_shows : Mt K Keeps.C "shows" "Keeps.shows" s_Keeps_shows ["self", "kind", "other"]
  Strays_init : Mt K Strays.C "__init__" "Strays.__init__" s_Strays_init ["self", "thing", "at"]
  mk_Strays : Mk K Strays.C Strays_init.f
  Strays_shows : Mt K Strays.C "shows" "Strays.shows" s_Strays_shows ["self", "kind", "other"]
  Led_init : Mt K Led.C "__init__" "Led.__init__" s_Led_init ["self", "sets"]
  mk_Led : Mk K Led.C Led_init.f
  Led_shows : Mt K Led.C "shows" "Led.shows" s_Led_shows ["self", "kind", "thing", "there"]
  Bound_init : Mt K Bound.C "__init__" "Bound.__init__" s_Bound_init ["self", "field", "counts"]
  mk_Bound : Mk K Bound.C Bound_init.f
  Bound_shows : Mt K Bound.C "shows" "Bound.shows" s_Bound_shows ["self", "kind", "thing", "there"]
  n_Chains_ends : NoAttr K Chains.C "ends"
  n_Chains_rules : NoAttr K Chains.C "rules"
  n_Chains_table : NoAttr K Chains.C "table"
  n_Chains_ring : NoAttr K Chains.C "ring"
  n_Kind_row : NoAttr K Kind.C "row"
  n_Kind_rules : NoAttr K Kind.C "rules"
  n_Some_thing : NoAttr K Some.C "thing"
  n_Ring_counts : NoAttr K Ring.C "counts"
  n_Most_number : NoAttr K Most.C "number"
  n_Most_counts : NoAttr K Most.C "counts"
  n_Most_thing : NoAttr K Most.C "thing"
  n_Free_lot : NoAttr K Free.C "lot"
  n_Keeps_chains : NoAttr K Keeps.C "chains"
  n_Strays_thing : NoAttr K Strays.C "thing"
  n_Strays_at : NoAttr K Strays.C "at"
  n_Led_sets : NoAttr K Led.C "sets"
  n_Bound_field : NoAttr K Bound.C "field"
  n_Bound_counts : NoAttr K Bound.C "counts"
  i_Most_Most : PySem.W.kitOne K (.ref Most.C) (.ref Most.C) = Option.some true
  i_Free_Most : PySem.W.kitOne K (.ref Free.C) (.ref Most.C) = Option.some false
  i_Most_Free : PySem.W.kitOne K (.ref Most.C) (.ref Free.C) = Option.some false
  i_Free_Free : PySem.W.kitOne K (.ref Free.C) (.ref Free.C) = Option.some true
  i_Led_Led : PySem.W.kitOne K (.ref Led.C) (.ref Led.C) = Option.some true
  i_Bound_Led : PySem.W.kitOne K (.ref Bound.C) (.ref Led.C) = Option.some false
  i_Led_Bound : PySem.W.kitOne K (.ref Led.C) (.ref Bound.C) = Option.some false
  i_Bound_Bound : PySem.W.kitOne K (.ref Bound.C) (.ref Bound.C) = Option.some true
  b_abs : mg "abs" = none
  b_all : mg "all" = none
  b_any : mg "any" = none
  b_bool : mg "bool" = none
  b_dict : mg "dict" = none
  b_enumerate : mg "enumerate" = none
  b_int : mg "int" = none
  b_isinstance : mg "isinstance" = none
  b_len : mg "len" = none
  b_list : mg "list" = none
  b_max : mg "max" = none
  b_min : mg "min" = none
  b_range : mg "range" = none
  b_set : mg "set" = none
  b_sorted : mg "sorted" = none
  b_str : mg "str" = none
  b_sum : mg "sum" = none
  b_tuple : mg "tuple" = none
  b_zip : mg "zip" = none
  t_MUCH : Tok
  c_MUCH : mg "MUCH" = Option.some (.int 5000 t_MUCH)
  t_LETTERS : Tok
  c_LETTERS : mg "LETTERS" = Option.some (.str "abcdefghijklmnopqrstuvwxyz" t_LETTERS)
  t_MOST_FIELDS : Tok
  c_MOST_FIELDS : mg "MOST_FIELDS" = Option.some (.int 6 t_MOST_FIELDS)
  t_MOST_CHECKS : Tok
  c_MOST_CHECKS : mg "MOST_CHECKS" = Option.some (.int 16 t_MOST_CHECKS)
  t_FARTHEST : Tok
  c_FARTHEST : mg "FARTHEST" = Option.some (.int 100 t_FARTHEST)
  t_FAR : Tok
  c_FAR : mg "FAR" = Option.some (.int 40 t_FAR)
  law_b1 : ∀ (s : Shared) (u : Value), BindsTo s law.fd ⟨[u], []⟩ [("_law_script", u)]
end FK
set_option maxHeartbeats 8000000
namespace FK
open PySem L2
section
variable {P : Program} {w : World} {K : PySem.W.Frag} {mg : Str → Option Value} {base : Heap}
def R_number_at (ts : List T) (t : T) : Prop := ∃ th e, ts = [tT th, eT e] ∧ Has th e ∧ t = .int (numAt th e)
set_option maxHeartbeats 8000000 in
theorem ok_number_at (T : Tx K mg) : FnOk P w K mg base CX0 1 T.number_at.f T.number_at.fd ["thing", "end"] (spT P w (R_number_at)) := by
  refine T.number_at.F.ok sc_number_at (len_T fun ts t h => by unfold R_number_at at h; obtain ⟨_, _, rfl, _⟩ := h; rfl) (fun cdv A outer s H vs Q E hr h => ⟨_, (pss_one (ps_ret (pe_ifExp (pt_cmpR op_isA (pv 1) pe_non (nomark _)) pe_int (pe_ix (ix_any (hu_of hr)) (pv 0) (pv 1) (fun _ _ => rfl))))), run_T (N := n_number_at) h ?_⟩)
  rintro ts r ⟨th, e, rfl, hh, rfl⟩
  refine bd_ret (ed_ifp (et_test (ed_isN (ed_var (t := eT e) rfl))) (fun b => ?_) (fun b => ?_)) rfl
  · cases e with
    | none => exact ed_int
    | some x => cases b
  · cases e with
    | none => cases b
    | some x => exact ed_ixD (ed_var rfl) (ed_var rfl) (look_has hh)
def R_is_so (ts : List T) (t : T) : Prop := ∃ c th, ts = [cT c, tT th] ∧ Has th c.1 ∧ Has th c.2.1 ∧ t = .bl (soB th c)
set_option maxHeartbeats 8000000 in
theorem ok_is_so (T : Tx K mg) : FnOk P w K mg base CX0 2 T.is_so.f T.is_so.fd ["check", "thing"] (spT P w (R_is_so)) := by
  refine T.is_so.F.ok sc_is_so (len_T fun ts t h => by unfold R_is_so at h; obtain ⟨_, _, rfl, _⟩ := h; rfl) (fun cdv A outer s H vs Q E hr h => ⟨_, (pss_one (ps_ret (pe_cmpR op_le (pe_op op_sub (pe_call (ok_number_at (P := P) (w := w) (base := base) T) (hr.mono (by decide)) (by rfl) T.number_at.g T.number_at.F.kp T.number_at.b .nil pass0 (pa_cons (pv 1) (pa_cons (pe_ix (ix_any (hu_of hr)) (pv 0) pe_int (fun _ _ => rfl)) pa_nil))) (pe_call (ok_number_at (P := P) (w := w) (base := base) T) (hr.mono (by decide)) (by rfl) T.number_at.g T.number_at.F.kp T.number_at.b .nil pass0 (pa_cons (pv 1) (pa_cons (pe_ix (ix_any (hu_of hr)) (pv 0) pe_int (fun _ _ => rfl)) pa_nil)))) (pe_ix (ix_any (hu_of hr)) (pv 0) pe_int (fun _ _ => rfl)) (nomark _)))), run_T (N := n_is_so) h ?_⟩)
  rintro ts r ⟨c, th, rfl, h1, h2, rfl⟩
  refine bd_ret (ed_le (ed_sub (ed_call (ea_cons (ed_var rfl) (ea_cons (ed_ixT (ed_var rfl) ed_int rfl) ea_nil)) ⟨th, c.1, rfl, h1, rfl⟩)
    (ed_call (ea_cons (ed_var rfl) (ea_cons (ed_ixT (ed_var rfl) ed_int rfl) ea_nil)) ⟨th, c.2.1, rfl, h2, rfl⟩)) (ed_ixT (ed_var rfl) ed_int rfl)) rfl
def R_first_wrong (ts : List T) (t : T) : Prop := ∃ cs th, ts = [csT cs, tT th] ∧ (∀ c ∈ cs, Has th c.1 ∧ Has th c.2.1) ∧ t = oT (fw cs th)
set_option maxHeartbeats 8000000 in
theorem ok_first_wrong (T : Tx K mg) : FnOk P w K mg base CX0 3 T.first_wrong.f T.first_wrong.fd ["rules", "thing"] (spT P w (R_first_wrong)) := by
  refine T.first_wrong.F.ok sc_first_wrong (len_T fun ts t h => by unfold R_first_wrong at h; obtain ⟨_, _, rfl, _⟩ := h; rfl) (fun cdv A outer s H vs Q E hr h => ⟨_, (pss_cons (ps_for PassesOwn.never rfl (pi_enum (by rfl) T.b_enumerate (pa_cons (pv 0) pa_nil)) (pg_tup rfl (pgs_cons (gn 2 (sc_first_wrong).nd) (pgs_cons (gn 3 (sc_first_wrong).nd) pgs_nil))) (pss_one (ps_if (pt_not (pt_val (pe_call (ok_is_so (P := P) (w := w) (base := base) T) (hr.mono (by decide)) (by rfl) T.is_so.g T.is_so.F.kp T.is_so.b .nil pass0 (pa_cons (pv 3) (pa_cons (pv 1) pa_nil))))) (pss_one (ps_ret (pv 2))) pss_nil))) (pss_one (ps_ret pe_non))), run_T (N := n_first_wrong) h ?_⟩)
  rintro ts r ⟨cs, th, rfl, h, rfl⟩
  refine bd_seq (Nx := fun Γ' => oT (fw cs th) = .non) (bd_for (fun i Γ' => (∃ a b, Γ' = ⟨[some (csT cs), some (tT th), a, b], []⟩) ∧ ∀ c ∈ cs.take i, soB th c = true) (ei_enum (ea_cons (ed_var rfl) ea_nil)) ⟨⟨_, _, rfl⟩, by simp⟩ ?_ ?_) (fun Γ' n => bd_ret ed_non n.symm)
  · rintro i Γ' hi ⟨⟨a, b, rfl⟩, hp⟩
    have hi' : i < cs.length := by simpa using hi
    refine ⟨_, eg_tup (egs_cons eg_name (egs_cons eg_name egs_nil)) rfl, ?_⟩
    rw [getD_map hi']
    refine bd_if (et_not (et_val (ed_call (ea_cons (ed_var rfl) (ea_cons (ed_var rfl) ea_nil)) ⟨cs[i], th, rfl, (h _ (List.getElem_mem hi')).1, (h _ (List.getElem_mem hi')).2, rfl⟩))) (fun q => ?_) (fun q => ?_)
    · refine bd_ret (ed_var rfl) ?_
      have e : cs = cs.take i ++ cs[i] :: cs.drop (i + 1) := by rw [List.getElem_cons_drop, List.take_append_drop]
      have f : fw cs th = some i := by
        unfold fw
        rw [e, fwFrom_pre th _ _ 0 hp]
        show (if soB th cs[i] then _ else some _) = _
        have q' : soB th cs[i] = false := by simpa using q
        rw [q', if_neg Bool.false_ne_true, List.length_take]
        congr 1
        omega
      rw [f]
      rfl
    · refine bd_next ⟨⟨_, _, rfl⟩, fun c hc => ?_⟩
      rw [take_succ_at (List.getElem?_eq_getElem hi')] at hc
      rcases List.mem_append.mp hc with hc | hc
      · exact hp c hc
      · rw [List.mem_singleton.mp hc]
        simpa using q
  · rintro Γ' ⟨_, hp⟩
    have f : fw cs th = none := by
      unfold fw
      rw [show cs = cs ++ [] by simp, fwFrom_pre th cs [] 0 (fun c hc => hp c (by simpa using hc))]
      rfl
    rw [f]
    rfl
def R_is_number (ts : List T) (t : T) : Prop := ∃ i, ts = [.int i] ∧ t = .bl true
set_option maxHeartbeats 8000000 in
theorem ok_is_number (T : Tx K mg) : FnOk P w K mg base CX0 1 T.is_number.f T.is_number.fd ["thing"] (spT P w (R_is_number)) := by
  refine T.is_number.F.ok sc_is_number (len_T fun ts t h => by unfold R_is_number at h; obtain ⟨_, rfl, _⟩ := h; rfl) (fun cdv A outer s H vs Q E hr h => ⟨_, (pss_one (ps_ret (pe_and (pe_callB call_isi (by rfl) T.b_isinstance (by decide +kernel) (pa_cons (pv 0) (pa_cons (pe_bltn (v := .ty "int") (by rfl) T.b_int (by decide +kernel) rfl) pa_nil))) (pe_one (pe_not (pe_callB call_isi (by rfl) T.b_isinstance (by decide +kernel) (pa_cons (pv 0) (pa_cons (pe_bltn (v := .ty "bool") (by rfl) T.b_bool (by decide +kernel) rfl) pa_nil)))))))), run_T (N := n_is_number) h ?_⟩)
  rintro ts r ⟨i, rfl, rfl⟩
  exact bd_ret (ed_and (ed_isi (ea_cons (ed_var rfl) (ea_cons ed_val ea_nil)) rfl (.ty "int") kit_int_int) (fun _ => ed_not (ed_isi (ea_cons (ed_var rfl) (ea_cons ed_val ea_nil)) rfl (.ty "bool") kit_int_bool))) rfl
def R_is_name (ts : List T) (t : T) : Prop := ∃ x, ts = [.str x] ∧ x.length ≤ 1000 ∧ t = .bl (nameB x)
set_option maxHeartbeats 8000000 in
theorem ok_is_name (T : Tx K mg) : FnOk P w K mg base CX0 1 T.is_name.f T.is_name.fd ["thing"] (spT P w (R_is_name)) := by
  refine T.is_name.F.ok sc_is_name (len_T fun ts t h => by unfold R_is_name at h; obtain ⟨_, rfl, _⟩ := h; rfl) (fun cdv A outer s H vs Q E hr h => ⟨_, (pss_one (ps_ret (pe_and (pe_callB call_isi (by rfl) T.b_isinstance (by decide +kernel) (pa_cons (pv 0) (pa_cons (pe_bltn (v := .ty "str") (by rfl) T.b_str (by decide +kernel) rfl) pa_nil))) (pe_and (pe_chain op_le op_le pe_int (pe_callB call_lenA (by rfl) T.b_len (by decide +kernel) (pa_cons (pv 0) pa_nil)) pe_int) (pe_one (pe_callB (cr_all rfl) (by rfl) T.b_all (by decide +kernel) (pa_cons (pe_lc (own := [("sign", 1)]) rfl (sc_is_name).nd (pi_str (pv 0)) (blkOk_by (N := n_is_name) (sc := defScope s_is_name) (by decide +kernel)) (fun _ _ _ _ _ => (gn 1 (sc_is_name).nd)) (fun _ _ _ _ _ => pts_nil) (fun _ _ _ _ _ => (pe_cmpR (show OpR _ _ (rInA P w K) from (op_inA (hu_of hr))) (pv 1) (pe_glob (v := .str "abcdefghijklmnopqrstuvwxyz") (by rfl) T.c_LETTERS ⟨_, rfl⟩) (by rfl)))) pa_nil))))))), run_T (N := n_is_name) h ?_⟩)
  rintro ts r ⟨x, rfl, hx, rfl⟩
  refine bd_ret (ed_and (ed_isi (ea_cons (ed_var rfl) (ea_cons ed_val ea_nil)) rfl (.ty "str") kit_str_str) (fun _ => ed_and (ed_chain (ed_int (i := 1)) (ed_lenS (ea_one (ed_var rfl)) hx) (rt_I0 fun _ => .bl _) (fun _ => ed_int (i := 8)) (fun _ => rt_I0 fun _ => .bl _)) (fun _ => ed_allI (fun i => decide (x.cps.toList.getD i 0 ∈ letters.cps.toList)) (ei_str (ed_var rfl)) (Nat.le_trans hx (by decide)) rfl (fun i hi => ⟨_, _, ev_name (by simp), ed_inS (ed_var rfl) ed_str, rfl⟩)))) ?_
  have e : (List.range x.cps.size).all (fun i => decide (x.cps.toList.getD i 0 ∈ letters.cps.toList)) = x.cps.toList.all fun c => decide (c ∈ letters.cps.toList) := by
    rw [Bool.eq_iff_iff, List.all_eq_true, List.all_eq_true]
    constructor
    · intro h c hc
      obtain ⟨i, hi, e⟩ := List.mem_iff_getElem.mp hc
      have := h i (List.mem_range.mpr (by simpa using hi))
      rwa [List.getD_eq_getElem?_getD, List.getElem?_eq_getElem hi, Option.getD_some, e] at this
    · intro h i hi
      have hi : i < x.cps.toList.length := by simpa using hi
      rw [List.getD_eq_getElem?_getD, List.getElem?_eq_getElem hi, Option.getD_some]
      exact h _ (List.getElem_mem hi)
  rw [e]
  show FK.T.bl (true && ((decide ((1 : Int) ≤ (x.length : Nat)) && decide (((x.length : Nat) : Int) ≤ 8)) && _)) = FK.T.bl (nameB x)
  unfold nameB
  have e1 : decide ((1 : Int) ≤ (x.length : Nat)) = decide (1 ≤ x.length) := by
    by_cases z : 1 ≤ x.length
    · rw [decide_eq_true z, decide_eq_true (by omega)]
    · rw [decide_eq_false z, decide_eq_false (by omega)]
  have e2 : decide (((x.length : Nat) : Int) ≤ 8) = decide (x.length ≤ 8) := by
    by_cases z : x.length ≤ 8
    · rw [decide_eq_true z, decide_eq_true (by omega)]
    · rw [decide_eq_false z, decide_eq_false (by omega)]
  rw [e1, e2, Bool.true_and]
def R_is_end (ts : List T) (t : T) : Prop := ∃ e fs, ts = [eT e, fsT fs] ∧ t = .bl (endB e fs)
set_option maxHeartbeats 8000000 in
theorem ok_is_end (T : Tx K mg) : FnOk P w K mg base CX0 1 T.is_end.f T.is_end.fd ["thing", "fields"] (spT P w (R_is_end)) := by
  refine T.is_end.F.ok sc_is_end (len_T fun ts t h => by unfold R_is_end at h; obtain ⟨_, _, rfl, _⟩ := h; rfl) (fun cdv A outer s H vs Q E hr h => ⟨_, (pss_one (ps_ret (pe_or (pe_cmpR op_isA (pv 0) pe_non (nomark _)) (pe_one (pe_and (pe_callB call_isi (by rfl) T.b_isinstance (by decide +kernel) (pa_cons (pv 0) (pa_cons (pe_bltn (v := .ty "str") (by rfl) T.b_str (by decide +kernel) rfl) pa_nil))) (pe_one (pe_cmpR (op_inA (hu_of hr)) (pv 0) (pv 1) (by rfl)))))))), run_T (N := n_is_end) h ?_⟩)
  rintro ts r ⟨e, fs, rfl, rfl⟩
  cases e with
  | none =>
    refine bd_ret (ed_or (c := true) (ed_isN (ed_var (t := .non) rfl)) (fun q => by cases q)) ?_
    have : endB none fs = true := decide_eq_true (mem_endsOf.mpr fun x q => by cases q)
    rw [this]
    rfl
  | some x =>
    refine bd_ret (ed_or (ed_isN (ed_var (t := .str x) rfl)) (fun _ => ed_and (ed_isi (ea_cons (ed_var (t := .str x) rfl) (ea_cons ed_val ea_nil)) rfl (.ty "str") kit_str_str) (fun _ => ed_inE (e := some x) (es := fs.map some) (ed_var rfl) (ed_var (t := endsT (fs.map some)) (by rw [← fsT_ends]; rfl))))) ?_
    show FK.T.bl (false || (true && decide ((some x : End) ∈ fs.map some))) = _
    rw [Bool.false_or, Bool.true_and]
    unfold endB endsOf
    congr 1
    refine decide_eq_decide.mpr ⟨fun h => List.mem_append_left _ h, fun h => ?_⟩
    rcases List.mem_append.mp h with h | h
    · exact h
    · simp at h
def R_is_check (ts : List T) (t : T) : Prop := ∃ c fs, ts = [cT c, fsT fs] ∧ t = .bl (chkB fs c)
set_option maxHeartbeats 8000000 in
theorem ok_is_check (T : Tx K mg) : FnOk P w K mg base CX0 2 T.is_check.f T.is_check.fd ["thing", "fields"] (spT P w (R_is_check)) := by
  refine T.is_check.F.ok sc_is_check (len_T fun ts t h => by unfold R_is_check at h; obtain ⟨_, _, rfl, _⟩ := h; rfl) (fun cdv A outer s H vs Q E hr h => ⟨_, (pss_cons (ps_if (PW.pt (pw_or (pt_not (pt_val (pe_callB call_isi (by rfl) T.b_isinstance (by decide +kernel) (pa_cons (pv 0) (pa_cons (pe_bltn (v := .ty "tuple") (by rfl) T.b_tuple (by decide +kernel) rfl) pa_nil))))) (pw_or (pt_cmpR (op_neA hr.units) (pe_callB call_lenA (by rfl) T.b_len (by decide +kernel) (pa_cons (pv 0) pa_nil)) pe_int (nomark _)) (pw_or (pt_not (pt_val (pe_call (ok_is_number (P := P) (w := w) (base := base) T) (hr.mono (by decide)) (by rfl) T.is_number.g T.is_number.F.kp T.is_number.b .nil pass0 (pa_cons (pe_ix (ix_any (hu_of hr)) (pv 0) pe_int (fun _ _ => rfl)) pa_nil)))) (pw_or1 (pt_cmpR op_gt (pe_callB call_abs (by rfl) T.b_abs (by decide +kernel) (pa_cons (pe_ix (ix_any (hu_of hr)) (pv 0) pe_int (fun _ _ => rfl)) pa_nil)) (pe_glob (v := .int 100) (by rfl) T.c_FARTHEST ⟨_, rfl⟩) (nomark _))))))) (pss_one (ps_ret pe_bl)) pss_nil) (pss_one (ps_ret (pe_and (pe_call (ok_is_end (P := P) (w := w) (base := base) T) (hr.mono (by decide)) (by rfl) T.is_end.g T.is_end.F.kp T.is_end.b .nil pass0 (pa_cons (pe_ix (ix_any (hu_of hr)) (pv 0) pe_int (fun _ _ => rfl)) (pa_cons (pv 1) pa_nil))) (pe_and (pe_call (ok_is_end (P := P) (w := w) (base := base) T) (hr.mono (by decide)) (by rfl) T.is_end.g T.is_end.F.kp T.is_end.b .nil pass0 (pa_cons (pe_ix (ix_any (hu_of hr)) (pv 0) pe_int (fun _ _ => rfl)) (pa_cons (pv 1) pa_nil))) (pe_one (pe_cmpR (op_neA hr.units) (pe_ix (ix_any (hu_of hr)) (pv 0) pe_int (fun _ _ => rfl)) (pe_ix (ix_any (hu_of hr)) (pv 0) pe_int (fun _ _ => rfl)) (nomark _)))))))), run_T (N := n_is_check) h ?_⟩)
  rintro ts r ⟨c, fs, rfl, rfl⟩
  refine bd_then (bd_if (et_or (et_not (et_val (ed_isi (ea_cons (ed_var rfl) (ea_cons ed_val ea_nil)) rfl (.ty "tuple") kit_tuple))) (fun _ => et_or (et_test (ed_neI (ed_lenT (ea_one (ed_var rfl))) ed_int)) (fun _ => et_or (et_not (et_val (ed_call (ea_one (ed_ixT (ed_var rfl) ed_int rfl)) ⟨c.2.2, rfl, rfl⟩))) (fun _ => et_test (ed_gt (ed_abs (ea_one (ed_ixT (ed_var rfl) ed_int rfl))) ed_int))))) (fun q => bd_ret ed_bl ?_) (fun q => bd_next (bd_ret (ed_and (ed_call (ea_cons (ed_ixT (ed_var rfl) ed_int rfl) (ea_cons (ed_var rfl) ea_nil)) ⟨c.1, fs, rfl, rfl⟩) (fun _ => ed_and (ed_call (ea_cons (ed_ixT (ed_var rfl) ed_int rfl) (ea_cons (ed_var rfl) ea_nil)) ⟨c.2.1, fs, rfl, rfl⟩) (fun _ => ed_neE (a := c.1) (b := c.2.1) (ed_ixT (ed_var rfl) ed_int rfl) (ed_ixT (ed_var rfl) ed_int rfl)))) ?_)))
  · have q : decide ((100 : Int) < if c.2.2 < 0 then -c.2.2 else c.2.2) = true := q
    have q := of_decide_eq_true q
    have : (decide (-100 ≤ c.2.2) && decide (c.2.2 ≤ 100)) = false := by
      rw [Bool.and_eq_false_iff]
      split at q
      · exact .inl (decide_eq_false (by omega))
      · exact .inr (decide_eq_false (by omega))
    unfold chkB
    rw [this]
    rfl
  · have q : decide ((100 : Int) < if c.2.2 < 0 then -c.2.2 else c.2.2) = false := q
    have q := of_decide_eq_false q
    have : (decide (-100 ≤ c.2.2) && decide (c.2.2 ≤ 100)) = true := by
      rw [Bool.and_eq_true, decide_eq_true_eq, decide_eq_true_eq]
      split at q <;> omega
    unfold chkB
    rw [this]
    rfl
end
end FK
set_option maxHeartbeats 8000000
namespace FK
open PySem L2
section
variable {P : Program} {w : World} {K : PySem.W.Frag} {mg : Str → Option Value} {base : Heap}
def thB (fs : List Str) (th : Thing) : Bool := decide (th.length = fs.length) && fs.all fun x => (getA th x).isSome
def R_is_thing (ts : List T) (t : T) : Prop := ∃ th fs, ts = [tT th, fsT fs] ∧ fs.length ≤ 1000 ∧ t = .bl (thB fs th)
theorem thB_th {fs : List Str} {th : Thing} (h : thB fs th = true) : IsTh fs th := fun x hx => by
  unfold thB at h
  rw [Bool.and_eq_true, List.all_eq_true] at h
  exact Option.isSome_iff_exists.mp (h.2 x hx)
set_option maxHeartbeats 8000000 in
theorem ok_is_thing (T : Tx K mg) : FnOk P w K mg base CX0 2 T.is_thing.f T.is_thing.fd ["thing", "row"] (spT P w (R_is_thing)) := by
  refine T.is_thing.F.ok sc_is_thing (len_T fun ts t h => by unfold R_is_thing at h; obtain ⟨_, _, rfl, _⟩ := h; rfl) (fun cdv A outer s H vs Q E hr h => ⟨_, (pss_cons (ps_if (PW.pt (pw_or (pt_not (pt_val (pe_callB call_isi (by rfl) T.b_isinstance (by decide +kernel) (pa_cons (pv 0) (pa_cons (pe_bltn (v := .ty "dict") (by rfl) T.b_dict (by decide +kernel) rfl) pa_nil))))) (pw_or (pt_cmpR (op_neA hr.units) (pe_callB call_lenA (by rfl) T.b_len (by decide +kernel) (pa_cons (pv 0) pa_nil)) (pe_callB call_lenA (by rfl) T.b_len (by decide +kernel) (pa_cons (pv 1) pa_nil)) (nomark _)) (pw_or1 (pt_not (pt_val (pe_callB (cr_all rfl) (by rfl) T.b_all (by decide +kernel) (pa_cons (pe_lc (own := [("field", 2)]) rfl (sc_is_thing).nd (pi_list (pv 1)) (blkOk_by (N := n_is_thing) (sc := defScope s_is_thing) (by decide +kernel)) (fun _ _ _ _ _ => (gn 2 (sc_is_thing).nd)) (fun _ _ _ _ _ => pts_nil) (fun _ _ _ _ _ => (pe_cmpR (show OpR _ _ (rInA P w K) from (op_inA (hu_of hr))) (pv 2) (pv 0) (by rfl)))) pa_nil)))))))) (pss_one (ps_ret pe_bl)) pss_nil) (pss_one (ps_ret (pe_callB (cr_all rfl) (by rfl) T.b_all (by decide +kernel) (pa_cons (pe_lc (own := [("field", 2)]) rfl (sc_is_thing).nd (pi_list (pv 1)) (blkOk_by (N := n_is_thing) (sc := defScope s_is_thing) (by decide +kernel)) (fun _ _ _ _ _ => (gn 2 (sc_is_thing).nd)) (fun _ _ _ _ _ => pts_nil) (fun _ _ _ _ _ => (pe_call (ok_is_number (P := P) (w := w) (base := base) T) (hr.mono (by decide)) (by rfl) T.is_number.g T.is_number.F.kp T.is_number.b .nil pass0 (pa_cons (pe_ix (show IxR _ (rIxA P w K) from (ix_any (hu_of hr))) (pv 0) (pv 2) (fun _ _ => rfl)) pa_nil)))) pa_nil))))), run_T (N := n_is_thing) h ?_⟩)
  rintro ts r ⟨th, fs, rfl, hl, rfl⟩
  have elen : (!decide (((th.map fun p => (p.1, FK.T.int p.2)).length : Nat) = (((fs.map FK.T.str).length : Nat) : Int))) = !decide (th.length = fs.length) := by
    congr 1
    rw [List.length_map, List.length_map]
    refine decide_eq_decide.mpr ?_
    omega
  have hl' : fs.length ≤ 100000 := Nat.le_trans hl (by decide)
  refine bd_then (bd_if (et_or (et_not (et_val (ed_isi (ea_cons (ed_var rfl) (ea_cons ed_val ea_nil)) rfl (.ty "dict") kit_dict))) (fun _ => et_or (et_test ((ed_neI (ed_lenD (ea_one (ed_var rfl))) (ed_lenL (ea_one (ed_var rfl)))).to (congrArg FK.T.bl elen))) (fun _ => et_not (et_val (ed_allL (g := FK.T.str) (xs := fs) (fun x => (getA th x).isSome) (ed_var rfl) hl' rfl (fun x hx => ⟨_, _, ev_name (by simp), (ed_inD (ed_var rfl) (ed_var rfl)).to ?_, rfl⟩)))))) (fun q => bd_ret ed_bl ?_) (fun q => bd_next (bd_ret (ed_allL (g := FK.T.str) (xs := fs) (fun _ => true) (ed_var rfl) hl' rfl (fun x hx => ?_)) ?_)))
  · show FK.T.bl (look (tL th) x).isSome = _
    rw [look_tL, Option.isSome_map]
  · have q : (!true || (!decide (th.length = fs.length) || !(fs.all fun x => (getA th x).isSome))) = true := q
    unfold thB
    congr 1
    cases h1 : decide (th.length = fs.length) <;> cases h2 : (fs.all fun x => (getA th x).isSome) <;> simp [h1, h2] at q ⊢
  · have q : (!true || (!decide (th.length = fs.length) || !(fs.all fun x => (getA th x).isSome))) = false := q
    have h : thB fs th = true := by
      unfold thB
      cases h1 : decide (th.length = fs.length) <;> cases h2 : (fs.all fun x => (getA th x).isSome) <;> simp [h1, h2] at q ⊢
    obtain ⟨n, hn⟩ := thB_th h x hx
    refine ⟨_, _, ev_name (by simp), ed_call (ea_one (ed_ixD (t := .int n) (ed_var rfl) (ed_var rfl) ?_)) ⟨n, rfl, rfl⟩, rfl⟩
    show look (tL th) x = _
    rw [look_tL, hn]
    rfl
  · have q : (!true || (!decide (th.length = fs.length) || !(fs.all fun x => (getA th x).isSome))) = false := q
    unfold thB
    congr 1
    cases h1 : decide (th.length = fs.length) <;> cases h2 : (fs.all fun x => (getA th x).isSome) <;> simp [h1, h2] at q ⊢
theorem ded_len {α : Type} [DecidableEq α] {xs : List α} (h : xs.Nodup) : (ded xs).length = xs.length := by
  have key : ∀ (l acc : List α), (∀ x ∈ l, x ∉ acc) → l.Nodup → (l.foldl ded1 acc).length = acc.length + l.length := by
    intro l
    induction l with
    | nil => intro acc _ _; simp
    | cons x l ih =>
      intro acc h1 h2
      rw [List.nodup_cons] at h2
      rw [List.foldl_cons]
      have e : ded1 acc x = acc ++ [x] := by unfold ded1; rw [if_neg (h1 x List.mem_cons_self)]
      rw [e, ih _ (fun y hy q => ?_) h2.2]
      · simp; omega
      · rcases List.mem_append.mp q with q | q
        · exact h1 y (List.mem_cons_of_mem _ hy) q
        · rw [List.mem_singleton.mp q] at hy
          exact h2.1 hy
  have := key xs [] (by simp) h
  simpa [ded] using this
theorem name_len {x : Str} (h : nameB x = true) : x.length ≤ 1000 := by
  unfold nameB at h
  simp only [Bool.and_eq_true, decide_eq_true_eq] at h
  omega
def R_Kind_init (T : Tx K mg) (gs : List AO) (ts : List FK.T) (t : FK.T) (gs' : List AO) : Prop := ∃ p C fs cs, gs = [(p, .ins C [])] ∧ ts = [.val (.ref p), fsT fs, csT cs] ∧ C = T.Kind.C ∧ Fld fs ∧ Cks fs cs ∧ t = .non ∧ gs' = [(p, .ins C (kFs fs cs))]
set_option maxHeartbeats 8000000 in
theorem ok_Kind_init (T : Tx K mg) : FnOk P w K mg base CX0 3 T.Kind_init.f T.Kind_init.fd ["self", "fields", "checks"] (spM P w (R_Kind_init T)) := by
  refine T.Kind_init.F.ok sc_Kind_init (len_M fun gs ts t gs' h => by unfold R_Kind_init at h; obtain ⟨_, _, _, _, rfl, rfl, _⟩ := h; rfl) (fun cdv A outer s H vs Q E hr h => ⟨_, (pss_cons (ps_if (PW.pt (pw_or (pt_not (pt_val (pe_callB call_isi (by rfl) T.b_isinstance (by decide +kernel) (pa_cons (pv 1) (pa_cons (pe_bltn (v := .ty "list") (by rfl) T.b_list (by decide +kernel) rfl) pa_nil))))) (pw_or1 (pt_not (pt_chain op_le op_le pe_int (pe_callB call_lenA (by rfl) T.b_len (by decide +kernel) (pa_cons (pv 1) pa_nil)) (pe_glob (v := .int 6) (by rfl) T.c_MOST_FIELDS ⟨_, rfl⟩)))))) (pss_one ps_never) pss_nil) (pss_cons (ps_if (pt_not (pt_val (pe_callB (cr_all rfl) (by rfl) T.b_all (by decide +kernel) (pa_cons (pe_lc (own := [("one", 3)]) rfl (sc_Kind_init).nd (pi_list (pv 1)) (blkOk_by (N := n_Kind_init) (sc := defScope s_Kind_init) (by decide +kernel)) (fun _ _ _ _ _ => (gn 3 (sc_Kind_init).nd)) (fun _ _ _ _ _ => pts_nil) (fun _ _ _ _ _ => (pe_call (ok_is_name (P := P) (w := w) (base := base) T) (hr.mono (by decide)) (by rfl) T.is_name.g T.is_name.F.kp T.is_name.b .nil pass0 (pa_cons (pv 3) pa_nil)))) pa_nil)))) (pss_one ps_never) pss_nil) (pss_cons (ps_if (PW.pt (pw_or (pt_cmpR op_lt (pe_lenSetL (by rfl) T.b_len (by rfl) T.b_set (pv 1)) (pe_callB call_lenA (by rfl) T.b_len (by decide +kernel) (pa_cons (pv 1) pa_nil)) (nomark _)) (pw_or (pt_not (pt_val (pe_callB call_isi (by rfl) T.b_isinstance (by decide +kernel) (pa_cons (pv 2) (pa_cons (pe_bltn (v := .ty "list") (by rfl) T.b_list (by decide +kernel) rfl) pa_nil))))) (pw_or1 (pt_cmpR op_gt (pe_callB call_lenA (by rfl) T.b_len (by decide +kernel) (pa_cons (pv 2) pa_nil)) (pe_glob (v := .int 16) (by rfl) T.c_MOST_CHECKS ⟨_, rfl⟩) (nomark _)))))) (pss_one ps_never) pss_nil) (pss_cons (ps_if (pt_not (pt_val (pe_callB (cr_all rfl) (by rfl) T.b_all (by decide +kernel) (pa_cons (pe_lc (own := [("check", 4)]) rfl (sc_Kind_init).nd (pi_list (pv 2)) (blkOk_by (N := n_Kind_init) (sc := defScope s_Kind_init) (by decide +kernel)) (fun _ _ _ _ _ => (gn 4 (sc_Kind_init).nd)) (fun _ _ _ _ _ => pts_nil) (fun _ _ _ _ _ => (pe_call (ok_is_check (P := P) (w := w) (base := base) T) (hr.mono (by decide)) (by rfl) T.is_check.g T.is_check.F.kp T.is_check.b .nil pass0 (pa_cons (pv 4) (pa_cons (pv 1) pa_nil))))) pa_nil)))) (pss_one ps_never) pss_nil) (pss_cons (ps_fld (pv 0) (pe_callTy (call_listA rfl) (by rfl) T.b_list (by decide +kernel) (pa_cons (pv 1) pa_nil)) rfl) (pss_one (ps_fld (pv 0) (pe_callTy (call_listA rfl) (by rfl) T.b_list (by decide +kernel) (pa_cons (pv 2) pa_nil)) rfl))))))), run_M (N := n_Kind_init) h ?_⟩)
  rintro gs ts r gs' ⟨p, C, fs, cs, rfl, rfl, rfl, hf, hc, rfl, rfl⟩
  have h1 : (decide ((1 : Int) ≤ ((fs.map FK.T.str).length : Nat)) && decide (((fs.map FK.T.str).length : Nat) ≤ (6 : Int))) = true := by
    rw [List.length_map, Bool.and_eq_true, decide_eq_true_eq, decide_eq_true_eq]
    have := hf.pos
    have := hf.most
    omega
  have h2 : (fs.all nameB) = true := List.all_eq_true.mpr hf.names
  have h3 : decide (((ded (fs.map some)).length : Nat) < (((fs.map FK.T.str).length : Nat) : Int)) = false := by
    have nd : (fs.map some).Nodup := by
      rw [List.nodup_iff_pairwise_ne, List.pairwise_map]
      exact hf.nd.imp fun h q => h (Option.some.inj q)
    rw [ded_len nd, List.length_map, List.length_map]
    exact decide_eq_false (by omega)
  have h4 : decide ((16 : Int) < ((cs.map cT).length : Nat)) = false := by
    rw [List.length_map]
    have := hc.most
    exact decide_eq_false (by omega)
  have h5 : (cs.all (chkB fs)) = true := List.all_eq_true.mpr hc.ok
  have hl := hf.most
  have hcl := hc.most
  refine bd_then (bd_skip ((et_or (et_not (et_val (ed_isi (ea_cons (ed_var (t := fsT fs) rfl) (ea_cons ed_val ea_nil)) rfl (.ty "list") kit_list))) (fun _ => et_not (et_test (ed_chain (ed_int (i := 1)) (ed_lenL (ea_one (ed_var rfl))) (rt_I0 fun _ => .bl _) (fun _ => ed_int (i := 6)) (fun _ => rt_I0 fun _ => .bl _))))).to (by rw [h1]; rfl)) ?_)
  refine bd_then (bd_skip ((et_not (et_val (ed_allL (g := FK.T.str) (xs := fs) nameB (ed_var rfl) (by omega) rfl (fun x hx => ⟨_, _, ev_name (by simp), ed_call (ea_one (ed_var rfl)) ⟨x, rfl, name_len (hf.names x hx), rfl⟩, rfl⟩)))).to (by rw [h2]; rfl)) ?_)
  refine bd_then (bd_skip ((et_or (et_test (ed_lt (ed_lenSet (es := fs.map some) (ed_var (by rw [show FK.T.lst ((fs.map some).map eT) = fsT fs from (fsT_ends fs).symm]; rfl)) (by rw [List.length_map]; omega)) (ed_lenL (ts := fs.map FK.T.str) (ea_one (ed_var rfl))))) (fun _ => et_or (et_not (et_val (ed_isi (ea_cons (ed_var (t := csT cs) rfl) (ea_cons ed_val ea_nil)) rfl (.ty "list") kit_list))) (fun _ => et_test (ed_gt (ed_lenL (ea_one (ed_var rfl))) ed_int)))).to (by rw [h3, h4]; rfl)) ?_)
  refine bd_then (bd_skip ((et_not (et_val (ed_allL (g := cT) (xs := cs) (chkB fs) (ed_var rfl) (by omega) rfl (fun c hc' => ⟨_, _, ev_name (by simp), ed_call (ea_cons (ed_var rfl) (ea_cons (ed_var rfl) ea_nil)) ⟨c, fs, rfl, rfl⟩, rfl⟩)))).to (by rw [h5]; rfl)) ?_)
  refine bd_then (bd_fld (j := 0) (l := true) T.Kind.cl T.n_Kind_row (ed_of_en (en_listL (ea_one (ed_var rfl)))) (ed_var rfl) rfl (by decide) ?_)
  exact bd_fld (j := 0) (l := true) T.Kind.cl T.n_Kind_rules (ed_of_en (en_listL (ea_one (ed_var rfl)))) (ed_var rfl) rfl (show (1 : Nat) < 1000 by decide) ⟨rfl, [], rfl⟩
end
end FK
set_option maxHeartbeats 8000000
namespace FK
open PySem L2
section
variable {P : Program} {w : World} {K : PySem.W.Frag} {mg : Str → Option Value} {base : Heap}
def chFs (es : List End) (cs : List Chk) (tb r : FK.T) : List (Str × FK.T) := [("ends", endsT es), ("rules", csT cs), ("table", tb), ("ring", r)]
def chG (a d C : Addr) (es : List End) (cs : List Chk) (s : Cs End) : List AO := [(a, .ins C (chFs es cs (.val (.ref d)) (ringT s.ring))), (d, .pdc (tabL s.tab))]
def R_Chains_better (T : Tx K mg) (gs : List AO) (ts : List FK.T) (t : FK.T) (gs' : List AO) : Prop := ∃ a d es cs s one other total counts, gs = chG a d T.Chains.C es cs s ∧ ts = [.val (.ref a), .tup [eT one, eT other], .int total, natsT counts] ∧ s.tab.length < 100000 ∧ t = .non ∧ gs' = chG a d T.Chains.C es cs (better s one other total counts)
set_option maxHeartbeats 8000000 in
theorem ok_Chains_better (T : Tx K mg) : FnOk P w K mg base CX0 1 T.Chains_better.f T.Chains_better.fd ["self", "pair", "total", "counts"] (spM P w (R_Chains_better T)) := by
  refine T.Chains_better.F.ok sc_Chains_better (len_M fun gs ts t gs' h => by unfold R_Chains_better at h; obtain ⟨_, _, _, _, _, _, _, _, _, rfl, rfl, _⟩ := h; rfl) (fun cdv A outer s H vs Q E hr h => ⟨_, (pss_one (ps_if (pt_cmpR (op_eqA hr.units) (pe_ix (ix_any (hu_of hr)) (pv 1) pe_int (fun _ _ => rfl)) (pe_ix (ix_any (hu_of hr)) (pv 1) pe_int (fun _ _ => rfl)) (nomark _)) (pss_one (ps_if (PW.pt (pw_and (pt_cmpR op_lt (pv 2) pe_int (nomark _)) (pw_and1 (pt_cmpR op_isA (pe_fld (pv 0) rfl) pe_non (nomark _))))) (pss_one (ps_fld (pv 0) (pv 3) rfl)) pss_nil)) (pss_one (ps_if (PW.pt (pw_or (pt_cmpR (op_notInA (hu_of hr)) (pv 1) (pe_fld (pv 0) rfl) (by rfl)) (pw_or1 (pt_cmpR op_lt (pv 2) (pe_ix (ix_any (hu_of hr)) (pe_ix (ix_any (hu_of hr)) (pe_fld (pv 0) rfl) (pv 1) (fun _ _ => rfl)) pe_int (fun _ _ => rfl)) (nomark _))))) (pss_one (ps_asg (pe_tup (pa_cons (pv 2) (pa_cons (pv 3) pa_nil))) (pg_sub (pe_fld (pv 0) rfl) (pv 1) (set_any (hu_of hr))))) pss_nil)))), run_M (N := n_Chains_better) h ?_⟩)
  rintro gs ts r gs' ⟨a, d, es, cs, s, one, other, total, counts, rfl, rfl, hl, rfl, rfl⟩
  have C := T.Chains.cl
  have hlt : (tabL s.tab).length < 100000 := by unfold tabL; rw [List.length_map]; exact hl
  refine bd_if (et_test (ed_eqE (a := one) (b := other) (ed_ixT (ed_var rfl) ed_int rfl) (ed_ixT (ed_var rfl) ed_int rfl))) (fun q => ?_) (fun q => ?_)
  · have q := of_decide_eq_true q
    refine bd_if (et_and (et_test (ed_lt (ed_var rfl) ed_int)) (fun _ => et_test ((ed_isN (ed_fldO (j := 0) (ed_var rfl) rfl C T.n_Chains_ring rfl)).to (congrArg FK.T.bl (ringT_isN s.ring))))) (fun p => ?_) (fun p => ?_)
    · rw [Bool.and_eq_true, decide_eq_true_eq, Option.isNone_iff_eq_none] at p
      have e : better s one other total counts = { s with ring := some counts } := by unfold better; rw [if_pos q, if_pos p]
      rw [e]
      exact bd_fld (j := 0) (l := true) C T.n_Chains_ring (ed_var rfl) (ed_var rfl) rfl (show (4 : Nat) < 1000 by decide) ⟨rfl, [], rfl⟩
    · have p' : ¬ (total < 0 ∧ s.ring = none) := fun ⟨h1, h2⟩ => by
        rw [decide_eq_true h1, h2] at p
        cases p
      have e : better s one other total counts = s := by unfold better; rw [if_pos q, if_neg p']
      rw [e]
      exact bd_next ⟨rfl, [], rfl⟩
  · have q := of_decide_eq_false q
    cases g : getA s.tab (one, other) with
    | none =>
      have e : better s one other total counts = { s with tab := putA s.tab (one, other) (total, counts) } := by unfold better; rw [if_neg q, g]
      refine bd_yes (et_or (b := true) (c := false) (et_test ((ed_notInPO (j := 1) ((ed_var rfl).to (pk_tup one other)) (ed_fldO (j := 0) (ed_var rfl) rfl C T.n_Chains_table rfl) rfl).to (by rw [look_tab, g]; rfl))) (fun z => by cases z)) ?_
      rw [e]
      refine bd_putP (j := 1) (l := true) (ed_tup (ea_cons (ed_var (t := .int total) rfl) (ea_cons (ed_var (t := natsT counts) rfl) ea_nil)) (by simp)) (ed_fldO (j := 0) (ed_var rfl) rfl C T.n_Chains_table rfl) ((ed_var rfl).to (pk_tup one other)) rfl hlt ⟨rfl, [], ?_⟩
      show [_, (d, O.pdc (put (tabL s.tab) (pk (one, other)) (entT' (total, counts))))] = _
      rw [put_tab]
      rfl
    | some v =>
      have lk : look (tabL s.tab) (pk (one, other)) = some (entT' v) := by rw [look_tab, g]; rfl
      refine bd_if (et_or (b := false) (et_test ((ed_notInPO (j := 1) ((ed_var rfl).to (pk_tup one other)) (ed_fldO (j := 0) (ed_var rfl) rfl C T.n_Chains_table rfl) rfl).to (by rw [look_tab, g]; rfl))) (fun _ => et_test (ed_lt (ed_var rfl) (ed_ixT (ed_ixPO (j := 1) (ed_fldO (j := 0) (ed_var rfl) rfl C T.n_Chains_table rfl) ((ed_var rfl).to (pk_tup one other)) rfl lk) ed_int rfl)))) (fun p => ?_) (fun p => ?_)
      · have p : total < v.1 := of_decide_eq_true p
        have e : better s one other total counts = { s with tab := putA s.tab (one, other) (total, counts) } := by unfold better; rw [if_neg q, g]; simp [p]
        rw [e]
        refine bd_putP (j := 1) (l := true) (ed_tup (ea_cons (ed_var (t := .int total) rfl) (ea_cons (ed_var (t := natsT counts) rfl) ea_nil)) (by simp)) (ed_fldO (j := 0) (ed_var rfl) rfl C T.n_Chains_table rfl) ((ed_var rfl).to (pk_tup one other)) rfl hlt ⟨rfl, [], ?_⟩
        show [_, (d, O.pdc (put (tabL s.tab) (pk (one, other)) (entT' (total, counts))))] = _
        rw [put_tab]
        rfl
      · have p : ¬ total < v.1 := of_decide_eq_false p
        have e : better s one other total counts = s := by unfold better; rw [if_neg q, g]; simp [p]
        rw [e]
        exact bd_next ⟨rfl, [], rfl⟩
theorem nats_cat (xs ys : List Nat) : FK.T.lst ((natsI xs).map FK.T.int ++ (natsI ys).map FK.T.int) = natsT (xs ++ ys) := by
  unfold natsT intsT natsI
  rw [List.map_append, List.map_append]
theorem natsI_len (xs : List Nat) : ((natsI xs).map FK.T.int).length = xs.length := by unfold natsI; rw [List.length_map, List.length_map]
def R_Chains_join (T : Tx K mg) (gs : List AO) (ts : List FK.T) (t : FK.T) (gs' : List AO) : Prop := ∃ a d es cs s m n L, gs = chG a d T.Chains.C es cs s ∧ ts = [.val (.ref a), eT m] ∧ Szd n L s ∧ n + es.length * es.length ≤ 10000 ∧ L ≤ 1000 ∧ t = .non ∧ gs' = chG a d T.Chains.C es cs (joinE es m s)
set_option maxHeartbeats 8000000 in
theorem ok_Chains_join (T : Tx K mg) : FnOk P w K mg base CX0 2 T.Chains_join.f T.Chains_join.fd ["self", "middle"] (spM P w (R_Chains_join T)) := by
  refine T.Chains_join.F.ok sc_Chains_join (len_M fun gs ts t gs' h => by unfold R_Chains_join at h; obtain ⟨_, _, _, _, _, _, _, _, rfl, rfl, _⟩ := h; rfl) (fun cdv A outer s H vs Q E hr h => ⟨_, (pss_one (ps_for PassesOwn.never rfl (pi_list (pe_fld (pv 0) rfl)) (gn 2 (sc_Chains_join).nd) (pss_one (ps_for PassesOwn.never rfl (pi_list (pe_fld (pv 0) rfl)) (gn 3 (sc_Chains_join).nd) (pss_one (ps_if (PW.pt (pw_and (pt_cmpR (op_neA hr.units) (pv 2) (pv 1) (nomark _)) (pw_and (pt_cmpR (op_neA hr.units) (pv 3) (pv 1) (nomark _)) (pw_and (pt_cmpR (op_inA (hu_of hr)) (pe_tup (pa_cons (pv 2) (pa_cons (pv 1) pa_nil))) (pe_fld (pv 0) rfl) (by rfl)) (pw_and1 (pt_cmpR (op_inA (hu_of hr)) (pe_tup (pa_cons (pv 1) (pa_cons (pv 3) pa_nil))) (pe_fld (pv 0) rfl) (by rfl))))))) (pss_cons (ps_par (i := 4) (j := 5) rfl (sc_Chains_join).nd rfl rfl (by decide) rfl rfl (pa_cons (pe_ix (ix_any (hu_of hr)) (pe_fld (pv 0) rfl) (pe_tup (pa_cons (pv 2) (pa_cons (pv 1) pa_nil))) (fun _ _ => rfl)) (pa_cons (pe_ix (ix_any (hu_of hr)) (pe_fld (pv 0) rfl) (pe_tup (pa_cons (pv 1) (pa_cons (pv 3) pa_nil))) (fun _ _ => rfl)) pa_nil)) (by rfl)) (pss_one (ps_expr (pe_meth (pv 0) T.Chains.cl T.Chains_better.m (ok_Chains_better (P := P) (w := w) (base := base) T) (hr.mono (by decide)) T.Chains_better.b .nil pass0 (pa_cons (pe_tup (pa_cons (pv 2) (pa_cons (pv 3) pa_nil))) (pa_cons (pe_op op_addA (pe_ix (ix_any (hu_of hr)) (pv 4) pe_int (fun _ _ => rfl)) (pe_ix (ix_any (hu_of hr)) (pv 5) pe_int (fun _ _ => rfl))) (pa_cons (pe_op op_addA (pe_ix (ix_any (hu_of hr)) (pv 4) pe_int (fun _ _ => rfl)) (pe_ix (ix_any (hu_of hr)) (pv 5) pe_int (fun _ _ => rfl))) pa_nil))))))) pss_nil)))))), run_M (N := n_Chains_join) h ?_⟩)
  rintro gs ts r gs' ⟨a, d, es, cs, s, m, n, L, rfl, rfl, hz, hn, hL, rfl, rfl⟩
  have C := T.Chains.cl
  refine bd_foldLi (xs := es) (g := eT) (fun s' Γ' => ∃ x1 x2 x3 x4, Γ' = ⟨[some (.val (.ref a)), some (eT m), x1, x2, x3, x4], (chG a d T.Chains.C es cs s').map fun x => ⟨true, x.1, x.2⟩⟩) (fun s' one => es.foldl (fun s' other => jstep m one other s') s') s
    (ed_fldO (j := 0) (ed_var rfl) rfl C T.n_Chains_ends rfl) ⟨_, _, _, _, rfl⟩ ?_ ?_
  · rintro i hi Γ' ⟨x1, x2, x3, x4, rfl⟩
    refine ⟨_, eg_name, ?_⟩
    generalize hs1 : (es.take i).foldl (fun s' one => es.foldl (fun s' other => jstep m one other s') s') s = s1
    have z1 : Szj m (n + i * es.length) L s1 := by
      have := Szj.join es (es.take i) (hz.toJ m)
      rw [hs1, List.length_take, Nat.min_eq_left (Nat.le_of_lt hi)] at this
      exact this
    generalize es[i] = one
    refine bd_foldLi (xs := es) (g := eT) (fun s' Γ' => ∃ x2 x3 x4, Γ' = ⟨[some (.val (.ref a)), some (eT m), some (eT one), x2, x3, x4], (chG a d T.Chains.C es cs s').map fun x => ⟨true, x.1, x.2⟩⟩) (fun s' other => jstep m one other s') s1
      (ed_fldO (j := 0) (ed_var rfl) rfl C T.n_Chains_ends rfl) ⟨_, _, _, rfl⟩ ?_ ?_
    · rintro j hj Γ' ⟨x2, x3, x4, rfl⟩
      refine ⟨_, eg_name, ?_⟩
      have z2 : Szj m (n + i * es.length + j) L ((es.take j).foldl (fun s' other => jstep m one other s') s1) := by
        have := Szj.fold one (es.take j) z1
        rw [List.length_take, Nat.min_eq_left (Nat.le_of_lt hj)] at this
        exact this
      generalize (es.take j).foldl (fun s' other => jstep m one other s') s1 = s2 at z2 ⊢
      generalize es[j] = other
      have hlen : s2.tab.length < 100000 := by
        have := z2.sz.len
        have h2 : i * es.length + j ≤ es.length * es.length := by
          have : i * es.length + es.length ≤ es.length * es.length := by rw [← Nat.succ_mul]; exact Nat.mul_le_mul_right _ hi
          omega
        omega
      refine bd_if (et_and (et_test (ed_neE (a := one) (b := m) (ed_var rfl) (ed_var rfl))) (fun _ => et_and (et_test (ed_neE (a := other) (b := m) (ed_var rfl) (ed_var rfl)))
        (fun _ => et_and (et_test ((ed_inPO (j := 1) ((ed_tup (ea_cons (ed_var rfl) (ea_cons (ed_var rfl) ea_nil)) (by simp)).to (pk_tup one m)) (ed_fldO (j := 0) (ed_var rfl) rfl C T.n_Chains_table rfl) rfl).to (congrArg (fun o : Option FK.T => FK.T.bl o.isSome) (look_tab s2.tab (one, m)))))
          (fun _ => et_test ((ed_inPO (j := 1) ((ed_tup (ea_cons (ed_var rfl) (ea_cons (ed_var rfl) ea_nil)) (by simp)).to (pk_tup m other)) (ed_fldO (j := 0) (ed_var rfl) rfl C T.n_Chains_table rfl) rfl).to (congrArg (fun o : Option FK.T => FK.T.bl o.isSome) (look_tab s2.tab (m, other)))))))) (fun q => ?_) (fun q => ?_)
      · simp only [Bool.and_eq_true, Bool.not_eq_true', decide_eq_false_iff_not, Option.isSome_map] at q
        obtain ⟨q1, q2, q3, q4⟩ := q
        obtain ⟨f, hf⟩ := Option.isSome_iff_exists.mp q3
        obtain ⟨g, hg⟩ := Option.isSome_iff_exists.mp q4
        have l1 : look (tabL s2.tab) (pk (one, m)) = some (entT' f) := by rw [look_tab, hf]; rfl
        have l2 : look (tabL s2.tab) (pk (m, other)) = some (entT' g) := by rw [look_tab, hg]; rfl
        have k1 := z2.col _ f hf
        have k2 := z2.row _ g hg
        have e : jstep m one other s2 = better s2 one other (f.1 + g.1) (f.2 ++ g.2) := by unfold jstep; rw [if_pos ⟨q1, q2⟩, hf, hg]
        refine bd_then (bd_par (t1 := entT' f) (t2 := entT' g) (ea_cons (ed_ixPO (j := 1) (ed_fldO (j := 0) (ed_var rfl) rfl C T.n_Chains_table rfl) ((ed_tup (ea_cons (ed_var rfl) (ea_cons (ed_var rfl) ea_nil)) (by simp)).to (pk_tup one m)) rfl l1)
          (ea_cons (ed_ixPO (j := 1) (ed_fldO (j := 0) (ed_var rfl) rfl C T.n_Chains_table rfl) ((ed_tup (ea_cons (ed_var rfl) (ea_cons (ed_var rfl) ea_nil)) (by simp)).to (pk_tup m other)) rfl l2) ea_nil)) ?_)
        refine bd_drop (ed_methM (j := 0) (js := [0, 1]) ((chG a d T.Chains.C es cs (jstep m one other s2)).map fun x => ⟨true, x.1, x.2⟩) (ed_var rfl) rfl rfl (ea_cons (ed_tup (ea_cons (ed_var (t := eT one) rfl) (ea_cons (ed_var (t := eT other) rfl) ea_nil)) (by simp)) (ea_cons (ed_add (ed_ixT (ed_var (t := entT' f) rfl) ed_int rfl) (ed_ixT (ed_var (t := entT' g) rfl) ed_int rfl))
          (ea_cons ((ed_of_en (en_cat (xs := (natsI f.2).map FK.T.int) (ys := (natsI g.2).map FK.T.int) (ed_ixT (ed_var (t := entT' f) rfl) ed_int rfl) (ed_ixT (ed_var (t := entT' g) rfl) ed_int rfl) (by rw [natsI_len, natsI_len]; omega))).to (nats_cat f.2 g.2)) ea_nil))) (by decide) (Lent.two rfl rfl) rfl
          ⟨a, d, es, cs, s2, one, other, f.1 + g.1, f.2 ++ g.2, rfl, rfl, hlen, rfl, by rw [← e]; rfl⟩) ⟨_, _, _, rfl⟩
      · have e : jstep m one other s2 = s2 := by
          unfold jstep
          by_cases z : one ≠ m ∧ other ≠ m
          · rw [if_pos z]
            rw [decide_eq_false z.1, decide_eq_false z.2, Option.isSome_map, Option.isSome_map] at q
            cases h1 : getA s2.tab (one, m) with
            | none => rfl
            | some f =>
              cases h2 : getA s2.tab (m, other) with
              | none => rfl
              | some g => rw [h1, h2] at q; cases q
          · rw [if_neg z]
        rw [e]
        exact bd_next ⟨_, _, _, rfl⟩
    · rintro Γ' ⟨x2, x3, x4, rfl⟩
      exact ⟨_, _, _, _, rfl⟩
  · rintro Γ' ⟨x1, x2, x3, x4, rfl⟩
    exact ⟨rfl, [], rfl⟩
end
end FK
set_option maxHeartbeats 8000000
namespace FK
open PySem L2
section
variable {P : Program} {w : World} {K : PySem.W.Frag} {mg : Str → Option Value} {base : Heap}
def chT (C : Addr) (es : List End) (cs : List Chk) (s : Cs End) : FK.T := .obj C (chFs es cs (.pdc (tabL s.tab)) (ringT s.ring))
def R_Chains_init (T : Tx K mg) (gs : List AO) (ts : List FK.T) (t : FK.T) (gs' : List AO) : Prop := ∃ p C fs cs, gs = [(p, .ins C [])] ∧ ts = [.val (.ref p), kT T.Kind.C fs cs] ∧ C = T.Chains.C ∧ fs.length ≤ 6 ∧ cs.length ≤ 16 ∧ t = .non ∧
  gs' = [(p, .ins C (chFs (endsOf fs) cs (.pdc (tabL (chainsE (endsOf fs) cs).tab)) (ringT (chainsE (endsOf fs) cs).ring)))]
set_option maxHeartbeats 8000000 in
theorem ok_Chains_init (T : Tx K mg) : FnOk P w K mg base CX0 3 T.Chains_init.f T.Chains_init.fd ["self", "kind"] (spM P w (R_Chains_init T)) := by
  refine T.Chains_init.F.ok sc_Chains_init (len_M fun gs ts t gs' h => by unfold R_Chains_init at h; obtain ⟨_, _, _, _, rfl, rfl, _⟩ := h; rfl) (fun cdv A outer s H vs Q E hr h => ⟨_, (pss_cons (ps_fld (pv 0) (pe_op op_addA (pe_fld (pv 1) rfl) (pe_lst (pa_cons pe_non pa_nil))) rfl) (pss_cons (ps_fld (pv 0) (pe_fld (pv 1) rfl) rfl) (pss_cons (ps_fld (pv 0) pe_dnew rfl) (pss_cons (ps_fld (pv 0) pe_non rfl) (pss_cons (ps_for PassesOwn.never rfl (pi_enum (by rfl) T.b_enumerate (pa_cons (pe_fld (pv 1) rfl) pa_nil)) (pg_tup rfl (pgs_cons (gn 2 (sc_Chains_init).nd) (pgs_cons (gn 3 (sc_Chains_init).nd) pgs_nil))) (pss_one (ps_expr (pe_meth (pv 0) T.Chains.cl T.Chains_better.m (ok_Chains_better (P := P) (w := w) (base := base) T) (hr.mono (by decide)) T.Chains_better.b .nil pass0 (pa_cons (pe_tup (pa_cons (pe_ix (ix_any (hu_of hr)) (pv 3) pe_int (fun _ _ => rfl)) (pa_cons (pe_ix (ix_any (hu_of hr)) (pv 3) pe_int (fun _ _ => rfl)) pa_nil))) (pa_cons (pe_ix (ix_any (hu_of hr)) (pv 3) pe_int (fun _ _ => rfl)) (pa_cons (pe_lst (pa_cons (pv 2) pa_nil)) pa_nil))))))) (pss_one (ps_for PassesOwn.never rfl (pi_list (pe_fld (pv 0) rfl)) (gn 4 (sc_Chains_init).nd) (pss_one (ps_if (pt_cmpR op_isA (pe_fld (pv 0) rfl) pe_non (nomark _)) (pss_one (ps_expr (pe_meth (pv 0) T.Chains.cl T.Chains_join.m (ok_Chains_join (P := P) (w := w) (base := base) T) (hr.mono (by decide)) T.Chains_join.b .nil pass0 (pa_cons (pv 4) pa_nil)))) pss_nil))))))))), run_M (N := n_Chains_init) h ?_⟩)
  rintro gs ts r gs' ⟨p, C, fs, cs, rfl, rfl, rfl, hf, hc, rfl, rfl⟩
  have CC := T.Chains.cl
  have KC := T.Kind.cl
  have hel : (endsOf fs).length ≤ 7 := by rw [endsOf_len]; omega
  refine bd_then (bd_fld (j := 0) (l := true) CC T.n_Chains_ends ((ed_of_en (en_cat (ed_fld KC T.n_Kind_row (ed_var rfl) rfl) (ed_lst (ea_one ed_non) (by simp)) (by simp; omega))).to (endsT_of fs)) (ed_var rfl) rfl (by decide) ?_)
  refine bd_then (bd_fld (j := 0) (l := true) CC T.n_Chains_rules (ed_fld KC T.n_Kind_rules (ed_var rfl) rfl) (ed_var rfl) rfl (show (1 : Nat) < 1000 by decide) ?_)
  refine bd_then (bd_fldN (j := 0) (l := true) CC T.n_Chains_table en_pnew (fun d => ed_var rfl) (fun d => rfl) (show (2 : Nat) < 1000 by decide) fun d => ?_)
  refine bd_then (bd_fld (j := 0) (l := true) CC T.n_Chains_ring ed_non (ed_var rfl) rfl (show (3 : Nat) < 1000 by decide) ?_)
  refine bd_then (bd_foldEi (xs := cs) (g := cT) (fun s Γ' => ∃ x2 x3 x4, Γ' = ⟨[some (.val (.ref p)), some (kT T.Kind.C fs cs), x2, x3, x4], [⟨true, p, .ins T.Chains.C (chFs (endsOf fs) cs (.val (.ref d)) (ringT s.ring))⟩, ⟨false, d, .pdc (tabL s.tab)⟩]⟩)
    (fun s q => better s q.1.1 q.1.2.1 q.1.2.2 [q.2]) ⟨[], none⟩ (ea_one (ed_fld KC T.n_Kind_rules (ed_var rfl) rfl)) ⟨_, _, _, rfl⟩ ?_ ?_)
  · rintro i hi Γ' ⟨x2, x3, x4, rfl⟩
    refine ⟨_, eg_tup (egs_cons eg_name (egs_cons eg_name egs_nil)) rfl, ?_⟩
    have z : Szd (0 + (cs.zipIdx.take i).length) 1 ((cs.zipIdx.take i).foldl (fun s q => better s q.1.1 q.1.2.1 q.1.2.2 [q.2]) ⟨[], none⟩) := Szd.begin ⟨Nat.le_refl _, fun p v q => by cases q⟩
    generalize (cs.zipIdx.take i).foldl (fun s q => better s q.1.1 q.1.2.1 q.1.2.2 [q.2]) ⟨[], none⟩ = s at z ⊢
    have hl : s.tab.length < 100000 := by
      have := z.len
      have := List.length_take_le i cs.zipIdx
      omega
    generalize cs[i] = c
    refine bd_drop (ed_methM (j := 0) (js := [0, 1]) [⟨true, p, .ins T.Chains.C (chFs (endsOf fs) cs (.val (.ref d)) (ringT (better s c.1 c.2.1 c.2.2 [i]).ring))⟩, ⟨false, d, .pdc (tabL (better s c.1 c.2.1 c.2.2 [i]).tab)⟩] (ed_var rfl) rfl rfl
      (ea_cons (ed_tup (ea_cons (ed_ixT (ed_var (t := cT c) rfl) ed_int rfl) (ea_cons (ed_ixT (ed_var (t := cT c) rfl) ed_int rfl) ea_nil)) (by simp)) (ea_cons (ed_ixT (ed_var (t := cT c) rfl) ed_int rfl) (ea_cons (ed_lst (ea_one (ed_var rfl)) (by simp)) ea_nil))) (by decide) (Lent.two rfl rfl) rfl
      ⟨p, d, endsOf fs, cs, s, c.1, c.2.1, c.2.2, [i], rfl, rfl, hl, rfl, rfl⟩) ⟨_, _, _, rfl⟩
  · rintro Γ' ⟨x2, x3, x4, rfl⟩
    refine bd_post (bd_foldLi (xs := endsOf fs) (g := eT) (fun s Γ' => ∃ x2 x3 x4, Γ' = ⟨[some (.val (.ref p)), some (kT T.Kind.C fs cs), x2, x3, x4], [⟨true, p, .ins T.Chains.C (chFs (endsOf fs) cs (.val (.ref d)) (ringT s.ring))⟩, ⟨false, d, .pdc (tabL s.tab)⟩]⟩)
      (stepE (endsOf fs)) (beginE cs) (ed_fldO (j := 0) (ed_var rfl) rfl CC T.n_Chains_ends rfl) ⟨_, _, _, rfl⟩ ?_ (Nx := fun Γ' => ∃ x2 x3 x4, Γ' = ⟨[some (.val (.ref p)), some (kT T.Kind.C fs cs), x2, x3, x4], [⟨true, p, .ins T.Chains.C (chFs (endsOf fs) cs (.val (.ref d)) (ringT (chainsE (endsOf fs) cs).ring))⟩, ⟨false, d, .pdc (tabL (chainsE (endsOf fs) cs).tab)⟩]⟩) (fun Γ' h => h)) ?_
    · rintro i hi Γ' ⟨x2, x3, x4, rfl⟩
      refine ⟨_, eg_name, ?_⟩
      have z0 : Szd (0 + cs.zipIdx.length) 1 (beginE cs) := Szd.begin ⟨Nat.le_refl _, fun p v q => by cases q⟩
      have z := Szd.steps (ends := endsOf fs) ((endsOf fs).take i) z0
      rw [List.length_take, Nat.min_eq_left (Nat.le_of_lt hi), List.length_zipIdx] at z
      generalize ((endsOf fs).take i).foldl (stepE (endsOf fs)) (beginE cs) = s at z ⊢
      generalize (endsOf fs)[i] = m
      have sq : (endsOf fs).length * (endsOf fs).length ≤ 49 := Nat.le_trans (Nat.mul_le_mul hel hel) (by decide)
      have h1 : i * ((endsOf fs).length * (endsOf fs).length) ≤ 7 * 49 := Nat.mul_le_mul (by omega) sq
      have h2 : 2 ^ i * 1 ≤ 1000 := by
        have : 2 ^ i ≤ 2 ^ 7 := Nat.pow_le_pow_right (by decide) (by omega)
        omega
      refine bd_if (et_test ((ed_isN (ed_fldO (j := 0) (ed_var rfl) rfl CC T.n_Chains_ring rfl)).to (congrArg FK.T.bl (ringT_isN s.ring)))) (fun q => ?_) (fun q => ?_)
      · have e : stepE (endsOf fs) s m = joinE (endsOf fs) m s := by unfold stepE; rw [if_pos (Option.isNone_iff_eq_none.mp q)]
        rw [e]
        exact bd_drop (ed_methM (j := 0) (js := [0, 1]) [⟨true, p, .ins T.Chains.C (chFs (endsOf fs) cs (.val (.ref d)) (ringT (joinE (endsOf fs) m s).ring))⟩, ⟨false, d, .pdc (tabL (joinE (endsOf fs) m s).tab)⟩] (ed_var rfl) rfl rfl
          (ea_one (ed_var rfl)) (by decide) (Lent.two rfl rfl) rfl ⟨p, d, endsOf fs, cs, s, m, _, _, rfl, rfl, z, by omega, h2, rfl, rfl⟩) ⟨_, _, _, rfl⟩
      · have e : stepE (endsOf fs) s m = s := by
          unfold stepE
          rw [if_neg]
          intro z
          rw [z] at q
          cases q
        rw [e]
        exact bd_next ⟨_, _, _, rfl⟩
    · rintro Γ' ⟨x2, x3, x4, rfl⟩
      refine ⟨_, sub_tuck (j := 0) (k := 1) (d := d) (fs' := chFs (endsOf fs) cs (.pdc (tabL (chainsE (endsOf fs) cs).tab)) (ringT (chainsE (endsOf fs) cs).ring)) rfl rfl rfl (fun G h => ⟨.inl rfl, .inl rfl, .inr ⟨_, rfl, h⟩, .inl rfl, trivial⟩), rfl, [], rfl⟩
def R_Chains_lowest (T : Tx K mg) (ts : List FK.T) (t : FK.T) : Prop := ∃ C es cs s one, ts = [chT C es cs s, eT one] ∧ C = T.Chains.C ∧ es.length ≤ 100 ∧ t = .int (low es s one)
set_option maxHeartbeats 8000000 in
theorem ok_Chains_lowest (T : Tx K mg) : FnOk P w K mg base CX0 1 T.Chains_lowest.f T.Chains_lowest.fd ["self", "one"] (spT P w (R_Chains_lowest T)) := by
  refine T.Chains_lowest.F.ok sc_Chains_lowest (len_T fun ts t h => by unfold R_Chains_lowest at h; obtain ⟨_, _, _, _, _, rfl, _⟩ := h; rfl) (fun cdv A outer s H vs Q E hr h => ⟨_, (pss_one (ps_ret (pe_callB (cr_min rfl) (by rfl) T.b_min (by decide +kernel) (pa_cons (pe_op op_addA (pe_lst (pa_cons pe_int pa_nil)) (pe_lc (own := [("other", 2)]) rfl (sc_Chains_lowest).nd (pi_list (pe_fld (pv 0) rfl)) (blkOk_by (N := n_Chains_lowest) (sc := defScope s_Chains_lowest) (by decide +kernel)) (fun _ _ _ _ _ => (gn 2 (sc_Chains_lowest).nd)) (fun _ _ _ _ _ => (pts_one (pt_cmpR (show OpR _ _ (rInA P w K) from (op_inA (hu_of hr))) (pe_tup (pa_cons (pv 1) (pa_cons (pv 2) pa_nil))) (show PE _ _ (tFld K _ _) from (pe_fld (pv 0) rfl)) (by rfl)))) (fun _ _ _ _ _ => (pe_ix (show IxR _ (rIxA P w K) from (ix_any (hu_of hr))) (pe_ix (show IxR _ (rIxA P w K) from (ix_any (hu_of hr))) (show PE _ _ (tFld K _ _) from (pe_fld (pv 0) rfl)) (pe_tup (pa_cons (pv 1) (pa_cons (pv 2) pa_nil))) (fun _ _ => rfl)) pe_int (fun _ _ => rfl))))) pa_nil)))), run_T (N := n_Chains_lowest) h ?_⟩)
  rintro ts r ⟨C, es, cs, s, one, rfl, rfl, hl, rfl⟩
  have CC := T.Chains.cl
  refine bd_ret (ed_minL (ns := 0 :: sums es s one) (m := low es s one) (ea_one ((ed_of_en (en_cat (ed_lst (ea_one ed_int) (by simp)) (ed_of_en (en_filtL (xs := es) (g := eT) (fun e => (getA s.tab (one, e)).isSome) (fun e => FK.T.int ((getA s.tab (one, e)).getD (0, [])).1) (ed_fld CC T.n_Chains_ends (ed_var rfl) rfl) (by omega) rfl (fun e he => ⟨_, ev_name (by simp), ?_, fun q => ?_, rfl⟩))) ?_)).to ?_)) (minI_mem _ _) (minI_le _ _)) rfl
  · exact et_test ((ed_inP ((ed_tup (ea_cons (ed_var rfl) (ea_cons (ed_var rfl) ea_nil)) (by simp)).to (pk_tup one e)) (ed_fld CC T.n_Chains_table (ed_var rfl) rfl)).to (by rw [look_tab, Option.isSome_map]))
  · obtain ⟨v, hv⟩ := Option.isSome_iff_exists.mp q
    rw [hv]
    exact ed_ixT (ed_ixP (t := entT' v) (ed_fld CC T.n_Chains_table (ed_var rfl) rfl) ((ed_tup (ea_cons (ed_var rfl) (ea_cons (ed_var rfl) ea_nil)) (by simp)).to (pk_tup one e)) (by rw [look_tab, hv]; rfl)) ed_int rfl
  · have : (es.filter fun e => (getA s.tab (one, e)).isSome).length ≤ es.length := List.length_filter_le _ _
    simp only [List.length_cons, List.length_nil, List.length_map]
    omega
  · show FK.T.lst ([FK.T.int 0] ++ _) = FK.T.lst ((0 :: sums es s one).map FK.T.int)
    rw [sums_filter]
    rfl
def R_Chains_thing_of (T : Tx K mg) (ts : List FK.T) (t : FK.T) : Prop := ∃ C es cs s ns f, ts = [chT C es cs s, .ndc (nL ns)] ∧ C = T.Chains.C ∧ es.length ≤ 100 ∧ (∀ e ∈ es, getA ns e = some (f e)) ∧ none ∈ es ∧ t = tT (thingOf es f)
set_option maxHeartbeats 8000000 in
theorem ok_Chains_thing_of (T : Tx K mg) : FnOk P w K mg base CX0 1 T.Chains_thing_of.f T.Chains_thing_of.fd ["self", "numbers"] (spT P w (R_Chains_thing_of T)) := by
  refine T.Chains_thing_of.F.ok sc_Chains_thing_of (len_T fun ts t h => by unfold R_Chains_thing_of at h; obtain ⟨_, _, _, _, _, _, rfl, _⟩ := h; rfl) (fun cdv A outer s H vs Q E hr h => ⟨_, (pss_cons (ps_asg pe_dnew (gn 2 (sc_Chains_thing_of).nd)) (pss_cons (ps_for PassesOwn.never rfl (pi_list (pe_fld (pv 0) rfl)) (gn 3 (sc_Chains_thing_of).nd) (pss_one (ps_if (pt_cmpR op_isNotA (pv 3) pe_non (nomark _)) (pss_one (ps_asg (pe_op op_sub (pe_ix (ix_any (hu_of hr)) (pv 1) (pv 3) (fun _ _ => rfl)) (pe_ix (ix_any (hu_of hr)) (pv 1) pe_non (fun _ _ => rfl))) (pg_sub (pv 2) (pv 3) (set_any (hu_of hr))))) pss_nil))) (pss_one (ps_ret (pv 2))))), run_T (N := n_Chains_thing_of) h ?_⟩)
  rintro ts r ⟨C, es, cs, s, ns, f, rfl, rfl, hl, hg, hn, rfl⟩
  have CC := T.Chains.cl
  refine bd_then (bd_asgN en_dnew fun a => ?_)
  refine bd_then (bd_foldLi (xs := es) (g := eT) (fun acc Γ' => ∃ x, Γ' = ⟨[some (chT T.Chains.C es cs s), some (.ndc (nL ns)), some (.val (.ref a)), x], [⟨false, a, .dic (tL acc)⟩]⟩) (thStep f) [] (ed_fld CC T.n_Chains_ends (ed_var rfl) rfl) ⟨_, rfl⟩ ?_ ?_)
  · rintro i hi Γ' ⟨x, rfl⟩
    refine ⟨_, eg_name, ?_⟩
    have hlen := fold_len (thStep_len f) (es.take i) []
    have hi2 : (es.take i).length ≤ 100 := by rw [List.length_take]; omega
    have he := List.getElem_mem hi
    generalize (es.take i).foldl (thStep f) [] = acc at hlen ⊢
    generalize es[i] = e at he ⊢
    refine bd_if (et_test (ed_notN (ed_var rfl))) (fun q => ?_) (fun q => ?_)
    · cases e with
      | none => cases q
      | some y =>
        refine bd_putD (j := 0) (l := false) (ed_sub (i := f (some y)) (j := f none) (ed_ixN (k := eL (some y)) (ed_var rfl) (ed_var rfl) (by rw [look_nL, hg _ he]; rfl)) (ed_ixN (k := eL none) (ed_var rfl) ed_non (by rw [look_nL, hg _ hn]; rfl))) (ed_var rfl) (ed_var rfl) rfl (by unfold tL; rw [List.length_map]; simp at hlen; omega) ⟨some (.str y), ?_⟩
        rw [put_tL]
        rfl
    · cases e with
      | none => exact bd_next ⟨_, rfl⟩
      | some y => cases q
  · rintro Γ' ⟨x, rfl⟩
    exact bd_ret (ed_frz (j := 0) (ed_var rfl) rfl) rfl
end
end FK
set_option maxHeartbeats 8000000
namespace FK
open PySem L2
section
variable {P : Program} {w : World} {K : PySem.W.Frag} {mg : Str → Option Value} {base : Heap}
def R_leads_on (ts : List FK.T) (t : FK.T) : Prop := ∃ cs ns, ts = [csT cs, intsT ns] ∧ ns.length ≤ 10000 ∧ t = .bl (leadsB cs ns)
theorem lenC (cs : List Chk) : (((cs.map cT).length : Nat) : Int) = (cs.length : Nat) := by rw [List.length_map]
theorem tailI (ns : List Int) : cutT (ns.map FK.T.int) (some 1) none = ns.tail.map FK.T.int := by
  rw [cut_tail]
  cases ns <;> rfl
set_option maxHeartbeats 8000000 in
theorem ok_leads_on (T : Tx K mg) : FnOk P w K mg base CX0 2 T.leads_on.f T.leads_on.fd ["rules", "counts"] (spT P w (R_leads_on)) := by
  refine T.leads_on.F.ok sc_leads_on (len_T fun ts t h => by unfold R_leads_on at h; obtain ⟨_, _, rfl, _⟩ := h; rfl) (fun cdv A outer s H vs Q E hr h => ⟨_, (pss_cons (ps_if (PW.pt (pw_or (pt_cmpR (op_eqA hr.units) (pv 1) (pe_lst pa_nil) (nomark _)) (pw_or1 (pt_not (pt_val (pe_callB (cr_all rfl) (by rfl) T.b_all (by decide +kernel) (pa_cons (pe_lc (own := [("at", 2)]) rfl (sc_leads_on).nd (pi_list (pv 1)) (blkOk_by (N := n_leads_on) (sc := defScope s_leads_on) (by decide +kernel)) (fun _ _ _ _ _ => (gn 2 (sc_leads_on).nd)) (fun _ _ _ _ _ => pts_nil) (fun _ _ _ _ _ => (pe_and (pe_call (ok_is_number (P := P) (w := w) (base := base) T) (hr.mono (by decide)) (by rfl) T.is_number.g T.is_number.F.kp T.is_number.b .nil pass0 (pa_cons (pv 2) pa_nil)) (pe_one (pe_chain op_le op_lt pe_int (pv 2) (pe_callB (show CallR _ _ (rLenA K) from call_lenA) (by rfl) T.b_len (by decide +kernel) (pa_cons (pv 0) pa_nil))))))) pa_nil))))))) (pss_one (ps_ret pe_bl)) pss_nil) (pss_one (ps_ret (pe_callB (cr_all rfl) (by rfl) T.b_all (by decide +kernel) (pa_cons (pe_lc (own := [("one", 3), ("other", 4)]) rfl (sc_leads_on).nd (pi_zip (by rfl) T.b_zip (pa_cons (pv 1) (pa_cons (pe_slice sl_list (pv 1) (po_some pe_int) po_none) pa_nil))) (blkOk_by (N := n_leads_on) (sc := defScope s_leads_on) (by decide +kernel)) (fun _ _ _ _ _ => (show PG _ _ (gTup K 2 _) from (pg_tup rfl (pgs_cons (gn 3 (sc_leads_on).nd) (pgs_cons (gn 4 (sc_leads_on).nd) pgs_nil))))) (fun _ _ _ _ _ => pts_nil) (fun _ _ _ _ _ => (pe_cmpR (show OpR _ _ (rEqA K) from (op_eqA hr.units)) (pe_ix (show IxR _ (rIxA P w K) from (ix_any (hu_of hr))) (pe_ix (show IxR _ (rIxA P w K) from (ix_any (hu_of hr))) (pv 0) (pv 3) (fun _ _ => rfl)) pe_int (fun _ _ => rfl)) (pe_ix (show IxR _ (rIxA P w K) from (ix_any (hu_of hr))) (pe_ix (show IxR _ (rIxA P w K) from (ix_any (hu_of hr))) (pv 0) (pv 4) (fun _ _ => rfl)) pe_int (fun _ _ => rfl)) (nomark _)))) pa_nil))))), run_T (N := n_leads_on) h ?_⟩)
  rintro ts r ⟨cs, ns, rfl, hl, rfl⟩
  have hl' : ns.length ≤ 100000 := by omega
  have rg : ∀ i, (true && (decide (0 ≤ i) && decide (i < (((cs.map cT).length : Nat) : Int)))) = inR cs.length i := fun i => by rw [lenC, Bool.true_and]; rfl
  refine bd_then (bd_if (et_or (et_test (ed_eqInts (ns := ns) (ms := []) (ed_var rfl) (ed_lst ea_nil (by simp)))) (fun _ => et_not (et_val (ed_allL (g := FK.T.int) (xs := ns) (inR cs.length) (ed_var rfl) hl' rfl (fun i hi => ⟨_, _, ev_name (by simp), (ed_and (ed_call (ea_one (ed_var rfl)) ⟨i, rfl, rfl⟩) (fun _ => ed_chain (ed_int (i := 0)) (ed_var rfl) (rt_I0 fun _ => .bl _) (fun _ => ed_lenL (ea_one (ed_var rfl))) (fun _ => rt_I0 fun _ => .bl _))).to (congrArg FK.T.bl (rg i)), rfl⟩))))) (fun q => bd_ret ed_bl ?_) (fun q => bd_next ?_))
  · unfold leadsB
    congr 1
    cases h1 : decide (ns = []) <;> cases h2 : ns.all (inR cs.length) <;> simp [h1, h2] at q ⊢
  · have q1 : decide (ns = []) = false := by cases h1 : decide (ns = []) <;> simp [h1] at q ⊢
    have q2 : ns.all (inR cs.length) = true := by cases h2 : ns.all (inR cs.length) <;> simp [q1, h2] at q ⊢
    have hin := List.all_eq_true.mp q2
    refine bd_ret (ed_allZ (g := FK.T.int) (h := FK.T.int) (xs := ns) (ys := ns.tail) (fun i j => decide ((ckAt cs i).2.1 = (ckAt cs j).1)) (ea_cons (ed_var rfl) (ea_one ((ed_of_en (en_slice (ed_var rfl) (eo_some ed_int) eo_none)).to (congrArg FK.T.lst (tailI ns))))) hl' rfl (fun i j hij => ?_)) ?_
    · have h1 := atI_map (g := cT) (atI_ck (hin i (List.of_mem_zip hij).1))
      have h2 := atI_map (g := cT) (atI_ck (hin j (List.mem_of_mem_tail (List.of_mem_zip hij).2)))
      exact ⟨_, _, ev_tup (evs_cons (ev_name (by simp)) (evs_cons (ev_name (by simp)) evs_nil)) rfl, ed_eqE (ed_ixT (ed_ixL (ed_var rfl) (ed_var rfl) h1) ed_int rfl) (ed_ixT (ed_ixL (ed_var rfl) (ed_var rfl) h2) ed_int rfl), rfl⟩
    · unfold leadsB
      rw [q1, q2]
      rfl
def chainB (cs : List Chk) (ns : List Int) (a b : End) : Bool := leadsB cs ns && (!decide (a = b) && (decide ((ckAt cs (headI ns)).1 = a) && decide ((ckAt cs (lastI ns)).2.1 = b)))
def R_is_chain (ts : List FK.T) (t : FK.T) : Prop := ∃ cs ns a b, ts = [csT cs, intsT ns, eT a, eT b] ∧ ns.length ≤ 10000 ∧ t = .bl (chainB cs ns a b)
set_option maxHeartbeats 8000000 in
theorem ok_is_chain (T : Tx K mg) : FnOk P w K mg base CX0 3 T.is_chain.f T.is_chain.fd ["rules", "counts", "one", "other"] (spT P w (R_is_chain)) := by
  refine T.is_chain.F.ok sc_is_chain (len_T fun ts t h => by unfold R_is_chain at h; obtain ⟨_, _, _, _, rfl, _⟩ := h; rfl) (fun cdv A outer s H vs Q E hr h => ⟨_, (pss_cons (ps_if (pt_not (pt_val (pe_call (ok_leads_on (P := P) (w := w) (base := base) T) (hr.mono (by decide)) (by rfl) T.leads_on.g T.leads_on.F.kp T.leads_on.b .nil pass0 (pa_cons (pv 0) (pa_cons (pv 1) pa_nil))))) (pss_one (ps_ret pe_bl)) pss_nil) (pss_one (ps_ret (pe_and (pe_cmpR (op_neA hr.units) (pv 2) (pv 3) (nomark _)) (pe_and (pe_cmpR (op_eqA hr.units) (pe_ix (ix_any (hu_of hr)) (pe_ix (ix_any (hu_of hr)) (pv 0) (pe_ix (ix_any (hu_of hr)) (pv 1) pe_int (fun _ _ => rfl)) (fun _ _ => rfl)) pe_int (fun _ _ => rfl)) (pv 2) (nomark _)) (pe_one (pe_cmpR (op_eqA hr.units) (pe_ix (ix_any (hu_of hr)) (pe_ix (ix_any (hu_of hr)) (pv 0) (pe_ix (ix_any (hu_of hr)) (pv 1) (pe_un un_neg pe_int) (fun _ _ => rfl)) (fun _ _ => rfl)) pe_int (fun _ _ => rfl)) (pv 3) (nomark _)))))))), run_T (N := n_is_chain) h ?_⟩)
  rintro ts r ⟨cs, ns, a, b, rfl, hl, rfl⟩
  refine bd_then (bd_if (et_not (et_val (ed_call (ea_cons (ed_var rfl) (ea_one (ed_var rfl))) ⟨cs, ns, rfl, hl, rfl⟩))) (fun q => bd_ret ed_bl ?_) (fun q => bd_next ?_))
  · have q : leadsB cs ns = false := by simpa using q
    unfold chainB
    rw [q]; rfl
  · have q : leadsB cs ns = true := by simpa using q
    obtain ⟨hne, hin⟩ := leads_in q
    have h1 := atI_map (g := cT) (atI_ck (hin _ (last_of hne).2))
    have h2 := atI_map (g := cT) (atI_ck (hin _ (head_of hne).2))
    refine bd_ret (ed_and (ed_neE (a := a) (b := b) (ed_var rfl) (ed_var rfl)) (fun _ => ed_and (ed_eqE (ed_ixT (ed_ixL (ed_var rfl) (ed_ixL (ed_var rfl) ed_int (atI_map (g := FK.T.int) (atI_head (head_of hne).1))) h2) ed_int rfl) (ed_var rfl)) (fun _ => ed_eqE (ed_ixT (ed_ixL (ed_var rfl) (ed_ixL (ed_var rfl) (ed_neg ed_int) (atI_map (g := FK.T.int) (atI_last (last_of hne).1))) h1) ed_int rfl) (ed_var rfl)))) ?_
    unfold chainB
    rw [q]; rfl
def R_is_ring (ts : List FK.T) (t : FK.T) : Prop := ∃ cs ns, ts = [csT cs, intsT ns] ∧ ns.length ≤ 10000 ∧ t = .bl (ringB cs ns)
set_option maxHeartbeats 8000000 in
theorem ok_is_ring (T : Tx K mg) : FnOk P w K mg base CX0 3 T.is_ring.f T.is_ring.fd ["rules", "counts"] (spT P w (R_is_ring)) := by
  refine T.is_ring.F.ok sc_is_ring (len_T fun ts t h => by unfold R_is_ring at h; obtain ⟨_, _, rfl, _⟩ := h; rfl) (fun cdv A outer s H vs Q E hr h => ⟨_, (pss_one (ps_ret (pe_and (pe_call (ok_leads_on (P := P) (w := w) (base := base) T) (hr.mono (by decide)) (by rfl) T.leads_on.g T.leads_on.F.kp T.leads_on.b .nil pass0 (pa_cons (pv 0) (pa_cons (pv 1) pa_nil))) (pe_one (pe_cmpR (op_eqA hr.units) (pe_ix (ix_any (hu_of hr)) (pe_ix (ix_any (hu_of hr)) (pv 0) (pe_ix (ix_any (hu_of hr)) (pv 1) (pe_un un_neg pe_int) (fun _ _ => rfl)) (fun _ _ => rfl)) pe_int (fun _ _ => rfl)) (pe_ix (ix_any (hu_of hr)) (pe_ix (ix_any (hu_of hr)) (pv 0) (pe_ix (ix_any (hu_of hr)) (pv 1) pe_int (fun _ _ => rfl)) (fun _ _ => rfl)) pe_int (fun _ _ => rfl)) (nomark _)))))), run_T (N := n_is_ring) h ?_⟩)
  rintro ts r ⟨cs, ns, rfl, hl, rfl⟩
  refine bd_ret (ed_and (ed_call (ea_cons (ed_var rfl) (ea_cons (ed_var rfl) ea_nil)) ⟨cs, ns, rfl, hl, rfl⟩) (fun q => ?_)) (t := .bl (leadsB cs ns && decide ((ckAt cs (lastI ns)).2.1 = (ckAt cs (headI ns)).1))) rfl
  obtain ⟨hne, hin⟩ := leads_in q
  have h1 := atI_map (g := cT) (atI_ck (hin _ (last_of hne).2))
  have h2 := atI_map (g := cT) (atI_ck (hin _ (head_of hne).2))
  exact ed_eqE (ed_ixT (ed_ixL (ed_var rfl) (ed_ixL (ed_var rfl) (ed_neg ed_int) (atI_map (g := FK.T.int) (atI_last (last_of hne).1))) h1) ed_int rfl) (ed_ixT (ed_ixL (ed_var rfl) (ed_ixL (ed_var rfl) ed_int (atI_map (g := FK.T.int) (atI_head (head_of hne).1))) h2) ed_int rfl)
def R_sum_of (ts : List FK.T) (t : FK.T) : Prop := ∃ cs ns, ts = [csT cs, intsT ns] ∧ ns.length ≤ 10000 ∧ (∀ i ∈ ns, inR cs.length i = true) ∧ t = .int (sumI cs ns)
set_option maxHeartbeats 8000000 in
theorem ok_sum_of (T : Tx K mg) : FnOk P w K mg base CX0 1 T.sum_of.f T.sum_of.fd ["rules", "counts"] (spT P w (R_sum_of)) := by
  refine T.sum_of.F.ok sc_sum_of (len_T fun ts t h => by unfold R_sum_of at h; obtain ⟨_, _, rfl, _⟩ := h; rfl) (fun cdv A outer s H vs Q E hr h => ⟨_, (pss_one (ps_ret (pe_callB (cr_sum rfl) (by rfl) T.b_sum (by decide +kernel) (pa_cons (pe_lc (own := [("at", 2)]) rfl (sc_sum_of).nd (pi_list (pv 1)) (blkOk_by (N := n_sum_of) (sc := defScope s_sum_of) (by decide +kernel)) (fun _ _ _ _ _ => (gn 2 (sc_sum_of).nd)) (fun _ _ _ _ _ => pts_nil) (fun _ _ _ _ _ => (pe_ix (show IxR _ (rIxA P w K) from (ix_any (hu_of hr))) (pe_ix (show IxR _ (rIxA P w K) from (ix_any (hu_of hr))) (pv 0) (pv 2) (fun _ _ => rfl)) pe_int (fun _ _ => rfl)))) pa_nil)))), run_T (N := n_sum_of) h ?_⟩)
  rintro ts r ⟨cs, ns, rfl, hl, hin, rfl⟩
  exact bd_ret (ed_sumL (g := FK.T.int) (xs := ns) (fun i => (ckAt cs i).2.2) (ed_var rfl) (by omega) rfl (fun i hi => ⟨_, _, ev_name (by simp), ed_ixT (ed_ixL (ed_var rfl) (ed_var rfl) (atI_map (g := cT) (atI_ck (hin i hi)))) ed_int rfl, rfl⟩)) rfl
def R_has_things (T : Tx K mg) (ts : List FK.T) (t : FK.T) : Prop := ∃ C fs cs, ts = [kT C fs cs] ∧ C = T.Kind.C ∧ fs.length ≤ 6 ∧ cs.length ≤ 16 ∧ t = .bl (chainsE (endsOf fs) cs).ring.isNone
set_option maxHeartbeats 8000000 in
theorem ok_has_things (T : Tx K mg) : FnOk P w K mg base CX0 5 T.has_things.f T.has_things.fd ["kind"] (spT P w (R_has_things T)) := by
  refine T.has_things.F.ok sc_has_things (len_T fun ts t h => by unfold R_has_things at h; obtain ⟨_, _, _, rfl, _⟩ := h; rfl) (fun cdv A outer s H vs Q E hr h => ⟨_, (pss_one (ps_ret (pe_cmpR op_isA (pe_fld (pe_make T.mk_Chains (ok_Chains_init (P := P) (w := w) (base := base) T) (hr.mono (by decide)) (by rfl) T.Chains.g T.Chains_init.b .nil pass0 (pa_cons (pv 0) pa_nil)) rfl) pe_non (nomark _)))), run_T (N := n_has_things) h ?_⟩)
  rintro ts r ⟨C, fs, cs, rfl, rfl, hf, hc, rfl⟩
  exact bd_ret ((ed_isN (ed_fld (t := ringT (chainsE (endsOf fs) cs).ring) T.Chains.cl T.n_Chains_ring (ed_make (ea_one (ed_var rfl)) (fun p => ⟨p, _, fs, cs, rfl, rfl, rfl, hf, hc, rfl, rfl⟩)) rfl)).to (congrArg FK.T.bl (ringT_isN _))) rfl
def goodB (fs : List Str) (cs : List Chk) (th : Thing) : Bool := thB fs th && (fw cs th).isNone
theorem oT_isN (o : Option Nat) : (oT o).isN = o.isNone := by cases o <;> rfl
def R_is_good (T : Tx K mg) (ts : List FK.T) (t : FK.T) : Prop := ∃ C fs cs th, ts = [kT C fs cs, tT th] ∧ C = T.Kind.C ∧ Fld fs ∧ Cks fs cs ∧ t = .bl (goodB fs cs th)
set_option maxHeartbeats 8000000 in
theorem ok_is_good (T : Tx K mg) : FnOk P w K mg base CX0 4 T.is_good.f T.is_good.fd ["kind", "thing"] (spT P w (R_is_good T)) := by
  refine T.is_good.F.ok sc_is_good (len_T fun ts t h => by unfold R_is_good at h; obtain ⟨_, _, _, _, rfl, _⟩ := h; rfl) (fun cdv A outer s H vs Q E hr h => ⟨_, (pss_one (ps_ret (pe_and (pe_call (ok_is_thing (P := P) (w := w) (base := base) T) (hr.mono (by decide)) (by rfl) T.is_thing.g T.is_thing.F.kp T.is_thing.b .nil pass0 (pa_cons (pv 1) (pa_cons (pe_fld (pv 0) rfl) pa_nil))) (pe_one (pe_cmpR op_isA (pe_call (ok_first_wrong (P := P) (w := w) (base := base) T) (hr.mono (by decide)) (by rfl) T.first_wrong.g T.first_wrong.F.kp T.first_wrong.b .nil pass0 (pa_cons (pe_fld (pv 0) rfl) (pa_cons (pv 1) pa_nil))) pe_non (nomark _)))))), run_T (N := n_is_good) h ?_⟩)
  rintro ts r ⟨C, fs, cs, th, rfl, rfl, hf, hc, rfl⟩
  have hl := hf.most
  refine bd_ret (ed_and (ed_call (ea_cons (ed_var rfl) (ea_cons (ed_fld T.Kind.cl T.n_Kind_row (ed_var rfl) rfl) ea_nil)) ⟨th, fs, rfl, by omega, rfl⟩) (fun q => ?_)) (t := .bl (thB fs th && (fw cs th).isNone)) rfl
  have hth := thB_th q
  exact (ed_isN (ed_call (ea_cons (ed_fld T.Kind.cl T.n_Kind_rules (ed_var rfl) rfl) (ea_cons (ed_var rfl) ea_nil)) ⟨cs, th, rfl, fun c h => ⟨hth.has (hc.ends c h).1, hth.has (hc.ends c h).2.1⟩, rfl⟩)).to (congrArg FK.T.bl (oT_isN _))
def distT : Option Int → FK.T
  | none => .non
  | Option.some x => .int x
theorem distT_isN (o : Option Int) : (distT o).isN = o.isNone := by cases o <;> rfl
def R_Chains_sum_of (T : Tx K mg) (ts : List FK.T) (t : FK.T) : Prop := ∃ C es cs s a b, ts = [chT C es cs s, eT a, eT b] ∧ C = T.Chains.C ∧ t = distT (dist s a b)
set_option maxHeartbeats 8000000 in
theorem ok_Chains_sum_of (T : Tx K mg) : FnOk P w K mg base CX0 1 T.Chains_sum_of.f T.Chains_sum_of.fd ["self", "one", "other"] (spT P w (R_Chains_sum_of T)) := by
  refine T.Chains_sum_of.F.ok sc_Chains_sum_of (len_T fun ts t h => by unfold R_Chains_sum_of at h; obtain ⟨_, _, _, _, _, _, rfl, _⟩ := h; rfl) (fun cdv A outer s H vs Q E hr h => ⟨_, (pss_cons (ps_if (pt_cmpR (op_eqA hr.units) (pv 1) (pv 2) (nomark _)) (pss_one (ps_ret pe_int)) pss_nil) (pss_one (ps_ret (pe_ifExp (pt_cmpR (op_inA (hu_of hr)) (pe_tup (pa_cons (pv 1) (pa_cons (pv 2) pa_nil))) (pe_fld (pv 0) rfl) (by rfl)) (pe_ix (ix_any (hu_of hr)) (pe_ix (ix_any (hu_of hr)) (pe_fld (pv 0) rfl) (pe_tup (pa_cons (pv 1) (pa_cons (pv 2) pa_nil))) (fun _ _ => rfl)) pe_int (fun _ _ => rfl)) pe_non)))), run_T (N := n_Chains_sum_of) h ?_⟩)
  rintro ts r ⟨C, es, cs, s, a, b, rfl, rfl, rfl⟩
  have CC := T.Chains.cl
  refine bd_then (bd_if (et_test (ed_eqE (a := a) (b := b) (ed_var rfl) (ed_var rfl))) (fun q => bd_ret ed_int ?_) (fun q => bd_next ?_))
  · have q := of_decide_eq_true q
    subst q
    rw [dist_self]; rfl
  · have q := of_decide_eq_false q
    rw [dist_ne _ q]
    refine bd_ret (ed_ifp (b := (getA s.tab (a, b)).isSome) (et_test ((ed_inP ((ed_tup (ea_cons (ed_var rfl) (ea_one (ed_var rfl))) (by simp)).to (pk_tup a b)) (ed_fld CC T.n_Chains_table (ed_var rfl) rfl)).to (by rw [look_tab, Option.isSome_map]))) (fun z => ?_) (fun z => ?_)) rfl
    · obtain ⟨v, hv⟩ := Option.isSome_iff_exists.mp z
      rw [hv]
      exact ed_ixT (ed_ixP (t := entT' v) (ed_fld CC T.n_Chains_table (ed_var rfl) rfl) ((ed_tup (ea_cons (ed_var rfl) (ea_one (ed_var rfl))) (by simp)).to (pk_tup a b)) (by rw [look_tab, hv]; rfl)) ed_int rfl
    · have z : getA s.tab (a, b) = none := by simpa using z
      rw [z]
      exact ed_non
def R_Chains_counts_of (T : Tx K mg) (ts : List FK.T) (t : FK.T) : Prop := ∃ C es cs s a b v, ts = [chT C es cs s, eT a, eT b] ∧ C = T.Chains.C ∧ getA s.tab (a, b) = Option.some v ∧ t = natsT v.2
set_option maxHeartbeats 8000000 in
theorem ok_Chains_counts_of (T : Tx K mg) : FnOk P w K mg base CX0 1 T.Chains_counts_of.f T.Chains_counts_of.fd ["self", "one", "other"] (spT P w (R_Chains_counts_of T)) := by
  refine T.Chains_counts_of.F.ok sc_Chains_counts_of (len_T fun ts t h => by unfold R_Chains_counts_of at h; obtain ⟨_, _, _, _, _, _, _, rfl, _⟩ := h; rfl) (fun cdv A outer s H vs Q E hr h => ⟨_, (pss_one (ps_ret (pe_callTy (call_listA rfl) (by rfl) T.b_list (by decide +kernel) (pa_cons (pe_ix (ix_any (hu_of hr)) (pe_ix (ix_any (hu_of hr)) (pe_fld (pv 0) rfl) (pe_tup (pa_cons (pv 1) (pa_cons (pv 2) pa_nil))) (fun _ _ => rfl)) pe_int (fun _ _ => rfl)) pa_nil)))), run_T (N := n_Chains_counts_of) h ?_⟩)
  rintro ts r ⟨C, es, cs, s, a, b, v, rfl, rfl, hv, rfl⟩
  have CC := T.Chains.cl
  exact bd_ret (ed_of_en (o := .lst ((natsI v.2).map FK.T.int)) (en_listL (ea_one (ed_ixT (ed_ixP (t := entT' v) (ed_fld CC T.n_Chains_table (ed_var rfl) rfl) ((ed_tup (ea_cons (ed_var rfl) (ea_one (ed_var rfl))) (by simp)).to (pk_tup a b)) (by rw [look_tab, hv]; rfl)) ed_int rfl)))) rfl
def R_Chains_thing_apart (T : Tx K mg) (ts : List FK.T) (t : FK.T) : Prop := ∃ C es cs s o, ts = [chT C es cs s, eT o] ∧ C = T.Chains.C ∧ es.length ≤ 100 ∧ none ∈ es ∧ t = tT (thingOf es (apart es s o))
set_option maxHeartbeats 8000000 in
theorem ok_Chains_thing_apart (T : Tx K mg) : FnOk P w K mg base CX0 2 T.Chains_thing_apart.f T.Chains_thing_apart.fd ["self", "other"] (spT P w (R_Chains_thing_apart T)) := by
  refine T.Chains_thing_apart.F.ok sc_Chains_thing_apart (len_T fun ts t h => by unfold R_Chains_thing_apart at h; obtain ⟨_, _, _, _, _, rfl, _⟩ := h; rfl) (fun cdv A outer s H vs Q E hr h => ⟨_, (pss_cons (ps_asg pe_dnew (gn 2 (sc_Chains_thing_apart).nd)) (pss_cons (ps_for PassesOwn.never rfl (pi_list (pe_fld (pv 0) rfl)) (gn 3 (sc_Chains_thing_apart).nd) (pss_cons (ps_asg (pe_meth (pv 0) T.Chains.cl T.Chains_sum_of.m (ok_Chains_sum_of (P := P) (w := w) (base := base) T) (hr.mono (by decide)) T.Chains_sum_of.b .nil pass0 (pa_cons (pv 3) (pa_cons (pv 1) pa_nil))) (gn 4 (sc_Chains_thing_apart).nd)) (pss_one (ps_asg (pe_ifExp (pt_cmpR op_isNotA (pv 4) pe_non (nomark _)) (pv 4) (pe_op op_addA (pe_glob (v := .int 5000) (by rfl) T.c_MUCH ⟨_, rfl⟩) (pe_meth (pv 0) T.Chains.cl T.Chains_lowest.m (ok_Chains_lowest (P := P) (w := w) (base := base) T) (hr.mono (by decide)) T.Chains_lowest.b .nil pass0 (pa_cons (pv 3) pa_nil)))) (pg_sub (pv 2) (pv 3) (set_any (hu_of hr))))))) (pss_one (ps_ret (pe_meth (pv 0) T.Chains.cl T.Chains_thing_of.m (ok_Chains_thing_of (P := P) (w := w) (base := base) T) (hr.mono (by decide)) T.Chains_thing_of.b .nil pass0 (pa_cons (pv 2) pa_nil)))))), run_T (N := n_Chains_thing_apart) h ?_⟩)
  rintro ts r ⟨C, es, cs, s, o, rfl, rfl, hl, hn, rfl⟩
  have CC := T.Chains.cl
  refine bd_then (bd_asgN en_nnew fun a => ?_)
  refine bd_then (bd_foldLi (xs := es) (g := eT) (fun acc Γ' => ∃ x y, Γ' = ⟨[some (chT T.Chains.C es cs s), some (eT o), some (.val (.ref a)), x, y], [⟨false, a, .ndc (nL acc)⟩]⟩) (fun acc e => putA acc e (apart es s o e)) [] (ed_fld CC T.n_Chains_ends (ed_var rfl) rfl) ⟨_, _, rfl⟩ ?_ ?_)
  · rintro i hi Γ' ⟨x, y, rfl⟩
    refine ⟨_, eg_name, ?_⟩
    have hlen := fold_len (f := fun acc e => putA acc e (apart es s o e)) (fun acc e => putA_length_le _ _ _) (es.take i) []
    have hi2 : (es.take i).length ≤ 100 := by rw [List.length_take]; omega
    generalize (es.take i).foldl (fun acc e => putA acc e (apart es s o e)) [] = acc at hlen ⊢
    generalize es[i] = e
    have hput : (nL acc).length < 100000 := by unfold nL; rw [List.length_map]; simp at hlen; omega
    refine bd_then (bd_asg (ed_meth (ed_var rfl) rfl (ea_cons (ed_var rfl) (ea_one (ed_var rfl))) ⟨_, es, cs, s, e, o, rfl, rfl, rfl⟩) eg_name ?_)
    refine bd_putN (j := 0) (l := false) (k := eL e) (t := .int (apart es s o e)) (ed_ifp (b := (dist s e o).isSome) (et_test ((ed_notN (ed_var rfl)).to (by rw [distT_isN]; cases dist s e o <;> rfl))) (fun z => ?_) (fun z => ?_)) (ed_var rfl) ((ed_var rfl).to (lT_eL e).symm) rfl hput ⟨some (eT e), some (distT (dist s e o)), ?_⟩
    · obtain ⟨v, hv⟩ := Option.isSome_iff_exists.mp z
      unfold apart
      rw [hv]
      exact ed_var rfl
    · have z : dist s e o = none := by simpa using z
      unfold apart
      rw [z]
      exact ed_add ed_int (ed_meth (ed_var rfl) rfl (ea_one (ed_var rfl)) ⟨_, es, cs, s, e, rfl, rfl, hl, rfl⟩)
    · rw [put_nL]; rfl
  · rintro Γ' ⟨x, y, rfl⟩
    exact bd_ret (ed_meth (ed_var rfl) rfl (ea_one (ed_frz (j := 0) (ed_var rfl) rfl)) ⟨_, es, cs, s, _, apart es s o, rfl, rfl, hl, fun e he => fold_put_get (apart es s o) (.inl he), hn, rfl⟩) rfl
def R_Chains_come_to (T : Tx K mg) (ts : List FK.T) (t : FK.T) : Prop := ∃ C es cs s o, ts = [chT C es cs s, eT o] ∧ C = T.Chains.C ∧ es.length ≤ 100 ∧ t = endsT (comeTo es s o)
set_option maxHeartbeats 8000000 in
theorem ok_Chains_come_to (T : Tx K mg) : FnOk P w K mg base CX0 2 T.Chains_come_to.f T.Chains_come_to.fd ["self", "one"] (spT P w (R_Chains_come_to T)) := by
  refine T.Chains_come_to.F.ok sc_Chains_come_to (len_T fun ts t h => by unfold R_Chains_come_to at h; obtain ⟨_, _, _, _, _, rfl, _⟩ := h; rfl) (fun cdv A outer s H vs Q E hr h => ⟨_, (pss_one (ps_ret (pe_lc (own := [("end", 2)]) rfl (sc_Chains_come_to).nd (pi_list (pe_fld (pv 0) rfl)) (blkOk_by (N := n_Chains_come_to) (sc := defScope s_Chains_come_to) (by decide +kernel)) (fun _ _ _ _ _ => (gn 2 (sc_Chains_come_to).nd)) (fun _ _ _ _ _ => (pts_one (pt_cmpR op_isNotA (pe_meth (pv 0) T.Chains.cl T.Chains_sum_of.m (ok_Chains_sum_of (P := P) (w := w) (base := base) T) (hr.mono (by decide)) T.Chains_sum_of.b .nil pass0 (pa_cons (pv 1) (pa_cons (pv 2) pa_nil))) pe_non (nomark _)))) (fun _ _ _ _ _ => (pv 2))))), run_T (N := n_Chains_come_to) h ?_⟩)
  rintro ts r ⟨C, es, cs, s, o, rfl, rfl, hl, rfl⟩
  have CC := T.Chains.cl
  exact bd_ret (ed_of_en (o := .lst ((comeTo es s o).map eT)) (en_filtL (xs := es) (g := eT) (fun e => (dist s o e).isSome) eT (ed_fld CC T.n_Chains_ends (ed_var rfl) rfl) (by omega) rfl (fun e he => ⟨_, ev_name (by simp), et_test ((ed_notN (ed_meth (ed_var rfl) rfl (ea_cons (ed_var rfl) (ea_one (ed_var rfl))) ⟨_, es, cs, s, o, e, rfl, rfl, rfl⟩)).to (by rw [distT_isN]; cases dist s o e <;> rfl)), fun _ => ed_var rfl, rfl⟩))) rfl
def R_full_chains (T : Tx K mg) (ts : List FK.T) (t : FK.T) : Prop := ∃ C fs cs, ts = [kT C fs cs] ∧ C = T.Kind.C ∧ fs.length ≤ 6 ∧ cs.length ≤ 16 ∧ (chainsE (endsOf fs) cs).ring = none ∧ t = chT T.Chains.C (endsOf fs) cs (chainsE (endsOf fs) cs)
set_option maxHeartbeats 8000000 in
theorem ok_full_chains (T : Tx K mg) : FnOk P w K mg base CX0 5 T.full_chains.f T.full_chains.fd ["kind"] (spT P w (R_full_chains T)) := by
  refine T.full_chains.F.ok sc_full_chains (len_T fun ts t h => by unfold R_full_chains at h; obtain ⟨_, _, _, rfl, _⟩ := h; rfl) (fun cdv A outer s H vs Q E hr h => ⟨_, (pss_cons (ps_asg (pe_make T.mk_Chains (ok_Chains_init (P := P) (w := w) (base := base) T) (hr.mono (by decide)) (by rfl) T.Chains.g T.Chains_init.b .nil pass0 (pa_cons (pv 0) pa_nil)) (gn 1 (sc_full_chains).nd)) (pss_cons (ps_if (pt_cmpR op_isNotA (pe_fld (pv 1) rfl) pe_non (nomark _)) (pss_one ps_never) pss_nil) (pss_one (ps_ret (pv 1))))), run_T (N := n_full_chains) h ?_⟩)
  rintro ts r ⟨C, fs, cs, rfl, rfl, hf, hc, hr, rfl⟩
  refine bd_then (bd_asg (t := chT T.Chains.C (endsOf fs) cs (chainsE (endsOf fs) cs)) (ed_make (ea_one (ed_var rfl)) (fun p => ⟨p, _, fs, cs, rfl, rfl, rfl, hf, hc, rfl, rfl⟩)) eg_name ?_)
  exact bd_then (bd_skip ((et_test (ed_notN (ed_fld (t := ringT (chainsE (endsOf fs) cs).ring) T.Chains.cl T.n_Chains_ring (ed_var rfl) rfl))).to (by rw [ringT_isN, hr]; rfl)) (bd_ret (ed_var rfl) rfl))
end
end FK
set_option maxHeartbeats 8000000
namespace FK
open PySem L2
section
variable {P : Program} {w : World} {K : PySem.W.Frag} {mg : Str → Option Value} {base : Heap}
def soFs (th : Thing) : List (Str × FK.T) := [("thing", tT th)]
def riFs (ns : List Int) : List (Str × FK.T) := [("counts", intsT ns)]
def R_Some_init (T : Tx K mg) (gs : List AO) (ts : List FK.T) (t : FK.T) (gs' : List AO) : Prop := ∃ p C th, gs = [(p, .ins C [])] ∧ ts = [.val (.ref p), tT th] ∧ C = T.Some.C ∧ t = .non ∧ gs' = [(p, .ins C (soFs th))]
set_option maxHeartbeats 8000000 in
theorem ok_Some_init (T : Tx K mg) : FnOk P w K mg base CX0 1 T.Some_init.f T.Some_init.fd ["self", "thing"] (spM P w (R_Some_init T)) := by
  refine T.Some_init.F.ok sc_Some_init (len_M fun gs ts t gs' h => by unfold R_Some_init at h; obtain ⟨_, _, _, rfl, rfl, _⟩ := h; rfl) (fun cdv A outer s H vs Q E hr h => ⟨_, (pss_one (ps_fld (pv 0) (pe_callTy call_dictD (by rfl) T.b_dict (by decide +kernel) (pa_cons (pv 1) pa_nil)) rfl)), run_M (N := n_Some_init) h ?_⟩)
  rintro gs ts r gs' ⟨p, C, th, rfl, rfl, rfl, rfl, rfl⟩
  exact bd_fld (j := 0) (l := true) T.Some.cl T.n_Some_thing (ed_of_en (en_dictD (ea_one (ed_var rfl)))) (ed_var rfl) rfl (by decide) ⟨rfl, [], rfl⟩
def soG (p d C : Addr) (th : Thing) : List AO := [(p, .ins C [("thing", .val (.ref d))]), (d, .dic (tL th))]
def R_Some_init_B (T : Tx K mg) (gs : List AO) (ts : List FK.T) (Φ : FK.T → List AO → Prop) : Prop := ∃ p C th, gs = [(p, .ins C [])] ∧ ts = [.val (.ref p), tT th] ∧ C = T.Some.C ∧ Φ = fun t gs' => t = .non ∧ ∃ d, gs' = soG p d C th
set_option maxHeartbeats 8000000 in
theorem ok_Some_init_B (T : Tx K mg) : FnOk P w K mg base CX0 1 T.Some_init.f T.Some_init.fd ["self", "thing"] (spG P w (R_Some_init_B T)) := by
  refine T.Some_init.F.ok sc_Some_init (len_G fun gs ts Φ h => by unfold R_Some_init_B at h; obtain ⟨_, _, _, rfl, rfl, _⟩ := h; rfl) (fun cdv A outer s H vs Q E hr h => ⟨_, (pss_one (ps_fld (pv 0) (pe_callTy call_dictD (by rfl) T.b_dict (by decide +kernel) (pa_cons (pv 1) pa_nil)) rfl)), run_G (N := n_Some_init) h ?_⟩)
  rintro gs ts Φ ⟨p, C, th, rfl, rfl, rfl, rfl⟩
  exact bd_fldN (j := 0) (l := true) T.Some.cl T.n_Some_thing (en_dictD (kvs := tL th) (ea_one (ed_var rfl))) (fun d => ed_var rfl) (fun d => rfl) (by decide) fun d => ⟨soG p d T.Some.C th, [], rfl, rfl, d, rfl⟩
def R_Some_shows (T : Tx K mg) (ts : List FK.T) (t : FK.T) : Prop := ∃ C D fs cs th, ts = [.obj D (soFs th), kT C fs cs] ∧ C = T.Kind.C ∧ D = T.Some.C ∧ Fld fs ∧ Cks fs cs ∧ t = .bl (goodB fs cs th)
set_option maxHeartbeats 8000000 in
theorem ok_Some_shows (T : Tx K mg) : FnOk P w K mg base CX0 5 T.Some_shows.f T.Some_shows.fd ["self", "kind"] (spT P w (R_Some_shows T)) := by
  refine T.Some_shows.F.ok sc_Some_shows (len_T fun ts t h => by unfold R_Some_shows at h; obtain ⟨_, _, _, _, _, rfl, _⟩ := h; rfl) (fun cdv A outer s H vs Q E hr h => ⟨_, (pss_one (ps_ret (pe_call (ok_is_good (P := P) (w := w) (base := base) T) (hr.mono (by decide)) (by rfl) T.is_good.g T.is_good.F.kp T.is_good.b .nil pass0 (pa_cons (pv 1) (pa_cons (pe_fld (pv 0) rfl) pa_nil))))), run_T (N := n_Some_shows) h ?_⟩)
  rintro ts r ⟨C, D, fs, cs, th, rfl, rfl, rfl, hf, hc, rfl⟩
  exact bd_ret (ed_call (ea_cons (ed_var rfl) (ea_cons (ed_fld T.Some.cl T.n_Some_thing (ed_var rfl) rfl) ea_nil)) ⟨_, fs, cs, th, rfl, rfl, hf, hc, rfl⟩) rfl
def R_Ring_init (T : Tx K mg) (gs : List AO) (ts : List FK.T) (t : FK.T) (gs' : List AO) : Prop := ∃ p C ns, gs = [(p, .ins C [])] ∧ ts = [.val (.ref p), intsT ns] ∧ C = T.Ring.C ∧ t = .non ∧ gs' = [(p, .ins C (riFs ns))]
set_option maxHeartbeats 8000000 in
theorem ok_Ring_init (T : Tx K mg) : FnOk P w K mg base CX0 1 T.Ring_init.f T.Ring_init.fd ["self", "counts"] (spM P w (R_Ring_init T)) := by
  refine T.Ring_init.F.ok sc_Ring_init (len_M fun gs ts t gs' h => by unfold R_Ring_init at h; obtain ⟨_, _, _, rfl, rfl, _⟩ := h; rfl) (fun cdv A outer s H vs Q E hr h => ⟨_, (pss_one (ps_fld (pv 0) (pe_callTy (call_listA rfl) (by rfl) T.b_list (by decide +kernel) (pa_cons (pv 1) pa_nil)) rfl)), run_M (N := n_Ring_init) h ?_⟩)
  rintro gs ts r gs' ⟨p, C, ns, rfl, rfl, rfl, rfl, rfl⟩
  exact bd_fld (j := 0) (l := true) T.Ring.cl T.n_Ring_counts (ed_of_en (en_listL (ea_one (ed_var rfl)))) (ed_var rfl) rfl (by decide) ⟨rfl, [], rfl⟩
def riG (p d C : Addr) (ns : List Int) : List AO := [(p, .ins C [("counts", .val (.ref d))]), (d, .lst (ns.map FK.T.int))]
def R_Ring_init_B (T : Tx K mg) (gs : List AO) (ts : List FK.T) (Φ : FK.T → List AO → Prop) : Prop := ∃ p C ns, gs = [(p, .ins C [])] ∧ ts = [.val (.ref p), intsT ns] ∧ C = T.Ring.C ∧ Φ = fun t gs' => t = .non ∧ ∃ d, gs' = riG p d C ns
set_option maxHeartbeats 8000000 in
theorem ok_Ring_init_B (T : Tx K mg) : FnOk P w K mg base CX0 1 T.Ring_init.f T.Ring_init.fd ["self", "counts"] (spG P w (R_Ring_init_B T)) := by
  refine T.Ring_init.F.ok sc_Ring_init (len_G fun gs ts Φ h => by unfold R_Ring_init_B at h; obtain ⟨_, _, _, rfl, rfl, _⟩ := h; rfl) (fun cdv A outer s H vs Q E hr h => ⟨_, (pss_one (ps_fld (pv 0) (pe_callTy (call_listA rfl) (by rfl) T.b_list (by decide +kernel) (pa_cons (pv 1) pa_nil)) rfl)), run_G (N := n_Ring_init) h ?_⟩)
  rintro gs ts Φ ⟨p, C, ns, rfl, rfl, rfl, rfl⟩
  exact bd_fldN (j := 0) (l := true) T.Ring.cl T.n_Ring_counts (en_listL (ea_one (ed_var rfl))) (fun d => ed_var rfl) (fun d => rfl) (by decide) fun d => ⟨riG p d T.Ring.C ns, [], rfl, rfl, d, rfl⟩
def R_Ring_shows (T : Tx K mg) (ts : List FK.T) (t : FK.T) : Prop := ∃ C D fs cs ns, ts = [.obj D (riFs ns), kT C fs cs] ∧ C = T.Kind.C ∧ D = T.Ring.C ∧ ns.length ≤ 10000 ∧ t = .bl (ringB cs ns && decide (sumI cs ns < 0))
set_option maxHeartbeats 8000000 in
theorem ok_Ring_shows (T : Tx K mg) : FnOk P w K mg base CX0 4 T.Ring_shows.f T.Ring_shows.fd ["self", "kind"] (spT P w (R_Ring_shows T)) := by
  refine T.Ring_shows.F.ok sc_Ring_shows (len_T fun ts t h => by unfold R_Ring_shows at h; obtain ⟨_, _, _, _, _, rfl, _⟩ := h; rfl) (fun cdv A outer s H vs Q E hr h => ⟨_, (pss_one (ps_ret (pe_and (pe_call (ok_is_ring (P := P) (w := w) (base := base) T) (hr.mono (by decide)) (by rfl) T.is_ring.g T.is_ring.F.kp T.is_ring.b .nil pass0 (pa_cons (pe_fld (pv 1) rfl) (pa_cons (pe_fld (pv 0) rfl) pa_nil))) (pe_one (pe_cmpR op_lt (pe_call (ok_sum_of (P := P) (w := w) (base := base) T) (hr.mono (by decide)) (by rfl) T.sum_of.g T.sum_of.F.kp T.sum_of.b .nil pass0 (pa_cons (pe_fld (pv 1) rfl) (pa_cons (pe_fld (pv 0) rfl) pa_nil))) pe_int (nomark _)))))), run_T (N := n_Ring_shows) h ?_⟩)
  rintro ts r ⟨C, D, fs, cs, ns, rfl, rfl, rfl, hl, rfl⟩
  refine bd_ret (ed_and (ed_call (ea_cons (ed_fld T.Kind.cl T.n_Kind_rules (ed_var rfl) rfl) (ea_cons (ed_fld T.Ring.cl T.n_Ring_counts (ed_var rfl) rfl) ea_nil)) ⟨cs, ns, rfl, hl, rfl⟩) (fun q => ?_)) rfl
  have hin := (leads_in ((Bool.and_eq_true _ _).mp q).1).2
  exact ed_lt (ed_call (ea_cons (ed_fld T.Kind.cl T.n_Kind_rules (ed_var rfl) rfl) (ea_cons (ed_fld T.Ring.cl T.n_Ring_counts (ed_var rfl) rfl) ea_nil)) ⟨cs, ns, rfl, hl, hin, rfl⟩) ed_int
def moFs (x : Int) (ns : List Int) (th : Thing) : List (Str × FK.T) := [("number", .int x), ("counts", intsT ns), ("thing", tT th)]
def R_Most_init (T : Tx K mg) (gs : List AO) (ts : List FK.T) (t : FK.T) (gs' : List AO) : Prop := ∃ p C x ns th, gs = [(p, .ins C [])] ∧ ts = [.val (.ref p), .int x, intsT ns, tT th] ∧ C = T.Most.C ∧ t = .non ∧ gs' = [(p, .ins C (moFs x ns th))]
set_option maxHeartbeats 8000000 in
theorem ok_Most_init (T : Tx K mg) : FnOk P w K mg base CX0 1 T.Most_init.f T.Most_init.fd ["self", "number", "counts", "thing"] (spM P w (R_Most_init T)) := by
  refine T.Most_init.F.ok sc_Most_init (len_M fun gs ts t gs' h => by unfold R_Most_init at h; obtain ⟨_, _, _, _, _, rfl, rfl, _⟩ := h; rfl) (fun cdv A outer s H vs Q E hr h => ⟨_, (pss_cons (ps_fld (pv 0) (pv 1) rfl) (pss_cons (ps_fld (pv 0) (pe_callTy (call_listA rfl) (by rfl) T.b_list (by decide +kernel) (pa_cons (pv 2) pa_nil)) rfl) (pss_one (ps_fld (pv 0) (pe_callTy call_dictD (by rfl) T.b_dict (by decide +kernel) (pa_cons (pv 3) pa_nil)) rfl)))), run_M (N := n_Most_init) h ?_⟩)
  rintro gs ts r gs' ⟨p, C, x, ns, th, rfl, rfl, rfl, rfl, rfl⟩
  refine bd_then (bd_fld (j := 0) (l := true) T.Most.cl T.n_Most_number (ed_var rfl) (ed_var rfl) rfl (by decide) ?_)
  refine bd_then (bd_fld (j := 0) (l := true) T.Most.cl T.n_Most_counts (ed_of_en (en_listL (ea_one (ed_var rfl)))) (ed_var rfl) rfl (show (1 : Nat) < 1000 by decide) ?_)
  exact bd_fld (j := 0) (l := true) T.Most.cl T.n_Most_thing (ed_of_en (en_dictD (kvs := tL th) (ea_one (ed_var rfl)))) (ed_var rfl) rfl (show (2 : Nat) < 1000 by decide) ⟨rfl, [], rfl⟩
def mostB (fs : List Str) (cs : List Chk) (a b : End) (x : Int) (ns : List Int) (th : Thing) : Bool := (chainB cs ns a b && decide (sumI cs ns = x)) && (goodB fs cs th && decide (numAt th a - numAt th b = x))
def R_Most_shows (T : Tx K mg) (ts : List FK.T) (t : FK.T) : Prop := ∃ C D fs cs a b x ns th, ts = [.obj D (moFs x ns th), kT C fs cs, eT a, eT b] ∧ C = T.Kind.C ∧ D = T.Most.C ∧ Fld fs ∧ Cks fs cs ∧ a ∈ endsOf fs ∧ b ∈ endsOf fs ∧ ns.length ≤ 10000 ∧ t = .bl (mostB fs cs a b x ns th)
set_option maxHeartbeats 8000000 in
theorem ok_Most_shows (T : Tx K mg) : FnOk P w K mg base CX0 5 T.Most_shows.f T.Most_shows.fd ["self", "kind", "one", "other"] (spT P w (R_Most_shows T)) := by
  refine T.Most_shows.F.ok sc_Most_shows (len_T fun ts t h => by unfold R_Most_shows at h; obtain ⟨_, _, _, _, _, _, _, _, _, rfl, _⟩ := h; rfl) (fun cdv A outer s H vs Q E hr h => ⟨_, (pss_cons (ps_if (PW.pt (pw_or (pt_not (pt_val (pe_call (ok_is_chain (P := P) (w := w) (base := base) T) (hr.mono (by decide)) (by rfl) T.is_chain.g T.is_chain.F.kp T.is_chain.b .nil pass0 (pa_cons (pe_fld (pv 1) rfl) (pa_cons (pe_fld (pv 0) rfl) (pa_cons (pv 2) (pa_cons (pv 3) pa_nil))))))) (pw_or1 (pt_cmpR (op_neA hr.units) (pe_call (ok_sum_of (P := P) (w := w) (base := base) T) (hr.mono (by decide)) (by rfl) T.sum_of.g T.sum_of.F.kp T.sum_of.b .nil pass0 (pa_cons (pe_fld (pv 1) rfl) (pa_cons (pe_fld (pv 0) rfl) pa_nil))) (pe_fld (pv 0) rfl) (nomark _))))) (pss_one (ps_ret pe_bl)) pss_nil) (pss_one (ps_ret (pe_and (pe_call (ok_is_good (P := P) (w := w) (base := base) T) (hr.mono (by decide)) (by rfl) T.is_good.g T.is_good.F.kp T.is_good.b .nil pass0 (pa_cons (pv 1) (pa_cons (pe_fld (pv 0) rfl) pa_nil))) (pe_one (pe_cmpR (op_eqA hr.units) (pe_op op_sub (pe_call (ok_number_at (P := P) (w := w) (base := base) T) (hr.mono (by decide)) (by rfl) T.number_at.g T.number_at.F.kp T.number_at.b .nil pass0 (pa_cons (pe_fld (pv 0) rfl) (pa_cons (pv 2) pa_nil))) (pe_call (ok_number_at (P := P) (w := w) (base := base) T) (hr.mono (by decide)) (by rfl) T.number_at.g T.number_at.F.kp T.number_at.b .nil pass0 (pa_cons (pe_fld (pv 0) rfl) (pa_cons (pv 3) pa_nil)))) (pe_fld (pv 0) rfl) (nomark _))))))), run_T (N := n_Most_shows) h ?_⟩)
  rintro ts r ⟨C, D, fs, cs, a, b, x, ns, th, rfl, rfl, rfl, hf, hc, ha, hb, hl, rfl⟩
  have MC := T.Most.cl
  have KC := T.Kind.cl
  refine bd_then (bd_if (et_or (et_not (et_val (ed_call (ea_cons (ed_fld KC T.n_Kind_rules (ed_var rfl) rfl) (ea_cons (ed_fld MC T.n_Most_counts (ed_var rfl) rfl) (ea_cons (ed_var rfl) (ea_one (ed_var rfl))))) ⟨cs, ns, a, b, rfl, hl, rfl⟩))) (fun q => et_test (ed_neI (ed_call (ea_cons (ed_fld KC T.n_Kind_rules (ed_var rfl) rfl) (ea_one (ed_fld MC T.n_Most_counts (ed_var rfl) rfl))) ⟨cs, ns, rfl, hl, (leads_in (((Bool.and_eq_true _ _).mp (show chainB cs ns a b = true by simpa using q)).1)).2, rfl⟩) (ed_fld (t := .int x) MC T.n_Most_number (ed_var rfl) rfl)))) (fun q => bd_ret ed_bl ?_) (fun q => bd_next ?_))
  · unfold mostB
    congr 1
    cases h1 : chainB cs ns a b <;> cases h2 : decide (sumI cs ns = x) <;> simp [h1, h2] at q ⊢
  · have q1 : (chainB cs ns a b && decide (sumI cs ns = x)) = true := by cases h1 : chainB cs ns a b <;> cases h2 : decide (sumI cs ns = x) <;> simp [h1, h2] at q ⊢
    unfold mostB
    rw [q1, Bool.true_and]
    refine bd_ret (ed_and (ed_call (ea_cons (ed_var rfl) (ea_one (ed_fld MC T.n_Most_thing (ed_var rfl) rfl))) ⟨_, fs, cs, th, rfl, rfl, hf, hc, rfl⟩) (fun z => ?_)) rfl
    have hth := thB_th ((Bool.and_eq_true _ _).mp z).1
    exact ed_eqI (ed_sub (ed_call (ea_cons (ed_fld MC T.n_Most_thing (ed_var rfl) rfl) (ea_one (ed_var rfl))) ⟨th, a, rfl, hth.has ha, rfl⟩) (ed_call (ea_cons (ed_fld MC T.n_Most_thing (ed_var rfl) rfl) (ea_one (ed_var rfl))) ⟨th, b, rfl, hth.has hb, rfl⟩)) (ed_fld (t := .int x) MC T.n_Most_number (ed_var rfl) rfl)
def frFs (lot : List End) : List (Str × FK.T) := [("lot", endsT lot)]
def R_Free_init (T : Tx K mg) (gs : List AO) (ts : List FK.T) (t : FK.T) (gs' : List AO) : Prop := ∃ p C lot, gs = [(p, .ins C [])] ∧ ts = [.val (.ref p), endsT lot] ∧ C = T.Free.C ∧ t = .non ∧ gs' = [(p, .ins C (frFs lot))]
set_option maxHeartbeats 8000000 in
theorem ok_Free_init (T : Tx K mg) : FnOk P w K mg base CX0 1 T.Free_init.f T.Free_init.fd ["self", "lot"] (spM P w (R_Free_init T)) := by
  refine T.Free_init.F.ok sc_Free_init (len_M fun gs ts t gs' h => by unfold R_Free_init at h; obtain ⟨_, _, _, rfl, rfl, _⟩ := h; rfl) (fun cdv A outer s H vs Q E hr h => ⟨_, (pss_one (ps_fld (pv 0) (pe_callTy (call_listA rfl) (by rfl) T.b_list (by decide +kernel) (pa_cons (pv 1) pa_nil)) rfl)), run_M (N := n_Free_init) h ?_⟩)
  rintro gs ts r gs' ⟨p, C, lot, rfl, rfl, rfl, rfl, rfl⟩
  exact bd_fld (j := 0) (l := true) T.Free.cl T.n_Free_lot (ed_of_en (en_listL (ea_one (ed_var rfl)))) (ed_var rfl) rfl (by decide) ⟨rfl, [], rfl⟩
def freeB (fs : List Str) (cs : List Chk) (a b : End) (lot : List End) : Bool := ((chainsE (endsOf fs) cs).ring.isNone && ((lot.all fun e => decide (e ∈ endsOf fs)) && !decide ((ded lot).length < lot.length))) && ((decide (a ∈ lot) && !decide (b ∈ lot)) && cs.all fun c => !decide (c.1 ∈ lot) || decide (c.2.1 ∈ lot))
def R_Free_shows (T : Tx K mg) (ts : List FK.T) (t : FK.T) : Prop := ∃ C D fs cs a b lot, ts = [.obj D (frFs lot), kT C fs cs, eT a, eT b] ∧ C = T.Kind.C ∧ D = T.Free.C ∧ fs.length ≤ 6 ∧ cs.length ≤ 16 ∧ lot.length ≤ 1000 ∧ t = .bl (freeB fs cs a b lot)
theorem lenE (lot : List End) : (((lot.map eT).length : Nat) : Int) = (lot.length : Nat) := by rw [List.length_map]
set_option maxHeartbeats 8000000 in
theorem ok_Free_shows (T : Tx K mg) : FnOk P w K mg base CX0 6 T.Free_shows.f T.Free_shows.fd ["self", "kind", "one", "other"] (spT P w (R_Free_shows T)) := by
  refine T.Free_shows.F.ok sc_Free_shows (len_T fun ts t h => by unfold R_Free_shows at h; obtain ⟨_, _, _, _, _, _, _, rfl, _⟩ := h; rfl) (fun cdv A outer s H vs Q E hr h => ⟨_, (pss_cons (ps_asg (pe_op op_addA (pe_fld (pv 1) rfl) (pe_lst (pa_cons pe_non pa_nil))) (gn 4 (sc_Free_shows).nd)) (pss_cons (ps_if (PW.pt (pw_or (pt_not (pt_val (pe_call (ok_has_things (P := P) (w := w) (base := base) T) (hr.mono (by decide)) (by rfl) T.has_things.g T.has_things.F.kp T.has_things.b .nil pass0 (pa_cons (pv 1) pa_nil)))) (pw_or (pt_not (pt_val (pe_callB (cr_all rfl) (by rfl) T.b_all (by decide +kernel) (pa_cons (pe_lc (own := [("end", 5)]) rfl (sc_Free_shows).nd (pi_list (pe_fld (pv 0) rfl)) (blkOk_by (N := n_Free_shows) (sc := defScope s_Free_shows) (by decide +kernel)) (fun _ _ _ _ _ => (gn 5 (sc_Free_shows).nd)) (fun _ _ _ _ _ => pts_nil) (fun _ _ _ _ _ => (pe_cmpR (show OpR _ _ (rInA P w K) from (op_inA (hu_of hr))) (pv 5) (pv 4) (by rfl)))) pa_nil)))) (pw_or1 (pt_cmpR op_lt (pe_lenSetL (by rfl) T.b_len (by rfl) T.b_set (pe_fld (pv 0) rfl)) (pe_callB call_lenA (by rfl) T.b_len (by decide +kernel) (pa_cons (pe_fld (pv 0) rfl) pa_nil)) (nomark _)))))) (pss_one (ps_ret pe_bl)) pss_nil) (pss_cons (ps_if (PW.pt (pw_or (pt_cmpR (op_notInA (hu_of hr)) (pv 2) (pe_fld (pv 0) rfl) (by rfl)) (pw_or1 (pt_cmpR (op_inA (hu_of hr)) (pv 3) (pe_fld (pv 0) rfl) (by rfl))))) (pss_one (ps_ret pe_bl)) pss_nil) (pss_one (ps_ret (pe_callB (cr_all rfl) (by rfl) T.b_all (by decide +kernel) (pa_cons (pe_lc (own := [("check", 6)]) rfl (sc_Free_shows).nd (pi_list (pe_fld (pv 1) rfl)) (blkOk_by (N := n_Free_shows) (sc := defScope s_Free_shows) (by decide +kernel)) (fun _ _ _ _ _ => (gn 6 (sc_Free_shows).nd)) (fun _ _ _ _ _ => pts_nil) (fun _ _ _ _ _ => (pe_or (pe_cmpR (show OpR _ _ (rNotInA P w K) from (op_notInA (hu_of hr))) (pe_ix (show IxR _ (rIxA P w K) from (ix_any (hu_of hr))) (pv 6) pe_int (fun _ _ => rfl)) (show PE _ _ (tFld K _ _) from (pe_fld (pv 0) rfl)) (by rfl)) (pe_one (pe_cmpR (show OpR _ _ (rInA P w K) from (op_inA (hu_of hr))) (pe_ix (show IxR _ (rIxA P w K) from (ix_any (hu_of hr))) (pv 6) pe_int (fun _ _ => rfl)) (show PE _ _ (tFld K _ _) from (pe_fld (pv 0) rfl)) (by rfl)))))) pa_nil))))))), run_T (N := n_Free_shows) h ?_⟩)
  rintro ts r ⟨C, D, fs, cs, a, b, lot, rfl, rfl, rfl, hf, hc, hl, rfl⟩
  have FC := T.Free.cl
  have KC := T.Kind.cl
  have e1 : decide (((ded lot).length : Int) < (((lot.map eT).length : Nat) : Int)) = decide ((ded lot).length < lot.length) := by rw [lenE]; exact decide_eq_decide.mpr (by omega)
  refine bd_then (bd_asg (t := endsT (endsOf fs)) ((ed_of_en (en_cat (ed_fld KC T.n_Kind_row (ed_var rfl) rfl) (ed_lst (ea_one ed_non) (by simp)) (by simp; omega))).to (endsT_of fs)) eg_name ?_)
  refine bd_then (bd_if (et_or (et_not (et_val (ed_call (ea_one (ed_var rfl)) ⟨_, fs, cs, rfl, rfl, hf, hc, rfl⟩))) (fun _ => et_or (et_not (et_val (ed_allL (g := eT) (xs := lot) (fun e => decide (e ∈ endsOf fs)) (ed_fld FC T.n_Free_lot (ed_var rfl) rfl) (by omega) rfl (fun e he => ⟨_, _, ev_name (by simp), ed_inE (ed_var rfl) (ed_var rfl), rfl⟩)))) (fun _ => et_test ((ed_lt (ed_lenSet (es := lot) (ed_fld FC T.n_Free_lot (ed_var rfl) rfl) (by omega)) (ed_lenL (ts := lot.map eT) (ea_one (ed_fld FC T.n_Free_lot (ed_var rfl) rfl)))).to (congrArg FK.T.bl e1))))) (fun q => bd_ret ed_bl ?_) (fun q => bd_next ?_))
  · unfold freeB
    congr 1
    cases h1 : (chainsE (endsOf fs) cs).ring.isNone <;> cases h2 : (lot.all fun e => decide (e ∈ endsOf fs)) <;> cases h3 : decide ((ded lot).length < lot.length) <;> simp [h1, h2, h3] at q ⊢
  · have q1 : ((chainsE (endsOf fs) cs).ring.isNone && ((lot.all fun e => decide (e ∈ endsOf fs)) && !decide ((ded lot).length < lot.length))) = true := by
      cases h1 : (chainsE (endsOf fs) cs).ring.isNone <;> cases h2 : (lot.all fun e => decide (e ∈ endsOf fs)) <;> cases h3 : decide ((ded lot).length < lot.length) <;> simp [h1, h2, h3] at q ⊢
    unfold freeB
    rw [q1, Bool.true_and]
    refine bd_then (bd_if (et_or (et_test (ed_notInE (e := a) (es := lot) (ed_var rfl) (ed_fld FC T.n_Free_lot (ed_var rfl) rfl))) (fun _ => et_test (ed_inE (e := b) (es := lot) (ed_var rfl) (ed_fld FC T.n_Free_lot (ed_var rfl) rfl)))) (fun z => bd_ret ed_bl ?_) (fun z => bd_next ?_))
    · congr 1
      cases h1 : decide (a ∈ lot) <;> cases h2 : decide (b ∈ lot) <;> simp [h1, h2] at z ⊢
    · have z1 : (decide (a ∈ lot) && !decide (b ∈ lot)) = true := by cases h1 : decide (a ∈ lot) <;> cases h2 : decide (b ∈ lot) <;> simp [h1, h2] at z ⊢
      rw [z1, Bool.true_and]
      exact bd_ret (ed_allL (g := cT) (xs := cs) (fun c => !decide (c.1 ∈ lot) || decide (c.2.1 ∈ lot)) (ed_fld KC T.n_Kind_rules (ed_var rfl) rfl) (by omega) rfl (fun c hc' => ⟨_, _, ev_name (by simp), ed_or (ed_notInE (e := c.1) (es := lot) (ed_ixT (ed_var rfl) ed_int rfl) (ed_fld FC T.n_Free_lot (ed_var rfl) rfl)) (fun _ => ed_inE (e := c.2.1) (es := lot) (ed_ixT (ed_var rfl) ed_int rfl) (ed_fld FC T.n_Free_lot (ed_var rfl) rfl)), rfl⟩)) rfl
abbrev An2 := (Int × List Nat × Thing) ⊕ List End
def an2T (M F : Addr) : An2 → FK.T
  | .inl q => .obj M (moFs q.1 (natsI q.2.1) q.2.2)
  | .inr lot => .obj F (frFs lot)
def farA (fs : List Str) (cs : List Chk) (a b : End) : An2 := match getA (chainsE (endsOf fs) cs).tab (a, b) with
  | none => .inr (comeTo (endsOf fs) (chainsE (endsOf fs) cs) a)
  | Option.some v => .inl (v.1, v.2, thingOf (endsOf fs) (apart (endsOf fs) (chainsE (endsOf fs) cs) b))
def R_farthest (T : Tx K mg) (ts : List FK.T) (t : FK.T) : Prop := ∃ C fs cs a b, ts = [kT C fs cs, eT a, eT b] ∧ C = T.Kind.C ∧ Fld fs ∧ Cks fs cs ∧ (chainsE (endsOf fs) cs).ring = none ∧ a ∈ endsOf fs ∧ b ∈ endsOf fs ∧ a ≠ b ∧ t = an2T T.Most.C T.Free.C (farA fs cs a b)
set_option maxHeartbeats 8000000 in
theorem ok_farthest (T : Tx K mg) : FnOk P w K mg base CX0 6 T.farthest.f T.farthest.fd ["kind", "one", "other"] (spT P w (R_farthest T)) := by
  refine T.farthest.F.ok sc_farthest (len_T fun ts t h => by unfold R_farthest at h; obtain ⟨_, _, _, _, _, rfl, _⟩ := h; rfl) (fun cdv A outer s H vs Q E hr h => ⟨_, (pss_cons (ps_if (PW.pt (pw_or (pt_not (pt_val (pe_call (ok_is_end (P := P) (w := w) (base := base) T) (hr.mono (by decide)) (by rfl) T.is_end.g T.is_end.F.kp T.is_end.b .nil pass0 (pa_cons (pv 1) (pa_cons (pe_fld (pv 0) rfl) pa_nil))))) (pw_or (pt_not (pt_val (pe_call (ok_is_end (P := P) (w := w) (base := base) T) (hr.mono (by decide)) (by rfl) T.is_end.g T.is_end.F.kp T.is_end.b .nil pass0 (pa_cons (pv 2) (pa_cons (pe_fld (pv 0) rfl) pa_nil))))) (pw_or1 (pt_cmpR (op_eqA hr.units) (pv 1) (pv 2) (nomark _)))))) (pss_one ps_never) pss_nil) (pss_cons (ps_asg (pe_call (ok_full_chains (P := P) (w := w) (base := base) T) (hr.mono (by decide)) (by rfl) T.full_chains.g T.full_chains.F.kp T.full_chains.b .nil pass0 (pa_cons (pv 0) pa_nil)) (gn 3 (sc_farthest).nd)) (pss_cons (ps_asg (pe_meth (pv 3) T.Chains.cl T.Chains_sum_of.m (ok_Chains_sum_of (P := P) (w := w) (base := base) T) (hr.mono (by decide)) T.Chains_sum_of.b .nil pass0 (pa_cons (pv 1) (pa_cons (pv 2) pa_nil))) (gn 4 (sc_farthest).nd)) (pss_cons (ps_if (pt_cmpR op_isA (pv 4) pe_non (nomark _)) (pss_one (ps_ret (pe_make T.mk_Free (ok_Free_init (P := P) (w := w) (base := base) T) (hr.mono (by decide)) (by rfl) T.Free.g T.Free_init.b .nil pass0 (pa_cons (pe_meth (pv 3) T.Chains.cl T.Chains_come_to.m (ok_Chains_come_to (P := P) (w := w) (base := base) T) (hr.mono (by decide)) T.Chains_come_to.b .nil pass0 (pa_cons (pv 1) pa_nil)) pa_nil)))) pss_nil) (pss_one (ps_ret (pe_make T.mk_Most (ok_Most_init (P := P) (w := w) (base := base) T) (hr.mono (by decide)) (by rfl) T.Most.g T.Most_init.b .nil pass0 (pa_cons (pv 4) (pa_cons (pe_meth (pv 3) T.Chains.cl T.Chains_counts_of.m (ok_Chains_counts_of (P := P) (w := w) (base := base) T) (hr.mono (by decide)) T.Chains_counts_of.b .nil pass0 (pa_cons (pv 1) (pa_cons (pv 2) pa_nil))) (pa_cons (pe_meth (pv 3) T.Chains.cl T.Chains_thing_apart.m (ok_Chains_thing_apart (P := P) (w := w) (base := base) T) (hr.mono (by decide)) T.Chains_thing_apart.b .nil pass0 (pa_cons (pv 2) pa_nil)) pa_nil)))))))))), run_T (N := n_farthest) h ?_⟩)
  rintro ts r ⟨C, fs, cs, a, b, rfl, rfl, hf, hc, hr, ha, hb, hne, rfl⟩
  have lf := hf.most
  have lc := hc.most
  have hel : (endsOf fs).length ≤ 100 := by rw [endsOf_len]; omega
  have hn : none ∈ endsOf fs := mem_endsOf.mpr fun x q => by cases q
  have ea : endB a fs = true := decide_eq_true ha
  have eb : endB b fs = true := decide_eq_true hb
  refine bd_then (bd_skip ((et_or (et_not (et_val (ed_call (ea_cons (ed_var rfl) (ea_one (ed_fld T.Kind.cl T.n_Kind_row (ed_var rfl) rfl))) ⟨a, fs, rfl, rfl⟩))) (fun _ => et_or (et_not (et_val (ed_call (ea_cons (ed_var rfl) (ea_one (ed_fld T.Kind.cl T.n_Kind_row (ed_var rfl) rfl))) ⟨b, fs, rfl, rfl⟩))) (fun _ => et_test (ed_eqE (a := a) (b := b) (ed_var rfl) (ed_var rfl))))).to (by rw [ea, eb, decide_eq_false hne]; rfl)) ?_)
  refine bd_then (bd_asg (ed_call (ea_one (ed_var rfl)) ⟨_, fs, cs, rfl, rfl, by omega, by omega, hr, rfl⟩) eg_name ?_)
  refine bd_then (bd_asg (ed_meth (ed_var rfl) rfl (ea_cons (ed_var rfl) (ea_one (ed_var rfl))) ⟨_, endsOf fs, cs, chainsE (endsOf fs) cs, a, b, rfl, rfl, rfl⟩) eg_name ?_)
  have hd : dist (chainsE (endsOf fs) cs) a b = (getA (chainsE (endsOf fs) cs).tab (a, b)).map (·.1) := dist_ne _ hne
  unfold farA
  cases e : getA (chainsE (endsOf fs) cs).tab (a, b) with
  | none =>
    rw [e] at hd
    refine bd_then (bd_yes ((et_test (ed_isN (ed_var rfl))).to (by rw [distT_isN, hd]; rfl)) ?_)
    exact bd_ret (ed_make (ea_one (ed_meth (ed_var rfl) rfl (ea_one (ed_var rfl)) ⟨_, endsOf fs, cs, _, a, rfl, rfl, hel, rfl⟩)) (fun p => ⟨p, _, _, rfl, rfl, rfl, rfl, rfl⟩)) rfl
  | some v =>
    rw [e] at hd
    refine bd_then (bd_skip ((et_test (ed_isN (ed_var rfl))).to (by rw [distT_isN, hd]; rfl)) ?_)
    exact bd_ret (ed_make (ea_cons ((ed_var rfl).to (t' := .int v.1) (by rw [hd]; rfl)) (ea_cons (ed_meth (ed_var rfl) rfl (ea_cons (ed_var rfl) (ea_one (ed_var rfl))) ⟨_, endsOf fs, cs, _, a, b, v, rfl, rfl, e, rfl⟩) (ea_one (ed_meth (ed_var rfl) rfl (ea_one (ed_var rfl)) ⟨_, endsOf fs, cs, _, b, rfl, rfl, hel, hn, rfl⟩)))) (fun p => ⟨p, _, v.1, natsI v.2, _, rfl, rfl, rfl, rfl, rfl⟩)) rfl
end
end FK
set_option maxHeartbeats 8000000
namespace FK
open PySem L2
section
variable {P : Program} {w : World} {K : PySem.W.Frag} {mg : Str → Option Value} {base : Heap}
def nssT (ns : List (List Int)) : FK.T := .lst (ns.map intsT)
def keFs (ns : List (List Int)) : List (Str × FK.T) := [("chains", nssT ns)]
def R_Keeps_init (T : Tx K mg) (gs : List AO) (ts : List FK.T) (t : FK.T) (gs' : List AO) : Prop := ∃ p C ns, gs = [(p, .ins C [])] ∧ ts = [.val (.ref p), nssT ns] ∧ C = T.Keeps.C ∧ ns.length ≤ 1000 ∧ t = .non ∧ gs' = [(p, .ins C (keFs ns))]
set_option maxHeartbeats 8000000 in
theorem ok_Keeps_init (T : Tx K mg) : FnOk P w K mg base CX0 1 T.Keeps_init.f T.Keeps_init.fd ["self", "chains"] (spM P w (R_Keeps_init T)) := by
  refine T.Keeps_init.F.ok sc_Keeps_init (len_M fun gs ts t gs' h => by unfold R_Keeps_init at h; obtain ⟨_, _, _, rfl, rfl, _⟩ := h; rfl) (fun cdv A outer s H vs Q E hr h => ⟨_, (pss_one (ps_fld (pv 0) (pe_lc (own := [("counts", 2)]) rfl (sc_Keeps_init).nd (pi_list (pv 1)) (blkOk_by (N := n_Keeps_init) (sc := defScope s_Keeps_init) (by decide +kernel)) (fun _ _ _ _ _ => (gn 2 (sc_Keeps_init).nd)) (fun _ _ _ _ _ => pts_nil) (fun _ _ _ _ _ => (pe_callTy (show CallR _ (.type "list") (rListA K) from (call_listA rfl)) (by rfl) T.b_list (by decide +kernel) (pa_cons (pv 2) pa_nil)))) rfl)), run_M (N := n_Keeps_init) h ?_⟩)
  rintro gs ts r gs' ⟨p, C, ns, rfl, rfl, rfl, hl, rfl, rfl⟩
  exact bd_fld (j := 0) (l := true) (t := nssT ns) T.Keeps.cl T.n_Keeps_chains (ed_of_en (o := .lst (ns.map intsT)) (en_mapL (xs := ns) (g := intsT) intsT (ed_var rfl) (by omega) rfl (fun x hx => ⟨_, _, ev_name (by simp), ed_of_en (o := .lst (x.map FK.T.int)) (en_listL (ea_one (ed_var rfl))), rfl⟩))) (ed_var rfl) rfl (by decide) ⟨rfl, [], rfl⟩
def keepB (fs : List Str) (cs ds : List Chk) (ns : List (List Int)) : Bool := ((chainsE (endsOf fs) cs).ring.isNone && decide (ns.length = ds.length)) && (ns.zip ds).all fun q => chainB cs q.1 q.2.1 q.2.2.1 && decide (sumI cs q.1 ≤ q.2.2.2)
def R_Keeps_shows (T : Tx K mg) (ts : List FK.T) (t : FK.T) : Prop := ∃ C D fs cs gs ds ns, ts = [.obj D (keFs ns), kT C fs cs, kT C gs ds] ∧ C = T.Kind.C ∧ D = T.Keeps.C ∧ fs.length ≤ 6 ∧ cs.length ≤ 16 ∧ (∀ l ∈ ns, l.length ≤ 10000) ∧ t = .bl (keepB fs cs ds ns)
theorem neLen (a b : Nat) : (!decide ((a : Int) = (b : Int))) = !decide (a = b) := by congr 1; exact decide_eq_decide.mpr (by omega)
theorem zip_at {α β : Type} {g : α → FK.T} {h : β → FK.T} {xs : List α} {ys : List β} {i : Nat} (hi : i < (xs.zip ys).length) : FK.T.tup [(xs.map g).getD i .non, (ys.map h).getD i .non] = .tup [g (xs.zip ys)[i].1, h (xs.zip ys)[i].2] := by
  have h2 := hi
  rw [List.length_zip] at h2
  rw [getD_map (by omega : i < xs.length), getD_map (by omega : i < ys.length), List.getElem_zip]
theorem zip_len {α β : Type} {g : α → FK.T} {h : β → FK.T} (xs : List α) (ys : List β) : min (xs.map g).length (ys.map h).length = (xs.zip ys).length := by rw [List.length_map, List.length_map, List.length_zip]
set_option maxHeartbeats 8000000 in
theorem ok_Keeps_shows (T : Tx K mg) : FnOk P w K mg base CX0 6 T.Keeps_shows.f T.Keeps_shows.fd ["self", "kind", "other"] (spT P w (R_Keeps_shows T)) := by
  refine T.Keeps_shows.F.ok sc_Keeps_shows (len_T fun ts t h => by unfold R_Keeps_shows at h; obtain ⟨_, _, _, _, _, _, _, rfl, _⟩ := h; rfl) (fun cdv A outer s H vs Q E hr h => ⟨_, (pss_cons (ps_if (PW.pt (pw_or (pt_not (pt_val (pe_call (ok_has_things (P := P) (w := w) (base := base) T) (hr.mono (by decide)) (by rfl) T.has_things.g T.has_things.F.kp T.has_things.b .nil pass0 (pa_cons (pv 1) pa_nil)))) (pw_or1 (pt_cmpR (op_neA hr.units) (pe_callB call_lenA (by rfl) T.b_len (by decide +kernel) (pa_cons (pe_fld (pv 0) rfl) pa_nil)) (pe_callB call_lenA (by rfl) T.b_len (by decide +kernel) (pa_cons (pe_fld (pv 2) rfl) pa_nil)) (nomark _))))) (pss_one (ps_ret pe_bl)) pss_nil) (pss_cons (ps_for PassesOwn.never rfl (pi_zip (by rfl) T.b_zip (pa_cons (pe_fld (pv 0) rfl) (pa_cons (pe_fld (pv 2) rfl) pa_nil))) (pg_tup rfl (pgs_cons (gn 3 (sc_Keeps_shows).nd) (pgs_cons (gn 4 (sc_Keeps_shows).nd) pgs_nil))) (pss_one (ps_if (PW.pt (pw_or (pt_not (pt_val (pe_call (ok_is_chain (P := P) (w := w) (base := base) T) (hr.mono (by decide)) (by rfl) T.is_chain.g T.is_chain.F.kp T.is_chain.b .nil pass0 (pa_cons (pe_fld (pv 1) rfl) (pa_cons (pv 3) (pa_cons (pe_ix (ix_any (hu_of hr)) (pv 4) pe_int (fun _ _ => rfl)) (pa_cons (pe_ix (ix_any (hu_of hr)) (pv 4) pe_int (fun _ _ => rfl)) pa_nil))))))) (pw_or1 (pt_cmpR op_gt (pe_call (ok_sum_of (P := P) (w := w) (base := base) T) (hr.mono (by decide)) (by rfl) T.sum_of.g T.sum_of.F.kp T.sum_of.b .nil pass0 (pa_cons (pe_fld (pv 1) rfl) (pa_cons (pv 3) pa_nil))) (pe_ix (ix_any (hu_of hr)) (pv 4) pe_int (fun _ _ => rfl)) (nomark _))))) (pss_one (ps_ret pe_bl)) pss_nil))) (pss_one (ps_ret pe_bl)))), run_T (N := n_Keeps_shows) h ?_⟩)
  rintro ts r ⟨C, D, fs, cs, gs, ds, ns, rfl, rfl, rfl, hf, hc, hl, rfl⟩
  have FC := T.Keeps.cl
  have KC := T.Kind.cl
  have e1 : (!decide ((((ns.map intsT).length : Nat) : Int) = (((ds.map cT).length : Nat) : Int))) = !decide (ns.length = ds.length) := by rw [neLen, List.length_map, List.length_map]
  refine bd_then (bd_if (et_or (et_not (et_val (ed_call (ea_one (ed_var rfl)) ⟨_, fs, cs, rfl, rfl, hf, hc, rfl⟩))) (fun _ => et_test ((ed_neI (ed_lenL (ts := ns.map intsT) (ea_one (ed_fld FC T.n_Keeps_chains (ed_var rfl) rfl))) (ed_lenL (ts := ds.map cT) (ea_one (ed_fld KC T.n_Kind_rules (ed_var rfl) rfl)))).to (congrArg FK.T.bl e1)))) (fun q => bd_ret ed_bl ?_) (fun q => bd_next ?_))
  · unfold keepB
    congr 1
    cases h1 : (chainsE (endsOf fs) cs).ring.isNone <;> cases h2 : decide (ns.length = ds.length) <;> simp [h1, h2] at q ⊢
  · have q1 : ((chainsE (endsOf fs) cs).ring.isNone && decide (ns.length = ds.length)) = true := by cases h1 : (chainsE (endsOf fs) cs).ring.isNone <;> cases h2 : decide (ns.length = ds.length) <;> simp [h1, h2] at q ⊢
    unfold keepB
    rw [q1, Bool.true_and]
    refine bd_seq (Nx := fun _ => ((ns.zip ds).all fun q => chainB cs q.1 q.2.1 q.2.2.1 && decide (sumI cs q.1 ≤ q.2.2.2)) = true) (bd_scan (xs := ns.zip ds) (fun q => chainB cs q.1 q.2.1 q.2.2.1 && decide (sumI cs q.1 ≤ q.2.2.2)) (fun Γ' => ∃ x y, Γ' = ⟨[some (.obj T.Keeps.C (keFs ns)), some (kT T.Kind.C fs cs), some (kT T.Kind.C gs ds), x, y], []⟩) (ei_zip (ts := ns.map intsT) (ss := ds.map cT) (ea_cons (ed_fld FC T.n_Keeps_chains (ed_var rfl) rfl) (ea_one (ed_fld KC T.n_Kind_rules (ed_var rfl) rfl)))) (zip_len ns ds) ⟨_, _, rfl⟩ ?_ (fun h _ _ => h)) (fun Γ' n => bd_ret ed_bl (by rw [n]))
    rintro i hi Γ' ⟨x, y, rfl⟩
    rw [zip_at hi]
    have hm := List.getElem_mem hi
    generalize (ns.zip ds)[i] = z at hm ⊢
    obtain ⟨l, c⟩ := z
    have hll := hl l (List.of_mem_zip hm).1
    refine ⟨_, eg_tup (egs_cons eg_name (egs_cons eg_name egs_nil)) rfl, ?_⟩
    refine bd_if (et_or (et_not (et_val (ed_call (ea_cons (ed_fld KC T.n_Kind_rules (ed_var rfl) rfl) (ea_cons (ed_var rfl) (ea_cons (ed_ixT (ed_var (t := cT c) rfl) ed_int rfl) (ea_one (ed_ixT (ed_var (t := cT c) rfl) ed_int rfl))))) ⟨cs, l, c.1, c.2.1, rfl, hll, rfl⟩))) (fun q => et_test (ed_gt (ed_call (ea_cons (ed_fld KC T.n_Kind_rules (ed_var rfl) rfl) (ea_one (ed_var rfl))) ⟨cs, l, rfl, hll, (leads_in (((Bool.and_eq_true _ _).mp (show chainB cs l c.1 c.2.1 = true by simpa using q)).1)).2, rfl⟩) (ed_ixT (ed_var (t := cT c) rfl) ed_int rfl)))) (fun q => bd_ret ed_bl ⟨?_, fun h => by rw [h]⟩) (fun q => bd_next ⟨?_, _, _, rfl⟩)
    · show (chainB cs l c.1 c.2.1 && decide (sumI cs l ≤ c.2.2)) = false
      cases h1 : chainB cs l c.1 c.2.1 with
      | false => rfl
      | true => simp [h1] at q ⊢; omega
    · show (chainB cs l c.1 c.2.1 && decide (sumI cs l ≤ c.2.2)) = true
      cases h1 : chainB cs l c.1 c.2.1 with
      | false => simp [h1] at q
      | true => simp [h1] at q ⊢; omega
def stFs (th : Thing) (i : Int) : List (Str × FK.T) := [("thing", tT th), ("at", .int i)]
def R_Strays_init (T : Tx K mg) (gs : List AO) (ts : List FK.T) (t : FK.T) (gs' : List AO) : Prop := ∃ p C th i, gs = [(p, .ins C [])] ∧ ts = [.val (.ref p), tT th, .int i] ∧ C = T.Strays.C ∧ t = .non ∧ gs' = [(p, .ins C (stFs th i))]
set_option maxHeartbeats 8000000 in
theorem ok_Strays_init (T : Tx K mg) : FnOk P w K mg base CX0 1 T.Strays_init.f T.Strays_init.fd ["self", "thing", "at"] (spM P w (R_Strays_init T)) := by
  refine T.Strays_init.F.ok sc_Strays_init (len_M fun gs ts t gs' h => by unfold R_Strays_init at h; obtain ⟨_, _, _, _, rfl, rfl, _⟩ := h; rfl) (fun cdv A outer s H vs Q E hr h => ⟨_, (pss_cons (ps_fld (pv 0) (pe_callTy call_dictD (by rfl) T.b_dict (by decide +kernel) (pa_cons (pv 1) pa_nil)) rfl) (pss_one (ps_fld (pv 0) (pv 2) rfl))), run_M (N := n_Strays_init) h ?_⟩)
  rintro gs ts r gs' ⟨p, C, th, i, rfl, rfl, rfl, rfl, rfl⟩
  refine bd_then (bd_fld (j := 0) (l := true) T.Strays.cl T.n_Strays_thing (ed_of_en (en_dictD (ea_one (ed_var rfl)))) (ed_var rfl) rfl (by decide) ?_)
  exact bd_fld (j := 0) (l := true) T.Strays.cl T.n_Strays_at (ed_var rfl) (ed_var rfl) rfl (show (1 : Nat) < 1000 by decide) ⟨rfl, [], rfl⟩
def strayB (fs : List Str) (cs ds : List Chk) (th : Thing) (i : Int) : Bool := goodB fs cs th && (inR ds.length i && !soB th (ckAt ds i))
theorem mem_of_atI {α : Type} {xs : List α} {i : Int} {x : α} (h : atI xs i = some x) : x ∈ xs := by
  unfold atI at h
  obtain ⟨j, _, h⟩ := Option.bind_eq_some_iff.mp h
  exact List.mem_of_getElem? h
def InEnds (fs : List Str) (ds : List Chk) : Prop := ∀ c ∈ ds, c.1 ∈ endsOf fs ∧ c.2.1 ∈ endsOf fs
def R_Strays_shows (T : Tx K mg) (ts : List FK.T) (t : FK.T) : Prop := ∃ C D fs cs gs ds th i, ts = [.obj D (stFs th i), kT C fs cs, kT C gs ds] ∧ C = T.Kind.C ∧ D = T.Strays.C ∧ Fld fs ∧ Cks fs cs ∧ InEnds fs ds ∧ t = .bl (strayB fs cs ds th i)
set_option maxHeartbeats 8000000 in
theorem ok_Strays_shows (T : Tx K mg) : FnOk P w K mg base CX0 5 T.Strays_shows.f T.Strays_shows.fd ["self", "kind", "other"] (spT P w (R_Strays_shows T)) := by
  refine T.Strays_shows.F.ok sc_Strays_shows (len_T fun ts t h => by unfold R_Strays_shows at h; obtain ⟨_, _, _, _, _, _, _, _, rfl, _⟩ := h; rfl) (fun cdv A outer s H vs Q E hr h => ⟨_, (pss_cons (ps_if (PW.pt (pw_or (pt_not (pt_val (pe_call (ok_is_good (P := P) (w := w) (base := base) T) (hr.mono (by decide)) (by rfl) T.is_good.g T.is_good.F.kp T.is_good.b .nil pass0 (pa_cons (pv 1) (pa_cons (pe_fld (pv 0) rfl) pa_nil))))) (pw_or (pt_not (pt_val (pe_call (ok_is_number (P := P) (w := w) (base := base) T) (hr.mono (by decide)) (by rfl) T.is_number.g T.is_number.F.kp T.is_number.b .nil pass0 (pa_cons (pe_fld (pv 0) rfl) pa_nil)))) (pw_or1 (pt_not (pt_chain op_le op_lt pe_int (pe_fld (pv 0) rfl) (pe_callB call_lenA (by rfl) T.b_len (by decide +kernel) (pa_cons (pe_fld (pv 2) rfl) pa_nil)))))))) (pss_one (ps_ret pe_bl)) pss_nil) (pss_one (ps_ret (pe_not (pe_call (ok_is_so (P := P) (w := w) (base := base) T) (hr.mono (by decide)) (by rfl) T.is_so.g T.is_so.F.kp T.is_so.b .nil pass0 (pa_cons (pe_ix (ix_any (hu_of hr)) (pe_fld (pv 2) rfl) (pe_fld (pv 0) rfl) (fun _ _ => rfl)) (pa_cons (pe_fld (pv 0) rfl) pa_nil))))))), run_T (N := n_Strays_shows) h ?_⟩)
  rintro ts r ⟨C, D, fs, cs, gs, ds, th, i, rfl, rfl, rfl, hf, hc, hd, rfl⟩
  have SC := T.Strays.cl
  have KC := T.Kind.cl
  have rg : (decide (0 ≤ i) && decide (i < (((ds.map cT).length : Nat) : Int))) = inR ds.length i := by rw [lenC]; rfl
  refine bd_then (bd_if (et_or (et_not (et_val (ed_call (ea_cons (ed_var rfl) (ea_one (ed_fld SC T.n_Strays_thing (ed_var rfl) rfl))) ⟨_, fs, cs, th, rfl, rfl, hf, hc, rfl⟩))) (fun _ => et_or (b := false) (et_not (b := true) (et_val (ed_call (ea_one (ed_fld (t := .int i) SC T.n_Strays_at (ed_var rfl) rfl)) ⟨i, rfl, rfl⟩))) (fun _ => et_not (et_val ((ed_chain (ed_int (i := 0)) (ed_fld (t := .int i) SC T.n_Strays_at (ed_var rfl) rfl) (rt_I0 fun _ => .bl _) (fun _ => ed_lenL (ts := ds.map cT) (ea_one (ed_fld KC T.n_Kind_rules (ed_var rfl) rfl))) (fun _ => rt_I0 fun _ => .bl _)).to (congrArg FK.T.bl rg)))))) (fun q => bd_ret ed_bl ?_) (fun q => bd_next ?_))
  · unfold strayB
    congr 1
    cases h1 : goodB fs cs th <;> cases h2 : inR ds.length i <;> simp [h1, h2] at q ⊢
  · have q1 : goodB fs cs th = true := by cases h1 : goodB fs cs th <;> simp [h1] at q ⊢
    have q2 : inR ds.length i = true := by cases h2 : inR ds.length i <;> simp [q1, h2] at q ⊢
    unfold strayB
    rw [q1, q2, Bool.true_and, Bool.true_and]
    have hth := thB_th ((Bool.and_eq_true _ _).mp q1).1
    have hck := atI_ck q2
    have hmem : ckAt ds i ∈ ds := mem_of_atI hck
    exact bd_ret (ed_not (ed_call (ea_cons (ed_ixL (ed_fld (t := csT ds) KC T.n_Kind_rules (ed_var rfl) rfl) (ed_fld (t := .int i) SC T.n_Strays_at (ed_var rfl) rfl) (atI_map (g := cT) hck)) (ea_one (ed_fld SC T.n_Strays_thing (ed_var rfl) rfl))) ⟨ckAt ds i, th, rfl, hth.has (hd _ hmem).1, hth.has (hd _ hmem).2, rfl⟩)) rfl
end
end FK
set_option maxHeartbeats 8000000
namespace FK
open PySem L2
section
variable {P : Program} {w : World} {K : PySem.W.Frag} {mg : Str → Option Value} {base : Heap}
theorem find_at {α : Type} {p : α → Bool} : ∀ {l : List α} {i : Nat} (h : i < l.length), (∀ x ∈ l.take i, p x = false) → p l[i] = true → l.find? p = some l[i]
  | a :: l, 0, _, _, q => by simp at q ⊢; simp [q]
  | a :: l, i + 1, h, hp, q => by
    have h1 : p a = false := hp a (by simp)
    simp only [List.getElem_cons_succ] at q ⊢
    rw [List.find?_cons, h1]
    exact find_at (by simpa using h) (fun x hx => hp x (by simp [hx])) q
theorem find_no {α : Type} {p : α → Bool} {l : List α} (h : ∀ x ∈ l, p x = false) : l.find? p = none := List.find?_eq_none.mpr fun x hx => by rw [h x hx]; exact Bool.false_ne_true
def absN (n : Int) : Int := if n < 0 then -n else n
def nearB (fs : List Str) (th : Thing) : Bool := fs.all fun x => decide (absN (numAt th (some x)) ≤ 40)
def GoodT (fs : List Str) (cs : List Chk) (a : Thing) : Prop := Tg fs a ∧ nearB fs a = true ∧ fw cs a = none
theorem near_of {fs : List Str} {th : Thing} (h : nearB fs th = true) {x : Str} (hx : x ∈ fs) : -40 ≤ numAt th (some x) ∧ numAt th (some x) ≤ 40 := by
  have := of_decide_eq_true (List.all_eq_true.mp h x hx)
  unfold absN at this
  split at this <;> omega
theorem near_mk {fs : List Str} {th : Thing} (h : ∀ x ∈ fs, -40 ≤ numAt th (some x) ∧ numAt th (some x) ≤ 40) : nearB fs th = true := List.all_eq_true.mpr fun x hx => decide_eq_true (by have := h x hx; unfold absN; split <;> omega)
theorem Tg.thB {fs : List Str} {th : Thing} (h : Tg fs th) : thB fs th = true := by
  unfold FK.thB
  rw [Bool.and_eq_true, decide_eq_true_eq, List.all_eq_true]
  exact ⟨h.len, fun x hx => by rw [h.th.get hx]; rfl⟩
def R_check_things (T : Tx K mg) (ts : List FK.T) (t : FK.T) : Prop := ∃ C fs cs, ∃ as : List Thing, ts = [kT C fs cs, .tup (as.map tT)] ∧ C = T.Kind.C ∧ Fld fs ∧ Cks fs cs ∧ (∀ a ∈ as, GoodT fs cs a) ∧ t = .non
set_option maxHeartbeats 8000000 in
theorem ok_check_things (T : Tx K mg) : FnOk P w K mg base CX0 4 T.check_things.f T.check_things.fd ["kind", "things"] (spT P w (R_check_things T)) := by
  refine T.check_things.F.ok sc_check_things (len_T fun ts t h => by unfold R_check_things at h; obtain ⟨_, _, _, _, rfl, _⟩ := h; rfl) (fun cdv A outer s H vs Q E hr h => ⟨_, (pss_cons (ps_for PassesOwn.never rfl (pi_tup (pv 1)) (gn 2 (sc_check_things).nd) (pss_one (ps_if (PW.pt (pw_or (pt_not (pt_val (pe_call (ok_is_thing (P := P) (w := w) (base := base) T) (hr.mono (by decide)) (by rfl) T.is_thing.g T.is_thing.F.kp T.is_thing.b .nil pass0 (pa_cons (pv 2) (pa_cons (pe_fld (pv 0) rfl) pa_nil))))) (pw_or1 (pt_not (pt_val (pe_callB (cr_all rfl) (by rfl) T.b_all (by decide +kernel) (pa_cons (pe_lc (own := [("field", 4)]) rfl (sc_check_things).nd (pi_list (pe_fld (pv 0) rfl)) (blkOk_by (N := n_check_things) (sc := defScope s_check_things) (by decide +kernel)) (fun _ _ _ _ _ => (gn 4 (sc_check_things).nd)) (fun _ _ _ _ _ => pts_nil) (fun _ _ _ _ _ => (pe_cmpR op_le (pe_callB call_abs (by rfl) T.b_abs (by decide +kernel) (pa_cons (pe_ix (show IxR _ (rIxA P w K) from (ix_any (hu_of hr))) (pv 2) (pv 4) (fun _ _ => rfl)) pa_nil)) (pe_glob (v := .int 40) (by rfl) T.c_FAR ⟨_, rfl⟩) (nomark _)))) pa_nil))))))) (pss_one ps_never) pss_nil))) (pss_one (ps_for PassesOwn.never rfl (pi_tup (pv 1)) (gn 2 (sc_check_things).nd) (pss_cons (ps_asg (pe_call (ok_first_wrong (P := P) (w := w) (base := base) T) (hr.mono (by decide)) (by rfl) T.first_wrong.g T.first_wrong.F.kp T.first_wrong.b .nil pass0 (pa_cons (pe_fld (pv 0) rfl) (pa_cons (pv 2) pa_nil))) (gn 3 (sc_check_things).nd)) (pss_one (ps_if (pt_cmpR op_isNotA (pv 3) pe_non (nomark _)) (pss_one ps_never) pss_nil)))))), run_T (N := n_check_things) h ?_⟩)
  rintro ts r ⟨C, fs, cs, as, rfl, rfl, hf, hc, ha, rfl⟩
  have KC := T.Kind.cl
  have lf := hf.most
  refine bd_then (bd_for (fun i Γ' => ∃ x2 x3, Γ' = ⟨[some (kT T.Kind.C fs cs), some (.tup (as.map tT)), x2, x3, none], []⟩) (ei_tup (ts := as.map tT) (ed_var rfl)) ⟨_, _, rfl⟩ ?_ ?_)
  · rintro i Γ' hi ⟨x2, x3, rfl⟩
    have hi' : i < as.length := by simpa using hi
    refine ⟨_, eg_name, ?_⟩
    rw [getD_map hi']
    obtain ⟨h1, h2, h3⟩ := ha _ (List.getElem_mem hi')
    generalize as[i] = a at h1 h2 h3
    exact bd_skip ((et_or (et_not (et_val (ed_call (ea_cons (ed_var rfl) (ea_one (ed_fld (t := fsT fs) KC T.n_Kind_row (ed_var (t := kT T.Kind.C fs cs) rfl) rfl))) ⟨a, fs, rfl, by omega, rfl⟩))) (fun _ => et_not (et_val (ed_allL (g := FK.T.str) (xs := fs) (fun x => decide (absN (numAt a (some x)) ≤ 40)) (ed_fld (t := fsT fs) KC T.n_Kind_row (ed_var (t := kT T.Kind.C fs cs) rfl) rfl) (by omega) rfl (fun x hx => ⟨_, _, ev_name (by simp), ed_le (ed_abs (ea_one (ed_ixD (kvs := tL a) (ed_var rfl) (ed_var rfl) (h1.th.look hx)))) ed_int, rfl⟩))))).to (by rw [h1.thB, show (fs.all fun x => decide (absN (numAt a (some x)) ≤ 40)) = true from h2]; rfl)) ⟨_, _, rfl⟩
  · rintro Γ' ⟨x2, x3, rfl⟩
    refine bd_for (fun i Γ' => ∃ x2 x3, Γ' = ⟨[some (kT T.Kind.C fs cs), some (.tup (as.map tT)), x2, x3, none], []⟩) (ei_tup (ts := as.map tT) (ed_var rfl)) ⟨_, _, rfl⟩ ?_ (fun _ _ => rfl)
    rintro i Γ' hi ⟨x2, x3, rfl⟩
    have hi' : i < as.length := by simpa using hi
    refine ⟨_, eg_name, ?_⟩
    rw [getD_map hi']
    obtain ⟨h1, h2, h3⟩ := ha _ (List.getElem_mem hi')
    generalize as[i] = a at h1 h2 h3
    refine bd_then (bd_asg (ed_call (ea_cons (ed_fld KC T.n_Kind_rules (ed_var rfl) rfl) (ea_one (ed_var rfl))) ⟨cs, a, rfl, fun c hc' => ⟨h1.th.has (hc.ends c hc').1, h1.th.has (hc.ends c hc').2.1⟩, rfl⟩) eg_name ?_)
    exact bd_skip ((et_test (ed_notN (ed_var (t := oT (fw cs a)) rfl))).to (by rw [h3]; rfl)) ⟨_, _, rfl⟩
theorem natsT_app (u v : List Nat) : FK.T.lst ((natsI u).map FK.T.int ++ (natsI v).map FK.T.int) = natsT (u ++ v) := by
  unfold natsT intsT natsI
  rw [← List.map_append, ← List.map_append]
def R_binding (T : Tx K mg) (ts : List FK.T) (t : FK.T) : Prop := ∃ C es cs s x, ts = [chT C es cs s, .str x] ∧ C = T.Chains.C ∧ (∀ p v, getA s.tab p = Option.some v → v.2.length ≤ 1000) ∧ t = ringT (bindE es s (some x))
set_option maxHeartbeats 8000000 in
theorem ok_binding (T : Tx K mg) : FnOk P w K mg base CX0 2 T.binding.f T.binding.fd ["chains", "field"] (spT P w (R_binding T)) := by
  refine T.binding.F.ok sc_binding (len_T fun ts t h => by unfold R_binding at h; obtain ⟨_, _, _, _, _, rfl, _⟩ := h; rfl) (fun cdv A outer s H vs Q E hr h => ⟨_, (pss_cons (ps_for PassesOwn.never rfl (pi_list (pe_fld (pv 0) rfl)) (gn 2 (sc_binding).nd) (pss_cons (ps_par (i := 3) (j := 4) rfl (sc_binding).nd rfl rfl (by decide) rfl rfl (pa_cons (pe_meth (pv 0) T.Chains.cl T.Chains_sum_of.m (ok_Chains_sum_of (P := P) (w := w) (base := base) T) (hr.mono (by decide)) T.Chains_sum_of.b .nil pass0 (pa_cons (pv 1) (pa_cons (pv 2) pa_nil))) (pa_cons (pe_meth (pv 0) T.Chains.cl T.Chains_sum_of.m (ok_Chains_sum_of (P := P) (w := w) (base := base) T) (hr.mono (by decide)) T.Chains_sum_of.b .nil pass0 (pa_cons (pv 2) (pa_cons (pv 1) pa_nil))) pa_nil)) (by rfl)) (pss_one (ps_if (PW.pt (pw_and (pt_cmpR (op_neA hr.units) (pv 2) (pv 1) (nomark _)) (pw_and (pt_cmpR op_isNotA (pv 3) pe_non (nomark _)) (pw_and (pt_cmpR op_isNotA (pv 4) pe_non (nomark _)) (pw_and1 (pt_cmpR (op_eqA hr.units) (pe_op op_addA (pv 3) (pv 4)) pe_int (nomark _))))))) (pss_one (ps_ret (pe_op op_addA (pe_meth (pv 0) T.Chains.cl T.Chains_counts_of.m (ok_Chains_counts_of (P := P) (w := w) (base := base) T) (hr.mono (by decide)) T.Chains_counts_of.b .nil pass0 (pa_cons (pv 1) (pa_cons (pv 2) pa_nil))) (pe_meth (pv 0) T.Chains.cl T.Chains_counts_of.m (ok_Chains_counts_of (P := P) (w := w) (base := base) T) (hr.mono (by decide)) T.Chains_counts_of.b .nil pass0 (pa_cons (pv 2) (pa_cons (pv 1) pa_nil)))))) pss_nil)))) (pss_one (ps_ret pe_non))), run_T (N := n_binding) h ?_⟩)
  rintro ts r ⟨C, es, cs, s, x, rfl, rfl, hl, rfl⟩
  have CC := T.Chains.cl
  refine bd_seq (Nx := fun _ => bindE es s (some x) = none) (bd_for (fun i Γ' => (∀ e ∈ es.take i, tieB s (some x) e = false) ∧ ∃ x2 x3 x4, Γ' = ⟨[some (chT T.Chains.C es cs s), some (.str x), x2, x3, x4], []⟩) (ei_list (ts := es.map eT) (ed_fld CC T.n_Chains_ends (ed_var rfl) rfl)) ⟨by simp, _, _, _, rfl⟩ ?_ ?_) (fun Γ' n => bd_ret ed_non (by rw [n]; rfl))
  · rintro i Γ' hi ⟨hp, x2, x3, x4, rfl⟩
    have hi' : i < es.length := by simpa using hi
    refine ⟨_, eg_name, ?_⟩
    rw [getD_map hi']
    have hfound := find_at (p := tieB s (some x)) hi' hp
    have hnext : tieB s (some x) es[i] = false → ∀ e ∈ es.take (i + 1), tieB s (some x) e = false := fun hf e he => by
      rw [take_succ_at (List.getElem?_eq_getElem hi')] at he
      rcases List.mem_append.mp he with he | he
      · exact hp e he
      · rw [List.mem_singleton.mp he]; exact hf
    generalize es[i] = e at hfound hnext
    have htie : ∀ u v, dist s (some x) e = some u → dist s e (some x) = some v → tieB s (some x) e = (!decide (e = some x) && decide (u + v = 0)) := fun u v h1 h2 => by unfold tieB; rw [h1, h2]
    have hno1 : dist s (some x) e = none → tieB s (some x) e = false := fun h1 => by unfold tieB; rw [h1]; simp
    have hno2 : dist s e (some x) = none → tieB s (some x) e = false := fun h1 => by unfold tieB; rw [h1]; cases dist s (some x) e <;> simp
    refine bd_then (bd_par (t1 := distT (dist s (some x) e)) (t2 := distT (dist s e (some x))) (ea_cons (ed_meth (ed_var rfl) rfl (ea_cons (ed_var (t := eT (some x)) rfl) (ea_one (ed_var (t := eT e) rfl))) ⟨_, es, cs, s, some x, e, rfl, rfl, rfl⟩) (ea_one (ed_meth (ed_var rfl) rfl (ea_cons (ed_var (t := eT e) rfl) (ea_one (ed_var (t := eT (some x)) rfl))) ⟨_, es, cs, s, e, some x, rfl, rfl, rfl⟩))) ?_)
    cases e1 : dist s (some x) e with
    | none => exact bd_skip ((et_and (b := !decide (e = some x)) (c := false) (et_test (ed_neE (a := e) (b := some x) (ed_var rfl) (ed_var rfl))) (fun _ => et_and (b := false) (c := false) (et_test (ed_notN (ed_var (t := .non) rfl))) (fun z => by cases z))).to (by simp)) ⟨hnext (hno1 e1), _, _, _, rfl⟩
    | some u =>
      cases e2 : dist s e (some x) with
      | none => exact bd_skip ((et_and (b := !decide (e = some x)) (c := false) (et_test (ed_neE (a := e) (b := some x) (ed_var rfl) (ed_var rfl))) (fun _ => et_and (b := true) (c := false) (et_test (ed_notN (ed_var (t := .int u) rfl))) (fun _ => et_and (b := false) (c := false) (et_test (ed_notN (ed_var (t := .non) rfl))) (fun z => by cases z)))).to (by simp)) ⟨hnext (hno2 e2), _, _, _, rfl⟩
      | some v =>
        have ht := htie u v e1 e2
        refine bd_if (et_and (b := !decide (e = some x)) (c := decide (u + v = 0)) (et_test (ed_neE (a := e) (b := some x) (ed_var rfl) (ed_var rfl))) (fun _ => et_and (b := true) (c := decide (u + v = 0)) (et_test (ed_notN (ed_var (t := .int u) rfl))) (fun _ => et_and (b := true) (c := decide (u + v = 0)) (et_test (ed_notN (ed_var (t := .int v) rfl))) (fun _ => et_test (ed_eqI (ed_add (ed_var rfl) (ed_var rfl)) ed_int))))) (fun q => ?_) (fun q => bd_next ⟨hnext (ht.trans q), _, _, _, rfl⟩)
        have q : tieB s (some x) e = true := ht.trans q
        obtain ⟨hne, a, b, g1, g2, _⟩ := tieB_of q
        have l1 := hl _ _ g1
        have l2 := hl _ _ g2
        refine bd_ret ((ed_of_en (en_cat (xs := (natsI a.2).map FK.T.int) (ys := (natsI b.2).map FK.T.int) (ed_meth (ed_var rfl) rfl (ea_cons (ed_var (t := eT (some x)) rfl) (ea_one (ed_var (t := eT e) rfl))) ⟨_, es, cs, s, some x, e, a, rfl, rfl, g1, rfl⟩) (ed_meth (ed_var rfl) rfl (ea_cons (ed_var (t := eT e) rfl) (ea_one (ed_var (t := eT (some x)) rfl))) ⟨_, es, cs, s, e, some x, b, rfl, rfl, g2, rfl⟩) (by unfold natsI; simp; omega))).to (natsT_app a.2 b.2)) ?_
        unfold bindE cnt
        rw [hfound q]
        show natsT _ = ringT (some (((getA s.tab (some x, e)).map (·.2)).getD [] ++ ((getA s.tab (e, some x)).map (·.2)).getD []))
        rw [g1, g2]; rfl
  · rintro Γ' ⟨hp, _⟩
    unfold bindE
    rw [List.length_map, List.take_length] at hp
    rw [find_no hp]; rfl
def R_lowest_for (T : Tx K mg) (ts : List FK.T) (t : FK.T) : Prop := ∃ C fs cs th x, ts = [kT C fs cs, tT th, .str x] ∧ C = T.Kind.C ∧ Cks fs cs ∧ IsTh fs th ∧ t = opI (lowF cs th x)
set_option maxHeartbeats 8000000 in
theorem ok_lowest_for (T : Tx K mg) : FnOk P w K mg base CX0 2 T.lowest_for.f T.lowest_for.fd ["kind", "here", "field"] (spT P w (R_lowest_for T)) := by
  refine T.lowest_for.F.ok sc_lowest_for (len_T fun ts t h => by unfold R_lowest_for at h; obtain ⟨_, _, _, _, _, rfl, _⟩ := h; rfl) (fun cdv A outer s H vs Q E hr h => ⟨_, (pss_one (ps_ret (pe_callBK (cr_maxDf rfl) (by rfl) T.b_max (by decide +kernel) (pa_cons (pe_lc (own := [("check", 3)]) rfl (sc_lowest_for).nd (pi_list (pe_fld (pv 0) rfl)) (blkOk_by (N := n_lowest_for) (sc := defScope s_lowest_for) (by decide +kernel)) (fun _ _ _ _ _ => (gn 3 (sc_lowest_for).nd)) (fun _ _ _ _ _ => (pts_one (pt_cmpR (show OpR _ _ (rEqA K) from (op_eqA hr.units)) (pe_ix (show IxR _ (rIxA P w K) from (ix_any (hu_of hr))) (pv 3) pe_int (fun _ _ => rfl)) (pv 2) (nomark _)))) (fun _ _ _ _ _ => (pe_op op_sub (pe_call (ok_number_at (P := P) (w := w) (base := base) T) (hr.mono (by decide)) (by rfl) T.number_at.g T.number_at.F.kp T.number_at.b .nil pass0 (pa_cons (pv 1) (pa_cons (pe_ix (show IxR _ (rIxA P w K) from (ix_any (hu_of hr))) (pv 3) pe_int (fun _ _ => rfl)) pa_nil))) (pe_ix (show IxR _ (rIxA P w K) from (ix_any (hu_of hr))) (pv 3) pe_int (fun _ _ => rfl))))) pa_nil) (pk_cons pe_non pk_nil)))), run_T (N := n_lowest_for) h ?_⟩)
  rintro ts r ⟨C, fs, cs, th, x, rfl, rfl, hc, hth, rfl⟩
  have KC := T.Kind.cl
  have lc := hc.most
  exact bd_ret (ed_maxDf (ns := (cs.filter fun c => decide (c.2.1 = some x)).map fun c => numAt th c.1 - c.2.2) ((ed_of_en (en_filtL (xs := cs) (g := cT) (fun c => decide (c.2.1 = some x)) (fun c => .int (numAt th c.1 - c.2.2)) (ed_fld (t := csT cs) KC T.n_Kind_rules (ed_var (t := kT T.Kind.C fs cs) rfl) rfl) (by omega) rfl (fun c hc' => ⟨_, ev_name (by simp), et_test (ed_eqE (a := c.2.1) (b := some x) (ed_ixT (ed_var (t := cT c) rfl) ed_int rfl) (ed_var rfl)), fun _ => ed_sub (ed_call (ea_cons (ed_var rfl) (ea_one (ed_ixT (ed_var (t := cT c) rfl) ed_int rfl))) ⟨th, c.1, rfl, hth.has (hc.ends c hc').1, rfl⟩) (ed_ixT (ed_var (t := cT c) rfl) ed_int rfl), rfl⟩))).to (by rw [List.map_map]; rfl))) rfl
def R_highest_for (T : Tx K mg) (ts : List FK.T) (t : FK.T) : Prop := ∃ C fs cs th x, ts = [kT C fs cs, tT th, .str x] ∧ C = T.Kind.C ∧ Cks fs cs ∧ IsTh fs th ∧ t = opI (highF cs th x)
set_option maxHeartbeats 8000000 in
theorem ok_highest_for (T : Tx K mg) : FnOk P w K mg base CX0 2 T.highest_for.f T.highest_for.fd ["kind", "here", "field"] (spT P w (R_highest_for T)) := by
  refine T.highest_for.F.ok sc_highest_for (len_T fun ts t h => by unfold R_highest_for at h; obtain ⟨_, _, _, _, _, rfl, _⟩ := h; rfl) (fun cdv A outer s H vs Q E hr h => ⟨_, (pss_one (ps_ret (pe_callBK (cr_minDf rfl) (by rfl) T.b_min (by decide +kernel) (pa_cons (pe_lc (own := [("check", 3)]) rfl (sc_highest_for).nd (pi_list (pe_fld (pv 0) rfl)) (blkOk_by (N := n_highest_for) (sc := defScope s_highest_for) (by decide +kernel)) (fun _ _ _ _ _ => (gn 3 (sc_highest_for).nd)) (fun _ _ _ _ _ => (pts_one (pt_cmpR (show OpR _ _ (rEqA K) from (op_eqA hr.units)) (pe_ix (show IxR _ (rIxA P w K) from (ix_any (hu_of hr))) (pv 3) pe_int (fun _ _ => rfl)) (pv 2) (nomark _)))) (fun _ _ _ _ _ => (pe_op op_addA (pe_call (ok_number_at (P := P) (w := w) (base := base) T) (hr.mono (by decide)) (by rfl) T.number_at.g T.number_at.F.kp T.number_at.b .nil pass0 (pa_cons (pv 1) (pa_cons (pe_ix (show IxR _ (rIxA P w K) from (ix_any (hu_of hr))) (pv 3) pe_int (fun _ _ => rfl)) pa_nil))) (pe_ix (show IxR _ (rIxA P w K) from (ix_any (hu_of hr))) (pv 3) pe_int (fun _ _ => rfl))))) pa_nil) (pk_cons pe_non pk_nil)))), run_T (N := n_highest_for) h ?_⟩)
  rintro ts r ⟨C, fs, cs, th, x, rfl, rfl, hc, hth, rfl⟩
  have KC := T.Kind.cl
  have lc := hc.most
  exact bd_ret (ed_minDf (ns := (cs.filter fun c => decide (c.1 = some x)).map fun c => numAt th c.2.1 + c.2.2) ((ed_of_en (en_filtL (xs := cs) (g := cT) (fun c => decide (c.1 = some x)) (fun c => .int (numAt th c.2.1 + c.2.2)) (ed_fld (t := csT cs) KC T.n_Kind_rules (ed_var (t := kT T.Kind.C fs cs) rfl) rfl) (by omega) rfl (fun c hc' => ⟨_, ev_name (by simp), et_test (ed_eqE (a := c.1) (b := some x) (ed_ixT (ed_var (t := cT c) rfl) ed_int rfl) (ed_var rfl)), fun _ => ed_add (ed_call (ea_cons (ed_var rfl) (ea_one (ed_ixT (ed_var (t := cT c) rfl) ed_int rfl))) ⟨th, c.2.1, rfl, hth.has (hc.ends c hc').2.1, rfl⟩) (ed_ixT (ed_var (t := cT c) rfl) ed_int rfl), rfl⟩))).to (by rw [List.map_map]; rfl))) rfl
end
end FK
set_option maxHeartbeats 8000000
namespace FK
open PySem L2
section
variable {P : Program} {w : World} {K : PySem.W.Frag} {mg : Str → Option Value} {base : Heap}
def setT (q : Str × Int) : FK.T := .tup [.str q.1, .int q.2]
def setsT (sets : List (Str × Int)) : FK.T := .lst (sets.map setT)
theorem opI_flat (x : Option Int) : (opI x).flat = true := by cases x <;> rfl
def LowI (fs : List Str) (cs : List Chk) (lo hi : Str → Int) (th0 goal : Thing) (B : Nat) (q : Sq) : Prop := Mv fs cs lo hi th0 q ∧ (∀ y ∈ fs, numAt goal (some y) ≤ numAt q.1 (some y)) ∧ (∀ y ∈ fs, numAt q.1 (some y) ≤ hi y) ∧ q.2.length + mu fs goal q.1 ≤ B
def UpI (fs : List Str) (cs : List Chk) (lo hi : Str → Int) (th0 goal : Thing) (B : Nat) (q : Sq) : Prop := Mv fs cs lo hi th0 q ∧ (∀ y ∈ fs, numAt q.1 (some y) ≤ numAt goal (some y)) ∧ (∀ y ∈ fs, lo y ≤ numAt q.1 (some y)) ∧ q.2.length + mu fs goal q.1 ≤ B
def R_lowered (T : Tx K mg) (gs : List AO) (ts : List FK.T) (Φ : FK.T → List AO → Prop) : Prop := ∃ h sa C fs cs goal th0 lo hi s B q, gs = [(h, .dic (tL q.1)), (sa, .lst (q.2.map setT))] ∧ ts = [kT C fs cs, .val (.ref h), tT goal, .val (.ref sa)] ∧ C = T.Kind.C ∧ Fld fs ∧ Cks fs cs ∧ Full (endsOf fs) cs s ∧ IsTh fs goal ∧ Tg fs th0 ∧ (∀ x ∈ fs, lo x ≤ numAt goal (some x)) ∧ Pot cs (numAt goal) ∧ Unb fs s lo hi ∧ B ≤ 10000 ∧ LowI fs cs lo hi th0 goal B q ∧
  Φ = fun t gs' => t = .non ∧ ∃ q', LowI fs cs lo hi th0 goal B q' ∧ (∀ x ∈ fs, numAt q'.1 (some x) = numAt goal (some x)) ∧ gs' = [(h, .dic (tL q'.1)), (sa, .lst (q'.2.map setT))]
set_option maxHeartbeats 8000000 in
theorem ok_lowered (T : Tx K mg) : FnOk P w K mg base CX0 3 T.lowered.f T.lowered.fd ["kind", "here", "goal", "sets"] (spG P w (R_lowered T)) := by
  refine T.lowered.F.ok sc_lowered (len_G fun gs ts Φ h => by unfold R_lowered at h; obtain ⟨_, _, _, _, _, _, _, _, _, _, _, _, rfl, rfl, _⟩ := h; rfl) (fun cdv A outer s H vs Q E hr h => ⟨_, (pss_one (ps_while PassesOwn.never (pt_val (pe_callB (cr_any rfl) (by rfl) T.b_any (by decide +kernel) (pa_cons (pe_lc (own := [("field", 4)]) rfl (sc_lowered).nd (pi_list (pe_fld (pv 0) rfl)) (blkOk_by (N := n_lowered) (sc := defScope s_lowered) (by decide +kernel)) (fun _ _ _ _ _ => (gn 4 (sc_lowered).nd)) (fun _ _ _ _ _ => pts_nil) (fun _ _ _ _ _ => (pe_cmpR op_gt (pe_ix (show IxR _ (rIxA P w K) from (ix_any (hu_of hr))) (pv 1) (pv 4) (fun _ _ => rfl)) (pe_ix (show IxR _ (rIxA P w K) from (ix_any (hu_of hr))) (pv 2) (pv 4) (fun _ _ => rfl)) (nomark _)))) pa_nil))) (pss_one (ps_for PassesOwn.never rfl (pi_list (pe_fld (pv 0) rfl)) (gn 4 (sc_lowered).nd) (pss_cons (ps_asg (pe_call (ok_lowest_for (P := P) (w := w) (base := base) T) (hr.mono (by decide)) (by rfl) T.lowest_for.g T.lowest_for.F.kp T.lowest_for.b .nil pass0 (pa_cons (pv 0) (pa_cons (pv 1) (pa_cons (pv 4) pa_nil)))) (gn 5 (sc_lowered).nd)) (pss_cons (ps_asg (pe_ifExp (pt_cmpR op_isA (pv 5) pe_non (nomark _)) (pe_ix (ix_any (hu_of hr)) (pv 2) (pv 4) (fun _ _ => rfl)) (pe_callB (call_max2 rfl) (by rfl) T.b_max (by decide +kernel) (pa_cons (pe_ix (ix_any (hu_of hr)) (pv 2) (pv 4) (fun _ _ => rfl)) (pa_cons (pv 5) pa_nil)))) (gn 6 (sc_lowered).nd)) (pss_one (ps_if (pt_cmpR op_lt (pv 6) (pe_ix (ix_any (hu_of hr)) (pv 1) (pv 4) (fun _ _ => rfl)) (nomark _)) (pss_cons (ps_asg (pv 6) (pg_sub (pv 1) (pv 4) (set_any (hu_of hr)))) (pss_one (ps_expr (pe_bm PySem.F.plainAttrs_list PySem.F.slot_list_append PySem.F.type_list_append mt_append (pv 3) (pa_cons (pe_tup (pa_cons (pv 4) (pa_cons (pv 6) pa_nil))) pa_nil))))) pss_nil)))))))), run_G (N := n_lowered) h ?_⟩)
  rintro gs ts Φ ⟨h, sa, C, fs, cs, goal, th0, lo, hi, s, B, q, rfl, rfl, rfl, hf, hc, F, hg, ht0, hbd, hgp, hu, hB, hI, rfl⟩
  have KC := T.Kind.cl
  have lf := hf.most
  refine bd_while (fun m Γ' => ∃ q x5 x6, LowI fs cs lo hi th0 goal B q ∧ mu fs goal q.1 = m ∧ Γ' = ⟨[some (kT T.Kind.C fs cs), some (.val (.ref h)), some (tT goal), some (.val (.ref sa)), none, x5, x6], [⟨true, h, .dic (tL (q).1)⟩, ⟨true, sa, .lst ((q).2.map setT)⟩]⟩) ⟨q, _, _, hI, rfl, rfl⟩ ?_
  clear hI
  rintro m Γ' ⟨q, x5, x6, hI, rfl, rfl⟩
  refine ⟨fs.any fun x => decide (numAt goal (some x) < numAt q.1 (some x)), _, et_val (ed_anyL (g := FK.T.str) (xs := fs) (fun x => decide (numAt goal (some x) < numAt q.1 (some x))) (ed_fld (t := fsT fs) KC T.n_Kind_row (ed_var (t := kT T.Kind.C fs cs) rfl) rfl) (by omega) rfl (fun x hx => ⟨_, _, ev_name (by simp), ed_gt (ed_ixDO (j := 0) (l := true) (kvs := tL q.1) (ed_var rfl) (ed_var rfl) rfl (hI.1.isth.look hx)) (ed_ixD (kvs := tL goal) (ed_var rfl) (ed_var rfl) (hg.look hx)), rfl⟩)), fun hb => ?_, fun hb => ?_⟩
  · obtain ⟨x0, hx0, d0⟩ := List.any_eq_true.mp hb
    have d0 := of_decide_eq_true d0
    have PP := pass_prog (I := LowI fs cs lo hi th0 goal B) (step := lowS cs goal) (m := fun q => mu fs goal q.1) (all := fs) (fun q i x hx => low_step hc hbd i.1 i.2.1 i.2.2.1 i.2.2.2 hx)
    refine bd_post (Nx' := fun Γ' => ∃ x4 x5 x6, Γ' = ⟨[some (kT T.Kind.C fs cs), some (.val (.ref h)), some (tT goal), some (.val (.ref sa)), x4, x5, x6], [⟨true, h, .dic (tL (fs.foldl (lowS cs goal) q).1)⟩, ⟨true, sa, .lst ((fs.foldl (lowS cs goal) q).2.map setT)⟩]⟩) (bd_foldLi (xs := fs) (g := FK.T.str) (fun q Γ' => ∃ x4 x5 x6, Γ' = ⟨[some (kT T.Kind.C fs cs), some (.val (.ref h)), some (tT goal), some (.val (.ref sa)), x4, x5, x6], [⟨true, h, .dic (tL (q).1)⟩, ⟨true, sa, .lst ((q).2.map setT)⟩]⟩) (lowS cs goal) q (ed_fld (t := fsT fs) KC T.n_Kind_row (ed_var (t := kT T.Kind.C fs cs) rfl) rfl) ⟨_, _, _, rfl⟩ ?_ (fun Γ' h => h)) ?_
    · rintro i hi Γ' ⟨x4, x5, x6, rfl⟩
      have hJ := (PP (fs.take i) (fun x hx => List.mem_of_mem_take hx) q hI).1
      generalize (fs.take i).foldl (lowS cs goal) q = r at hJ ⊢
      have hx := List.getElem_mem hi
      generalize fs[i] = x at hx ⊢
      have hlen : r.1.length ≤ 6 := by rw [(hJ.1.way.tg ht0).len]; exact lf
      have hlen2 : r.2.length ≤ 10000 := by have := hJ.2.2.2; omega
      refine ⟨_, eg_name, ?_⟩
      refine bd_then (bd_asg (t := opI (lowF cs r.1 x)) (ed_callB (js := [0]) (bs := [⟨true, h, .dic (tL r.1)⟩]) (ts := [kT T.Kind.C fs cs, .val (.ref h), .str x]) (ts' := [kT T.Kind.C fs cs, tT r.1, .str x]) (ea_cons (ed_var rfl) (ea_cons (ed_var rfl) (ea_one (ed_var rfl)))) (Lent.one rfl) (fun G ho => ⟨.inl rfl, .inr ⟨_, rfl, own_tr (o := .dic (tL r.1)) (ho _ (List.mem_singleton.mpr rfl))⟩, .inl rfl, trivial⟩) ⟨_, fs, cs, r.1, x, rfl, rfl, hc, hJ.1.isth, rfl⟩ (opI_flat _)) eg_name ?_)
      refine bd_seq (Nx := fun Γ' => ∃ x5, Γ' = ⟨[some (kT T.Kind.C fs cs), some (.val (.ref h)), some (tT goal), some (.val (.ref sa)), some (.str x), x5, some (.int (lowN cs r.1 (numAt goal (some x)) x))], [⟨true, h, .dic (tL r.1)⟩, ⟨true, sa, .lst (r.2.map setT)⟩]⟩) ?_ ?_
      · unfold lowN
        cases lowF cs r.1 x with
        | none => exact bd_asg (ed_ifp (b := true) (et_test (ed_isN (ed_var (t := .non) rfl))) (fun _ => ed_ixD (kvs := tL goal) (ed_var rfl) (ed_var rfl) (hg.look hx)) (fun z => by cases z)) eg_name ⟨_, rfl⟩
        | some m => exact bd_asg (ed_ifp (b := false) (et_test (ed_isN (ed_var (t := .int m) rfl))) (fun z => by cases z) (fun _ => ed_max2 (ea_cons (ed_ixD (kvs := tL goal) (ed_var rfl) (ed_var rfl) (hg.look hx)) (ea_one (ed_var (t := .int m) rfl))))) eg_name ⟨_, rfl⟩
      · rintro Γ' ⟨x5, rfl⟩
        have hS : ∀ b : Bool, b = decide (lowN cs r.1 (numAt goal (some x)) x < numAt r.1 (some x)) → lowS cs goal r x = if b then (putA r.1 x (lowN cs r.1 (numAt goal (some x)) x), r.2 ++ [(x, lowN cs r.1 (numAt goal (some x)) x)]) else r := fun b e => by
          subst e
          unfold lowS
          by_cases z : lowN cs r.1 (numAt goal (some x)) x < numAt r.1 (some x) <;> simp [z]
        generalize lowN cs r.1 (numAt goal (some x)) x = n at hS
        refine bd_if (et_test (ed_lt (ed_var rfl) (ed_ixDO (j := 0) (l := true) (kvs := tL r.1) (ed_var rfl) (ed_var rfl) rfl (hJ.1.isth.look hx)))) (fun z => ?_) (fun z => bd_next ?_)
        · rw [hS _ z.symm]
          refine bd_then (bd_putD (j := 0) (l := true) (kvs := tL r.1) (ed_var rfl) (ed_var rfl) (ed_var rfl) rfl (by unfold tL; rw [List.length_map]; omega) ?_)
          rw [put_tL]
          refine bd_append (j := 1) (l := true) (ts := r.2.map setT) (t := setT (x, n)) (ed_var rfl) rfl (ed_tup (ea_cons (ed_var rfl) (ea_one (ed_var rfl))) (by simp)) rfl (by rw [List.length_map]; omega) ⟨some (.str x), x5, some (.int n), ?_⟩
          show _ = (⟨_, [⟨true, h, .dic (tL (putA r.1 x n))⟩, ⟨true, sa, .lst ((r.2 ++ [(x, n)]).map setT)⟩]⟩ : Ev)
          rw [List.map_append]; rfl
        · rw [hS _ z.symm]
          exact ⟨_, _, _, rfl⟩
    · rintro Γ' ⟨x4, x5, x6, rfl⟩
      refine ⟨_, sub_forget [4], ?_⟩
      obtain ⟨i2, h2⟩ := PP fs (fun x hx => hx) q hI
      rcases h2 with ⟨e2, h3⟩ | hlt
      · have := low_done F hc hbd hgp hI.1 hI.2.1 hI.2.2.1 hu h3 x0 hx0
        omega
      · exact ⟨_, hlt, _, x5, x6, i2, rfl, rfl⟩
  · refine ⟨[(h, .dic (tL q.1)), (sa, .lst (q.2.map setT))], [], rfl, rfl, q, hI, fun x hx => ?_, rfl⟩
    have h1 := hI.2.1 x hx
    have h2 : ¬ (numAt goal (some x) < numAt q.1 (some x)) := fun z => by
      have : (fs.any fun x => decide (numAt goal (some x) < numAt q.1 (some x))) = true := List.any_eq_true.mpr ⟨x, hx, decide_eq_true z⟩
      rw [hb] at this; cases this
    omega
def R_raised (T : Tx K mg) (gs : List AO) (ts : List FK.T) (Φ : FK.T → List AO → Prop) : Prop := ∃ h sa C fs cs goal th0 lo hi s B q, gs = [(h, .dic (tL q.1)), (sa, .lst (q.2.map setT))] ∧ ts = [kT C fs cs, .val (.ref h), tT goal, .val (.ref sa)] ∧ C = T.Kind.C ∧ Fld fs ∧ Cks fs cs ∧ Full (endsOf fs) cs s ∧ IsTh fs goal ∧ Tg fs th0 ∧ (∀ x ∈ fs, numAt goal (some x) ≤ hi x) ∧ Pot cs (numAt goal) ∧ Unb fs s lo hi ∧ B ≤ 10000 ∧ UpI fs cs lo hi th0 goal B q ∧
  Φ = fun t gs' => t = .non ∧ ∃ q', UpI fs cs lo hi th0 goal B q' ∧ (∀ x ∈ fs, numAt q'.1 (some x) = numAt goal (some x)) ∧ gs' = [(h, .dic (tL q'.1)), (sa, .lst (q'.2.map setT))]
set_option maxHeartbeats 8000000 in
theorem ok_raised (T : Tx K mg) : FnOk P w K mg base CX0 3 T.raised.f T.raised.fd ["kind", "here", "goal", "sets"] (spG P w (R_raised T)) := by
  refine T.raised.F.ok sc_raised (len_G fun gs ts Φ h => by unfold R_raised at h; obtain ⟨_, _, _, _, _, _, _, _, _, _, _, _, rfl, rfl, _⟩ := h; rfl) (fun cdv A outer s H vs Q E hr h => ⟨_, (pss_one (ps_while PassesOwn.never (pt_val (pe_callB (cr_any rfl) (by rfl) T.b_any (by decide +kernel) (pa_cons (pe_lc (own := [("field", 4)]) rfl (sc_raised).nd (pi_list (pe_fld (pv 0) rfl)) (blkOk_by (N := n_raised) (sc := defScope s_raised) (by decide +kernel)) (fun _ _ _ _ _ => (gn 4 (sc_raised).nd)) (fun _ _ _ _ _ => pts_nil) (fun _ _ _ _ _ => (pe_cmpR op_lt (pe_ix (show IxR _ (rIxA P w K) from (ix_any (hu_of hr))) (pv 1) (pv 4) (fun _ _ => rfl)) (pe_ix (show IxR _ (rIxA P w K) from (ix_any (hu_of hr))) (pv 2) (pv 4) (fun _ _ => rfl)) (nomark _)))) pa_nil))) (pss_one (ps_for PassesOwn.never rfl (pi_list (pe_fld (pv 0) rfl)) (gn 4 (sc_raised).nd) (pss_cons (ps_asg (pe_call (ok_highest_for (P := P) (w := w) (base := base) T) (hr.mono (by decide)) (by rfl) T.highest_for.g T.highest_for.F.kp T.highest_for.b .nil pass0 (pa_cons (pv 0) (pa_cons (pv 1) (pa_cons (pv 4) pa_nil)))) (gn 5 (sc_raised).nd)) (pss_cons (ps_asg (pe_ifExp (pt_cmpR op_isA (pv 5) pe_non (nomark _)) (pe_ix (ix_any (hu_of hr)) (pv 2) (pv 4) (fun _ _ => rfl)) (pe_callB (call_min2 rfl) (by rfl) T.b_min (by decide +kernel) (pa_cons (pe_ix (ix_any (hu_of hr)) (pv 2) (pv 4) (fun _ _ => rfl)) (pa_cons (pv 5) pa_nil)))) (gn 6 (sc_raised).nd)) (pss_one (ps_if (pt_cmpR op_gt (pv 6) (pe_ix (ix_any (hu_of hr)) (pv 1) (pv 4) (fun _ _ => rfl)) (nomark _)) (pss_cons (ps_asg (pv 6) (pg_sub (pv 1) (pv 4) (set_any (hu_of hr)))) (pss_one (ps_expr (pe_bm PySem.F.plainAttrs_list PySem.F.slot_list_append PySem.F.type_list_append mt_append (pv 3) (pa_cons (pe_tup (pa_cons (pv 4) (pa_cons (pv 6) pa_nil))) pa_nil))))) pss_nil)))))))), run_G (N := n_raised) h ?_⟩)
  rintro gs ts Φ ⟨h, sa, C, fs, cs, goal, th0, lo, hi, s, B, q, rfl, rfl, rfl, hf, hc, F, hg, ht0, hbd, hgp, hu, hB, hI, rfl⟩
  have KC := T.Kind.cl
  have lf := hf.most
  refine bd_while (fun m Γ' => ∃ q x5 x6, UpI fs cs lo hi th0 goal B q ∧ mu fs goal q.1 = m ∧ Γ' = ⟨[some (kT T.Kind.C fs cs), some (.val (.ref h)), some (tT goal), some (.val (.ref sa)), none, x5, x6], [⟨true, h, .dic (tL (q).1)⟩, ⟨true, sa, .lst ((q).2.map setT)⟩]⟩) ⟨q, _, _, hI, rfl, rfl⟩ ?_
  clear hI
  rintro m Γ' ⟨q, x5, x6, hI, rfl, rfl⟩
  refine ⟨fs.any fun x => decide (numAt q.1 (some x) < numAt goal (some x)), _, et_val (ed_anyL (g := FK.T.str) (xs := fs) (fun x => decide (numAt q.1 (some x) < numAt goal (some x))) (ed_fld (t := fsT fs) KC T.n_Kind_row (ed_var (t := kT T.Kind.C fs cs) rfl) rfl) (by omega) rfl (fun x hx => ⟨_, _, ev_name (by simp), ed_lt (ed_ixDO (j := 0) (l := true) (kvs := tL q.1) (ed_var rfl) (ed_var rfl) rfl (hI.1.isth.look hx)) (ed_ixD (kvs := tL goal) (ed_var rfl) (ed_var rfl) (hg.look hx)), rfl⟩)), fun hb => ?_, fun hb => ?_⟩
  · obtain ⟨x0, hx0, d0⟩ := List.any_eq_true.mp hb
    have d0 := of_decide_eq_true d0
    have PP := pass_prog (I := UpI fs cs lo hi th0 goal B) (step := upS cs goal) (m := fun q => mu fs goal q.1) (all := fs) (fun q i x hx => up_step hc hbd i.1 i.2.1 i.2.2.1 i.2.2.2 hx)
    refine bd_post (Nx' := fun Γ' => ∃ x4 x5 x6, Γ' = ⟨[some (kT T.Kind.C fs cs), some (.val (.ref h)), some (tT goal), some (.val (.ref sa)), x4, x5, x6], [⟨true, h, .dic (tL (fs.foldl (upS cs goal) q).1)⟩, ⟨true, sa, .lst ((fs.foldl (upS cs goal) q).2.map setT)⟩]⟩) (bd_foldLi (xs := fs) (g := FK.T.str) (fun q Γ' => ∃ x4 x5 x6, Γ' = ⟨[some (kT T.Kind.C fs cs), some (.val (.ref h)), some (tT goal), some (.val (.ref sa)), x4, x5, x6], [⟨true, h, .dic (tL (q).1)⟩, ⟨true, sa, .lst ((q).2.map setT)⟩]⟩) (upS cs goal) q (ed_fld (t := fsT fs) KC T.n_Kind_row (ed_var (t := kT T.Kind.C fs cs) rfl) rfl) ⟨_, _, _, rfl⟩ ?_ (fun Γ' h => h)) ?_
    · rintro i hi Γ' ⟨x4, x5, x6, rfl⟩
      have hJ := (PP (fs.take i) (fun x hx => List.mem_of_mem_take hx) q hI).1
      generalize (fs.take i).foldl (upS cs goal) q = r at hJ ⊢
      have hx := List.getElem_mem hi
      generalize fs[i] = x at hx ⊢
      have hlen : r.1.length ≤ 6 := by rw [(hJ.1.way.tg ht0).len]; exact lf
      have hlen2 : r.2.length ≤ 10000 := by have := hJ.2.2.2; omega
      refine ⟨_, eg_name, ?_⟩
      refine bd_then (bd_asg (t := opI (highF cs r.1 x)) (ed_callB (js := [0]) (bs := [⟨true, h, .dic (tL r.1)⟩]) (ts := [kT T.Kind.C fs cs, .val (.ref h), .str x]) (ts' := [kT T.Kind.C fs cs, tT r.1, .str x]) (ea_cons (ed_var rfl) (ea_cons (ed_var rfl) (ea_one (ed_var rfl)))) (Lent.one rfl) (fun G ho => ⟨.inl rfl, .inr ⟨_, rfl, own_tr (o := .dic (tL r.1)) (ho _ (List.mem_singleton.mpr rfl))⟩, .inl rfl, trivial⟩) ⟨_, fs, cs, r.1, x, rfl, rfl, hc, hJ.1.isth, rfl⟩ (opI_flat _)) eg_name ?_)
      refine bd_seq (Nx := fun Γ' => ∃ x5, Γ' = ⟨[some (kT T.Kind.C fs cs), some (.val (.ref h)), some (tT goal), some (.val (.ref sa)), some (.str x), x5, some (.int (highN cs r.1 (numAt goal (some x)) x))], [⟨true, h, .dic (tL r.1)⟩, ⟨true, sa, .lst (r.2.map setT)⟩]⟩) ?_ ?_
      · unfold highN
        cases highF cs r.1 x with
        | none => exact bd_asg (ed_ifp (b := true) (et_test (ed_isN (ed_var (t := .non) rfl))) (fun _ => ed_ixD (kvs := tL goal) (ed_var rfl) (ed_var rfl) (hg.look hx)) (fun z => by cases z)) eg_name ⟨_, rfl⟩
        | some m => exact bd_asg (ed_ifp (b := false) (et_test (ed_isN (ed_var (t := .int m) rfl))) (fun z => by cases z) (fun _ => ed_min2 (ea_cons (ed_ixD (kvs := tL goal) (ed_var rfl) (ed_var rfl) (hg.look hx)) (ea_one (ed_var (t := .int m) rfl))))) eg_name ⟨_, rfl⟩
      · rintro Γ' ⟨x5, rfl⟩
        have hS : ∀ b : Bool, b = decide (numAt r.1 (some x) < highN cs r.1 (numAt goal (some x)) x) → upS cs goal r x = if b then (putA r.1 x (highN cs r.1 (numAt goal (some x)) x), r.2 ++ [(x, highN cs r.1 (numAt goal (some x)) x)]) else r := fun b e => by
          subst e
          unfold upS
          by_cases z : numAt r.1 (some x) < highN cs r.1 (numAt goal (some x)) x <;> simp [z]
        generalize highN cs r.1 (numAt goal (some x)) x = n at hS
        refine bd_if (et_test (ed_gt (ed_var rfl) (ed_ixDO (j := 0) (l := true) (kvs := tL r.1) (ed_var rfl) (ed_var rfl) rfl (hJ.1.isth.look hx)))) (fun z => ?_) (fun z => bd_next ?_)
        · rw [hS _ z.symm]
          refine bd_then (bd_putD (j := 0) (l := true) (kvs := tL r.1) (ed_var rfl) (ed_var rfl) (ed_var rfl) rfl (by unfold tL; rw [List.length_map]; omega) ?_)
          rw [put_tL]
          refine bd_append (j := 1) (l := true) (ts := r.2.map setT) (t := setT (x, n)) (ed_var rfl) rfl (ed_tup (ea_cons (ed_var rfl) (ea_one (ed_var rfl))) (by simp)) rfl (by rw [List.length_map]; omega) ⟨some (.str x), x5, some (.int n), ?_⟩
          show _ = (⟨_, [⟨true, h, .dic (tL (putA r.1 x n))⟩, ⟨true, sa, .lst ((r.2 ++ [(x, n)]).map setT)⟩]⟩ : Ev)
          rw [List.map_append]; rfl
        · rw [hS _ z.symm]
          exact ⟨_, _, _, rfl⟩
    · rintro Γ' ⟨x4, x5, x6, rfl⟩
      refine ⟨_, sub_forget [4], ?_⟩
      obtain ⟨i2, h2⟩ := PP fs (fun x hx => hx) q hI
      rcases h2 with ⟨e2, h3⟩ | hlt
      · have := up_done F hc hbd hgp hI.1 hI.2.1 hI.2.2.1 hu h3 x0 hx0
        omega
      · exact ⟨_, hlt, _, x5, x6, i2, rfl, rfl⟩
  · refine ⟨[(h, .dic (tL q.1)), (sa, .lst (q.2.map setT))], [], rfl, rfl, q, hI, fun x hx => ?_, rfl⟩
    have h1 := hI.2.1 x hx
    have h2 : ¬ (numAt q.1 (some x) < numAt goal (some x)) := fun z => by
      have : (fs.any fun x => decide (numAt q.1 (some x) < numAt goal (some x))) = true := List.any_eq_true.mpr ⟨x, hx, decide_eq_true z⟩
      rw [hb] at this; cases this
    omega
end
end FK
set_option maxHeartbeats 8000000
namespace FK
open PySem L2
section
variable {P : Program} {w : World} {K : PySem.W.Frag} {mg : Str → Option Value} {base : Heap}
def leFs (sets : List (Str × Int)) : List (Str × FK.T) := [("sets", setsT sets)]
def boFs (f : Str) (ns : List Int) : List (Str × FK.T) := [("field", .str f), ("counts", intsT ns)]
abbrev An4 := List (Str × Int) ⊕ (Str × List Nat)
def an4T (L B : Addr) : An4 → FK.T
  | .inl sets => .obj L (leFs sets)
  | .inr q => .obj B (boFs q.1 (natsI q.2))
def R_Led_init (T : Tx K mg) (gs : List AO) (ts : List FK.T) (t : FK.T) (gs' : List AO) : Prop := ∃ p C sets, gs = [(p, .ins C [])] ∧ ts = [.val (.ref p), setsT sets] ∧ C = T.Led.C ∧ t = .non ∧ gs' = [(p, .ins C (leFs sets))]
set_option maxHeartbeats 8000000 in
theorem ok_Led_init (T : Tx K mg) : FnOk P w K mg base CX0 1 T.Led_init.f T.Led_init.fd ["self", "sets"] (spM P w (R_Led_init T)) := by
  refine T.Led_init.F.ok sc_Led_init (len_M fun gs ts t gs' h => by unfold R_Led_init at h; obtain ⟨_, _, _, rfl, rfl, _⟩ := h; rfl) (fun cdv A outer s H vs Q E hr h => ⟨_, (pss_one (ps_fld (pv 0) (pe_callTy (call_listA rfl) (by rfl) T.b_list (by decide +kernel) (pa_cons (pv 1) pa_nil)) rfl)), run_M (N := n_Led_init) h ?_⟩)
  rintro gs ts r gs' ⟨p, C, sets, rfl, rfl, rfl, rfl, rfl⟩
  exact bd_fld (j := 0) (l := true) T.Led.cl T.n_Led_sets (ed_of_en (en_listL (ea_one (ed_var rfl)))) (ed_var rfl) rfl (by decide) ⟨rfl, [], rfl⟩
def R_Bound_init (T : Tx K mg) (gs : List AO) (ts : List FK.T) (t : FK.T) (gs' : List AO) : Prop := ∃ p C f ns, gs = [(p, .ins C [])] ∧ ts = [.val (.ref p), .str f, intsT ns] ∧ C = T.Bound.C ∧ t = .non ∧ gs' = [(p, .ins C (boFs f ns))]
set_option maxHeartbeats 8000000 in
theorem ok_Bound_init (T : Tx K mg) : FnOk P w K mg base CX0 1 T.Bound_init.f T.Bound_init.fd ["self", "field", "counts"] (spM P w (R_Bound_init T)) := by
  refine T.Bound_init.F.ok sc_Bound_init (len_M fun gs ts t gs' h => by unfold R_Bound_init at h; obtain ⟨_, _, _, _, rfl, rfl, _⟩ := h; rfl) (fun cdv A outer s H vs Q E hr h => ⟨_, (pss_cons (ps_fld (pv 0) (pv 1) rfl) (pss_one (ps_fld (pv 0) (pe_callTy (call_listA rfl) (by rfl) T.b_list (by decide +kernel) (pa_cons (pv 2) pa_nil)) rfl))), run_M (N := n_Bound_init) h ?_⟩)
  rintro gs ts r gs' ⟨p, C, f, ns, rfl, rfl, rfl, rfl, rfl⟩
  refine bd_then (bd_fld (j := 0) (l := true) T.Bound.cl T.n_Bound_field (ed_var rfl) (ed_var rfl) rfl (by decide) ?_)
  exact bd_fld (j := 0) (l := true) T.Bound.cl T.n_Bound_counts (ed_of_en (en_listL (ea_one (ed_var rfl)))) (ed_var rfl) rfl (show (1 : Nat) < 1000 by decide) ⟨rfl, [], rfl⟩
def LedOk (fs : List Str) (cs : List Chk) (a b : Thing) : An4 → Prop
  | .inl sets => (∃ th', Way fs cs (loN a b) (hiN a b) a sets th' ∧ ∀ x ∈ fs, numAt th' (some x) = numAt b (some x)) ∧ Unb fs (chainsE (endsOf fs) cs) (loN a b) (hiN a b) ∧ sets.length ≤ 5000
  | .inr q => q.1 ∈ fs ∧ numAt a (some q.1) ≠ numAt b (some q.1) ∧ bindE (endsOf fs) (chainsE (endsOf fs) cs) (some q.1) = some q.2
theorem ent_len' {fs : List Str} {cs : List Chk} (hf : fs.length ≤ 6) : ∀ p v, getA (chainsE (endsOf fs) cs).tab p = some v → v.2.length ≤ 1000 := fun p v h => by have := ent_len hf h; omega
theorem bind_none {es : List End} {s : Cs End} {f : End} (h : bindE es s f = none) : ∀ e ∈ es, tieB s f e = false := fun e he => by
  unfold bindE at h
  have := List.find?_eq_none.mp (Option.map_eq_none_iff.mp h) e he
  simpa using this
theorem lo_lt {a b : Thing} {x : Str} (h : loN a b x < hiN a b x) : numAt a (some x) ≠ numAt b (some x) := fun e => by
  unfold loN hiN at h
  rw [e] at h
  simp at h
theorem lo_le (a b : Thing) (x : Str) : loN a b x ≤ numAt a (some x) ∧ loN a b x ≤ numAt b (some x) ∧ numAt a (some x) ≤ hiN a b x ∧ numAt b (some x) ≤ hiN a b x ∧ (loN a b x = numAt a (some x) ∨ loN a b x = numAt b (some x)) := by
  unfold loN hiN
  split <;> split <;> omega
def lowTh (fs : List Str) (a b : Thing) : Thing := fs.foldl (fun acc x => putA acc x (loN a b x)) []
theorem lowTh_get {fs : List Str} {a b : Thing} {x : Str} (hx : x ∈ fs) : getA (lowTh fs a b) x = some (loN a b x) := fold_put_get (loN a b) (.inl hx)
theorem lowTh_num {fs : List Str} {a b : Thing} {x : Str} (hx : x ∈ fs) : numAt (lowTh fs a b) (some x) = loN a b x := by rw [numAt_some, lowTh_get hx]; rfl
theorem lowTh_pot {fs : List Str} {cs : List Chk} {a b : Thing} (hc : Cks fs cs) (ha : Pot cs (numAt a)) (hb : Pot cs (numAt b)) : Pot cs (numAt (lowTh fs a b)) := fun c hc' => by
  have key : ∀ e ∈ endsOf fs, numAt (lowTh fs a b) e ≤ numAt a e ∧ numAt (lowTh fs a b) e ≤ numAt b e ∧ (numAt (lowTh fs a b) e = numAt a e ∨ numAt (lowTh fs a b) e = numAt b e) := fun e he => by
    cases e with
    | none => exact ⟨Int.le_refl _, Int.le_refl _, .inl rfl⟩
    | some x =>
      have hx := mem_endsOf.mp he x rfl
      have := lo_le a b x
      rw [lowTh_num hx]
      exact ⟨this.1, this.2.1, this.2.2.2.2⟩
  obtain ⟨h1, h2, _⟩ := hc.ends c hc'
  have k1 := key _ h1
  have k2 := key _ h2
  have p1 := ha c hc'
  have p2 := hb c hc'
  omega
theorem mu_le {fs : List Str} {goal th : Thing} (hf : fs.length ≤ 6) (h : ∀ x ∈ fs, (numAt th (some x) - numAt goal (some x)).natAbs ≤ 80) : mu fs goal th ≤ 480 := by
  have := sum_le (f := fun x => (numAt th (some x) - numAt goal (some x)).natAbs) (k := 80) (l := fs) h
  unfold mu
  have h2 : 80 * fs.length ≤ 80 * 6 := Nat.mul_le_mul_left _ hf
  omega
def R_led (T : Tx K mg) (gs : List AO) (ts : List FK.T) (Φ : FK.T → List AO → Prop) : Prop := ∃ C fs cs a b, gs = [] ∧ ts = [kT C fs cs, tT a, tT b] ∧ C = T.Kind.C ∧ Fld fs ∧ Cks fs cs ∧ GoodT fs cs a ∧ GoodT fs cs b ∧
  Φ = fun t gs' => gs' = [] ∧ ∃ an, t = an4T T.Led.C T.Bound.C an ∧ LedOk fs cs a b an
set_option maxHeartbeats 8000000 in
theorem ok_led (T : Tx K mg) : FnOk P w K mg base CX0 5 T.led.f T.led.fd ["kind", "thing", "there"] (spG P w (R_led T)) := by
  refine T.led.F.ok sc_led (len_G fun gs ts Φ h => by unfold R_led at h; obtain ⟨_, _, _, _, _, rfl, rfl, _⟩ := h; rfl) (fun cdv A outer s H vs Q E hr h => ⟨_, (pss_cons (ps_expr (pe_call (ok_check_things (P := P) (w := w) (base := base) T) (hr.mono (by decide)) (by rfl) T.check_things.g T.check_things.F.kp T.check_things.b .nil pass0 (pa_cons (pv 0) (pa_cons (pe_tup (pa_cons (pv 1) (pa_cons (pv 2) pa_nil))) pa_nil)))) (pss_cons (ps_asg (pe_make T.mk_Chains (ok_Chains_init (P := P) (w := w) (base := base) T) (hr.mono (by decide)) (by rfl) T.Chains.g T.Chains_init.b .nil pass0 (pa_cons (pv 0) pa_nil)) (gn 3 (sc_led).nd)) (pss_cons (ps_for PassesOwn.never rfl (pi_list (pe_fld (pv 0) rfl)) (gn 4 (sc_led).nd) (pss_cons (ps_asg (pe_ifExp (pt_cmpR (op_neA hr.units) (pe_ix (ix_any (hu_of hr)) (pv 1) (pv 4) (fun _ _ => rfl)) (pe_ix (ix_any (hu_of hr)) (pv 2) (pv 4) (fun _ _ => rfl)) (nomark _)) (pe_call (ok_binding (P := P) (w := w) (base := base) T) (hr.mono (by decide)) (by rfl) T.binding.g T.binding.F.kp T.binding.b .nil pass0 (pa_cons (pv 3) (pa_cons (pv 4) pa_nil))) pe_non) (gn 5 (sc_led).nd)) (pss_one (ps_if (pt_cmpR op_isNotA (pv 5) pe_non (nomark _)) (pss_one (ps_ret (pe_make T.mk_Bound (ok_Bound_init (P := P) (w := w) (base := base) T) (hr.mono (by decide)) (by rfl) T.Bound.g T.Bound_init.b .nil pass0 (pa_cons (pv 4) (pa_cons (pv 5) pa_nil))))) pss_nil)))) (pss_cons (ps_par3 (i := 6) (j := 7) (l := 8) rfl (sc_led).nd rfl rfl rfl (by decide) (by decide) (by decide) rfl rfl rfl (pa_cons (pe_callTy call_dictD (by rfl) T.b_dict (by decide +kernel) (pa_cons (pv 1) pa_nil)) (pa_cons pe_dnew (pa_cons (pe_lst pa_nil) pa_nil))) (by rfl)) (pss_cons (ps_for PassesOwn.never rfl (pi_list (pe_fld (pv 0) rfl)) (gn 4 (sc_led).nd) (pss_one (ps_asg (pe_callB (call_min2 rfl) (by rfl) T.b_min (by decide +kernel) (pa_cons (pe_ix (ix_any (hu_of hr)) (pv 1) (pv 4) (fun _ _ => rfl)) (pa_cons (pe_ix (ix_any (hu_of hr)) (pv 2) (pv 4) (fun _ _ => rfl)) pa_nil))) (pg_sub (pv 7) (pv 4) (set_any (hu_of hr)))))) (pss_cons (ps_expr (pe_call (ok_lowered (P := P) (w := w) (base := base) T) (hr.mono (by decide)) (by rfl) T.lowered.g T.lowered.F.kp T.lowered.b .nil pass0 (pa_cons (pv 0) (pa_cons (pv 6) (pa_cons (pv 7) (pa_cons (pv 8) pa_nil)))))) (pss_cons (ps_expr (pe_call (ok_raised (P := P) (w := w) (base := base) T) (hr.mono (by decide)) (by rfl) T.raised.g T.raised.F.kp T.raised.b .nil pass0 (pa_cons (pv 0) (pa_cons (pv 6) (pa_cons (pv 2) (pa_cons (pv 8) pa_nil)))))) (pss_one (ps_ret (pe_make T.mk_Led (ok_Led_init (P := P) (w := w) (base := base) T) (hr.mono (by decide)) (by rfl) T.Led.g T.Led_init.b .nil pass0 (pa_cons (pv 8) pa_nil))))))))))), run_G (N := n_led) h ?_⟩)
  rintro gs ts Φ ⟨C, fs, cs, a, b, rfl, rfl, rfl, hf, hc, ga, gb, rfl⟩
  have KC := T.Kind.cl
  have lf := hf.most
  have lc := hc.most
  have pa := fw_pot.mp ga.2.2
  have pb := fw_pot.mp gb.2.2
  have hr0 : (chainsE (endsOf fs) cs).ring = none := ring_none_of_pot pa
  have F := full_k hc hr0
  refine bd_then (bd_drop (ed_call (ea_cons (ed_var rfl) (ea_one (ed_tup (ea_cons (ed_var rfl) (ea_one (ed_var rfl))) (by simp)))) ⟨_, fs, cs, [a, b], rfl, rfl, hf, hc, fun z hz => by simp only [List.mem_cons, List.not_mem_nil, or_false] at hz; rcases hz with rfl | rfl; exact ga; exact gb, rfl⟩) ?_)
  refine bd_then (bd_asg (t := chT T.Chains.C (endsOf fs) cs (chainsE (endsOf fs) cs)) (ed_make (ea_one (ed_var rfl)) (fun p => ⟨p, _, fs, cs, rfl, rfl, rfl, lf, lc, rfl, rfl⟩)) eg_name ?_)
  have hel := ent_len' (cs := cs) lf
  generalize hs : chainsE (endsOf fs) cs = s at F hel
  refine bd_seq (Nx := fun Γ' => ∃ x4 x5, (∀ x ∈ fs, numAt a (some x) ≠ numAt b (some x) → bindE (endsOf fs) s (some x) = none) ∧ Γ' = ⟨[some (kT T.Kind.C fs cs), some (tT a), some (tT b), some (chT T.Chains.C (endsOf fs) cs s), x4, x5, none, none, none], []⟩) (bd_for (fun i Γ' => ∃ x4 x5, (∀ x ∈ fs.take i, numAt a (some x) ≠ numAt b (some x) → bindE (endsOf fs) s (some x) = none) ∧ Γ' = ⟨[some (kT T.Kind.C fs cs), some (tT a), some (tT b), some (chT T.Chains.C (endsOf fs) cs s), x4, x5, none, none, none], []⟩) (ei_list (ts := fs.map FK.T.str) (ed_fld KC T.n_Kind_row (ed_var rfl) rfl)) ⟨_, _, by simp, rfl⟩ ?_ ?_) ?_
  · rintro i Γ' hi ⟨x4, x5, hp, rfl⟩
    have hi' : i < fs.length := by simpa using hi
    refine ⟨_, eg_name, ?_⟩
    rw [getD_map hi']
    have hx := List.getElem_mem hi'
    have hnext : (numAt a (some fs[i]) ≠ numAt b (some fs[i]) → bindE (endsOf fs) s (some fs[i]) = none) → ∀ x ∈ fs.take (i + 1), numAt a (some x) ≠ numAt b (some x) → bindE (endsOf fs) s (some x) = none := fun hn x hx => by
      rw [take_succ_at (List.getElem?_eq_getElem hi')] at hx
      rcases List.mem_append.mp hx with hx | hx
      · exact hp x hx
      · rw [List.mem_singleton.mp hx]; exact hn
    generalize fs[i] = x at hx hnext
    refine bd_then (bd_asg (t := ringT (if numAt a (some x) = numAt b (some x) then none else bindE (endsOf fs) s (some x))) (ed_ifp (b := !decide (numAt a (some x) = numAt b (some x))) (et_test (ed_neI (ed_ixD (kvs := tL a) (ed_var rfl) (ed_var rfl) (ga.1.th.look hx)) (ed_ixD (kvs := tL b) (ed_var rfl) (ed_var rfl) (gb.1.th.look hx)))) (fun z => ?_) (fun z => ?_)) eg_name ?_)
    · have z : ¬ numAt a (some x) = numAt b (some x) := by simpa using z
      rw [if_neg z]
      exact ed_call (ea_cons (ed_var rfl) (ea_one (ed_var rfl))) ⟨_, endsOf fs, cs, s, x, rfl, rfl, hel, rfl⟩
    · have z : numAt a (some x) = numAt b (some x) := by simpa using z
      rw [if_pos z]
      exact ed_non
    · by_cases z : numAt a (some x) = numAt b (some x)
      · rw [if_pos z]
        exact bd_skip (et_test (ed_notN (ed_var (t := .non) rfl))) ⟨_, _, hnext fun h => absurd z h, rfl⟩
      · rw [if_neg z]
        cases e : bindE (endsOf fs) s (some x) with
        | none => exact bd_skip (et_test (ed_notN (ed_var (t := .non) rfl))) ⟨_, _, hnext fun _ => e, rfl⟩
        | some ws => exact bd_yes (et_test (ed_notN (ed_var (t := natsT ws) rfl))) (bd_ret (ed_make (ea_cons (ed_var rfl) (ea_one (ed_var (t := natsT ws) rfl))) (fun p => ⟨p, _, x, natsI ws, rfl, rfl, rfl, rfl, rfl⟩)) ⟨[], [], rfl, rfl, .inr (x, ws), rfl, hx, z, by rw [hs]; exact e⟩)
  · rintro Γ' ⟨x4, x5, hp, rfl⟩
    rw [List.length_map, List.take_length] at hp
    exact ⟨_, _, hp, rfl⟩
  · rintro Γ' ⟨x4, x5, hp, rfl⟩
    have hu : Unb fs s (loN a b) (hiN a b) := fun x hx h => bind_none (hp x hx (lo_lt h))
    refine bd_then (bd_par3X (xa_cons (ex_en (en_dictD (kvs := tL a) (ea_one (ed_var rfl))) fun h => xa_cons (ex_en en_dnew fun lw => xa_cons (ex_en (en_lst ea_nil (by decide)) fun sa => xa_nil ⟨_, _, _, rfl, ?_⟩)))))
    refine bd_then (bd_foldLi (xs := fs) (g := FK.T.str) (fun acc Γ' => ∃ x4, Γ' = ⟨[some (kT T.Kind.C fs cs), some (tT a), some (tT b), some (chT T.Chains.C (endsOf fs) cs s), x4, x5, some (.val (.ref h)), some (.val (.ref lw)), some (.val (.ref sa))], [⟨false, h, .dic (tL a)⟩, ⟨false, lw, .dic (tL acc)⟩, ⟨false, sa, .lst []⟩]⟩) (fun acc x => putA acc x (loN a b x)) [] (ed_fld (t := fsT fs) KC T.n_Kind_row (ed_var (t := kT T.Kind.C fs cs) rfl) rfl) ⟨_, rfl⟩ ?_ ?_)
    · rintro i hi Γ' ⟨x4, rfl⟩
      refine ⟨_, eg_name, ?_⟩
      have hlen := fold_len (f := fun acc x => putA acc x (loN a b x)) (fun acc e => putA_length_le _ _ _) (fs.take i) []
      have hi2 : (fs.take i).length ≤ 6 := by rw [List.length_take]; omega
      generalize (fs.take i).foldl (fun acc x => putA acc x (loN a b x)) [] = acc at hlen ⊢
      have hx := List.getElem_mem hi
      generalize fs[i] = x at hx ⊢
      refine bd_putD (j := 1) (l := false) (kvs := tL acc) (t := .int (loN a b x)) (ed_min2 (ea_cons (ed_ixD (kvs := tL a) (ed_var rfl) (ed_var rfl) (ga.1.th.look hx)) (ea_one (ed_ixD (kvs := tL b) (ed_var rfl) (ed_var rfl) (gb.1.th.look hx))))) (ed_var rfl) (ed_var rfl) rfl (by unfold tL; rw [List.length_map]; simp at hlen; omega) ⟨some (.str x), ?_⟩
      rw [put_tL]; rfl
    · rintro Γ' ⟨x4, rfl⟩
      have hlowT : IsTh fs (lowTh fs a b) := fun x hx => ⟨_, lowTh_get hx⟩
      have hnum : ∀ x ∈ fs, numAt (lowTh fs a b) (some x) = loN a b x := fun x hx => lowTh_num hx
      have hpot := lowTh_pot hc pa pb
      show Bd P w _ ⟨_, [⟨false, h, .dic (tL a)⟩, ⟨false, lw, .dic (tL (lowTh fs a b))⟩, ⟨false, sa, .lst []⟩]⟩ _ _
      generalize lowTh fs a b = low at hlowT hnum hpot
      have na := fun x hx => near_of (fs := fs) ga.2.1 (x := x) hx
      have nb := fun x hx => near_of (fs := fs) gb.2.1 (x := x) hx
      have hI : LowI fs cs (loN a b) (hiN a b) a low 480 (a, []) := ⟨⟨.nil, pa, ga.1.th⟩, fun y hy => by rw [hnum y hy]; exact (lo_le a b y).1, fun y hy => (lo_le a b y).2.2.1, by
        show 0 + mu fs low a ≤ 480
        rw [Nat.zero_add]
        exact mu_le lf fun x hx => by rw [hnum x hx]; have := na x hx; have := nb x hx; have := lo_le a b x; omega⟩
      refine bd_then (bd_dropX (ex_callG (js := [0, 1]) (gh := [⟨false, h, .dic (tL a)⟩, ⟨false, sa, .lst []⟩]) (ea_cons (ed_var rfl) (ea_cons (ed_var rfl) (ea_cons (ed_frz (j := 1) (ed_var rfl) rfl) (ea_one (ed_var rfl))))) (by decide) (Lent.two rfl rfl) ⟨h, sa, _, fs, cs, low, a, loN a b, hiN a b, s, 480, (a, []), rfl, rfl, rfl, hf, hc, F, hlowT, ga.1, fun x hx => by rw [hnum x hx]; exact Int.le_refl _, hpot, hu, by decide, hI, rfl⟩ (fun t gs' hΦ => ?_)))
      obtain ⟨rfl, q, hq, hqe, rfl⟩ := hΦ
      refine ⟨[⟨false, h, .dic (tL q.1)⟩, ⟨false, sa, .lst (q.2.map setT)⟩], rfl, rfl, ?_⟩
      have hI2 : UpI fs cs (loN a b) (hiN a b) a b 960 q := ⟨hq.1, fun y hy => by rw [hqe y hy, hnum y hy]; exact (lo_le a b y).2.1, fun y hy => by rw [hqe y hy, hnum y hy]; exact Int.le_refl _, by
        have h1 := hq.2.2.2
        have h2 : mu fs b q.1 ≤ 480 := mu_le lf fun x hx => by rw [hqe x hx, hnum x hx]; have := na x hx; have := nb x hx; have := lo_le a b x; omega
        omega⟩
      refine bd_then (bd_dropX (ex_callG (js := [0, 1]) (gh := [⟨false, h, .dic (tL q.1)⟩, ⟨false, sa, .lst (q.2.map setT)⟩]) (ea_cons (ed_var rfl) (ea_cons (ed_var rfl) (ea_cons (ed_var rfl) (ea_one (ed_var rfl))))) (by decide) (Lent.two rfl rfl) ⟨h, sa, _, fs, cs, b, a, loN a b, hiN a b, s, 960, q, rfl, rfl, rfl, hf, hc, F, gb.1.th, ga.1, fun x hx => (lo_le a b x).2.2.2.1, pb, hu, by decide, hI2, rfl⟩ (fun t gs' hΦ => ?_)))
      obtain ⟨rfl, q2, hq2, hqe2, rfl⟩ := hΦ
      refine ⟨[⟨false, h, .dic (tL q2.1)⟩, ⟨false, sa, .lst (q2.2.map setT)⟩], rfl, rfl, ?_⟩
      refine bd_ret (ed_make (ea_one (ed_frz (j := 1) (ed_var rfl) rfl)) (fun p => ⟨p, _, q2.2, rfl, rfl, rfl, rfl, rfl⟩)) ⟨[], _, rfl, rfl, .inl q2.2, rfl, ⟨q2.1, hq2.1.way, hqe2⟩, by rw [hs]; exact hu, ?_⟩
      have := hq2.2.2.2
      omega
end
end FK
set_option maxHeartbeats 8000000
namespace FK
open PySem L2
section
variable {P : Program} {w : World} {K : PySem.W.Frag} {mg : Str → Option Value} {base : Heap}
def R_Led_shows (T : Tx K mg) (ts : List FK.T) (t : FK.T) : Prop := ∃ C D fs cs a b sets, ts = [.obj D (leFs sets), kT C fs cs, tT a, tT b] ∧ C = T.Kind.C ∧ D = T.Led.C ∧ Fld fs ∧ Cks fs cs ∧ Tg fs a ∧ IsTh fs b ∧ t = .bl (ledB fs cs a b sets)
theorem mem_someB (x : Str) (fs : List Str) : decide ((some x : End) ∈ fs.map some) = decide (x ∈ fs) := decide_eq_decide.mpr ⟨fun h => by obtain ⟨y, hy, e⟩ := List.mem_map.mp h; cases e; exact hy, fun h => List.mem_map.mpr ⟨x, h, rfl⟩⟩
theorem led_false {fs : List Str} {cs : List Chk} {a b h : Thing} {sets r : List (Str × Int)} {q : Str × Int} (e : runB fs cs (loN a b) (hiN a b) h (q :: r) = runB fs cs (loN a b) (hiN a b) a sets) (z : goB fs cs (loN a b) (hiN a b) h q.1 q.2 = false) : ledB fs cs a b sets = false := by
  unfold ledB
  rw [← e]
  show (match (if goB fs cs (loN a b) (hiN a b) h q.1 q.2 then _ else _) with | none => false | some h => eqTh h b) = false
  rw [z]; rfl
theorem led_next {fs : List Str} {cs : List Chk} {a b h : Thing} {sets r : List (Str × Int)} {q : Str × Int} (e : runB fs cs (loN a b) (hiN a b) h (q :: r) = runB fs cs (loN a b) (hiN a b) a sets) (z : goB fs cs (loN a b) (hiN a b) h q.1 q.2 = true) : runB fs cs (loN a b) (hiN a b) (putA h q.1 q.2) r = runB fs cs (loN a b) (hiN a b) a sets := by
  rw [← e]
  show _ = (if goB fs cs (loN a b) (hiN a b) h q.1 q.2 then _ else _)
  rw [if_pos z]
set_option maxHeartbeats 8000000 in
theorem ok_Led_shows (T : Tx K mg) : FnOk P w K mg base CX0 4 T.Led_shows.f T.Led_shows.fd ["self", "kind", "thing", "there"] (spT P w (R_Led_shows T)) := by
  refine T.Led_shows.F.ok sc_Led_shows (len_T fun ts t h => by unfold R_Led_shows at h; obtain ⟨_, _, _, _, _, _, _, rfl, _⟩ := h; rfl) (fun cdv A outer s H vs Q E hr h => ⟨_, (pss_cons (ps_asg (pe_callTy call_dictD (by rfl) T.b_dict (by decide +kernel) (pa_cons (pv 2) pa_nil)) (gn 4 (sc_Led_shows).nd)) (pss_cons (ps_for PassesOwn.never rfl (pi_list (pe_fld (pv 0) rfl)) (pg_tup rfl (pgs_cons (gn 5 (sc_Led_shows).nd) (pgs_cons (gn 6 (sc_Led_shows).nd) pgs_nil))) (pss_cons (ps_if (PW.pt (pw_or (pt_cmpR (op_notInA (hu_of hr)) (pv 5) (pe_fld (pv 1) rfl) (by rfl)) (pw_or (pt_not (pt_val (pe_call (ok_is_number (P := P) (w := w) (base := base) T) (hr.mono (by decide)) (by rfl) T.is_number.g T.is_number.F.kp T.is_number.b .nil pass0 (pa_cons (pv 6) pa_nil)))) (pw_or1 (pt_cmpR (op_eqA hr.units) (pe_ix (ix_any (hu_of hr)) (pv 4) (pv 5) (fun _ _ => rfl)) (pv 6) (nomark _)))))) (pss_one (ps_ret pe_bl)) pss_nil) (pss_cons (ps_if (pt_not (pt_chain op_le op_le (pe_callB (call_min2 rfl) (by rfl) T.b_min (by decide +kernel) (pa_cons (pe_ix (ix_any (hu_of hr)) (pv 2) (pv 5) (fun _ _ => rfl)) (pa_cons (pe_ix (ix_any (hu_of hr)) (pv 3) (pv 5) (fun _ _ => rfl)) pa_nil))) (pv 6) (pe_callB (call_max2 rfl) (by rfl) T.b_max (by decide +kernel) (pa_cons (pe_ix (ix_any (hu_of hr)) (pv 2) (pv 5) (fun _ _ => rfl)) (pa_cons (pe_ix (ix_any (hu_of hr)) (pv 3) (pv 5) (fun _ _ => rfl)) pa_nil))))) (pss_one (ps_ret pe_bl)) pss_nil) (pss_cons (ps_asg (pv 6) (pg_sub (pv 4) (pv 5) (set_any (hu_of hr)))) (pss_one (ps_if (pt_cmpR op_isNotA (pe_call (ok_first_wrong (P := P) (w := w) (base := base) T) (hr.mono (by decide)) (by rfl) T.first_wrong.g T.first_wrong.F.kp T.first_wrong.b .nil pass0 (pa_cons (pe_fld (pv 1) rfl) (pa_cons (pv 4) pa_nil))) pe_non (nomark _)) (pss_one (ps_ret pe_bl)) pss_nil)))))) (pss_one (ps_ret (pe_cmpR (op_eqTh (Nat.lt_of_le_of_lt (Nat.le_add_right _ 64) hr.units)) (pv 4) (pv 3) (nomark _)))))), run_T (N := n_Led_shows) h ?_⟩)
  rintro ts r ⟨C, D, fs, cs, a, b, sets, rfl, rfl, rfl, hf, hc, ha, hb, rfl⟩
  have LC := T.Led.cl
  have KC := T.Kind.cl
  have lf := hf.most
  have efs : fsT fs = .lst ((fs.map some).map eT) := by rw [List.map_map]; rfl
  refine bd_then (bd_asgN (en_dictD (kvs := tL a) (ea_one (ed_var rfl))) fun h => ?_)
  refine bd_seq (Nx := fun Γ' => ∃ hr x5 x6, runB fs cs (loN a b) (hiN a b) a sets = some hr ∧ Γ' = ⟨[some (.obj T.Led.C (leFs sets)), some (kT T.Kind.C fs cs), some (tT a), some (tT b), some (.val (.ref h)), x5, x6], [⟨false, h, .dic (tL hr)⟩]⟩) (bd_for (fun i Γ' => ∃ hr x5 x6, runB fs cs (loN a b) (hiN a b) hr (sets.drop i) = runB fs cs (loN a b) (hiN a b) a sets ∧ Tg fs hr ∧ Γ' = ⟨[some (.obj T.Led.C (leFs sets)), some (kT T.Kind.C fs cs), some (tT a), some (tT b), some (.val (.ref h)), x5, x6], [⟨false, h, .dic (tL hr)⟩]⟩) (ei_list (ts := sets.map setT) (ed_fld LC T.n_Led_sets (ed_var rfl) rfl)) ⟨a, _, _, rfl, ha, rfl⟩ ?_ ?_) ?_
  · rintro i Γ' hi ⟨hr, x5, x6, hrun, htg, rfl⟩
    have hi' : i < sets.length := by simpa using hi
    rw [getD_map hi']
    rw [List.drop_eq_getElem_cons hi'] at hrun
    generalize sets[i] = q at hrun
    have hlen : hr.length ≤ 6 := by rw [htg.len]; exact lf
    refine ⟨_, eg_tup (egs_cons eg_name (egs_cons eg_name egs_nil)) rfl, ?_⟩
    refine bd_then (bd_if (et_or (et_test ((ed_notInE (e := some q.1) (es := fs.map some) (ed_var rfl) ((ed_fld (t := fsT fs) KC T.n_Kind_row (ed_var (t := kT T.Kind.C fs cs) rfl) rfl).to efs)).to (congrArg (fun z => FK.T.bl (!z)) (mem_someB q.1 fs)))) (fun z => et_or (c := decide (numAt hr (some q.1) = q.2)) (et_not (b := true) (et_val (ed_call (ea_one (ed_var rfl)) ⟨q.2, rfl, rfl⟩))) (fun _ => et_test (ed_eqI (ed_ixDO (j := 0) (l := false) (kvs := tL hr) (ed_var rfl) (ed_var rfl) rfl (htg.th.look (by simpa using z))) (ed_var rfl))))) (fun z => bd_ret ed_bl (congrArg FK.T.bl (led_false hrun ?_).symm)) (fun z => bd_next ?_))
    · unfold goB
      cases h1 : decide (q.1 ∈ fs) <;> cases h2 : decide (numAt hr (some q.1) = q.2) <;> simp [h1, h2] at z ⊢
    · have z1 : decide (q.1 ∈ fs) = true := by cases h1 : decide (q.1 ∈ fs) <;> simp [h1] at z ⊢
      have z2 : decide (numAt hr (some q.1) = q.2) = false := by cases h2 : decide (numAt hr (some q.1) = q.2) <;> simp [z1, h2] at z ⊢
      have hx : q.1 ∈ fs := of_decide_eq_true z1
      refine bd_then (bd_if (et_not (et_test (ed_chain (b := decide (loN a b q.1 ≤ q.2)) (c := decide (q.2 ≤ hiN a b q.1)) (ed_min2 (ea_cons (ed_ixD (kvs := tL a) (ed_var rfl) (ed_var rfl) (ha.th.look hx)) (ea_one (ed_ixD (kvs := tL b) (ed_var rfl) (ed_var rfl) (hb.look hx))))) (ed_var rfl) (rt_I0 fun _ => .bl _) (fun _ => ed_max2 (ea_cons (ed_ixD (kvs := tL a) (ed_var rfl) (ed_var rfl) (ha.th.look hx)) (ea_one (ed_ixD (kvs := tL b) (ed_var rfl) (ed_var rfl) (hb.look hx))))) (fun _ => rt_I0 fun _ => .bl _)))) (fun y => bd_ret ed_bl (congrArg FK.T.bl (led_false hrun ?_).symm)) (fun y => bd_next ?_))
      · unfold goB
        have y : (decide (loN a b q.1 ≤ q.2) && decide (q.2 ≤ hiN a b q.1)) = false := (Bool.not_eq_true' _).mp y
        rw [y]; simp
      · have y : (decide (loN a b q.1 ≤ q.2) && decide (q.2 ≤ hiN a b q.1)) = true := by cases h3 : (decide (loN a b q.1 ≤ q.2) && decide (q.2 ≤ hiN a b q.1)) <;> simp [h3] at y ⊢
        refine bd_then (bd_putD (j := 0) (l := false) (kvs := tL hr) (ed_var rfl) (ed_var rfl) (ed_var rfl) rfl (by unfold tL; rw [List.length_map]; omega) ?_)
        rw [put_tL]
        have htg2 := htg.put hx q.2
        have hgo : goB fs cs (loN a b) (hiN a b) hr q.1 q.2 = (fw cs (putA hr q.1 q.2)).isNone := by unfold goB; rw [z1, z2, y]; rfl
        refine bd_if (et_test (ed_notN (ed_callB (js := [0]) (bs := [⟨false, h, .dic (tL (putA hr q.1 q.2))⟩]) (ts := [csT cs, .val (.ref h)]) (ts' := [csT cs, tT (putA hr q.1 q.2)]) (t := oT (fw cs (putA hr q.1 q.2))) (ea_cons (ed_fld KC T.n_Kind_rules (ed_var (t := kT T.Kind.C fs cs) rfl) rfl) (ea_one (ed_var rfl))) (Lent.one rfl) (fun G ho => ⟨.inl rfl, .inr ⟨_, rfl, own_tr (o := .dic (tL (putA hr q.1 q.2))) (ho _ (List.mem_singleton.mpr rfl))⟩, trivial⟩) ⟨cs, putA hr q.1 q.2, rfl, fun c hc' => ⟨htg2.th.has (hc.ends c hc').1, htg2.th.has (hc.ends c hc').2.1⟩, rfl⟩ (by cases fw cs (putA hr q.1 q.2) <;> rfl)))) (fun v => bd_ret ed_bl (congrArg FK.T.bl (led_false hrun ?_).symm)) (fun v => bd_next ⟨putA hr q.1 q.2, _, _, led_next hrun ?_, htg2, rfl⟩)
        · rw [hgo]
          cases e : fw cs (putA hr q.1 q.2) with
          | none => rw [e] at v; cases v
          | some k => rfl
        · rw [hgo]
          cases e : fw cs (putA hr q.1 q.2) with
          | none => rfl
          | some k => rw [e] at v; cases v
  · rintro Γ' ⟨hr, x5, x6, hrun, htg, rfl⟩
    rw [List.length_map, List.drop_length] at hrun
    exact ⟨hr, _, _, hrun.symm, rfl⟩
  · rintro Γ' ⟨hr, x5, x6, hrun, rfl⟩
    refine bd_ret (ed_eqTh (a := hr) (b := b) (ed_frz (j := 0) (o := .dic (tL hr)) (ed_var rfl) rfl) (ed_var rfl)) ?_
    unfold ledB
    rw [hrun]
def boundB (fs : List Str) (cs : List Chk) (a b : Thing) (f : Str) (ns : List Int) : Bool := (decide (f ∈ fs) && !decide (numAt a (some f) = numAt b (some f))) && ((ringB cs ns && decide (sumI cs ns = 0)) && ns.any fun i => decide ((ckAt cs i).1 = some f))
theorem ring_in {cs : List Chk} {ns : List Int} (h : ringB cs ns = true) : ∀ i ∈ ns, inR cs.length i = true := (leads_in ((Bool.and_eq_true _ _).mp h).1).2
def R_Bound_shows (T : Tx K mg) (ts : List FK.T) (t : FK.T) : Prop := ∃ C D fs cs a b f ns, ts = [.obj D (boFs f ns), kT C fs cs, tT a, tT b] ∧ C = T.Kind.C ∧ D = T.Bound.C ∧ Fld fs ∧ Cks fs cs ∧ IsTh fs a ∧ IsTh fs b ∧ ns.length ≤ 10000 ∧ t = .bl (boundB fs cs a b f ns)
set_option maxHeartbeats 8000000 in
theorem ok_Bound_shows (T : Tx K mg) : FnOk P w K mg base CX0 4 T.Bound_shows.f T.Bound_shows.fd ["self", "kind", "thing", "there"] (spT P w (R_Bound_shows T)) := by
  refine T.Bound_shows.F.ok sc_Bound_shows (len_T fun ts t h => by unfold R_Bound_shows at h; obtain ⟨_, _, _, _, _, _, _, _, rfl, _⟩ := h; rfl) (fun cdv A outer s H vs Q E hr h => ⟨_, (pss_cons (ps_if (PW.pt (pw_or (pt_cmpR (op_notInA (hu_of hr)) (pe_fld (pv 0) rfl) (pe_fld (pv 1) rfl) (by rfl)) (pw_or1 (pt_cmpR (op_eqA hr.units) (pe_ix (ix_any (hu_of hr)) (pv 2) (pe_fld (pv 0) rfl) (fun _ _ => rfl)) (pe_ix (ix_any (hu_of hr)) (pv 3) (pe_fld (pv 0) rfl) (fun _ _ => rfl)) (nomark _))))) (pss_one (ps_ret pe_bl)) pss_nil) (pss_cons (ps_if (PW.pt (pw_or (pt_not (pt_val (pe_call (ok_is_ring (P := P) (w := w) (base := base) T) (hr.mono (by decide)) (by rfl) T.is_ring.g T.is_ring.F.kp T.is_ring.b .nil pass0 (pa_cons (pe_fld (pv 1) rfl) (pa_cons (pe_fld (pv 0) rfl) pa_nil))))) (pw_or1 (pt_cmpR (op_neA hr.units) (pe_call (ok_sum_of (P := P) (w := w) (base := base) T) (hr.mono (by decide)) (by rfl) T.sum_of.g T.sum_of.F.kp T.sum_of.b .nil pass0 (pa_cons (pe_fld (pv 1) rfl) (pa_cons (pe_fld (pv 0) rfl) pa_nil))) pe_int (nomark _))))) (pss_one (ps_ret pe_bl)) pss_nil) (pss_one (ps_ret (pe_callB (cr_any rfl) (by rfl) T.b_any (by decide +kernel) (pa_cons (pe_lc (own := [("at", 4)]) rfl (sc_Bound_shows).nd (pi_list (pe_fld (pv 0) rfl)) (blkOk_by (N := n_Bound_shows) (sc := defScope s_Bound_shows) (by decide +kernel)) (fun _ _ _ _ _ => (gn 4 (sc_Bound_shows).nd)) (fun _ _ _ _ _ => pts_nil) (fun _ _ _ _ _ => (pe_cmpR (show OpR _ _ (rEqA K) from (op_eqA hr.units)) (pe_ix (show IxR _ (rIxA P w K) from (ix_any (hu_of hr))) (pe_ix (show IxR _ (rIxA P w K) from (ix_any (hu_of hr))) (show PE _ _ (tFld K _ _) from (pe_fld (pv 1) rfl)) (pv 4) (fun _ _ => rfl)) pe_int (fun _ _ => rfl)) (show PE _ _ (tFld K _ _) from (pe_fld (pv 0) rfl)) (nomark _)))) pa_nil)))))), run_T (N := n_Bound_shows) h ?_⟩)
  rintro ts r ⟨C, D, fs, cs, a, b, f, ns, rfl, rfl, rfl, hf, hc, ha, hb, hl, rfl⟩
  have BC := T.Bound.cl
  have KC := T.Kind.cl
  have efs : fsT fs = .lst ((fs.map some).map eT) := by rw [List.map_map]; rfl
  refine bd_then (bd_if (et_or (et_test ((ed_notInE (e := some f) (es := fs.map some) (ed_fld (t := .str f) BC T.n_Bound_field (ed_var (t := .obj T.Bound.C (boFs f ns)) rfl) rfl) ((ed_fld (t := fsT fs) KC T.n_Kind_row (ed_var (t := kT T.Kind.C fs cs) rfl) rfl).to efs)).to (congrArg (fun z => FK.T.bl (!z)) (mem_someB f fs)))) (fun z => et_test (ed_eqI (ed_ixD (kvs := tL a) (ed_var rfl) (ed_fld (t := .str f) BC T.n_Bound_field (ed_var (t := .obj T.Bound.C (boFs f ns)) rfl) rfl) (ha.look (by simpa using z))) (ed_ixD (kvs := tL b) (ed_var rfl) (ed_fld (t := .str f) BC T.n_Bound_field (ed_var (t := .obj T.Bound.C (boFs f ns)) rfl) rfl) (hb.look (by simpa using z)))))) (fun z => bd_ret ed_bl (congrArg FK.T.bl ?_)) (fun z => bd_next ?_))
  · unfold boundB
    cases h1 : decide (f ∈ fs) <;> cases h2 : decide (numAt a (some f) = numAt b (some f)) <;> simp [h1, h2] at z ⊢
  · have z1 : (decide (f ∈ fs) && !decide (numAt a (some f) = numAt b (some f))) = true := by cases h1 : decide (f ∈ fs) <;> cases h2 : decide (numAt a (some f) = numAt b (some f)) <;> simp [h1, h2] at z ⊢
    unfold boundB
    rw [z1, Bool.true_and]
    refine bd_then (bd_if (et_or (et_not (et_val (ed_call (ea_cons (ed_fld (t := csT cs) KC T.n_Kind_rules (ed_var (t := kT T.Kind.C fs cs) rfl) rfl) (ea_one (ed_fld (t := intsT ns) BC T.n_Bound_counts (ed_var (t := .obj T.Bound.C (boFs f ns)) rfl) rfl))) ⟨cs, ns, rfl, hl, rfl⟩))) (fun y => et_test (ed_neI (ed_call (ea_cons (ed_fld (t := csT cs) KC T.n_Kind_rules (ed_var (t := kT T.Kind.C fs cs) rfl) rfl) (ea_one (ed_fld (t := intsT ns) BC T.n_Bound_counts (ed_var (t := .obj T.Bound.C (boFs f ns)) rfl) rfl))) ⟨cs, ns, rfl, hl, ring_in (by simpa using y), rfl⟩) ed_int))) (fun y => bd_ret ed_bl (congrArg FK.T.bl ?_)) (fun y => bd_next ?_))
    · cases h1 : ringB cs ns <;> cases h2 : decide (sumI cs ns = 0) <;> simp [h1, h2] at y ⊢
    · have y1 : (ringB cs ns && decide (sumI cs ns = 0)) = true := by cases h1 : ringB cs ns <;> cases h2 : decide (sumI cs ns = 0) <;> simp [h1, h2] at y ⊢
      rw [y1, Bool.true_and]
      have hin := ring_in ((Bool.and_eq_true _ _).mp y1).1
      exact bd_ret (ed_anyL (g := FK.T.int) (xs := ns) (fun i => decide ((ckAt cs i).1 = some f)) (ed_fld (t := intsT ns) BC T.n_Bound_counts (ed_var (t := .obj T.Bound.C (boFs f ns)) rfl) rfl) (by omega) rfl (fun i hi => ⟨_, _, ev_name (by simp), ed_eqE (a := (ckAt cs i).1) (b := some f) (ed_ixT (ed_ixL (ts := cs.map cT) (ed_fld (t := csT cs) KC T.n_Kind_rules (ed_var (t := kT T.Kind.C fs cs) rfl) rfl) (ed_var rfl) (atI_map (g := cT) (atI_ck (hin i hi)))) ed_int rfl) (ed_fld (t := .str f) BC T.n_Bound_field (ed_var (t := .obj T.Bound.C (boFs f ns)) rfl) rfl), rfl⟩)) rfl
end
end FK
set_option maxHeartbeats 8000000
namespace FK
open PySem L2
section
variable {P : Program} {w : World} {K : PySem.W.Frag} {mg : Str → Option Value} {base : Heap}
def R__law_cell_at (K : PySem.W.Frag) (ts : List FK.T) (t : FK.T) : Prop := ∃ a ns k, ts = [scT K a ns, .int k] ∧ 0 ≤ k ∧ t = .int (cellV ns k)
set_option maxHeartbeats 8000000 in
theorem ok__law_cell_at (T : Tx K mg) : FnOk P w K mg base CX0 1 T._law_cell_at.f T._law_cell_at.fd ["_law_script", "_law_k"] (spT P w (R__law_cell_at K)) := by
  refine T._law_cell_at.F.ok sc__law_cell_at (len_T fun ts t h => by unfold R__law_cell_at at h; obtain ⟨_, _, _, rfl, _⟩ := h; rfl) (fun cdv A outer s H vs Q E hr h => ⟨_, (pss_cons (ps_if (pt_cmpR op_lt (pv 1) (pe_callB call_lenA (by rfl) T.b_len (by decide +kernel) (pa_cons (pv 0) pa_nil)) (nomark _)) (pss_one (ps_ret (pe_ix (ix_any (hu_of hr)) (pv 0) (pv 1) (fun _ _ => rfl)))) pss_nil) (pss_one (ps_ret pe_int))), run_T (N := n__law_cell_at) h ?_⟩)
  rintro ts r ⟨a, ns, k, rfl, hk, rfl⟩
  refine bd_then (bd_if (et_test (ed_lt (ed_var rfl) (ed_lenQ (a := a) (ns := ns) (ed_var rfl)))) (fun q => ?_) (fun q => bd_next (bd_ret ed_int ?_)))
  · have q := of_decide_eq_true q
    have hl : k.toNat < ns.length := by omega
    refine bd_ret (ed_ixQ (a := a) (ns := ns) (n := cellV ns k) (ed_var rfl) (ed_var rfl) ?_) rfl
    unfold atI ixN cellV
    rw [if_pos hk, if_pos q]
    show ns[k.toNat]? = _
    rw [List.getElem?_eq_getElem hl]
    rfl
  · have q := of_decide_eq_false q
    unfold cellV
    rw [List.getElem?_eq_none (by omega)]
    rfl
def R__law_draw (ts : List FK.T) (t : FK.T) : Prop := ∃ c k m, ts = [.int c, .int k, .int m] ∧ 0 < m ∧ t = .int (drawV c k m)
set_option maxHeartbeats 8000000 in
theorem ok__law_draw (T : Tx K mg) : FnOk P w K mg base CX0 1 T._law_draw.f T._law_draw.fd ["_law_cell", "_law_k", "_law_most"] (spT P w (R__law_draw)) := by
  refine T._law_draw.F.ok sc__law_draw (len_T fun ts t h => by unfold R__law_draw at h; obtain ⟨_, _, _, rfl, _⟩ := h; rfl) (fun cdv A outer s H vs Q E hr h => ⟨_, (pss_cons (ps_asg (pe_tup (pa_cons pe_int (pa_cons pe_int (pa_cons pe_int (pa_cons pe_int (pa_cons pe_int (pa_cons pe_int (pa_cons pe_int (pa_cons pe_int (pa_cons pe_int (pa_cons pe_int (pa_cons pe_int (pa_cons pe_int (pa_cons pe_int (pa_cons pe_int (pa_cons pe_int (pa_cons pe_int pa_nil))))))))))))))))) (gn 3 (sc__law_draw).nd)) (pss_one (ps_ret (pe_op op_mod (pe_op op_mod (pe_op op_addA (pe_op op_mulA (pv 0) pe_int) (pe_op op_mulA (pv 1) pe_int)) (pe_ix (ix_any (hu_of hr)) (pv 3) (pe_op op_mod (pv 1) pe_int) (fun _ _ => rfl))) (pv 2))))), run_T (N := n__law_draw) h ?_⟩)
  rintro ts r ⟨c, k, m, rfl, hm, rfl⟩
  refine bd_then (bd_asg (t := .tup (primes.map FK.T.int)) (ed_tup (ea_cons ed_int (ea_cons ed_int (ea_cons ed_int (ea_cons ed_int (ea_cons ed_int (ea_cons ed_int (ea_cons ed_int (ea_cons ed_int (ea_cons ed_int (ea_cons ed_int (ea_cons ed_int (ea_cons ed_int (ea_cons ed_int (ea_cons ed_int (ea_cons ed_int (ea_cons ed_int ea_nil)))))))))))))))) (by decide)) eg_name ?_)
  exact bd_ret (ed_mod (ed_mod (ed_add (ed_mul (ed_var rfl) ed_int (.inr (by decide))) (ed_mul (ed_var rfl) ed_int (.inr (by decide)))) (ed_ixT (ts := primes.map FK.T.int) (ed_var rfl) (ed_mod (ed_var rfl) ed_int (by decide)) (atI_map (g := FK.T.int) (prime_at k).1)) (prime_at k).2) (ed_var rfl) hm) rfl
def R__law_number (ts : List FK.T) (t : FK.T) : Prop := ∃ c k m, ts = [.int c, .int k, .int m] ∧ 0 ≤ k ∧ k ≤ 100 ∧ 0 < m ∧ t = .int (numV c k m)
set_option maxHeartbeats 8000000 in
theorem ok__law_number (T : Tx K mg) : FnOk P w K mg base CX0 2 T._law_number.f T._law_number.fd ["_law_cell", "_law_k", "_law_limit"] (spT P w (R__law_number)) := by
  refine T._law_number.F.ok sc__law_number (len_T fun ts t h => by unfold R__law_number at h; obtain ⟨_, _, _, rfl, _⟩ := h; rfl) (fun cdv A outer s H vs Q E hr h => ⟨_, (pss_cons (ps_asg (pe_op op_sub (pv 0) (pe_op op_pow pe_int pe_int)) (gn 3 (sc__law_number).nd)) (pss_cons (ps_for PassesOwn.never rfl (pi_range1 (by rfl) T.b_range (pa_cons (pe_op op_mod (pv 1) pe_int) pa_nil)) (gn 4 (sc__law_number).nd) (pss_one (ps_asg (pe_op op_fdiv (pv 3) pe_int) (gn 3 (sc__law_number).nd)))) (pss_cons (ps_if (pt_cmpR op_gt (pv 3) pe_int (nomark _)) (pss_one (ps_ret (pe_op op_mod (pe_op op_mod (pv 3) pe_int) (pv 2)))) pss_nil) (pss_cons (ps_asg (pe_op op_mod (pv 0) pe_int) (gn 5 (sc__law_number).nd)) (pss_one (ps_ret (pe_op op_mod (pe_call (ok__law_draw (P := P) (w := w) (base := base) T) (hr.mono (by decide)) (by rfl) T._law_draw.g T._law_draw.F.kp T._law_draw.b .nil pass0 (pa_cons (pe_op op_mulA (pe_op op_addA (pv 5) (pe_op op_mulA pe_int (pv 1))) (pe_op op_addA (pe_op op_addA (pv 5) (pe_op op_mulA pe_int (pv 1))) pe_int)) (pa_cons (pe_op op_addA (pe_op op_mod (pv 1) pe_int) pe_int) (pa_cons pe_int pa_nil)))) (pv 2)))))))), run_T (N := n__law_number) h ?_⟩)
  rintro ts r ⟨c, k, m, rfl, hk, hk2, hm, rfl⟩
  have m24 := Int.emod_nonneg k (show (24 : Int) ≠ 0 by decide)
  have m24' := Int.emod_lt_of_pos k (show (0 : Int) < 24 by decide)
  have ms := Int.emod_nonneg c (show (1000003 : Int) ≠ 0 by decide)
  have ms' := Int.emod_lt_of_pos c (show (0 : Int) < 1000003 by decide)
  refine bd_then (bd_asg (ed_sub (ed_var rfl) (ed_pow ed_int ed_int ⟨by decide, by decide, by decide⟩)) eg_name ?_)
  refine bd_then (bd_range (fun i Γ' => ∃ x y, Γ' = ⟨[some (.int c), some (.int k), some (.int m), some (.int (restV c i)), x, y], []⟩) (ea_one (ed_mod (ed_var rfl) ed_int (by decide))) m24 (by omega) ⟨_, _, rfl⟩ (fun i Γ' hi ⟨x, y, e⟩ => ?_) (fun Γ' ⟨x, y, e⟩ => ?_))
  · subst e
    exact ⟨_, eg_name, bd_asg (ed_fdiv (ed_var rfl) ed_int ⟨by decide, by decide⟩) eg_name ⟨_, _, rfl⟩⟩
  · subst e
    refine bd_then (bd_if (et_test (ed_gt (ed_var rfl) ed_int)) (fun q => bd_ret (ed_mod (ed_mod (ed_var rfl) ed_int (by decide)) (ed_var rfl) hm) ?_) (fun q => bd_next ?_))
    · have q := of_decide_eq_true q
      unfold numV
      rw [if_pos q]
    · have q := of_decide_eq_false q
      refine bd_then (bd_asg (ed_mod (ed_var rfl) ed_int (by decide)) eg_name ?_)
      refine bd_ret (ed_mod (ed_call (ea_cons (ed_mul (ed_add (ed_var rfl) (ed_mul ed_int (ed_var rfl) (.inl (by decide)))) (ed_add (ed_add (ed_var rfl) (ed_mul ed_int (ed_var rfl) (.inl (by decide)))) ed_int) (.inl ⟨by omega, by omega⟩)) (ea_cons (ed_add (ed_mod (ed_var rfl) ed_int (by decide)) ed_int) (ea_cons ed_int ea_nil))) ⟨_, _, _, rfl, by decide, rfl⟩) (ed_var rfl) hm) ?_
      unfold numV
      rw [if_neg q]
def R__law_next (K : PySem.W.Frag) (gs : List AO) (ts : List FK.T) (t : FK.T) (gs' : List AO) : Prop := ∃ s a ns b k m, gs = [(s, stO K a ns b k)] ∧ ts = [.val (.ref s), .int m] ∧ 0 ≤ b ∧ 0 ≤ k ∧ 0 < m ∧ t = .int (nextV ns b k m) ∧ gs' = [(s, stO K a ns b (k + 1))]
set_option maxHeartbeats 8000000 in
theorem ok__law_next (T : Tx K mg) : FnOk P w K mg base CX0 3 T._law_next.f T._law_next.fd ["_law_state", "_law_limit"] (spM P w (R__law_next K)) := by
  refine T._law_next.F.ok sc__law_next (len_M fun gs ts t gs' h => by unfold R__law_next at h; obtain ⟨_, _, _, _, _, _, rfl, rfl, _⟩ := h; rfl) (fun cdv A outer s H vs Q E hr h => ⟨_, (pss_cons (ps_asg (pe_op op_addA (pe_ix (ix_any (hu_of hr)) (pv 0) pe_int (fun _ _ => rfl)) pe_int) (pg_sub (pv 0) pe_int (set_any (hu_of hr)))) (pss_cons (ps_asg (pe_op op_fdiv (pe_ix (ix_any (hu_of hr)) (pv 0) pe_int (fun _ _ => rfl)) pe_int) (gn 2 (sc__law_next).nd)) (pss_cons (ps_asg (pe_op op_addA (pe_call (ok__law_cell_at (P := P) (w := w) (base := base) T) (hr.mono (by decide)) (by rfl) T._law_cell_at.g T._law_cell_at.F.kp T._law_cell_at.b .nil pass0 (pa_cons (pe_ix (ix_any (hu_of hr)) (pv 0) pe_int (fun _ _ => rfl)) (pa_cons (pe_op op_addA (pe_ix (ix_any (hu_of hr)) (pv 0) pe_int (fun _ _ => rfl)) (pv 2)) pa_nil))) (pe_op op_mulA pe_int (pv 2))) (gn 3 (sc__law_next).nd)) (pss_one (ps_ret (pe_call (ok__law_number (P := P) (w := w) (base := base) T) (hr.mono (by decide)) (by rfl) T._law_number.g T._law_number.F.kp T._law_number.b .nil pass0 (pa_cons (pv 3) (pa_cons (pe_op op_addA (pe_op op_mod (pe_ix (ix_any (hu_of hr)) (pv 0) pe_int (fun _ _ => rfl)) pe_int) pe_int) (pa_cons (pv 1) pa_nil))))))))), run_M (N := n__law_next) h ?_⟩)
  rintro gs ts r gs' ⟨s, a, ns, b, k, m, rfl, rfl, hb, hk, hm, rfl, rfl⟩
  have d0 : 0 ≤ (k + 1) / 12 := Int.ediv_nonneg (by omega) (by decide)
  have m0 := Int.emod_nonneg (k + 1) (show (12 : Int) ≠ 0 by decide)
  have m1 := Int.emod_lt_of_pos (k + 1) (show (0 : Int) < 12 by decide)
  refine bd_then (bd_setL (j := 0) (l := true) (k := 2) (ed_add (ed_ixLO (j := 0) (l := true) (ts := [scT K a ns, .int b, .int k]) (ed_var rfl) ed_int rfl rfl) ed_int) (ed_var rfl) ed_int rfl rfl ?_)
  refine bd_then (bd_asg (ed_fdiv (ed_ixLO (j := 0) (l := true) (ts := [scT K a ns, .int b, .int (k + 1)]) (ed_var rfl) ed_int rfl rfl) ed_int ⟨by decide, by decide⟩) eg_name ?_)
  refine bd_then (bd_asg (ed_add (ed_call (ea_cons (ed_ixLO (j := 0) (l := true) (ts := [scT K a ns, .int b, .int (k + 1)]) (ed_var rfl) ed_int rfl rfl) (ea_cons (ed_add (ed_ixLO (j := 0) (l := true) (ts := [scT K a ns, .int b, .int (k + 1)]) (ed_var rfl) ed_int rfl rfl) (ed_var rfl)) ea_nil)) ⟨a, ns, _, rfl, by omega, rfl⟩) (ed_mul ed_int (ed_var rfl) (.inl (by decide)))) eg_name ?_)
  exact bd_ret (ed_call (ea_cons (ed_var rfl) (ea_cons (ed_add (ed_mod (ed_ixLO (j := 0) (l := true) (ts := [scT K a ns, .int b, .int (k + 1)]) (ed_var rfl) ed_int rfl rfl) ed_int (by decide)) ed_int) (ea_cons (ed_var rfl) ea_nil))) ⟨_, _, _, rfl, by omega, by omega, hm, rfl⟩) ⟨rfl, [], rfl⟩
end
end FK
set_option maxHeartbeats 8000000
namespace FK
open PySem L2
section
variable {P : Program} {w : World} {K : PySem.W.Frag} {mg : Str → Option Value} {base : Heap}
def six : List Str := ["name", "at", "low", "high", "checks", "z"]
theorem map_era {α β : Type} (f : α → β) : ∀ (xs : List α) (i : Nat), (xs.eraseIdx i).map f = (xs.map f).eraseIdx i
  | [], _ => rfl
  | _ :: _, 0 => rfl
  | x :: xs, i + 1 => by
    rw [List.eraseIdx_cons_succ, List.map_cons, List.map_cons, List.eraseIdx_cons_succ, map_era f xs i]
theorem get_era_perm {α : Type} : ∀ (xs : List α) (i : Nat) (h : i < xs.length), (xs[i] :: xs.eraseIdx i).Perm xs
  | x :: xs, 0, _ => List.Perm.refl _
  | x :: xs, i + 1, h => (List.Perm.swap x (xs[i]'(by simpa using h)) _).trans (List.Perm.cons x (get_era_perm xs i (by simpa using h)))
theorem six_names : ∀ x ∈ six, nameB x = true := by decide
theorem six_nd : six.Nodup := by decide
def R__law_fields (K : PySem.W.Frag) (gs : List AO) (ts : List FK.T) (Φ : FK.T → List AO → Prop) : Prop := ∃ s a ns b k, gs = [(s, stO K a ns b k)] ∧ ts = [.val (.ref s)] ∧ 0 ≤ b ∧ 0 ≤ k ∧
  Φ = fun t gs' => ∃ fs k', t = fsT fs ∧ Fld fs ∧ (∀ x ∈ fs, x ∈ six) ∧ 0 ≤ k' ∧ gs' = [(s, stO K a ns b k')]
set_option maxHeartbeats 8000000 in
theorem ok__law_fields (T : Tx K mg) : FnOk P w K mg base CX0 4 T._law_fields.f T._law_fields.fd ["_law_state"] (spG P w (R__law_fields K)) := by
  refine T._law_fields.F.ok sc__law_fields (len_G fun gs ts Φ h => by unfold R__law_fields at h; obtain ⟨_, _, _, _, _, rfl, rfl, _⟩ := h; rfl) (fun cdv A outer s H vs Q E hr h => ⟨_, (pss_cons (ps_asg (pe_lst (pa_cons pe_str (pa_cons pe_str (pa_cons pe_str (pa_cons pe_str (pa_cons pe_str (pa_cons pe_str pa_nil))))))) (gn 1 (sc__law_fields).nd)) (pss_cons (ps_par (i := 2) (j := 3) rfl (sc__law_fields).nd rfl rfl (by decide) rfl rfl (pa_cons (pe_op op_addA pe_int (pe_call (ok__law_next (P := P) (w := w) (base := base) T) (hr.mono (by decide)) (by rfl) T._law_next.g T._law_next.F.kp T._law_next.b .nil pass0 (pa_cons (pv 0) (pa_cons pe_int pa_nil)))) (pa_cons (pe_lst pa_nil) pa_nil)) (by rfl)) (pss_cons (ps_for PassesOwn.never rfl (pi_range1 (by rfl) T.b_range (pa_cons (pv 2) pa_nil)) (gn 4 (sc__law_fields).nd) (pss_one (ps_expr (pe_bm PySem.F.plainAttrs_list PySem.F.slot_list_append PySem.F.type_list_append mt_append (pv 3) (pa_cons (pe_bm PySem.F.plainAttrs_list PySem.F.slot_list_pop PySem.F.type_list_pop mt_popAt (pv 1) (pa_cons (pe_call (ok__law_next (P := P) (w := w) (base := base) T) (hr.mono (by decide)) (by rfl) T._law_next.g T._law_next.F.kp T._law_next.b .nil pass0 (pa_cons (pv 0) (pa_cons (pe_callB call_lenA (by rfl) T.b_len (by decide +kernel) (pa_cons (pv 1) pa_nil)) pa_nil))) pa_nil)) pa_nil))))) (pss_one (ps_ret (pv 3)))))), run_G (N := n__law_fields) h ?_⟩)
  rintro gs ts Φ ⟨s, a, ns, b, k, rfl, rfl, hb, hk, rfl⟩
  have h6 := next_in ns b k (show (0 : Int) < 6 by decide)
  refine bd_then (bd_asgN (o := .lst (six.map FK.T.str)) (en_lst (ea_cons ed_str (ea_cons ed_str (ea_cons ed_str (ea_cons ed_str (ea_cons ed_str (ea_cons ed_str ea_nil)))))) (by decide)) fun a1 => ?_)
  refine bd_then (bd_parX (xa_cons (ex_ed (ed_add ed_int (ed_callM (js := [0]) [⟨true, s, stO K a ns b (k + 1)⟩] (ea_cons (ed_var rfl) (ea_one ed_int)) (by decide) (Lent.one rfl) rfl ⟨s, a, ns, b, k, 6, rfl, rfl, hb, hk, by decide, rfl, rfl⟩)) (xa_cons (ex_en (en_lst ea_nil (by decide)) fun a2 => xa_nil ⟨_, _, rfl, ?_⟩)))))
  refine bd_then (bd_range (fun i Γ' => ∃ names found k' x, (found ++ names).Perm six ∧ found.length = i ∧ 0 ≤ k' ∧ Γ' = ⟨[some (.val (.ref s)), some (.val (.ref a1)), some (.int (1 + nextV ns b k 6)), some (.val (.ref a2)), x], [⟨true, s, stO K a ns b k'⟩, ⟨false, a1, .lst (names.map FK.T.str)⟩, ⟨false, a2, .lst (found.map FK.T.str)⟩]⟩)
    (ea_one (ed_var rfl)) (by omega) (by omega) ⟨six, [], k + 1, _, List.Perm.refl _, rfl, by omega, rfl⟩ ?_ ?_)
  · rintro i Γ' hi ⟨names, found, k', x, hp, hl, hk', rfl⟩
    have hlen := hp.length_eq
    rw [List.length_append] at hlen
    have h6l : six.length = 6 := rfl
    have hnl : 0 < names.length := by omega
    have hn := next_in ns b k' (m := ((names.map FK.T.str).length : Nat)) (by rw [List.length_map]; omega)
    rw [List.length_map] at hn
    have hlt : (nextV ns b k' (names.length : Nat)).toNat < names.length := by omega
    refine ⟨_, eg_name, ?_⟩
    refine bd_append (j := 2) (l := false) (ts := found.map FK.T.str) (ed_var rfl) rfl (ed_popAt (j := 1) (l := false) (t := .str names[(nextV ns b k' (names.length : Nat)).toNat]) (k := (nextV ns b k' (names.length : Nat)).toNat) (ts1 := names.map FK.T.str) (ed_var rfl) rfl
      (ed_callM (js := [0]) [⟨true, s, stO K a ns b (k' + 1)⟩] (ea_cons (ed_var rfl) (ea_one (ed_lenLO (j := 1) (l := false) (ts := names.map FK.T.str) (ea_one (ed_var rfl)) rfl))) (by decide) (Lent.one rfl) rfl ⟨s, a, ns, b, k', _, rfl, rfl, hb, hk', by rw [List.length_map]; omega, rfl, rfl⟩) rfl (by rw [List.length_map]; omega) (by rw [List.length_map]) (by rw [List.getElem?_map, List.getElem?_eq_getElem hlt]; rfl) (by rw [List.length_map]; omega)) rfl (by rw [List.length_map]; omega) ?_
    refine ⟨names.eraseIdx (nextV ns b k' (names.length : Nat)).toNat, found ++ [names[(nextV ns b k' (names.length : Nat)).toNat]], k' + 1, some (.int (i : Nat)), ?_, by simp [hl], by omega, ?_⟩
    · refine List.Perm.trans ?_ hp
      rw [List.append_assoc]
      refine List.Perm.append_left _ ?_
      exact get_era_perm names _ hlt
    · rw [map_era, List.map_append]
      rfl
  · rintro Γ' ⟨names, found, k', x, hp, hl, hk', rfl⟩
    have nd : (found ++ names).Nodup := hp.nodup_iff.mpr six_nd
    have mem : ∀ y ∈ found, y ∈ six := fun y hy => hp.mem_iff.mp (List.mem_append_left _ hy)
    refine bd_ret (ed_frz (j := 2) (ed_var rfl) rfl) ⟨[(s, stO K a ns b k')], [(a1, .lst (names.map FK.T.str))], rfl, found, k', rfl, ⟨by omega, by omega, (List.nodup_append.mp nd).1, fun y hy => six_names y (mem y hy)⟩, mem, hk', rfl⟩
theorem thg_snd (ns : List Int) (b far : Int) : ∀ (fs : List Str) (s : Thing × Int), (fs.foldl (thgStep ns b far) s).2 = s.2 + (fs.length : Nat) ∧ (fs.foldl (thgStep ns b far) s).1.length ≤ s.1.length + fs.length
  | [], s => ⟨by simp, by simp⟩
  | x :: fs, s => by
    obtain ⟨h1, h2⟩ := thg_snd ns b far fs (thgStep ns b far s x)
    have h3 := putA_length_le s.1 x (nextV ns b s.2 (2 * far + 1) - far)
    refine ⟨?_, ?_⟩
    · rw [List.foldl_cons, h1]
      show s.2 + 1 + _ = _
      simp
      omega
    · rw [List.foldl_cons, List.length_cons]
      have h4 : (thgStep ns b far s x).1.length ≤ s.1.length + 1 := h3
      omega
def R__law_thing (K : PySem.W.Frag) (gs : List AO) (ts : List FK.T) (t : FK.T) (gs' : List AO) : Prop := ∃ s a ns b k fs far, gs = [(s, stO K a ns b k)] ∧ ts = [.val (.ref s), fsT fs, .int far] ∧ 0 ≤ b ∧ 0 ≤ k ∧ 0 ≤ far ∧ fs.length ≤ 1000 ∧ t = tT (thgV ns b k far fs).1 ∧ gs' = [(s, stO K a ns b (thgV ns b k far fs).2)]
set_option maxHeartbeats 8000000 in
theorem ok__law_thing (T : Tx K mg) : FnOk P w K mg base CX0 4 T._law_thing.f T._law_thing.fd ["_law_state", "_law_fields_here", "_law_far"] (spM P w (R__law_thing K)) := by
  refine T._law_thing.F.ok sc__law_thing (len_M fun gs ts t gs' h => by unfold R__law_thing at h; obtain ⟨_, _, _, _, _, _, _, rfl, rfl, _⟩ := h; rfl) (fun cdv A outer s H vs Q E hr h => ⟨_, (pss_cons (ps_asg pe_dnew (gn 3 (sc__law_thing).nd)) (pss_cons (ps_for PassesOwn.never rfl (pi_list (pv 1)) (gn 4 (sc__law_thing).nd) (pss_one (ps_asg (pe_op op_sub (pe_call (ok__law_next (P := P) (w := w) (base := base) T) (hr.mono (by decide)) (by rfl) T._law_next.g T._law_next.F.kp T._law_next.b .nil pass0 (pa_cons (pv 0) (pa_cons (pe_op op_addA (pe_op op_mulA pe_int (pv 2)) pe_int) pa_nil))) (pv 2)) (pg_sub (pv 3) (pv 4) (set_any (hu_of hr)))))) (pss_one (ps_ret (pv 3))))), run_M (N := n__law_thing) h ?_⟩)
  rintro gs ts r gs' ⟨s, a, ns, b, k, fs, far, rfl, rfl, hb, hk, hf, hl, rfl, rfl⟩
  refine bd_then (bd_asgN en_dnew fun d => ?_)
  refine bd_then (bd_foldLi (xs := fs) (g := FK.T.str) (fun q Γ' => ∃ x, Γ' = ⟨[some (.val (.ref s)), some (fsT fs), some (.int far), some (.val (.ref d)), x], [⟨true, s, stO K a ns b q.2⟩, ⟨false, d, .dic (tL q.1)⟩]⟩) (thgStep ns b far) ([], k) (ed_var rfl) ⟨_, rfl⟩ ?_ ?_)
  · rintro i hi Γ' ⟨x, rfl⟩
    refine ⟨_, eg_name, ?_⟩
    obtain ⟨h1, h2⟩ := thg_snd ns b far (fs.take i) ([], k)
    have h3 : (fs.take i).length ≤ 1000 := by rw [List.length_take]; omega
    generalize (fs.take i).foldl (thgStep ns b far) ([], k) = q at h1 h2 ⊢
    have hq : 0 ≤ q.2 := by rw [h1]; show 0 ≤ k + _; omega
    generalize fs[i] = y
    refine bd_putD (j := 1) (l := false) (kvs := tL q.1) (ed_sub (ed_callM (js := [0]) [⟨true, s, stO K a ns b (q.2 + 1)⟩] (ea_cons (ed_var rfl) (ea_one (ed_add (ed_mul ed_int (ed_var rfl) (.inl (by decide))) ed_int))) (by decide) (Lent.one rfl) rfl ⟨s, a, ns, b, q.2, _, rfl, rfl, hb, hq, by omega, rfl, rfl⟩) (ed_var rfl)) (ed_var rfl) (ed_var rfl) rfl (by unfold tL; rw [List.length_map]; simp at h2; omega) ⟨some (.str y), ?_⟩
    rw [put_tL]
    rfl
  · rintro Γ' ⟨x, rfl⟩
    exact bd_ret (ed_frz (j := 1) (ed_var rfl) rfl) ⟨rfl, [], rfl⟩
def R__law_at (ts : List FK.T) (t : FK.T) : Prop := ∃ th e, ts = [tT th, eT e] ∧ Has th e ∧ t = .int (numAt th e)
set_option maxHeartbeats 8000000 in
theorem ok__law_at (T : Tx K mg) : FnOk P w K mg base CX0 1 T._law_at.f T._law_at.fd ["_law_thing_here", "_law_end"] (spT P w (R__law_at)) := by
  refine T._law_at.F.ok sc__law_at (len_T fun ts t h => by unfold R__law_at at h; obtain ⟨_, _, rfl, _⟩ := h; rfl) (fun cdv A outer s H vs Q E hr h => ⟨_, (pss_one (ps_ret (pe_ifExp (pt_cmpR op_isA (pv 1) pe_non (nomark _)) pe_int (pe_ix (ix_any (hu_of hr)) (pv 0) (pv 1) (fun _ _ => rfl))))), run_T (N := n__law_at) h ?_⟩)
  rintro ts r ⟨th, e, rfl, hh, rfl⟩
  refine bd_ret (ed_ifp (et_test (ed_isN (ed_var (t := eT e) rfl))) (fun b => ?_) (fun b => ?_)) rfl
  · cases e with
    | none => exact ed_int
    | some x => cases b
  · cases e with
    | none => cases b
    | some x => exact ed_ixD (ed_var rfl) (ed_var rfl) (look_has hh)
end
end FK
set_option maxHeartbeats 8000000
namespace FK
open PySem L2
section
variable {P : Program} {w : World} {K : PySem.W.Frag} {mg : Str → Option Value} {base : Heap}
def thT : Option Thing → FK.T
  | none => .non
  | Option.some th => tT th
theorem atI_in {α : Type} {xs : List α} {i : Int} (h0 : 0 ≤ i) (h1 : i < (xs.length : Nat)) : ∃ x, atI xs i = Option.some x ∧ x ∈ xs := by
  unfold atI ixN
  rw [if_pos h0, if_pos h1]
  have hl : i.toNat < xs.length := by omega
  exact ⟨xs[i.toNat], List.getElem?_eq_getElem hl, List.getElem_mem hl⟩
def R__law_checks (K : PySem.W.Frag) (gs : List AO) (ts : List FK.T) (Φ : FK.T → List AO → Prop) : Prop := ∃ s a ns b k fs many th, gs = [(s, stO K a ns b k)] ∧ ts = [.val (.ref s), fsT fs, .int many, thT th] ∧ 0 ≤ b ∧ 0 ≤ k ∧ 0 ≤ many ∧ many ≤ 100 ∧ fs.length ≤ 6 ∧ (∀ t', th = Option.some t' → IsTh fs t') ∧
  Φ = fun t gs' => ∃ cs k', t = csT cs ∧ (cs.length : Int) ≤ many ∧ (∀ c ∈ cs, chkB fs c = true) ∧ (∀ t', th = Option.some t' → ∀ c ∈ cs, soB t' c = true) ∧ 0 ≤ k' ∧ gs' = [(s, stO K a ns b k')]
set_option maxHeartbeats 8000000 in
theorem ok__law_checks (T : Tx K mg) : FnOk P w K mg base CX0 4 T._law_checks.f T._law_checks.fd ["_law_state", "_law_fields_here", "_law_many", "_law_thing_here"] (spG P w (R__law_checks K)) := by
  refine T._law_checks.F.ok sc__law_checks (len_G fun gs ts Φ h => by unfold R__law_checks at h; obtain ⟨_, _, _, _, _, _, _, _, rfl, rfl, _⟩ := h; rfl) (fun cdv A outer s H vs Q E hr h => ⟨_, (pss_cons (ps_par (i := 4) (j := 5) rfl (sc__law_checks).nd rfl rfl (by decide) rfl rfl (pa_cons (pe_op op_addA (pv 1) (pe_lst (pa_cons pe_non pa_nil))) (pa_cons (pe_lst pa_nil) pa_nil)) (by rfl)) (pss_cons (ps_for PassesOwn.never rfl (pi_range1 (by rfl) T.b_range (pa_cons (pe_call (ok__law_next (P := P) (w := w) (base := base) T) (hr.mono (by decide)) (by rfl) T._law_next.g T._law_next.F.kp T._law_next.b .nil pass0 (pa_cons (pv 0) (pa_cons (pe_op op_addA (pv 2) pe_int) pa_nil))) pa_nil)) (gn 6 (sc__law_checks).nd) (pss_cons (ps_par (i := 7) (j := 8) rfl (sc__law_checks).nd rfl rfl (by decide) rfl rfl (pa_cons (pe_ix (ix_any (hu_of hr)) (pv 4) (pe_call (ok__law_next (P := P) (w := w) (base := base) T) (hr.mono (by decide)) (by rfl) T._law_next.g T._law_next.F.kp T._law_next.b .nil pass0 (pa_cons (pv 0) (pa_cons (pe_callB call_lenA (by rfl) T.b_len (by decide +kernel) (pa_cons (pv 4) pa_nil)) pa_nil))) (fun _ _ => rfl)) (pa_cons (pe_ix (ix_any (hu_of hr)) (pv 4) (pe_call (ok__law_next (P := P) (w := w) (base := base) T) (hr.mono (by decide)) (by rfl) T._law_next.g T._law_next.F.kp T._law_next.b .nil pass0 (pa_cons (pv 0) (pa_cons (pe_callB call_lenA (by rfl) T.b_len (by decide +kernel) (pa_cons (pv 4) pa_nil)) pa_nil))) (fun _ _ => rfl)) pa_nil)) (by rfl)) (pss_one (ps_if (pt_cmpR (op_neA hr.units) (pv 7) (pv 8) (nomark _)) (pss_cons (ps_asg (pe_ifExp (pt_cmpR op_gt (pe_call (ok__law_next (P := P) (w := w) (base := base) T) (hr.mono (by decide)) (by rfl) T._law_next.g T._law_next.F.kp T._law_next.b .nil pass0 (pa_cons (pv 0) (pa_cons pe_int pa_nil))) pe_int (nomark _)) (pe_op op_sub (pe_call (ok__law_next (P := P) (w := w) (base := base) T) (hr.mono (by decide)) (by rfl) T._law_next.g T._law_next.F.kp T._law_next.b .nil pass0 (pa_cons (pv 0) (pa_cons pe_int pa_nil))) pe_int) (pe_op op_sub (pe_call (ok__law_next (P := P) (w := w) (base := base) T) (hr.mono (by decide)) (by rfl) T._law_next.g T._law_next.F.kp T._law_next.b .nil pass0 (pa_cons (pv 0) (pa_cons pe_int pa_nil))) pe_int)) (gn 9 (sc__law_checks).nd)) (pss_cons (ps_if (pt_cmpR op_isNotA (pv 3) pe_non (nomark _)) (pss_cons (ps_asg (pe_op op_sub (pe_call (ok__law_at (P := P) (w := w) (base := base) T) (hr.mono (by decide)) (by rfl) T._law_at.g T._law_at.F.kp T._law_at.b .nil pass0 (pa_cons (pv 3) (pa_cons (pv 7) pa_nil))) (pe_call (ok__law_at (P := P) (w := w) (base := base) T) (hr.mono (by decide)) (by rfl) T._law_at.g T._law_at.F.kp T._law_at.b .nil pass0 (pa_cons (pv 3) (pa_cons (pv 8) pa_nil)))) (gn 10 (sc__law_checks).nd)) (pss_one (ps_asg (pe_op op_addA (pv 10) (pe_ix (ix_any (hu_of hr)) (pe_tup (pa_cons pe_int (pa_cons pe_int (pa_cons pe_int (pa_cons pe_int (pa_cons pe_int (pa_cons pe_int pa_nil))))))) (pe_call (ok__law_next (P := P) (w := w) (base := base) T) (hr.mono (by decide)) (by rfl) T._law_next.g T._law_next.F.kp T._law_next.b .nil pass0 (pa_cons (pv 0) (pa_cons pe_int pa_nil))) (fun _ _ => rfl))) (gn 9 (sc__law_checks).nd)))) pss_nil) (pss_one (ps_if (pt_cmpR op_le (pe_callB call_abs (by rfl) T.b_abs (by decide +kernel) (pa_cons (pv 9) pa_nil)) pe_int (nomark _)) (pss_one (ps_expr (pe_bm PySem.F.plainAttrs_list PySem.F.slot_list_append PySem.F.type_list_append mt_append (pv 5) (pa_cons (pe_tup (pa_cons (pv 7) (pa_cons (pv 8) (pa_cons (pv 9) pa_nil)))) pa_nil)))) pss_nil)))) pss_nil)))) (pss_one (ps_ret (pv 5))))), run_G (N := n__law_checks) h ?_⟩)
  rintro gs ts Φ ⟨s, a, ns, b, k, fs, many, th, rfl, rfl, hb, hk, hm, hm2, hfl, hth, rfl⟩
  have hM := next_in ns b k (m := many + 1) (by omega)
  have hel : (endsOf fs).length = fs.length + 1 := endsOf_len fs
  have hnx : ∀ {k' : Int}, 0 ≤ k' → 0 ≤ nextV ns b k' (((endsOf fs).map eT).length : Nat) ∧ nextV ns b k' (((endsOf fs).map eT).length : Nat) < ((endsOf fs).length : Nat) := fun {k'} _ => by
    have := next_in ns b k' (m := (((endsOf fs).map eT).length : Nat)) (by rw [List.length_map, hel]; omega)
    rw [List.length_map] at this ⊢
    exact this
  refine bd_then (bd_parX (xa_cons (ex_ed ((ed_of_en (en_cat (ed_var (t := fsT fs) rfl) (ed_lst (ea_one ed_non) (by simp)) (by simp; omega))).to (endsT_of fs)) (xa_cons (ex_en (en_lst ea_nil (by decide)) fun d => xa_nil ⟨_, _, rfl, ?_⟩)))))
  refine bd_then (bd_range (fun i Γ' => ∃ cs k' x6 x7 x8 x9 x10, (cs.length ≤ i) ∧ (∀ c ∈ cs, chkB fs c = true) ∧ (∀ t', th = Option.some t' → ∀ c ∈ cs, soB t' c = true) ∧ 0 ≤ k' ∧ Γ' = ⟨[some (.val (.ref s)), some (fsT fs), some (.int many), some (thT th), some (endsT (endsOf fs)), some (.val (.ref d)), x6, x7, x8, x9, x10], [⟨true, s, stO K a ns b k'⟩, ⟨false, d, .lst (cs.map cT)⟩]⟩)
    (ea_one (ed_callM (js := [0]) [⟨true, s, stO K a ns b (k + 1)⟩] (ea_cons (ed_var rfl) (ea_one (ed_add (ed_var rfl) ed_int))) (by decide) (Lent.one rfl) rfl ⟨s, a, ns, b, k, _, rfl, rfl, hb, hk, by omega, rfl, rfl⟩)) hM.1 (by omega) ⟨[], k + 1, _, _, _, _, _, by simp, by simp, by simp, by omega, rfl⟩ ?_ ?_)
  · rintro i Γ' hi ⟨cs, k', x6, x7, x8, x9, x10, hl, hc, hs, hk', rfl⟩
    refine ⟨_, eg_name, ?_⟩
    obtain ⟨one, h1, m1⟩ := atI_in (hnx hk').1 (hnx hk').2
    obtain ⟨other, h2, m2⟩ := atI_in (hnx (k' := k' + 1) (by omega)).1 (hnx (k' := k' + 1) (by omega)).2
    refine bd_then (bd_par (t1 := eT one) (t2 := eT other) (ea_cons (ed_ixL (ts := (endsOf fs).map eT) (ed_var rfl) (ed_callM (js := [0]) [⟨true, s, stO K a ns b (k' + 1)⟩] (ea_cons (ed_var rfl) (ea_one (ed_lenL (ts := (endsOf fs).map eT) (ea_one (ed_var rfl))))) (by decide) (Lent.one rfl) rfl ⟨s, a, ns, b, k', _, rfl, rfl, hb, hk', by rw [List.length_map, hel]; omega, rfl, rfl⟩) (atI_map (g := eT) h1))
      (ea_one (ed_ixL (ts := (endsOf fs).map eT) (ed_var rfl) (ed_callM (js := [0]) [⟨true, s, stO K a ns b (k' + 1 + 1)⟩] (ea_cons (ed_var rfl) (ea_one (ed_lenL (ts := (endsOf fs).map eT) (ea_one (ed_var rfl))))) (by decide) (Lent.one rfl) rfl ⟨s, a, ns, b, k' + 1, _, rfl, rfl, hb, by omega, by rw [List.length_map, hel]; omega, rfl, rfl⟩) (atI_map (g := eT) h2)))) ?_)
    refine bd_if (et_test (ed_neE (a := one) (b := other) (ed_var rfl) (ed_var rfl))) (fun q => ?_) (fun q => bd_next ⟨cs, k' + 1 + 1, _, _, _, _, _, by omega, hc, hs, by omega, rfl⟩)
    have hne : one ≠ other := by simpa using q
    refine bd_then (bd_asg (t := .int (if decide (0 < nextV ns b (k' + 1 + 1) 5) = true then nextV ns b (k' + 1 + 1 + 1) 41 - 20 else nextV ns b (k' + 1 + 1 + 1) 201 - 100)) (ed_ifx (et_test (ed_gt (ed_callM (js := [0]) [⟨true, s, stO K a ns b (k' + 1 + 1 + 1)⟩] (ea_cons (ed_var rfl) (ea_one ed_int)) (by decide) (Lent.one rfl) rfl ⟨s, a, ns, b, k' + 1 + 1, 5, rfl, rfl, hb, by omega, by decide, rfl, rfl⟩) ed_int))
      (fun q => by rw [if_pos q]; exact ed_sub (ed_callM (js := [0]) [⟨true, s, stO K a ns b (k' + 1 + 1 + 1 + 1)⟩] (ea_cons (ed_var rfl) (ea_one ed_int)) (by decide) (Lent.one rfl) rfl ⟨s, a, ns, b, k' + 1 + 1 + 1, 41, rfl, rfl, hb, by omega, by decide, rfl, rfl⟩) ed_int)
      (fun q => by rw [if_neg (by rw [q]; exact Bool.false_ne_true)]; exact ed_sub (ed_callM (js := [0]) [⟨true, s, stO K a ns b (k' + 1 + 1 + 1 + 1)⟩] (ea_cons (ed_var rfl) (ea_one ed_int)) (by decide) (Lent.one rfl) rfl ⟨s, a, ns, b, k' + 1 + 1 + 1, 201, rfl, rfl, hb, by omega, by decide, rfl, rfl⟩) ed_int)) eg_name ?_)
    generalize (if decide (0 < nextV ns b (k' + 1 + 1) 5) = true then nextV ns b (k' + 1 + 1 + 1) 41 - 20 else nextV ns b (k' + 1 + 1 + 1) 201 - 100) = n0
    refine bd_seq (Nx := fun Γ' => ∃ n k2 x10, (∀ t', th = Option.some t' → soB t' (one, other, n) = true) ∧ 0 ≤ k2 ∧ Γ' = ⟨[some (.val (.ref s)), some (fsT fs), some (.int many), some (thT th), some (endsT (endsOf fs)), some (.val (.ref d)), some (.int (i : Nat)), some (eT one), some (eT other), some (.int n), x10], [⟨true, s, stO K a ns b k2⟩, ⟨false, d, .lst (cs.map cT)⟩]⟩) ?_ ?_
    · cases th with
      | none => exact bd_skip (et_test (ed_notN (ed_var (t := .non) rfl))) ⟨n0, k' + 1 + 1 + 1 + 1, _, by simp, by omega, rfl⟩
      | some t' =>
        have ht := hth t' rfl
        refine bd_yes (et_test (ed_notN (ed_var (t := tT t') rfl))) ?_
        refine bd_then (bd_asg (ed_sub (ed_call (ea_cons (ed_var rfl) (ea_one (ed_var rfl))) ⟨t', one, rfl, ht.has m1, rfl⟩) (ed_call (ea_cons (ed_var rfl) (ea_one (ed_var rfl))) ⟨t', other, rfl, ht.has m2, rfl⟩)) eg_name ?_)
        have h6 := next_in ns b (k' + 1 + 1 + 1 + 1) (show (0 : Int) < 6 by decide)
        obtain ⟨g, e6, mg6⟩ := atI_in (xs := [0, 0, 1, 3, 9, (40 : Int)]) h6.1 h6.2
        refine bd_asg (ed_add (ed_var rfl) (ed_ixT (ts := [0, 0, 1, 3, 9, (40 : Int)].map FK.T.int) (ed_tup (ea_cons ed_int (ea_cons ed_int (ea_cons ed_int (ea_cons ed_int (ea_cons ed_int (ea_cons ed_int ea_nil)))))) (by decide)) (ed_callM (js := [0]) [⟨true, s, stO K a ns b (k' + 1 + 1 + 1 + 1 + 1)⟩] (ea_cons (ed_var rfl) (ea_one ed_int)) (by decide) (Lent.one rfl) rfl ⟨s, a, ns, b, k' + 1 + 1 + 1 + 1, 6, rfl, rfl, hb, by omega, by decide, rfl, rfl⟩) (atI_map (g := FK.T.int) e6))) eg_name ⟨_, k' + 1 + 1 + 1 + 1 + 1, _, ?_, by omega, rfl⟩
        intro t2 e2
        cases e2
        have hg : 0 ≤ g := by
          simp only [List.mem_cons, List.not_mem_nil, or_false] at mg6
          omega
        exact decide_eq_true (by show numAt t' one - numAt t' other ≤ numAt t' one - numAt t' other + g; omega)
    · rintro Γ' ⟨n, k2, x10, hn, hk2, rfl⟩
      refine bd_if (et_test (ed_le (ed_abs (ea_one (ed_var rfl))) ed_int)) (fun q => ?_) (fun q => bd_next ⟨cs, k2, _, _, _, _, _, by omega, hc, hs, hk2, rfl⟩)
      have q := of_decide_eq_true q
      have hn2 : -100 ≤ n ∧ n ≤ 100 := by split at q <;> omega
      have hck : chkB fs (one, other, n) = true := by
        unfold chkB endB
        simp only [Bool.and_eq_true, decide_eq_true_eq, Bool.not_eq_true', decide_eq_false_iff_not]
        exact ⟨hn2, m1, m2, hne⟩
      refine bd_append (j := 1) (l := false) (ts := cs.map cT) (t := cT (one, other, n)) (ed_var rfl) rfl (ed_tup (ea_cons (ed_var (t := eT one) rfl) (ea_cons (ed_var (t := eT other) rfl) (ea_cons (ed_var (t := .int n) rfl) ea_nil))) (by simp)) rfl (by rw [List.length_map]; omega) ⟨cs ++ [(one, other, n)], k2, some (.int (i : Nat)), some (eT one), some (eT other), some (.int n), x10, by simp; omega, fun c hc' => ?_, fun t' e c hc' => ?_, hk2, ?_⟩
      · rcases List.mem_append.mp hc' with h | h
        · exact hc c h
        · rw [List.mem_singleton.mp h]; exact hck
      · rcases List.mem_append.mp hc' with h | h
        · exact hs t' e c h
        · rw [List.mem_singleton.mp h]; exact hn t' e
      · rw [List.map_append]; rfl
  · rintro Γ' ⟨cs, k', x6, x7, x8, x9, x10, hl, hc, hs, hk', rfl⟩
    exact bd_ret (ed_frz (j := 1) (ed_var rfl) rfl) ⟨[(s, stO K a ns b k')], [], rfl, cs, k', rfl, by omega, hc, hs, hk', rfl⟩
def R__law_wrong (ts : List FK.T) (t : FK.T) : Prop := ∃ cs th, ts = [csT cs, tT th] ∧ (∀ c ∈ cs, Has th c.1 ∧ Has th c.2.1) ∧ t = oT (fw cs th)
set_option maxHeartbeats 8000000 in
theorem ok__law_wrong (T : Tx K mg) : FnOk P w K mg base CX0 2 T._law_wrong.f T._law_wrong.fd ["_law_checks_here", "_law_thing_here"] (spT P w (R__law_wrong)) := by
  refine T._law_wrong.F.ok sc__law_wrong (len_T fun ts t h => by unfold R__law_wrong at h; obtain ⟨_, _, rfl, _⟩ := h; rfl) (fun cdv A outer s H vs Q E hr h => ⟨_, (pss_cons (ps_for PassesOwn.never rfl (pi_enum (by rfl) T.b_enumerate (pa_cons (pv 0) pa_nil)) (pg_tup rfl (pgs_cons (gn 2 (sc__law_wrong).nd) (pgs_cons (gn 3 (sc__law_wrong).nd) pgs_nil))) (pss_one (ps_if (pt_cmpR op_gt (pe_op op_sub (pe_call (ok__law_at (P := P) (w := w) (base := base) T) (hr.mono (by decide)) (by rfl) T._law_at.g T._law_at.F.kp T._law_at.b .nil pass0 (pa_cons (pv 1) (pa_cons (pe_ix (ix_any (hu_of hr)) (pv 3) pe_int (fun _ _ => rfl)) pa_nil))) (pe_call (ok__law_at (P := P) (w := w) (base := base) T) (hr.mono (by decide)) (by rfl) T._law_at.g T._law_at.F.kp T._law_at.b .nil pass0 (pa_cons (pv 1) (pa_cons (pe_ix (ix_any (hu_of hr)) (pv 3) pe_int (fun _ _ => rfl)) pa_nil)))) (pe_ix (ix_any (hu_of hr)) (pv 3) pe_int (fun _ _ => rfl)) (nomark _)) (pss_one (ps_ret (pv 2))) pss_nil))) (pss_one (ps_ret pe_non))), run_T (N := n__law_wrong) h ?_⟩)
  rintro ts r ⟨cs, th, rfl, h, rfl⟩
  refine bd_seq (Nx := fun Γ' => oT (fw cs th) = .non) (bd_for (fun i Γ' => (∃ a b, Γ' = ⟨[some (csT cs), some (tT th), a, b], []⟩) ∧ ∀ c ∈ cs.take i, soB th c = true) (ei_enum (ea_cons (ed_var rfl) ea_nil)) ⟨⟨_, _, rfl⟩, by simp⟩ ?_ ?_) (fun Γ' n => bd_ret ed_non n.symm)
  · rintro i Γ' hi ⟨⟨a, b, rfl⟩, hp⟩
    have hi' : i < cs.length := by simpa using hi
    refine ⟨_, eg_tup (egs_cons eg_name (egs_cons eg_name egs_nil)) rfl, ?_⟩
    rw [getD_map hi']
    refine bd_if (et_test (ed_gt (ed_sub (ed_call (ea_cons (ed_var rfl) (ea_one (ed_ixT (ed_var rfl) ed_int rfl))) ⟨th, cs[i].1, rfl, (h _ (List.getElem_mem hi')).1, rfl⟩) (ed_call (ea_cons (ed_var rfl) (ea_one (ed_ixT (ed_var rfl) ed_int rfl))) ⟨th, cs[i].2.1, rfl, (h _ (List.getElem_mem hi')).2, rfl⟩)) (ed_ixT (ed_var rfl) ed_int rfl))) (fun q => ?_) (fun q => ?_)
    · refine bd_ret (ed_var rfl) ?_
      have q := of_decide_eq_true q
      have e : cs = cs.take i ++ cs[i] :: cs.drop (i + 1) := by rw [List.getElem_cons_drop, List.take_append_drop]
      have f : fw cs th = some i := by
        unfold fw
        rw [e, fwFrom_pre th _ _ 0 hp]
        show (if soB th cs[i] then _ else some _) = _
        have q' : soB th cs[i] = false := decide_eq_false (by omega)
        rw [q', if_neg Bool.false_ne_true, List.length_take]
        congr 1
        omega
      rw [f]
      rfl
    · have q := of_decide_eq_false q
      refine bd_next ⟨⟨_, _, rfl⟩, fun c hc => ?_⟩
      rw [take_succ_at (List.getElem?_eq_getElem hi')] at hc
      rcases List.mem_append.mp hc with hc | hc
      · exact hp c hc
      · rw [List.mem_singleton.mp hc]
        exact decide_eq_true (by omega)
  · rintro Γ' ⟨_, hp⟩
    have f : fw cs th = none := by
      unfold fw
      rw [show cs = cs ++ [] by simp, fwFrom_pre th cs [] 0 (fun c hc => hp c (by simpa using hc))]
      rfl
    rw [f]
    rfl
def sumsT : Option (List (End × Int)) → FK.T
  | none => .non
  | Option.some r => .ndc (nL r)
theorem relax_len (st : List (End × Int) × Bool) (c : Chk) : (relax st c).1.length ≤ st.1.length + 1 := by
  unfold relax
  split
  · exact Nat.le_succ _
  · split
    · exact putA_length_le _ _ _
    · split
      · exact putA_length_le _ _ _
      · exact Nat.le_succ _
theorem relax_fold_len : ∀ (l : List Chk) (st : List (End × Int) × Bool), (l.foldl relax st).1.length ≤ st.1.length + l.length
  | [], st => Nat.le_refl _
  | c :: l, st => by
    have h1 := relax_len st c
    have h2 := relax_fold_len l (relax st c)
    rw [List.foldl_cons, List.length_cons]
    omega
def R__law_sums (ts : List FK.T) (t : FK.T) : Prop := ∃ fs cs e, ts = [fsT fs, csT cs, eT e] ∧ fs.length ≤ 6 ∧ cs.length ≤ 100 ∧ t = sumsT (goes cs (fs.length + 2) e)
set_option maxHeartbeats 8000000 in
theorem ok__law_sums (T : Tx K mg) : FnOk P w K mg base CX0 1 T._law_sums.f T._law_sums.fd ["_law_fields_here", "_law_checks_here", "_law_start"] (spT P w (R__law_sums)) := by
  refine T._law_sums.F.ok sc__law_sums (len_T fun ts t h => by unfold R__law_sums at h; obtain ⟨_, _, _, rfl, _⟩ := h; rfl) (fun cdv A outer s H vs Q E hr h => ⟨_, (pss_cons (ps_asg pe_dnew (gn 3 (sc__law_sums).nd)) (pss_cons (ps_asg pe_int (pg_sub (pv 3) (pv 2) (set_any (hu_of hr)))) (pss_cons (ps_for PassesOwn.never rfl (pi_range1 (by rfl) T.b_range (pa_cons (pe_op op_addA (pe_callB call_lenA (by rfl) T.b_len (by decide +kernel) (pa_cons (pv 0) pa_nil)) pe_int) pa_nil)) (gn 4 (sc__law_sums).nd) (pss_cons (ps_asg pe_bl (gn 5 (sc__law_sums).nd)) (pss_cons (ps_for PassesOwn.never rfl (pi_list (pv 1)) (pg_tup rfl (pgs_cons (gn 6 (sc__law_sums).nd) (pgs_cons (gn 7 (sc__law_sums).nd) (pgs_cons (gn 8 (sc__law_sums).nd) pgs_nil)))) (pss_cons (ps_asg (pe_ifExp (pt_cmpR (op_inA (hu_of hr)) (pv 6) (pv 3) (by rfl)) (pe_op op_addA (pe_ix (ix_any (hu_of hr)) (pv 3) (pv 6) (fun _ _ => rfl)) (pv 8)) pe_non) (gn 9 (sc__law_sums).nd)) (pss_one (ps_if (PW.pt (pw_and (pt_cmpR op_isNotA (pv 9) pe_non (nomark _)) (pw_and1 (PW.pt (pw_or (pt_cmpR (op_notInA (hu_of hr)) (pv 7) (pv 3) (by rfl)) (pw_or1 (pt_cmpR op_lt (pv 9) (pe_ix (ix_any (hu_of hr)) (pv 3) (pv 7) (fun _ _ => rfl)) (nomark _)))))))) (pss_cons (ps_asg (pv 9) (pg_sub (pv 3) (pv 7) (set_any (hu_of hr)))) (pss_one (ps_asg pe_bl (gn 5 (sc__law_sums).nd)))) pss_nil)))) (pss_one (ps_if (pt_not (pt_val (pv 5))) (pss_one (ps_ret (pv 3))) pss_nil))))) (pss_one (ps_ret pe_non))))), run_T (N := n__law_sums) h ?_⟩)
  rintro ts r ⟨fs, cs, e, rfl, hf, hc, rfl⟩
  refine bd_then (bd_asgN en_nnew fun a => ?_)
  refine bd_then (bd_putN (j := 0) (l := false) (k := eL e) (kvs := []) ed_int (ed_var rfl) ((ed_var rfl).to (lT_eL e).symm) rfl (by decide) ?_)
  refine bd_seq (Nx := fun _ => goes cs (fs.length + 2) e = none) (bd_range (fun i Γ' => ∃ f x4 x5 x6 x7 x8 x9, i ≤ fs.length + 2 ∧ bf cs (fs.length + 2 - i) f = goes cs (fs.length + 2) e ∧ f.length ≤ 1 + i * cs.length ∧ Γ' = ⟨[some (fsT fs), some (csT cs), some (eT e), some (.val (.ref a)), x4, x5, x6, x7, x8, x9], [⟨false, a, .ndc (nL f)⟩]⟩)
    (ea_one ((ed_add (ed_lenL (ts := fs.map FK.T.str) (ea_one (ed_var rfl))) ed_int).to (t' := .int ((fs.length + 2 : Nat) : Int)) (by rw [List.length_map]; rfl))) (by omega) (by omega) ⟨[(e, 0)], _, _, _, _, _, _, by omega, rfl, by simp, rfl⟩ ?_ ?_) ?_
  · rintro i Γ' hi ⟨f, x4, x5, x6, x7, x8, x9, hi2, hbf, hlen, rfl⟩
    have hi : i < fs.length + 2 := by omega
    refine ⟨_, eg_name, ?_⟩
    refine bd_then (bd_asg ed_bl eg_name ?_)
    have hm : fs.length + 2 - i = (fs.length + 2 - (i + 1)) + 1 := by omega
    have hmul : i * cs.length ≤ 8 * 100 := Nat.mul_le_mul (by omega) hc
    refine bd_then (bd_foldLi (xs := cs) (g := cT) (fun q Γ' => ∃ x6 x7 x8 x9, Γ' = ⟨[some (fsT fs), some (csT cs), some (eT e), some (.val (.ref a)), some (.int (i : Nat)), some (.bl q.2), x6, x7, x8, x9], [⟨false, a, .ndc (nL q.1)⟩]⟩) relax (f, false) (ed_var rfl) ⟨_, _, _, _, rfl⟩ ?_ ?_)
    · rintro j hj Γ' ⟨x6, x7, x8, x9, rfl⟩
      have hql := relax_fold_len (cs.take j) (f, false)
      have htl : (cs.take j).length ≤ 100 := by rw [List.length_take]; omega
      generalize (cs.take j).foldl relax (f, false) = q at hql ⊢
      have hql : q.1.length ≤ f.length + (cs.take j).length := hql
      generalize cs[j] = c
      refine ⟨_, eg_tup (egs_cons eg_name (egs_cons eg_name (egs_cons eg_name egs_nil))) rfl, ?_⟩
      have lk1 : look (nL q.1) (eL c.1) = (getA q.1 c.1).map FK.T.int := look_nL q.1 c.1
      have lk2 : look (nL q.1) (eL c.2.1) = (getA q.1 c.2.1).map FK.T.int := look_nL q.1 c.2.1
      cases g1 : getA q.1 c.1 with
      | none =>
        have er : relax q c = q := by unfold relax; rw [g1]
        rw [er]
        refine bd_then (bd_asg (t := .non) (ed_ifp (et_test ((ed_inNO (j := 0) (l := false) (k := eL c.1) ((ed_var (t := eT c.1) rfl).to (lT_eL c.1).symm) (ed_var rfl) rfl).to (by first | (rw [lk1, g1]; done) | (rw [lk1, g1]; rfl)))) (fun z => by cases z) (fun _ => ed_non)) eg_name ?_)
        exact bd_skip (et_and (b := false) (c := false) (et_test (ed_notN (ed_var (t := .non) rfl))) (fun z => by cases z)) ⟨_, _, _, _, rfl⟩
      | some u =>
        refine bd_then (bd_asg (t := .int (u + c.2.2)) (ed_ifp (b := true) (et_test ((ed_inNO (j := 0) (l := false) (k := eL c.1) ((ed_var (t := eT c.1) rfl).to (lT_eL c.1).symm) (ed_var rfl) rfl).to (by first | (rw [lk1, g1]; done) | (rw [lk1, g1]; rfl)))) (fun _ => ed_add (ed_ixNO (j := 0) (l := false) (k := eL c.1) (ed_var rfl) ((ed_var (t := eT c.1) rfl).to (lT_eL c.1).symm) rfl (by first | (rw [lk1, g1]; done) | (rw [lk1, g1]; rfl))) (ed_var rfl)) (fun z => by cases z)) eg_name ?_)
        have hput : (nL q.1).length < 100000 := by unfold nL; rw [List.length_map]; omega
        cases g2 : getA q.1 c.2.1 with
        | none =>
          have er : relax q c = (putA q.1 c.2.1 (u + c.2.2), true) := by unfold relax; rw [g1, g2]
          rw [er]
          refine bd_yes (et_and (b := true) (c := true) (et_test (ed_notN (ed_var (t := .int (u + c.2.2)) rfl))) (fun _ => et_or (b := true) (c := true) (et_test ((ed_notInNO (j := 0) (l := false) (k := eL c.2.1) ((ed_var (t := eT c.2.1) rfl).to (lT_eL c.2.1).symm) (ed_var (t := .val (.ref a)) rfl) rfl).to (by first | (rw [lk2, g2]; done) | (rw [lk2, g2]; rfl)))) (fun z => by cases z))) ?_
          refine bd_then (bd_putN (j := 0) (l := false) (k := eL c.2.1) (ed_var (t := .int (u + c.2.2)) rfl) (ed_var rfl) ((ed_var (t := eT c.2.1) rfl).to (lT_eL c.2.1).symm) rfl hput ?_)
          refine bd_asg ed_bl eg_name ⟨some (eT c.1), some (eT c.2.1), some (.int c.2.2), some (.int (u + c.2.2)), ?_⟩
          rw [put_nL]
          rfl
        | some v =>
          refine bd_if (et_and (b := true) (c := decide (u + c.2.2 < v)) (et_test (ed_notN (ed_var (t := .int (u + c.2.2)) rfl))) (fun _ => et_or (b := false) (c := decide (u + c.2.2 < v)) (et_test ((ed_notInNO (j := 0) (l := false) (k := eL c.2.1) ((ed_var (t := eT c.2.1) rfl).to (lT_eL c.2.1).symm) (ed_var (t := .val (.ref a)) rfl) rfl).to (by first | (rw [lk2, g2]; done) | (rw [lk2, g2]; rfl)))) (fun _ => et_test (ed_lt (ed_var rfl) (ed_ixNO (j := 0) (l := false) (k := eL c.2.1) (t := .int v) (ed_var (t := .val (.ref a)) rfl) ((ed_var (t := eT c.2.1) rfl).to (lT_eL c.2.1).symm) rfl (by first | (rw [lk2, g2]; done) | (rw [lk2, g2]; rfl))))))) (fun z => ?_) (fun z => ?_)
          · have z : u + c.2.2 < v := of_decide_eq_true z
            have er : relax q c = (putA q.1 c.2.1 (u + c.2.2), true) := by unfold relax; rw [g1, g2]; simp [z]
            rw [er]
            refine bd_then (bd_putN (j := 0) (l := false) (k := eL c.2.1) (ed_var (t := .int (u + c.2.2)) rfl) (ed_var rfl) ((ed_var (t := eT c.2.1) rfl).to (lT_eL c.2.1).symm) rfl hput ?_)
            refine bd_asg ed_bl eg_name ⟨some (eT c.1), some (eT c.2.1), some (.int c.2.2), some (.int (u + c.2.2)), ?_⟩
            rw [put_nL]
            rfl
          · have z : ¬ u + c.2.2 < v := of_decide_eq_false z
            have er : relax q c = q := by unfold relax; rw [g1, g2]; simp [z]
            rw [er]
            exact bd_next ⟨_, _, _, _, rfl⟩
    · rintro Γ' ⟨x6, x7, x8, x9, rfl⟩
      refine bd_if (et_not (et_val (ed_var (t := .bl (roundE cs f).2) rfl))) (fun q => ?_) (fun q => ?_)
      · have q : (roundE cs f).2 = false := by simpa using q
        refine bd_ret (ed_frz (j := 0) (ed_var rfl) rfl) ?_
        rw [← hbf, hm]
        unfold bf
        rw [q, if_neg Bool.false_ne_true]
        rfl
      · have q : (roundE cs f).2 = true := by simpa using q
        refine bd_next ⟨(roundE cs f).1, _, _, _, _, _, _, by omega, ?_, ?_, rfl⟩
        · rw [← hbf, hm]
          conv => rhs; unfold bf
          rw [q, if_pos rfl]
        · have := relax_fold_len cs (f, false)
          have h2 : (roundE cs f).1.length ≤ f.length + cs.length := this
          rw [Nat.add_mul]
          omega
  · rintro Γ' ⟨f, x4, x5, x6, x7, x8, x9, hi2, hbf, hlen, rfl⟩
    have e0 : fs.length + 2 - (((fs.length + 2 : Nat) : Int)).toNat = 0 := by omega
    rw [e0] at hbf
    exact hbf.symm
  · intro Γ' h
    exact bd_ret ed_non (by rw [h]; rfl)
def hasB (fs : List Str) (cs : List Chk) : Bool := (endsOf fs).all fun e => (goes cs (fs.length + 2) e).isSome
theorem sumsT_isN (o : Option (List (End × Int))) : (!(sumsT o).isN) = o.isSome := by cases o <;> rfl
def R__law_has (ts : List FK.T) (t : FK.T) : Prop := ∃ fs cs, ts = [fsT fs, csT cs] ∧ fs.length ≤ 6 ∧ cs.length ≤ 100 ∧ t = .bl (hasB fs cs)
set_option maxHeartbeats 8000000 in
theorem ok__law_has (T : Tx K mg) : FnOk P w K mg base CX0 2 T._law_has.f T._law_has.fd ["_law_fields_here", "_law_checks_here"] (spT P w (R__law_has)) := by
  refine T._law_has.F.ok sc__law_has (len_T fun ts t h => by unfold R__law_has at h; obtain ⟨_, _, rfl, _⟩ := h; rfl) (fun cdv A outer s H vs Q E hr h => ⟨_, (pss_one (ps_ret (pe_callB (cr_all rfl) (by rfl) T.b_all (by decide +kernel) (pa_cons (pe_lc (own := [("_law_end", 2)]) rfl (sc__law_has).nd (pi_list (pe_op op_addA (pv 0) (pe_lst (pa_cons pe_non pa_nil)))) (blkOk_by (N := n__law_has) (sc := defScope s__law_has) (by decide +kernel)) (fun _ _ _ _ _ => (gn 2 (sc__law_has).nd)) (fun _ _ _ _ _ => pts_nil) (fun _ _ _ _ _ => (pe_cmpR op_isNotA (pe_call (ok__law_sums (P := P) (w := w) (base := base) T) (hr.mono (by decide)) (by rfl) T._law_sums.g T._law_sums.F.kp T._law_sums.b .nil pass0 (pa_cons (pv 0) (pa_cons (pv 1) (pa_cons (pv 2) pa_nil)))) pe_non (nomark _)))) pa_nil)))), run_T (N := n__law_has) h ?_⟩)
  rintro ts r ⟨fs, cs, rfl, hf, hc, rfl⟩
  exact bd_ret (ed_allL (g := eT) (xs := endsOf fs) (fun e => (goes cs (fs.length + 2) e).isSome) ((ed_of_en (en_cat (ed_var (t := fsT fs) rfl) (ed_lst (ea_one ed_non) (by simp)) (by simp; omega))).to (endsT_of fs)) (by rw [endsOf_len]; omega) rfl (fun e he => ⟨_, _, ev_name (by simp), (ed_notN (ed_call (ea_cons (ed_var rfl) (ea_cons (ed_var rfl) (ea_one (ed_var rfl)))) ⟨fs, cs, e, rfl, hf, hc, rfl⟩)).to (congrArg FK.T.bl (sumsT_isN _)), rfl⟩)) rfl
end
end FK
set_option maxHeartbeats 8000000
namespace FK
open PySem L2
section
variable {P : Program} {w : World} {K : PySem.W.Frag} {mg : Str → Option Value} {base : Heap}
def R__law_leads (ts : List FK.T) (t : FK.T) : Prop := ∃ cs ns, ts = [csT cs, intsT ns] ∧ ns.length ≤ 10000 ∧ t = .bl (leadsB cs ns)
set_option maxHeartbeats 8000000 in
theorem ok__law_leads (T : Tx K mg) : FnOk P w K mg base CX0 1 T._law_leads.f T._law_leads.fd ["_law_checks_here", "_law_counts"] (spT P w (R__law_leads)) := by
  refine T._law_leads.F.ok sc__law_leads (len_T fun ts t h => by unfold R__law_leads at h; obtain ⟨_, _, rfl, _⟩ := h; rfl) (fun cdv A outer s H vs Q E hr h => ⟨_, (pss_cons (ps_if (PW.pt (pw_or (pt_cmpR (op_eqA hr.units) (pv 1) (pe_lst pa_nil) (nomark _)) (pw_or1 (pt_not (pt_val (pe_callB (cr_all rfl) (by rfl) T.b_all (by decide +kernel) (pa_cons (pe_lc (own := [("_law_at_here", 2)]) rfl (sc__law_leads).nd (pi_list (pv 1)) (blkOk_by (N := n__law_leads) (sc := defScope s__law_leads) (by decide +kernel)) (fun _ _ _ _ _ => (gn 2 (sc__law_leads).nd)) (fun _ _ _ _ _ => pts_nil) (fun _ _ _ _ _ => (pe_chain op_le op_lt pe_int (pv 2) (pe_callB (show CallR _ _ (rLenA K) from call_lenA) (by rfl) T.b_len (by decide +kernel) (pa_cons (pv 0) pa_nil))))) pa_nil))))))) (pss_one (ps_ret pe_bl)) pss_nil) (pss_one (ps_ret (pe_callB (cr_all rfl) (by rfl) T.b_all (by decide +kernel) (pa_cons (pe_lc (own := [("_law_one", 3), ("_law_other", 4)]) rfl (sc__law_leads).nd (pi_zip (by rfl) T.b_zip (pa_cons (pv 1) (pa_cons (pe_slice sl_list (pv 1) (po_some pe_int) po_none) pa_nil))) (blkOk_by (N := n__law_leads) (sc := defScope s__law_leads) (by decide +kernel)) (fun _ _ _ _ _ => (show PG _ _ (gTup K 2 _) from (pg_tup rfl (pgs_cons (gn 3 (sc__law_leads).nd) (pgs_cons (gn 4 (sc__law_leads).nd) pgs_nil))))) (fun _ _ _ _ _ => pts_nil) (fun _ _ _ _ _ => (pe_cmpR (show OpR _ _ (rEqA K) from (op_eqA hr.units)) (pe_ix (show IxR _ (rIxA P w K) from (ix_any (hu_of hr))) (pe_ix (show IxR _ (rIxA P w K) from (ix_any (hu_of hr))) (pv 0) (pv 3) (fun _ _ => rfl)) pe_int (fun _ _ => rfl)) (pe_ix (show IxR _ (rIxA P w K) from (ix_any (hu_of hr))) (pe_ix (show IxR _ (rIxA P w K) from (ix_any (hu_of hr))) (pv 0) (pv 4) (fun _ _ => rfl)) pe_int (fun _ _ => rfl)) (nomark _)))) pa_nil))))), run_T (N := n__law_leads) h ?_⟩)
  rintro ts r ⟨cs, ns, rfl, hl, rfl⟩
  have hl' : ns.length ≤ 100000 := by omega
  have rg : ∀ i, (decide (0 ≤ i) && decide (i < (((cs.map cT).length : Nat) : Int))) = inR cs.length i := fun i => by rw [lenC]; rfl
  refine bd_then (bd_if (et_or (et_test (ed_eqInts (ns := ns) (ms := []) (ed_var rfl) (ed_lst ea_nil (by simp)))) (fun _ => et_not (et_val (ed_allL (g := FK.T.int) (xs := ns) (inR cs.length) (ed_var rfl) hl' rfl (fun i hi => ⟨_, _, ev_name (by simp), (ed_chain (ed_int (i := 0)) (ed_var rfl) (rt_I0 fun _ => .bl _) (fun _ => ed_lenL (ea_one (ed_var rfl))) (fun _ => rt_I0 fun _ => .bl _)).to (congrArg FK.T.bl (rg i)), rfl⟩))))) (fun q => bd_ret ed_bl ?_) (fun q => bd_next ?_))
  · unfold leadsB
    congr 1
    cases h1 : decide (ns = []) <;> cases h2 : ns.all (inR cs.length) <;> simp [h1, h2] at q ⊢
  · have q1 : decide (ns = []) = false := by cases h1 : decide (ns = []) <;> simp [h1] at q ⊢
    have q2 : ns.all (inR cs.length) = true := by cases h2 : ns.all (inR cs.length) <;> simp [q1, h2] at q ⊢
    have hin := List.all_eq_true.mp q2
    refine bd_ret (ed_allZ (g := FK.T.int) (h := FK.T.int) (xs := ns) (ys := ns.tail) (fun i j => decide ((ckAt cs i).2.1 = (ckAt cs j).1)) (ea_cons (ed_var rfl) (ea_one ((ed_of_en (en_slice (ed_var rfl) (eo_some ed_int) eo_none)).to (congrArg FK.T.lst (tailI ns))))) hl' rfl (fun i j hij => ?_)) ?_
    · have h1 := atI_map (g := cT) (atI_ck (hin i (List.of_mem_zip hij).1))
      have h2 := atI_map (g := cT) (atI_ck (hin j (List.mem_of_mem_tail (List.of_mem_zip hij).2)))
      exact ⟨_, _, ev_tup (evs_cons (ev_name (by simp)) (evs_cons (ev_name (by simp)) evs_nil)) rfl, ed_eqE (ed_ixT (ed_ixL (ed_var rfl) (ed_var rfl) h1) ed_int rfl) (ed_ixT (ed_ixL (ed_var rfl) (ed_var rfl) h2) ed_int rfl), rfl⟩
    · unfold leadsB
      rw [q1, q2]
      rfl
def R__law_ring (ts : List FK.T) (t : FK.T) : Prop := ∃ cs ns, ts = [csT cs, intsT ns] ∧ ns.length ≤ 10000 ∧ t = .bl (ringB cs ns)
set_option maxHeartbeats 8000000 in
theorem ok__law_ring (T : Tx K mg) : FnOk P w K mg base CX0 2 T._law_ring.f T._law_ring.fd ["_law_checks_here", "_law_counts"] (spT P w (R__law_ring)) := by
  refine T._law_ring.F.ok sc__law_ring (len_T fun ts t h => by unfold R__law_ring at h; obtain ⟨_, _, rfl, _⟩ := h; rfl) (fun cdv A outer s H vs Q E hr h => ⟨_, (pss_one (ps_ret (pe_and (pe_call (ok__law_leads (P := P) (w := w) (base := base) T) (hr.mono (by decide)) (by rfl) T._law_leads.g T._law_leads.F.kp T._law_leads.b .nil pass0 (pa_cons (pv 0) (pa_cons (pv 1) pa_nil))) (pe_one (pe_cmpR (op_eqA hr.units) (pe_ix (ix_any (hu_of hr)) (pe_ix (ix_any (hu_of hr)) (pv 0) (pe_ix (ix_any (hu_of hr)) (pv 1) (pe_un un_neg pe_int) (fun _ _ => rfl)) (fun _ _ => rfl)) pe_int (fun _ _ => rfl)) (pe_ix (ix_any (hu_of hr)) (pe_ix (ix_any (hu_of hr)) (pv 0) (pe_ix (ix_any (hu_of hr)) (pv 1) pe_int (fun _ _ => rfl)) (fun _ _ => rfl)) pe_int (fun _ _ => rfl)) (nomark _)))))), run_T (N := n__law_ring) h ?_⟩)
  rintro ts r ⟨cs, ns, rfl, hl, rfl⟩
  refine bd_ret (ed_and (ed_call (ea_cons (ed_var rfl) (ea_cons (ed_var rfl) ea_nil)) ⟨cs, ns, rfl, hl, rfl⟩) (fun q => ?_)) (t := .bl (leadsB cs ns && decide ((ckAt cs (lastI ns)).2.1 = (ckAt cs (headI ns)).1))) rfl
  obtain ⟨hne, hin⟩ := leads_in q
  have h1 := atI_map (g := cT) (atI_ck (hin _ (last_of hne).2))
  have h2 := atI_map (g := cT) (atI_ck (hin _ (head_of hne).2))
  exact ed_eqE (ed_ixT (ed_ixL (ed_var rfl) (ed_ixL (ed_var rfl) (ed_neg ed_int) (atI_map (g := FK.T.int) (atI_last (last_of hne).1))) h1) ed_int rfl) (ed_ixT (ed_ixL (ed_var rfl) (ed_ixL (ed_var rfl) ed_int (atI_map (g := FK.T.int) (atI_head (head_of hne).1))) h2) ed_int rfl)
def R__law_total (ts : List FK.T) (t : FK.T) : Prop := ∃ cs ns, ts = [csT cs, intsT ns] ∧ ns.length ≤ 10000 ∧ (∀ i ∈ ns, inR cs.length i = true) ∧ t = .int (sumI cs ns)
set_option maxHeartbeats 8000000 in
theorem ok__law_total (T : Tx K mg) : FnOk P w K mg base CX0 1 T._law_total.f T._law_total.fd ["_law_checks_here", "_law_counts"] (spT P w (R__law_total)) := by
  refine T._law_total.F.ok sc__law_total (len_T fun ts t h => by unfold R__law_total at h; obtain ⟨_, _, rfl, _⟩ := h; rfl) (fun cdv A outer s H vs Q E hr h => ⟨_, (pss_one (ps_ret (pe_callB (cr_sum rfl) (by rfl) T.b_sum (by decide +kernel) (pa_cons (pe_lc (own := [("_law_at_here", 2)]) rfl (sc__law_total).nd (pi_list (pv 1)) (blkOk_by (N := n__law_total) (sc := defScope s__law_total) (by decide +kernel)) (fun _ _ _ _ _ => (gn 2 (sc__law_total).nd)) (fun _ _ _ _ _ => pts_nil) (fun _ _ _ _ _ => (pe_ix (show IxR _ (rIxA P w K) from (ix_any (hu_of hr))) (pe_ix (show IxR _ (rIxA P w K) from (ix_any (hu_of hr))) (pv 0) (pv 2) (fun _ _ => rfl)) pe_int (fun _ _ => rfl)))) pa_nil)))), run_T (N := n__law_total) h ?_⟩)
  rintro ts r ⟨cs, ns, rfl, hl, hin, rfl⟩
  exact bd_ret (ed_sumL (g := FK.T.int) (xs := ns) (fun i => (ckAt cs i).2.2) (ed_var rfl) (by omega) rfl (fun i hi => ⟨_, _, ev_name (by simp), ed_ixT (ed_ixL (ed_var rfl) (ed_var rfl) (atI_map (g := cT) (atI_ck (hin i hi)))) ed_int rfl, rfl⟩)) rfl
def R__law_chain (ts : List FK.T) (t : FK.T) : Prop := ∃ cs ns a b, ts = [csT cs, intsT ns, eT a, eT b] ∧ ns.length ≤ 10000 ∧ t = .bl (chainB cs ns a b)
set_option maxHeartbeats 8000000 in
theorem ok__law_chain (T : Tx K mg) : FnOk P w K mg base CX0 2 T._law_chain.f T._law_chain.fd ["_law_checks_here", "_law_counts", "_law_one", "_law_other"] (spT P w (R__law_chain)) := by
  refine T._law_chain.F.ok sc__law_chain (len_T fun ts t h => by unfold R__law_chain at h; obtain ⟨_, _, _, _, rfl, _⟩ := h; rfl) (fun cdv A outer s H vs Q E hr h => ⟨_, (pss_cons (ps_if (PW.pt (pw_or (pt_cmpR (op_eqA hr.units) (pv 2) (pv 3) (nomark _)) (pw_or1 (pt_not (pt_val (pe_call (ok__law_leads (P := P) (w := w) (base := base) T) (hr.mono (by decide)) (by rfl) T._law_leads.g T._law_leads.F.kp T._law_leads.b .nil pass0 (pa_cons (pv 0) (pa_cons (pv 1) pa_nil)))))))) (pss_one (ps_ret pe_bl)) pss_nil) (pss_one (ps_ret (pe_and (pe_cmpR (op_eqA hr.units) (pe_ix (ix_any (hu_of hr)) (pe_ix (ix_any (hu_of hr)) (pv 0) (pe_ix (ix_any (hu_of hr)) (pv 1) pe_int (fun _ _ => rfl)) (fun _ _ => rfl)) pe_int (fun _ _ => rfl)) (pv 2) (nomark _)) (pe_one (pe_cmpR (op_eqA hr.units) (pe_ix (ix_any (hu_of hr)) (pe_ix (ix_any (hu_of hr)) (pv 0) (pe_ix (ix_any (hu_of hr)) (pv 1) (pe_un un_neg pe_int) (fun _ _ => rfl)) (fun _ _ => rfl)) pe_int (fun _ _ => rfl)) (pv 3) (nomark _))))))), run_T (N := n__law_chain) h ?_⟩)
  rintro ts r ⟨cs, ns, a, b, rfl, hl, rfl⟩
  refine bd_then (bd_if (et_or (et_test (ed_eqE (a := a) (b := b) (ed_var rfl) (ed_var rfl))) (fun _ => et_not (et_val (ed_call (ea_cons (ed_var rfl) (ea_one (ed_var rfl))) ⟨cs, ns, rfl, hl, rfl⟩)))) (fun q => bd_ret ed_bl ?_) (fun q => bd_next ?_))
  · unfold chainB
    congr 1
    cases h1 : decide (a = b) <;> cases h2 : leadsB cs ns <;> simp [h1, h2] at q ⊢
  · have q1 : decide (a = b) = false := by cases h1 : decide (a = b) <;> simp [h1] at q ⊢
    have q2 : leadsB cs ns = true := by cases h2 : leadsB cs ns <;> simp [q1, h2] at q ⊢
    obtain ⟨hne, hin⟩ := leads_in q2
    have h1 := atI_map (g := cT) (atI_ck (hin _ (last_of hne).2))
    have h2 := atI_map (g := cT) (atI_ck (hin _ (head_of hne).2))
    refine bd_ret (ed_and (ed_eqE (ed_ixT (ed_ixL (ed_var rfl) (ed_ixL (ed_var rfl) ed_int (atI_map (g := FK.T.int) (atI_head (head_of hne).1))) h2) ed_int rfl) (ed_var rfl)) (fun _ => ed_eqE (ed_ixT (ed_ixL (ed_var rfl) (ed_ixL (ed_var rfl) (ed_neg ed_int) (atI_map (g := FK.T.int) (atI_last (last_of hne).1))) h1) ed_int rfl) (ed_var rfl))) ?_
    unfold chainB
    rw [q1, q2]; rfl
def lthB (fs : List Str) (th : Thing) : Bool := decide (srt (th.map (·.1)) = srt fs)
theorem lthB_th {fs : List Str} {th : Thing} (h : lthB fs th = true) : IsTh fs th := fun x hx => by
  have h := of_decide_eq_true h
  have : x ∈ th.map (·.1) := (srt_perm _).mem_iff.mp (by rw [h]; exact (srt_perm fs).mem_iff.mpr hx)
  obtain ⟨n, hn, _⟩ := getA_of_keys this
  exact ⟨n, hn⟩
def R__law_is_thing (ts : List FK.T) (t : FK.T) : Prop := ∃ fs th, ts = [fsT fs, tT th] ∧ fs.length < 64 ∧ th.length < 64 ∧ (∀ x ∈ fs, PyData.strOk x = true) ∧ (∀ p ∈ th, PyData.strOk p.1 = true) ∧ t = .bl (lthB fs th)
set_option maxHeartbeats 8000000 in
theorem ok__law_is_thing (T : Tx K mg) : FnOk P w K mg base CX0 1 T._law_is_thing.f T._law_is_thing.fd ["_law_fields_here", "_law_thing_here"] (spT P w (R__law_is_thing)) := by
  refine T._law_is_thing.F.ok sc__law_is_thing (len_T fun ts t h => by unfold R__law_is_thing at h; obtain ⟨_, _, rfl, _⟩ := h; rfl) (fun cdv A outer s H vs Q E hr h => ⟨_, (pss_cons (ps_if (PW.pt (pw_or (pt_not (pt_val (pe_callB call_isi (by rfl) T.b_isinstance (by decide +kernel) (pa_cons (pv 1) (pa_cons (pe_bltn (v := .ty "dict") (by rfl) T.b_dict (by decide +kernel) rfl) pa_nil))))) (pw_or1 (pt_cmpR (op_neA hr.units) (pe_callB cr_sortedS (by rfl) T.b_sorted (by decide +kernel) (pa_cons (pe_callTy (call_listA rfl) (by rfl) T.b_list (by decide +kernel) (pa_cons (pv 1) pa_nil)) pa_nil)) (pe_callB cr_sortedS (by rfl) T.b_sorted (by decide +kernel) (pa_cons (pv 0) pa_nil)) (nomark _))))) (pss_one (ps_ret pe_bl)) pss_nil) (pss_one (ps_ret (pe_callB (cr_all rfl) (by rfl) T.b_all (by decide +kernel) (pa_cons (pe_lc (own := [("_law_one", 2)]) rfl (sc__law_is_thing).nd (pi_list (pv 0)) (blkOk_by (N := n__law_is_thing) (sc := defScope s__law_is_thing) (by decide +kernel)) (fun _ _ _ _ _ => (gn 2 (sc__law_is_thing).nd)) (fun _ _ _ _ _ => pts_nil) (fun _ _ _ _ _ => (pe_and (pe_callB (show CallR _ _ (rIsi K) from call_isi) (by rfl) T.b_isinstance (by decide +kernel) (pa_cons (pe_ix (show IxR _ (rIxA P w K) from (ix_any (hu_of hr))) (pv 1) (pv 2) (fun _ _ => rfl)) (pa_cons (pe_bltn (v := .ty "int") (by rfl) T.b_int (by decide +kernel) rfl) pa_nil))) (pe_one (pe_not (pe_callB (show CallR _ _ (rIsi K) from call_isi) (by rfl) T.b_isinstance (by decide +kernel) (pa_cons (pe_ix (show IxR _ (rIxA P w K) from (ix_any (hu_of hr))) (pv 1) (pv 2) (fun _ _ => rfl)) (pa_cons (pe_bltn (v := .ty "bool") (by rfl) T.b_bool (by decide +kernel) rfl) pa_nil)))))))) pa_nil))))), run_T (N := n__law_is_thing) h ?_⟩)
  rintro ts r ⟨fs, th, rfl, hl, hl2, hf, ht, rfl⟩
  have ek : FK.T.lst ((th.map fun p => (p.1, FK.T.int p.2)).map fun p => FK.T.str p.1) = .lst ((th.map (·.1)).map FK.T.str) := by rw [List.map_map, List.map_map]; rfl
  have hk : ∀ x ∈ srt (th.map (·.1)), PyData.strOk x = true := fun x hx => by
    obtain ⟨p, hp, e⟩ := List.mem_map.mp ((srt_perm _).mem_iff.mp hx)
    rw [← e]; exact ht p hp
  have hk2 : ∀ x ∈ srt fs, PyData.strOk x = true := fun x hx => hf x ((srt_perm _).mem_iff.mp hx)
  refine bd_then (bd_if (et_or (et_not (et_val (ed_isi (ea_cons (ed_var (t := tT th) rfl) (ea_cons ed_val ea_nil)) rfl (.ty "dict") kit_dict))) (fun _ => et_test (ed_neStrs (ed_of_en (en_sorted (xs := th.map fun p : Str × Int => p.1) (ea_one ((ed_of_en (en_listD (kvs := tL th) (ea_one (ed_var rfl)))).to ek)) (by rw [List.length_map]; exact hl2))) (ed_of_en (en_sorted (xs := fs) (ea_one (ed_var rfl)) hl)) hk hk2))) (fun q => bd_ret ed_bl ?_) (fun q => bd_next ?_))
  · unfold lthB
    congr 1
    cases h : decide (srt (th.map (·.1)) = srt fs) <;> simp [h] at q ⊢
  · have h : lthB fs th = true := by unfold lthB; cases h : decide (srt (th.map (·.1)) = srt fs) <;> simp [h] at q ⊢
    rw [h]
    refine bd_ret (ed_allL (g := FK.T.str) (xs := fs) (fun _ => true) (ed_var rfl) (by omega) rfl (fun x hx => ?_)) ?_
    · obtain ⟨n, hn⟩ := lthB_th h x hx
      have lk : look (tL th) x = some (.int n) := by rw [look_tL, hn]; rfl
      exact ⟨_, _, ev_name (by simp), ed_and (ed_isi (t := .int n) (ea_cons (ed_ixD (ed_var rfl) (ed_var rfl) lk) (ea_cons ed_val ea_nil)) rfl (.ty "int") kit_int_int) (fun _ => ed_not (ed_isi (t := .int n) (ea_cons (ed_ixD (ed_var rfl) (ed_var rfl) lk) (ea_cons ed_val ea_nil)) rfl (.ty "bool") kit_int_bool)), rfl⟩
    · simp
def lgoodB (fs : List Str) (cs : List Chk) (th : Thing) : Bool := lthB fs th && (fw cs th).isNone
def R__law_good (ts : List FK.T) (t : FK.T) : Prop := ∃ fs cs th, ts = [fsT fs, csT cs, tT th] ∧ Fld fs ∧ Cks fs cs ∧ th.length < 64 ∧ (∀ p ∈ th, PyData.strOk p.1 = true) ∧ t = .bl (lgoodB fs cs th)
set_option maxHeartbeats 8000000 in
theorem ok__law_good (T : Tx K mg) : FnOk P w K mg base CX0 3 T._law_good.f T._law_good.fd ["_law_fields_here", "_law_checks_here", "_law_thing_here"] (spT P w (R__law_good)) := by
  refine T._law_good.F.ok sc__law_good (len_T fun ts t h => by unfold R__law_good at h; obtain ⟨_, _, _, rfl, _⟩ := h; rfl) (fun cdv A outer s H vs Q E hr h => ⟨_, (pss_one (ps_ret (pe_and (pe_call (ok__law_is_thing (P := P) (w := w) (base := base) T) (hr.mono (by decide)) (by rfl) T._law_is_thing.g T._law_is_thing.F.kp T._law_is_thing.b .nil pass0 (pa_cons (pv 0) (pa_cons (pv 2) pa_nil))) (pe_one (pe_cmpR op_isA (pe_call (ok__law_wrong (P := P) (w := w) (base := base) T) (hr.mono (by decide)) (by rfl) T._law_wrong.g T._law_wrong.F.kp T._law_wrong.b .nil pass0 (pa_cons (pv 1) (pa_cons (pv 2) pa_nil))) pe_non (nomark _)))))), run_T (N := n__law_good) h ?_⟩)
  rintro ts r ⟨fs, cs, th, rfl, hf, hc, hl, ht, rfl⟩
  have hm := hf.most
  refine bd_ret (ed_and (ed_call (ea_cons (ed_var rfl) (ea_one (ed_var rfl))) ⟨fs, th, rfl, by omega, hl, fun x hx => name_ok (hf.names x hx), ht, rfl⟩) (fun q => ?_)) (t := .bl (lthB fs th && (fw cs th).isNone)) rfl
  have hth := lthB_th q
  exact (ed_isN (ed_call (ea_cons (ed_var rfl) (ea_one (ed_var rfl))) ⟨cs, th, rfl, fun c h => ⟨hth.has (hc.ends c h).1, hth.has (hc.ends c h).2.1⟩, rfl⟩)).to (congrArg FK.T.bl (oT_isN _))
end
end FK
set_option maxHeartbeats 8000000
namespace FK
open PySem L2
section
variable {P : Program} {w : World} {K : PySem.W.Frag} {mg : Str → Option Value} {base : Heap}
def R__law_led (T : Tx K mg) (ts : List FK.T) (t : FK.T) : Prop := ∃ fs cs a b sets, ts = [fsT fs, csT cs, tT a, tT b, .obj T.Led.C (leFs sets)] ∧ Fld fs ∧ Cks fs cs ∧ Tg fs a ∧ IsTh fs b ∧ t = .bl (ledB fs cs a b sets)
set_option maxHeartbeats 8000000 in
theorem ok__law_led (T : Tx K mg) : FnOk P w K mg base CX0 3 T._law_led.f T._law_led.fd ["_law_fields_here", "_law_checks_here", "_law_thing_here", "_law_there", "_law_found"] (spT P w (R__law_led T)) := by
  refine T._law_led.F.ok sc__law_led (len_T fun ts t h => by unfold R__law_led at h; obtain ⟨_, _, _, _, _, rfl, _⟩ := h; rfl) (fun cdv A outer s H vs Q E hr h => ⟨_, (pss_cons (ps_asg (pe_callTy call_dictD (by rfl) T.b_dict (by decide +kernel) (pa_cons (pv 2) pa_nil)) (gn 5 (sc__law_led).nd)) (pss_cons (ps_for PassesOwn.never rfl (pi_list (pe_fld (pv 4) rfl)) (pg_tup rfl (pgs_cons (gn 6 (sc__law_led).nd) (pgs_cons (gn 7 (sc__law_led).nd) pgs_nil))) (pss_cons (ps_if (PW.pt (pw_or (pt_cmpR (op_notInA (hu_of hr)) (pv 6) (pv 0) (by rfl)) (pw_or (pt_val (pe_callB call_isi (by rfl) T.b_isinstance (by decide +kernel) (pa_cons (pv 7) (pa_cons (pe_bltn (v := .ty "bool") (by rfl) T.b_bool (by decide +kernel) rfl) pa_nil)))) (pw_or (pt_not (pt_val (pe_callB call_isi (by rfl) T.b_isinstance (by decide +kernel) (pa_cons (pv 7) (pa_cons (pe_bltn (v := .ty "int") (by rfl) T.b_int (by decide +kernel) rfl) pa_nil))))) (pw_or1 (pt_cmpR (op_eqA hr.units) (pe_ix (ix_any (hu_of hr)) (pv 5) (pv 6) (fun _ _ => rfl)) (pv 7) (nomark _))))))) (pss_one (ps_ret pe_bl)) pss_nil) (pss_cons (ps_if (pt_not (pt_chain op_le op_le (pe_callB (call_min2 rfl) (by rfl) T.b_min (by decide +kernel) (pa_cons (pe_ix (ix_any (hu_of hr)) (pv 2) (pv 6) (fun _ _ => rfl)) (pa_cons (pe_ix (ix_any (hu_of hr)) (pv 3) (pv 6) (fun _ _ => rfl)) pa_nil))) (pv 7) (pe_callB (call_max2 rfl) (by rfl) T.b_max (by decide +kernel) (pa_cons (pe_ix (ix_any (hu_of hr)) (pv 2) (pv 6) (fun _ _ => rfl)) (pa_cons (pe_ix (ix_any (hu_of hr)) (pv 3) (pv 6) (fun _ _ => rfl)) pa_nil))))) (pss_one (ps_ret pe_bl)) pss_nil) (pss_cons (ps_asg (pv 7) (pg_sub (pv 5) (pv 6) (set_any (hu_of hr)))) (pss_one (ps_if (pt_cmpR op_isNotA (pe_call (ok__law_wrong (P := P) (w := w) (base := base) T) (hr.mono (by decide)) (by rfl) T._law_wrong.g T._law_wrong.F.kp T._law_wrong.b .nil pass0 (pa_cons (pv 1) (pa_cons (pv 5) pa_nil))) pe_non (nomark _)) (pss_one (ps_ret pe_bl)) pss_nil)))))) (pss_one (ps_ret (pe_cmpR (op_eqTh (Nat.lt_of_le_of_lt (Nat.le_add_right _ 64) hr.units)) (pv 5) (pv 3) (nomark _)))))), run_T (N := n__law_led) h ?_⟩)
  rintro ts r ⟨fs, cs, a, b, sets, rfl, hf, hc, ha, hb, rfl⟩
  have LC := T.Led.cl
  have lf := hf.most
  have efs : fsT fs = .lst ((fs.map some).map eT) := by rw [List.map_map]; rfl
  refine bd_then (bd_asgN (en_dictD (kvs := tL a) (ea_one (ed_var rfl))) fun h => ?_)
  refine bd_seq (Nx := fun Γ' => ∃ hr x6 x7, runB fs cs (loN a b) (hiN a b) a sets = some hr ∧ Γ' = ⟨[some (fsT fs), some (csT cs), some (tT a), some (tT b), some (.obj T.Led.C (leFs sets)), some (.val (.ref h)), x6, x7], [⟨false, h, .dic (tL hr)⟩]⟩) (bd_for (fun i Γ' => ∃ hr x6 x7, runB fs cs (loN a b) (hiN a b) hr (sets.drop i) = runB fs cs (loN a b) (hiN a b) a sets ∧ Tg fs hr ∧ Γ' = ⟨[some (fsT fs), some (csT cs), some (tT a), some (tT b), some (.obj T.Led.C (leFs sets)), some (.val (.ref h)), x6, x7], [⟨false, h, .dic (tL hr)⟩]⟩) (ei_list (ts := sets.map setT) (ed_fld LC T.n_Led_sets (ed_var rfl) rfl)) ⟨a, _, _, rfl, ha, rfl⟩ ?_ ?_) ?_
  · rintro i Γ' hi ⟨hr, x6, x7, hrun, htg, rfl⟩
    have hi' : i < sets.length := by simpa using hi
    rw [getD_map hi']
    rw [List.drop_eq_getElem_cons hi'] at hrun
    generalize sets[i] = q at hrun
    have hlen : hr.length ≤ 6 := by rw [htg.len]; exact lf
    refine ⟨_, eg_tup (egs_cons eg_name (egs_cons eg_name egs_nil)) rfl, ?_⟩
    refine bd_then (bd_if (et_or (et_test ((ed_notInE (e := some q.1) (es := fs.map some) (ed_var rfl) ((ed_var (t := fsT fs) rfl).to efs)).to (congrArg (fun z => FK.T.bl (!z)) (mem_someB q.1 fs)))) (fun z => et_or (b := false) (c := decide (numAt hr (some q.1) = q.2)) (et_val (ed_isi (ea_cons (ed_var (t := .int q.2) rfl) (ea_cons ed_val ea_nil)) rfl (.ty "bool") kit_int_bool)) (fun _ => et_or (c := decide (numAt hr (some q.1) = q.2)) (et_not (b := true) (et_val (ed_isi (ea_cons (ed_var (t := .int q.2) rfl) (ea_cons ed_val ea_nil)) rfl (.ty "int") kit_int_int))) (fun _ => et_test (ed_eqI (ed_ixDO (j := 0) (l := false) (kvs := tL hr) (ed_var rfl) (ed_var rfl) rfl (htg.th.look (by simpa using z))) (ed_var rfl)))))) (fun z => bd_ret ed_bl (congrArg FK.T.bl (led_false hrun ?_).symm)) (fun z => bd_next ?_))
    · unfold goB
      cases h1 : decide (q.1 ∈ fs) <;> cases h2 : decide (numAt hr (some q.1) = q.2) <;> simp [h1, h2] at z ⊢
    · have z1 : decide (q.1 ∈ fs) = true := by cases h1 : decide (q.1 ∈ fs) <;> simp [h1] at z ⊢
      have z2 : decide (numAt hr (some q.1) = q.2) = false := by cases h2 : decide (numAt hr (some q.1) = q.2) <;> simp [z1, h2] at z ⊢
      have hx : q.1 ∈ fs := of_decide_eq_true z1
      refine bd_then (bd_if (et_not (et_test (ed_chain (b := decide (loN a b q.1 ≤ q.2)) (c := decide (q.2 ≤ hiN a b q.1)) (ed_min2 (ea_cons (ed_ixD (kvs := tL a) (ed_var rfl) (ed_var rfl) (ha.th.look hx)) (ea_one (ed_ixD (kvs := tL b) (ed_var rfl) (ed_var rfl) (hb.look hx))))) (ed_var rfl) (rt_I0 fun _ => .bl _) (fun _ => ed_max2 (ea_cons (ed_ixD (kvs := tL a) (ed_var rfl) (ed_var rfl) (ha.th.look hx)) (ea_one (ed_ixD (kvs := tL b) (ed_var rfl) (ed_var rfl) (hb.look hx))))) (fun _ => rt_I0 fun _ => .bl _)))) (fun y => bd_ret ed_bl (congrArg FK.T.bl (led_false hrun ?_).symm)) (fun y => bd_next ?_))
      · unfold goB
        have y : (decide (loN a b q.1 ≤ q.2) && decide (q.2 ≤ hiN a b q.1)) = false := (Bool.not_eq_true' _).mp y
        rw [y]; simp
      · have y : (decide (loN a b q.1 ≤ q.2) && decide (q.2 ≤ hiN a b q.1)) = true := by cases h3 : (decide (loN a b q.1 ≤ q.2) && decide (q.2 ≤ hiN a b q.1)) <;> simp [h3] at y ⊢
        refine bd_then (bd_putD (j := 0) (l := false) (kvs := tL hr) (ed_var rfl) (ed_var rfl) (ed_var rfl) rfl (by unfold tL; rw [List.length_map]; omega) ?_)
        rw [put_tL]
        have htg2 := htg.put hx q.2
        have hgo : goB fs cs (loN a b) (hiN a b) hr q.1 q.2 = (fw cs (putA hr q.1 q.2)).isNone := by unfold goB; rw [z1, z2, y]; rfl
        refine bd_if (et_test (ed_notN (ed_callB (js := [0]) (bs := [⟨false, h, .dic (tL (putA hr q.1 q.2))⟩]) (ts := [csT cs, .val (.ref h)]) (ts' := [csT cs, tT (putA hr q.1 q.2)]) (t := oT (fw cs (putA hr q.1 q.2))) (ea_cons (ed_var rfl) (ea_one (ed_var rfl))) (Lent.one rfl) (fun G ho => ⟨.inl rfl, .inr ⟨_, rfl, own_tr (o := .dic (tL (putA hr q.1 q.2))) (ho _ (List.mem_singleton.mpr rfl))⟩, trivial⟩) ⟨cs, putA hr q.1 q.2, rfl, fun c hc' => ⟨htg2.th.has (hc.ends c hc').1, htg2.th.has (hc.ends c hc').2.1⟩, rfl⟩ (by cases fw cs (putA hr q.1 q.2) <;> rfl)))) (fun v => bd_ret ed_bl (congrArg FK.T.bl (led_false hrun ?_).symm)) (fun v => bd_next ⟨putA hr q.1 q.2, _, _, led_next hrun ?_, htg2, rfl⟩)
        · rw [hgo]
          cases e : fw cs (putA hr q.1 q.2) with
          | none => rw [e] at v; cases v
          | some k => rfl
        · rw [hgo]
          cases e : fw cs (putA hr q.1 q.2) with
          | none => rfl
          | some k => rw [e] at v; cases v
  · rintro Γ' ⟨hr, x6, x7, hrun, htg, rfl⟩
    rw [List.length_map, List.drop_length] at hrun
    exact ⟨hr, _, _, hrun.symm, rfl⟩
  · rintro Γ' ⟨hr, x6, x7, hrun, rfl⟩
    refine bd_ret (ed_eqTh (a := hr) (b := b) (ed_frz (j := 0) (o := .dic (tL hr)) (ed_var rfl) rfl) (ed_var rfl)) ?_
    unfold ledB
    rw [hrun]
theorem in_any (cs : List Chk) (f : Str) (ns : List Int) : decide ((some f : End) ∈ ns.map fun i => (ckAt cs i).1) = ns.any fun i => decide ((ckAt cs i).1 = some f) := by
  rw [Bool.eq_iff_iff, decide_eq_true_eq, List.any_eq_true, List.mem_map]
  exact ⟨fun ⟨i, h1, h2⟩ => ⟨i, h1, decide_eq_true h2⟩, fun ⟨i, h1, h2⟩ => ⟨i, h1, of_decide_eq_true h2⟩⟩
def R__law_bound (T : Tx K mg) (ts : List FK.T) (t : FK.T) : Prop := ∃ fs cs a b f ns, ts = [fsT fs, csT cs, tT a, tT b, .obj T.Bound.C (boFs f ns)] ∧ Fld fs ∧ Cks fs cs ∧ IsTh fs a ∧ IsTh fs b ∧ ns.length ≤ 10000 ∧ t = .bl (boundB fs cs a b f ns)
set_option maxHeartbeats 8000000 in
theorem ok__law_bound (T : Tx K mg) : FnOk P w K mg base CX0 3 T._law_bound.f T._law_bound.fd ["_law_fields_here", "_law_checks_here", "_law_thing_here", "_law_there", "_law_found"] (spT P w (R__law_bound T)) := by
  refine T._law_bound.F.ok sc__law_bound (len_T fun ts t h => by unfold R__law_bound at h; obtain ⟨_, _, _, _, _, _, rfl, _⟩ := h; rfl) (fun cdv A outer s H vs Q E hr h => ⟨_, (pss_cons (ps_if (PW.pt (pw_or (pt_cmpR (op_notInA (hu_of hr)) (pe_fld (pv 4) rfl) (pv 0) (by rfl)) (pw_or1 (pt_cmpR (op_eqA hr.units) (pe_ix (ix_any (hu_of hr)) (pv 2) (pe_fld (pv 4) rfl) (fun _ _ => rfl)) (pe_ix (ix_any (hu_of hr)) (pv 3) (pe_fld (pv 4) rfl) (fun _ _ => rfl)) (nomark _))))) (pss_one (ps_ret pe_bl)) pss_nil) (pss_cons (ps_if (PW.pt (pw_or (pt_not (pt_val (pe_call (ok__law_ring (P := P) (w := w) (base := base) T) (hr.mono (by decide)) (by rfl) T._law_ring.g T._law_ring.F.kp T._law_ring.b .nil pass0 (pa_cons (pv 1) (pa_cons (pe_fld (pv 4) rfl) pa_nil))))) (pw_or1 (pt_cmpR (op_neA hr.units) (pe_call (ok__law_total (P := P) (w := w) (base := base) T) (hr.mono (by decide)) (by rfl) T._law_total.g T._law_total.F.kp T._law_total.b .nil pass0 (pa_cons (pv 1) (pa_cons (pe_fld (pv 4) rfl) pa_nil))) pe_int (nomark _))))) (pss_one (ps_ret pe_bl)) pss_nil) (pss_one (ps_ret (pe_cmpR (op_inA (hu_of hr)) (pe_fld (pv 4) rfl) (pe_lc (own := [("_law_at_here", 5)]) rfl (sc__law_bound).nd (pi_list (pe_fld (pv 4) rfl)) (blkOk_by (N := n__law_bound) (sc := defScope s__law_bound) (by decide +kernel)) (fun _ _ _ _ _ => (gn 5 (sc__law_bound).nd)) (fun _ _ _ _ _ => pts_nil) (fun _ _ _ _ _ => (pe_ix (show IxR _ (rIxA P w K) from (ix_any (hu_of hr))) (pe_ix (show IxR _ (rIxA P w K) from (ix_any (hu_of hr))) (pv 1) (pv 5) (fun _ _ => rfl)) pe_int (fun _ _ => rfl)))) (by rfl)))))), run_T (N := n__law_bound) h ?_⟩)
  rintro ts r ⟨fs, cs, a, b, f, ns, rfl, hf, hc, ha, hb, hl, rfl⟩
  have BC := T.Bound.cl
  have efs : fsT fs = .lst ((fs.map some).map eT) := by rw [List.map_map]; rfl
  refine bd_then (bd_if (et_or (et_test ((ed_notInE (e := some f) (es := fs.map some) (ed_fld (t := .str f) BC T.n_Bound_field (ed_var (t := .obj T.Bound.C (boFs f ns)) rfl) rfl) ((ed_var (t := fsT fs) rfl).to efs)).to (congrArg (fun z => FK.T.bl (!z)) (mem_someB f fs)))) (fun z => et_test (ed_eqI (ed_ixD (kvs := tL a) (ed_var rfl) (ed_fld (t := .str f) BC T.n_Bound_field (ed_var (t := .obj T.Bound.C (boFs f ns)) rfl) rfl) (ha.look (by simpa using z))) (ed_ixD (kvs := tL b) (ed_var rfl) (ed_fld (t := .str f) BC T.n_Bound_field (ed_var (t := .obj T.Bound.C (boFs f ns)) rfl) rfl) (hb.look (by simpa using z)))))) (fun z => bd_ret ed_bl (congrArg FK.T.bl ?_)) (fun z => bd_next ?_))
  · unfold boundB
    cases h1 : decide (f ∈ fs) <;> cases h2 : decide (numAt a (some f) = numAt b (some f)) <;> simp [h1, h2] at z ⊢
  · have z1 : (decide (f ∈ fs) && !decide (numAt a (some f) = numAt b (some f))) = true := by cases h1 : decide (f ∈ fs) <;> cases h2 : decide (numAt a (some f) = numAt b (some f)) <;> simp [h1, h2] at z ⊢
    unfold boundB
    rw [z1, Bool.true_and]
    refine bd_then (bd_if (et_or (et_not (et_val (ed_call (ea_cons (ed_var (t := csT cs) rfl) (ea_one (ed_fld (t := intsT ns) BC T.n_Bound_counts (ed_var (t := .obj T.Bound.C (boFs f ns)) rfl) rfl))) ⟨cs, ns, rfl, hl, rfl⟩))) (fun y => et_test (ed_neI (ed_call (ea_cons (ed_var (t := csT cs) rfl) (ea_one (ed_fld (t := intsT ns) BC T.n_Bound_counts (ed_var (t := .obj T.Bound.C (boFs f ns)) rfl) rfl))) ⟨cs, ns, rfl, hl, ring_in (by simpa using y), rfl⟩) ed_int))) (fun y => bd_ret ed_bl (congrArg FK.T.bl ?_)) (fun y => bd_next ?_))
    · cases h1 : ringB cs ns <;> cases h2 : decide (sumI cs ns = 0) <;> simp [h1, h2] at y ⊢
    · have y1 : (ringB cs ns && decide (sumI cs ns = 0)) = true := by cases h1 : ringB cs ns <;> cases h2 : decide (sumI cs ns = 0) <;> simp [h1, h2] at y ⊢
      rw [y1, Bool.true_and, ← in_any]
      have hin := ring_in ((Bool.and_eq_true _ _).mp y1).1
      exact bd_ret (ed_inE (e := some f) (es := ns.map fun i => (ckAt cs i).1) (ed_fld (t := .str f) BC T.n_Bound_field (ed_var (t := .obj T.Bound.C (boFs f ns)) rfl) rfl) ((ed_of_en (en_mapL (g := FK.T.int) (xs := ns) (fun i => eT (ckAt cs i).1) (ed_fld (t := intsT ns) BC T.n_Bound_counts (ed_var (t := .obj T.Bound.C (boFs f ns)) rfl) rfl) (by omega) rfl (fun i hi => ⟨_, _, ev_name (by simp), ed_ixT (ed_ixL (ts := cs.map cT) (ed_var (t := csT cs) rfl) (ed_var rfl) (atI_map (g := cT) (atI_ck (hin i hi)))) ed_int rfl, rfl⟩))).to (by rw [List.map_map]; rfl))) rfl
theorem nearStep_tg {fs : List Str} {th : Thing} (h : Tg fs th) {x : Str} (hx : x ∈ fs) (n : Int) : Tg fs (putA th x n) := h.put hx n
def R__law_near (K : PySem.W.Frag) (gs : List AO) (ts : List FK.T) (Φ : FK.T → List AO → Prop) : Prop := ∃ s a ns b k fs cs th, gs = [(s, stO K a ns b k)] ∧ ts = [.val (.ref s), fsT fs, csT cs, tT th] ∧ 0 ≤ b ∧ 0 ≤ k ∧ Fld fs ∧ Cks fs cs ∧ GoodT fs cs th ∧
  Φ = fun t gs' => ∃ th' k', t = tT th' ∧ GoodT fs cs th' ∧ 0 ≤ k' ∧ gs' = [(s, stO K a ns b k')]
set_option maxHeartbeats 8000000 in
theorem ok__law_near (T : Tx K mg) : FnOk P w K mg base CX0 4 T._law_near.f T._law_near.fd ["_law_state", "_law_fields_here", "_law_checks_here", "_law_thing_here"] (spG P w (R__law_near K)) := by
  refine T._law_near.F.ok sc__law_near (len_G fun gs ts Φ h => by unfold R__law_near at h; obtain ⟨_, _, _, _, _, _, _, _, rfl, rfl, _⟩ := h; rfl) (fun cdv A outer s H vs Q E hr h => ⟨_, (pss_cons (ps_asg (pe_callTy call_dictD (by rfl) T.b_dict (by decide +kernel) (pa_cons (pv 3) pa_nil)) (gn 4 (sc__law_near).nd)) (pss_cons (ps_for PassesOwn.never rfl (pi_range1 (by rfl) T.b_range (pa_cons pe_int pa_nil)) (gn 5 (sc__law_near).nd) (pss_cons (ps_asg (pe_tup (pa_cons (pe_callTy call_dictD (by rfl) T.b_dict (by decide +kernel) (pa_cons (pv 4) pa_nil)) (pa_cons (pe_op op_sub (pe_call (ok__law_next (P := P) (w := w) (base := base) T) (hr.mono (by decide)) (by rfl) T._law_next.g T._law_next.F.kp T._law_next.b .nil pass0 (pa_cons (pv 0) (pa_cons pe_int pa_nil))) pe_int) pa_nil))) (pg_tup rfl (pgs_cons (gn 6 (sc__law_near).nd) (pgs_cons (gn 7 (sc__law_near).nd) pgs_nil)))) (pss_cons (ps_if (pt_cmpR (op_eqA hr.units) (pe_op op_mod (pv 5) pe_int) pe_int (nomark _)) (pss_one (ps_for PassesOwn.never rfl (pi_list (pv 1)) (gn 8 (sc__law_near).nd) (pss_one (ps_asg (pe_op op_addA (pe_ix (ix_any (hu_of hr)) (pv 6) (pv 8) (fun _ _ => rfl)) (pv 7)) (pg_sub (pv 6) (pv 8) (set_any (hu_of hr))))))) (pss_cons (ps_asg (pe_ix (ix_any (hu_of hr)) (pv 1) (pe_call (ok__law_next (P := P) (w := w) (base := base) T) (hr.mono (by decide)) (by rfl) T._law_next.g T._law_next.F.kp T._law_next.b .nil pass0 (pa_cons (pv 0) (pa_cons (pe_callB call_lenA (by rfl) T.b_len (by decide +kernel) (pa_cons (pv 1) pa_nil)) pa_nil))) (fun _ _ => rfl)) (gn 8 (sc__law_near).nd)) (pss_one (ps_asg (pe_op op_addA (pe_ix (ix_any (hu_of hr)) (pv 6) (pv 8) (fun _ _ => rfl)) (pv 7)) (pg_sub (pv 6) (pv 8) (set_any (hu_of hr))))))) (pss_one (ps_if (PW.pt (pw_and (pt_cmpR op_isA (pe_call (ok__law_wrong (P := P) (w := w) (base := base) T) (hr.mono (by decide)) (by rfl) T._law_wrong.g T._law_wrong.F.kp T._law_wrong.b .nil pass0 (pa_cons (pv 2) (pa_cons (pv 6) pa_nil))) pe_non (nomark _)) (pw_and1 (pt_cmpR op_le (pe_callB (cr_max rfl) (by rfl) T.b_max (by decide +kernel) (pa_cons (pe_lc (own := [("_law_field", 8)]) rfl (sc__law_near).nd (pi_list (pv 1)) (blkOk_by (N := n__law_near) (sc := defScope s__law_near) (by decide +kernel)) (fun _ _ _ _ _ => (gn 8 (sc__law_near).nd)) (fun _ _ _ _ _ => pts_nil) (fun _ _ _ _ _ => (pe_callB call_abs (by rfl) T.b_abs (by decide +kernel) (pa_cons (pe_ix (show IxR _ (rIxA P w K) from (ix_any (hu_of hr))) (pv 6) (pv 8) (fun _ _ => rfl)) pa_nil)))) pa_nil)) pe_int (nomark _))))) (pss_one (ps_asg (pv 6) (gn 4 (sc__law_near).nd))) pss_nil))))) (pss_one (ps_ret (pv 4))))), run_G (N := n__law_near) h ?_⟩)
  rintro gs ts Φ ⟨s, a, ns, b, k, fs, cs, th, rfl, rfl, hb, hk, hf, hc, hg, rfl⟩
  have lf := hf.most
  have lp := hf.pos
  refine bd_then (bd_asg (t := tT th) (ed_of_en (o := .dic (tL th)) (en_dictD (ea_one (ed_var rfl)))) eg_name ?_)
  refine bd_then (bd_range (fun i Γ' => ∃ t1 k1 x5 x6 x7, GoodT fs cs t1 ∧ 0 ≤ k1 ∧ Γ' = ⟨[some (.val (.ref s)), some (fsT fs), some (csT cs), some (tT th), some (tT t1), x5, x6, x7, none], [⟨true, s, stO K a ns b k1⟩]⟩) (ea_one ed_int) (by decide) (by decide) ⟨th, k, _, _, _, hg, hk, rfl⟩ ?_ ?_)
  · rintro i Γ' hi ⟨t1, k1, x5, x6, x7, hg1, hk1, rfl⟩
    refine ⟨_, eg_name, ?_⟩
    have htg1 := hg1.1
    refine bd_then (bd_asgXG (ex_tup (xa_cons (ex_en (en_dictD (kvs := tL t1) (ea_one (ed_var rfl))) fun d => xa_cons (ex_ed (ed_sub (ed_callM (js := [0]) [⟨true, s, stO K a ns b (k1 + 1)⟩] (ea_cons (ed_var rfl) (ea_one ed_int)) (by decide) (Lent.one rfl) rfl ⟨s, a, ns, b, k1, 41, rfl, rfl, hb, hk1, by decide, rfl, rfl⟩) ed_int) (xa_nil ⟨by simp, _, eg_tup (egs_cons eg_name (egs_cons eg_name egs_nil)) rfl, ?_⟩))))))
    generalize nextV ns b k1 41 - 20 = more
    refine bd_seq (Nx := fun Γ' => ∃ t2 k2 x8, Tg fs t2 ∧ 0 ≤ k2 ∧ Γ' = ⟨[some (.val (.ref s)), some (fsT fs), some (csT cs), some (tT th), some (tT t1), some (.int (i : Nat)), some (.val (.ref d)), some (.int more), x8], [⟨true, s, stO K a ns b k2⟩, ⟨false, d, .dic (tL t2)⟩]⟩) (bd_if (b := decide (((i : Nat) : Int) % 3 = 0)) (et_test (ed_eqI (ed_mod (ed_var rfl) ed_int (by decide)) ed_int)) (fun _ => ?_) (fun _ => ?_)) ?_
    · refine bd_foldL (xs := fs) (g := FK.T.str) (fun (_ : Unit) Γ' => ∃ t2 k2 x8, Tg fs t2 ∧ 0 ≤ k2 ∧ Γ' = ⟨[some (.val (.ref s)), some (fsT fs), some (csT cs), some (tT th), some (tT t1), some (.int (i : Nat)), some (.val (.ref d)), some (.int more), x8], [⟨true, s, stO K a ns b k2⟩, ⟨false, d, .dic (tL t2)⟩]⟩) (fun _ _ => ()) () (ed_var rfl) ⟨t1, k1 + 1, _, htg1, by omega, rfl⟩ (fun x hx _ Γ' hΓ => ?_) (fun _ h => h)
      obtain ⟨t2, k2, x8, htg, hk2, rfl⟩ := hΓ
      refine ⟨_, eg_name, ?_⟩
      have hlen : t2.length ≤ 6 := by rw [htg.len]; exact lf
      refine bd_putD (j := 1) (l := false) (kvs := tL t2) (ed_add (ed_ixDO (j := 1) (l := false) (kvs := tL t2) (ed_var rfl) (ed_var rfl) rfl (htg.th.look hx)) (ed_var rfl)) (ed_var rfl) (ed_var rfl) rfl (by unfold tL; rw [List.length_map]; omega) ⟨putA t2 x (numAt t2 (some x) + more), k2, some (.str x), htg.put hx _, hk2, ?_⟩
      rw [put_tL]; rfl
    · have hn := next_in ns b (k1 + 1) (m := ((fs.map FK.T.str).length : Nat)) (by rw [List.length_map]; omega)
      rw [List.length_map] at hn
      obtain ⟨x, hat, hx⟩ := atI_in (xs := fs) hn.1 hn.2
      have hlen : t1.length ≤ 6 := by rw [htg1.len]; exact lf
      refine bd_then (bd_asg (t := .str x) (ed_ixL (ts := fs.map FK.T.str) (ed_var rfl) (ed_callM (js := [0]) (gh := [⟨true, s, stO K a ns b (k1 + 1)⟩]) [⟨true, s, stO K a ns b (k1 + 1 + 1)⟩] (ea_cons (ed_var rfl) (ea_one (ed_lenL (ts := fs.map FK.T.str) (ea_one (ed_var rfl))))) (by decide) (Lent.one rfl) rfl ⟨s, a, ns, b, k1 + 1, _, rfl, rfl, hb, by omega, by rw [List.length_map]; omega, rfl, rfl⟩) (by rw [List.length_map]; exact atI_map (g := FK.T.str) hat)) eg_name ?_)
      refine bd_putD (j := 1) (l := false) (kvs := tL t1) (ed_add (ed_ixDO (j := 1) (l := false) (kvs := tL t1) (ed_var rfl) (ed_var rfl) rfl (htg1.th.look hx)) (ed_var rfl)) (ed_var rfl) (ed_var rfl) rfl (by unfold tL; rw [List.length_map]; omega) ⟨putA t1 x (numAt t1 (some x) + more), k1 + 1 + 1, some (.str x), htg1.put hx _, by omega, ?_⟩
      rw [put_tL]; rfl
    · rintro Γ' ⟨t2, k2, x8, htg, hk2, rfl⟩
      refine bd_sub ((sub_share (i := 6) (k := 1) (d := d) (o := .dic (tL t2)) rfl rfl).trans (sub_forget [8])) ?_
      obtain ⟨m, hm⟩ : ∃ m, maxO (fs.map fun x => absN (numAt t2 (some x))) = some m := by
        cases e : maxO (fs.map fun x => absN (numAt t2 (some x))) with
        | none => have := maxO_none e; rw [List.map_eq_nil_iff] at this; rw [this] at lp; simp at lp
        | some m => exact ⟨m, rfl⟩
      obtain ⟨hm1, hm2⟩ := maxO_mem hm
      show Bd P w _ ⟨[some (.val (.ref s)), some (fsT fs), some (csT cs), some (tT th), some (tT t1), some (.int (i : Nat)), some (tT t2), some (.int more), none], [⟨true, s, stO K a ns b k2⟩]⟩ _ _
      refine bd_if (et_and (b := (oT (fw cs t2)).isN) (c := decide (m ≤ 40)) (et_test (ed_isN (ed_call (ea_cons (ed_var rfl) (ea_one (ed_var (t := tT t2) rfl))) ⟨cs, t2, rfl, fun c hc' => ⟨htg.th.has (hc.ends c hc').1, htg.th.has (hc.ends c hc').2.1⟩, rfl⟩))) (fun _ => et_test (ed_le (ed_maxL (ns := fs.map fun x => absN (numAt t2 (some x))) (m := m) (ea_one ((ed_of_en (en_mapL (g := FK.T.str) (xs := fs) (fun x => .int (absN (numAt t2 (some x)))) (ed_var rfl) (by omega) rfl (fun x hx => ⟨_, _, ev_name (by simp), ed_abs (ea_one (ed_ixD (kvs := tL t2) (ed_var rfl) (ed_var rfl) (htg.th.look hx))), rfl⟩))).to (by rw [List.map_map]; rfl))) hm1 hm2) ed_int))) (fun z => ?_) (fun z => bd_next ⟨t1, k2, _, _, _, hg1, hk2, rfl⟩)
      obtain ⟨z1, z2⟩ := (Bool.and_eq_true _ _).mp z
      have z2 := of_decide_eq_true z2
      refine bd_asg (ed_var (t := tT t2) rfl) eg_name ⟨t2, k2, _, _, _, ⟨htg, List.all_eq_true.mpr fun x hx => decide_eq_true ?_, ?_⟩, hk2, rfl⟩
      · have := hm2 _ (List.mem_map.mpr ⟨x, hx, rfl⟩); omega
      · cases e : fw cs t2 with
        | none => rfl
        | some k => rw [e] at z1; cases z1
  · rintro Γ' ⟨t1, k1, x5, x6, x7, hg1, hk1, rfl⟩
    exact bd_ret (ed_var rfl) ⟨[(s, stO K a ns b k1)], [], rfl, t1, k1, rfl, hg1, hk1, rfl⟩
end
end FK
set_option maxHeartbeats 8000000
namespace FK
open PySem L2
section
variable {P : Program} {w : World} {K : PySem.W.Frag} {mg : Str → Option Value} {base : Heap}
def nearT (fs : List Str) (th : Thing) : List Thing := [th, [], putA th (fs.headD "") (numAt th (some (fs.headD "")) + 1), putA th (fs.headD "") (numAt th (some (fs.headD "")) + -1), th.filter (fun p => decide (p.1 ≠ fs.getLastD "")), putA th "other" 0]
def R__law_things (ts : List FK.T) (t : FK.T) : Prop := ∃ th fs, ts = [tT th, fsT fs] ∧ Fld fs ∧ Tg fs th ∧ t = .lst ((nearT fs th).map tT)
theorem tL_filter (th : Thing) (x : Str) : (tL th).filter (fun p => decide (p.1 ≠ x)) = tL (th.filter fun p => decide (p.1 ≠ x)) := by
  unfold tL
  rw [List.filter_map]
  rfl
theorem fs_head {fs : List Str} (h : 1 ≤ fs.length) : fs.headD "" ∈ fs ∧ atI fs 0 = some (fs.headD "") := by
  cases fs with
  | nil => simp at h
  | cons x r => exact ⟨List.mem_cons_self, atI_head rfl⟩
theorem fs_last {fs : List Str} (h : 1 ≤ fs.length) : fs.getLastD "" ∈ fs ∧ atI fs (((0 : Nat) : Int) - 1) = some (fs.getLastD "") := by
  cases fs with
  | nil => simp at h
  | cons x r =>
    have e : (x :: r).getLast? = some ((x :: r).getLastD "") := by
      rw [List.getLastD_eq_getLast?, List.getLast?_eq_some_getLast (by simp)]; rfl
    exact ⟨List.mem_of_getLast? e, atI_last e⟩
set_option maxHeartbeats 8000000 in
theorem ok__law_things (T : Tx K mg) : FnOk P w K mg base CX0 1 T._law_things.f T._law_things.fd ["_law_thing_here", "_law_fields_here"] (spT P w (R__law_things)) := by
  refine T._law_things.F.ok sc__law_things (len_T fun ts t h => by unfold R__law_things at h; obtain ⟨_, _, rfl, _⟩ := h; rfl) (fun cdv A outer s H vs Q E hr h => ⟨_, (pss_cons (ps_asg (pe_lst (pa_cons (pv 0) (pa_cons pe_dnew pa_nil))) (gn 2 (sc__law_things).nd)) (pss_cons (ps_for PassesOwn.never rfl (pi_tup (pe_tup (pa_cons pe_int (pa_cons (pe_un un_neg pe_int) pa_nil)))) (gn 3 (sc__law_things).nd) (pss_cons (ps_asg (pe_callTy call_dictD (by rfl) T.b_dict (by decide +kernel) (pa_cons (pv 0) pa_nil)) (gn 4 (sc__law_things).nd)) (pss_cons (ps_asg (pe_op op_addA (pe_ix (ix_any (hu_of hr)) (pv 4) (pe_ix (ix_any (hu_of hr)) (pv 1) pe_int (fun _ _ => rfl)) (fun _ _ => rfl)) (pv 3)) (pg_sub (pv 4) (pe_ix (ix_any (hu_of hr)) (pv 1) pe_int (fun _ _ => rfl)) (set_any (hu_of hr)))) (pss_one (ps_expr (pe_bm PySem.F.plainAttrs_list PySem.F.slot_list_append PySem.F.type_list_append mt_append (pv 2) (pa_cons (pv 4) pa_nil))))))) (pss_cons (ps_par (i := 5) (j := 6) rfl (sc__law_things).nd rfl rfl (by decide) rfl rfl (pa_cons (pe_callTy call_dictD (by rfl) T.b_dict (by decide +kernel) (pa_cons (pv 0) pa_nil)) (pa_cons (pe_callTy call_dictD (by rfl) T.b_dict (by decide +kernel) (pa_cons (pv 0) pa_nil)) pa_nil)) (by rfl)) (pss_cons (ps_expr (pe_dpop1 (pv 5) (pe_ix (ix_any (hu_of hr)) (pv 1) (pe_un un_neg pe_int) (fun _ _ => rfl)) ⟨by rfl, by rfl, by rfl, by rfl⟩)) (pss_cons (ps_asg pe_int (pg_sub (pv 6) pe_str (set_any (hu_of hr)))) (pss_one (ps_ret (pe_op op_addA (pv 2) (pe_lst (pa_cons (pv 5) (pa_cons (pv 6) pa_nil))))))))))), run_T (N := n__law_things) h ?_⟩)
  rintro ts r ⟨th, fs, rfl, hf, ht, rfl⟩
  have lf := hf.most
  have hlen : th.length ≤ 6 := by rw [ht.len]; exact lf
  obtain ⟨hm0, at0⟩ := fs_head hf.pos
  obtain ⟨hml, atl⟩ := fs_last hf.pos
  unfold nearT
  generalize fs.headD "" = x0 at hm0 at0
  generalize fs.getLastD "" = xl at hml atl
  have at0 : atI (fs.map FK.T.str) 0 = some (.str x0) := atI_map (g := FK.T.str) at0
  have atl : atI (fs.map FK.T.str) (((0 : Nat) : Int) - 1) = some (.str xl) := atI_map (g := FK.T.str) atl
  refine bd_then (bd_asgN (en_lst (ea_cons (ed_var (t := tT th) rfl) (ea_one (ed_of_en (o := .dic []) en_dnew))) (by simp)) fun f => ?_)
  refine bd_then (bd_for (fun i Γ' => ∃ x3 x4, Γ' = ⟨[some (tT th), some (fsT fs), some (.val (.ref f)), x3, x4, none, none], [⟨false, f, .lst (([th, []] ++ ([putA th x0 (numAt th (some x0) + 1), putA th x0 (numAt th (some x0) + -1)] : List Thing).take i).map tT)⟩]⟩) (ei_tup (ts := [1, (-1 : Int)].map FK.T.int) (ed_tup (ea_cons ed_int (ea_one (ed_neg ed_int))) (by simp))) ⟨_, _, rfl⟩ ?_ ?_)
  · rintro i Γ' hi ⟨x3, x4, rfl⟩
    have hi' : i < 2 := by simpa using hi
    refine ⟨_, eg_name, ?_⟩
    rw [getD_map (by simpa using hi')]
    have hstep : ∀ (e : Int), e = [1, (-1 : Int)][i]'(by simpa using hi') → ([th, []] ++ ([putA th x0 (numAt th (some x0) + 1), putA th x0 (numAt th (some x0) + -1)] : List Thing).take (i + 1)) = ([th, []] ++ ([putA th x0 (numAt th (some x0) + 1), putA th x0 (numAt th (some x0) + -1)] : List Thing).take i) ++ [putA th x0 (numAt th (some x0) + e)] := fun e he => by
      rcases (by omega : i = 0 ∨ i = 1) with rfl | rfl
      · rw [he]; rfl
      · rw [he]; rfl
    have hstep := hstep _ rfl
    have hll : ([th, []] ++ ([putA th x0 (numAt th (some x0) + 1), putA th x0 (numAt th (some x0) + -1)] : List Thing).take i).length ≤ 4 := by rw [List.length_append, List.length_take]; simp; omega
    rw [hstep]
    generalize [1, (-1 : Int)][i]'(by simpa using hi') = e
    generalize ([th, []] ++ ([putA th x0 (numAt th (some x0) + 1), putA th x0 (numAt th (some x0) + -1)] : List Thing).take i) = L at hll
    refine bd_then (bd_asgN (en_dictD (kvs := tL th) (ea_one (ed_var rfl))) fun d => ?_)
    refine bd_then (bd_putD (j := 1) (l := false) (kvs := tL th) (ed_add (ed_ixDO (j := 1) (l := false) (kvs := tL th) (ed_var rfl) (ed_ixL (ts := fs.map FK.T.str) (ed_var rfl) ed_int at0) rfl (ht.th.look hm0)) (ed_var rfl)) (ed_var rfl) (ed_ixL (ts := fs.map FK.T.str) (ed_var rfl) ed_int at0) rfl (by unfold tL; rw [List.length_map]; omega) ?_)
    rw [put_tL]
    refine bd_sub (sub_share (i := 4) (k := 1) (d := d) (o := .dic (tL (putA th x0 (numAt th (some x0) + e)))) rfl rfl) ?_
    refine bd_append (j := 0) (l := false) (ts := L.map tT) (t := tT (putA th x0 (numAt th (some x0) + e))) (ed_var rfl) rfl (ed_var rfl) rfl (by rw [List.length_map]; omega) ⟨some (.int e), some (tT (putA th x0 (numAt th (some x0) + e))), ?_⟩
    rw [List.map_append]; rfl
  · rintro Γ' ⟨x3, x4, rfl⟩
    refine bd_then (bd_parX (xa_cons (ex_en (en_dictD (kvs := tL th) (ea_one (ed_var rfl))) fun d1 => xa_cons (ex_en (en_dictD (kvs := tL th) (ea_one (ed_var rfl))) fun d2 => xa_nil ⟨_, _, rfl, ?_⟩))))
    refine bd_then (bd_popD (j := 1) (l := false) (kvs0 := tL th) (kvs := tL th) (ed_var rfl) rfl (ed_ixL (ts := fs.map FK.T.str) (ed_var rfl) (ed_neg ed_int) atl) rfl (ht.th.look hml) ?_)
    rw [tL_filter]
    refine bd_then (bd_putD (j := 2) (l := false) (kvs := tL th) ed_int (ed_var rfl) ed_str rfl (by unfold tL; rw [List.length_map]; omega) ?_)
    rw [put_tL]
    refine bd_sub ((sub_share (i := 6) (k := 2) (d := d2) (o := .dic (tL (putA th "other" 0))) rfl rfl).trans ((sub_share (i := 5) (k := 1) (d := d1) (o := .dic (tL (th.filter fun p => decide (p.1 ≠ xl)))) rfl rfl).trans (sub_share (i := 2) (k := 0) (d := f) (o := .lst (([th, []] ++ ([putA th x0 (numAt th (some x0) + 1), putA th x0 (numAt th (some x0) + -1)] : List Thing).take 2).map tT)) rfl rfl))) ?_
    exact bd_ret (ed_catG (g := tT) (xs := [th, [], putA th x0 (numAt th (some x0) + 1), putA th x0 (numAt th (some x0) + -1)]) (ys := [th.filter fun p => decide (p.1 ≠ xl), putA th "other" 0]) (ed_var rfl) (ed_lst (ea_cons (ed_var rfl) (ea_one (ed_var rfl))) (by simp)) (by simp)) rfl
end
end FK
set_option maxHeartbeats 8000000
namespace FK
open PySem L2
section
variable {P : Program} {w : World} {K : PySem.W.Frag} {mg : Str → Option Value} {base : Heap}
def ListsOk (L : List (List Int)) : Prop := L.length ≤ 100 ∧ ∀ l ∈ L, l.length ≤ 5000
def R__law_lists (K : PySem.W.Frag) (gs : List AO) (ts : List FK.T) (Φ : FK.T → List AO → Prop) : Prop := ∃ s a ns b k, ∃ us : List Int, ∃ m : Nat, gs = [(s, stO K a ns b k)] ∧ ts = [.val (.ref s), intsT us, .int (m : Nat)] ∧ 0 ≤ b ∧ 0 ≤ k ∧ us.length ≤ 2000 ∧ m ≤ 100 ∧
  Φ = fun t gs' => ∃ L k', t = .lst (L.map intsT) ∧ ListsOk L ∧ 0 ≤ k' ∧ gs' = [(s, stO K a ns b k')]
theorem ListsOk.app {L M : List (List Int)} (h : L.length + M.length ≤ 100) (h1 : ListsOk L) (h2 : ∀ l ∈ M, l.length ≤ 5000) : ListsOk (L ++ M) := ⟨by rw [List.length_append]; exact h, fun l hl => (List.mem_append.mp hl).elim (h1.2 l) (h2 l)⟩
set_option maxHeartbeats 8000000 in
theorem ok__law_lists (T : Tx K mg) : FnOk P w K mg base CX0 4 T._law_lists.f T._law_lists.fd ["_law_state", "_law_counts", "_law_many"] (spG P w (R__law_lists K)) := by
  refine T._law_lists.F.ok sc__law_lists (len_G fun gs ts Φ h => by unfold R__law_lists at h; obtain ⟨_, _, _, _, _, _, _, rfl, rfl, _⟩ := h; rfl) (fun cdv A outer s H vs Q E hr h => ⟨_, (pss_cons (ps_asg (pe_lst (pa_cons (pv 1) (pa_cons (pe_slice sl_list (pv 1) (po_some pe_int) po_none) (pa_cons (pe_slice sl_list (pv 1) po_none (po_some (pe_un un_neg pe_int))) (pa_cons (pe_op op_addA (pv 1) (pv 1)) (pa_cons (pe_revL (pv 1)) (pa_cons (pe_lst pa_nil) pa_nil))))))) (gn 3 (sc__law_lists).nd)) (pss_cons (ps_asg (pe_op op_addA (pv 3) (pe_lst (pa_cons (pe_op op_addA (pv 1) (pe_lst (pa_cons (pv 2) pa_nil))) (pa_cons (pe_op op_addA (pv 1) (pe_lst (pa_cons (pe_un un_neg pe_int) pa_nil))) pa_nil)))) (gn 3 (sc__law_lists).nd)) (pss_cons (ps_asg (pe_op op_addA (pe_op op_addA (pv 3) (pe_lc (own := [("_law_at_here", 4)]) rfl (sc__law_lists).nd (pi_range1 (by rfl) T.b_range (pa_cons (pe_callB (call_min2 rfl) (by rfl) T.b_min (by decide +kernel) (pa_cons (pv 2) (pa_cons pe_int pa_nil))) pa_nil)) (blkOk_by (N := n__law_lists) (sc := defScope s__law_lists) (by decide +kernel)) (fun _ _ _ _ _ => (gn 4 (sc__law_lists).nd)) (fun _ _ _ _ _ => pts_nil) (fun _ _ _ _ _ => (pe_lst (pa_cons (pv 4) pa_nil))))) (pe_lst (pa_cons (pe_op op_addA (pe_slice sl_list (pv 1) (po_some pe_int) po_none) (pe_slice sl_list (pv 1) po_none (po_some pe_int))) pa_nil))) (gn 3 (sc__law_lists).nd)) (pss_cons (ps_asg (pe_op op_addA (pv 3) (pe_lst (pa_cons (pe_lst (pa_cons (pe_op op_sub (pv 2) pe_int) (pa_cons (pe_op op_sub (pv 2) pe_int) pa_nil))) (pa_cons (pe_lst (pa_cons (pe_op op_sub (pv 2) pe_int) (pa_cons (pe_op op_sub (pv 2) pe_int) pa_nil))) (pa_cons (pe_op op_mulA (pe_lst (pa_cons (pe_op op_sub (pv 2) pe_int) (pa_cons (pe_op op_sub (pv 2) pe_int) pa_nil))) pe_int) pa_nil))))) (gn 3 (sc__law_lists).nd)) (pss_cons (ps_expr (pe_bm PySem.F.plainAttrs_list PySem.F.slot_list_append PySem.F.type_list_append mt_append (pv 3) (pa_cons (pe_lc (own := [("_law_turn", 5)]) rfl (sc__law_lists).nd (pi_range1 (by rfl) T.b_range (pa_cons pe_int pa_nil)) (blkOk_by (N := n__law_lists) (sc := defScope s__law_lists) (by decide +kernel)) (fun _ _ _ _ _ => (gn 5 (sc__law_lists).nd)) (fun _ _ _ _ _ => pts_nil) (fun _ _ _ _ _ => (pe_call (ok__law_next (P := P) (w := w) (base := base) T) (hr.mono (by decide)) (by rfl) T._law_next.g T._law_next.F.kp T._law_next.b .nil pass0 (pa_cons (pv 0) (pa_cons (pe_op op_addA (pv 2) pe_int) pa_nil))))) pa_nil))) (pss_one (ps_ret (pv 3)))))))), run_G (N := n__law_lists) h ?_⟩)
  rintro gs ts Φ ⟨s, a, ns, b, k, us, m, rfl, rfl, hb, hk, hu, hm, rfl⟩
  have cl : ∀ lo hi, (cutG us lo hi).length ≤ 2000 := fun lo hi => Nat.le_trans (cutG_len us lo hi) hu
  refine bd_then (bd_asg (t := .lst (([us, cutG us (some 1) none, cutG us none (some (((0 : Nat) : Int) - 1)), us ++ us, us.reverse, []] : List (List Int)).map intsT)) (ed_lst (ea_cons (ed_var (t := intsT us) rfl) (ea_cons (ed_cutG (g := FK.T.int) (xs := us) (ed_var rfl) (eo_some ed_int) eo_none) (ea_cons (ed_cutG (g := FK.T.int) (xs := us) (ed_var rfl) eo_none (eo_some (ed_neg ed_int))) (ea_cons (ed_catG (g := FK.T.int) (xs := us) (ys := us) (ed_var rfl) (ed_var rfl) (by omega)) (ea_cons (ed_revG (g := FK.T.int) (xs := us) (ed_var rfl)) (ea_one (ed_lst ea_nil (by simp)))))))) (by simp)) eg_name ?_)
  have ok1 : ListsOk [us, cutG us (some 1) none, cutG us none (some (((0 : Nat) : Int) - 1)), us ++ us, us.reverse, []] := ⟨by simp, fun l hl => by
    have h1 := cl (some 1) none
    have h2 := cl none (some (((0 : Nat) : Int) - 1))
    simp only [List.mem_cons, List.not_mem_nil, or_false] at hl
    rcases hl with rfl | rfl | rfl | rfl | rfl | rfl
    · omega
    · omega
    · omega
    · rw [List.length_append]; omega
    · rw [List.length_reverse]; omega
    · simp⟩
  have l1 : ([us, cutG us (some 1) none, cutG us none (some (((0 : Nat) : Int) - 1)), us ++ us, us.reverse, []] : List (List Int)).length = 6 := rfl
  generalize ([us, cutG us (some 1) none, cutG us none (some (((0 : Nat) : Int) - 1)), us ++ us, us.reverse, []] : List (List Int)) = L1 at ok1 l1
  refine bd_then (bd_asg (t := .lst ((L1 ++ [us ++ [(m : Int)], us ++ [((0 : Nat) : Int) - 1]]).map intsT)) (ed_catG (g := intsT) (xs := L1) (ys := [us ++ [(m : Int)], us ++ [((0 : Nat) : Int) - 1]]) (ed_var rfl) (ed_lst (ea_cons (ed_catG (g := FK.T.int) (xs := us) (ys := [(m : Int)]) (ed_var rfl) (ed_lst (ea_one (ed_var rfl)) (by simp)) (by simp; omega)) (ea_one (ed_catG (g := FK.T.int) (xs := us) (ys := [((0 : Nat) : Int) - 1]) (ed_var rfl) (ed_lst (ea_one (ed_neg ed_int)) (by simp)) (by simp; omega)))) (by simp)) (by simp; omega)) eg_name ?_)
  have ok2 : ListsOk (L1 ++ [us ++ [(m : Int)], us ++ [((0 : Nat) : Int) - 1]]) := ok1.app (by simp; omega) fun l hl => by
    simp only [List.mem_cons, List.not_mem_nil, or_false] at hl
    rcases hl with rfl | rfl <;> simp <;> omega
  have l2 : (L1 ++ [us ++ [(m : Int)], us ++ [((0 : Nat) : Int) - 1]]).length = 8 := by rw [List.length_append, l1]; rfl
  generalize (L1 ++ [us ++ [(m : Int)], us ++ [((0 : Nat) : Int) - 1]]) = L2 at ok2 l2
  obtain ⟨j, hj, hj5⟩ : ∃ j : Int, j = (if (5 : Int) < ((m : Nat) : Int) then (5 : Int) else ((m : Nat) : Int)) ∧ (0 ≤ j ∧ j ≤ 5) := ⟨_, rfl, by split <;> omega⟩
  refine bd_then (bd_asg (t := .lst (((L2 ++ (List.range j.toNat).map fun i : Nat => [(i : Int)]) ++ [cutG us (some 1) none ++ cutG us none (some 1)]).map intsT)) (ed_catG (g := intsT) (xs := L2 ++ (List.range j.toNat).map fun i : Nat => [(i : Int)]) (ys := [cutG us (some 1) none ++ cutG us none (some 1)]) (ed_catG (g := intsT) (xs := L2) (ys := (List.range j.toNat).map fun i : Nat => [(i : Int)]) (ed_var rfl) ((ed_of_en (en_mapI (n := j.toNat) (fun i => intsT [(i : Int)]) (ei_range1 (j := j) (ea_one ((ed_min2 (ea_cons (ed_var (t := .int (m : Nat)) rfl) (ea_one ed_int))).to ?_)) (by omega) (by omega)) (by omega) rfl (fun i hi => ⟨_, _, ev_name (by simp), (ed_lst (ea_one (ed_var rfl)) (by simp)).to ?_, rfl⟩))).to ?_) ?_) (ed_lst (ea_one (ed_catG (g := FK.T.int) (xs := cutG us (some 1) none) (ys := cutG us none (some 1)) (ed_cutG (g := FK.T.int) (xs := us) (ed_var rfl) (eo_some ed_int) eo_none) (ed_cutG (g := FK.T.int) (xs := us) (ed_var rfl) eo_none (eo_some ed_int)) (by have := cl (some 1) none; have := cl none (some 1); omega))) (by simp)) ?_) eg_name ?_)
  · rw [hj]
  · show FK.T.lst [FK.T.int (0 + (i : Nat))] = FK.T.lst [FK.T.int (i : Nat)]
    rw [show (0 : Int) + (i : Nat) = (i : Nat) by omega]
  · rw [List.map_map]; rfl
  · rw [List.length_map, List.length_range]; omega
  · simp; omega
  have ok3 : ListsOk ((L2 ++ (List.range j.toNat).map fun i : Nat => [(i : Int)]) ++ [cutG us (some 1) none ++ cutG us none (some 1)]) := by
    refine (ok2.app (by rw [List.length_map, List.length_range]; omega) fun l hl => ?_).app (by simp; omega) fun l hl => ?_
    · obtain ⟨i, _, rfl⟩ := List.mem_map.mp hl; simp
    · rw [List.mem_singleton.mp hl, List.length_append]; have := cl (some 1) none; have := cl none (some 1); omega
  have l3 : ((L2 ++ (List.range j.toNat).map fun i : Nat => [(i : Int)]) ++ [cutG us (some 1) none ++ cutG us none (some 1)]).length ≤ 14 := by simp; omega
  generalize ((L2 ++ (List.range j.toNat).map fun i : Nat => [(i : Int)]) ++ [cutG us (some 1) none ++ cutG us none (some 1)]) = L3 at ok3 l3
  refine bd_then (bd_asgN (o := .lst (L3.map intsT ++ ([[(m : Int) - 2, (m : Int) - 1], [(m : Int) - 1, (m : Int) - 2], [(m : Int) - 2, (m : Int) - 1, (m : Int) - 2, (m : Int) - 1]] : List (List Int)).map intsT)) (en_cat (ed_var rfl) (ed_lst (ea_cons (ed_lst (ea_cons (ed_sub (ed_var rfl) ed_int) (ea_one (ed_sub (ed_var rfl) ed_int))) (by simp)) (ea_cons (ed_lst (ea_cons (ed_sub (ed_var rfl) ed_int) (ea_one (ed_sub (ed_var rfl) ed_int))) (by simp)) (ea_one ((ed_of_en (en_rep (n := 2) (ed_lst (ea_cons (ed_sub (ed_var rfl) ed_int) (ea_one (ed_sub (ed_var rfl) ed_int))) (by simp)) ed_int (by decide) (by decide) (by simp))).to rfl)))) (by simp)) (by simp; omega)) fun f => ?_)
  have ok4 : ListsOk (L3 ++ [[(m : Int) - 2, (m : Int) - 1], [(m : Int) - 1, (m : Int) - 2], [(m : Int) - 2, (m : Int) - 1, (m : Int) - 2, (m : Int) - 1]]) := ok3.app (by simp; omega) fun l hl => by
    simp only [List.mem_cons, List.not_mem_nil, or_false] at hl
    rcases hl with rfl | rfl | rfl <;> simp
  have l4 : (L3 ++ [[(m : Int) - 2, (m : Int) - 1], [(m : Int) - 1, (m : Int) - 2], [(m : Int) - 2, (m : Int) - 1, (m : Int) - 2, (m : Int) - 1]]).length ≤ 17 := by rw [List.length_append]; simp; omega
  rw [← List.map_append]
  generalize (L3 ++ [[(m : Int) - 2, (m : Int) - 1], [(m : Int) - 1, (m : Int) - 2], [(m : Int) - 2, (m : Int) - 1, (m : Int) - 2, (m : Int) - 1]]) = L4 at ok4 l4
  have hm1 : (0 : Int) < (m : Nat) + 1 := by omega
  refine bd_then (bd_append (Γ2 := ⟨[some (.val (.ref s)), some (intsT us), some (.int (m : Nat)), some (.val (.ref f)), none, none], [⟨true, s, stO K a ns b (k + ((3 : Nat) : Int))⟩, ⟨false, f, .lst (L4.map intsT)⟩]⟩) (j := 1) (l := false) (ts := L4.map intsT) (ts1 := L4.map intsT) (t := .lst [.int (nextV ns b (k + ((0 : Nat) : Int)) ((m : Nat) + 1)), .int (nextV ns b (k + ((1 : Nat) : Int)) ((m : Nat) + 1)), .int (nextV ns b (k + ((2 : Nat) : Int)) ((m : Nat) + 1))]) (ed_var rfl) rfl (ed_of_en (o := .lst [.int (nextV ns b (k + ((0 : Nat) : Int)) ((m : Nat) + 1)), .int (nextV ns b (k + ((1 : Nat) : Int)) ((m : Nat) + 1)), .int (nextV ns b (k + ((2 : Nat) : Int)) ((m : Nat) + 1))]) (en_lc (n := 3) (Y := fun i => .int (0 + (i : Nat))) (vs := [5]) (fun i => ⟨[some (.val (.ref s)), some (intsT us), some (.int (m : Nat)), some (.val (.ref f)), none, none], [⟨true, s, stO K a ns b (k + (i : Nat))⟩, ⟨false, f, .lst (L4.map intsT)⟩]⟩) (fun i => some (.int (nextV ns b (k + (i : Nat)) ((m : Nat) + 1)))) ?hr (by decide) ?hs)) rfl (by rw [List.length_map]; omega) ?_)
  case hr =>
    have e : k + ((0 : Nat) : Int) = k := by omega
    rw [e]
    exact ei_range1 (j := 3) (ea_one ed_int) (by decide) (by decide)
  case hs =>
    intro i hi
    refine ⟨_, true, _, ev_name (by simp), et_yes, fun _ => ⟨_, _, rfl, ed_callM (js := [0]) (gh := [⟨true, s, stO K a ns b (k + (i : Nat))⟩]) [⟨true, s, stO K a ns b (k + (i : Nat) + 1)⟩] (ea_cons (ed_var rfl) (ea_one (ed_add (ed_var rfl) ed_int))) (by decide) (Lent.one rfl) rfl ⟨s, a, ns, b, k + (i : Nat), _, rfl, rfl, hb, by omega, hm1, rfl, rfl⟩, ?_⟩, fun z => by cases z⟩
    have e : k + (i : Nat) + 1 = k + ((i + 1 : Nat) : Int) := by omega
    rw [e]; rfl
  refine bd_sub (sub_share (i := 3) (k := 1) (d := f) (o := .lst (L4.map intsT ++ [intsT [nextV ns b (k + ((0 : Nat) : Int)) ((m : Nat) + 1), nextV ns b (k + ((1 : Nat) : Int)) ((m : Nat) + 1), nextV ns b (k + ((2 : Nat) : Int)) ((m : Nat) + 1)]])) rfl rfl) ?_
  refine bd_ret (ed_var rfl) ⟨[(s, stO K a ns b (k + ((3 : Nat) : Int)))], [], rfl, L4 ++ [[nextV ns b (k + ((0 : Nat) : Int)) ((m : Nat) + 1), nextV ns b (k + ((1 : Nat) : Int)) ((m : Nat) + 1), nextV ns b (k + ((2 : Nat) : Int)) ((m : Nat) + 1)]], k + ((3 : Nat) : Int), ?_, ok4.app (by simp; omega) (fun l hl => by rw [List.mem_singleton.mp hl]; simp), by omega, rfl⟩
  rw [List.map_append]; rfl
end
end FK
set_option maxHeartbeats 8000000
namespace FK
open PySem L2
section
variable {P : Program} {w : World} {K : PySem.W.Frag} {mg : Str → Option Value} {base : Heap}
section
theorem thB_eq {fs : List Str} {th : Thing} (n : (th.map (·.1)).Nodup) (m : fs.Nodup) : thB fs th = lthB fs th := by
  rw [Bool.eq_iff_iff]
  unfold thB lthB
  rw [Bool.and_eq_true, decide_eq_true_eq, decide_eq_true_eq, List.all_eq_true]
  constructor
  · rintro ⟨h1, h2⟩
    refine (srt_of_perm (perm_of_sub m (fun x hx => getA_some_iff.mp (h2 x hx)) ?_)).symm
    rw [List.length_map]; omega
  · intro h
    have p : (th.map (·.1)).Perm fs := (srt_perm _).symm.trans (by rw [h]; exact srt_perm fs)
    exact ⟨by have := p.length_eq; rwa [List.length_map] at this, fun x hx => getA_some_iff.mpr (p.mem_iff.mpr hx)⟩
theorem has_eq {fs : List Str} {cs : List Chk} (hc : Cks fs cs) : hasB fs cs = (chainsE (endsOf fs) cs).ring.isNone := by
  cases e : (chainsE (endsOf fs) cs).ring with
  | none =>
    have hp := chains_pot (ends := endsOf fs) hc.ends e
    refine List.all_eq_true.mpr fun x hx => ?_
    obtain ⟨r, hr⟩ := goes_some hp (V := endsOf fs) (fun c h => ⟨(hc.ends c h).1, (hc.ends c h).2.1⟩) hx (n := fs.length + 2) (by rw [endsOf_len]; omega)
    rw [hr]; rfl
  | some r =>
    obtain ⟨hne, a, l, hs⟩ := (CInv.chains (endsOf fs) cs).ring r e
    have ha : a ∈ endsOf fs := by
      cases r with
      | nil => exact absurd rfl hne
      | cons i is =>
        obtain ⟨c, e1, e2, _⟩ := l
        rw [← e2]; exact (hc.ends c (List.mem_of_getElem? e1)).1
    show hasB fs cs = false
    unfold hasB
    rw [Bool.eq_false_iff]
    intro q
    have := List.all_eq_true.mp q a ha
    rw [goes_none l hs] at this
    cases this
theorem good_eq {fs : List Str} {cs : List Chk} {th : Thing} (n : (th.map (·.1)).Nodup) (m : fs.Nodup) : goodB fs cs th = lgoodB fs cs th := by
  show (thB fs th && _) = (lthB fs th && _)
  rw [thB_eq n m]
/-- a thing by numbers for which all checks are so -/
theorem lgood_of {fs : List Str} {cs : List Chk} (hf : Fld fs) (hc : Cks fs cs) {f : End → Int} (hp : Pot cs f) : lgoodB fs cs (thingOf (endsOf fs) f) = true := by
  unfold lgoodB
  rw [thingOf_ends hf.nd, Bool.and_eq_true]
  refine ⟨?_, ?_⟩
  · unfold lthB
    have e : (fs.map fun x => (x, f (some x) - f none)).map (·.1) = fs := by rw [List.map_map]; exact List.map_id' fs
    rw [e]; exact decide_eq_true rfl
  · rw [fw_none fun c h => ?_]; rfl
    refine decide_eq_true ?_
    rw [numAt_map (hc.ends c h).1, numAt_map (hc.ends c h).2.1]
    have := hp c h
    omega
end
theorem shw_one (b : Bool) : Shw 10000 2 (.lst [.bl b]) := (Shw.lst (n := 2000) (d := 0) (ts := [.bl b]) fun t ht => by rw [List.mem_singleton.mp ht]; exact Shw.bl b).mono (by simp) (by decide)
def ThOk (th : Thing) : Prop := th.length < 64 ∧ (∀ p ∈ th, PyData.strOk p.1 = true) ∧ (th.map (·.1)).Nodup
theorem eqTh_refl {a : Thing} (n : (a.map (·.1)).Nodup) : eqTh a a = true := eqTh_self (fs := a.map (fun p => p.1)) (show Tg (a.map fun p => p.1) a from List.Perm.refl _) n
theorem Tg.ok {fs : List Str} {th : Thing} (hf : Fld fs) (h : Tg fs th) : ThOk th := ⟨by have := hf.most; rw [h.len]; omega, fun p hp => name_ok (hf.names _ (h.mem_iff.mp (List.mem_map_of_mem (f := (·.1)) hp))), h.nd hf.nd⟩
theorem nearT_ok {fs : List Str} {th : Thing} (hf : Fld fs) (h : Tg fs th) : ∀ t ∈ nearT fs th, ThOk t := fun t ht => by
  have h0 := fs_head hf.pos
  have hok := h.ok hf
  unfold nearT at ht
  simp only [List.mem_cons, List.not_mem_nil, or_false] at ht
  rcases ht with rfl | rfl | rfl | rfl | rfl | rfl
  · exact hok
  · exact ⟨by simp, fun p hp => (List.not_mem_nil hp).elim, by simp⟩
  · exact (h.put h0.1 _).ok hf
  · exact (h.put h0.1 _).ok hf
  · exact ⟨Nat.lt_of_le_of_lt (List.length_filter_le _ _) hok.1, fun p hp => hok.2.1 p (List.mem_filter.mp hp).1, hok.2.2.sublist (List.Sublist.map _ List.filter_sublist)⟩
  · by_cases z : ("other" : Str) ∈ th.map (fun p => p.1)
    · have e := putA_keys z (0 : Int)
      refine ⟨Nat.lt_of_le_of_lt (putA_length_le _ _ _) (by have := hf.most; rw [h.len]; omega), fun p hp => ?_, by rw [e]; exact hok.2.2⟩
      have hp : p.1 ∈ th.map (·.1) := by rw [← e]; exact List.mem_map_of_mem (f := (·.1)) hp
      obtain ⟨q, hq, e2⟩ := List.mem_map.mp hp
      rw [← e2]; exact hok.2.1 q hq
    · have e : putA th "other" 0 = th ++ [(("other" : Str), (0 : Int))] := putA_new z
      rw [e]
      refine ⟨by rw [List.length_append]; have := hf.most; have := h.len; simp; omega, fun p hp => ?_, ?_⟩
      · rcases List.mem_append.mp hp with hp | hp
        · exact hok.2.1 p hp
        · rw [List.mem_singleton.mp hp]; decide +kernel
      · rw [List.map_append, List.nodup_append]
        exact ⟨hok.2.2, by simp, fun x hx y hy e => z (by rw [show y = ("other" : Str) by simpa using hy] at e; rw [← e]; exact hx)⟩
def mostL (fs : List Str) (cs : List Chk) (a b : End) (x : Int) (ns : List Int) (th : Thing) : Bool := (chainB cs ns a b && decide (sumI cs ns = x)) && (lgoodB fs cs th && decide (numAt th a - numAt th b = x))
theorem most_eq {fs : List Str} {cs : List Chk} {a b : End} {x : Int} {ns : List Int} {th : Thing} (hf : Fld fs) (h : ThOk th) : mostB fs cs a b x ns th = mostL fs cs a b x ns th := by
  unfold mostB mostL
  rw [good_eq h.2.2 hf.nd]
def R__law_most_due (T : Tx K mg) (ts : List FK.T) (t : FK.T) : Prop := ∃ fs cs a b x ns th, ts = [fsT fs, csT cs, eT a, eT b, .obj T.Most.C (moFs x ns th)] ∧ Fld fs ∧ Cks fs cs ∧ a ∈ endsOf fs ∧ b ∈ endsOf fs ∧ ns.length ≤ 10000 ∧ ThOk th ∧ t = .bl (mostL fs cs a b x ns th)
set_option maxHeartbeats 8000000 in
theorem ok__law_most_due (T : Tx K mg) : FnOk P w K mg base CX0 4 T._law_most_due.f T._law_most_due.fd ["_law_fields_here", "_law_checks_here", "_law_one", "_law_other", "_law_found"] (spT P w (R__law_most_due T)) := by
  refine T._law_most_due.F.ok sc__law_most_due (len_T fun ts t h => by unfold R__law_most_due at h; obtain ⟨_, _, _, _, _, _, _, rfl, _⟩ := h; rfl) (fun cdv A outer s H vs Q E hr h => ⟨_, (pss_cons (ps_if (PW.pt (pw_or (pt_not (pt_val (pe_call (ok__law_chain (P := P) (w := w) (base := base) T) (hr.mono (by decide)) (by rfl) T._law_chain.g T._law_chain.F.kp T._law_chain.b .nil pass0 (pa_cons (pv 1) (pa_cons (pe_fld (pv 4) rfl) (pa_cons (pv 2) (pa_cons (pv 3) pa_nil))))))) (pw_or1 (pt_cmpR (op_neA hr.units) (pe_call (ok__law_total (P := P) (w := w) (base := base) T) (hr.mono (by decide)) (by rfl) T._law_total.g T._law_total.F.kp T._law_total.b .nil pass0 (pa_cons (pv 1) (pa_cons (pe_fld (pv 4) rfl) pa_nil))) (pe_fld (pv 4) rfl) (nomark _))))) (pss_one (ps_ret pe_bl)) pss_nil) (pss_cons (ps_if (pt_not (pt_val (pe_call (ok__law_good (P := P) (w := w) (base := base) T) (hr.mono (by decide)) (by rfl) T._law_good.g T._law_good.F.kp T._law_good.b .nil pass0 (pa_cons (pv 0) (pa_cons (pv 1) (pa_cons (pe_fld (pv 4) rfl) pa_nil)))))) (pss_one (ps_ret pe_bl)) pss_nil) (pss_one (ps_ret (pe_cmpR (op_eqA hr.units) (pe_op op_sub (pe_call (ok__law_at (P := P) (w := w) (base := base) T) (hr.mono (by decide)) (by rfl) T._law_at.g T._law_at.F.kp T._law_at.b .nil pass0 (pa_cons (pe_fld (pv 4) rfl) (pa_cons (pv 2) pa_nil))) (pe_call (ok__law_at (P := P) (w := w) (base := base) T) (hr.mono (by decide)) (by rfl) T._law_at.g T._law_at.F.kp T._law_at.b .nil pass0 (pa_cons (pe_fld (pv 4) rfl) (pa_cons (pv 3) pa_nil)))) (pe_fld (pv 4) rfl) (nomark _)))))), run_T (N := n__law_most_due) h ?_⟩)
  rintro ts r ⟨fs, cs, a, b, x, ns, th, rfl, hf, hc, ha, hb, hl, ho, rfl⟩
  have MC := T.Most.cl
  refine bd_then (bd_if (et_or (et_not (et_val (ed_call (ea_cons (ed_var rfl) (ea_cons (ed_fld MC T.n_Most_counts (ed_var (t := .obj T.Most.C (moFs x ns th)) rfl) rfl) (ea_cons (ed_var rfl) (ea_one (ed_var rfl))))) ⟨cs, ns, a, b, rfl, hl, rfl⟩))) (fun q => et_test (ed_neI (ed_call (ea_cons (ed_var rfl) (ea_one (ed_fld MC T.n_Most_counts (ed_var (t := .obj T.Most.C (moFs x ns th)) rfl) rfl))) ⟨cs, ns, rfl, hl, (leads_in (((Bool.and_eq_true _ _).mp (show chainB cs ns a b = true by simpa using q)).1)).2, rfl⟩) (ed_fld (t := .int x) MC T.n_Most_number (ed_var (t := .obj T.Most.C (moFs x ns th)) rfl) rfl)))) (fun q => bd_ret ed_bl ?_) (fun q => bd_next ?_))
  · unfold mostL
    congr 1
    cases h1 : chainB cs ns a b <;> cases h2 : decide (sumI cs ns = x) <;> simp [h1, h2] at q ⊢
  · have q1 : (chainB cs ns a b && decide (sumI cs ns = x)) = true := by cases h1 : chainB cs ns a b <;> cases h2 : decide (sumI cs ns = x) <;> simp [h1, h2] at q ⊢
    unfold mostL
    rw [q1, Bool.true_and]
    refine bd_then (bd_if (et_not (et_val (ed_call (ea_cons (ed_var rfl) (ea_cons (ed_var rfl) (ea_one (ed_fld MC T.n_Most_thing (ed_var (t := .obj T.Most.C (moFs x ns th)) rfl) rfl)))) ⟨fs, cs, th, rfl, hf, hc, ho.1, ho.2.1, rfl⟩))) (fun z => bd_ret ed_bl ?_) (fun z => bd_next ?_))
    · have z : lgoodB fs cs th = false := by simpa using z
      rw [z]; rfl
    · have z : lgoodB fs cs th = true := by simpa using z
      have hth := lthB_th ((Bool.and_eq_true _ _).mp z).1
      rw [z, Bool.true_and]
      exact bd_ret (ed_eqI (ed_sub (ed_call (ea_cons (ed_fld MC T.n_Most_thing (ed_var (t := .obj T.Most.C (moFs x ns th)) rfl) rfl) (ea_one (ed_var rfl))) ⟨th, a, rfl, hth.has ha, rfl⟩) (ed_call (ea_cons (ed_fld MC T.n_Most_thing (ed_var (t := .obj T.Most.C (moFs x ns th)) rfl) rfl) (ea_one (ed_var rfl))) ⟨th, b, rfl, hth.has hb, rfl⟩)) (ed_fld (t := .int x) MC T.n_Most_number (ed_var (t := .obj T.Most.C (moFs x ns th)) rfl) rfl)) rfl
def freeL (fs : List Str) (cs : List Chk) (a b : End) (lot : List End) : Bool := ((decide (a ∈ lot) && !decide (b ∈ lot)) && ((lot.all fun e => decide (e ∈ endsOf fs)) && !decide ((ded lot).length < lot.length))) && (hasB fs cs && cs.all fun c => !decide (c.1 ∈ lot) || decide (c.2.1 ∈ lot))
theorem free_eq {fs : List Str} {cs : List Chk} {a b : End} {lot : List End} (hc : Cks fs cs) : freeB fs cs a b lot = freeL fs cs a b lot := by
  unfold freeB freeL
  rw [← has_eq hc]
  generalize hasB fs cs = h1
  generalize (lot.all fun e => decide (e ∈ endsOf fs)) = h2
  generalize decide ((ded lot).length < lot.length) = h3
  generalize decide (a ∈ lot) = h4
  generalize decide (b ∈ lot) = h5
  generalize (cs.all fun c => !decide (c.1 ∈ lot) || decide (c.2.1 ∈ lot)) = h6
  cases h1 <;> cases h2 <;> cases h3 <;> cases h4 <;> cases h5 <;> cases h6 <;> rfl
def R__law_free_due (ts : List FK.T) (t : FK.T) : Prop := ∃ fs cs a b lot, ts = [fsT fs, csT cs, eT a, eT b, endsT lot] ∧ Fld fs ∧ Cks fs cs ∧ lot.length ≤ 1000 ∧ t = .bl (freeL fs cs a b lot)
set_option maxHeartbeats 8000000 in
theorem ok__law_free_due (T : Tx K mg) : FnOk P w K mg base CX0 3 T._law_free_due.f T._law_free_due.fd ["_law_fields_here", "_law_checks_here", "_law_one", "_law_other", "_law_lot"] (spT P w (R__law_free_due)) := by
  refine T._law_free_due.F.ok sc__law_free_due (len_T fun ts t h => by unfold R__law_free_due at h; obtain ⟨_, _, _, _, _, rfl, _⟩ := h; rfl) (fun cdv A outer s H vs Q E hr h => ⟨_, (pss_cons (ps_if (PW.pt (pw_or (pt_cmpR (op_notInA (hu_of hr)) (pv 2) (pv 4) (by rfl)) (pw_or (pt_cmpR (op_inA (hu_of hr)) (pv 3) (pv 4) (by rfl)) (pw_or (pt_not (pt_val (pe_callB (cr_all rfl) (by rfl) T.b_all (by decide +kernel) (pa_cons (pe_lc (own := [("_law_end", 5)]) rfl (sc__law_free_due).nd (pi_list (pv 4)) (blkOk_by (N := n__law_free_due) (sc := defScope s__law_free_due) (by decide +kernel)) (fun _ _ _ _ _ => (gn 5 (sc__law_free_due).nd)) (fun _ _ _ _ _ => pts_nil) (fun _ _ _ _ _ => (pe_cmpR (show OpR _ _ (rInA P w K) from (op_inA (hu_of hr))) (pv 5) (pe_op op_addA (pv 0) (pe_lst (pa_cons pe_non pa_nil))) (by rfl)))) pa_nil)))) (pw_or1 (pt_cmpR op_lt (pe_lenSetL (by rfl) T.b_len (by rfl) T.b_set (pv 4)) (pe_callB call_lenA (by rfl) T.b_len (by decide +kernel) (pa_cons (pv 4) pa_nil)) (nomark _))))))) (pss_one (ps_ret pe_bl)) pss_nil) (pss_one (ps_ret (pe_and (pe_call (ok__law_has (P := P) (w := w) (base := base) T) (hr.mono (by decide)) (by rfl) T._law_has.g T._law_has.F.kp T._law_has.b .nil pass0 (pa_cons (pv 0) (pa_cons (pv 1) pa_nil))) (pe_one (pe_callB (cr_all rfl) (by rfl) T.b_all (by decide +kernel) (pa_cons (pe_lc (own := [("_law_check", 6)]) rfl (sc__law_free_due).nd (pi_list (pv 1)) (blkOk_by (N := n__law_free_due) (sc := defScope s__law_free_due) (by decide +kernel)) (fun _ _ _ _ _ => (gn 6 (sc__law_free_due).nd)) (fun _ _ _ _ _ => pts_nil) (fun _ _ _ _ _ => (pe_or (pe_cmpR (show OpR _ _ (rNotInA P w K) from (op_notInA (hu_of hr))) (pe_ix (show IxR _ (rIxA P w K) from (ix_any (hu_of hr))) (pv 6) pe_int (fun _ _ => rfl)) (pv 4) (by rfl)) (pe_one (pe_cmpR (show OpR _ _ (rInA P w K) from (op_inA (hu_of hr))) (pe_ix (show IxR _ (rIxA P w K) from (ix_any (hu_of hr))) (pv 6) pe_int (fun _ _ => rfl)) (pv 4) (by rfl)))))) pa_nil))))))), run_T (N := n__law_free_due) h ?_⟩)
  rintro ts r ⟨fs, cs, a, b, lot, rfl, hf, hc, hl, rfl⟩
  have lf := hf.most
  have lc := hc.most
  have e1 : decide (((ded lot).length : Int) < (((lot.map eT).length : Nat) : Int)) = decide ((ded lot).length < lot.length) := by rw [lenE]; exact decide_eq_decide.mpr (by omega)
  refine bd_then (bd_if (et_or (et_test (ed_notInE (e := a) (es := lot) (ed_var rfl) (ed_var rfl))) (fun _ => et_or (et_test (ed_inE (e := b) (es := lot) (ed_var rfl) (ed_var rfl))) (fun _ => et_or (et_not (et_val (ed_allL (g := eT) (xs := lot) (fun e => decide (e ∈ endsOf fs)) (ed_var (t := endsT lot) rfl) (by omega) rfl (fun e he => ⟨_, _, ev_name (by simp), ed_inE (es := endsOf fs) (ed_var rfl) ((ed_of_en (en_cat (ed_var (t := fsT fs) rfl) (ed_lst (ea_one ed_non) (by simp)) (by simp; omega))).to (endsT_of fs)), rfl⟩)))) (fun _ => et_test ((ed_lt (ed_lenSet (es := lot) (ed_var (t := endsT lot) rfl) (by omega)) (ed_lenL (ts := lot.map eT) (ea_one (ed_var (t := endsT lot) rfl)))).to (congrArg FK.T.bl e1)))))) (fun q => bd_ret ed_bl ?_) (fun q => bd_next ?_))
  · unfold freeL
    congr 1
    cases h1 : decide (a ∈ lot) <;> cases h2 : decide (b ∈ lot) <;> cases h3 : (lot.all fun e => decide (e ∈ endsOf fs)) <;> cases h4 : decide ((ded lot).length < lot.length) <;> simp [h1, h2, h3, h4] at q ⊢
  · have q1 : ((decide (a ∈ lot) && !decide (b ∈ lot)) && ((lot.all fun e => decide (e ∈ endsOf fs)) && !decide ((ded lot).length < lot.length))) = true := by
      cases h1 : decide (a ∈ lot) <;> cases h2 : decide (b ∈ lot) <;> cases h3 : (lot.all fun e => decide (e ∈ endsOf fs)) <;> cases h4 : decide ((ded lot).length < lot.length) <;> simp [h1, h2, h3, h4] at q ⊢
    unfold freeL
    rw [q1, Bool.true_and]
    exact bd_ret (ed_and (ed_call (ea_cons (ed_var rfl) (ea_one (ed_var rfl))) ⟨fs, cs, rfl, by omega, by omega, rfl⟩) (fun _ => ed_allL (g := cT) (xs := cs) (fun c => !decide (c.1 ∈ lot) || decide (c.2.1 ∈ lot)) (ed_var rfl) (by omega) rfl (fun c hc' => ⟨_, _, ev_name (by simp), ed_or (ed_notInE (e := c.1) (es := lot) (ed_ixT (ed_var rfl) ed_int rfl) (ed_var rfl)) (fun _ => ed_inE (e := c.2.1) (es := lot) (ed_ixT (ed_var rfl) ed_int rfl) (ed_var rfl)), rfl⟩))) rfl
end
end FK
set_option maxHeartbeats 8000000
namespace FK
open PySem L2
section
variable {P : Program} {w : World} {K : PySem.W.Frag} {mg : Str → Option Value} {base : Heap}
theorem flat_ints (ns : List Int) : FK.T.flatAll (ns.map FK.T.int) = true := by
  induction ns with
  | nil => rfl
  | cons x l ih => exact ih
theorem flat_tL (th : Thing) : FK.T.flatAll ((tL th).map (·.2)) = true := by
  induction th with
  | nil => rfl
  | cons x l ih => exact ih
def R__law_rings_right (K : PySem.W.Frag) (gs : List AO) (ts : List FK.T) (Φ : FK.T → List AO → Prop) : Prop := ∃ s a ns b k fs cs th, gs = [(s, stO K a ns b k)] ∧ ts = [.val (.ref s), fsT fs, csT cs, tT th] ∧ 0 ≤ b ∧ 0 ≤ k ∧ Fld fs ∧ Cks fs cs ∧ Tg fs th ∧
  Φ = fun t gs' => ∃ k', t = .bl true ∧ 0 ≤ k' ∧ gs' = [(s, stO K a ns b k')]
set_option maxHeartbeats 8000000 in
theorem ok__law_rings_right (T : Tx K mg) : GnOk P w K mg base 6 T._law_rings_right.f T._law_rings_right.fd ["_law_state", "_law_fields_here", "_law_checks_here", "_law_thing_here"] (spG P w (R__law_rings_right K)) := by
  refine gn_of T._law_rings_right.F sc__law_rings_right (len_G fun gs ts Φ h => by unfold R__law_rings_right at h; obtain ⟨_, _, _, _, _, _, _, _, rfl, rfl, _⟩ := h; rfl) (fun cdv A outer s H vs Q E hG hr h => ⟨_, (pss_cons (ps_asg (pe_make T.mk_Kind (ok_Kind_init (P := P) (w := w) (base := base) T) (hr.mono (by decide)) (by rfl) T.Kind.g T.Kind_init.b .nil pass0 (pa_cons (pv 1) (pa_cons (pv 2) pa_nil))) (gn 4 (sc__law_rings_right).nd)) (pss_cons (ps_for PassesOwn.never rfl (pi_list (pe_call (ok__law_things (P := P) (w := w) (base := base) T) (hr.mono (by decide)) (by rfl) T._law_things.g T._law_things.F.kp T._law_things.b .nil pass0 (pa_cons (pv 3) (pa_cons (pv 1) pa_nil)))) (gn 5 (sc__law_rings_right).nd) (pss_cons (ps_asg (pe_callTy call_dictD (by rfl) T.b_dict (by decide +kernel) (pa_cons (pv 5) pa_nil)) (gn 6 (sc__law_rings_right).nd)) (pss_cons (ps_asg (pe_make T.mk_Some (ok_Some_init_B (P := P) (w := w) (base := base) T) (hr.mono (by decide)) (by rfl) T.Some.g T.Some_init.b .nil pass0 (pa_cons (pv 6) pa_nil)) (gn 7 (sc__law_rings_right).nd)) (pss_cons (ps_asg pe_int (pg_sub (pv 6) pe_str (set_any (hu_of hr)))) (pss_cons (ps_asg (pe_call (ok__law_good (P := P) (w := w) (base := base) T) (hr.mono (by decide)) (by rfl) T._law_good.g T._law_good.F.kp T._law_good.b .nil pass0 (pa_cons (pv 1) (pa_cons (pv 2) (pa_cons (pv 5) pa_nil)))) (gn 8 (sc__law_rings_right).nd)) (pss_one (ps_if (PW.pt (pw_or (pt_cmpR (op_neTh (Nat.lt_of_le_of_lt (Nat.le_add_right _ 64) hr.units)) (pe_fld (pv 7) rfl) (pv 5) (nomark _)) (pw_or1 (pt_cmpR (op_neA hr.units) (pe_callTy (call_strA hG hr.units) (by rfl) T.b_str (by decide +kernel) (pa_cons (pe_lst (pa_cons (PE.or (pe_meth (pv 7) T.Some.cl T.Some_shows.m (ok_Some_shows (P := P) (w := w) (base := base) T) (hr.mono (by decide)) T.Some_shows.b .nil pass0 (pa_cons (pv 4) pa_nil)) (pe_meth (pv 7) T.Ring.cl T.Ring_shows.m (ok_Ring_shows (P := P) (w := w) (base := base) T) (hr.mono (by decide)) T.Ring_shows.b .nil pass0 (pa_cons (pv 4) pa_nil))) pa_nil)) pa_nil)) (pe_callTy (call_strA hG hr.units) (by rfl) T.b_str (by decide +kernel) (pa_cons (pe_lst (pa_cons (pv 8) pa_nil)) pa_nil)) (nomark _))))) (pss_one (ps_ret pe_bl)) pss_nil))))))) (pss_cons (ps_for PassesOwn.never rfl (pi_list (pe_call (ok__law_lists (P := P) (w := w) (base := base) T) (hr.mono (by decide)) (by rfl) T._law_lists.g T._law_lists.F.kp T._law_lists.b .nil pass0 (pa_cons (pv 0) (pa_cons (pe_listRg rfl (by rfl) T.b_list (prg_1 (by rfl) T.b_range (pe_callB call_lenA (by rfl) T.b_len (by decide +kernel) (pa_cons (pv 2) pa_nil)))) (pa_cons (pe_callB call_lenA (by rfl) T.b_len (by decide +kernel) (pa_cons (pv 2) pa_nil)) pa_nil))))) (gn 9 (sc__law_rings_right).nd) (pss_cons (ps_asg (pe_callTy (call_listA rfl) (by rfl) T.b_list (by decide +kernel) (pa_cons (pv 9) pa_nil)) (gn 6 (sc__law_rings_right).nd)) (pss_cons (ps_asg (pe_make T.mk_Ring (ok_Ring_init_B (P := P) (w := w) (base := base) T) (hr.mono (by decide)) (by rfl) T.Ring.g T.Ring_init.b .nil pass0 (pa_cons (pv 6) pa_nil)) (gn 7 (sc__law_rings_right).nd)) (pss_cons (ps_expr (pe_bm PySem.F.plainAttrs_list PySem.F.slot_list_append PySem.F.type_list_append mt_append (pv 6) (pa_cons pe_int pa_nil))) (pss_cons (ps_asg (pe_and (pe_call (ok__law_ring (P := P) (w := w) (base := base) T) (hr.mono (by decide)) (by rfl) T._law_ring.g T._law_ring.F.kp T._law_ring.b .nil pass0 (pa_cons (pv 2) (pa_cons (pv 9) pa_nil))) (pe_one (pe_cmpR op_lt (pe_call (ok__law_total (P := P) (w := w) (base := base) T) (hr.mono (by decide)) (by rfl) T._law_total.g T._law_total.F.kp T._law_total.b .nil pass0 (pa_cons (pv 2) (pa_cons (pv 9) pa_nil))) pe_int (nomark _)))) (gn 8 (sc__law_rings_right).nd)) (pss_one (ps_if (PW.pt (pw_or (pt_cmpR (op_neA hr.units) (pe_fld (pv 7) rfl) (pv 9) (nomark _)) (pw_or1 (pt_cmpR (op_neA hr.units) (pe_callTy (call_strA hG hr.units) (by rfl) T.b_str (by decide +kernel) (pa_cons (pe_lst (pa_cons (PE.or (pe_meth (pv 7) T.Some.cl T.Some_shows.m (ok_Some_shows (P := P) (w := w) (base := base) T) (hr.mono (by decide)) T.Some_shows.b .nil pass0 (pa_cons (pv 4) pa_nil)) (pe_meth (pv 7) T.Ring.cl T.Ring_shows.m (ok_Ring_shows (P := P) (w := w) (base := base) T) (hr.mono (by decide)) T.Ring_shows.b .nil pass0 (pa_cons (pv 4) pa_nil))) pa_nil)) pa_nil)) (pe_callTy (call_strA hG hr.units) (by rfl) T.b_str (by decide +kernel) (pa_cons (pe_lst (pa_cons (pv 8) pa_nil)) pa_nil)) (nomark _))))) (pss_one (ps_ret pe_bl)) pss_nil))))))) (pss_one (ps_ret pe_bl))))), run_G (N := n__law_rings_right) h ?_⟩)
  rintro gs ts Φ ⟨s, a, ns, b, k, fs, cs, th, rfl, rfl, hb, hk, hf, hc, ht, rfl⟩
  have KC := T.Kind.cl
  have SC := T.Some.cl
  have RC := T.Ring.cl
  have lf := hf.most
  have lc := hc.most
  have hnear := nearT_ok hf ht
  refine bd_then (bd_asg (t := kT T.Kind.C fs cs) (ed_make (ea_cons (ed_var rfl) (ea_one (ed_var rfl))) (fun p => ⟨p, _, fs, cs, rfl, rfl, rfl, hf, hc, rfl, rfl⟩)) eg_name ?_)
  refine bd_seq (Nx := fun Γ' => ∃ x5 x6 x7 x8, Γ' = ⟨[some (.val (.ref s)), some (fsT fs), some (csT cs), some (tT th), some (kT T.Kind.C fs cs), x5, x6, x7, x8, none], [⟨true, s, stO K a ns b k⟩]⟩) (bd_foldL (xs := nearT fs th) (g := tT) (fun (_ : Unit) Γ' => ∃ x5 x6 x7 x8, Γ' = ⟨[some (.val (.ref s)), some (fsT fs), some (csT cs), some (tT th), some (kT T.Kind.C fs cs), x5, x6, x7, x8, none], [⟨true, s, stO K a ns b k⟩]⟩) (fun _ _ => ()) () (ed_call (ea_cons (ed_var rfl) (ea_one (ed_var rfl))) ⟨th, fs, rfl, hf, ht, rfl⟩) ⟨_, _, _, _, rfl⟩ (fun l hl _ Γ' hΓ => ?_) (fun _ h => h)) ?_
  · obtain ⟨x5, x6, x7, x8, rfl⟩ := hΓ
    have ho := hnear l hl
    refine ⟨_, eg_name, ?_⟩
    refine bd_then (bd_asgN (en_dictD (kvs := tL l) (ea_one (ed_var (t := tT l) rfl))) fun h => ?_)
    refine bd_then (bd_asgX (ex_makeB (js := [1]) (ts' := [tT l]) (fun p t gs' => t = .non ∧ ∃ d, gs' = soG p d T.Some.C l) (ea_one (ed_var rfl)) (Lent.one rfl) rfl (fun G hG => ⟨.inr ⟨_, rfl, hG ⟨false, h, .dic (tL l)⟩ (by simp)⟩, trivial⟩) (fun p => ⟨p, _, l, rfl, rfl, rfl, rfl⟩) (fun p t gs' hp => ?_) (fun p gs' hp => ?_)))
    · obtain ⟨e, d, rfl⟩ := hp
      refine ⟨e, fun x hx => ?_⟩
      simp only [soG, List.mem_cons, List.not_mem_nil, or_false] at hx
      rcases hx with rfl | rfl
      · rfl
      · exact flat_tL l
    · obtain ⟨_, d, rfl⟩ := hp
      refine bd_sub ((sub_tuck (j := 2) (k := 3) (d := d) (o := .dic (tL l)) (fs := [("thing", .val (.ref d))]) (fs' := soFs l) rfl rfl rfl (fun G h => ⟨.inr ⟨_, rfl, h⟩, trivial⟩)).trans (sub_share (i := 7) (k := 2) (d := p) (o := .ins T.Some.C (soFs l)) rfl rfl)) (Γ1 := ⟨[some (.val (.ref s)), some (fsT fs), some (csT cs), some (tT th), some (kT T.Kind.C fs cs), some (tT l), some (.val (.ref h)), some (.obj T.Some.C (soFs l)), x8, none], [⟨true, s, stO K a ns b k⟩, ⟨false, h, .dic (tL l)⟩]⟩) ?_
      refine bd_then (bd_putD (j := 1) (l := false) (kvs := tL l) ed_int (ed_var rfl) ed_str rfl (by unfold tL; rw [List.length_map]; have := ho.1; omega) ?_)
      refine bd_sub (sub_era 1) ?_
      refine bd_then (bd_asg (t := .bl (lgoodB fs cs l)) (ed_call (ea_cons (ed_var rfl) (ea_cons (ed_var rfl) (ea_one (ed_var rfl)))) ⟨fs, cs, l, rfl, hf, hc, ho.1, ho.2.1, rfl⟩) eg_name ?_)
      exact bd_skip ((et_or (et_test (ed_neTh (a := l) (b := l) (ed_fld SC T.n_Some_thing (ed_var (t := .obj T.Some.C (soFs l)) rfl) rfl) (ed_var rfl))) (fun _ => et_test (ed_neS (ed_strL (ea_one (ed_lst (ea_one (ed_orl (ed_meth (ed_var (t := .obj T.Some.C (soFs l)) rfl) rfl (ea_one (ed_var rfl)) ⟨_, _, fs, cs, l, rfl, rfl, rfl, hf, hc, rfl⟩))) (by simp))) (shw_one _) (by decide) (by decide)) (ed_strL (ea_one (ed_lst (ea_one (ed_var (t := .bl (lgoodB fs cs l)) rfl)) (by simp))) (shw_one _) (by decide) (by decide))))).to (by rw [eqTh_refl ho.2.2, good_eq ho.2.2 hf.nd]; simp)) ⟨_, _, _, _, rfl⟩
  · rintro Γ' ⟨x5, x6, x7, x8, rfl⟩
    refine bd_seq (Nx := fun Γ' => ∃ k' x5 x6 x7 x8 x9, 0 ≤ k' ∧ Γ' = ⟨[some (.val (.ref s)), some (fsT fs), some (csT cs), some (tT th), some (kT T.Kind.C fs cs), x5, x6, x7, x8, x9], [⟨true, s, stO K a ns b k'⟩]⟩) (bd_forL (ex_callG (js := [0]) (ea_cons (ed_var rfl) (ea_cons (ed_of_en (en_listRg (n := cs.length) ((ed_lenL (ts := cs.map cT) (ea_one (ed_var rfl))).to (by rw [List.length_map])) (by omega))) (ea_one ((ed_lenL (ts := cs.map cT) (ea_one (ed_var rfl))).to (by rw [List.length_map]))))) (by decide) (Lent.one rfl) ⟨s, a, ns, b, k, natsI (List.range cs.length), cs.length, rfl, rfl, hb, hk, by unfold natsI; rw [List.length_map, List.length_range]; omega, by omega, rfl⟩ (fun t gs' h => ?_))) ?_
    · obtain ⟨L, k1, rfl, hL, hk1, rfl⟩ := h
      refine ⟨[⟨true, s, stO K a ns b k1⟩], rfl, rfl, L.map intsT, rfl, fun _ Γ' => ∃ k' x5 x6 x7 x8 x9, 0 ≤ k' ∧ Γ' = ⟨[some (.val (.ref s)), some (fsT fs), some (csT cs), some (tT th), some (kT T.Kind.C fs cs), x5, x6, x7, x8, x9], [⟨true, s, stO K a ns b k'⟩]⟩, ⟨k1, _, _, _, _, _, hk1, rfl⟩, ?_, fun _ h => h⟩
      rintro i Γ' hi ⟨k', x5, x6, x7, x8, x9, hk', rfl⟩
      have hi' : i < L.length := by simpa using hi
      refine ⟨_, eg_name, ?_⟩
      rw [getD_map hi']
      have hl := hL.2 _ (List.getElem_mem hi')
      generalize L[i] = l at hl
      refine bd_then (bd_asgN (en_listL (ea_one (ed_var (t := intsT l) rfl))) fun h => ?_)
      refine bd_then (bd_asgX (ex_makeB (js := [1]) (ts' := [intsT l]) (fun p t gs' => t = .non ∧ ∃ d, gs' = riG p d T.Ring.C l) (ea_one (ed_var rfl)) (Lent.one rfl) rfl (fun G hG => ⟨.inr ⟨_, rfl, hG ⟨false, h, .lst (l.map FK.T.int)⟩ (by simp)⟩, trivial⟩) (fun p => ⟨p, _, l, rfl, rfl, rfl, rfl⟩) (fun p t gs' hp => ?_) (fun p gs' hp => ?_)))
      · obtain ⟨e, d, rfl⟩ := hp
        refine ⟨e, fun x hx => ?_⟩
        simp only [riG, List.mem_cons, List.not_mem_nil, or_false] at hx
        rcases hx with rfl | rfl
        · rfl
        · exact flat_ints l
      · obtain ⟨_, d, rfl⟩ := hp
        refine bd_sub ((sub_tuck (j := 2) (k := 3) (d := d) (o := .lst (l.map FK.T.int)) (fs := [("counts", .val (.ref d))]) (fs' := riFs l) rfl rfl rfl (fun G h => ⟨.inr ⟨_, rfl, h⟩, trivial⟩)).trans (sub_share (i := 7) (k := 2) (d := p) (o := .ins T.Ring.C (riFs l)) rfl rfl)) (Γ1 := ⟨[some (.val (.ref s)), some (fsT fs), some (csT cs), some (tT th), some (kT T.Kind.C fs cs), x5, some (.val (.ref h)), some (.obj T.Ring.C (riFs l)), x8, some (intsT l)], [⟨true, s, stO K a ns b k'⟩, ⟨false, h, .lst (l.map FK.T.int)⟩]⟩) ?_
        refine bd_then (bd_append (j := 1) (l := false) (ts := l.map FK.T.int) (ed_var rfl) rfl ed_int rfl (by rw [List.length_map]; omega) ?_)
        refine bd_sub (sub_era 1) ?_
        refine bd_then (bd_asg (t := .bl (ringB cs l && decide (sumI cs l < 0))) (ed_and (ed_call (ea_cons (ed_var rfl) (ea_one (ed_var (t := intsT l) rfl))) ⟨cs, l, rfl, by omega, rfl⟩) (fun q => ed_lt (ed_call (ea_cons (ed_var rfl) (ea_one (ed_var (t := intsT l) rfl))) ⟨cs, l, rfl, by omega, ring_in q, rfl⟩) ed_int)) eg_name ?_)
        exact bd_skip ((et_or (et_test (ed_neSame (n := 1) (x := intsT l) (ed_fld RC T.n_Ring_counts (ed_var (t := .obj T.Ring.C (riFs l)) rfl) rfl) (ed_var rfl) (shp_ints l) (by decide))) (fun _ => et_test (ed_neS (ed_strL (ea_one (ed_lst (ea_one (ed_orr (ed_meth (ed_var (t := .obj T.Ring.C (riFs l)) rfl) rfl (ea_one (ed_var rfl)) ⟨_, _, fs, cs, l, rfl, rfl, rfl, by omega, rfl⟩))) (by simp))) (shw_one _) (by decide) (by decide)) (ed_strL (ea_one (ed_lst (ea_one (ed_var (t := .bl (ringB cs l && decide (sumI cs l < 0))) rfl)) (by simp))) (shw_one _) (by decide) (by decide))))).to (by simp)) ⟨k', _, _, _, _, _, hk', rfl⟩
    · rintro Γ' ⟨k', x5, x6, x7, x8, x9, hk', rfl⟩
      exact bd_ret ed_bl ⟨[(s, stO K a ns b k')], [], rfl, k', rfl, hk', rfl⟩
end
end FK
set_option maxHeartbeats 8000000
namespace FK
open PySem L2
section
variable {P : Program} {w : World} {K : PySem.W.Frag} {mg : Str → Option Value} {base : Heap}
def isM : An2 → Bool
  | .inl _ => true
  | .inr _ => false
theorem ed_isiA2 {Γ Γ1 : Ev} {tr : TA} {an : An2} {S R X : Addr} {b1 b2 : Bool} (cS : InsT K S) (cR : InsT K R) (h : EdA P w tr Γ [an2T S R an, .val (.ref X)] Γ1) (h1 : PySem.W.kitOne K (.ref S) (.ref X) = Option.some b1) (h2 : PySem.W.kitOne K (.ref R) (.ref X) = Option.some b2) :
    Ed P w (tCB (rIsi K) tr) Γ (.bl (if isM an then b1 else b2)) Γ1 := by
  cases an with
  | inl th => exact ed_isi h ⟨rfl, cS⟩ (.own X) h1
  | inr ns => exact ed_isi h ⟨rfl, cR⟩ (.own X) h2
def Far2 (fs : List Str) : An2 → Prop
  | .inl q => q.2.1.length ≤ 1000 ∧ Tg fs q.2.2
  | .inr lot => lot.length ≤ 100
theorem far_ok {fs : List Str} {cs : List Chk} {a b : End} (hf : Fld fs) : Far2 fs (farA fs cs a b) := by
  unfold farA
  cases e : getA (chainsE (endsOf fs) cs).tab (a, b) with
  | none =>
    have h1 : (comeTo (endsOf fs) (chainsE (endsOf fs) cs) a).length ≤ (endsOf fs).length := List.length_filter_le _ _
    have := hf.most
    rw [endsOf_len] at h1
    show (comeTo (endsOf fs) (chainsE (endsOf fs) cs) a).length ≤ 100
    omega
  | some v =>
    refine ⟨by have := ent_len hf.most e; show v.2.length ≤ 1000; omega, ?_⟩
    show (List.map _ (thingOf (endsOf fs) _)).Perm fs
    rw [thingOf_ends hf.nd, List.map_map]
    exact List.Perm.of_eq (List.map_id' fs)
def lotsOf (fs : List Str) (a b : End) : List (List End) := ([[], [a], [a, b], fs.map some, (fs.map some).reverse ++ [none], [a, a]] : List (List End)) ++ ([[some ("zz" : Str), a], [none], cutG (fs.map some) (some 1) none] : List (List End))
def moreLots : An2 → List (List End)
  | .inl _ => []
  | .inr lot => [lot, cutG lot (some 1) none, lot ++ cutG lot none (some 1)]
theorem lots_ok {fs : List Str} (hf : Fld fs) (a b : End) : ∀ l ∈ lotsOf fs a b, l.length ≤ 1000 := fun l hl => by
  have := hf.most
  have h1 := cutG_len (fs.map some) (some 1) none
  rw [List.length_map] at h1
  unfold lotsOf at hl
  simp only [List.mem_append, List.mem_cons, List.not_mem_nil, or_false] at hl
  rcases hl with (rfl | rfl | rfl | rfl | rfl | rfl) | rfl | rfl | rfl <;> simp <;> omega
theorem more_ok {fs : List Str} {an : An2} (h : Far2 fs an) : ∀ l ∈ moreLots an, l.length ≤ 1000 := fun l hl => by
  cases an with
  | inl q => cases hl
  | inr lot =>
    have h : lot.length ≤ 100 := h
    have h1 := cutG_len lot (some 1) none
    have h2 := cutG_len lot none (some 1)
    unfold moreLots at hl
    simp only [List.mem_cons, List.not_mem_nil, or_false] at hl
    rcases hl with rfl | rfl | rfl
    · omega
    · omega
    · rw [List.length_append]; omega
def R__law_ends_right (K : PySem.W.Frag) (gs : List AO) (ts : List FK.T) (Φ : FK.T → List AO → Prop) : Prop := ∃ s a ns b k fs cs, ∃ e f : End, gs = [(s, stO K a ns b k)] ∧ ts = [.val (.ref s), fsT fs, csT cs, eT e, eT f] ∧ 0 ≤ b ∧ 0 ≤ k ∧ Fld fs ∧ Cks fs cs ∧ (chainsE (endsOf fs) cs).ring = none ∧ e ∈ endsOf fs ∧ f ∈ endsOf fs ∧ e ≠ f ∧
  Φ = fun t gs' => ∃ k', t = .bl true ∧ 0 ≤ k' ∧ gs' = [(s, stO K a ns b k')]
set_option maxHeartbeats 8000000 in
theorem ok__law_ends_right (T : Tx K mg) : GnOk P w K mg base 7 T._law_ends_right.f T._law_ends_right.fd ["_law_state", "_law_fields_here", "_law_checks_here", "_law_one", "_law_other"] (spG P w (R__law_ends_right K)) := by
  refine gn_of T._law_ends_right.F sc__law_ends_right (len_G fun gs ts Φ h => by unfold R__law_ends_right at h; obtain ⟨_, _, _, _, _, _, _, _, _, rfl, rfl, _⟩ := h; rfl) (fun cdv A outer s H vs Q E hG hr h => ⟨_, (pss_cons (ps_asg (pe_make T.mk_Kind (ok_Kind_init (P := P) (w := w) (base := base) T) (hr.mono (by decide)) (by rfl) T.Kind.g T.Kind_init.b .nil pass0 (pa_cons (pv 1) (pa_cons (pv 2) pa_nil))) (gn 5 (sc__law_ends_right).nd)) (pss_cons (ps_asg (pe_call (ok_farthest (P := P) (w := w) (base := base) T) (hr.mono (by decide)) (by rfl) T.farthest.g T.farthest.F.kp T.farthest.b .nil pass0 (pa_cons (pv 5) (pa_cons (pv 3) (pa_cons (pv 4) pa_nil)))) (gn 6 (sc__law_ends_right).nd)) (pss_cons (ps_par3 (i := 7) (j := 8) (l := 9) rfl (sc__law_ends_right).nd rfl rfl rfl (by decide) (by decide) (by decide) rfl rfl rfl (pa_cons (pe_lst (pa_cons pe_int pa_nil)) (pa_cons pe_int (pa_cons (pe_call (ok__law_thing (P := P) (w := w) (base := base) T) (hr.mono (by decide)) (by rfl) T._law_thing.g T._law_thing.F.kp T._law_thing.b .nil pass0 (pa_cons (pv 0) (pa_cons (pv 1) (pa_cons pe_int pa_nil)))) pa_nil))) (by rfl)) (pss_cons (ps_if (pt_val (pe_callB call_isi (by rfl) T.b_isinstance (by decide +kernel) (pa_cons (pv 6) (pa_cons (pe_glob (v := .ref T.Most.C) (by rfl) T.Most.g rfl) pa_nil)))) (pss_one (ps_par3 (i := 7) (j := 8) (l := 9) rfl (sc__law_ends_right).nd rfl rfl rfl (by decide) (by decide) (by decide) rfl rfl rfl (pa_cons (pe_fld (pv 6) rfl) (pa_cons (pe_fld (pv 6) rfl) (pa_cons (pe_fld (pv 6) rfl) pa_nil))) (by rfl))) pss_nil) (pss_cons (ps_for PassesOwn.never rfl (pi_list (pe_call (ok__law_lists (P := P) (w := w) (base := base) T) (hr.mono (by decide)) (by rfl) T._law_lists.g T._law_lists.F.kp T._law_lists.b .nil pass0 (pa_cons (pv 0) (pa_cons (pv 7) (pa_cons (pe_callB call_lenA (by rfl) T.b_len (by decide +kernel) (pa_cons (pv 2) pa_nil)) pa_nil))))) (gn 10 (sc__law_ends_right).nd) (pss_one (ps_for PassesOwn.never rfl (pi_tup (pe_tup (pa_cons (pv 8) (pa_cons (pe_op op_addA (pv 8) pe_int) pa_nil)))) (gn 11 (sc__law_ends_right).nd) (pss_cons (ps_asg (pe_make T.mk_Most (ok_Most_init (P := P) (w := w) (base := base) T) (hr.mono (by decide)) (by rfl) T.Most.g T.Most_init.b .nil pass0 (pa_cons (pv 11) (pa_cons (pv 10) (pa_cons (pv 9) pa_nil)))) (gn 12 (sc__law_ends_right).nd)) (pss_one (ps_if (pt_cmpR (op_neA hr.units) (pe_callTy (call_strA hG hr.units) (by rfl) T.b_str (by decide +kernel) (pa_cons (pe_lst (pa_cons (PE.or (pe_meth (pv 12) T.Most.cl T.Most_shows.m (ok_Most_shows (P := P) (w := w) (base := base) T) (hr.mono (by decide)) T.Most_shows.b .nil pass0 (pa_cons (pv 5) (pa_cons (pv 3) (pa_cons (pv 4) pa_nil)))) (pe_meth (pv 12) T.Free.cl T.Free_shows.m (ok_Free_shows (P := P) (w := w) (base := base) T) (hr.mono (by decide)) T.Free_shows.b .nil pass0 (pa_cons (pv 5) (pa_cons (pv 3) (pa_cons (pv 4) pa_nil))))) pa_nil)) pa_nil)) (pe_callTy (call_strA hG hr.units) (by rfl) T.b_str (by decide +kernel) (pa_cons (pe_lst (pa_cons (pe_call (ok__law_most_due (P := P) (w := w) (base := base) T) (hr.mono (by decide)) (by rfl) T._law_most_due.g T._law_most_due.F.kp T._law_most_due.b .nil pass0 (pa_cons (pv 1) (pa_cons (pv 2) (pa_cons (pv 3) (pa_cons (pv 4) (pa_cons (pv 12) pa_nil)))))) pa_nil)) pa_nil)) (nomark _)) (pss_one (ps_ret pe_bl)) pss_nil)))))) (pss_cons (ps_for PassesOwn.never rfl (pi_list (pe_call (ok__law_things (P := P) (w := w) (base := base) T) (hr.mono (by decide)) (by rfl) T._law_things.g T._law_things.F.kp T._law_things.b .nil pass0 (pa_cons (pv 9) (pa_cons (pv 1) pa_nil)))) (gn 10 (sc__law_ends_right).nd) (pss_cons (ps_asg (pe_make T.mk_Most (ok_Most_init (P := P) (w := w) (base := base) T) (hr.mono (by decide)) (by rfl) T.Most.g T.Most_init.b .nil pass0 (pa_cons (pv 8) (pa_cons (pv 7) (pa_cons (pv 10) pa_nil)))) (gn 12 (sc__law_ends_right).nd)) (pss_one (ps_if (pt_cmpR (op_neA hr.units) (pe_callTy (call_strA hG hr.units) (by rfl) T.b_str (by decide +kernel) (pa_cons (pe_lst (pa_cons (PE.or (pe_meth (pv 12) T.Most.cl T.Most_shows.m (ok_Most_shows (P := P) (w := w) (base := base) T) (hr.mono (by decide)) T.Most_shows.b .nil pass0 (pa_cons (pv 5) (pa_cons (pv 3) (pa_cons (pv 4) pa_nil)))) (pe_meth (pv 12) T.Free.cl T.Free_shows.m (ok_Free_shows (P := P) (w := w) (base := base) T) (hr.mono (by decide)) T.Free_shows.b .nil pass0 (pa_cons (pv 5) (pa_cons (pv 3) (pa_cons (pv 4) pa_nil))))) pa_nil)) pa_nil)) (pe_callTy (call_strA hG hr.units) (by rfl) T.b_str (by decide +kernel) (pa_cons (pe_lst (pa_cons (pe_call (ok__law_most_due (P := P) (w := w) (base := base) T) (hr.mono (by decide)) (by rfl) T._law_most_due.g T._law_most_due.F.kp T._law_most_due.b .nil pass0 (pa_cons (pv 1) (pa_cons (pv 2) (pa_cons (pv 3) (pa_cons (pv 4) (pa_cons (pv 12) pa_nil)))))) pa_nil)) pa_nil)) (nomark _)) (pss_one (ps_ret pe_bl)) pss_nil)))) (pss_cons (ps_asg (pe_lst (pa_cons (pe_lst pa_nil) (pa_cons (pe_lst (pa_cons (pv 3) pa_nil)) (pa_cons (pe_lst (pa_cons (pv 3) (pa_cons (pv 4) pa_nil))) (pa_cons (pv 1) (pa_cons (pe_op op_addA (pe_revL (pv 1)) (pe_lst (pa_cons pe_non pa_nil))) (pa_cons (pe_lst (pa_cons (pv 3) (pa_cons (pv 3) pa_nil))) pa_nil))))))) (gn 13 (sc__law_ends_right).nd)) (pss_cons (ps_asg (pe_op op_addA (pv 13) (pe_lst (pa_cons (pe_lst (pa_cons pe_str (pa_cons (pv 3) pa_nil))) (pa_cons (pe_lst (pa_cons pe_non pa_nil)) (pa_cons (pe_slice sl_list (pv 1) (po_some pe_int) po_none) pa_nil))))) (gn 13 (sc__law_ends_right).nd)) (pss_cons (ps_for PassesOwn.never rfl (pi_list (pe_op op_addA (pv 13) (pe_ifExp (pt_val (pe_callB call_isi (by rfl) T.b_isinstance (by decide +kernel) (pa_cons (pv 6) (pa_cons (pe_glob (v := .ref T.Free.C) (by rfl) T.Free.g rfl) pa_nil)))) (pe_lst (pa_cons (pe_fld (pv 6) rfl) (pa_cons (pe_slice sl_list (pe_fld (pv 6) rfl) (po_some pe_int) po_none) (pa_cons (pe_op op_addA (pe_fld (pv 6) rfl) (pe_slice sl_list (pe_fld (pv 6) rfl) po_none (po_some pe_int))) pa_nil)))) (pe_lst pa_nil)))) (gn 14 (sc__law_ends_right).nd) (pss_cons (ps_asg (pe_make T.mk_Free (ok_Free_init (P := P) (w := w) (base := base) T) (hr.mono (by decide)) (by rfl) T.Free.g T.Free_init.b .nil pass0 (pa_cons (pv 14) pa_nil)) (gn 12 (sc__law_ends_right).nd)) (pss_one (ps_if (pt_cmpR (op_neA hr.units) (pe_callTy (call_strA hG hr.units) (by rfl) T.b_str (by decide +kernel) (pa_cons (pe_lst (pa_cons (PE.or (pe_meth (pv 12) T.Most.cl T.Most_shows.m (ok_Most_shows (P := P) (w := w) (base := base) T) (hr.mono (by decide)) T.Most_shows.b .nil pass0 (pa_cons (pv 5) (pa_cons (pv 3) (pa_cons (pv 4) pa_nil)))) (pe_meth (pv 12) T.Free.cl T.Free_shows.m (ok_Free_shows (P := P) (w := w) (base := base) T) (hr.mono (by decide)) T.Free_shows.b .nil pass0 (pa_cons (pv 5) (pa_cons (pv 3) (pa_cons (pv 4) pa_nil))))) pa_nil)) pa_nil)) (pe_callTy (call_strA hG hr.units) (by rfl) T.b_str (by decide +kernel) (pa_cons (pe_lst (pa_cons (pe_call (ok__law_free_due (P := P) (w := w) (base := base) T) (hr.mono (by decide)) (by rfl) T._law_free_due.g T._law_free_due.F.kp T._law_free_due.b .nil pass0 (pa_cons (pv 1) (pa_cons (pv 2) (pa_cons (pv 3) (pa_cons (pv 4) (pa_cons (pv 14) pa_nil)))))) pa_nil)) pa_nil)) (nomark _)) (pss_one (ps_ret pe_bl)) pss_nil)))) (pss_one (ps_ret pe_bl))))))))))), run_G (N := n__law_ends_right) h ?_⟩)
  rintro gs ts Φ ⟨s, a, ns, b, k, fs, cs, e, f, rfl, rfl, hb, hk, hf, hc, hr, he, hf', hne, rfl⟩
  have KC := T.Kind.cl
  have MC := T.Most.cl
  have FC := T.Free.cl
  have lf := hf.most
  have lc := hc.most
  have far := far_ok (cs := cs) (a := e) (b := f) hf
  obtain ⟨tp1, tp2, tp3⟩ := thgV_prop ns b 5 (by decide) hk hf.nd
  refine bd_then (bd_asg (t := kT T.Kind.C fs cs) (ed_make (ea_cons (ed_var rfl) (ea_one (ed_var rfl))) (fun p => ⟨p, _, fs, cs, rfl, rfl, rfl, hf, hc, rfl, rfl⟩)) eg_name ?_)
  refine bd_then (bd_asg (t := an2T T.Most.C T.Free.C (farA fs cs e f)) (ed_call (ea_cons (ed_var rfl) (ea_cons (ed_var rfl) (ea_one (ed_var rfl)))) ⟨_, fs, cs, e, f, rfl, rfl, hf, hc, hr, he, hf', hne, rfl⟩) eg_name ?_)
  generalize farA fs cs e f = an at far
  refine bd_then (bd_par3X (xa_ea (ea_cons (ed_lst (ea_one ed_int) (by simp)) (ea_cons ed_int (ea_one (ed_callM (js := [0]) [⟨true, s, stO K a ns b (thgV ns b k 5 fs).2⟩] (ea_cons (ed_var rfl) (ea_cons (ed_var rfl) (ea_one ed_int))) (by decide) (Lent.one rfl) rfl ⟨s, a, ns, b, k, fs, 5, rfl, rfl, hb, hk, by decide, by omega, rfl, rfl⟩)))) ⟨_, _, _, rfl, ?_⟩))
  generalize (thgV ns b k 5 fs).2 = k1 at tp3
  generalize (thgV ns b k 5 fs).1 = th at tp1 tp2
  have hTg : Tg fs th := by unfold Tg; rw [tp1]
  refine bd_seq (Nx := fun Γ' => ∃ us x t0, us.length ≤ 1000 ∧ Tg fs t0 ∧ Γ' = ⟨[some (.val (.ref s)), some (fsT fs), some (csT cs), some (eT e), some (eT f), some (kT T.Kind.C fs cs), some (an2T T.Most.C T.Free.C an), some (intsT us), some (.int x), some (tT t0), none, none, none, none, none], [⟨true, s, stO K a ns b k1⟩]⟩) (bd_if (et_val (ed_isiA2 (an := an) T.Most.ins T.Free.ins (ea_cons (ed_var rfl) (ea_one ed_val)) T.i_Most_Most T.i_Free_Most)) (fun z => ?_) (fun z => bd_next ⟨[0], 0, th, by simp, hTg, rfl⟩)) ?_
  · cases an with
    | inr lot => cases z
    | inl q =>
      exact bd_par3X (xa_ea (ea_cons (ed_fld (t := intsT (natsI q.2.1)) MC T.n_Most_counts (ed_var (t := .obj T.Most.C (moFs q.1 (natsI q.2.1) q.2.2)) rfl) rfl) (ea_cons (ed_fld (t := .int q.1) MC T.n_Most_number (ed_var (t := .obj T.Most.C (moFs q.1 (natsI q.2.1) q.2.2)) rfl) rfl) (ea_one (ed_fld (t := tT q.2.2) MC T.n_Most_thing (ed_var (t := .obj T.Most.C (moFs q.1 (natsI q.2.1) q.2.2)) rfl) rfl)))) ⟨_, _, _, rfl, natsI q.2.1, q.1, q.2.2, by unfold natsI; rw [List.length_map]; exact far.1, far.2, rfl⟩)
  rintro Γ' ⟨us, x, t0, hu, ht0, rfl⟩
  clear tp1 tp2 hTg
  have hok0 := ht0.ok hf
  refine bd_seq (Nx := fun Γ' => ∃ k' x10 x11 x12, 0 ≤ k' ∧ Γ' = ⟨[some (.val (.ref s)), some (fsT fs), some (csT cs), some (eT e), some (eT f), some (kT T.Kind.C fs cs), some (an2T T.Most.C T.Free.C an), some (intsT us), some (.int x), some (tT t0), x10, x11, x12, none, none], [⟨true, s, stO K a ns b k'⟩]⟩) (bd_forL (ex_callG (js := [0]) (ea_cons (ed_var rfl) (ea_cons (ed_var rfl) (ea_one ((ed_lenL (ts := cs.map cT) (ea_one (ed_var rfl))).to (by rw [List.length_map]))))) (by decide) (Lent.one rfl) ⟨s, a, ns, b, k1, us, cs.length, rfl, rfl, hb, tp3, by omega, by omega, rfl⟩ (fun t gs' h => ?_))) ?_
  · obtain ⟨L, k2, rfl, hL, hk2, rfl⟩ := h
    refine ⟨[⟨true, s, stO K a ns b k2⟩], rfl, rfl, L.map intsT, rfl, fun _ Γ' => ∃ k' x10 x11 x12, 0 ≤ k' ∧ Γ' = ⟨[some (.val (.ref s)), some (fsT fs), some (csT cs), some (eT e), some (eT f), some (kT T.Kind.C fs cs), some (an2T T.Most.C T.Free.C an), some (intsT us), some (.int x), some (tT t0), x10, x11, x12, none, none], [⟨true, s, stO K a ns b k'⟩]⟩, ⟨k2, _, _, _, hk2, rfl⟩, ?_, fun _ h => h⟩
    rintro i Γ' hi ⟨k', x10, x11, x12, hk', rfl⟩
    have hi' : i < L.length := by simpa using hi
    refine ⟨_, eg_name, ?_⟩
    rw [getD_map hi']
    have hl := hL.2 _ (List.getElem_mem hi')
    generalize L[i] = l at hl
    refine bd_for (fun _ Γ' => ∃ x11 x12, Γ' = ⟨[some (.val (.ref s)), some (fsT fs), some (csT cs), some (eT e), some (eT f), some (kT T.Kind.C fs cs), some (an2T T.Most.C T.Free.C an), some (intsT us), some (.int x), some (tT t0), some (intsT l), x11, x12, none, none], [⟨true, s, stO K a ns b k'⟩]⟩) (ei_tup (ts := [x, x + 1].map FK.T.int) (ed_tup (ea_cons (ed_var rfl) (ea_one (ed_add (ed_var rfl) ed_int))) (by simp))) ⟨_, _, rfl⟩ ?_ (fun Γ' h => by obtain ⟨x11, x12, rfl⟩ := h; exact ⟨k', _, _, _, hk', rfl⟩)
    rintro j Γ' hj ⟨x11, x12, rfl⟩
    have hj' : j < [x, x + 1].length := by simpa using hj
    refine ⟨_, eg_name, ?_⟩
    rw [getD_map hj']
    generalize [x, x + 1][j] = y
    refine bd_then (bd_asg (t := .obj T.Most.C (moFs y l t0)) (ed_make (ea_cons (ed_var rfl) (ea_cons (ed_var rfl) (ea_one (ed_var rfl)))) (fun p => ⟨p, _, y, l, t0, rfl, rfl, rfl, rfl, rfl⟩)) eg_name ?_)
    exact bd_skip ((et_test (ed_neS (ed_strL (ea_one (ed_lst (ea_one (ed_orl (ed_meth (ed_var (t := .obj T.Most.C (moFs y l t0)) rfl) rfl (ea_cons (ed_var rfl) (ea_cons (ed_var rfl) (ea_one (ed_var rfl)))) ⟨_, _, fs, cs, e, f, y, l, t0, rfl, rfl, rfl, hf, hc, he, hf', by omega, rfl⟩))) (by simp))) (shw_one _) (by decide) (by decide)) (ed_strL (ea_one (ed_lst (ea_one (ed_call (ea_cons (ed_var rfl) (ea_cons (ed_var rfl) (ea_cons (ed_var rfl) (ea_cons (ed_var rfl) (ea_one (ed_var rfl)))))) ⟨fs, cs, e, f, y, l, t0, rfl, hf, hc, he, hf', by omega, hok0, rfl⟩)) (by simp))) (shw_one _) (by decide) (by decide)))).to (by rw [most_eq hf hok0]; simp)) ⟨_, _, rfl⟩
  rintro Γ' ⟨k3, x10, x11, x12, hk3, rfl⟩
  refine bd_seq (Nx := fun Γ' => ∃ x10 x12, Γ' = ⟨[some (.val (.ref s)), some (fsT fs), some (csT cs), some (eT e), some (eT f), some (kT T.Kind.C fs cs), some (an2T T.Most.C T.Free.C an), some (intsT us), some (.int x), some (tT t0), x10, x11, x12, none, none], [⟨true, s, stO K a ns b k3⟩]⟩) (bd_foldL (xs := nearT fs t0) (g := tT) (fun (_ : Unit) Γ' => ∃ x10 x12, Γ' = ⟨[some (.val (.ref s)), some (fsT fs), some (csT cs), some (eT e), some (eT f), some (kT T.Kind.C fs cs), some (an2T T.Most.C T.Free.C an), some (intsT us), some (.int x), some (tT t0), x10, x11, x12, none, none], [⟨true, s, stO K a ns b k3⟩]⟩) (fun _ _ => ()) () (ed_call (ea_cons (ed_var rfl) (ea_one (ed_var rfl))) ⟨t0, fs, rfl, hf, ht0, rfl⟩) ⟨_, _, rfl⟩ (fun l hl _ Γ' hΓ => ?_) (fun _ h => h)) ?_
  · obtain ⟨x10, x12, rfl⟩ := hΓ
    have ho := nearT_ok hf ht0 l hl
    refine ⟨_, eg_name, ?_⟩
    refine bd_then (bd_asg (t := .obj T.Most.C (moFs x us l)) (ed_make (ea_cons (ed_var rfl) (ea_cons (ed_var rfl) (ea_one (ed_var rfl)))) (fun p => ⟨p, _, x, us, l, rfl, rfl, rfl, rfl, rfl⟩)) eg_name ?_)
    exact bd_skip ((et_test (ed_neS (ed_strL (ea_one (ed_lst (ea_one (ed_orl (ed_meth (ed_var (t := .obj T.Most.C (moFs x us l)) rfl) rfl (ea_cons (ed_var rfl) (ea_cons (ed_var rfl) (ea_one (ed_var rfl)))) ⟨_, _, fs, cs, e, f, x, us, l, rfl, rfl, rfl, hf, hc, he, hf', by omega, rfl⟩))) (by simp))) (shw_one _) (by decide) (by decide)) (ed_strL (ea_one (ed_lst (ea_one (ed_call (ea_cons (ed_var rfl) (ea_cons (ed_var rfl) (ea_cons (ed_var rfl) (ea_cons (ed_var rfl) (ea_one (ed_var rfl)))))) ⟨fs, cs, e, f, x, us, l, rfl, hf, hc, he, hf', by omega, ho, rfl⟩)) (by simp))) (shw_one _) (by decide) (by decide)))).to (by rw [most_eq hf ho]; simp)) ⟨_, _, rfl⟩
  rintro Γ' ⟨y10, x12, rfl⟩
  refine bd_then (bd_asg (t := .lst (([[], [e], [e, f], fs.map some, (fs.map some).reverse ++ [none], [e, e]] : List (List End)).map endsT)) (ed_lst (ea_cons (ed_lst ea_nil (by simp)) (ea_cons (ed_lst (ea_one (ed_var rfl)) (by simp)) (ea_cons (ed_lst (ea_cons (ed_var rfl) (ea_one (ed_var rfl))) (by simp)) (ea_cons ((ed_var (t := fsT fs) rfl).to (fsT_ends fs)) (ea_cons (ed_catG (g := eT) (xs := (fs.map some).reverse) (ys := [none]) (ed_revG (g := eT) (xs := fs.map some) ((ed_var (t := fsT fs) rfl).to (fsT_ends fs))) (ed_lst (ea_one ed_non) (by simp)) (by simp; omega)) (ea_one (ed_lst (ea_cons (ed_var rfl) (ea_one (ed_var rfl))) (by simp)))))))) (by simp)) eg_name ?_)
  refine bd_then (bd_asg (t := .lst ((lotsOf fs e f).map endsT)) (ed_catG (g := endsT) (xs := [[], [e], [e, f], fs.map some, (fs.map some).reverse ++ [none], [e, e]]) (ys := ([[some ("zz" : Str), e], [none], cutG (fs.map some) (some 1) none] : List (List End))) (ed_var rfl) (ed_lst (ea_cons (ed_lst (ea_cons ed_str (ea_one (ed_var rfl))) (by simp)) (ea_cons (ed_lst (ea_one ed_non) (by simp)) (ea_one (ed_cutG (g := eT) (xs := fs.map some) ((ed_var (t := fsT fs) rfl).to (fsT_ends fs)) (eo_some ed_int) eo_none)))) (by simp)) (by simp)) eg_name ?_)
  have hlots : ∀ l ∈ lotsOf fs e f ++ moreLots an, l.length ≤ 1000 := fun l hl => (List.mem_append.mp hl).elim (lots_ok hf e f l) (more_ok far l)
  have hll : (lotsOf fs e f).length = 9 := rfl
  generalize lotsOf fs e f = lots at hlots hll
  refine bd_seq (Nx := fun Γ' => ∃ x12 x14, Γ' = ⟨[some (.val (.ref s)), some (fsT fs), some (csT cs), some (eT e), some (eT f), some (kT T.Kind.C fs cs), some (an2T T.Most.C T.Free.C an), some (intsT us), some (.int x), some (tT t0), y10, x11, x12, some (.lst (lots.map endsT)), x14], [⟨true, s, stO K a ns b k3⟩]⟩) (bd_foldL (xs := lots ++ moreLots an) (g := endsT) (fun (_ : Unit) Γ' => ∃ x12 x14, Γ' = ⟨[some (.val (.ref s)), some (fsT fs), some (csT cs), some (eT e), some (eT f), some (kT T.Kind.C fs cs), some (an2T T.Most.C T.Free.C an), some (intsT us), some (.int x), some (tT t0), y10, x11, x12, some (.lst (lots.map endsT)), x14], [⟨true, s, stO K a ns b k3⟩]⟩) (fun _ _ => ()) () (ed_catG (g := endsT) (xs := lots) (ys := moreLots an) (ed_var rfl) (ed_ifp (et_val (ed_isiA2 (an := an) T.Most.ins T.Free.ins (ea_cons (ed_var rfl) (ea_one ed_val)) T.i_Most_Free T.i_Free_Free)) (fun z => ?_) (fun z => ?_)) ?_) ⟨_, _, rfl⟩ (fun l hl _ Γ' hΓ => ?_) (fun _ h => h)) ?_
  · cases an with
    | inl q => cases z
    | inr lot =>
      have hl : lot.length ≤ 100 := far
      have h2 := cutG_len lot none (some 1)
      exact ed_lst (ea_cons (ed_fld (t := endsT lot) FC T.n_Free_lot (ed_var (t := .obj T.Free.C (frFs lot)) rfl) rfl) (ea_cons (ed_cutG (g := eT) (xs := lot) (ed_fld (t := endsT lot) FC T.n_Free_lot (ed_var (t := .obj T.Free.C (frFs lot)) rfl) rfl) (eo_some ed_int) eo_none) (ea_one (ed_catG (g := eT) (xs := lot) (ys := cutG lot none (some 1)) (ed_fld (t := endsT lot) FC T.n_Free_lot (ed_var (t := .obj T.Free.C (frFs lot)) rfl) rfl) (ed_cutG (g := eT) (xs := lot) (ed_fld (t := endsT lot) FC T.n_Free_lot (ed_var (t := .obj T.Free.C (frFs lot)) rfl) rfl) eo_none (eo_some ed_int)) (by omega))))) (by simp [moreLots])
  · cases an with
    | inl q => exact ed_lst ea_nil (by simp [moreLots])
    | inr lot => cases z
  · rw [hll]
    cases an with
    | inl q => simp [moreLots]
    | inr lot => simp [moreLots]
  · obtain ⟨x12, x14, rfl⟩ := hΓ
    have hl' := hlots l hl
    refine ⟨_, eg_name, ?_⟩
    refine bd_then (bd_asg (t := .obj T.Free.C (frFs l)) (ed_make (ea_one (ed_var rfl)) (fun p => ⟨p, _, l, rfl, rfl, rfl, rfl, rfl⟩)) eg_name ?_)
    exact bd_skip ((et_test (ed_neS (ed_strL (ea_one (ed_lst (ea_one (ed_orr (ed_meth (ed_var (t := .obj T.Free.C (frFs l)) rfl) rfl (ea_cons (ed_var rfl) (ea_cons (ed_var rfl) (ea_one (ed_var rfl)))) ⟨_, _, fs, cs, e, f, l, rfl, rfl, rfl, by omega, by omega, hl', rfl⟩))) (by simp))) (shw_one _) (by decide) (by decide)) (ed_strL (ea_one (ed_lst (ea_one (ed_call (ea_cons (ed_var rfl) (ea_cons (ed_var rfl) (ea_cons (ed_var rfl) (ea_cons (ed_var rfl) (ea_one (ed_var rfl)))))) ⟨fs, cs, e, f, l, rfl, hf, hc, hl', rfl⟩)) (by simp))) (shw_one _) (by decide) (by decide)))).to (by rw [free_eq hc]; simp)) ⟨_, _, rfl⟩
  rintro Γ' ⟨z12, x14, rfl⟩
  exact bd_ret ed_bl ⟨[(s, stO K a ns b k3)], [], rfl, k3, rfl, hk3, rfl⟩
end
end FK
set_option maxHeartbeats 8000000
namespace FK
open PySem L2
section
variable {P : Program} {w : World} {K : PySem.W.Frag} {mg : Str → Option Value} {base : Heap}
def rowsN (n : Nat) : List (List Int) := (List.range n).map fun i : Nat => [(i : Int)]
def lotsK (n m : Nat) : List (List (List Int)) := [rowsN n, cutG (rowsN n) (some 1) none, (rowsN n).reverse, rowsN n ++ cutG (rowsN n) none (some 1), [], List.replicate m [0, 1]]
def LotOk (L : List (List Int)) : Prop := L.length ≤ 200 ∧ ∀ l ∈ L, l.length ≤ 2
theorem rowsN_ok (n : Nat) (h : n ≤ 100) : LotOk (rowsN n) := ⟨by unfold rowsN; rw [List.length_map, List.length_range]; omega, fun l hl => by obtain ⟨i, _, rfl⟩ := List.mem_map.mp hl; simp⟩
theorem lotsK_ok {n m : Nat} (hn : n ≤ 100) (hm : m ≤ 100) : ∀ L ∈ lotsK n m, LotOk L := fun L hL => by
  have h0 := rowsN_ok n hn
  have hlen : (rowsN n).length = n := by unfold rowsN; rw [List.length_map, List.length_range]
  unfold lotsK at hL
  generalize rowsN n = rs at h0 hL hlen
  have h1 := cutG_len rs (some 1) none
  have h2 := cutG_len rs none (some 1)
  simp only [List.mem_cons, List.not_mem_nil, or_false] at hL
  rcases hL with rfl | rfl | rfl | rfl | rfl | rfl
  · exact h0
  · exact ⟨by omega, fun l hl => h0.2 l (cutG_mem hl)⟩
  · exact ⟨by rw [List.length_reverse]; omega, fun l hl => h0.2 l (List.mem_reverse.mp hl)⟩
  · exact ⟨by rw [List.length_append]; omega, fun l hl => (List.mem_append.mp hl).elim (h0.2 l) fun h => h0.2 l (cutG_mem h)⟩
  · exact ⟨by simp, fun l hl => (List.not_mem_nil hl).elim⟩
  · exact ⟨by rw [List.length_replicate]; omega, fun l hl => by rw [List.eq_of_mem_replicate hl]; simp⟩
theorem rep_one (m : Nat) : (List.replicate m [intsT [0, 1]]).flatten = (List.replicate m ([0, 1] : List Int)).map intsT := by
  induction m with
  | zero => rfl
  | succ m ih => rw [List.replicate_succ, List.replicate_succ, List.flatten_cons, List.map_cons, ih]; rfl
def goodK (cs : List Chk) (q : List Int × Chk) : Bool := chainB cs q.1 q.2.1 q.2.2.1 && decide (sumI cs q.1 ≤ q.2.2.2)
def keepL (fs : List Str) (cs ds : List Chk) (ns : List (List Int)) : Bool := (hasB fs cs && decide (ns.length = ds.length)) && (ns.zip ds).all (goodK cs)
theorem keep_eq {fs : List Str} {cs ds : List Chk} {ns : List (List Int)} (hc : Cks fs cs) : keepB fs cs ds ns = keepL fs cs ds ns := by
  unfold keepB keepL
  rw [has_eq hc]; rfl
def strayL (fs : List Str) (cs ds : List Chk) (th : Thing) (i : Int) : Bool := (lgoodB fs cs th && inR ds.length i) && decide ((ckAt ds i).2.2 < numAt th (ckAt ds i).1 - numAt th (ckAt ds i).2.1)
theorem stray_eq {fs : List Str} {cs ds : List Chk} {th : Thing} {i : Int} (hf : Fld fs) (h : ThOk th) : strayB fs cs ds th i = strayL fs cs ds th i := by
  unfold strayB strayL soB
  rw [good_eq h.2.2 hf.nd, Bool.and_assoc]
  congr 2
  by_cases z : numAt th (ckAt ds i).1 - numAt th (ckAt ds i).2.1 ≤ (ckAt ds i).2.2
  · rw [decide_eq_true z, decide_eq_false (by omega)]; rfl
  · rw [decide_eq_false z, decide_eq_true (by omega)]; rfl
theorem shp_nss (ns : List (List Int)) : Shp 2 (nssT ns) := Shp.lstMap fun l _ => shp_ints l
def R__law_kept_right (K : PySem.W.Frag) (gs : List AO) (ts : List FK.T) (Φ : FK.T → List AO → Prop) : Prop := ∃ s a ns b k fs cs ds th, gs = [(s, stO K a ns b k)] ∧ ts = [.val (.ref s), fsT fs, csT cs, csT ds, tT th] ∧ Fld fs ∧ Cks fs cs ∧ Cks fs ds ∧ Tg fs th ∧
  Φ = fun t gs' => t = .bl true ∧ gs' = [(s, stO K a ns b k)]
set_option maxHeartbeats 8000000 in
theorem ok__law_kept_right (T : Tx K mg) : GnOk P w K mg base 7 T._law_kept_right.f T._law_kept_right.fd ["_law_state", "_law_fields_here", "_law_checks_here", "_law_other", "_law_thing_here"] (spG P w (R__law_kept_right K)) := by
  refine gn_of T._law_kept_right.F sc__law_kept_right (len_G fun gs ts Φ h => by unfold R__law_kept_right at h; obtain ⟨_, _, _, _, _, _, _, _, _, rfl, rfl, _⟩ := h; rfl) (fun cdv A outer s H vs Q E hG hr h => ⟨_, (pss_cons (ps_par (i := 5) (j := 6) rfl (sc__law_kept_right).nd rfl rfl (by decide) rfl rfl (pa_cons (pe_make T.mk_Kind (ok_Kind_init (P := P) (w := w) (base := base) T) (hr.mono (by decide)) (by rfl) T.Kind.g T.Kind_init.b .nil pass0 (pa_cons (pv 1) (pa_cons (pv 2) pa_nil))) (pa_cons (pe_make T.mk_Kind (ok_Kind_init (P := P) (w := w) (base := base) T) (hr.mono (by decide)) (by rfl) T.Kind.g T.Kind_init.b .nil pass0 (pa_cons (pv 1) (pa_cons (pv 3) pa_nil))) pa_nil)) (by rfl)) (pss_cons (ps_setLc (i := 7) (own := [("_law_at_here", 15)]) rfl (sc__law_kept_right).nd rfl rfl (sw_true rfl rfl rfl (by decide +kernel)) (pi_range1 (by rfl) T.b_range (pa_cons (pe_callB call_lenA (by rfl) T.b_len (by decide +kernel) (pa_cons (pv 2) pa_nil)) pa_nil)) (blkOk_by (N := n__law_kept_right) (sc := defScope s__law_kept_right) (by decide +kernel)) (fun _ _ _ _ _ => (gn 15 (sc__law_kept_right).nd)) (fun _ _ _ _ _ => pts_nil) (fun _ _ _ _ _ => (pe_lst (pa_cons (pv 15) pa_nil)))) (pss_cons (ps_asg (pe_lst (pa_cons (pv 7) (pa_cons (pe_slice sl_list (pv 7) (po_some pe_int) po_none) (pa_cons (pe_revL (pv 7)) (pa_cons (pe_op op_addA (pv 7) (pe_slice sl_list (pv 7) po_none (po_some pe_int))) (pa_cons (pe_lst pa_nil) (pa_cons (pe_op op_mulA (pe_lst (pa_cons (pe_lst (pa_cons pe_int (pa_cons pe_int pa_nil))) pa_nil)) (pe_callB call_lenA (by rfl) T.b_len (by decide +kernel) (pa_cons (pv 3) pa_nil))) pa_nil))))))) (gn 8 (sc__law_kept_right).nd)) (pss_cons (ps_expr (pe_bm PySem.F.plainAttrs_list PySem.F.slot_list_append PySem.F.type_list_append mt_append (pv 8) (pa_cons (pe_lc (own := [("_law_at_here", 15)]) rfl (sc__law_kept_right).nd (pi_range1 (by rfl) T.b_range (pa_cons (pe_callB call_lenA (by rfl) T.b_len (by decide +kernel) (pa_cons (pv 3) pa_nil)) pa_nil)) (blkOk_by (N := n__law_kept_right) (sc := defScope s__law_kept_right) (by decide +kernel)) (fun _ _ _ _ _ => (gn 15 (sc__law_kept_right).nd)) (fun _ _ _ _ _ => pts_nil) (fun _ _ _ _ _ => (pe_lst (pa_cons (pv 15) pa_nil)))) pa_nil))) (pss_cons (ps_for PassesOwn.never rfl (pi_list (pv 8)) (gn 9 (sc__law_kept_right).nd) (pss_cons (ps_asg (pe_make T.mk_Keeps (ok_Keeps_init (P := P) (w := w) (base := base) T) (hr.mono (by decide)) (by rfl) T.Keeps.g T.Keeps_init.b .nil pass0 (pa_cons (pv 9) pa_nil)) (gn 10 (sc__law_kept_right).nd)) (pss_cons (ps_asg (pe_and (pe_call (ok__law_has (P := P) (w := w) (base := base) T) (hr.mono (by decide)) (by rfl) T._law_has.g T._law_has.F.kp T._law_has.b .nil pass0 (pa_cons (pv 1) (pa_cons (pv 2) pa_nil))) (pe_one (pe_cmpR (op_eqA hr.units) (pe_callB call_lenA (by rfl) T.b_len (by decide +kernel) (pa_cons (pv 9) pa_nil)) (pe_callB call_lenA (by rfl) T.b_len (by decide +kernel) (pa_cons (pv 3) pa_nil)) (nomark _)))) (gn 11 (sc__law_kept_right).nd)) (pss_cons (ps_for PassesOwn.never rfl (pi_zip (by rfl) T.b_zip (pa_cons (pv 9) (pa_cons (pv 3) pa_nil))) (pg_tup rfl (pgs_cons (gn 12 (sc__law_kept_right).nd) (pgs_cons (gn 13 (sc__law_kept_right).nd) pgs_nil))) (pss_one (ps_asg (pe_and (pv 11) (pe_and (pe_call (ok__law_chain (P := P) (w := w) (base := base) T) (hr.mono (by decide)) (by rfl) T._law_chain.g T._law_chain.F.kp T._law_chain.b .nil pass0 (pa_cons (pv 2) (pa_cons (pv 12) (pa_cons (pe_ix (ix_any (hu_of hr)) (pv 13) pe_int (fun _ _ => rfl)) (pa_cons (pe_ix (ix_any (hu_of hr)) (pv 13) pe_int (fun _ _ => rfl)) pa_nil))))) (pe_one (pe_cmpR op_le (pe_call (ok__law_total (P := P) (w := w) (base := base) T) (hr.mono (by decide)) (by rfl) T._law_total.g T._law_total.F.kp T._law_total.b .nil pass0 (pa_cons (pv 2) (pa_cons (pv 12) pa_nil))) (pe_ix (ix_any (hu_of hr)) (pv 13) pe_int (fun _ _ => rfl)) (nomark _))))) (gn 11 (sc__law_kept_right).nd)))) (pss_one (ps_if (PW.pt (pw_or (pt_cmpR (op_neA hr.units) (pe_fld (pv 10) rfl) (pv 9) (nomark _)) (pw_or1 (pt_cmpR (op_neA hr.units) (pe_callTy (call_strA hG hr.units) (by rfl) T.b_str (by decide +kernel) (pa_cons (pe_lst (pa_cons (PE.or (pe_meth (pv 10) T.Keeps.cl T.Keeps_shows.m (ok_Keeps_shows (P := P) (w := w) (base := base) T) (hr.mono (by decide)) T.Keeps_shows.b .nil pass0 (pa_cons (pv 5) (pa_cons (pv 6) pa_nil))) (pe_meth (pv 10) T.Strays.cl T.Strays_shows.m (ok_Strays_shows (P := P) (w := w) (base := base) T) (hr.mono (by decide)) T.Strays_shows.b .nil pass0 (pa_cons (pv 5) (pa_cons (pv 6) pa_nil)))) pa_nil)) pa_nil)) (pe_callTy (call_strA hG hr.units) (by rfl) T.b_str (by decide +kernel) (pa_cons (pe_lst (pa_cons (pv 11) pa_nil)) pa_nil)) (nomark _))))) (pss_one (ps_ret pe_bl)) pss_nil)))))) (pss_cons (ps_for PassesOwn.never rfl (pi_list (pe_call (ok__law_things (P := P) (w := w) (base := base) T) (hr.mono (by decide)) (by rfl) T._law_things.g T._law_things.F.kp T._law_things.b .nil pass0 (pa_cons (pv 4) (pa_cons (pv 1) pa_nil)))) (gn 14 (sc__law_kept_right).nd) (pss_one (ps_for PassesOwn.never rfl (pi_tup (pe_tup (pa_cons pe_int (pa_cons pe_int (pa_cons (pe_op op_sub (pe_callB call_lenA (by rfl) T.b_len (by decide +kernel) (pa_cons (pv 3) pa_nil)) pe_int) (pa_cons (pe_callB call_lenA (by rfl) T.b_len (by decide +kernel) (pa_cons (pv 3) pa_nil)) (pa_cons (pe_un un_neg pe_int) pa_nil))))))) (gn 15 (sc__law_kept_right).nd) (pss_cons (ps_asg (pe_and (pe_call (ok__law_good (P := P) (w := w) (base := base) T) (hr.mono (by decide)) (by rfl) T._law_good.g T._law_good.F.kp T._law_good.b .nil pass0 (pa_cons (pv 1) (pa_cons (pv 2) (pa_cons (pv 14) pa_nil)))) (pe_one (pe_chain op_le op_lt pe_int (pv 15) (pe_callB call_lenA (by rfl) T.b_len (by decide +kernel) (pa_cons (pv 3) pa_nil))))) (gn 11 (sc__law_kept_right).nd)) (pss_cons (ps_if (pt_val (pv 11)) (pss_one (ps_asg (pe_cmpR op_gt (pe_op op_sub (pe_call (ok__law_at (P := P) (w := w) (base := base) T) (hr.mono (by decide)) (by rfl) T._law_at.g T._law_at.F.kp T._law_at.b .nil pass0 (pa_cons (pv 14) (pa_cons (pe_ix (ix_any (hu_of hr)) (pe_ix (ix_any (hu_of hr)) (pv 3) (pv 15) (fun _ _ => rfl)) pe_int (fun _ _ => rfl)) pa_nil))) (pe_call (ok__law_at (P := P) (w := w) (base := base) T) (hr.mono (by decide)) (by rfl) T._law_at.g T._law_at.F.kp T._law_at.b .nil pass0 (pa_cons (pv 14) (pa_cons (pe_ix (ix_any (hu_of hr)) (pe_ix (ix_any (hu_of hr)) (pv 3) (pv 15) (fun _ _ => rfl)) pe_int (fun _ _ => rfl)) pa_nil)))) (pe_ix (ix_any (hu_of hr)) (pe_ix (ix_any (hu_of hr)) (pv 3) (pv 15) (fun _ _ => rfl)) pe_int (fun _ _ => rfl)) (nomark _)) (gn 11 (sc__law_kept_right).nd))) pss_nil) (pss_one (ps_if (pt_cmpR (op_neA hr.units) (pe_callTy (call_strA hG hr.units) (by rfl) T.b_str (by decide +kernel) (pa_cons (pe_lst (pa_cons (PE.or (pe_meth (pe_make T.mk_Strays (ok_Strays_init (P := P) (w := w) (base := base) T) (hr.mono (by decide)) (by rfl) T.Strays.g T.Strays_init.b .nil pass0 (pa_cons (pv 14) (pa_cons (pv 15) pa_nil))) T.Keeps.cl T.Keeps_shows.m (ok_Keeps_shows (P := P) (w := w) (base := base) T) (hr.mono (by decide)) T.Keeps_shows.b .nil pass0 (pa_cons (pv 5) (pa_cons (pv 6) pa_nil))) (pe_meth (pe_make T.mk_Strays (ok_Strays_init (P := P) (w := w) (base := base) T) (hr.mono (by decide)) (by rfl) T.Strays.g T.Strays_init.b .nil pass0 (pa_cons (pv 14) (pa_cons (pv 15) pa_nil))) T.Strays.cl T.Strays_shows.m (ok_Strays_shows (P := P) (w := w) (base := base) T) (hr.mono (by decide)) T.Strays_shows.b .nil pass0 (pa_cons (pv 5) (pa_cons (pv 6) pa_nil)))) pa_nil)) pa_nil)) (pe_callTy (call_strA hG hr.units) (by rfl) T.b_str (by decide +kernel) (pa_cons (pe_lst (pa_cons (pv 11) pa_nil)) pa_nil)) (nomark _)) (pss_one (ps_ret pe_bl)) pss_nil))))))) (pss_one (ps_ret pe_bl)))))))), run_G (N := n__law_kept_right) h ?_⟩)
  rintro gs ts Φ ⟨s, a, ns, b, k, fs, cs, ds, th, rfl, rfl, hf, hc, hd, ht, rfl⟩
  have KC := T.Kind.cl
  have EC := T.Keeps.cl
  have lf := hf.most
  have lc := hc.most
  have ld := hd.most
  have hin : InEnds fs ds := fun c hc' => ⟨(hd.ends c hc').1, (hd.ends c hc').2.1⟩
  have comp : ∀ n : Nat, (List.range n).map (fun i : Nat => intsT [(i : Int)]) = (rowsN n).map intsT := fun n => by unfold rowsN; rw [List.map_map]; rfl
  refine bd_then (bd_par (t1 := kT T.Kind.C fs cs) (t2 := kT T.Kind.C fs ds) (ea_cons (ed_make (ea_cons (ed_var rfl) (ea_one (ed_var rfl))) (fun p => ⟨p, _, fs, cs, rfl, rfl, rfl, hf, hc, rfl, rfl⟩)) (ea_one (ed_make (ea_cons (ed_var rfl) (ea_one (ed_var rfl))) (fun p => ⟨p, _, fs, ds, rfl, rfl, rfl, hf, hd, rfl, rfl⟩)))) ?_)
  refine bd_then (bd_asg (t := nssT (rowsN cs.length)) ((ed_of_en (en_mapI (n := cs.length) (fun i => intsT [(i : Int)]) (ei_range1 (j := (cs.length : Nat)) (ea_one ((ed_lenL (ts := cs.map cT) (ea_one (ed_var rfl))).to (by rw [List.length_map]))) (by omega) (by omega)) (by omega) rfl (fun i hi => ⟨_, _, ev_name (by simp), (ed_lst (ea_one (ed_var rfl)) (by simp)).to (by rw [show (0 : Int) + (i : Nat) = (i : Nat) by omega]; rfl), rfl⟩))).to (congrArg FK.T.lst (comp _))) eg_name ?_)
  have lrn : (rowsN cs.length).length = cs.length := by unfold rowsN; rw [List.length_map, List.length_range]
  have lcut := cutG_len (rowsN cs.length) none (some 1)
  refine bd_then (bd_asgN (o := .lst ((lotsK cs.length ds.length).map nssT)) (en_lst (ea_cons (ed_var (t := nssT (rowsN cs.length)) rfl) (ea_cons (ed_cutG (g := intsT) (xs := rowsN cs.length) (ed_var rfl) (eo_some ed_int) eo_none) (ea_cons (ed_revG (g := intsT) (xs := rowsN cs.length) (ed_var rfl)) (ea_cons (ed_catG (g := intsT) (xs := rowsN cs.length) (ys := cutG (rowsN cs.length) none (some 1)) (ed_var rfl) (ed_cutG (g := intsT) (xs := rowsN cs.length) (ed_var rfl) eo_none (eo_some ed_int)) (by omega)) (ea_cons (ed_lst ea_nil (by simp)) (ea_one ((ed_of_en (en_rep (xs := [intsT [0, 1]]) (n := (ds.length : Nat)) (ed_lst (ea_one (ed_lst (ea_cons ed_int (ea_one ed_int)) (by simp))) (by simp)) ((ed_lenL (ts := ds.map cT) (ea_one (ed_var rfl))).to (by rw [List.length_map])) (by omega) (by omega) (by simp))).to (congrArg FK.T.lst (rep_one ds.length))))))))) (by simp [lotsK])) fun lo => ?_)
  refine bd_then (bd_append (j := 1) (l := false) (ts := (lotsK cs.length ds.length).map nssT) (ts1 := (lotsK cs.length ds.length).map nssT) (t := nssT (rowsN ds.length)) (ed_var rfl) rfl ((ed_of_en (en_mapI (n := ds.length) (fun i => intsT [(i : Int)]) (ei_range1 (j := (ds.length : Nat)) (ea_one ((ed_lenL (ts := ds.map cT) (ea_one (ed_var rfl))).to (by rw [List.length_map]))) (by omega) (by omega)) (by omega) rfl (fun i hi => ⟨_, _, ev_name (by simp), (ed_lst (ea_one (ed_var rfl)) (by simp)).to (by rw [show (0 : Int) + (i : Nat) = (i : Nat) by omega]; rfl), rfl⟩))).to (congrArg FK.T.lst (comp _))) rfl (by rw [List.length_map]; show 6 < 100000; decide) ?_)
  have hlots : ∀ L ∈ lotsK cs.length ds.length ++ [rowsN ds.length], LotOk L := fun L hL => (List.mem_append.mp hL).elim (lotsK_ok (by omega) (by omega) L) fun h => by rw [List.mem_singleton.mp h]; exact rowsN_ok _ (by omega)
  have elots : (lotsK cs.length ds.length).map nssT ++ [nssT (rowsN ds.length)] = (lotsK cs.length ds.length ++ [rowsN ds.length]).map nssT := by rw [List.map_append]; rfl
  refine bd_sub (sub_share (i := 8) (k := 1) (d := lo) (o := .lst ((lotsK cs.length ds.length).map nssT ++ [nssT (rowsN ds.length)])) rfl rfl) (Γ1 := ⟨[some (.val (.ref s)), some (fsT fs), some (csT cs), some (csT ds), some (tT th), some (kT T.Kind.C fs cs), some (kT T.Kind.C fs ds), some (nssT (rowsN cs.length)), some (.lst ((lotsK cs.length ds.length).map nssT ++ [nssT (rowsN ds.length)])), none, none, none, none, none, none, none], [⟨true, s, stO K a ns b k⟩]⟩) ?_
  rw [elots]
  generalize lotsK cs.length ds.length ++ [rowsN ds.length] = lots at hlots
  generalize nssT (rowsN cs.length) = r7
  clear lrn lcut elots comp
  refine bd_seq (Nx := fun Γ' => ∃ x9 x10 x11 x12 x13, Γ' = ⟨[some (.val (.ref s)), some (fsT fs), some (csT cs), some (csT ds), some (tT th), some (kT T.Kind.C fs cs), some (kT T.Kind.C fs ds), some r7, some (.lst (lots.map nssT)), x9, x10, x11, x12, x13, none, none], [⟨true, s, stO K a ns b k⟩]⟩) (bd_foldL (xs := lots) (g := nssT) (fun (_ : Unit) Γ' => ∃ x9 x10 x11 x12 x13, Γ' = ⟨[some (.val (.ref s)), some (fsT fs), some (csT cs), some (csT ds), some (tT th), some (kT T.Kind.C fs cs), some (kT T.Kind.C fs ds), some r7, some (.lst (lots.map nssT)), x9, x10, x11, x12, x13, none, none], [⟨true, s, stO K a ns b k⟩]⟩) (fun _ _ => ()) () (ed_var rfl) ⟨_, _, _, _, _, rfl⟩ (fun L hL _ Γ' hΓ => ?_) (fun _ h => h)) ?_
  · obtain ⟨x9, x10, x11, x12, x13, rfl⟩ := hΓ
    obtain ⟨hl1, hl2⟩ := hlots L hL
    have elen : decide ((((L.map intsT).length : Nat) : Int) = (((ds.map cT).length : Nat) : Int)) = decide (L.length = ds.length) := by rw [List.length_map, List.length_map]; exact decide_eq_decide.mpr (by omega)
    refine ⟨_, eg_name, ?_⟩
    refine bd_then (bd_asg (t := .obj T.Keeps.C (keFs L)) (ed_make (ea_one (ed_var rfl)) (fun p => ⟨p, _, L, rfl, rfl, rfl, by omega, rfl, rfl⟩)) eg_name ?_)
    refine bd_then (bd_asg (t := .bl (hasB fs cs && decide (L.length = ds.length))) (ed_and (ed_call (ea_cons (ed_var rfl) (ea_one (ed_var rfl))) ⟨fs, cs, rfl, by omega, by omega, rfl⟩) (fun _ => (ed_eqI (ed_lenL (ts := L.map intsT) (ea_one (ed_var rfl))) (ed_lenL (ts := ds.map cT) (ea_one (ed_var rfl)))).to (congrArg FK.T.bl elen))) eg_name ?_)
    refine bd_seq (Nx := fun Γ' => ∃ x12 x13, Γ' = ⟨[some (.val (.ref s)), some (fsT fs), some (csT cs), some (csT ds), some (tT th), some (kT T.Kind.C fs cs), some (kT T.Kind.C fs ds), some r7, some (.lst (lots.map nssT)), some (nssT L), some (.obj T.Keeps.C (keFs L)), some (.bl (keepL fs cs ds L)), x12, x13, none, none], [⟨true, s, stO K a ns b k⟩]⟩) (bd_for (fun i Γ' => ∃ x12 x13, Γ' = ⟨[some (.val (.ref s)), some (fsT fs), some (csT cs), some (csT ds), some (tT th), some (kT T.Kind.C fs cs), some (kT T.Kind.C fs ds), some r7, some (.lst (lots.map nssT)), some (nssT L), some (.obj T.Keeps.C (keFs L)), some (.bl ((hasB fs cs && decide (L.length = ds.length)) && ((L.zip ds).take i).all (goodK cs))), x12, x13, none, none], [⟨true, s, stO K a ns b k⟩]⟩) (ei_zip (ts := L.map intsT) (ss := ds.map cT) (ea_cons (ed_var rfl) (ea_one (ed_var rfl)))) ⟨x12, x13, by rw [List.take_zero, List.all_nil, Bool.and_true]; rfl⟩ ?_ ?_) ?_
    · rintro i Γ' hi ⟨x12, x13, rfl⟩
      rw [zip_len] at hi
      rw [zip_at hi]
      have hm := List.getElem_mem hi
      have et : (L.zip ds).take (i + 1) = (L.zip ds).take i ++ [(L.zip ds)[i]] := take_succ_at (List.getElem?_eq_getElem hi)
      rw [et, List.all_append, List.all_cons, List.all_nil, Bool.and_true, ← Bool.and_assoc]
      generalize ((hasB fs cs && decide (L.length = ds.length)) && ((L.zip ds).take i).all (goodK cs)) = d0
      generalize (L.zip ds)[i] = z at hm
      obtain ⟨l, c⟩ := z
      have hll := hl2 l (List.of_mem_zip hm).1
      refine ⟨_, eg_tup (egs_cons eg_name (egs_cons eg_name egs_nil)) rfl, ?_⟩
      exact bd_asg (t := .bl (d0 && goodK cs (l, c))) (ed_and (ed_var (t := .bl d0) rfl) (fun _ => ed_and (ed_call (ea_cons (ed_var rfl) (ea_cons (ed_var rfl) (ea_cons (ed_ixT (ed_var (t := cT c) rfl) ed_int rfl) (ea_one (ed_ixT (ed_var (t := cT c) rfl) ed_int rfl))))) ⟨cs, l, c.1, c.2.1, rfl, by omega, rfl⟩) (fun q => ed_le (ed_call (ea_cons (ed_var rfl) (ea_one (ed_var rfl))) ⟨cs, l, rfl, by omega, (leads_in (((Bool.and_eq_true _ _).mp q).1)).2, rfl⟩) (ed_ixT (ed_var (t := cT c) rfl) ed_int rfl)))) eg_name ⟨_, _, rfl⟩
    · rintro Γ' ⟨x12, x13, rfl⟩
      refine ⟨x12, x13, ?_⟩
      rw [zip_len, List.take_length]
      rfl
    · rintro Γ' ⟨x12, x13, rfl⟩
      exact bd_skip ((et_or (et_test (ed_neSame (n := 2) (x := nssT L) (ed_fld EC T.n_Keeps_chains (ed_var (t := .obj T.Keeps.C (keFs L)) rfl) rfl) (ed_var rfl) (shp_nss L) (by decide))) (fun _ => et_test (ed_neS (ed_strL (ea_one (ed_lst (ea_one (ed_orl (ed_meth (ed_var (t := .obj T.Keeps.C (keFs L)) rfl) rfl (ea_cons (ed_var rfl) (ea_one (ed_var rfl))) ⟨_, _, fs, cs, fs, ds, L, rfl, rfl, rfl, by omega, by omega, (fun l hl => by have := hl2 l hl; omega), rfl⟩))) (by simp))) (shw_one _) (by decide) (by decide)) (ed_strL (ea_one (ed_lst (ea_one (ed_var (t := .bl (keepL fs cs ds L)) rfl)) (by simp))) (shw_one _) (by decide) (by decide))))).to (by rw [keep_eq hc]; simp)) ⟨_, _, _, _, _, rfl⟩
  rintro Γ' ⟨x9, x10, x11, x12, x13, rfl⟩
  refine bd_seq (Nx := fun Γ' => ∃ x11 x14 x15, Γ' = ⟨[some (.val (.ref s)), some (fsT fs), some (csT cs), some (csT ds), some (tT th), some (kT T.Kind.C fs cs), some (kT T.Kind.C fs ds), some r7, some (.lst (lots.map nssT)), x9, x10, x11, x12, x13, x14, x15], [⟨true, s, stO K a ns b k⟩]⟩) (bd_foldL (xs := nearT fs th) (g := tT) (fun (_ : Unit) Γ' => ∃ x11 x14 x15, Γ' = ⟨[some (.val (.ref s)), some (fsT fs), some (csT cs), some (csT ds), some (tT th), some (kT T.Kind.C fs cs), some (kT T.Kind.C fs ds), some r7, some (.lst (lots.map nssT)), x9, x10, x11, x12, x13, x14, x15], [⟨true, s, stO K a ns b k⟩]⟩) (fun _ _ => ()) () (ed_call (ea_cons (ed_var rfl) (ea_one (ed_var rfl))) ⟨th, fs, rfl, hf, ht, rfl⟩) ⟨_, _, _, rfl⟩ (fun l hl _ Γ' hΓ => ?_) (fun _ h => h)) ?_
  · obtain ⟨x11, x14, x15, rfl⟩ := hΓ
    have ho := nearT_ok hf ht l hl
    refine ⟨_, eg_name, ?_⟩
    refine bd_for (fun _ Γ' => ∃ x11 x15, Γ' = ⟨[some (.val (.ref s)), some (fsT fs), some (csT cs), some (csT ds), some (tT th), some (kT T.Kind.C fs cs), some (kT T.Kind.C fs ds), some r7, some (.lst (lots.map nssT)), x9, x10, x11, x12, x13, some (tT l), x15], [⟨true, s, stO K a ns b k⟩]⟩) (ei_tup (ts := [0, 1, ((((ds.map cT).length : Nat) : Int) - 1), (((ds.map cT).length : Nat) : Int), ((0 : Nat) : Int) - 1].map FK.T.int) (ed_tup (ea_cons ed_int (ea_cons ed_int (ea_cons (ed_sub (ed_lenL (ts := ds.map cT) (ea_one (ed_var rfl))) ed_int) (ea_cons (ed_lenL (ts := ds.map cT) (ea_one (ed_var rfl))) (ea_one (ed_neg ed_int)))))) (by simp))) ⟨_, _, rfl⟩ ?_ (fun Γ' h => by obtain ⟨x11, x15, rfl⟩ := h; exact ⟨_, _, _, rfl⟩)
    rintro j Γ' hj ⟨x11, x15, rfl⟩
    have hj' : j < [0, 1, ((((ds.map cT).length : Nat) : Int) - 1), (((ds.map cT).length : Nat) : Int), ((0 : Nat) : Int) - 1].length := by simpa using hj
    refine ⟨_, eg_name, ?_⟩
    rw [getD_map hj']
    generalize [0, 1, ((((ds.map cT).length : Nat) : Int) - 1), (((ds.map cT).length : Nat) : Int), ((0 : Nat) : Int) - 1][j] = i
    have rg : (decide (0 ≤ i) && decide (i < (((ds.map cT).length : Nat) : Int))) = inR ds.length i := by rw [lenC]; rfl
    refine bd_then (bd_asg (t := .bl (lgoodB fs cs l && inR ds.length i)) (ed_and (ed_call (ea_cons (ed_var rfl) (ea_cons (ed_var rfl) (ea_one (ed_var rfl)))) ⟨fs, cs, l, rfl, hf, hc, ho.1, ho.2.1, rfl⟩) (fun _ => (ed_chain (ed_int (i := 0)) (ed_var (t := .int i) rfl) (rt_I0 fun _ => .bl _) (fun _ => ed_lenL (ts := ds.map cT) (ea_one (ed_var rfl))) (fun _ => rt_I0 fun _ => .bl _)).to (congrArg FK.T.bl rg))) eg_name ?_)
    refine bd_seq (Nx := fun Γ' => Γ' = ⟨[some (.val (.ref s)), some (fsT fs), some (csT cs), some (csT ds), some (tT th), some (kT T.Kind.C fs cs), some (kT T.Kind.C fs ds), some r7, some (.lst (lots.map nssT)), x9, x10, some (.bl (strayL fs cs ds l i)), x12, x13, some (tT l), some (.int i)], [⟨true, s, stO K a ns b k⟩]⟩) (bd_if (et_val (ed_var (t := .bl (lgoodB fs cs l && inR ds.length i)) rfl)) (fun z => ?_) (fun z => bd_next ?_)) ?_
    · obtain ⟨z1, z2⟩ := (Bool.and_eq_true _ _).mp z
      have hth := lthB_th ((Bool.and_eq_true _ _).mp z1).1
      have hat := atI_ck z2
      have hck := hin _ (mem_of_atI hat)
      have h1 := atI_map (g := cT) hat
      refine bd_asg (t := .bl (strayL fs cs ds l i)) ((ed_gt (ed_sub (ed_call (ea_cons (ed_var rfl) (ea_one (ed_ixT (ed_ixL (ts := ds.map cT) (ed_var rfl) (ed_var (t := .int i) rfl) h1) ed_int rfl))) ⟨l, (ckAt ds i).1, rfl, hth.has hck.1, rfl⟩) (ed_call (ea_cons (ed_var rfl) (ea_one (ed_ixT (ed_ixL (ts := ds.map cT) (ed_var rfl) (ed_var (t := .int i) rfl) h1) ed_int rfl))) ⟨l, (ckAt ds i).2.1, rfl, hth.has hck.2, rfl⟩)) (ed_ixT (ed_ixL (ts := ds.map cT) (ed_var rfl) (ed_var (t := .int i) rfl) h1) ed_int rfl)).to ?_) eg_name rfl
      unfold strayL
      rw [z]; rfl
    · unfold strayL
      rw [z]; rfl
    · rintro Γ' rfl
      exact bd_skip ((et_test (ed_neS (ed_strL (ea_one (ed_lst (ea_one (ed_orr (ed_meth (ed_make (fs := stFs l i) (ea_cons (ed_var rfl) (ea_one (ed_var rfl))) (fun p => ⟨p, _, l, i, rfl, rfl, rfl, rfl, rfl⟩)) rfl (ea_cons (ed_var rfl) (ea_one (ed_var rfl))) ⟨_, _, fs, cs, fs, ds, l, i, rfl, rfl, rfl, hf, hc, hin, rfl⟩))) (by simp))) (shw_one _) (by decide) (by decide)) (ed_strL (ea_one (ed_lst (ea_one (ed_var (t := .bl (strayL fs cs ds l i)) rfl)) (by simp))) (shw_one _) (by decide) (by decide)))).to (by rw [stray_eq hf ho]; simp)) ⟨_, _, rfl⟩
  rintro Γ' ⟨y11, x14, x15, rfl⟩
  exact bd_ret ed_bl ⟨[(s, stO K a ns b k)], [], rfl, rfl, rfl⟩
end
end FK
set_option maxHeartbeats 8000000
namespace FK
open PySem L2
section
variable {P : Program} {w : World} {K : PySem.W.Frag} {mg : Str → Option Value} {base : Heap}
theorem shp_sets {sets : List (Str × Int)} (h : ∀ q ∈ sets, PyData.strOk q.1 = true) : Shp 2 (setsT sets) := Shp.lstMap fun q hq => Shp.tup fun t ht => by
  simp only [List.mem_cons, List.not_mem_nil, or_false] at ht
  rcases ht with rfl | rfl
  · exact Shp.str (h q hq)
  · exact Shp.int _
def SetsOk (sets : List (Str × Int)) : Prop := sets.length ≤ 5002 ∧ ∀ q ∈ sets, PyData.strOk q.1 = true
theorem SetsOk.sub {xs ys : List (Str × Int)} (h : SetsOk xs) (hl : ys.length ≤ xs.length) (hs : ∀ q ∈ ys, q ∈ xs) : SetsOk ys := ⟨Nat.le_trans hl h.1, fun q hq => h.2 q (hs q hq)⟩
def lotsS (sets : List (Str × Int)) (x0 : Str) : List (List (Str × Int)) := [sets, cutG sets (some 1) none, cutG sets none (some (((0 : Nat) : Int) - 1)), sets.reverse, sets ++ cutG sets (some (((0 : Nat) : Int) - 1)) none]
def lotsS2 (sets : List (Str × Int)) (x0 : Str) : List (List (Str × Int)) := [sets ++ [(x0, 99)], [(("zz" : Str), (0 : Int))] ++ sets, []]
theorem Way.sets_in {fs : List Str} {cs : List Chk} {lo hi : Str → Int} {a b : Thing} {sets : List (Str × Int)} (h : Way fs cs lo hi a sets b) : ∀ q ∈ sets, q.1 ∈ fs := by
  induction h with
  | nil => intro q hq; cases hq
  | snoc _ hx _ _ _ _ ih =>
    intro q hq
    rcases List.mem_append.mp hq with hq | hq
    · exact ih q hq
    · rw [List.mem_singleton.mp hq]; exact hx
theorem lotsS_ok {sets : List (Str × Int)} {x0 : Str} (h : sets.length ≤ 5000 ∧ ∀ q ∈ sets, PyData.strOk q.1 = true) : ∀ l ∈ lotsS sets x0, ∀ q ∈ l, PyData.strOk q.1 = true := fun l hl q hq => by
  unfold lotsS at hl
  simp only [List.mem_cons, List.not_mem_nil, or_false] at hl
  rcases hl with rfl | rfl | rfl | rfl | rfl
  · exact h.2 q hq
  · exact h.2 q (cutG_mem hq)
  · exact h.2 q (cutG_mem hq)
  · exact h.2 q (List.mem_reverse.mp hq)
  · exact (List.mem_append.mp hq).elim (h.2 q) fun hq => h.2 q (cutG_mem hq)
theorem lotsS2_ok {sets : List (Str × Int)} {x0 : Str} (h : ∀ q ∈ sets, PyData.strOk q.1 = true) (hx : PyData.strOk x0 = true) : ∀ l ∈ lotsS2 sets x0, ∀ q ∈ l, PyData.strOk q.1 = true := fun l hl q hq => by
  unfold lotsS2 at hl
  simp only [List.mem_cons, List.not_mem_nil, or_false] at hl
  rcases hl with rfl | rfl | rfl
  · rcases List.mem_append.mp hq with hq | hq
    · exact h q hq
    · rw [List.mem_singleton.mp hq]; exact hx
  · rcases List.mem_append.mp hq with hq | hq
    · rw [List.mem_singleton.mp hq]; decide +kernel
    · exact h q hq
  · cases hq
def isLd : An4 → Bool
  | .inl _ => true
  | .inr _ => false
theorem ed_isiA4 {Γ Γ1 : Ev} {tr : TA} {an : An4} {S R X : Addr} {b1 b2 : Bool} (cS : InsT K S) (cR : InsT K R) (h : EdA P w tr Γ [an4T S R an, .val (.ref X)] Γ1) (h1 : PySem.W.kitOne K (.ref S) (.ref X) = Option.some b1) (h2 : PySem.W.kitOne K (.ref R) (.ref X) = Option.some b2) :
    Ed P w (tCB (rIsi K) tr) Γ (.bl (if isLd an then b1 else b2)) Γ1 := by
  cases an with
  | inl th => exact ed_isi h ⟨rfl, cS⟩ (.own X) h1
  | inr ns => exact ed_isi h ⟨rfl, cR⟩ (.own X) h2
theorem bind_len {fs : List Str} {cs : List Chk} {e : End} {r : List Nat} (hf : fs.length ≤ 6) (h : bindE (endsOf fs) (chainsE (endsOf fs) cs) e = some r) : r.length ≤ 256 := by
  unfold bindE at h
  obtain ⟨x, _, rfl⟩ := Option.map_eq_some_iff.mp h
  have key : ∀ p : End × End, (cnt (chainsE (endsOf fs) cs) p.1 p.2).length ≤ 128 := fun p => by
    unfold cnt
    cases z : getA (chainsE (endsOf fs) cs).tab (p.1, p.2) with
    | none => simp
    | some v => exact ent_len hf z
  have k1 := key (e, x)
  have k2 := key (x, e)
  rw [List.length_append]
  have k1 : (cnt (chainsE (endsOf fs) cs) e x).length ≤ 128 := k1
  have k2 : (cnt (chainsE (endsOf fs) cs) x e).length ≤ 128 := k2
  omega
def toB (fs : List Str) (t2 : Thing) : List (Str × Int) := fs.map fun x => (x, numAt t2 (some x))
def R__law_sets_right (K : PySem.W.Frag) (gs : List AO) (ts : List FK.T) (Φ : FK.T → List AO → Prop) : Prop := ∃ s a ns b k fs cs, ∃ t1 t2 : Thing, gs = [(s, stO K a ns b k)] ∧ ts = [.val (.ref s), fsT fs, csT cs, tT t1, tT t2] ∧ 0 ≤ b ∧ 0 ≤ k ∧ Fld fs ∧ Cks fs cs ∧ GoodT fs cs t1 ∧ GoodT fs cs t2 ∧
  Φ = fun t gs' => ∃ k', t = .bl true ∧ 0 ≤ k' ∧ gs' = [(s, stO K a ns b k')]
set_option maxHeartbeats 8000000 in
theorem ok__law_sets_right (T : Tx K mg) : GnOk P w K mg base 6 T._law_sets_right.f T._law_sets_right.fd ["_law_state", "_law_fields_here", "_law_checks_here", "_law_thing_here", "_law_there"] (spG P w (R__law_sets_right K)) := by
  refine gn_of T._law_sets_right.F sc__law_sets_right (len_G fun gs ts Φ h => by unfold R__law_sets_right at h; obtain ⟨_, _, _, _, _, _, _, _, _, rfl, rfl, _⟩ := h; rfl) (fun cdv A outer s H vs Q E hG hr h => ⟨_, (pss_cons (ps_asg (pe_make T.mk_Kind (ok_Kind_init (P := P) (w := w) (base := base) T) (hr.mono (by decide)) (by rfl) T.Kind.g T.Kind_init.b .nil pass0 (pa_cons (pv 1) (pa_cons (pv 2) pa_nil))) (gn 5 (sc__law_sets_right).nd)) (pss_cons (ps_asg (pe_call (ok_led (P := P) (w := w) (base := base) T) (hr.mono (by decide)) (by rfl) T.led.g T.led.F.kp T.led.b .nil pass0 (pa_cons (pv 5) (pa_cons (pv 3) (pa_cons (pv 4) pa_nil)))) (gn 6 (sc__law_sets_right).nd)) (pss_cons (ps_setLc (i := 7) (own := [("_law_field", 13)]) rfl (sc__law_sets_right).nd rfl rfl (sw_true rfl rfl rfl (by decide +kernel)) (pi_list (pv 1)) (blkOk_by (N := n__law_sets_right) (sc := defScope s__law_sets_right) (by decide +kernel)) (fun _ _ _ _ _ => (gn 13 (sc__law_sets_right).nd)) (fun _ _ _ _ _ => pts_nil) (fun _ _ _ _ _ => (pe_tup (pa_cons (pv 13) (pa_cons (pe_ix (show IxR _ (rIxA P w K) from (ix_any (hu_of hr))) (pv 4) (pv 13) (fun _ _ => rfl)) pa_nil))))) (pss_cons (ps_if (pt_val (pe_callB call_isi (by rfl) T.b_isinstance (by decide +kernel) (pa_cons (pv 6) (pa_cons (pe_glob (v := .ref T.Led.C) (by rfl) T.Led.g rfl) pa_nil)))) (pss_one (ps_asg (pe_fld (pv 6) rfl) (gn 7 (sc__law_sets_right).nd))) pss_nil) (pss_cons (ps_asg (pe_lst (pa_cons (pv 7) (pa_cons (pe_slice sl_list (pv 7) (po_some pe_int) po_none) (pa_cons (pe_slice sl_list (pv 7) po_none (po_some (pe_un un_neg pe_int))) (pa_cons (pe_revL (pv 7)) (pa_cons (pe_op op_addA (pv 7) (pe_slice sl_list (pv 7) (po_some (pe_un un_neg pe_int)) po_none)) pa_nil)))))) (gn 8 (sc__law_sets_right).nd)) (pss_cons (ps_asg (pe_op op_addA (pv 8) (pe_lst (pa_cons (pe_op op_addA (pv 7) (pe_lst (pa_cons (pe_tup (pa_cons (pe_ix (ix_any (hu_of hr)) (pv 1) pe_int (fun _ _ => rfl)) (pa_cons pe_int pa_nil))) pa_nil))) (pa_cons (pe_op op_addA (pe_lst (pa_cons (pe_tup (pa_cons pe_str (pa_cons pe_int pa_nil))) pa_nil)) (pv 7)) (pa_cons (pe_lst pa_nil) pa_nil))))) (gn 8 (sc__law_sets_right).nd)) (pss_cons (ps_expr (pe_bm PySem.F.plainAttrs_list PySem.F.slot_list_append PySem.F.type_list_append mt_append (pv 8) (pa_cons (pe_lc (own := [("_law_field", 13)]) rfl (sc__law_sets_right).nd (pi_list (pv 1)) (blkOk_by (N := n__law_sets_right) (sc := defScope s__law_sets_right) (by decide +kernel)) (fun _ _ _ _ _ => (gn 13 (sc__law_sets_right).nd)) (fun _ _ _ _ _ => (pts_one (pt_cmpR (show OpR _ _ (rNeA K) from (op_neA hr.units)) (pe_ix (show IxR _ (rIxA P w K) from (ix_any (hu_of hr))) (pv 4) (pv 13) (fun _ _ => rfl)) (pe_ix (show IxR _ (rIxA P w K) from (ix_any (hu_of hr))) (pv 3) (pv 13) (fun _ _ => rfl)) (nomark _)))) (fun _ _ _ _ _ => (pe_tup (pa_cons (pv 13) (pa_cons (pe_ix (show IxR _ (rIxA P w K) from (ix_any (hu_of hr))) (pv 4) (pv 13) (fun _ _ => rfl)) pa_nil))))) pa_nil))) (pss_cons (ps_for PassesOwn.never rfl (pi_list (pv 8)) (gn 9 (sc__law_sets_right).nd) (pss_cons (ps_asg (pe_make T.mk_Led (ok_Led_init (P := P) (w := w) (base := base) T) (hr.mono (by decide)) (by rfl) T.Led.g T.Led_init.b .nil pass0 (pa_cons (pv 9) pa_nil)) (gn 10 (sc__law_sets_right).nd)) (pss_cons (ps_asg (pe_call (ok__law_led (P := P) (w := w) (base := base) T) (hr.mono (by decide)) (by rfl) T._law_led.g T._law_led.F.kp T._law_led.b .nil pass0 (pa_cons (pv 1) (pa_cons (pv 2) (pa_cons (pv 3) (pa_cons (pv 4) (pa_cons (pv 10) pa_nil)))))) (gn 11 (sc__law_sets_right).nd)) (pss_one (ps_if (PW.pt (pw_or (pt_cmpR (op_neA hr.units) (pe_fld (pv 10) rfl) (pv 9) (nomark _)) (pw_or1 (pt_cmpR (op_neA hr.units) (pe_callTy (call_strA hG hr.units) (by rfl) T.b_str (by decide +kernel) (pa_cons (pe_lst (pa_cons (PE.or (pe_meth (pv 10) T.Led.cl T.Led_shows.m (ok_Led_shows (P := P) (w := w) (base := base) T) (hr.mono (by decide)) T.Led_shows.b .nil pass0 (pa_cons (pv 5) (pa_cons (pv 3) (pa_cons (pv 4) pa_nil)))) (pe_meth (pv 10) T.Bound.cl T.Bound_shows.m (ok_Bound_shows (P := P) (w := w) (base := base) T) (hr.mono (by decide)) T.Bound_shows.b .nil pass0 (pa_cons (pv 5) (pa_cons (pv 3) (pa_cons (pv 4) pa_nil))))) pa_nil)) pa_nil)) (pe_callTy (call_strA hG hr.units) (by rfl) T.b_str (by decide +kernel) (pa_cons (pe_lst (pa_cons (pv 11) pa_nil)) pa_nil)) (nomark _))))) (pss_one (ps_ret pe_bl)) pss_nil))))) (pss_cons (ps_asg (pe_ifExp (pt_val (pe_callB call_isi (by rfl) T.b_isinstance (by decide +kernel) (pa_cons (pv 6) (pa_cons (pe_glob (v := .ref T.Bound.C) (by rfl) T.Bound.g rfl) pa_nil)))) (pe_fld (pv 6) rfl) (pe_listRg rfl (by rfl) T.b_list (prg_1 (by rfl) T.b_range (pe_callB call_lenA (by rfl) T.b_len (by decide +kernel) (pa_cons (pv 2) pa_nil))))) (gn 12 (sc__law_sets_right).nd)) (pss_cons (ps_for PassesOwn.never rfl (pi_list (pe_call (ok__law_lists (P := P) (w := w) (base := base) T) (hr.mono (by decide)) (by rfl) T._law_lists.g T._law_lists.F.kp T._law_lists.b .nil pass0 (pa_cons (pv 0) (pa_cons (pv 12) (pa_cons (pe_callB call_lenA (by rfl) T.b_len (by decide +kernel) (pa_cons (pv 2) pa_nil)) pa_nil))))) (gn 9 (sc__law_sets_right).nd) (pss_one (ps_for PassesOwn.never rfl (pi_list (pe_op op_addA (pe_slice sl_list (pv 1) po_none (po_some pe_int)) (pe_lst (pa_cons pe_str pa_nil)))) (gn 13 (sc__law_sets_right).nd) (pss_cons (ps_asg (pe_make T.mk_Bound (ok_Bound_init (P := P) (w := w) (base := base) T) (hr.mono (by decide)) (by rfl) T.Bound.g T.Bound_init.b .nil pass0 (pa_cons (pv 13) (pa_cons (pv 9) pa_nil))) (gn 10 (sc__law_sets_right).nd)) (pss_one (ps_if (pt_cmpR (op_neA hr.units) (pe_callTy (call_strA hG hr.units) (by rfl) T.b_str (by decide +kernel) (pa_cons (pe_lst (pa_cons (PE.or (pe_meth (pv 10) T.Led.cl T.Led_shows.m (ok_Led_shows (P := P) (w := w) (base := base) T) (hr.mono (by decide)) T.Led_shows.b .nil pass0 (pa_cons (pv 5) (pa_cons (pv 3) (pa_cons (pv 4) pa_nil)))) (pe_meth (pv 10) T.Bound.cl T.Bound_shows.m (ok_Bound_shows (P := P) (w := w) (base := base) T) (hr.mono (by decide)) T.Bound_shows.b .nil pass0 (pa_cons (pv 5) (pa_cons (pv 3) (pa_cons (pv 4) pa_nil))))) pa_nil)) pa_nil)) (pe_callTy (call_strA hG hr.units) (by rfl) T.b_str (by decide +kernel) (pa_cons (pe_lst (pa_cons (pe_call (ok__law_bound (P := P) (w := w) (base := base) T) (hr.mono (by decide)) (by rfl) T._law_bound.g T._law_bound.F.kp T._law_bound.b .nil pass0 (pa_cons (pv 1) (pa_cons (pv 2) (pa_cons (pv 3) (pa_cons (pv 4) (pa_cons (pv 10) pa_nil)))))) pa_nil)) pa_nil)) (nomark _)) (pss_one (ps_ret pe_bl)) pss_nil)))))) (pss_one (ps_ret pe_bl)))))))))))), run_G (N := n__law_sets_right) h ?_⟩)
  rintro gs ts Φ ⟨s, a, ns, b, k, fs, cs, t1, t2, rfl, rfl, hb, hk, hf, hc, g1, g2, rfl⟩
  have KC := T.Kind.cl
  have LC := T.Led.cl
  have BC := T.Bound.cl
  have lf := hf.most
  have lc := hc.most
  obtain ⟨hm0, at0⟩ := fs_head hf.pos
  generalize fs.headD "" = x0 at hm0 at0
  have at0 : atI (fs.map FK.T.str) 0 = some (.str x0) := atI_map (g := FK.T.str) at0
  have fok : ∀ x ∈ fs, PyData.strOk x = true := fun x hx => name_ok (hf.names x hx)
  refine bd_then (bd_asg (t := kT T.Kind.C fs cs) (ed_make (ea_cons (ed_var rfl) (ea_one (ed_var rfl))) (fun p => ⟨p, _, fs, cs, rfl, rfl, rfl, hf, hc, rfl, rfl⟩)) eg_name ?_)
  refine bd_then (bd_asgX (ex_callN (ea_cons (ed_var rfl) (ea_cons (ed_var rfl) (ea_one (ed_var rfl)))) ⟨_, fs, cs, t1, t2, rfl, rfl, rfl, hf, hc, g1, g2, rfl⟩ (fun t gs' h => ?_)))
  obtain ⟨rfl, an, rfl, hok⟩ := h
  have tol : (toB fs t2).length ≤ 5000 := by unfold toB; rw [List.length_map]; omega
  refine bd_then (bd_asg (t := setsT (toB fs t2)) ((ed_of_en (en_mapL (g := FK.T.str) (xs := fs) (fun x => setT (x, numAt t2 (some x))) (ed_var rfl) (by omega) rfl (fun x hx => ⟨_, _, ev_name (by simp), ed_tup (ea_cons (ed_var rfl) (ea_one (ed_ixD (kvs := tL t2) (ed_var rfl) (ed_var rfl) (g2.1.th.look hx)))) (by simp), rfl⟩))).to (by unfold setsT toB; rw [List.map_map]; rfl)) eg_name ?_)
  refine bd_seq (Nx := fun Γ' => ∃ sets, (sets.length ≤ 5000 ∧ ∀ q ∈ sets, PyData.strOk q.1 = true) ∧ Γ' = ⟨[some (.val (.ref s)), some (fsT fs), some (csT cs), some (tT t1), some (tT t2), some (kT T.Kind.C fs cs), some (an4T T.Led.C T.Bound.C an), some (setsT sets), none, none, none, none, none, none], [⟨true, s, stO K a ns b k⟩]⟩) (bd_if (et_val (ed_isiA4 (an := an) T.Led.ins T.Bound.ins (ea_cons (ed_var rfl) (ea_one ed_val)) T.i_Led_Led T.i_Bound_Led)) (fun z => ?_) (fun z => bd_next ⟨toB fs t2, ⟨tol, fun q hq => by obtain ⟨x, hx, rfl⟩ := List.mem_map.mp hq; exact fok x hx⟩, rfl⟩)) ?_
  · cases an with
    | inr q => cases z
    | inl sets =>
      obtain ⟨⟨th', hw, _⟩, _, hl⟩ := hok
      exact bd_asg (t := setsT sets) (ed_fld (t := setsT sets) LC T.n_Led_sets (ed_var (t := .obj T.Led.C (leFs sets)) rfl) rfl) eg_name ⟨sets, ⟨hl, fun q hq => fok _ (hw.sets_in q hq)⟩, rfl⟩
  rintro Γ' ⟨sets, hs, rfl⟩
  have cl : ∀ lo hi, (cutG sets lo hi).length ≤ 5000 := fun lo hi => Nat.le_trans (cutG_len sets lo hi) hs.1
  refine bd_then (bd_asg (t := .lst ((lotsS sets x0).map setsT)) (ed_lst (ea_cons (ed_var (t := setsT sets) rfl) (ea_cons (ed_cutG (g := setT) (xs := sets) (ed_var rfl) (eo_some ed_int) eo_none) (ea_cons (ed_cutG (g := setT) (xs := sets) (ed_var rfl) eo_none (eo_some (ed_neg ed_int))) (ea_cons (ed_revG (g := setT) (xs := sets) (ed_var rfl)) (ea_one (ed_catG (g := setT) (xs := sets) (ys := cutG sets (some (((0 : Nat) : Int) - 1)) none) (ed_var rfl) (ed_cutG (g := setT) (xs := sets) (ed_var rfl) (eo_some (ed_neg ed_int)) eo_none) (by have := cl (some (((0 : Nat) : Int) - 1)) none; omega))))))) (by simp [lotsS])) eg_name ?_)
  refine bd_then (bd_asgN (o := .lst ((lotsS sets x0).map setsT ++ (lotsS2 sets x0).map setsT)) (en_cat (ed_var rfl) (ed_lst (ea_cons (ed_catG (g := setT) (xs := sets) (ys := [(x0, 99)]) (ed_var rfl) (ed_lst (ea_one (ed_tup (ea_cons (ed_ixL (ts := fs.map FK.T.str) (ed_var rfl) ed_int at0) (ea_one ed_int)) (by simp))) (by simp)) (by simp; omega)) (ea_cons (ed_catG (g := setT) (xs := [(("zz" : Str), (0 : Int))]) (ys := sets) (ed_lst (ea_one (ed_tup (ea_cons ed_str (ea_one ed_int)) (by simp))) (by simp)) (ed_var rfl) (by simp; omega)) (ea_one (ed_lst ea_nil (by simp))))) (by simp [lotsS2])) (by simp [lotsS, lotsS2])) fun lo => ?_)
  refine bd_then (bd_append (j := 1) (l := false) (ts := (lotsS sets x0).map setsT ++ (lotsS2 sets x0).map setsT) (ts1 := (lotsS sets x0).map setsT ++ (lotsS2 sets x0).map setsT) (t := setsT (toB (fs.filter fun x => !decide (numAt t2 (some x) = numAt t1 (some x))) t2)) (ed_var rfl) rfl ((ed_of_en (en_filtL (g := FK.T.str) (xs := fs) (fun x => !decide (numAt t2 (some x) = numAt t1 (some x))) (fun x => setT (x, numAt t2 (some x))) (ed_var rfl) (by omega) rfl (fun x hx => ⟨_, ev_name (by simp), et_test (ed_neI (ed_ixD (kvs := tL t2) (ed_var rfl) (ed_var rfl) (g2.1.th.look hx)) (ed_ixD (kvs := tL t1) (ed_var rfl) (ed_var rfl) (g1.1.th.look hx))), fun _ => ed_tup (ea_cons (ed_var rfl) (ea_one (ed_ixD (kvs := tL t2) (ed_var rfl) (ed_var rfl) (g2.1.th.look hx)))) (by simp), rfl⟩))).to (by unfold setsT toB; rw [List.map_map]; rfl)) rfl (by simp [lotsS, lotsS2]) ?_)
  have hlots : ∀ l ∈ (lotsS sets x0 ++ lotsS2 sets x0) ++ [toB (fs.filter fun x => !decide (numAt t2 (some x) = numAt t1 (some x))) t2], ∀ q ∈ l, PyData.strOk q.1 = true := fun l hl => by
    rcases List.mem_append.mp hl with hl | hl
    · exact (List.mem_append.mp hl).elim (lotsS_ok hs l) (lotsS2_ok hs.2 (fok x0 hm0) l)
    · intro q hq
      rw [List.mem_singleton.mp hl] at hq
      obtain ⟨x, hx, rfl⟩ := List.mem_map.mp hq
      exact fok x (List.mem_filter.mp hx).1
  have elots : ((lotsS sets x0).map setsT ++ (lotsS2 sets x0).map setsT) ++ [setsT (toB (fs.filter fun x => !decide (numAt t2 (some x) = numAt t1 (some x))) t2)] = ((lotsS sets x0 ++ lotsS2 sets x0) ++ [toB (fs.filter fun x => !decide (numAt t2 (some x) = numAt t1 (some x))) t2]).map setsT := by rw [List.map_append, List.map_append]; rfl
  refine bd_sub (sub_share (i := 8) (k := 1) (d := lo) (o := .lst (((lotsS sets x0).map setsT ++ (lotsS2 sets x0).map setsT) ++ [setsT (toB (fs.filter fun x => !decide (numAt t2 (some x) = numAt t1 (some x))) t2)])) rfl rfl) (Γ1 := ⟨[some (.val (.ref s)), some (fsT fs), some (csT cs), some (tT t1), some (tT t2), some (kT T.Kind.C fs cs), some (an4T T.Led.C T.Bound.C an), some (setsT sets), some (.lst (((lotsS sets x0).map setsT ++ (lotsS2 sets x0).map setsT) ++ [setsT (toB (fs.filter fun x => !decide (numAt t2 (some x) = numAt t1 (some x))) t2)])), none, none, none, none, none], [⟨true, s, stO K a ns b k⟩]⟩) ?_
  rw [elots]
  generalize (lotsS sets x0 ++ lotsS2 sets x0) ++ [toB (fs.filter fun x => !decide (numAt t2 (some x) = numAt t1 (some x))) t2] = lots at hlots
  clear elots cl tol
  refine bd_seq (Nx := fun Γ' => ∃ x9 x10 x11, Γ' = ⟨[some (.val (.ref s)), some (fsT fs), some (csT cs), some (tT t1), some (tT t2), some (kT T.Kind.C fs cs), some (an4T T.Led.C T.Bound.C an), some (setsT sets), some (.lst (lots.map setsT)), x9, x10, x11, none, none], [⟨true, s, stO K a ns b k⟩]⟩) (bd_foldL (xs := lots) (g := setsT) (fun (_ : Unit) Γ' => ∃ x9 x10 x11, Γ' = ⟨[some (.val (.ref s)), some (fsT fs), some (csT cs), some (tT t1), some (tT t2), some (kT T.Kind.C fs cs), some (an4T T.Led.C T.Bound.C an), some (setsT sets), some (.lst (lots.map setsT)), x9, x10, x11, none, none], [⟨true, s, stO K a ns b k⟩]⟩) (fun _ _ => ()) () (ed_var rfl) ⟨_, _, _, rfl⟩ (fun l hl _ Γ' hΓ => ?_) (fun _ h => h)) ?_
  · obtain ⟨x9, x10, x11, rfl⟩ := hΓ
    refine ⟨_, eg_name, ?_⟩
    refine bd_then (bd_asg (t := .obj T.Led.C (leFs l)) (ed_make (ea_one (ed_var rfl)) (fun p => ⟨p, _, l, rfl, rfl, rfl, rfl, rfl⟩)) eg_name ?_)
    refine bd_then (bd_asg (t := .bl (ledB fs cs t1 t2 l)) (ed_call (ea_cons (ed_var rfl) (ea_cons (ed_var rfl) (ea_cons (ed_var rfl) (ea_cons (ed_var rfl) (ea_one (ed_var rfl)))))) ⟨fs, cs, t1, t2, l, rfl, hf, hc, g1.1, g2.1.th, rfl⟩) eg_name ?_)
    exact bd_skip ((et_or (et_test (ed_neSame (n := 2) (x := setsT l) (ed_fld LC T.n_Led_sets (ed_var (t := .obj T.Led.C (leFs l)) rfl) rfl) (ed_var rfl) (shp_sets (hlots l hl)) (by decide))) (fun _ => et_test (ed_neS (ed_strL (ea_one (ed_lst (ea_one (ed_orl (ed_meth (ed_var (t := .obj T.Led.C (leFs l)) rfl) rfl (ea_cons (ed_var rfl) (ea_cons (ed_var rfl) (ea_one (ed_var rfl)))) ⟨_, _, fs, cs, t1, t2, l, rfl, rfl, rfl, hf, hc, g1.1, g2.1.th, rfl⟩))) (by simp))) (shw_one _) (by decide) (by decide)) (ed_strL (ea_one (ed_lst (ea_one (ed_var (t := .bl (ledB fs cs t1 t2 l)) rfl)) (by simp))) (shw_one _) (by decide) (by decide))))).to (by simp)) ⟨_, _, _, rfl⟩
  rintro Γ' ⟨x9, x10, x11, rfl⟩
  obtain ⟨us, hus, hcnt⟩ : ∃ us : List Int, us.length ≤ 1000 ∧ us = (match an with | .inl _ => natsI (List.range cs.length) | .inr q => natsI q.2) := ⟨_, by
    cases an with
    | inl _ => show (natsI _).length ≤ 1000; unfold natsI; rw [List.length_map, List.length_range]; omega
    | inr q => show (natsI _).length ≤ 1000; unfold natsI; rw [List.length_map]; have := bind_len lf hok.2.2; omega, rfl⟩
  refine bd_then (bd_asg (t := intsT us) (ed_ifp (et_val (ed_isiA4 (an := an) T.Led.ins T.Bound.ins (ea_cons (ed_var rfl) (ea_one ed_val)) T.i_Led_Bound T.i_Bound_Bound)) (fun z => ?_) (fun z => ?_)) eg_name ?_)
  · cases an with
    | inl _ => cases z
    | inr q =>
      rw [hcnt]
      exact ed_fld (t := intsT (natsI q.2)) BC T.n_Bound_counts (ed_var (t := .obj T.Bound.C (boFs q.1 (natsI q.2))) rfl) rfl
  · cases an with
    | inr _ => cases z
    | inl _ =>
      rw [hcnt]
      exact ed_of_en (en_listRg (n := cs.length) ((ed_lenL (ts := cs.map cT) (ea_one (ed_var rfl))).to (by rw [List.length_map])) (by omega))
  refine bd_seq (Nx := fun Γ' => ∃ k' x9 x10 x13, 0 ≤ k' ∧ Γ' = ⟨[some (.val (.ref s)), some (fsT fs), some (csT cs), some (tT t1), some (tT t2), some (kT T.Kind.C fs cs), some (an4T T.Led.C T.Bound.C an), some (setsT sets), some (.lst (lots.map setsT)), x9, x10, x11, some (intsT us), x13], [⟨true, s, stO K a ns b k'⟩]⟩) (bd_forL (ex_callG (js := [0]) (ea_cons (ed_var rfl) (ea_cons (ed_var rfl) (ea_one ((ed_lenL (ts := cs.map cT) (ea_one (ed_var rfl))).to (by rw [List.length_map]))))) (by decide) (Lent.one rfl) ⟨s, a, ns, b, k, us, cs.length, rfl, rfl, hb, hk, by omega, by omega, rfl⟩ (fun t gs' h => ?_))) ?_
  · obtain ⟨L, k2, rfl, hL, hk2, rfl⟩ := h
    refine ⟨[⟨true, s, stO K a ns b k2⟩], rfl, rfl, L.map intsT, rfl, fun _ Γ' => ∃ k' x9 x10 x13, 0 ≤ k' ∧ Γ' = ⟨[some (.val (.ref s)), some (fsT fs), some (csT cs), some (tT t1), some (tT t2), some (kT T.Kind.C fs cs), some (an4T T.Led.C T.Bound.C an), some (setsT sets), some (.lst (lots.map setsT)), x9, x10, x11, some (intsT us), x13], [⟨true, s, stO K a ns b k'⟩]⟩, ⟨k2, _, _, _, hk2, rfl⟩, ?_, fun _ h => h⟩
    rintro i Γ' hi ⟨k', x9, x10, x13, hk', rfl⟩
    have hi' : i < L.length := by simpa using hi
    refine ⟨_, eg_name, ?_⟩
    rw [getD_map hi']
    have hl := hL.2 _ (List.getElem_mem hi')
    generalize L[i] = l at hl
    have h2 := cutG_len fs none (some 2)
    refine bd_foldL (xs := cutG fs none (some 2) ++ [("zz" : Str)]) (g := FK.T.str) (fun (_ : Unit) Γ' => ∃ x10 x13, Γ' = ⟨[some (.val (.ref s)), some (fsT fs), some (csT cs), some (tT t1), some (tT t2), some (kT T.Kind.C fs cs), some (an4T T.Led.C T.Bound.C an), some (setsT sets), some (.lst (lots.map setsT)), some (intsT l), x10, x11, some (intsT us), x13], [⟨true, s, stO K a ns b k'⟩]⟩) (fun _ _ => ()) () (ed_catG (g := FK.T.str) (xs := cutG fs none (some 2)) (ys := [("zz" : Str)]) (ed_cutG (g := FK.T.str) (xs := fs) (ed_var rfl) eo_none (eo_some ed_int)) (ed_lst (ea_one ed_str) (by simp)) (by simp; omega)) ⟨_, _, rfl⟩ (fun f hf' _ Γ' hΓ => ?_) (fun Γ' h => by obtain ⟨x10, x13, rfl⟩ := h; exact ⟨k', _, _, _, hk', rfl⟩)
    obtain ⟨x10, x13, rfl⟩ := hΓ
    refine ⟨_, eg_name, ?_⟩
    refine bd_then (bd_asg (t := .obj T.Bound.C (boFs f l)) (ed_make (ea_cons (ed_var rfl) (ea_one (ed_var rfl))) (fun p => ⟨p, _, f, l, rfl, rfl, rfl, rfl, rfl⟩)) eg_name ?_)
    exact bd_skip ((et_test (ed_neS (ed_strL (ea_one (ed_lst (ea_one (ed_orr (ed_meth (ed_var (t := .obj T.Bound.C (boFs f l)) rfl) rfl (ea_cons (ed_var rfl) (ea_cons (ed_var rfl) (ea_one (ed_var rfl)))) ⟨_, _, fs, cs, t1, t2, f, l, rfl, rfl, rfl, hf, hc, g1.1.th, g2.1.th, by omega, rfl⟩))) (by simp))) (shw_one _) (by decide) (by decide)) (ed_strL (ea_one (ed_lst (ea_one (ed_call (ea_cons (ed_var rfl) (ea_cons (ed_var rfl) (ea_cons (ed_var rfl) (ea_cons (ed_var rfl) (ea_one (ed_var rfl)))))) ⟨fs, cs, t1, t2, f, l, rfl, hf, hc, g1.1.th, g2.1.th, by omega, rfl⟩)) (by simp))) (shw_one _) (by decide) (by decide)))).to (by simp)) ⟨_, _, rfl⟩
  rintro Γ' ⟨k3, y9, y10, x13, hk3, rfl⟩
  exact bd_ret ed_bl ⟨[(s, stO K a ns b k3)], [], rfl, k3, rfl, hk3, rfl⟩
end
end FK
set_option maxHeartbeats 8000000
namespace FK
open PySem L2
section
variable {P : Program} {w : World} {K : PySem.W.Frag} {mg : Str → Option Value} {base : Heap}
section
variable {Γ Γ1 Γ2 : Ev} {ta tb te : TE} {t : FK.T} {tr : TA} {tt tu : TT} {s1 s2 : TS} {Nx : Ev → Prop} {Rt : FK.T → Ev → Prop}
/-- a list that is one of several, and another one behind it -/
theorem ex_cat {Φ : FK.T → Ev → Prop} (h : Ex P w ta Γ fun x Γ1 => ∃ xs ys Γ2, x = .lst xs ∧ Ed P w tb Γ1 (.lst ys) Γ2 ∧ xs.length + ys.length ≤ 100000 ∧ Φ (.lst (xs ++ ys)) Γ2) : Ex P w (tOp rAddA ta tb) Γ Φ := fun W σ G H E Q q =>
  h W σ G H E _ fun vx x Γ1 G1 H1 s1 E1 ix ⟨xs, ys, Γ2, e, hb, hl, f⟩ => hb W σ G1 H1 E1 _ fun vy G2 H2 s2 E2 iy => by
    subst e
    cases ix.mono s2 with
    | lst h1 h2 =>
      cases iy with
      | lst f1 f2 =>
        refine .inr ⟨_, _, _, _, rfl, rfl, E2.base _ _ h1, E2.base _ _ f1, ?_, fun p hp => ?_⟩
        · rw [h2.length, f2.length]
          exact Nat.le_trans hl (by decide)
        · have E3 := E2.pushNew (o := .lst (xs ++ ys)) hp ⟨_, upd_same, h2.append f2⟩
          obtain ⟨G4, s4, E4, i⟩ := E3.freeze (j := Γ2.g.length) (a := p) (o := .lst (xs ++ ys)) (by show (Γ2.g ++ [_])[Γ2.g.length]? = _; simp) rfl
          rw [era_push] at E4
          exact q _ _ _ _ _ (s1.trans (s2.trans s4)) E4 i f
/-- a call of which an argument is one of several -/
theorem ex_callX {R : List AO → List FK.T → (FK.T → List AO → Prop) → Prop} {E : XK} {Ψ : FK.T → Ev → Prop} (h : ExA P w tr Γ fun ts Γ1 => ∃ (js : List Nat) (gh : List Gh) (Φ : FK.T → List AO → Prop), js.Nodup ∧ Lent Γ1.g js gh ∧ R (gh.map Gh.ao) ts Φ ∧
    ∀ t gs', Φ t gs' → ∃ gh' : List Gh, gs' = gh'.map Gh.ao ∧ gh'.map (fun x => (x.l, x.a)) = gh.map (fun x => (x.l, x.a)) ∧ Ψ t ⟨Γ1.s, setAll Γ1.g js gh'⟩) : Ex P w (tCall (spG P w R) [] E tr) Γ Ψ := fun W σ G H En Q q =>
  h W σ G H En _ fun vs ts Γ1 G1 H1 s1 E1 is ⟨js, gh, Φ, n, hj, hR, hk⟩ => by
    refine ⟨G1, gh.map Gh.ao, ts, Φ, E1.base, by rw [List.append_nil]; exact is, owns_of E1 hj, nd_of E1 n hj, hR, fun v t2 gs2 G2 H2 gr ow nd2 hn i f => ?_⟩
    obtain ⟨gh', rfl, e, ψ⟩ := hk t2 gs2 f
    exact q v t2 _ G2 H2 (s1.trans gr.gg) (E1.lentBack n hj e gr ow) i ψ
/-- a test behind which the environment is one of several -/
def ExT (P : Program) (w : World) (tt : TT) (Γ : Ev) (Φ : Bool → Ev → Prop) : Prop :=
  ∀ W σ G H, Tenv P w W σ G H Γ → ∀ Q : Bool → Hp → Prop, (∀ b Γ' G' H', Same G G' → Tenv P w W σ G' H' Γ' → Φ b Γ' → Q b H') → tt σ H Q
theorem xt_et {b : Bool} {Φ : Bool → Ev → Prop} (h : EdT P w tt Γ b Γ1) (q : Φ b Γ1) : ExT P w tt Γ Φ := fun W σ G H E Q k => h W σ G H E _ fun G1 H1 s E1 => k b Γ1 G1 H1 s E1 q
theorem xt_val {Φ : Bool → Ev → Prop} (h : Ex P w te Γ fun t Γ' => ∃ b, t = .bl b ∧ Φ b Γ') : ExT P w (tB te) Γ Φ := fun W σ G H E Q q => h W σ G H E _ fun v t Γ1 G1 H1 s1 E1 i ⟨b, e, f⟩ => by
  subst e
  cases i
  exact ⟨b, rfl, q b Γ1 G1 H1 s1 E1 f⟩
theorem xt_not {Φ : Bool → Ev → Prop} (h : ExT P w tt Γ fun b Γ' => Φ (!b) Γ') : ExT P w (tNot tt) Γ Φ := fun W σ G H E Q q => h W σ G H E _ fun b Γ1 G1 H1 s1 E1 f => q (!b) Γ1 G1 H1 s1 E1 f
theorem xt_or {Φ : Bool → Ev → Prop} (h : ExT P w tt Γ fun b Γ' => if b then Φ true Γ' else ExT P w tu Γ' Φ) : ExT P w (tOr tt tu) Γ Φ := fun W σ G H E Q q => h W σ G H E _ fun b Γ1 G1 H1 s1 E1 f => by
  cases b with
  | false =>
    show tu σ H1 Q
    exact f W σ G1 H1 E1 Q fun b2 Γ2 G2 H2 s2 E2 f2 => q b2 Γ2 G2 H2 (s1.trans s2) E2 f2
  | true =>
    show Q true H1
    exact q true Γ1 G1 H1 s1 E1 f
theorem xt_and {Φ : Bool → Ev → Prop} (h : ExT P w tt Γ fun b Γ' => if b then ExT P w tu Γ' Φ else Φ false Γ') : ExT P w (tAnd tt tu) Γ Φ := fun W σ G H E Q q => h W σ G H E _ fun b Γ1 G1 H1 s1 E1 f => by
  cases b with
  | true =>
    show tu σ H1 Q
    exact f W σ G1 H1 E1 Q fun b2 Γ2 G2 H2 s2 E2 f2 => q b2 Γ2 G2 H2 (s1.trans s2) E2 f2
  | false =>
    show Q false H1
    exact q false Γ1 G1 H1 s1 E1 f
/-- an if whose test is not so -/
theorem bd_skipX (h : ExT P w tt Γ fun b Γ' => b = false ∧ Nx Γ') : Bd P w (tIfS tt s1 tNext) Γ Nx Rt := fun W σ G H E D qn qr => h W σ G H E _ fun b Γ1 G1 H1 sg E1 ⟨e, f⟩ => by
  subst e
  show tNext D σ H1
  exact bd_next (P := P) (w := w) f W σ G1 H1 E1 D (fun σ2 G2 H2 Γ2 sg2 => qn σ2 G2 H2 Γ2 (sg.trans sg2)) qr
end
def spLaw (K : PySem.W.Frag) : Sp := fun vs H Q _ => ∃ (a : Addr) (ns : List Int), vs = [.ref a] ∧ SqL K H a (ns.map V.int) ∧ ns.length ≤ 63 ∧ ∀ H', Q (.bl true) H'
theorem cut_take (xs : List FK.T) (k : Nat) : cutT xs none (some (k : Int)) = xs.take k := by
  unfold cutT
  have e1 : HT.sIx xs.length 0 none = 0 := rfl
  have e2 : HT.sIx xs.length xs.length (some (k : Int)) = min k xs.length := HT.sIx_nat _ _ k
  rw [e1, e2, List.drop_zero, Nat.sub_zero]
  by_cases h : k ≤ xs.length
  · rw [Nat.min_eq_left h]
  · rw [Nat.min_eq_right (by omega), List.take_of_length_le (Nat.le_refl _), List.take_of_length_le (by omega)]
theorem cut_last (xs : List FK.T) (k : Nat) (hk : 0 < k) : cutT xs (some (-(k : Int))) none = xs.drop (xs.length - k) := by
  unfold cutT
  have e1 : HT.sIx xs.length 0 (some (-(k : Int))) = xs.length - k := by
    show (if -(k : Int) < 0 then (-(k : Int) + (xs.length : Int)).toNat else _) = _
    rw [if_pos (by omega)]; omega
  have e2 : HT.sIx xs.length xs.length none = xs.length := rfl
  rw [e1, e2]
  exact List.take_of_length_le (by rw [List.length_drop]; exact Nat.le_refl _)
theorem cut_cs (cs : List Chk) (k : Nat) : FK.T.lst (cutT (cs.map cT) none (some (k : Int))) = csT (cs.take k) := by rw [cut_take]; unfold csT; rw [List.map_take]
theorem Cks.of {fs : List Str} {cs ds : List Chk} (h : ∀ c ∈ ds, chkB fs c = true) (hs : ∀ c ∈ cs, c ∈ ds) (hl : cs.length ≤ 16) : Cks fs cs := ⟨hl, fun c hc => h c (hs c hc)⟩
/-- range(0, max(1, min(M, n)), 10) -/
def rgM (M : Int) (n : Nat) : Int := if (if ((n : Nat) : Int) < M then ((n : Nat) : Int) else M) > 1 then (if ((n : Nat) : Int) < M then ((n : Nat) : Int) else M) else 1
theorem rg_ok (M : Int) (hM : 0 ≤ M) (hM2 : M ≤ 30) (n : Nat) : RgC 0 (rgM M n) 10 (Builtin.Range.rangeSize 0 (rgM M n) 10).toNat := by
  have hx : ∀ l : Int, 0 ≤ l → 0 ≤ (if l < M then l else M) ∧ (if l < M then l else M) ≤ 30 := fun l h => by split <;> omega
  have hm2 : ∀ x : Int, x ≤ 30 → 1 ≤ (if x > 1 then x else 1) ∧ (if x > 1 then x else 1) ≤ 30 := fun x h => by split <;> omega
  have hm : 1 ≤ rgM M n ∧ rgM M n ≤ 30 := hm2 _ (hx _ (by omega)).2
  obtain ⟨k, hk⟩ := Int.eq_ofNat_of_zero_le (show 0 ≤ rgM M n by omega)
  have key : ∀ k : Fin 31, Builtin.Range.small 0 ((k.1 : Nat) : Int) 10 = true ∧ Builtin.Range.rangeSize 0 ((k.1 : Nat) : Int) 10 = ((Builtin.Range.rangeSize 0 ((k.1 : Nat) : Int) 10).toNat : Nat) := by decide +kernel
  have := key ⟨k, by omega⟩
  rw [hk]
  exact ⟨by decide, by decide, this.1, this.2⟩
/-- a law by its body -/
theorem law_run {te : TS} {N : List Str} {a : Addr} {ns : List Int} {H : Hp} {Q : VK} (hS : SqL K H a (ns.map V.int)) (q : ∀ H', Q (.bl true) H') (h : Bd P w te (entT N [scT K a ns]) (fun _ => False) (fun t _ => t = .bl true)) : te { nx := fun _ H' => Q .non H', rt := Q } (start N [.ref a]) H :=
  h ⟨H, H, []⟩ _ H H (start_env (gs := []) (Same.refl _) (.cons (.opq hS fun H1 H2 e h => e.seq h) .nil) (fun x hx => nomatch hx) List.nodup_nil) _ (fun _ _ _ _ _ _ n => n.elim) (fun v σ' G' H' Γ' t E' i e => by subst e; cases i; exact q H')
theorem chk_mk5 {fs : List Str} {a b : End} {n : Int} (ha : a ∈ endsOf fs) (hb : b ∈ endsOf fs) (hne : a ≠ b) (hn : -100 ≤ n ∧ n ≤ 100) : chkB fs (a, b, n) = true := by
  unfold chkB endB
  simp only [Bool.and_eq_true, decide_eq_true_eq, Bool.not_eq_true', decide_eq_false_iff_not]
  exact ⟨hn, ha, hb, hne⟩
def SoCk (fs : List Str) (th : Thing) (cs : List Chk) : Prop := ∀ c ∈ cs, chkB fs c = true ∧ soB th c = true
theorem SoCk.app {fs : List Str} {th : Thing} {xs ys : List Chk} (h1 : SoCk fs th xs) (h2 : SoCk fs th ys) : SoCk fs th (xs ++ ys) := fun c hc => (List.mem_append.mp hc).elim (h1 c) (h2 c)
theorem SoCk.one {fs : List Str} {th : Thing} {c : Chk} (h1 : chkB fs c = true) (h2 : soB th c = true) : SoCk fs th [c] := fun d hd => by rw [List.mem_singleton.mp hd]; exact ⟨h1, h2⟩
theorem SoCk.good {fs : List Str} {th : Thing} {cs : List Chk} (h : SoCk fs th cs) (hl : cs.length ≤ 16) (ht : Tg fs th) (hn : nearB fs th = true) : Cks fs cs ∧ GoodT fs cs th := ⟨⟨hl, fun c hc => (h c hc).1⟩, ht, hn, fw_none fun c hc => (h c hc).2⟩
theorem Cks.rev {fs : List Str} {cs : List Chk} (h : Cks fs cs) : Cks fs cs.reverse := ⟨by rw [List.length_reverse]; exact h.most, fun c hc => h.ok c (List.mem_reverse.mp hc)⟩
def prT (q : End × End) : FK.T := .tup [eT q.1, eT q.2]
set_option maxHeartbeats 16000000 in
theorem ok_law (T : Tx K mg) : GnOk P w K mg base 8 T.law.f T.law.fd ["_law_script"] (spLaw K) := by
  refine gn_of T.law.F sc_law (fun vs H Q E h => by obtain ⟨_, _, rfl, _⟩ := h; rfl) (fun cdv A outer s H vs Q E hG hr h => ⟨_, (pss_cons (ps_for PassesOwn.never rfl (pi_range3 (by rfl) T.b_range (pa_cons pe_int (pa_cons (pe_callB (call_max2 rfl) (by rfl) T.b_max (by decide +kernel) (pa_cons pe_int (pa_cons (pe_callB (call_min2 rfl) (by rfl) T.b_min (by decide +kernel) (pa_cons pe_int (pa_cons (pe_callB call_lenA (by rfl) T.b_len (by decide +kernel) (pa_cons (pv 0) pa_nil)) pa_nil))) pa_nil))) (pa_cons pe_int pa_nil)))) (gn 1 (sc_law).nd) (pss_cons (ps_asg (pe_lst (pa_cons (pv 0) (pa_cons (pv 1) (pa_cons pe_int pa_nil)))) (gn 2 (sc_law).nd)) (pss_cons (ps_asg (pe_call (ok__law_fields (P := P) (w := w) (base := base) T) (hr.mono (by decide)) (by rfl) T._law_fields.g T._law_fields.F.kp T._law_fields.b .nil pass0 (pa_cons (pv 2) pa_nil)) (gn 3 (sc_law).nd)) (pss_cons (ps_asg (pe_call (ok__law_thing (P := P) (w := w) (base := base) T) (hr.mono (by decide)) (by rfl) T._law_thing.g T._law_thing.F.kp T._law_thing.b .nil pass0 (pa_cons (pv 2) (pa_cons (pv 3) (pa_cons pe_int pa_nil)))) (gn 4 (sc_law).nd)) (pss_cons (ps_asg (pe_op op_addA (pe_call (ok__law_checks (P := P) (w := w) (base := base) T) (hr.mono (by decide)) (by rfl) T._law_checks.g T._law_checks.F.kp T._law_checks.b .nil pass0 (pa_cons (pv 2) (pa_cons (pv 3) (pa_cons pe_int (pa_cons (pv 4) pa_nil))))) (pe_lst (pa_cons (pe_tup (pa_cons (pe_ix (ix_any (hu_of hr)) (pv 3) pe_int (fun _ _ => rfl)) (pa_cons pe_non (pa_cons (pe_op op_addA (pe_ix (ix_any (hu_of hr)) (pv 4) (pe_ix (ix_any (hu_of hr)) (pv 3) pe_int (fun _ _ => rfl)) (fun _ _ => rfl)) pe_int) pa_nil)))) pa_nil))) (gn 5 (sc_law).nd)) (pss_cons (ps_asg (pe_op op_addA (pv 5) (pe_lst (pa_cons (pe_tup (pa_cons pe_non (pa_cons (pe_ix (ix_any (hu_of hr)) (pv 3) pe_int (fun _ _ => rfl)) (pa_cons (pe_op op_sub (pe_un un_neg (pe_ix (ix_any (hu_of hr)) (pv 4) (pe_ix (ix_any (hu_of hr)) (pv 3) pe_int (fun _ _ => rfl)) (fun _ _ => rfl))) pe_int) pa_nil)))) pa_nil))) (gn 6 (sc_law).nd)) (pss_cons (ps_asg (pe_call (ok__law_near (P := P) (w := w) (base := base) T) (hr.mono (by decide)) (by rfl) T._law_near.g T._law_near.F.kp T._law_near.b .nil pass0 (pa_cons (pv 2) (pa_cons (pv 3) (pa_cons (pv 5) (pa_cons (pv 4) pa_nil))))) (gn 7 (sc_law).nd)) (pss_cons (ps_if (PW.pt (pw_or (pt_not (pt_val (pe_callG (ok__law_rings_right (P := P) (w := w) (base := base) T) hG (hr.mono (by decide)) (by rfl) T._law_rings_right.g T._law_rings_right.F.kp T._law_rings_right.b (pa_cons (pv 2) (pa_cons (pv 3) (pa_cons (pv 5) (pa_cons (pv 4) pa_nil))))))) (pw_or1 (pt_not (pt_val (pe_callG (ok__law_rings_right (P := P) (w := w) (base := base) T) hG (hr.mono (by decide)) (by rfl) T._law_rings_right.g T._law_rings_right.F.kp T._law_rings_right.b (pa_cons (pv 2) (pa_cons (pv 3) (pa_cons (pv 6) (pa_cons (pv 4) pa_nil)))))))))) (pss_one (ps_ret pe_bl)) pss_nil) (pss_cons (ps_for PassesOwn.never rfl (pi_tup (pe_tup (pa_cons (pe_tup (pa_cons (pe_ix (ix_any (hu_of hr)) (pv 3) pe_int (fun _ _ => rfl)) (pa_cons pe_non pa_nil))) (pa_cons (pe_tup (pa_cons pe_non (pa_cons (pe_ix (ix_any (hu_of hr)) (pv 3) (pe_un un_neg pe_int) (fun _ _ => rfl)) pa_nil))) (pa_cons (pe_tup (pa_cons (pe_ix (ix_any (hu_of hr)) (pv 3) (pe_un un_neg pe_int) (fun _ _ => rfl)) (pa_cons (pe_ix (ix_any (hu_of hr)) (pv 3) pe_int (fun _ _ => rfl)) pa_nil))) pa_nil))))) (pg_tup rfl (pgs_cons (gn 8 (sc_law).nd) (pgs_cons (gn 9 (sc_law).nd) pgs_nil))) (pss_one (ps_if (PW.pt (pw_and (pt_cmpR (op_neA hr.units) (pv 8) (pv 9) (nomark _)) (pw_and1 (pt_not (pt_val (pe_callG (ok__law_ends_right (P := P) (w := w) (base := base) T) hG (hr.mono (by decide)) (by rfl) T._law_ends_right.g T._law_ends_right.F.kp T._law_ends_right.b (pa_cons (pv 2) (pa_cons (pv 3) (pa_cons (pv 5) (pa_cons (pv 8) (pa_cons (pv 9) pa_nil))))))))))) (pss_one (ps_ret pe_bl)) pss_nil))) (pss_cons (ps_if (pt_not (pt_val (pe_callG (ok__law_kept_right (P := P) (w := w) (base := base) T) hG (hr.mono (by decide)) (by rfl) T._law_kept_right.g T._law_kept_right.F.kp T._law_kept_right.b (pa_cons (pv 2) (pa_cons (pv 3) (pa_cons (pv 5) (pa_cons (pe_revL (pv 5)) (pa_cons (pv 7) pa_nil)))))))) (pss_one (ps_ret pe_bl)) pss_nil) (pss_cons (ps_if (pt_not (pt_val (pe_callG (ok__law_kept_right (P := P) (w := w) (base := base) T) hG (hr.mono (by decide)) (by rfl) T._law_kept_right.g T._law_kept_right.F.kp T._law_kept_right.b (pa_cons (pv 2) (pa_cons (pv 3) (pa_cons (pv 5) (pa_cons (pe_call (ok__law_checks (P := P) (w := w) (base := base) T) (hr.mono (by decide)) (by rfl) T._law_checks.g T._law_checks.F.kp T._law_checks.b .nil pass0 (pa_cons (pv 2) (pa_cons (pv 3) (pa_cons pe_int (pa_cons pe_non pa_nil))))) (pa_cons (pv 7) pa_nil)))))))) (pss_one (ps_ret pe_bl)) pss_nil) (pss_cons (ps_if (pt_not (pt_val (pe_callG (ok__law_kept_right (P := P) (w := w) (base := base) T) hG (hr.mono (by decide)) (by rfl) T._law_kept_right.g T._law_kept_right.F.kp T._law_kept_right.b (pa_cons (pv 2) (pa_cons (pv 3) (pa_cons (pv 6) (pa_cons (pv 5) (pa_cons (pv 7) pa_nil)))))))) (pss_one (ps_ret pe_bl)) pss_nil) (pss_cons (ps_if (pt_not (pt_val (pe_callG (ok__law_sets_right (P := P) (w := w) (base := base) T) hG (hr.mono (by decide)) (by rfl) T._law_sets_right.g T._law_sets_right.F.kp T._law_sets_right.b (pa_cons (pv 2) (pa_cons (pv 3) (pa_cons (pv 5) (pa_cons (pv 4) (pa_cons (pv 7) pa_nil)))))))) (pss_one (ps_ret pe_bl)) pss_nil) (pss_cons (ps_asg (pe_op op_addA (pe_op op_addA (pv 5) (pe_op op_mulA (pe_lst (pa_cons (pe_tup (pa_cons pe_non (pa_cons (pe_ix (ix_any (hu_of hr)) (pv 3) pe_int (fun _ _ => rfl)) (pa_cons (pe_un un_neg (pe_ix (ix_any (hu_of hr)) (pv 4) (pe_ix (ix_any (hu_of hr)) (pv 3) pe_int (fun _ _ => rfl)) (fun _ _ => rfl))) pa_nil)))) pa_nil)) pe_int)) (pe_lst (pa_cons (pe_tup (pa_cons (pe_ix (ix_any (hu_of hr)) (pv 3) pe_int (fun _ _ => rfl)) (pa_cons pe_non (pa_cons (pe_ix (ix_any (hu_of hr)) (pv 4) (pe_ix (ix_any (hu_of hr)) (pv 3) pe_int (fun _ _ => rfl)) (fun _ _ => rfl)) pa_nil)))) pa_nil))) (gn 10 (sc_law).nd)) (pss_cons (ps_if (pt_not (pt_val (pe_callG (ok__law_sets_right (P := P) (w := w) (base := base) T) hG (hr.mono (by decide)) (by rfl) T._law_sets_right.g T._law_sets_right.F.kp T._law_sets_right.b (pa_cons (pv 2) (pa_cons (pv 3) (pa_cons (pv 10) (pa_cons (pv 4) (pa_cons (pe_call (ok__law_near (P := P) (w := w) (base := base) T) (hr.mono (by decide)) (by rfl) T._law_near.g T._law_near.F.kp T._law_near.b .nil pass0 (pa_cons (pv 2) (pa_cons (pv 3) (pa_cons (pv 10) (pa_cons (pv 4) pa_nil))))) pa_nil)))))))) (pss_one (ps_ret pe_bl)) pss_nil) (pss_one (ps_if (pt_not (pt_val (pe_callG (ok__law_rings_right (P := P) (w := w) (base := base) T) hG (hr.mono (by decide)) (by rfl) T._law_rings_right.g T._law_rings_right.F.kp T._law_rings_right.b (pa_cons (pv 2) (pa_cons (pv 3) (pa_cons (pv 10) (pa_cons (pv 4) pa_nil))))))) (pss_one (ps_ret pe_bl)) pss_nil))))))))))))))))) (pss_one (ps_ret pe_bl))), ?_⟩)
  obtain ⟨a, ns, rfl, hS, hl63, q⟩ := h
  refine law_run (P := P) (w := w) (N := n_law) hS q ?_
  clear q hS
  refine bd_seq (Nx := fun Γ' => ∃ x1 x2 x3 x4 x5 x6 x7 x8 x9 x10, Γ' = ⟨[some (scT K a ns), x1, x2, x3, x4, x5, x6, x7, x8, x9, x10], []⟩)
    (bd_for (fun _ Γ' => ∃ x1 x2 x3 x4 x5 x6 x7 x8 x9 x10, Γ' = ⟨[some (scT K a ns), x1, x2, x3, x4, x5, x6, x7, x8, x9, x10], []⟩)
      (ei_range3 (a := 0) (b := rgM 20 ns.length) (c := 10) (ea_cons ed_int (ea_cons (ed_max2 (ea_cons ed_int (ea_one (ed_min2 (ea_cons ed_int (ea_one (ed_lenQ (a := a) (ns := ns) (ed_var rfl)))))))) (ea_one ed_int))) (rg_ok 20 (by decide) (by decide) ns.length)) ⟨_, _, _, _, _, _, _, _, _, _, rfl⟩ ?_ (fun _ h => h)) ?_
  · rintro i Γ' hi ⟨x1, x2, x3, x4, x5, x6, x7, x8, x9, x10, rfl⟩
    refine ⟨_, eg_name, ?_⟩
    have hb : (0 : Int) ≤ 0 + (i : Nat) * 10 := by omega
    generalize (0 : Int) + ((i : Nat) : Int) * 10 = b at hb
    refine bd_then (bd_asgN (en_lst (ea_cons (ed_var rfl) (ea_cons (ed_var rfl) (ea_one ed_int))) (by simp)) fun s => ?_)
    refine bd_then (bd_asgX (ex_callG (js := [0]) (ea_one (ed_var rfl)) (by decide) (Lent.one rfl) ⟨s, a, ns, b, 0, rfl, rfl, hb, by decide, rfl⟩ (fun t gs' h => ?_)))
    obtain ⟨fs, k1, rfl, hf, h6, hk1, rfl⟩ := h
    refine ⟨[⟨false, s, stO K a ns b k1⟩], rfl, rfl, ?_⟩
    have lf := hf.most
    have lp := hf.pos
    obtain ⟨tp1, tp2, tp3⟩ := thgV_prop ns b 20 (by decide) hk1 hf.nd
    refine bd_then (bd_asg (ed_callM (js := [0]) [⟨false, s, stO K a ns b (thgV ns b k1 20 fs).2⟩] (ea_cons (ed_var rfl) (ea_cons (ed_var rfl) (ea_one ed_int))) (by decide) (Lent.one rfl) rfl ⟨s, a, ns, b, k1, fs, 20, rfl, rfl, hb, hk1, by decide, by omega, rfl, rfl⟩) eg_name ?_)
    generalize (thgV ns b k1 20 fs).2 = k2 at tp3
    generalize (thgV ns b k1 20 fs).1 = th at tp1 tp2
    have hTg : Tg fs th := by unfold Tg; rw [tp1]
    have hT : IsTh fs th := hTg.th
    have h20 : ∀ x ∈ fs, -20 ≤ numAt th (some x) ∧ numAt th (some x) ≤ 20 := fun x hx => by
      have := tp2 _ (getA_mem (hT.get hx))
      exact this
    have hnear : nearB fs th = true := near_mk fun x hx => by have := h20 x hx; omega
    obtain ⟨hm0, at0⟩ := fs_head lp
    obtain ⟨hml, atl⟩ := fs_last lp
    generalize fs.headD "" = x0 at hm0 at0
    generalize fs.getLastD "" = xl at hml atl
    have at0 : atI (fs.map FK.T.str) 0 = some (.str x0) := atI_map (g := FK.T.str) at0
    have atl : atI (fs.map FK.T.str) (((0 : Nat) : Int) - 1) = some (.str xl) := atI_map (g := FK.T.str) atl
    have lk0 := hT.look hm0
    have m0 : some x0 ∈ endsOf fs := mem_endsOf.mpr fun x q => by cases q; exact hm0
    have ml : some xl ∈ endsOf fs := mem_endsOf.mpr fun x q => by cases q; exact hml
    have mN : none ∈ endsOf fs := mem_endsOf.mpr fun x q => by cases q
    have n0 := h20 x0 hm0
    refine bd_then (bd_asgX (ex_cat (ex_callG (js := [0]) (ea_cons (ed_var rfl) (ea_cons (ed_var rfl) (ea_cons ed_int (ea_one (ed_var rfl))))) (by decide) (Lent.one rfl) ⟨s, a, ns, b, k2, fs, 7, some th, rfl, rfl, hb, tp3, by decide, by decide, lf, (fun t' e => by cases e; exact hT), rfl⟩ (fun t gs' h => ?_))))
    obtain ⟨cs0, k3, rfl, lg, cg, sg, hk3, rfl⟩ := h
    refine ⟨[⟨false, s, stO K a ns b k3⟩], rfl, rfl, cs0.map cT, [cT (some x0, none, numAt th (some x0) + 3)], _, rfl, ed_lst (ea_one (ed_tup (ea_cons (ed_ixL (ts := fs.map FK.T.str) (ed_var rfl) ed_int at0) (ea_cons ed_non (ea_one (ed_add (ed_ixD (kvs := tL th) (ed_var rfl) (ed_ixL (ts := fs.map FK.T.str) (ed_var rfl) ed_int at0) lk0) ed_int)))) (by simp))) (by simp), by simp; omega, ?_⟩
    have hso : SoCk fs th (cs0 ++ [(some x0, none, numAt th (some x0) + 3)]) := SoCk.app (fun c hc => ⟨cg c hc, sg th rfl c hc⟩) (SoCk.one (chk_mk5 m0 mN (by simp) (by omega)) (decide_eq_true (by show numAt th (some x0) - 0 ≤ numAt th (some x0) + 3; omega)))
    have lcs : (cs0 ++ [(some x0, none, numAt th (some x0) + 3)] : List Chk).length ≤ 8 := by rw [List.length_append]; simp; omega
    have ecs : FK.T.lst (cs0.map cT ++ [cT (some x0, none, numAt th (some x0) + 3)]) = csT (cs0 ++ [(some x0, none, numAt th (some x0) + 3)]) := by unfold csT; rw [List.map_append]; rfl
    rw [ecs]
    clear ecs cg sg lg
    generalize (cs0 ++ [(some x0, none, numAt th (some x0) + 3)] : List Chk) = cs at hso lcs
    obtain ⟨hc, hg⟩ := hso.good (by omega) hTg hnear
    have hbad : Cks fs (cs ++ [(none, some x0, -numAt th (some x0) - 4)]) := ⟨by rw [List.length_append]; simp; omega, fun c h => (List.mem_append.mp h).elim (hc.ok c) fun h => by rw [List.mem_singleton.mp h]; exact chk_mk5 mN m0 (by simp) (by omega)⟩
    have hr0 : (chainsE (endsOf fs) cs).ring = none := ring_of_thing fun c h => (hso c h).2
    refine bd_then (bd_asg (t := csT (cs ++ [(none, some x0, -numAt th (some x0) - 4)])) (ed_catG (g := cT) (xs := cs) (ys := [(none, some x0, -numAt th (some x0) - 4)]) (ed_var rfl) (ed_lst (ea_one (ed_tup (ea_cons ed_non (ea_cons (ed_ixL (ts := fs.map FK.T.str) (ed_var rfl) ed_int at0) (ea_one (ed_sub (ed_neg (ed_ixD (kvs := tL th) (ed_var rfl) (ed_ixL (ts := fs.map FK.T.str) (ed_var rfl) ed_int at0) lk0)) ed_int)))) (by simp))) (by simp)) (by simp; omega)) eg_name ?_)
    generalize (cs ++ [(none, some x0, -numAt th (some x0) - 4)] : List Chk) = bad at hbad
    refine bd_then (bd_asgX (ex_callG (js := [0]) (gh := [⟨false, s, stO K a ns b k3⟩]) (ea_cons (ed_var rfl) (ea_cons (ed_var rfl) (ea_cons (ed_var rfl) (ea_one (ed_var rfl))))) (by decide) (Lent.one rfl) ⟨s, a, ns, b, k3, fs, cs, th, rfl, rfl, hb, hk3, hf, hc, hg, rfl⟩ (fun t gs' h => ?_)))
    obtain ⟨tr, k4, rfl, gr, hk4, rfl⟩ := h
    refine ⟨[⟨false, s, stO K a ns b k4⟩], rfl, rfl, ?_⟩
    refine bd_then (bd_skipX (xt_or (xt_not (xt_val (ex_callG (js := [0]) (gh := [⟨false, s, stO K a ns b k4⟩]) (ea_cons (ed_var rfl) (ea_cons (ed_var rfl) (ea_cons (ed_var rfl) (ea_one (ed_var rfl))))) (by decide) (Lent.one rfl) ⟨s, a, ns, b, k4, fs, cs, th, rfl, rfl, hb, hk4, hf, hc, hTg, rfl⟩ (fun t gs' h => ?_))))))
    obtain ⟨k5, rfl, hk5, rfl⟩ := h
    refine ⟨[⟨false, s, stO K a ns b k5⟩], rfl, rfl, true, rfl, ?_⟩
    show ExT P w _ _ _
    refine xt_not (xt_val (ex_callG (js := [0]) (gh := [⟨false, s, stO K a ns b k5⟩]) (ea_cons (ed_var rfl) (ea_cons (ed_var rfl) (ea_cons (ed_var rfl) (ea_one (ed_var rfl))))) (by decide) (Lent.one rfl) ⟨s, a, ns, b, k5, fs, bad, th, rfl, rfl, hb, hk5, hf, hbad, hTg, rfl⟩ (fun t gs' h => ?_)))
    obtain ⟨k6, rfl, hk6, rfl⟩ := h
    refine ⟨[⟨false, s, stO K a ns b k6⟩], rfl, rfl, true, rfl, rfl, ?_⟩
    refine bd_then (bd_for (fun _ Γ' => ∃ k x8 x9, 0 ≤ k ∧ Γ' = ⟨[some (scT K a ns), some (.int b), some (.val (.ref s)), some (fsT fs), some (tT th), some (csT cs), some (csT bad), some (tT tr), x8, x9, x10], [⟨false, s, stO K a ns b k⟩]⟩) (ei_tup (ts := ([(some x0, none), (none, some xl), (some xl, some x0)] : List (End × End)).map prT) (ed_tup (ea_cons (ed_tup (ea_cons (ed_ixL (ts := fs.map FK.T.str) (ed_var rfl) ed_int at0) (ea_one ed_non)) (by simp)) (ea_cons (ed_tup (ea_cons ed_non (ea_one (ed_ixL (ts := fs.map FK.T.str) (ed_var rfl) (ed_neg ed_int) atl))) (by simp)) (ea_one (ed_tup (ea_cons (ed_ixL (ts := fs.map FK.T.str) (ed_var rfl) (ed_neg ed_int) atl) (ea_one (ed_ixL (ts := fs.map FK.T.str) (ed_var rfl) ed_int at0))) (by simp))))) (by simp))) ⟨k6, _, _, hk6, rfl⟩ ?_ ?_)
    · rintro j Γ' hj ⟨k, x8, x9, hk, rfl⟩
      have hj' : j < ([(some x0, none), (none, some xl), (some xl, some x0)] : List (End × End)).length := by simpa using hj
      rw [getD_map hj']
      have hmem : ∀ q ∈ ([(some x0, none), (none, some xl), (some xl, some x0)] : List (End × End)), q.1 ∈ endsOf fs ∧ q.2 ∈ endsOf fs := fun q hq => by
        simp only [List.mem_cons, List.not_mem_nil, or_false] at hq
        rcases hq with rfl | rfl | rfl
        · exact ⟨m0, mN⟩
        · exact ⟨mN, ml⟩
        · exact ⟨ml, m0⟩
      obtain ⟨q1, q2⟩ := hmem _ (List.getElem_mem hj')
      generalize ([(some x0, none), (none, some xl), (some xl, some x0)] : List (End × End))[j] = q at q1 q2
      obtain ⟨e, f⟩ := q
      refine ⟨_, eg_tup (ts := [eT e, eT f]) (egs_cons eg_name (egs_cons eg_name egs_nil)) rfl, ?_⟩
      refine bd_skipX (xt_and (xt_et (b := !decide (e = f)) (et_test (ed_neE (a := e) (b := f) (ed_var rfl) (ed_var rfl))) ?_))
      by_cases z : e = f
      · rw [decide_eq_true z]
        exact ⟨rfl, k, _, _, hk, rfl⟩
      · rw [decide_eq_false z]
        show ExT P w _ _ _
        refine xt_not (xt_val (ex_callG (js := [0]) (gh := [⟨false, s, stO K a ns b k⟩]) (ea_cons (ed_var rfl) (ea_cons (ed_var rfl) (ea_cons (ed_var rfl) (ea_cons (ed_var rfl) (ea_one (ed_var rfl)))))) (by decide) (Lent.one rfl) ⟨s, a, ns, b, k, fs, cs, e, f, rfl, rfl, hb, hk, hf, hc, hr0, q1, q2, z, rfl⟩ (fun t gs' h => ?_)))
        obtain ⟨k', rfl, hk', rfl⟩ := h
        exact ⟨[⟨false, s, stO K a ns b k'⟩], rfl, rfl, true, rfl, rfl, k', _, _, hk', rfl⟩
    rintro Γ' ⟨k7, x8, x9, hk7, rfl⟩
    refine bd_then (bd_skipX (xt_not (xt_val (ex_callG (js := [0]) (gh := [⟨false, s, stO K a ns b k7⟩]) (ea_cons (ed_var rfl) (ea_cons (ed_var rfl) (ea_cons (ed_var rfl) (ea_cons (ed_revG (g := cT) (xs := cs) (ed_var rfl)) (ea_one (ed_var rfl)))))) (by decide) (Lent.one rfl) ⟨s, a, ns, b, k7, fs, cs, cs.reverse, tr, rfl, rfl, hf, hc, hc.rev, gr.1, rfl⟩ (fun t gs' h => ?_)))))
    obtain ⟨rfl, rfl⟩ := h
    refine ⟨[⟨false, s, stO K a ns b k7⟩], rfl, rfl, true, rfl, rfl, ?_⟩
    refine bd_then (bd_skipX (xt_not (xt_val (ex_callX (xa_cons (ex_ed (ed_var rfl) (xa_cons (ex_ed (ed_var rfl) (xa_cons (ex_ed (ed_var rfl) (xa_cons (ex_callG (js := [0]) (gh := [⟨false, s, stO K a ns b k7⟩]) (ea_cons (ed_var rfl) (ea_cons (ed_var rfl) (ea_cons ed_int (ea_one ed_non)))) (by decide) (Lent.one rfl) ⟨s, a, ns, b, k7, fs, 4, none, rfl, rfl, hb, hk7, by decide, by decide, lf, (fun t' e => by cases e), rfl⟩ (fun t gs' h => ?_)))))))))))))
    obtain ⟨ds, k8, rfl, lg, cg, _, hk8, rfl⟩ := h
    have hd : Cks fs ds := ⟨by omega, cg⟩
    refine ⟨[⟨false, s, stO K a ns b k8⟩], rfl, rfl, xa_cons (ex_ed (ed_var rfl) (xa_nil ⟨[0], [⟨false, s, stO K a ns b k8⟩], _, by decide, Lent.one rfl, ⟨s, a, ns, b, k8, fs, cs, ds, tr, rfl, rfl, hf, hc, hd, gr.1, rfl⟩, fun t gs' h => ?_⟩))⟩
    obtain ⟨rfl, rfl⟩ := h
    refine ⟨[⟨false, s, stO K a ns b k8⟩], rfl, rfl, true, rfl, rfl, ?_⟩
    refine bd_then (bd_skipX (xt_not (xt_val (ex_callG (js := [0]) (gh := [⟨false, s, stO K a ns b k8⟩]) (ea_cons (ed_var rfl) (ea_cons (ed_var rfl) (ea_cons (ed_var rfl) (ea_cons (ed_var rfl) (ea_one (ed_var rfl)))))) (by decide) (Lent.one rfl) ⟨s, a, ns, b, k8, fs, bad, cs, tr, rfl, rfl, hf, hbad, hc, gr.1, rfl⟩ (fun t gs' h => ?_)))))
    obtain ⟨rfl, rfl⟩ := h
    refine ⟨[⟨false, s, stO K a ns b k8⟩], rfl, rfl, true, rfl, rfl, ?_⟩
    refine bd_then (bd_skipX (xt_not (xt_val (ex_callG (js := [0]) (gh := [⟨false, s, stO K a ns b k8⟩]) (ea_cons (ed_var rfl) (ea_cons (ed_var rfl) (ea_cons (ed_var rfl) (ea_cons (ed_var rfl) (ea_one (ed_var rfl)))))) (by decide) (Lent.one rfl) ⟨s, a, ns, b, k8, fs, cs, th, tr, rfl, rfl, hb, hk8, hf, hc, hg, gr, rfl⟩ (fun t gs' h => ?_)))))
    obtain ⟨k9, rfl, hk9, rfl⟩ := h
    refine ⟨[⟨false, s, stO K a ns b k9⟩], rfl, rfl, true, rfl, rfl, ?_⟩
    refine bd_then (bd_asg (t := csT ((cs ++ [(none, some x0, -numAt th (some x0))]) ++ [(some x0, none, numAt th (some x0))])) (ed_catG (g := cT) (xs := cs ++ [(none, some x0, -numAt th (some x0))]) (ys := [(some x0, none, numAt th (some x0))]) (ed_catG (g := cT) (xs := cs) (ys := [(none, some x0, -numAt th (some x0))]) (ed_var rfl) ((ed_of_en (en_rep (n := 1) (ed_lst (ea_one (ed_tup (ea_cons ed_non (ea_cons (ed_ixL (ts := fs.map FK.T.str) (ed_var rfl) ed_int at0) (ea_one (ed_neg (ed_ixD (kvs := tL th) (ed_var rfl) (ed_ixL (ts := fs.map FK.T.str) (ed_var rfl) ed_int at0) lk0))))) (by simp))) (by simp)) ed_int (by decide) (by decide) (by simp))).to rfl) (by simp; omega)) (ed_lst (ea_one (ed_tup (ea_cons (ed_ixL (ts := fs.map FK.T.str) (ed_var rfl) ed_int at0) (ea_cons ed_non (ea_one (ed_ixD (kvs := tL th) (ed_var rfl) (ed_ixL (ts := fs.map FK.T.str) (ed_var rfl) ed_int at0) lk0)))) (by simp))) (by simp)) (by simp; omega)) eg_name ?_)
    have hso2 : SoCk fs th ((cs ++ [(none, some x0, -numAt th (some x0))]) ++ [(some x0, none, numAt th (some x0))]) := (hso.app (SoCk.one (chk_mk5 mN m0 (by simp) (by omega)) (decide_eq_true (by show 0 - numAt th (some x0) ≤ -numAt th (some x0); omega)))).app (SoCk.one (chk_mk5 m0 mN (by simp) (by omega)) (decide_eq_true (by show numAt th (some x0) - 0 ≤ numAt th (some x0); omega)))
    have lti : ((cs ++ [(none, some x0, -numAt th (some x0))]) ++ [(some x0, none, numAt th (some x0))] : List Chk).length ≤ 16 := by rw [List.length_append, List.length_append]; simp; omega
    generalize ((cs ++ [(none, some x0, -numAt th (some x0))]) ++ [(some x0, none, numAt th (some x0))] : List Chk) = tied at hso2 lti
    obtain ⟨hc2, hg2⟩ := hso2.good lti hTg hnear
    refine bd_then (bd_skipX (xt_not (xt_val (ex_callX (xa_cons (ex_ed (ed_var rfl) (xa_cons (ex_ed (ed_var rfl) (xa_cons (ex_ed (ed_var rfl) (xa_cons (ex_ed (ed_var rfl) (xa_cons (ex_callG (js := [0]) (gh := [⟨false, s, stO K a ns b k9⟩]) (ea_cons (ed_var rfl) (ea_cons (ed_var rfl) (ea_cons (ed_var rfl) (ea_one (ed_var rfl))))) (by decide) (Lent.one rfl) ⟨s, a, ns, b, k9, fs, tied, th, rfl, rfl, hb, hk9, hf, hc2, hg2, rfl⟩ (fun t gs' h => ?_)))))))))))))))
    obtain ⟨tq, kA, rfl, gq, hkA, rfl⟩ := h
    refine ⟨[⟨false, s, stO K a ns b kA⟩], rfl, rfl, xa_nil ⟨[0], [⟨false, s, stO K a ns b kA⟩], _, by decide, Lent.one rfl, ⟨s, a, ns, b, kA, fs, tied, th, tq, rfl, rfl, hb, hkA, hf, hc2, hg2, gq, rfl⟩, fun t gs' h => ?_⟩⟩
    obtain ⟨kB, rfl, hkB, rfl⟩ := h
    refine ⟨[⟨false, s, stO K a ns b kB⟩], rfl, rfl, true, rfl, rfl, ?_⟩
    refine bd_post (Nx' := fun Γ' => ∃ k x1 x2 x3 x4 x5 x6 x7 x8 x9 x10, Γ' = ⟨[some (scT K a ns), x1, x2, x3, x4, x5, x6, x7, x8, x9, x10], [⟨false, s, stO K a ns b k⟩]⟩) (bd_skipX (xt_not (xt_val (ex_callG (js := [0]) (gh := [⟨false, s, stO K a ns b kB⟩]) (ea_cons (ed_var rfl) (ea_cons (ed_var rfl) (ea_cons (ed_var rfl) (ea_one (ed_var rfl))))) (by decide) (Lent.one rfl) ⟨s, a, ns, b, kB, fs, tied, th, rfl, rfl, hb, hkB, hf, hc2, hTg, rfl⟩ (fun t gs' h => ?_))))) ?_
    · obtain ⟨kC, rfl, hkC, rfl⟩ := h
      exact ⟨[⟨false, s, stO K a ns b kC⟩], rfl, rfl, true, rfl, rfl, kC, _, _, _, _, _, _, _, _, _, _, rfl⟩
    · rintro Γ' ⟨k, x1, x2, x3, x4, x5, x6, x7, x8, x9, x10, rfl⟩
      exact ⟨_, sub_era 0, _, _, _, _, _, _, _, _, _, _, rfl⟩
  · rintro Γ' ⟨x1, x2, x3, x4, x5, x6, x7, x8, x9, x10, rfl⟩
    exact bd_ret ed_bl rfl
end
end FK
set_option maxHeartbeats 8000000
namespace FK
open PySem L2
def dd_is_number : He.DefD := ⟨("is_number", none), "is_number", "is_number", defArgs s_is_number, defBody s_is_number, defScope s_is_number, [], []⟩
def dd_is_name : He.DefD := ⟨("is_name", none), "is_name", "is_name", defArgs s_is_name, defBody s_is_name, defScope s_is_name, [], []⟩
def dd_is_end : He.DefD := ⟨("is_end", none), "is_end", "is_end", defArgs s_is_end, defBody s_is_end, defScope s_is_end, [], []⟩
def dd_is_check : He.DefD := ⟨("is_check", none), "is_check", "is_check", defArgs s_is_check, defBody s_is_check, defScope s_is_check, [], []⟩
def dd_is_thing : He.DefD := ⟨("is_thing", none), "is_thing", "is_thing", defArgs s_is_thing, defBody s_is_thing, defScope s_is_thing, [], []⟩
def dd_number_at : He.DefD := ⟨("number_at", none), "number_at", "number_at", defArgs s_number_at, defBody s_number_at, defScope s_number_at, [], []⟩
def dd_is_so : He.DefD := ⟨("is_so", none), "is_so", "is_so", defArgs s_is_so, defBody s_is_so, defScope s_is_so, [], []⟩
def dd_first_wrong : He.DefD := ⟨("first_wrong", none), "first_wrong", "first_wrong", defArgs s_first_wrong, defBody s_first_wrong, defScope s_first_wrong, [], []⟩
def dd_leads_on : He.DefD := ⟨("leads_on", none), "leads_on", "leads_on", defArgs s_leads_on, defBody s_leads_on, defScope s_leads_on, [], []⟩
def dd_is_chain : He.DefD := ⟨("is_chain", none), "is_chain", "is_chain", defArgs s_is_chain, defBody s_is_chain, defScope s_is_chain, [], []⟩
def dd_is_ring : He.DefD := ⟨("is_ring", none), "is_ring", "is_ring", defArgs s_is_ring, defBody s_is_ring, defScope s_is_ring, [], []⟩
def dd_sum_of : He.DefD := ⟨("sum_of", none), "sum_of", "sum_of", defArgs s_sum_of, defBody s_sum_of, defScope s_sum_of, [], []⟩
def dd_has_things : He.DefD := ⟨("has_things", none), "has_things", "has_things", defArgs s_has_things, defBody s_has_things, defScope s_has_things, [], []⟩
def dd_is_good : He.DefD := ⟨("is_good", none), "is_good", "is_good", defArgs s_is_good, defBody s_is_good, defScope s_is_good, [], []⟩
def dd_full_chains : He.DefD := ⟨("full_chains", none), "full_chains", "full_chains", defArgs s_full_chains, defBody s_full_chains, defScope s_full_chains, [], []⟩
def dd_farthest : He.DefD := ⟨("farthest", none), "farthest", "farthest", defArgs s_farthest, defBody s_farthest, defScope s_farthest, [], []⟩
def dd_check_things : He.DefD := ⟨("check_things", none), "check_things", "check_things", defArgs s_check_things, defBody s_check_things, defScope s_check_things, [], []⟩
def dd_binding : He.DefD := ⟨("binding", none), "binding", "binding", defArgs s_binding, defBody s_binding, defScope s_binding, [], []⟩
def dd_lowest_for : He.DefD := ⟨("lowest_for", none), "lowest_for", "lowest_for", defArgs s_lowest_for, defBody s_lowest_for, defScope s_lowest_for, [], []⟩
def dd_highest_for : He.DefD := ⟨("highest_for", none), "highest_for", "highest_for", defArgs s_highest_for, defBody s_highest_for, defScope s_highest_for, [], []⟩
def dd_lowered : He.DefD := ⟨("lowered", none), "lowered", "lowered", defArgs s_lowered, defBody s_lowered, defScope s_lowered, [], []⟩
def dd_raised : He.DefD := ⟨("raised", none), "raised", "raised", defArgs s_raised, defBody s_raised, defScope s_raised, [], []⟩
def dd_led : He.DefD := ⟨("led", none), "led", "led", defArgs s_led, defBody s_led, defScope s_led, [], []⟩
def dd__law_cell_at : He.DefD := ⟨("_law_cell_at", none), "_law_cell_at", "_law_cell_at", defArgs s__law_cell_at, defBody s__law_cell_at, defScope s__law_cell_at, [], []⟩
def dd__law_draw : He.DefD := ⟨("_law_draw", none), "_law_draw", "_law_draw", defArgs s__law_draw, defBody s__law_draw, defScope s__law_draw, [], []⟩
def dd__law_number : He.DefD := ⟨("_law_number", none), "_law_number", "_law_number", defArgs s__law_number, defBody s__law_number, defScope s__law_number, [], []⟩
def dd__law_next : He.DefD := ⟨("_law_next", none), "_law_next", "_law_next", defArgs s__law_next, defBody s__law_next, defScope s__law_next, [], []⟩
def dd__law_fields : He.DefD := ⟨("_law_fields", none), "_law_fields", "_law_fields", defArgs s__law_fields, defBody s__law_fields, defScope s__law_fields, [], []⟩
def dd__law_checks : He.DefD := ⟨("_law_checks", none), "_law_checks", "_law_checks", defArgs s__law_checks, defBody s__law_checks, defScope s__law_checks, [], []⟩
def dd__law_thing : He.DefD := ⟨("_law_thing", none), "_law_thing", "_law_thing", defArgs s__law_thing, defBody s__law_thing, defScope s__law_thing, [], []⟩
def dd__law_at : He.DefD := ⟨("_law_at", none), "_law_at", "_law_at", defArgs s__law_at, defBody s__law_at, defScope s__law_at, [], []⟩
def dd__law_wrong : He.DefD := ⟨("_law_wrong", none), "_law_wrong", "_law_wrong", defArgs s__law_wrong, defBody s__law_wrong, defScope s__law_wrong, [], []⟩
def dd__law_sums : He.DefD := ⟨("_law_sums", none), "_law_sums", "_law_sums", defArgs s__law_sums, defBody s__law_sums, defScope s__law_sums, [], []⟩
def dd__law_has : He.DefD := ⟨("_law_has", none), "_law_has", "_law_has", defArgs s__law_has, defBody s__law_has, defScope s__law_has, [], []⟩
def dd__law_leads : He.DefD := ⟨("_law_leads", none), "_law_leads", "_law_leads", defArgs s__law_leads, defBody s__law_leads, defScope s__law_leads, [], []⟩
def dd__law_total : He.DefD := ⟨("_law_total", none), "_law_total", "_law_total", defArgs s__law_total, defBody s__law_total, defScope s__law_total, [], []⟩
def dd__law_chain : He.DefD := ⟨("_law_chain", none), "_law_chain", "_law_chain", defArgs s__law_chain, defBody s__law_chain, defScope s__law_chain, [], []⟩
def dd__law_ring : He.DefD := ⟨("_law_ring", none), "_law_ring", "_law_ring", defArgs s__law_ring, defBody s__law_ring, defScope s__law_ring, [], []⟩
def dd__law_is_thing : He.DefD := ⟨("_law_is_thing", none), "_law_is_thing", "_law_is_thing", defArgs s__law_is_thing, defBody s__law_is_thing, defScope s__law_is_thing, [], []⟩
def dd__law_good : He.DefD := ⟨("_law_good", none), "_law_good", "_law_good", defArgs s__law_good, defBody s__law_good, defScope s__law_good, [], []⟩
def dd__law_led : He.DefD := ⟨("_law_led", none), "_law_led", "_law_led", defArgs s__law_led, defBody s__law_led, defScope s__law_led, [], []⟩
def dd__law_bound : He.DefD := ⟨("_law_bound", none), "_law_bound", "_law_bound", defArgs s__law_bound, defBody s__law_bound, defScope s__law_bound, [], []⟩
def dd__law_near : He.DefD := ⟨("_law_near", none), "_law_near", "_law_near", defArgs s__law_near, defBody s__law_near, defScope s__law_near, [], []⟩
def dd__law_lists : He.DefD := ⟨("_law_lists", none), "_law_lists", "_law_lists", defArgs s__law_lists, defBody s__law_lists, defScope s__law_lists, [], []⟩
def dd__law_things : He.DefD := ⟨("_law_things", none), "_law_things", "_law_things", defArgs s__law_things, defBody s__law_things, defScope s__law_things, [], []⟩
def dd__law_rings_right : He.DefD := ⟨("_law_rings_right", none), "_law_rings_right", "_law_rings_right", defArgs s__law_rings_right, defBody s__law_rings_right, defScope s__law_rings_right, [], []⟩
def dd__law_most_due : He.DefD := ⟨("_law_most_due", none), "_law_most_due", "_law_most_due", defArgs s__law_most_due, defBody s__law_most_due, defScope s__law_most_due, [], []⟩
def dd__law_free_due : He.DefD := ⟨("_law_free_due", none), "_law_free_due", "_law_free_due", defArgs s__law_free_due, defBody s__law_free_due, defScope s__law_free_due, [], []⟩
def dd__law_ends_right : He.DefD := ⟨("_law_ends_right", none), "_law_ends_right", "_law_ends_right", defArgs s__law_ends_right, defBody s__law_ends_right, defScope s__law_ends_right, [], []⟩
def dd__law_kept_right : He.DefD := ⟨("_law_kept_right", none), "_law_kept_right", "_law_kept_right", defArgs s__law_kept_right, defBody s__law_kept_right, defScope s__law_kept_right, [], []⟩
def dd__law_sets_right : He.DefD := ⟨("_law_sets_right", none), "_law_sets_right", "_law_sets_right", defArgs s__law_sets_right, defBody s__law_sets_right, defScope s__law_sets_right, [], []⟩
def dd_law : He.DefD := ⟨("law", none), "law", "law", defArgs s_law, defBody s_law, defScope s_law, [], []⟩
def dd_Chains_init : He.DefD := ⟨("Chains", some "__init__"), "__init__", "Chains.__init__", defArgs s_Chains_init, defBody s_Chains_init, defScope s_Chains_init, [], []⟩
def dd_Chains_better : He.DefD := ⟨("Chains", some "better"), "better", "Chains.better", defArgs s_Chains_better, defBody s_Chains_better, defScope s_Chains_better, [], []⟩
def dd_Chains_join : He.DefD := ⟨("Chains", some "join"), "join", "Chains.join", defArgs s_Chains_join, defBody s_Chains_join, defScope s_Chains_join, [], []⟩
def dd_Chains_sum_of : He.DefD := ⟨("Chains", some "sum_of"), "sum_of", "Chains.sum_of", defArgs s_Chains_sum_of, defBody s_Chains_sum_of, defScope s_Chains_sum_of, [], []⟩
def dd_Chains_counts_of : He.DefD := ⟨("Chains", some "counts_of"), "counts_of", "Chains.counts_of", defArgs s_Chains_counts_of, defBody s_Chains_counts_of, defScope s_Chains_counts_of, [], []⟩
def dd_Chains_lowest : He.DefD := ⟨("Chains", some "lowest"), "lowest", "Chains.lowest", defArgs s_Chains_lowest, defBody s_Chains_lowest, defScope s_Chains_lowest, [], []⟩
def dd_Chains_thing_of : He.DefD := ⟨("Chains", some "thing_of"), "thing_of", "Chains.thing_of", defArgs s_Chains_thing_of, defBody s_Chains_thing_of, defScope s_Chains_thing_of, [], []⟩
def dd_Chains_thing_apart : He.DefD := ⟨("Chains", some "thing_apart"), "thing_apart", "Chains.thing_apart", defArgs s_Chains_thing_apart, defBody s_Chains_thing_apart, defScope s_Chains_thing_apart, [], []⟩
def dd_Chains_come_to : He.DefD := ⟨("Chains", some "come_to"), "come_to", "Chains.come_to", defArgs s_Chains_come_to, defBody s_Chains_come_to, defScope s_Chains_come_to, [], []⟩
def dd_Kind_init : He.DefD := ⟨("Kind", some "__init__"), "__init__", "Kind.__init__", defArgs s_Kind_init, defBody s_Kind_init, defScope s_Kind_init, [], []⟩
def dd_Some_init : He.DefD := ⟨("Some", some "__init__"), "__init__", "Some.__init__", defArgs s_Some_init, defBody s_Some_init, defScope s_Some_init, [], []⟩
def dd_Some_shows : He.DefD := ⟨("Some", some "shows"), "shows", "Some.shows", defArgs s_Some_shows, defBody s_Some_shows, defScope s_Some_shows, [], []⟩
def dd_Ring_init : He.DefD := ⟨("Ring", some "__init__"), "__init__", "Ring.__init__", defArgs s_Ring_init, defBody s_Ring_init, defScope s_Ring_init, [], []⟩
def dd_Ring_shows : He.DefD := ⟨("Ring", some "shows"), "shows", "Ring.shows", defArgs s_Ring_shows, defBody s_Ring_shows, defScope s_Ring_shows, [], []⟩
def dd_Most_init : He.DefD := ⟨("Most", some "__init__"), "__init__", "Most.__init__", defArgs s_Most_init, defBody s_Most_init, defScope s_Most_init, [], []⟩
def dd_Most_shows : He.DefD := ⟨("Most", some "shows"), "shows", "Most.shows", defArgs s_Most_shows, defBody s_Most_shows, defScope s_Most_shows, [], []⟩
def dd_Free_init : He.DefD := ⟨("Free", some "__init__"), "__init__", "Free.__init__", defArgs s_Free_init, defBody s_Free_init, defScope s_Free_init, [], []⟩
def dd_Free_shows : He.DefD := ⟨("Free", some "shows"), "shows", "Free.shows", defArgs s_Free_shows, defBody s_Free_shows, defScope s_Free_shows, [], []⟩
def dd_Keeps_init : He.DefD := ⟨("Keeps", some "__init__"), "__init__", "Keeps.__init__", defArgs s_Keeps_init, defBody s_Keeps_init, defScope s_Keeps_init, [], []⟩
def dd_Keeps_shows : He.DefD := ⟨("Keeps", some "shows"), "shows", "Keeps.shows", defArgs s_Keeps_shows, defBody s_Keeps_shows, defScope s_Keeps_shows, [], []⟩
def dd_Strays_init : He.DefD := ⟨("Strays", some "__init__"), "__init__", "Strays.__init__", defArgs s_Strays_init, defBody s_Strays_init, defScope s_Strays_init, [], []⟩
def dd_Strays_shows : He.DefD := ⟨("Strays", some "shows"), "shows", "Strays.shows", defArgs s_Strays_shows, defBody s_Strays_shows, defScope s_Strays_shows, [], []⟩
def dd_Led_init : He.DefD := ⟨("Led", some "__init__"), "__init__", "Led.__init__", defArgs s_Led_init, defBody s_Led_init, defScope s_Led_init, [], []⟩
def dd_Led_shows : He.DefD := ⟨("Led", some "shows"), "shows", "Led.shows", defArgs s_Led_shows, defBody s_Led_shows, defScope s_Led_shows, [], []⟩
def dd_Bound_init : He.DefD := ⟨("Bound", some "__init__"), "__init__", "Bound.__init__", defArgs s_Bound_init, defBody s_Bound_init, defScope s_Bound_init, [], []⟩
def dd_Bound_shows : He.DefD := ⟨("Bound", some "shows"), "shows", "Bound.shows", defArgs s_Bound_shows, defBody s_Bound_shows, defScope s_Bound_shows, [], []⟩
def hfn : List He.DefD := ([dd_is_number, dd_is_name, dd_is_end, dd_is_check, dd_is_thing, dd_number_at, dd_is_so, dd_first_wrong, dd_leads_on, dd_is_chain, dd_is_ring, dd_sum_of, dd_has_things, dd_is_good, dd_full_chains, dd_farthest, dd_check_things, dd_binding, dd_lowest_for, dd_highest_for, dd_lowered, dd_raised, dd_led, dd__law_cell_at, dd__law_draw, dd__law_number, dd__law_next, dd__law_fields, dd__law_checks, dd__law_thing, dd__law_at, dd__law_wrong, dd__law_sums, dd__law_has, dd__law_leads, dd__law_total, dd__law_chain, dd__law_ring, dd__law_is_thing, dd__law_good] : List He.DefD) ++ ([dd__law_led, dd__law_bound, dd__law_near, dd__law_lists, dd__law_things, dd__law_rings_right, dd__law_most_due, dd__law_free_due, dd__law_ends_right, dd__law_kept_right, dd__law_sets_right, dd_law, dd_Chains_init, dd_Chains_better, dd_Chains_join, dd_Chains_sum_of, dd_Chains_counts_of, dd_Chains_lowest, dd_Chains_thing_of, dd_Chains_thing_apart, dd_Chains_come_to, dd_Kind_init, dd_Some_init, dd_Some_shows, dd_Ring_init, dd_Ring_shows, dd_Most_init, dd_Most_shows, dd_Free_init, dd_Free_shows, dd_Keeps_init, dd_Keeps_shows, dd_Strays_init, dd_Strays_shows, dd_Led_init, dd_Led_shows, dd_Bound_init, dd_Bound_shows] : List He.DefD)
def hfa : List He.Fa := ([.glo "is_number", .glo "is_name", .glo "is_end", .glo "is_check", .glo "is_thing", .glo "number_at", .glo "is_so", .glo "first_wrong", .glo "leads_on", .glo "is_chain", .glo "is_ring", .glo "sum_of", .glo "has_things", .glo "is_good", .glo "full_chains", .glo "farthest", .glo "check_things", .glo "binding", .glo "lowest_for", .glo "highest_for", .glo "lowered", .glo "raised", .glo "led", .glo "_law_cell_at", .glo "_law_draw", .glo "_law_number", .glo "_law_next", .glo "_law_fields", .glo "_law_checks", .glo "_law_thing", .glo "_law_at", .glo "_law_wrong", .glo "_law_sums", .glo "_law_has", .glo "_law_leads", .glo "_law_total", .glo "_law_chain", .glo "_law_ring", .glo "_law_is_thing", .glo "_law_good"] : List He.Fa) ++ ([.glo "_law_led", .glo "_law_bound", .glo "_law_near", .glo "_law_lists", .glo "_law_things", .glo "_law_rings_right", .glo "_law_most_due", .glo "_law_free_due", .glo "_law_ends_right", .glo "_law_kept_right", .glo "_law_sets_right", .glo "law", .meth "Chains" "__init__", .mkr "Chains", .meth "Chains" "better", .meth "Chains" "join", .meth "Chains" "sum_of", .meth "Chains" "counts_of", .meth "Chains" "lowest", .meth "Chains" "thing_of", .meth "Chains" "thing_apart", .meth "Chains" "come_to", .meth "Kind" "__init__", .mkr "Kind", .meth "Some" "__init__", .mkr "Some", .meth "Some" "shows", .meth "Ring" "__init__", .mkr "Ring", .meth "Ring" "shows", .meth "Most" "__init__", .mkr "Most", .meth "Most" "shows", .meth "Free" "__init__", .mkr "Free", .meth "Free" "shows", .meth "Keeps" "__init__", .mkr "Keeps", .meth "Keeps" "shows", .meth "Strays" "__init__"] : List He.Fa) ++ ([.mkr "Strays", .meth "Strays" "shows", .meth "Led" "__init__", .mkr "Led", .meth "Led" "shows", .meth "Bound" "__init__", .mkr "Bound", .meth "Bound" "shows", .glo "Chains", .cls "Chains", .glo "Kind", .cls "Kind", .glo "Some", .cls "Some", .glo "Ring", .cls "Ring", .glo "Most", .cls "Most", .glo "Free", .cls "Free", .glo "Keeps", .cls "Keeps", .glo "Strays", .cls "Strays", .glo "Led", .cls "Led", .glo "Bound", .cls "Bound", .noat "Chains" "ends", .noat "Chains" "rules", .noat "Chains" "table", .noat "Chains" "ring", .noat "Kind" "row", .noat "Kind" "rules", .noat "Some" "thing", .noat "Ring" "counts", .noat "Most" "number", .noat "Most" "counts", .noat "Most" "thing", .noat "Free" "lot"] : List He.Fa) ++ ([.noat "Keeps" "chains", .noat "Strays" "thing", .noat "Strays" "at", .noat "Led" "sets", .noat "Bound" "field", .noat "Bound" "counts", .free "abs", .free "all", .free "any", .free "bool", .free "dict", .free "enumerate", .free "int", .free "isinstance", .free "len", .free "list", .free "max", .free "min", .free "range", .free "set", .free "sorted", .free "str", .free "sum", .free "tuple", .free "zip", .int "MUCH" 5000, .str "LETTERS" "abcdefghijklmnopqrstuvwxyz", .int "MOST_FIELDS" 6, .int "MOST_CHECKS" 16, .int "FARTHEST" 100, .int "FAR" 40] : List He.Fa)
def hex : List (PySem.W.Frag → Bool) := ([getB, fun K => insB K "Chains", fun K => insB K "Kind", fun K => insB K "Some", fun K => insB K "Ring", fun K => insB K "Most", fun K => insB K "Free", fun K => insB K "Keeps", fun K => insB K "Strays", fun K => insB K "Led", fun K => insB K "Bound", fun K => isiB K "Most" "Most" true, fun K => isiB K "Free" "Most" false, fun K => isiB K "Most" "Free" false, fun K => isiB K "Free" "Free" true, fun K => isiB K "Led" "Led" true, fun K => isiB K "Bound" "Led" false, fun K => isiB K "Led" "Bound" false, fun K => isiB K "Bound" "Bound" true] : List (PySem.W.Frag → Bool))
def hnames : List Str := ([("_wall" : Str), ("MUCH" : Str), ("Chains" : Str), ("KindError" : Str), ("BadKind" : Str), ("BadThing" : Str), ("BadField" : Str), ("Empty" : Str), ("Unfit" : Str), ("LETTERS" : Str), ("MOST_FIELDS" : Str), ("MOST_CHECKS" : Str), ("FARTHEST" : Str), ("is_number" : Str), ("is_name" : Str), ("is_end" : Str), ("is_check" : Str), ("Kind" : Str), ("is_thing" : Str), ("number_at" : Str), ("is_so" : Str), ("first_wrong" : Str), ("Answer" : Str), ("leads_on" : Str), ("is_chain" : Str), ("is_ring" : Str), ("sum_of" : Str), ("has_things" : Str), ("is_good" : Str), ("Some" : Str), ("Ring" : Str), ("Most" : Str), ("Free" : Str), ("Keeps" : Str), ("Strays" : Str), ("Led" : Str), ("Bound" : Str), ("FAR" : Str), ("full_chains" : Str), ("farthest" : Str)] : List Str) ++ ([("check_things" : Str), ("binding" : Str), ("lowest_for" : Str), ("highest_for" : Str), ("lowered" : Str), ("raised" : Str), ("led" : Str), ("_law_cell_at" : Str), ("_law_draw" : Str), ("_law_number" : Str), ("_law_next" : Str), ("_law_fields" : Str), ("_law_checks" : Str), ("_law_thing" : Str), ("_law_at" : Str), ("_law_wrong" : Str), ("_law_sums" : Str), ("_law_has" : Str), ("_law_leads" : Str), ("_law_total" : Str), ("_law_chain" : Str), ("_law_ring" : Str), ("_law_is_thing" : Str), ("_law_good" : Str), ("_law_led" : Str), ("_law_bound" : Str), ("_law_due" : Str), ("_law_tied" : Str), ("_law_near" : Str), ("_law_lists" : Str), ("_law_things" : Str), ("_law_rings_right" : Str), ("_law_most_due" : Str), ("_law_free_due" : Str), ("_law_ends_right" : Str), ("_law_kept_right" : Str), ("_law_sets_right" : Str)] : List Str)
abbrev hR : PySem.W.OpenRow := PySem.W.OpenLaw.row PySem.Challenge.rw_fieldkinds_k05_answers_by_hand
abbrev hq : Program := PySem.W.view hR.prog [83]
def had : List Addr := ([3, 2, 15, 17, 18, 20, 21, 29, 31, 32, 34, 35, 36, 38, 39, 41, 42, 43, 45, 46, 48, 49, 50, 52, 53, 55, 56, 57, 59, 60, 62, 63, 64, 67, 68, 69, 71, 72, 74, 75] : List Addr) ++ ([76, 78, 79, 81, 82, 83, 85, 86, 88, 89, 90, 93, 94, 95, 97, 98, 100, 101, 102, 103, 104, 105, 106, 109, 116, 117, 118, 119, 122, 129, 130, 131, 134, 141, 142, 143, 146, 153, 154, 155] : List Addr) ++ ([158, 165, 167, 168, 170, 171, 172, 173, 174, 177, 184, 186, 187, 189, 190, 191, 192, 193, 196, 198, 199, 201, 202, 203, 206, 207, 208, 210, 211, 213, 214, 215, 217, 218, 220, 221, 229, 232, 233, 234] : List Addr) ++ ([236, 237, 239, 240, 241, 243, 244, 246, 247, 248, 250, 251, 253, 254, 255, 257, 258, 260, 261, 262, 263, 264, 265, 266, 269, 272, 273, 274, 276, 277, 279, 280, 281, 283, 284, 286, 287, 288, 290, 291] : List Addr) ++ ([293, 294, 302, 303, 304, 305, 306, 309, 312, 313, 314, 316, 317, 319, 320, 321, 323, 324, 326, 327, 328, 331, 332, 333, 335, 336, 338, 339, 340, 342, 343, 345, 346, 347, 354, 356, 357, 359, 360, 361] : List Addr) ++ ([363, 364, 366, 367, 368, 369, 370, 373, 380, 382, 383, 385, 386, 387, 389, 390, 392, 393, 394, 395, 396, 399, 406, 408, 409, 411, 412, 413, 415, 416, 418, 419, 420, 421, 422, 425, 432, 434, 435, 437] : List Addr) ++ ([438, 439, 442, 443, 444, 445, 446, 449, 456, 459, 460, 461, 463, 464, 466, 467, 468, 469, 470, 473, 480, 482, 483, 485, 486, 487, 489, 490, 492, 493, 494, 495, 496, 499, 506, 508, 509, 511, 512, 513] : List Addr) ++ ([515, 516, 518, 519, 520, 521, 522, 525, 532, 534, 535, 537, 538, 539, 542, 543, 544, 545, 546, 549, 551, 552, 554, 555, 556, 558, 559, 561, 562, 563, 566, 567, 568, 570, 571, 573, 574, 575, 578, 579] : List Addr) ++ ([580, 583, 584, 585, 588, 589, 590, 593, 594, 595, 597, 598, 600, 601, 602, 604, 605, 607, 608, 609, 611, 612, 614, 615, 616, 618, 619, 621, 622, 623, 625, 626, 628, 629, 630, 632, 633, 635, 636, 637] : List Addr) ++ ([639, 640, 642, 643, 644, 646, 647, 649, 650, 651, 653, 654, 656, 657, 658, 660, 661, 663, 664, 665, 667, 668, 670, 671, 672, 675, 676, 677, 680, 681, 682, 685, 686, 687, 689, 690, 692, 693, 694, 696] : List Addr) ++ ([697, 699, 700, 701, 704, 705, 706, 708, 709, 711, 712, 713, 715, 716, 718, 719, 720, 723, 724, 739, 742, 743, 744, 747, 748, 749, 751, 752, 754, 755, 756, 758, 759, 761, 762, 763, 765, 766, 768, 769] : List Addr) ++ ([770, 773, 774, 775, 777, 778, 780, 781, 782, 785, 786, 787, 790, 791, 792, 794, 795, 797, 798] : List Addr)
set_option maxHeartbeats 0 in
theorem hrun0 (w : World) : HandSHeadRun.RunEq hR hq PySem.W.Hook.none (fun _ => ()) 9000 hnames w := by
  intro os
  kernel_rfl
set_option maxHeartbeats 0 in
theorem hrun1 (w : World) : RunP hR 9000 w (allFa had hfa) true := by
  intro os
  kernel_rfl
set_option maxHeartbeats 0 in
theorem hrun2 (w : World) : RunP hR 9000 w (allEx had hex) true := by
  intro os
  kernel_rfl
set_option maxHeartbeats 0 in
theorem hrun3 (w : World) : RunP hR 9000 w (allFn had hfn) (valFn hfn) := by
  intro os
  kernel_rfl
theorem hrun (w : World) : HandSHeadRun.RunEq hR hq (hookF had hfa hex hfn) (obF had hfa hex hfn) 9000 hnames w := RunP.whole (hrun0 w) (hrun1 w) (hrun2 w) (hrun3 w)
set_option maxHeartbeats 0 in
theorem tx_of {K : PySem.W.Frag} {h : Heap} {mg : Str → Option Value} (X : K.In h) (G : h.Ns mainGlobals mg) (c : SaysF hfa hex hfn K) : Nonempty (Tx K mg) := by
  obtain ⟨fd_is_number, G_is_number⟩ := c.def_ 0 (d := dd_is_number) rfl
  have F_is_number : Fun K "is_number" "is_number" s_is_number (He.fAd K ("is_number", none)) fd_is_number := He5.fun_of G_is_number
  obtain ⟨fd_is_name, G_is_name⟩ := c.def_ 1 (d := dd_is_name) rfl
  have F_is_name : Fun K "is_name" "is_name" s_is_name (He.fAd K ("is_name", none)) fd_is_name := He5.fun_of G_is_name
  obtain ⟨fd_is_end, G_is_end⟩ := c.def_ 2 (d := dd_is_end) rfl
  have F_is_end : Fun K "is_end" "is_end" s_is_end (He.fAd K ("is_end", none)) fd_is_end := He5.fun_of G_is_end
  obtain ⟨fd_is_check, G_is_check⟩ := c.def_ 3 (d := dd_is_check) rfl
  have F_is_check : Fun K "is_check" "is_check" s_is_check (He.fAd K ("is_check", none)) fd_is_check := He5.fun_of G_is_check
  obtain ⟨fd_is_thing, G_is_thing⟩ := c.def_ 4 (d := dd_is_thing) rfl
  have F_is_thing : Fun K "is_thing" "is_thing" s_is_thing (He.fAd K ("is_thing", none)) fd_is_thing := He5.fun_of G_is_thing
  obtain ⟨fd_number_at, G_number_at⟩ := c.def_ 5 (d := dd_number_at) rfl
  have F_number_at : Fun K "number_at" "number_at" s_number_at (He.fAd K ("number_at", none)) fd_number_at := He5.fun_of G_number_at
  obtain ⟨fd_is_so, G_is_so⟩ := c.def_ 6 (d := dd_is_so) rfl
  have F_is_so : Fun K "is_so" "is_so" s_is_so (He.fAd K ("is_so", none)) fd_is_so := He5.fun_of G_is_so
  obtain ⟨fd_first_wrong, G_first_wrong⟩ := c.def_ 7 (d := dd_first_wrong) rfl
  have F_first_wrong : Fun K "first_wrong" "first_wrong" s_first_wrong (He.fAd K ("first_wrong", none)) fd_first_wrong := He5.fun_of G_first_wrong
  obtain ⟨fd_leads_on, G_leads_on⟩ := c.def_ 8 (d := dd_leads_on) rfl
  have F_leads_on : Fun K "leads_on" "leads_on" s_leads_on (He.fAd K ("leads_on", none)) fd_leads_on := He5.fun_of G_leads_on
  obtain ⟨fd_is_chain, G_is_chain⟩ := c.def_ 9 (d := dd_is_chain) rfl
  have F_is_chain : Fun K "is_chain" "is_chain" s_is_chain (He.fAd K ("is_chain", none)) fd_is_chain := He5.fun_of G_is_chain
  obtain ⟨fd_is_ring, G_is_ring⟩ := c.def_ 10 (d := dd_is_ring) rfl
  have F_is_ring : Fun K "is_ring" "is_ring" s_is_ring (He.fAd K ("is_ring", none)) fd_is_ring := He5.fun_of G_is_ring
  obtain ⟨fd_sum_of, G_sum_of⟩ := c.def_ 11 (d := dd_sum_of) rfl
  have F_sum_of : Fun K "sum_of" "sum_of" s_sum_of (He.fAd K ("sum_of", none)) fd_sum_of := He5.fun_of G_sum_of
  obtain ⟨fd_has_things, G_has_things⟩ := c.def_ 12 (d := dd_has_things) rfl
  have F_has_things : Fun K "has_things" "has_things" s_has_things (He.fAd K ("has_things", none)) fd_has_things := He5.fun_of G_has_things
  obtain ⟨fd_is_good, G_is_good⟩ := c.def_ 13 (d := dd_is_good) rfl
  have F_is_good : Fun K "is_good" "is_good" s_is_good (He.fAd K ("is_good", none)) fd_is_good := He5.fun_of G_is_good
  obtain ⟨fd_full_chains, G_full_chains⟩ := c.def_ 14 (d := dd_full_chains) rfl
  have F_full_chains : Fun K "full_chains" "full_chains" s_full_chains (He.fAd K ("full_chains", none)) fd_full_chains := He5.fun_of G_full_chains
  obtain ⟨fd_farthest, G_farthest⟩ := c.def_ 15 (d := dd_farthest) rfl
  have F_farthest : Fun K "farthest" "farthest" s_farthest (He.fAd K ("farthest", none)) fd_farthest := He5.fun_of G_farthest
  obtain ⟨fd_check_things, G_check_things⟩ := c.def_ 16 (d := dd_check_things) rfl
  have F_check_things : Fun K "check_things" "check_things" s_check_things (He.fAd K ("check_things", none)) fd_check_things := He5.fun_of G_check_things
  obtain ⟨fd_binding, G_binding⟩ := c.def_ 17 (d := dd_binding) rfl
  have F_binding : Fun K "binding" "binding" s_binding (He.fAd K ("binding", none)) fd_binding := He5.fun_of G_binding
  obtain ⟨fd_lowest_for, G_lowest_for⟩ := c.def_ 18 (d := dd_lowest_for) rfl
  have F_lowest_for : Fun K "lowest_for" "lowest_for" s_lowest_for (He.fAd K ("lowest_for", none)) fd_lowest_for := He5.fun_of G_lowest_for
  obtain ⟨fd_highest_for, G_highest_for⟩ := c.def_ 19 (d := dd_highest_for) rfl
  have F_highest_for : Fun K "highest_for" "highest_for" s_highest_for (He.fAd K ("highest_for", none)) fd_highest_for := He5.fun_of G_highest_for
  obtain ⟨fd_lowered, G_lowered⟩ := c.def_ 20 (d := dd_lowered) rfl
  have F_lowered : Fun K "lowered" "lowered" s_lowered (He.fAd K ("lowered", none)) fd_lowered := He5.fun_of G_lowered
  obtain ⟨fd_raised, G_raised⟩ := c.def_ 21 (d := dd_raised) rfl
  have F_raised : Fun K "raised" "raised" s_raised (He.fAd K ("raised", none)) fd_raised := He5.fun_of G_raised
  obtain ⟨fd_led, G_led⟩ := c.def_ 22 (d := dd_led) rfl
  have F_led : Fun K "led" "led" s_led (He.fAd K ("led", none)) fd_led := He5.fun_of G_led
  obtain ⟨fd__law_cell_at, G__law_cell_at⟩ := c.def_ 23 (d := dd__law_cell_at) rfl
  have F__law_cell_at : Fun K "_law_cell_at" "_law_cell_at" s__law_cell_at (He.fAd K ("_law_cell_at", none)) fd__law_cell_at := He5.fun_of G__law_cell_at
  obtain ⟨fd__law_draw, G__law_draw⟩ := c.def_ 24 (d := dd__law_draw) rfl
  have F__law_draw : Fun K "_law_draw" "_law_draw" s__law_draw (He.fAd K ("_law_draw", none)) fd__law_draw := He5.fun_of G__law_draw
  obtain ⟨fd__law_number, G__law_number⟩ := c.def_ 25 (d := dd__law_number) rfl
  have F__law_number : Fun K "_law_number" "_law_number" s__law_number (He.fAd K ("_law_number", none)) fd__law_number := He5.fun_of G__law_number
  obtain ⟨fd__law_next, G__law_next⟩ := c.def_ 26 (d := dd__law_next) rfl
  have F__law_next : Fun K "_law_next" "_law_next" s__law_next (He.fAd K ("_law_next", none)) fd__law_next := He5.fun_of G__law_next
  obtain ⟨fd__law_fields, G__law_fields⟩ := c.def_ 27 (d := dd__law_fields) rfl
  have F__law_fields : Fun K "_law_fields" "_law_fields" s__law_fields (He.fAd K ("_law_fields", none)) fd__law_fields := He5.fun_of G__law_fields
  obtain ⟨fd__law_checks, G__law_checks⟩ := c.def_ 28 (d := dd__law_checks) rfl
  have F__law_checks : Fun K "_law_checks" "_law_checks" s__law_checks (He.fAd K ("_law_checks", none)) fd__law_checks := He5.fun_of G__law_checks
  obtain ⟨fd__law_thing, G__law_thing⟩ := c.def_ 29 (d := dd__law_thing) rfl
  have F__law_thing : Fun K "_law_thing" "_law_thing" s__law_thing (He.fAd K ("_law_thing", none)) fd__law_thing := He5.fun_of G__law_thing
  obtain ⟨fd__law_at, G__law_at⟩ := c.def_ 30 (d := dd__law_at) rfl
  have F__law_at : Fun K "_law_at" "_law_at" s__law_at (He.fAd K ("_law_at", none)) fd__law_at := He5.fun_of G__law_at
  obtain ⟨fd__law_wrong, G__law_wrong⟩ := c.def_ 31 (d := dd__law_wrong) rfl
  have F__law_wrong : Fun K "_law_wrong" "_law_wrong" s__law_wrong (He.fAd K ("_law_wrong", none)) fd__law_wrong := He5.fun_of G__law_wrong
  obtain ⟨fd__law_sums, G__law_sums⟩ := c.def_ 32 (d := dd__law_sums) rfl
  have F__law_sums : Fun K "_law_sums" "_law_sums" s__law_sums (He.fAd K ("_law_sums", none)) fd__law_sums := He5.fun_of G__law_sums
  obtain ⟨fd__law_has, G__law_has⟩ := c.def_ 33 (d := dd__law_has) rfl
  have F__law_has : Fun K "_law_has" "_law_has" s__law_has (He.fAd K ("_law_has", none)) fd__law_has := He5.fun_of G__law_has
  obtain ⟨fd__law_leads, G__law_leads⟩ := c.def_ 34 (d := dd__law_leads) rfl
  have F__law_leads : Fun K "_law_leads" "_law_leads" s__law_leads (He.fAd K ("_law_leads", none)) fd__law_leads := He5.fun_of G__law_leads
  obtain ⟨fd__law_total, G__law_total⟩ := c.def_ 35 (d := dd__law_total) rfl
  have F__law_total : Fun K "_law_total" "_law_total" s__law_total (He.fAd K ("_law_total", none)) fd__law_total := He5.fun_of G__law_total
  obtain ⟨fd__law_chain, G__law_chain⟩ := c.def_ 36 (d := dd__law_chain) rfl
  have F__law_chain : Fun K "_law_chain" "_law_chain" s__law_chain (He.fAd K ("_law_chain", none)) fd__law_chain := He5.fun_of G__law_chain
  obtain ⟨fd__law_ring, G__law_ring⟩ := c.def_ 37 (d := dd__law_ring) rfl
  have F__law_ring : Fun K "_law_ring" "_law_ring" s__law_ring (He.fAd K ("_law_ring", none)) fd__law_ring := He5.fun_of G__law_ring
  obtain ⟨fd__law_is_thing, G__law_is_thing⟩ := c.def_ 38 (d := dd__law_is_thing) rfl
  have F__law_is_thing : Fun K "_law_is_thing" "_law_is_thing" s__law_is_thing (He.fAd K ("_law_is_thing", none)) fd__law_is_thing := He5.fun_of G__law_is_thing
  obtain ⟨fd__law_good, G__law_good⟩ := c.def_ 39 (d := dd__law_good) rfl
  have F__law_good : Fun K "_law_good" "_law_good" s__law_good (He.fAd K ("_law_good", none)) fd__law_good := He5.fun_of G__law_good
  obtain ⟨fd__law_led, G__law_led⟩ := c.def_ 40 (d := dd__law_led) rfl
  have F__law_led : Fun K "_law_led" "_law_led" s__law_led (He.fAd K ("_law_led", none)) fd__law_led := He5.fun_of G__law_led
  obtain ⟨fd__law_bound, G__law_bound⟩ := c.def_ 41 (d := dd__law_bound) rfl
  have F__law_bound : Fun K "_law_bound" "_law_bound" s__law_bound (He.fAd K ("_law_bound", none)) fd__law_bound := He5.fun_of G__law_bound
  obtain ⟨fd__law_near, G__law_near⟩ := c.def_ 42 (d := dd__law_near) rfl
  have F__law_near : Fun K "_law_near" "_law_near" s__law_near (He.fAd K ("_law_near", none)) fd__law_near := He5.fun_of G__law_near
  obtain ⟨fd__law_lists, G__law_lists⟩ := c.def_ 43 (d := dd__law_lists) rfl
  have F__law_lists : Fun K "_law_lists" "_law_lists" s__law_lists (He.fAd K ("_law_lists", none)) fd__law_lists := He5.fun_of G__law_lists
  obtain ⟨fd__law_things, G__law_things⟩ := c.def_ 44 (d := dd__law_things) rfl
  have F__law_things : Fun K "_law_things" "_law_things" s__law_things (He.fAd K ("_law_things", none)) fd__law_things := He5.fun_of G__law_things
  obtain ⟨fd__law_rings_right, G__law_rings_right⟩ := c.def_ 45 (d := dd__law_rings_right) rfl
  have F__law_rings_right : Fun K "_law_rings_right" "_law_rings_right" s__law_rings_right (He.fAd K ("_law_rings_right", none)) fd__law_rings_right := He5.fun_of G__law_rings_right
  obtain ⟨fd__law_most_due, G__law_most_due⟩ := c.def_ 46 (d := dd__law_most_due) rfl
  have F__law_most_due : Fun K "_law_most_due" "_law_most_due" s__law_most_due (He.fAd K ("_law_most_due", none)) fd__law_most_due := He5.fun_of G__law_most_due
  obtain ⟨fd__law_free_due, G__law_free_due⟩ := c.def_ 47 (d := dd__law_free_due) rfl
  have F__law_free_due : Fun K "_law_free_due" "_law_free_due" s__law_free_due (He.fAd K ("_law_free_due", none)) fd__law_free_due := He5.fun_of G__law_free_due
  obtain ⟨fd__law_ends_right, G__law_ends_right⟩ := c.def_ 48 (d := dd__law_ends_right) rfl
  have F__law_ends_right : Fun K "_law_ends_right" "_law_ends_right" s__law_ends_right (He.fAd K ("_law_ends_right", none)) fd__law_ends_right := He5.fun_of G__law_ends_right
  obtain ⟨fd__law_kept_right, G__law_kept_right⟩ := c.def_ 49 (d := dd__law_kept_right) rfl
  have F__law_kept_right : Fun K "_law_kept_right" "_law_kept_right" s__law_kept_right (He.fAd K ("_law_kept_right", none)) fd__law_kept_right := He5.fun_of G__law_kept_right
  obtain ⟨fd__law_sets_right, G__law_sets_right⟩ := c.def_ 50 (d := dd__law_sets_right) rfl
  have F__law_sets_right : Fun K "_law_sets_right" "_law_sets_right" s__law_sets_right (He.fAd K ("_law_sets_right", none)) fd__law_sets_right := He5.fun_of G__law_sets_right
  obtain ⟨fd_law, G_law⟩ := c.def_ 51 (d := dd_law) rfl
  have F_law : Fun K "law" "law" s_law (He.fAd K ("law", none)) fd_law := He5.fun_of G_law
  obtain ⟨fd_Chains_init, G_Chains_init⟩ := c.def_ 52 (d := dd_Chains_init) rfl
  have F_Chains_init : Fun K "__init__" "Chains.__init__" s_Chains_init (He.fAd K ("Chains", some "__init__")) fd_Chains_init := He5.fun_of G_Chains_init
  obtain ⟨fd_Chains_better, G_Chains_better⟩ := c.def_ 53 (d := dd_Chains_better) rfl
  have F_Chains_better : Fun K "better" "Chains.better" s_Chains_better (He.fAd K ("Chains", some "better")) fd_Chains_better := He5.fun_of G_Chains_better
  obtain ⟨fd_Chains_join, G_Chains_join⟩ := c.def_ 54 (d := dd_Chains_join) rfl
  have F_Chains_join : Fun K "join" "Chains.join" s_Chains_join (He.fAd K ("Chains", some "join")) fd_Chains_join := He5.fun_of G_Chains_join
  obtain ⟨fd_Chains_sum_of, G_Chains_sum_of⟩ := c.def_ 55 (d := dd_Chains_sum_of) rfl
  have F_Chains_sum_of : Fun K "sum_of" "Chains.sum_of" s_Chains_sum_of (He.fAd K ("Chains", some "sum_of")) fd_Chains_sum_of := He5.fun_of G_Chains_sum_of
  obtain ⟨fd_Chains_counts_of, G_Chains_counts_of⟩ := c.def_ 56 (d := dd_Chains_counts_of) rfl
  have F_Chains_counts_of : Fun K "counts_of" "Chains.counts_of" s_Chains_counts_of (He.fAd K ("Chains", some "counts_of")) fd_Chains_counts_of := He5.fun_of G_Chains_counts_of
  obtain ⟨fd_Chains_lowest, G_Chains_lowest⟩ := c.def_ 57 (d := dd_Chains_lowest) rfl
  have F_Chains_lowest : Fun K "lowest" "Chains.lowest" s_Chains_lowest (He.fAd K ("Chains", some "lowest")) fd_Chains_lowest := He5.fun_of G_Chains_lowest
  obtain ⟨fd_Chains_thing_of, G_Chains_thing_of⟩ := c.def_ 58 (d := dd_Chains_thing_of) rfl
  have F_Chains_thing_of : Fun K "thing_of" "Chains.thing_of" s_Chains_thing_of (He.fAd K ("Chains", some "thing_of")) fd_Chains_thing_of := He5.fun_of G_Chains_thing_of
  obtain ⟨fd_Chains_thing_apart, G_Chains_thing_apart⟩ := c.def_ 59 (d := dd_Chains_thing_apart) rfl
  have F_Chains_thing_apart : Fun K "thing_apart" "Chains.thing_apart" s_Chains_thing_apart (He.fAd K ("Chains", some "thing_apart")) fd_Chains_thing_apart := He5.fun_of G_Chains_thing_apart
  obtain ⟨fd_Chains_come_to, G_Chains_come_to⟩ := c.def_ 60 (d := dd_Chains_come_to) rfl
  have F_Chains_come_to : Fun K "come_to" "Chains.come_to" s_Chains_come_to (He.fAd K ("Chains", some "come_to")) fd_Chains_come_to := He5.fun_of G_Chains_come_to
  obtain ⟨fd_Kind_init, G_Kind_init⟩ := c.def_ 61 (d := dd_Kind_init) rfl
  have F_Kind_init : Fun K "__init__" "Kind.__init__" s_Kind_init (He.fAd K ("Kind", some "__init__")) fd_Kind_init := He5.fun_of G_Kind_init
  obtain ⟨fd_Some_init, G_Some_init⟩ := c.def_ 62 (d := dd_Some_init) rfl
  have F_Some_init : Fun K "__init__" "Some.__init__" s_Some_init (He.fAd K ("Some", some "__init__")) fd_Some_init := He5.fun_of G_Some_init
  obtain ⟨fd_Some_shows, G_Some_shows⟩ := c.def_ 63 (d := dd_Some_shows) rfl
  have F_Some_shows : Fun K "shows" "Some.shows" s_Some_shows (He.fAd K ("Some", some "shows")) fd_Some_shows := He5.fun_of G_Some_shows
  obtain ⟨fd_Ring_init, G_Ring_init⟩ := c.def_ 64 (d := dd_Ring_init) rfl
  have F_Ring_init : Fun K "__init__" "Ring.__init__" s_Ring_init (He.fAd K ("Ring", some "__init__")) fd_Ring_init := He5.fun_of G_Ring_init
  obtain ⟨fd_Ring_shows, G_Ring_shows⟩ := c.def_ 65 (d := dd_Ring_shows) rfl
  have F_Ring_shows : Fun K "shows" "Ring.shows" s_Ring_shows (He.fAd K ("Ring", some "shows")) fd_Ring_shows := He5.fun_of G_Ring_shows
  obtain ⟨fd_Most_init, G_Most_init⟩ := c.def_ 66 (d := dd_Most_init) rfl
  have F_Most_init : Fun K "__init__" "Most.__init__" s_Most_init (He.fAd K ("Most", some "__init__")) fd_Most_init := He5.fun_of G_Most_init
  obtain ⟨fd_Most_shows, G_Most_shows⟩ := c.def_ 67 (d := dd_Most_shows) rfl
  have F_Most_shows : Fun K "shows" "Most.shows" s_Most_shows (He.fAd K ("Most", some "shows")) fd_Most_shows := He5.fun_of G_Most_shows
  obtain ⟨fd_Free_init, G_Free_init⟩ := c.def_ 68 (d := dd_Free_init) rfl
  have F_Free_init : Fun K "__init__" "Free.__init__" s_Free_init (He.fAd K ("Free", some "__init__")) fd_Free_init := He5.fun_of G_Free_init
  obtain ⟨fd_Free_shows, G_Free_shows⟩ := c.def_ 69 (d := dd_Free_shows) rfl
  have F_Free_shows : Fun K "shows" "Free.shows" s_Free_shows (He.fAd K ("Free", some "shows")) fd_Free_shows := He5.fun_of G_Free_shows
  obtain ⟨fd_Keeps_init, G_Keeps_init⟩ := c.def_ 70 (d := dd_Keeps_init) rfl
  have F_Keeps_init : Fun K "__init__" "Keeps.__init__" s_Keeps_init (He.fAd K ("Keeps", some "__init__")) fd_Keeps_init := He5.fun_of G_Keeps_init
  obtain ⟨fd_Keeps_shows, G_Keeps_shows⟩ := c.def_ 71 (d := dd_Keeps_shows) rfl
  have F_Keeps_shows : Fun K "shows" "Keeps.shows" s_Keeps_shows (He.fAd K ("Keeps", some "shows")) fd_Keeps_shows := He5.fun_of G_Keeps_shows
  obtain ⟨fd_Strays_init, G_Strays_init⟩ := c.def_ 72 (d := dd_Strays_init) rfl
  have F_Strays_init : Fun K "__init__" "Strays.__init__" s_Strays_init (He.fAd K ("Strays", some "__init__")) fd_Strays_init := He5.fun_of G_Strays_init
  obtain ⟨fd_Strays_shows, G_Strays_shows⟩ := c.def_ 73 (d := dd_Strays_shows) rfl
  have F_Strays_shows : Fun K "shows" "Strays.shows" s_Strays_shows (He.fAd K ("Strays", some "shows")) fd_Strays_shows := He5.fun_of G_Strays_shows
  obtain ⟨fd_Led_init, G_Led_init⟩ := c.def_ 74 (d := dd_Led_init) rfl
  have F_Led_init : Fun K "__init__" "Led.__init__" s_Led_init (He.fAd K ("Led", some "__init__")) fd_Led_init := He5.fun_of G_Led_init
  obtain ⟨fd_Led_shows, G_Led_shows⟩ := c.def_ 75 (d := dd_Led_shows) rfl
  have F_Led_shows : Fun K "shows" "Led.shows" s_Led_shows (He.fAd K ("Led", some "shows")) fd_Led_shows := He5.fun_of G_Led_shows
  obtain ⟨fd_Bound_init, G_Bound_init⟩ := c.def_ 76 (d := dd_Bound_init) rfl
  have F_Bound_init : Fun K "__init__" "Bound.__init__" s_Bound_init (He.fAd K ("Bound", some "__init__")) fd_Bound_init := He5.fun_of G_Bound_init
  obtain ⟨fd_Bound_shows, G_Bound_shows⟩ := c.def_ 77 (d := dd_Bound_shows) rfl
  have F_Bound_shows : Fun K "shows" "Bound.shows" s_Bound_shows (He.fAd K ("Bound", some "shows")) fd_Bound_shows := He5.fun_of G_Bound_shows
  obtain ⟨t_MUCH, c_MUCH⟩ := He.int_ok X G (c.fact 145 rfl)
  obtain ⟨t_LETTERS, c_LETTERS⟩ := He.str_ok X G (c.fact 146 rfl)
  obtain ⟨t_MOST_FIELDS, c_MOST_FIELDS⟩ := He.int_ok X G (c.fact 147 rfl)
  obtain ⟨t_MOST_CHECKS, c_MOST_CHECKS⟩ := He.int_ok X G (c.fact 148 rfl)
  obtain ⟨t_FARTHEST, c_FARTHEST⟩ := He.int_ok X G (c.fact 149 rfl)
  obtain ⟨t_FAR, c_FAR⟩ := He.int_ok X G (c.fact 150 rfl)
  exact ⟨{
    is_number := ⟨_, _, F_is_number, He.glo_ok X G (c.fact 0 rfl), F_is_number.binds (ps := ["thing"]) fun _ _ _ _ _ _ us hl => match us, hl with | [_], _ => rfl⟩
    is_name := ⟨_, _, F_is_name, He.glo_ok X G (c.fact 1 rfl), F_is_name.binds (ps := ["thing"]) fun _ _ _ _ _ _ us hl => match us, hl with | [_], _ => rfl⟩
    is_end := ⟨_, _, F_is_end, He.glo_ok X G (c.fact 2 rfl), F_is_end.binds (ps := ["thing", "fields"]) fun _ _ _ _ _ _ us hl => match us, hl with | [_, _], _ => rfl⟩
    is_check := ⟨_, _, F_is_check, He.glo_ok X G (c.fact 3 rfl), F_is_check.binds (ps := ["thing", "fields"]) fun _ _ _ _ _ _ us hl => match us, hl with | [_, _], _ => rfl⟩
    is_thing := ⟨_, _, F_is_thing, He.glo_ok X G (c.fact 4 rfl), F_is_thing.binds (ps := ["thing", "row"]) fun _ _ _ _ _ _ us hl => match us, hl with | [_, _], _ => rfl⟩
    number_at := ⟨_, _, F_number_at, He.glo_ok X G (c.fact 5 rfl), F_number_at.binds (ps := ["thing", "end"]) fun _ _ _ _ _ _ us hl => match us, hl with | [_, _], _ => rfl⟩
    is_so := ⟨_, _, F_is_so, He.glo_ok X G (c.fact 6 rfl), F_is_so.binds (ps := ["check", "thing"]) fun _ _ _ _ _ _ us hl => match us, hl with | [_, _], _ => rfl⟩
    first_wrong := ⟨_, _, F_first_wrong, He.glo_ok X G (c.fact 7 rfl), F_first_wrong.binds (ps := ["rules", "thing"]) fun _ _ _ _ _ _ us hl => match us, hl with | [_, _], _ => rfl⟩
    leads_on := ⟨_, _, F_leads_on, He.glo_ok X G (c.fact 8 rfl), F_leads_on.binds (ps := ["rules", "counts"]) fun _ _ _ _ _ _ us hl => match us, hl with | [_, _], _ => rfl⟩
    is_chain := ⟨_, _, F_is_chain, He.glo_ok X G (c.fact 9 rfl), F_is_chain.binds (ps := ["rules", "counts", "one", "other"]) fun _ _ _ _ _ _ us hl => match us, hl with | [_, _, _, _], _ => rfl⟩
    is_ring := ⟨_, _, F_is_ring, He.glo_ok X G (c.fact 10 rfl), F_is_ring.binds (ps := ["rules", "counts"]) fun _ _ _ _ _ _ us hl => match us, hl with | [_, _], _ => rfl⟩
    sum_of := ⟨_, _, F_sum_of, He.glo_ok X G (c.fact 11 rfl), F_sum_of.binds (ps := ["rules", "counts"]) fun _ _ _ _ _ _ us hl => match us, hl with | [_, _], _ => rfl⟩
    has_things := ⟨_, _, F_has_things, He.glo_ok X G (c.fact 12 rfl), F_has_things.binds (ps := ["kind"]) fun _ _ _ _ _ _ us hl => match us, hl with | [_], _ => rfl⟩
    is_good := ⟨_, _, F_is_good, He.glo_ok X G (c.fact 13 rfl), F_is_good.binds (ps := ["kind", "thing"]) fun _ _ _ _ _ _ us hl => match us, hl with | [_, _], _ => rfl⟩
    full_chains := ⟨_, _, F_full_chains, He.glo_ok X G (c.fact 14 rfl), F_full_chains.binds (ps := ["kind"]) fun _ _ _ _ _ _ us hl => match us, hl with | [_], _ => rfl⟩
    farthest := ⟨_, _, F_farthest, He.glo_ok X G (c.fact 15 rfl), F_farthest.binds (ps := ["kind", "one", "other"]) fun _ _ _ _ _ _ us hl => match us, hl with | [_, _, _], _ => rfl⟩
    check_things := ⟨_, _, F_check_things, He.glo_ok X G (c.fact 16 rfl), F_check_things.binds (ps := ["kind", "things"]) fun _ _ _ _ _ _ us hl => match us, hl with | [_, _], _ => rfl⟩
    binding := ⟨_, _, F_binding, He.glo_ok X G (c.fact 17 rfl), F_binding.binds (ps := ["chains", "field"]) fun _ _ _ _ _ _ us hl => match us, hl with | [_, _], _ => rfl⟩
    lowest_for := ⟨_, _, F_lowest_for, He.glo_ok X G (c.fact 18 rfl), F_lowest_for.binds (ps := ["kind", "here", "field"]) fun _ _ _ _ _ _ us hl => match us, hl with | [_, _, _], _ => rfl⟩
    highest_for := ⟨_, _, F_highest_for, He.glo_ok X G (c.fact 19 rfl), F_highest_for.binds (ps := ["kind", "here", "field"]) fun _ _ _ _ _ _ us hl => match us, hl with | [_, _, _], _ => rfl⟩
    lowered := ⟨_, _, F_lowered, He.glo_ok X G (c.fact 20 rfl), F_lowered.binds (ps := ["kind", "here", "goal", "sets"]) fun _ _ _ _ _ _ us hl => match us, hl with | [_, _, _, _], _ => rfl⟩
    raised := ⟨_, _, F_raised, He.glo_ok X G (c.fact 21 rfl), F_raised.binds (ps := ["kind", "here", "goal", "sets"]) fun _ _ _ _ _ _ us hl => match us, hl with | [_, _, _, _], _ => rfl⟩
    led := ⟨_, _, F_led, He.glo_ok X G (c.fact 22 rfl), F_led.binds (ps := ["kind", "thing", "there"]) fun _ _ _ _ _ _ us hl => match us, hl with | [_, _, _], _ => rfl⟩
    _law_cell_at := ⟨_, _, F__law_cell_at, He.glo_ok X G (c.fact 23 rfl), F__law_cell_at.binds (ps := ["_law_script", "_law_k"]) fun _ _ _ _ _ _ us hl => match us, hl with | [_, _], _ => rfl⟩
    _law_draw := ⟨_, _, F__law_draw, He.glo_ok X G (c.fact 24 rfl), F__law_draw.binds (ps := ["_law_cell", "_law_k", "_law_most"]) fun _ _ _ _ _ _ us hl => match us, hl with | [_, _, _], _ => rfl⟩
    _law_number := ⟨_, _, F__law_number, He.glo_ok X G (c.fact 25 rfl), F__law_number.binds (ps := ["_law_cell", "_law_k", "_law_limit"]) fun _ _ _ _ _ _ us hl => match us, hl with | [_, _, _], _ => rfl⟩
    _law_next := ⟨_, _, F__law_next, He.glo_ok X G (c.fact 26 rfl), F__law_next.binds (ps := ["_law_state", "_law_limit"]) fun _ _ _ _ _ _ us hl => match us, hl with | [_, _], _ => rfl⟩
    _law_fields := ⟨_, _, F__law_fields, He.glo_ok X G (c.fact 27 rfl), F__law_fields.binds (ps := ["_law_state"]) fun _ _ _ _ _ _ us hl => match us, hl with | [_], _ => rfl⟩
    _law_checks := ⟨_, _, F__law_checks, He.glo_ok X G (c.fact 28 rfl), F__law_checks.binds (ps := ["_law_state", "_law_fields_here", "_law_many", "_law_thing_here"]) fun _ _ _ _ _ _ us hl => match us, hl with | [_, _, _, _], _ => rfl⟩
    _law_thing := ⟨_, _, F__law_thing, He.glo_ok X G (c.fact 29 rfl), F__law_thing.binds (ps := ["_law_state", "_law_fields_here", "_law_far"]) fun _ _ _ _ _ _ us hl => match us, hl with | [_, _, _], _ => rfl⟩
    _law_at := ⟨_, _, F__law_at, He.glo_ok X G (c.fact 30 rfl), F__law_at.binds (ps := ["_law_thing_here", "_law_end"]) fun _ _ _ _ _ _ us hl => match us, hl with | [_, _], _ => rfl⟩
    _law_wrong := ⟨_, _, F__law_wrong, He.glo_ok X G (c.fact 31 rfl), F__law_wrong.binds (ps := ["_law_checks_here", "_law_thing_here"]) fun _ _ _ _ _ _ us hl => match us, hl with | [_, _], _ => rfl⟩
    _law_sums := ⟨_, _, F__law_sums, He.glo_ok X G (c.fact 32 rfl), F__law_sums.binds (ps := ["_law_fields_here", "_law_checks_here", "_law_start"]) fun _ _ _ _ _ _ us hl => match us, hl with | [_, _, _], _ => rfl⟩
    _law_has := ⟨_, _, F__law_has, He.glo_ok X G (c.fact 33 rfl), F__law_has.binds (ps := ["_law_fields_here", "_law_checks_here"]) fun _ _ _ _ _ _ us hl => match us, hl with | [_, _], _ => rfl⟩
    _law_leads := ⟨_, _, F__law_leads, He.glo_ok X G (c.fact 34 rfl), F__law_leads.binds (ps := ["_law_checks_here", "_law_counts"]) fun _ _ _ _ _ _ us hl => match us, hl with | [_, _], _ => rfl⟩
    _law_total := ⟨_, _, F__law_total, He.glo_ok X G (c.fact 35 rfl), F__law_total.binds (ps := ["_law_checks_here", "_law_counts"]) fun _ _ _ _ _ _ us hl => match us, hl with | [_, _], _ => rfl⟩
    _law_chain := ⟨_, _, F__law_chain, He.glo_ok X G (c.fact 36 rfl), F__law_chain.binds (ps := ["_law_checks_here", "_law_counts", "_law_one", "_law_other"]) fun _ _ _ _ _ _ us hl => match us, hl with | [_, _, _, _], _ => rfl⟩
    _law_ring := ⟨_, _, F__law_ring, He.glo_ok X G (c.fact 37 rfl), F__law_ring.binds (ps := ["_law_checks_here", "_law_counts"]) fun _ _ _ _ _ _ us hl => match us, hl with | [_, _], _ => rfl⟩
    _law_is_thing := ⟨_, _, F__law_is_thing, He.glo_ok X G (c.fact 38 rfl), F__law_is_thing.binds (ps := ["_law_fields_here", "_law_thing_here"]) fun _ _ _ _ _ _ us hl => match us, hl with | [_, _], _ => rfl⟩
    _law_good := ⟨_, _, F__law_good, He.glo_ok X G (c.fact 39 rfl), F__law_good.binds (ps := ["_law_fields_here", "_law_checks_here", "_law_thing_here"]) fun _ _ _ _ _ _ us hl => match us, hl with | [_, _, _], _ => rfl⟩
    _law_led := ⟨_, _, F__law_led, He.glo_ok X G (c.fact 40 rfl), F__law_led.binds (ps := ["_law_fields_here", "_law_checks_here", "_law_thing_here", "_law_there", "_law_found"]) fun _ _ _ _ _ _ us hl => match us, hl with | [_, _, _, _, _], _ => rfl⟩
    _law_bound := ⟨_, _, F__law_bound, He.glo_ok X G (c.fact 41 rfl), F__law_bound.binds (ps := ["_law_fields_here", "_law_checks_here", "_law_thing_here", "_law_there", "_law_found"]) fun _ _ _ _ _ _ us hl => match us, hl with | [_, _, _, _, _], _ => rfl⟩
    _law_near := ⟨_, _, F__law_near, He.glo_ok X G (c.fact 42 rfl), F__law_near.binds (ps := ["_law_state", "_law_fields_here", "_law_checks_here", "_law_thing_here"]) fun _ _ _ _ _ _ us hl => match us, hl with | [_, _, _, _], _ => rfl⟩
    _law_lists := ⟨_, _, F__law_lists, He.glo_ok X G (c.fact 43 rfl), F__law_lists.binds (ps := ["_law_state", "_law_counts", "_law_many"]) fun _ _ _ _ _ _ us hl => match us, hl with | [_, _, _], _ => rfl⟩
    _law_things := ⟨_, _, F__law_things, He.glo_ok X G (c.fact 44 rfl), F__law_things.binds (ps := ["_law_thing_here", "_law_fields_here"]) fun _ _ _ _ _ _ us hl => match us, hl with | [_, _], _ => rfl⟩
    _law_rings_right := ⟨_, _, F__law_rings_right, He.glo_ok X G (c.fact 45 rfl), F__law_rings_right.binds (ps := ["_law_state", "_law_fields_here", "_law_checks_here", "_law_thing_here"]) fun _ _ _ _ _ _ us hl => match us, hl with | [_, _, _, _], _ => rfl⟩
    _law_most_due := ⟨_, _, F__law_most_due, He.glo_ok X G (c.fact 46 rfl), F__law_most_due.binds (ps := ["_law_fields_here", "_law_checks_here", "_law_one", "_law_other", "_law_found"]) fun _ _ _ _ _ _ us hl => match us, hl with | [_, _, _, _, _], _ => rfl⟩
    _law_free_due := ⟨_, _, F__law_free_due, He.glo_ok X G (c.fact 47 rfl), F__law_free_due.binds (ps := ["_law_fields_here", "_law_checks_here", "_law_one", "_law_other", "_law_lot"]) fun _ _ _ _ _ _ us hl => match us, hl with | [_, _, _, _, _], _ => rfl⟩
    _law_ends_right := ⟨_, _, F__law_ends_right, He.glo_ok X G (c.fact 48 rfl), F__law_ends_right.binds (ps := ["_law_state", "_law_fields_here", "_law_checks_here", "_law_one", "_law_other"]) fun _ _ _ _ _ _ us hl => match us, hl with | [_, _, _, _, _], _ => rfl⟩
    _law_kept_right := ⟨_, _, F__law_kept_right, He.glo_ok X G (c.fact 49 rfl), F__law_kept_right.binds (ps := ["_law_state", "_law_fields_here", "_law_checks_here", "_law_other", "_law_thing_here"]) fun _ _ _ _ _ _ us hl => match us, hl with | [_, _, _, _, _], _ => rfl⟩
    _law_sets_right := ⟨_, _, F__law_sets_right, He.glo_ok X G (c.fact 50 rfl), F__law_sets_right.binds (ps := ["_law_state", "_law_fields_here", "_law_checks_here", "_law_thing_here", "_law_there"]) fun _ _ _ _ _ _ us hl => match us, hl with | [_, _, _, _, _], _ => rfl⟩
    law := ⟨_, _, F_law, He.glo_ok X G (c.fact 51 rfl), F_law.binds (ps := ["_law_script"]) fun _ _ _ _ _ _ us hl => match us, hl with | [_], _ => rfl⟩
    Chains_init := ⟨_, _, F_Chains_init, He.meth_ok (c.fact 52 rfl), F_Chains_init.binds (ps := ["self", "kind"]) fun _ _ _ _ _ _ us hl => match us, hl with | [_, _], _ => rfl⟩
    mk_Chains := He.mkr_ok (c.fact 53 rfl)
    Chains_better := ⟨_, _, F_Chains_better, He.meth_ok (c.fact 54 rfl), F_Chains_better.binds (ps := ["self", "pair", "total", "counts"]) fun _ _ _ _ _ _ us hl => match us, hl with | [_, _, _, _], _ => rfl⟩
    Chains_join := ⟨_, _, F_Chains_join, He.meth_ok (c.fact 55 rfl), F_Chains_join.binds (ps := ["self", "middle"]) fun _ _ _ _ _ _ us hl => match us, hl with | [_, _], _ => rfl⟩
    Chains_sum_of := ⟨_, _, F_Chains_sum_of, He.meth_ok (c.fact 56 rfl), F_Chains_sum_of.binds (ps := ["self", "one", "other"]) fun _ _ _ _ _ _ us hl => match us, hl with | [_, _, _], _ => rfl⟩
    Chains_counts_of := ⟨_, _, F_Chains_counts_of, He.meth_ok (c.fact 57 rfl), F_Chains_counts_of.binds (ps := ["self", "one", "other"]) fun _ _ _ _ _ _ us hl => match us, hl with | [_, _, _], _ => rfl⟩
    Chains_lowest := ⟨_, _, F_Chains_lowest, He.meth_ok (c.fact 58 rfl), F_Chains_lowest.binds (ps := ["self", "one"]) fun _ _ _ _ _ _ us hl => match us, hl with | [_, _], _ => rfl⟩
    Chains_thing_of := ⟨_, _, F_Chains_thing_of, He.meth_ok (c.fact 59 rfl), F_Chains_thing_of.binds (ps := ["self", "numbers"]) fun _ _ _ _ _ _ us hl => match us, hl with | [_, _], _ => rfl⟩
    Chains_thing_apart := ⟨_, _, F_Chains_thing_apart, He.meth_ok (c.fact 60 rfl), F_Chains_thing_apart.binds (ps := ["self", "other"]) fun _ _ _ _ _ _ us hl => match us, hl with | [_, _], _ => rfl⟩
    Chains_come_to := ⟨_, _, F_Chains_come_to, He.meth_ok (c.fact 61 rfl), F_Chains_come_to.binds (ps := ["self", "one"]) fun _ _ _ _ _ _ us hl => match us, hl with | [_, _], _ => rfl⟩
    Kind_init := ⟨_, _, F_Kind_init, He.meth_ok (c.fact 62 rfl), F_Kind_init.binds (ps := ["self", "fields", "checks"]) fun _ _ _ _ _ _ us hl => match us, hl with | [_, _, _], _ => rfl⟩
    mk_Kind := He.mkr_ok (c.fact 63 rfl)
    Some_init := ⟨_, _, F_Some_init, He.meth_ok (c.fact 64 rfl), F_Some_init.binds (ps := ["self", "thing"]) fun _ _ _ _ _ _ us hl => match us, hl with | [_, _], _ => rfl⟩
    mk_Some := He.mkr_ok (c.fact 65 rfl)
    Some_shows := ⟨_, _, F_Some_shows, He.meth_ok (c.fact 66 rfl), F_Some_shows.binds (ps := ["self", "kind"]) fun _ _ _ _ _ _ us hl => match us, hl with | [_, _], _ => rfl⟩
    Ring_init := ⟨_, _, F_Ring_init, He.meth_ok (c.fact 67 rfl), F_Ring_init.binds (ps := ["self", "counts"]) fun _ _ _ _ _ _ us hl => match us, hl with | [_, _], _ => rfl⟩
    mk_Ring := He.mkr_ok (c.fact 68 rfl)
    Ring_shows := ⟨_, _, F_Ring_shows, He.meth_ok (c.fact 69 rfl), F_Ring_shows.binds (ps := ["self", "kind"]) fun _ _ _ _ _ _ us hl => match us, hl with | [_, _], _ => rfl⟩
    Most_init := ⟨_, _, F_Most_init, He.meth_ok (c.fact 70 rfl), F_Most_init.binds (ps := ["self", "number", "counts", "thing"]) fun _ _ _ _ _ _ us hl => match us, hl with | [_, _, _, _], _ => rfl⟩
    mk_Most := He.mkr_ok (c.fact 71 rfl)
    Most_shows := ⟨_, _, F_Most_shows, He.meth_ok (c.fact 72 rfl), F_Most_shows.binds (ps := ["self", "kind", "one", "other"]) fun _ _ _ _ _ _ us hl => match us, hl with | [_, _, _, _], _ => rfl⟩
    Free_init := ⟨_, _, F_Free_init, He.meth_ok (c.fact 73 rfl), F_Free_init.binds (ps := ["self", "lot"]) fun _ _ _ _ _ _ us hl => match us, hl with | [_, _], _ => rfl⟩
    mk_Free := He.mkr_ok (c.fact 74 rfl)
    Free_shows := ⟨_, _, F_Free_shows, He.meth_ok (c.fact 75 rfl), F_Free_shows.binds (ps := ["self", "kind", "one", "other"]) fun _ _ _ _ _ _ us hl => match us, hl with | [_, _, _, _], _ => rfl⟩
    Keeps_init := ⟨_, _, F_Keeps_init, He.meth_ok (c.fact 76 rfl), F_Keeps_init.binds (ps := ["self", "chains"]) fun _ _ _ _ _ _ us hl => match us, hl with | [_, _], _ => rfl⟩
    mk_Keeps := He.mkr_ok (c.fact 77 rfl)
    Keeps_shows := ⟨_, _, F_Keeps_shows, He.meth_ok (c.fact 78 rfl), F_Keeps_shows.binds (ps := ["self", "kind", "other"]) fun _ _ _ _ _ _ us hl => match us, hl with | [_, _, _], _ => rfl⟩
    Strays_init := ⟨_, _, F_Strays_init, He.meth_ok (c.fact 79 rfl), F_Strays_init.binds (ps := ["self", "thing", "at"]) fun _ _ _ _ _ _ us hl => match us, hl with | [_, _, _], _ => rfl⟩
    mk_Strays := He.mkr_ok (c.fact 80 rfl)
    Strays_shows := ⟨_, _, F_Strays_shows, He.meth_ok (c.fact 81 rfl), F_Strays_shows.binds (ps := ["self", "kind", "other"]) fun _ _ _ _ _ _ us hl => match us, hl with | [_, _, _], _ => rfl⟩
    Led_init := ⟨_, _, F_Led_init, He.meth_ok (c.fact 82 rfl), F_Led_init.binds (ps := ["self", "sets"]) fun _ _ _ _ _ _ us hl => match us, hl with | [_, _], _ => rfl⟩
    mk_Led := He.mkr_ok (c.fact 83 rfl)
    Led_shows := ⟨_, _, F_Led_shows, He.meth_ok (c.fact 84 rfl), F_Led_shows.binds (ps := ["self", "kind", "thing", "there"]) fun _ _ _ _ _ _ us hl => match us, hl with | [_, _, _, _], _ => rfl⟩
    Bound_init := ⟨_, _, F_Bound_init, He.meth_ok (c.fact 85 rfl), F_Bound_init.binds (ps := ["self", "field", "counts"]) fun _ _ _ _ _ _ us hl => match us, hl with | [_, _, _], _ => rfl⟩
    mk_Bound := He.mkr_ok (c.fact 86 rfl)
    Bound_shows := ⟨_, _, F_Bound_shows, He.meth_ok (c.fact 87 rfl), F_Bound_shows.binds (ps := ["self", "kind", "thing", "there"]) fun _ _ _ _ _ _ us hl => match us, hl with | [_, _, _, _], _ => rfl⟩
    Chains := ⟨He.ga K "Chains", He.glo_ok X G (c.fact 88 rfl), He.cls_ok (c.fact 89 rfl), ins_of (He.cls_ok (c.fact 89 rfl)) (c.more 1 rfl) (c.more 0 rfl)⟩
    Kind := ⟨He.ga K "Kind", He.glo_ok X G (c.fact 90 rfl), He.cls_ok (c.fact 91 rfl), ins_of (He.cls_ok (c.fact 91 rfl)) (c.more 2 rfl) (c.more 0 rfl)⟩
    Some := ⟨He.ga K "Some", He.glo_ok X G (c.fact 92 rfl), He.cls_ok (c.fact 93 rfl), ins_of (He.cls_ok (c.fact 93 rfl)) (c.more 3 rfl) (c.more 0 rfl)⟩
    Ring := ⟨He.ga K "Ring", He.glo_ok X G (c.fact 94 rfl), He.cls_ok (c.fact 95 rfl), ins_of (He.cls_ok (c.fact 95 rfl)) (c.more 4 rfl) (c.more 0 rfl)⟩
    Most := ⟨He.ga K "Most", He.glo_ok X G (c.fact 96 rfl), He.cls_ok (c.fact 97 rfl), ins_of (He.cls_ok (c.fact 97 rfl)) (c.more 5 rfl) (c.more 0 rfl)⟩
    Free := ⟨He.ga K "Free", He.glo_ok X G (c.fact 98 rfl), He.cls_ok (c.fact 99 rfl), ins_of (He.cls_ok (c.fact 99 rfl)) (c.more 6 rfl) (c.more 0 rfl)⟩
    Keeps := ⟨He.ga K "Keeps", He.glo_ok X G (c.fact 100 rfl), He.cls_ok (c.fact 101 rfl), ins_of (He.cls_ok (c.fact 101 rfl)) (c.more 7 rfl) (c.more 0 rfl)⟩
    Strays := ⟨He.ga K "Strays", He.glo_ok X G (c.fact 102 rfl), He.cls_ok (c.fact 103 rfl), ins_of (He.cls_ok (c.fact 103 rfl)) (c.more 8 rfl) (c.more 0 rfl)⟩
    Led := ⟨He.ga K "Led", He.glo_ok X G (c.fact 104 rfl), He.cls_ok (c.fact 105 rfl), ins_of (He.cls_ok (c.fact 105 rfl)) (c.more 9 rfl) (c.more 0 rfl)⟩
    Bound := ⟨He.ga K "Bound", He.glo_ok X G (c.fact 106 rfl), He.cls_ok (c.fact 107 rfl), ins_of (He.cls_ok (c.fact 107 rfl)) (c.more 10 rfl) (c.more 0 rfl)⟩
    n_Chains_ends := He.noat_ok (c.fact 108 rfl)
    n_Chains_rules := He.noat_ok (c.fact 109 rfl)
    n_Chains_table := He.noat_ok (c.fact 110 rfl)
    n_Chains_ring := He.noat_ok (c.fact 111 rfl)
    n_Kind_row := He.noat_ok (c.fact 112 rfl)
    n_Kind_rules := He.noat_ok (c.fact 113 rfl)
    n_Some_thing := He.noat_ok (c.fact 114 rfl)
    n_Ring_counts := He.noat_ok (c.fact 115 rfl)
    n_Most_number := He.noat_ok (c.fact 116 rfl)
    n_Most_counts := He.noat_ok (c.fact 117 rfl)
    n_Most_thing := He.noat_ok (c.fact 118 rfl)
    n_Free_lot := He.noat_ok (c.fact 119 rfl)
    n_Keeps_chains := He.noat_ok (c.fact 120 rfl)
    n_Strays_thing := He.noat_ok (c.fact 121 rfl)
    n_Strays_at := He.noat_ok (c.fact 122 rfl)
    n_Led_sets := He.noat_ok (c.fact 123 rfl)
    n_Bound_field := He.noat_ok (c.fact 124 rfl)
    n_Bound_counts := He.noat_ok (c.fact 125 rfl)
    i_Most_Most := isiB_ok (c.more 11 rfl)
    i_Free_Most := isiB_ok (c.more 12 rfl)
    i_Most_Free := isiB_ok (c.more 13 rfl)
    i_Free_Free := isiB_ok (c.more 14 rfl)
    i_Led_Led := isiB_ok (c.more 15 rfl)
    i_Bound_Led := isiB_ok (c.more 16 rfl)
    i_Led_Bound := isiB_ok (c.more 17 rfl)
    i_Bound_Bound := isiB_ok (c.more 18 rfl)
    b_abs := He.free_ok X G (c.fact 126 rfl)
    b_all := He.free_ok X G (c.fact 127 rfl)
    b_any := He.free_ok X G (c.fact 128 rfl)
    b_bool := He.free_ok X G (c.fact 129 rfl)
    b_dict := He.free_ok X G (c.fact 130 rfl)
    b_enumerate := He.free_ok X G (c.fact 131 rfl)
    b_int := He.free_ok X G (c.fact 132 rfl)
    b_isinstance := He.free_ok X G (c.fact 133 rfl)
    b_len := He.free_ok X G (c.fact 134 rfl)
    b_list := He.free_ok X G (c.fact 135 rfl)
    b_max := He.free_ok X G (c.fact 136 rfl)
    b_min := He.free_ok X G (c.fact 137 rfl)
    b_range := He.free_ok X G (c.fact 138 rfl)
    b_set := He.free_ok X G (c.fact 139 rfl)
    b_sorted := He.free_ok X G (c.fact 140 rfl)
    b_str := He.free_ok X G (c.fact 141 rfl)
    b_sum := He.free_ok X G (c.fact 142 rfl)
    b_tuple := He.free_ok X G (c.fact 143 rfl)
    b_zip := He.free_ok X G (c.fact 144 rfl)
    t_MUCH := t_MUCH
    c_MUCH := c_MUCH
    t_LETTERS := t_LETTERS
    c_LETTERS := c_LETTERS
    t_MOST_FIELDS := t_MOST_FIELDS
    c_MOST_FIELDS := c_MOST_FIELDS
    t_MOST_CHECKS := t_MOST_CHECKS
    c_MOST_CHECKS := c_MOST_CHECKS
    t_FARTHEST := t_FARTHEST
    c_FARTHEST := c_FARTHEST
    t_FAR := t_FAR
    c_FAR := c_FAR
    law_b1 := fun s v => FunD.bindsA (ps := ["_law_script"]) G_law (fun _ _ _ _ _ _ us hl => match us, hl with | [_], _ => rfl) s [v] rfl }⟩
end FK
open PySem PySem.W PySem.Calls PyProof.Rows in
set_option maxRecDepth 100000 in
set_option maxHeartbeats 0 in
theorem PySem.Challenge.cw_fieldkinds_k05_answers_by_hand_holds : PySem.Challenge.rw_fieldkinds_k05_answers_by_hand.Holds := by
  w_on; o_law
  refine HandSHeadRun.head_any (r := FK.hR) (q := FK.hq) (H := FK.hookF FK.had FK.hfa FK.hex FK.hfn) (ob := FK.obF FK.had FK.hfa FK.hex FK.hfn) (M := 9000) (loose := FK.hnames) (d := HandSHeadRun.topDef FK.hR.prog 83) (kwd := []) FK.obF_eq (by kernel_rfl) (fun s => by kernel_rfl) FK.hrun (by kernel_rfl) (by kernel_rfl) (by kernel_rfl) (by rfl) (by first | assumption | decide +kernel) (by decide +kernel) ⟨rfl, rfl, rfl, rfl, rfl, by decide +kernel⟩ ?hw ?hc
  case hw => w_witness2
  case hc =>
    refine FK.walk_ofGE (lw := PySem.Challenge.rw_fieldkinds_k05_answers_by_hand) (m := 63) (k := 8) (x := "_law_script") rfl (by decide) (by kernel_rfl) ⟨rfl, by decide, by decide⟩ ?Fc
    intro w mg fa h Y G hmg0
    obtain ⟨K, KX, c⟩ := Y
    have hmg : mg ("law" : PySem.Str) = some (.ref fa) := by
      have e : (HandSHeadRun.topDef FK.hR.prog 83).name = ("law" : PySem.Str) := by kernel_rfl
      rw [← e]
      exact hmg0
    obtain ⟨T⟩ := FK.tx_of KX G c
    have e := hmg.symm.trans T.law.g
    cases e
    exact ⟨K, T.law.fd, FK.spLaw K, KX, fun s u => T.law_b1 s u, fun H a ns hl hb hO hS => ⟨a, ns, rfl, hS, hl, fun _ => rfl⟩, fun base _ _ => FK.ok_law T⟩

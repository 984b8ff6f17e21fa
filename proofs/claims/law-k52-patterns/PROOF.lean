import PyProof.Rows.All
import Wide.All
import OpenK.AllK
import Wide.FinOn
import HandS.Deep
import HandS.DeepEq
import HandS.DictComp
import HandS.DictEq
import HandS.DictTup
import HandS.Ends
import HandS.FStr
import HandS.ForMost
import HandS.IsInst
import HandS.Iter
import HandS.ListEq
import HandS.OwnEq
import HandS.SetFor
import HandS.Style
import HandS.TupAny
import HandS.TupSets
import HandS.Words
import HandS.WordsDict
import HandS.WordsList
import KE.KDictDisplayH
import KE.KDictItemsList
import KE.KDictKeyed
import KE.KDictSum
import KE.KDictWalk
import KE.KDictZip
import KE.SortData
import PyProof.FString
import PyProof.FString4
import PyProof.NeKinds
import PyProof.ReprLen
import PyProof.ReprRoads
import PySem.Challenge.RW_wirewords_k52_whole_one_pattern_within_a
set_option Elab.async false
set_option linter.all false
set_option maxRecDepth 100000

set_option maxHeartbeats 2000000

/-! keys as data, dicts of any keys over the hand layer -/
namespace WW
open PySem PySem.Spec PyProof.Rows L2

/-! ### keys -/
mutual
def NV (H : Hp) : NestedKey → V → Prop
  | .none, v => v = .non
  | .num i, v => v = .int i
  | .text x, v => v = .str x
  | .tup ks, v => ∃ b xs, v = .ref b ∧ H b = some (.tup xs) ∧ NVs H ks xs
def NVs (H : Hp) : List NestedKey → List V → Prop
  | [], xs => xs = []
  | k :: ks, xs => ∃ x r, xs = x :: r ∧ NV H k x ∧ NVs H ks r
end
/-- tuples stay -/
def Tups (H H' : Hp) : Prop := ∀ b xs, H b = some (.tup xs) → H' b = some (.tup xs)
theorem Tups.of_same {H H' : Hp} (h : Same H H') : Tups H H' := fun b xs e => h b _ e
theorem Tups.upd {H : Hp} {a : Addr} {o : HO} (h : ∀ xs, H a ≠ some (.tup xs)) : Tups H (upd H a o) := fun b xs e => by
  rw [upd_ne]
  · exact e
  · rintro rfl
    exact h xs e
mutual
theorem NV.mono {H H' : Hp} (h : Tups H H') : ∀ (k : NestedKey) (v : V), NV H k v → NV H' k v
  | .none, _, x => x
  | .num _, _, x => x
  | .text _, _, x => x
  | .tup ks, _, x => by
    obtain ⟨b, xs, e, q, r⟩ := x
    exact ⟨b, xs, e, h _ _ q, NVs.mono h ks xs r⟩
theorem NVs.mono {H H' : Hp} (h : Tups H H') : ∀ (ks : List NestedKey) (vs : List V), NVs H ks vs → NVs H' ks vs
  | [], _, x => x
  | k :: ks, _, x => by
    obtain ⟨y, r, e, q, z⟩ := x
    exact ⟨y, r, e, NV.mono h k y q, NVs.mono h ks r z⟩
end
mutual
theorem NV.is {P : Program} {w : World} {H : Hp} {h : Heap} (ok : HOk P w H h) : ∀ (k : NestedKey) (v : V) (u : Value), NV H k v → RelV v u → NestedIs h k u
  | .none, _, u, x, r => by
    cases x
    cases (show u = Value.none from r)
    exact .none
  | .num i, _, u, x, r => by
    cases x
    obtain ⟨t, rfl⟩ := (show ∃ t, u = Value.int i t from r)
    exact .int i t
  | .text s, _, u, x, r => by
    cases x
    obtain ⟨t, rfl⟩ := (show ∃ t, u = Value.str s t from r)
    exact .text s t
  | .tup ks, _, u, x, r => by
    obtain ⟨b, xs, rfl, q, z⟩ := x
    cases (show u = Value.ref b from r)
    obtain ⟨_, its, rv, o, e1, e2, n, e3⟩ := (show ObjOk P w H h b (.tup xs) from ok b _ q)
    exact .tup e1 e2 e3 (NVs.is ok ks xs its z rv)
theorem NVs.is {P : Program} {w : World} {H : Hp} {h : Heap} (ok : HOk P w H h) : ∀ (ks : List NestedKey) (vs : List V) (us : List Value), NVs H ks vs → Vals vs us → NestedAll h ks us
  | [], _, us, x, r => by
    cases x
    cases r
    exact .nil
  | k :: ks, _, us, x, r => by
    obtain ⟨y, t, rfl, q, z⟩ := x
    cases r with
    | cons r1 r2 => exact .cons (NV.is ok k y _ q r1) (NVs.is ok ks t _ z r2)
end

/-! ### dicts -/
/-- the keys of a dict: whole numbers, or tuples -/
inductive Kd where
  | i | t
/-- the value is the key -/
def KeyV (kd : Kd) (H : Hp) (k : NestedKey) (y : V) : Prop :=
  match kd with
  | .i => ∃ n, k = .num n ∧ y = .int n
  | .t => ∃ b, y = .ref b ∧ NV H k y ∧ k.depth ≤ 8
theorem KeyV.mono {kd : Kd} {H H' : Hp} {k : NestedKey} {y : V} (h : Tups H H') (x : KeyV kd H k y) : KeyV kd H' k y := by
  cases kd with
  | i => exact x
  | t =>
    obtain ⟨b, e, q, d⟩ := x
    exact ⟨b, e, NV.mono h _ _ q, d⟩
def objO (a : Addr) (o : Obj) : HO := .ext fun h => h.get? a = some o

abbrev KI : List (NestedKey × V) → List (Int × Value) → Prop := Paired fun p q => p.1 = .num q.1 ∧ RelV p.2 q.2
abbrev KN (H : Hp) : List (NestedKey × V) → List (NestedKey × Addr × Value) → Prop := Paired fun p q => p.1 = q.1 ∧ (NV H p.1 (.ref q.2.1) ∧ p.1.depth ≤ 8) ∧ RelV p.2 q.2.2
section
variable (P : Program) (w : World)
def DXi (o : Obj) (kvs : List (NestedKey × V)) : Prop :=
  o.ExactDict ∧ ∃ (vs : List (Int × Value)) (es : Array DictEntry) (ep : Nat), o.data = .dict es ep ∧ KeysOf (intKind P w) es ∧ Pairs (intKind P w) es.toList vs ∧ (vs.map (·.1)).Nodup ∧ KI kvs vs
def DXt (H : Hp) (o : Obj) (kvs : List (NestedKey × V)) : Prop :=
  o.ExactDict ∧ ∃ (xs : List (NestedKey × Addr × Value)) (es : Array DictEntry) (ep : Nat), o.data = .dict es ep ∧ es.toList = xs.map (entryOfKey (nestedKind P w)) ∧ (xs.map (·.1)).Nodup ∧ KN H kvs xs
/-- at a stands a dict with these keys and values, in the order of insertion -/
def DX (kd : Kd) (H : Hp) (a : Addr) (kvs : List (NestedKey × V)) : Prop :=
  ∃ o, H a = some (objO a o) ∧ kvs.length ≤ sizeLine ∧ (a == sysModules) = false ∧ match kd with
    | .i => DXi P w o kvs
    | .t => DXt P w H o kvs
end
section
variable {P : Program} {w : World}
theorem KN.mono {H H' : Hp} (h : Tups H H') {kvs : List (NestedKey × V)} {xs : List (NestedKey × Addr × Value)} (r : KN H kvs xs) : KN H' kvs xs :=
  Paired.mapP r fun _ _ z => ⟨z.1, ⟨NV.mono h _ _ z.2.1.1, z.2.1.2⟩, z.2.2⟩
theorem DX.mono {kd : Kd} {H H' : Hp} {a : Addr} {kvs : List (NestedKey × V)} (x : DX P w kd H a kvs) (h : Tups H H') (ha : ∀ o, H a = some o → H' a = some o) : DX P w kd H' a kvs := by
  obtain ⟨o, e, z, hs, q⟩ := x
  refine ⟨o, ha _ e, z, hs, ?_⟩
  cases kd with
  | i => exact q
  | t =>
    obtain ⟨c, xs, es, ep, e1, e2, e3, r⟩ := q
    exact ⟨c, xs, es, ep, e1, e2, e3, r.mono h⟩
theorem DX.same {kd : Kd} {H H' : Hp} {a : Addr} {kvs : List (NestedKey × V)} (x : DX P w kd H a kvs) (h : Same H H') : DX P w kd H' a kvs := x.mono (Tups.of_same h) fun o e => h _ _ e
theorem DX.ext {kd : Kd} {H : Hp} {a : Addr} {kvs : List (NestedKey × V)} (x : DX P w kd H a kvs) : ∃ φ, H a = some (.ext φ) := let ⟨_, e, _⟩ := x; ⟨_, e⟩
/-- a dict written elsewhere leaves the tuples -/
theorem DX.tups {kd : Kd} {H : Hp} {a : Addr} {kvs : List (NestedKey × V)} {u : HO} (x : DX P w kd H a kvs) : Tups H (upd H a u) := Tups.upd fun xs e => by
  obtain ⟨φ, q⟩ := x.ext
  rw [q] at e
  cases e
theorem DX.upd_ne {kd kd' : Kd} {H : Hp} {a b : Addr} {kvs kvs' : List (NestedKey × V)} {u : HO} (x : DX P w kd H a kvs) (y : DX P w kd' H b kvs') (h : b ≠ a) : DX P w kd' (upd H a u) b kvs' :=
  y.mono x.tups fun o e => by rw [L2.upd_ne h]; exact e

theorem KI.val {kvs : List (NestedKey × V)} {vs : List (Int × Value)} (r : KI kvs vs) (n : Int) : RelO (valV kvs (.num n)) (valueAt vs n) := by
  induction r with
  | nil => exact True.intro
  | @cons p q ps qs h t ih =>
    by_cases e : p.1 = .num n
    · have e' : q.1 = n := by
        have := h.1.symm.trans e
        injection this
      have b : valueAt (q :: qs) n = some q.2 := by simp [valueAt, List.find?_cons, e']
      rw [valV_pos e, b]; exact h.2
    · have e' : ¬ q.1 = n := fun z => e (by rw [h.1, z])
      have b : valueAt (q :: qs) n = valueAt qs n := by simp [valueAt, List.find?_cons, e']
      rw [valV_neg e, b]; exact ih
theorem KI.repl {kvs : List (NestedKey × V)} {vs : List (Int × Value)} (r : KI kvs vs) (n : Int) {y : V} {u : Value} (ry : RelV y u) :
    KI (kvs.map fun kv => if kv.1 = .num n then (kv.1, y) else kv) (vs.map fun kv => if kv.1 = n then (kv.1, u) else kv) := by
  induction r with
  | nil => exact .nil
  | @cons p q ps qs h t ih =>
    rw [List.map_cons, List.map_cons]
    refine .cons ?_ ih
    by_cases e : p.1 = .num n
    · have e' : q.1 = n := by
        have := h.1.symm.trans e
        injection this
      rw [if_pos e, if_pos e']; exact ⟨h.1, ry⟩
    · have e' : ¬ q.1 = n := fun z => e (by rw [h.1, z])
      rw [if_neg e, if_neg e']; exact h
theorem KI.put {kvs : List (NestedKey × V)} {vs : List (Int × Value)} (r : KI kvs vs) (n : Int) {y : V} {u : Value} (ry : RelV y u) : KI (putK kvs (.num n) y) (stored vs n u) := by
  have e : (kvs.any fun kv => decide (kv.1 = .num n)) = vs.any fun kv => decide (kv.1 = n) := by
    clear ry
    induction r with
    | nil => rfl
    | @cons p q ps qs h t ih =>
      rw [List.any_cons, List.any_cons, ih]
      congr 1
      by_cases z : q.1 = n
      · rw [decide_eq_true z, decide_eq_true (by rw [h.1, z])]
      · rw [decide_eq_false z, decide_eq_false fun y => z (by
          have := h.1.symm.trans y
          injection this)]
  unfold putK stored
  rw [e]
  by_cases q : (vs.any fun kv => decide (kv.1 = n)) = true
  · rw [if_pos q, if_pos q]; exact r.repl n ry
  · rw [if_neg q, if_neg q]; exact Paired.snoc r ⟨rfl, ry⟩
theorem KN.val {H : Hp} {kvs : List (NestedKey × V)} {xs : List (NestedKey × Addr × Value)} (r : KN H kvs xs) (k : NestedKey) : RelO (valV kvs k) ((atKey xs k).map (·.2)) := by
  induction r with
  | nil => exact True.intro
  | @cons p q ps qs h t ih =>
    obtain ⟨h1, _, h2⟩ := h
    by_cases e : p.1 = k
    · have e' : q.1 = k := h1.symm.trans e
      have b : atKey (q :: qs) k = some q.2 := by simp [atKey, List.find?_cons, e']
      rw [valV_pos e, b]; exact h2
    · have e' : ¬ q.1 = k := fun z => e (h1.trans z)
      have b : atKey (q :: qs) k = atKey qs k := by simp [atKey, List.find?_cons, e']
      rw [valV_neg e, b]; exact ih
theorem KN.repl {H : Hp} {kvs : List (NestedKey × V)} {xs : List (NestedKey × Addr × Value)} (r : KN H kvs xs) (k : NestedKey) {y : V} {u : Value} (ry : RelV y u) :
    KN H (kvs.map fun kv => if kv.1 = k then (kv.1, y) else kv) (xs.map (putAt k u)) := by
  induction r with
  | nil => exact .nil
  | @cons p q ps qs h t ih =>
    rw [List.map_cons, List.map_cons]
    refine .cons ?_ ih
    obtain ⟨h1, h2, h3⟩ := h
    unfold putAt
    by_cases e : p.1 = k
    · rw [if_pos e, if_pos (h1.symm.trans e)]; exact ⟨h1, h2, ry⟩
    · rw [if_neg e, if_neg (fun z => e (h1.trans z))]; exact ⟨h1, h2, h3⟩
theorem KN.put {H : Hp} {kvs : List (NestedKey × V)} {xs : List (NestedKey × Addr × Value)} (r : KN H kvs xs) (k : NestedKey) {b : Addr} {y : V} {u : Value} (hb : NV H k (.ref b)) (hd : k.depth ≤ 8) (ry : RelV y u) :
    KN H (putK kvs k y) (storedH xs k b u) := by
  have e : (kvs.any fun kv => decide (kv.1 = k)) = (atKey xs k).isSome := by
    rw [valV_any, (r.val k).isSome_eq, Option.isSome_map]
  unfold putK storedH
  rw [e]
  by_cases q : (atKey xs k).isSome = true
  · rw [if_pos q, if_pos q]; exact r.repl k ry
  · rw [if_neg q, if_neg q]; exact Paired.snoc r ⟨rfl, ⟨hb, hd⟩, ry⟩

/-- what stands in the heap -/
theorem DX.raw_i {H : Hp} {h : Heap} {a : Addr} {kvs : List (NestedKey × V)} (ok : HOk P w H h) (x : DX P w .i H a kvs) : ∃ vs, KI kvs vs ∧ h.DictOf (intKind P w) a vs ∧ (a == sysModules) = false ∧ kvs.length ≤ sizeLine := by
  obtain ⟨o, e, z, hs, c, vs, es, ep, e1, e2, e3, e4, r⟩ := x
  have q : h.get? a = some o := (show ObjOk P w H h a (objO a o) from ok a _ e).1
  exact ⟨vs, r, ⟨o, es, ep, q, c, e1, e2, e3, e4⟩, hs, z⟩
theorem KN.keys {H : Hp} {h : Heap} (ok : HOk P w H h) {kvs : List (NestedKey × V)} {xs : List (NestedKey × Addr × Value)} (r : KN H kvs xs) : ∀ x ∈ xs, (nestedKind P w).is h x.1 x.2.1 := by
  induction r with
  | nil => intro x hx; exact nomatch hx
  | @cons p q ps qs hq t ih =>
    intro x hx
    rcases List.mem_cons.mp hx with e | hx
    · subst e
      exact ⟨by rw [← hq.1]; exact NV.is ok _ _ _ hq.2.1.1 rfl, by rw [← hq.1]; exact hq.2.1.2⟩
    · exact ih x hx
theorem DX.raw_t {H : Hp} {h : Heap} {a : Addr} {kvs : List (NestedKey × V)} (ok : HOk P w H h) (x : DX P w .t H a kvs) : ∃ xs, KN H kvs xs ∧ h.DictOfH (nestedKind P w) a xs ∧ (a == sysModules) = false ∧ kvs.length ≤ sizeLine := by
  obtain ⟨o, e, z, hs, c, xs, es, ep, e1, e2, e3, r⟩ := x
  have q : h.get? a = some o := (show ObjOk P w H h a (objO a o) from ok a _ e).1
  exact ⟨xs, r, ⟨o, es, ep, q, c, e1, e2, r.keys ok, e3⟩, hs, z⟩
theorem objO_ok {H : Hp} {h : Heap} {a : Addr} {o : Obj} (e : h.get? a = some o) : ObjOk P w H h a (objO a o) := ⟨e, ⟨o, e⟩, fun _ _ q k => k _ q⟩
theorem DX.of_i {H : Hp} {h : Heap} {a : Addr} {kvs : List (NestedKey × V)} {vs : List (Int × Value)} (d : h.DictOf (intKind P w) a vs) (r : KI kvs vs) (hs : (a == sysModules) = false) (hz : kvs.length ≤ sizeLine) :
    ∃ o, h.get? a = some o ∧ DX P w .i (upd H a (objO a o)) a kvs := by
  obtain ⟨o, es, ep, q, c, e1, e2, e3, e4⟩ := d
  exact ⟨o, q, o, upd_same, hz, hs, c, vs, es, ep, e1, e2, e3, e4, r⟩
theorem DX.of_t {H : Hp} {h : Heap} {a : Addr} {kvs : List (NestedKey × V)} {xs : List (NestedKey × Addr × Value)} (d : h.DictOfH (nestedKind P w) a xs) (ht : ∀ ys, H a ≠ some (.tup ys)) (r : KN H kvs xs) (hs : (a == sysModules) = false) (hz : kvs.length ≤ sizeLine) :
    ∃ o, h.get? a = some o ∧ DX P w .t (upd H a (objO a o)) a kvs := by
  obtain ⟨o, es, ep, q, c, e1, e2, e3, e4⟩ := d
  exact ⟨o, q, o, upd_same, hz, hs, c, xs, es, ep, e1, e2, e4, r.mono (Tups.upd ht)⟩
end

/-! ### the operations -/
section
variable {X : Cx} {pins : List (Addr × Obj)} {σ : L2.St} {H : Hp} {s : Shared} {a : Addr} {y v : V} {u r : Value} {k : NestedKey} {kd : Kd} {kvs : List (NestedKey × V)} {A : Around} {E : Value → Shared → Prop}
theorem DX.typeIs (I : Inv X pins σ H s) (x : DX X.prog X.w kd H a kvs) : s.TypeIs (.ref a) "dict" := by
  cases kd with
  | i =>
    obtain ⟨vs, _, dd, _⟩ := x.raw_i I.hok
    exact dd.typeIs
  | t =>
    obtain ⟨vs, _, dd, _⟩ := x.raw_t I.hok
    exact dd.typeIs
theorem DX.lt (I : Inv X pins σ H s) (x : DX X.prog X.w kd H a kvs) : a < s.heap.objs.size := by
  obtain ⟨o, e, _⟩ := x
  exact I.hok.lt e
/-- d[y], there -/
theorem x_getItem {Q : Value → Shared → Prop} (hu : A.units + 9 < cLine) (I : Inv X pins σ H s) (x : DX X.prog X.w kd H a kvs) (hk : KeyV kd H k y) (l : valV kvs k = some v) (ry : RelV y u) (h : ∀ w' s', Inv X pins σ H s' → RelV v w' → Q w' s') :
    wpAny (model X.prog X.w) A (getItem (.ref a) u) Q E s := by
  cases kd with
  | i =>
    obtain ⟨n, rfl, rfl⟩ := hk
    obtain ⟨t, rfl⟩ := (show ∃ t, u = Value.int n t from ry)
    obtain ⟨vs, rel, dd, _, _⟩ := x.raw_i I.hok
    obtain ⟨w', hw, rw'⟩ := RelO.some_of (v := v) (o := valueAt vs n) (by rw [← l]; exact rel.val n)
    exact wpAny_getItem_of (intKind_is _ _ n t) dd.mapOf hw (h w' _ (I.tok _) rw')
  | t =>
    obtain ⟨b, rfl, hn, hd⟩ := hk
    cases (show u = Value.ref b from ry)
    obtain ⟨xs, rel, dd, _, _⟩ := x.raw_t I.hok
    obtain ⟨w', hw, rw'⟩ := RelO.some_of (v := v) (o := (atKey xs k).map (·.2)) (by rw [← l]; exact rel.val k)
    obtain ⟨p, hp, hp2⟩ := Option.map_eq_some_iff.mp hw
    refine wpAny_getItem_heap (knd := nestedKind X.prog X.w) (by show A.units + 1 + 8 < cLine; omega) ⟨NV.is I.hok _ _ _ hn rfl, hd⟩ dd hp ?_
    rw [hp2]
    exact h w' _ (I.tok _) rw'
theorem x_in {Q : Value → Shared → Prop} (hu : A.units + 9 < cLine) (I : Inv X pins σ H s) (x : DX X.prog X.w kd H a kvs) (hk : KeyV kd H k y) (ry : RelV y u) (h : ∀ s', Inv X pins σ H s' → Q (.bool (valV kvs k).isSome) s') :
    wpAny (model X.prog X.w) A (compareOp .In u (.ref a)) Q E s := by
  cases kd with
  | i =>
    obtain ⟨n, rfl, rfl⟩ := hk
    obtain ⟨t, rfl⟩ := (show ∃ t, u = Value.int n t from ry)
    obtain ⟨vs, rel, dd, hs, _⟩ := x.raw_i I.hok
    refine wpAny_in_of (intKind_is _ _ n t) hs dd.mapOf ?_
    rw [← (rel.val n).isSome_eq]
    exact h _ (I.tok _)
  | t =>
    obtain ⟨b, rfl, hn, hd⟩ := hk
    cases (show u = Value.ref b from ry)
    obtain ⟨xs, rel, dd, hs, _⟩ := x.raw_t I.hok
    refine wpAny_in_heap (knd := nestedKind X.prog X.w) (by show A.units + 1 + 8 < cLine; omega) ⟨NV.is I.hok _ _ _ hn rfl, hd⟩ hs dd ?_
    have q := (rel.val k).isSome_eq
    rw [Option.isSome_map] at q
    rw [← q]
    exact h _ (I.tok _)
theorem x_notIn {Q : Value → Shared → Prop} (hu : A.units + 9 < cLine) (I : Inv X pins σ H s) (x : DX X.prog X.w kd H a kvs) (hk : KeyV kd H k y) (ry : RelV y u) (h : ∀ s', Inv X pins σ H s' → Q (.bool (!(valV kvs k).isSome)) s') :
    wpAny (model X.prog X.w) A (compareOp .NotIn u (.ref a)) Q E s := by
  cases kd with
  | i =>
    obtain ⟨n, rfl, rfl⟩ := hk
    obtain ⟨t, rfl⟩ := (show ∃ t, u = Value.int n t from ry)
    obtain ⟨vs, rel, dd, hs, _⟩ := x.raw_i I.hok
    refine wpAny_notIn_of (intKind_is _ _ n t) hs dd.mapOf ?_
    rw [← (rel.val n).isSome_eq]
    exact h _ (I.tok _)
  | t =>
    obtain ⟨b, rfl, hn, hd⟩ := hk
    cases (show u = Value.ref b from ry)
    obtain ⟨xs, rel, dd, hs, _⟩ := x.raw_t I.hok
    refine notIn_keyed (knd := nestedKind X.prog X.w) (k := k) (by show A.units + 1 + 8 < cLine; omega) ⟨NV.is I.hok _ _ _ hn rfl, hd⟩ hs ⟨xs, dd, rfl⟩ ?_
    have q := (rel.val k).isSome_eq
    rw [Option.isSome_map] at q
    rw [valueAt_pairsH, Option.isSome_map, ← q]
    exact h _ (I.tok _)
/-- d[y] = v -/
theorem x_setItem {Q : Unit → Shared → Prop} (hu : A.units + 9 < cLine) (I : Inv X pins σ H s) (x : DX X.prog X.w kd H a kvs) (hk : KeyV kd H k y) (hl : kvs.length < sizeLine) (ry : RelV y u) (rv : RelV v r)
    (h : ∀ o s', DX X.prog X.w kd (upd H a o) a (putK kvs k v) → Inv X pins σ (upd H a o) s' → Q () s') : wpAny (model X.prog X.w) A (setItem (.ref a) u r) Q E s := by
  have mu : Mut (H a) := by
    obtain ⟨φ, e⟩ := x.ext
    rw [e]
    exact True.intro
  have nt : ∀ ys, H a ≠ some (.tup ys) := fun ys e => by
    rw [e] at mu
    exact mu
  have hz : (putK kvs k v).length ≤ sizeLine := by have := length_putK kvs k v; omega
  cases kd with
  | i =>
    obtain ⟨n, rfl, rfl⟩ := hk
    obtain ⟨t, rfl⟩ := (show ∃ t, u = Value.int n t from ry)
    obtain ⟨vs, rel, dd, hs, z⟩ := x.raw_i I.hok
    have hz' : vs.length ≤ sizeLine := by rw [← Paired.length rel]; exact z
    refine wpAny_setItem_pairs (hsz := hz') (intKind_is _ _ n t) dd fun h' dd' hs' => ?_
    obtain ⟨o, eo, dx⟩ := DX.of_i (H := H) dd' (rel.put n rv) hs hz
    exact h (objO a o) _ dx (d_write I mu hs' ⟨o, eo⟩ (objO_ok eo))
  | t =>
    obtain ⟨b, rfl, hn, hd⟩ := hk
    cases (show u = Value.ref b from ry)
    obtain ⟨xs, rel, dd, hs, z⟩ := x.raw_t I.hok
    have hz' : xs.length ≤ sizeLine := by rw [← Paired.length rel]; exact z
    refine wpAny_setItem_heap (knd := nestedKind X.prog X.w) (hsz := hz') (by show A.units + 1 + 8 < cLine; omega) ⟨NV.is I.hok _ _ _ hn rfl, hd⟩ dd fun h' dd' hs' => ?_
    obtain ⟨o, eo, dx⟩ := DX.of_t (H := H) dd' nt (rel.put k hn hd rv) hs hz
    exact h (objO a o) _ dx (d_write I mu hs' ⟨o, eo⟩ (objO_ok eo))
end

/-! ### the rules -/
section
variable {X : Cx} {o i e value : Expr} {pos pos' tpos : Pos} {td ty tv : TE}
def tXGet (P : Program) (w : World) (td ty : TE) : TE := fun σ H Q => td σ H fun x H1 => ty σ H1 fun y H2 => ∃ a kd kvs k v, x = .ref a ∧ DX P w kd H2 a kvs ∧ KeyV kd H2 k y ∧ valV kvs k = some v ∧ Q v H2
def tXIn (P : Program) (w : World) (neg : Bool) (ty td : TE) : TE := fun σ H Q => ty σ H fun y H1 => td σ H1 fun x H2 => ∃ a kd kvs k, x = .ref a ∧ DX P w kd H2 a kvs ∧ KeyV kd H2 k y ∧ Q (.bl (if neg = true then !(valV kvs k).isSome else (valV kvs k).isSome)) H2
def sXPut (P : Program) (w : World) (td ty tv : TE) : TS := fun D σ H => tv σ H fun v H1 => td σ H1 fun x H2 => ty σ H2 fun y H3 => ∃ a kd kvs k, x = .ref a ∧ DX P w kd H3 a kvs ∧ KeyV kd H3 k y ∧ kvs.length < sizeLine ∧
  ∀ u, DX P w kd (upd H3 a u) a (putK kvs k v) → D.nx σ (upd H3 a u)
theorem pe_xget (hu : X.A.units + 9 < cLine) (ho : PE X o td) (hi : PE X i ty) (hs : NoSl i) : PE X (.Subscript o i pos) (tXGet X.prog X.w td ty) := by
  refine ⟨fun pins s σ H Q I h => ?_⟩
  refine subD_of PySem.F.slot_dict_getitem.lookup hs (thn (ho.run pins s σ H _ I h) fun u s1 ⟨x, H1, I1, rx, q1⟩ => thn (hi.run pins s1 σ H1 _ I1 q1) fun iv s2 ⟨y, H2, I2, ry, a, kd, kvs, k, v, ex, d, hk, l, q2⟩ => ?_)
  subst ex
  obtain rfl : u = Value.ref a := rx
  exact ⟨d.typeIs I2, x_getItem hu I2 d hk l ry fun w' s3 I3 rw' => ⟨v, H2, I3, rw', q2⟩⟩
theorem pc_xin (hu : X.A.units + 9 < cLine) (hi : PE X i ty) (ho : PE X o td) : PC X .In i o (tXIn X.prog X.w false ty td) := by
  refine ⟨fun pins s σ H Q I h => ?_⟩
  refine thn (hi.run pins s σ H _ I h) fun iv s1 ⟨y, H1, I1, ry, q1⟩ => thn (ho.run pins s1 σ H1 _ I1 q1) fun u s2 ⟨x, H2, I2, rx, a, kd, kvs, k, ex, d, hk, q2⟩ => ?_
  subst ex
  obtain rfl : u = Value.ref a := rx
  exact x_in hu I2 d hk ry fun s3 I3 => ⟨.bl (valV kvs k).isSome, H2, I3, rfl, q2⟩
theorem pc_xnotin (hu : X.A.units + 9 < cLine) (hi : PE X i ty) (ho : PE X o td) : PC X .NotIn i o (tXIn X.prog X.w true ty td) := by
  refine ⟨fun pins s σ H Q I h => ?_⟩
  refine thn (hi.run pins s σ H _ I h) fun iv s1 ⟨y, H1, I1, ry, q1⟩ => thn (ho.run pins s1 σ H1 _ I1 q1) fun u s2 ⟨x, H2, I2, rx, a, kd, kvs, k, ex, d, hk, q2⟩ => ?_
  subst ex
  obtain rfl : u = Value.ref a := rx
  exact x_notIn hu I2 d hk ry fun s3 I3 => ⟨.bl (!(valV kvs k).isSome), H2, I3, rfl, q2⟩
theorem ps_xput (hu : X.A.units + 9 < cLine) (ho : PE X o td) (hi : PE X i ty) (hv : PE X value tv) (hs : swapsWith value (some (.Subscript o i pos')) pos.line X.env = pure false) :
    PS X (.Assign [.Subscript o i pos'] value pos) (sXPut X.prog X.w td ty tv) := by
  refine ⟨fun pins s σ H D I h => ?_⟩
  refine wpAny_Assign_Subscript (thn (hv.run pins s σ H _ I h) fun r s1 ⟨v, H1, I1, rv, q1⟩ => thn (ho.run pins s1 σ H1 _ I1 q1) fun u s2 ⟨x, H2, I2, rx, q2⟩ => thn (hi.run pins s2 σ H2 _ I2 q2) fun iv s3 ⟨y, H3, I3, ry, a, kd, kvs, k, ex, d, hk, hl, q3⟩ => ?_) hs
  subst ex
  obtain rfl : u = Value.ref a := rx
  exact x_setItem hu I3 d hk hl ry rv fun ob s4 dx I4 => ⟨σ, _, I4, q3 ob dx⟩
/-- {} -/
def tXNew (P : Program) (w : World) : TE := fun _ H Q => ∀ p u, H p = none → (∀ kd, DX P w kd (upd H p u) p []) → Q (.ref p) (upd H p u)
theorem pe_xnew : PE X (.Dict [] [] pos) (tXNew X.prog X.w) := ⟨fun pins s σ H Q I h => by
  have hp := I.hok.fresh (Nat.le_refl _)
  have eo : (s.heap.push { cls := .type "dict", data := .dict #[] }).get? s.heap.objs.size = some { cls := .type "dict", data := .dict #[] } := Heap.get?_push_size _ rfl
  refine wpAny_Dict_empty ⟨.ref s.heap.objs.size, _, I.laid (a := s.heap.objs.size) (o := objO s.heap.objs.size { cls := .type "dict", data := .dict #[] }) (t' := s.toks) (fun _ _ q => Heap.get?_push_of_some _ q) (Nat.le_refl _) (objO_ok eo), rfl, h _ _ hp fun kd => ?_⟩
  refine ⟨_, upd_same, Nat.zero_le _, beq_eq_false_iff_ne.mpr (Ne.symm (Nat.ne_of_lt I.big)), ?_⟩
  cases kd with
  | i => exact ⟨⟨rfl, rfl, rfl⟩, [], #[], 0, rfl, fun e he => by simp at he, .nil, List.nodup_nil, .nil⟩
  | t => exact ⟨⟨rfl, rfl, rfl⟩, [], #[], 0, rfl, rfl, List.nodup_nil, .nil⟩⟩
end
end WW


set_option maxHeartbeats 2000000

/-! dicts of any keys walked: keys, values, items; dict comprehensions -/
namespace WW
open PySem PySem.Spec PyProof.Rows L2

/-! ### the entries -/
/-- the very object that stands at a -/
def DX1 (P : Program) (w : World) (kd : Kd) (H : Hp) (a : Addr) (o : Obj) (kvs : List (NestedKey × V)) : Prop :=
  H a = some (objO a o) ∧ kvs.length ≤ sizeLine ∧ (a == sysModules) = false ∧ match kd with
    | .i => DXi P w o kvs
    | .t => DXt P w H o kvs
theorem DX.one {P : Program} {w : World} {kd : Kd} {H : Hp} {a : Addr} {kvs : List (NestedKey × V)} (x : DX P w kd H a kvs) : ∃ o, DX1 P w kd H a o kvs := x
theorem DX1.dx {P : Program} {w : World} {kd : Kd} {H : Hp} {a : Addr} {o : Obj} {kvs : List (NestedKey × V)} (x : DX1 P w kd H a o kvs) : DX P w kd H a kvs := ⟨o, x⟩
theorem DX1.mono {P : Program} {w : World} {kd : Kd} {H H' : Hp} {a : Addr} {o : Obj} {kvs : List (NestedKey × V)} (x : DX1 P w kd H a o kvs) (h : Tups H H') (ha : ∀ u, H a = some u → H' a = some u) : DX1 P w kd H' a o kvs := by
  obtain ⟨e, z, hs, q⟩ := x
  refine ⟨ha _ e, z, hs, ?_⟩
  cases kd with
  | i => exact q
  | t =>
    obtain ⟨c, xs, es, ep, e1, e2, e3, r⟩ := q
    exact ⟨c, xs, es, ep, e1, e2, e3, r.mono h⟩
theorem DX1.same {P : Program} {w : World} {kd : Kd} {H H' : Hp} {a : Addr} {o : Obj} {kvs : List (NestedKey × V)} (x : DX1 P w kd H a o kvs) (h : Same H H') : DX1 P w kd H' a o kvs := x.mono (Tups.of_same h) fun _ e => h _ _ e

section
variable {X : Cx} {pins : List (Addr × Obj)} {σ : L2.St} {H : Hp} {s : Shared} {a : Addr} {o : Obj} {kd : Kd} {kvs : List (NestedKey × V)}
theorem pairs_get {P : Program} {w : World} : ∀ {es : List DictEntry} {vs : List (Int × Value)}, Pairs (intKind P w) es vs → ∀ {i : Nat} {p : Int × Value}, vs[i]? = some p → ∃ e, es[i]? = some e ∧ (∃ t, e.key = .int p.1 t) ∧ e.val = p.2 := by
  intro es vs h
  induction h with
  | nil => intro i p e; simp at e
  | @cons e kv es vs h1 h2 _ ih =>
    intro i p q
    cases i with
    | zero =>
      simp only [List.getElem?_cons_zero, Option.some.injEq] at q
      subst q
      exact ⟨e, rfl, Value.isInt_shape h1, h2⟩
    | succ j =>
      simp only [List.getElem?_cons_succ] at q ⊢
      exact ih q
/-- what the entries are -/
theorem DX1.ents (I : Inv X pins σ H s) (x : DX1 X.prog X.w kd H a o kvs) : (a == sysModules) = false ∧ ∃ es ep, o.data = .dict es ep ∧ s.heap.DictRaw a es ep ∧ es.size = kvs.length ∧
    ∀ (i : Nat) (k : NestedKey) (v : V), kvs[i]? = some (k, v) → ∃ (hi : i < es.size) (y : V), KeyV kd H k y ∧ RelV y es[i].key ∧ RelV v es[i].val := by
  obtain ⟨e, z, hs, q⟩ := x
  have eo : s.heap.get? a = some o := (show ObjOk X.prog X.w H s.heap a (objO a o) from I.hok a _ e).1
  refine ⟨hs, ?_⟩
  cases kd with
  | i =>
    obtain ⟨c, vs, es, ep, e1, _, e3, _, r⟩ := q
    have l1 : es.toList.length = vs.length := e3.length
    have l2 : kvs.length = vs.length := Paired.length r
    rw [Array.length_toList] at l1
    refine ⟨es, ep, e1, ⟨o, eo, c, e1⟩, by omega, fun i k v hk => ?_⟩
    obtain ⟨p, hp, hp1, hp2⟩ := paired_get r hk
    obtain ⟨en, he, ⟨t, ht⟩, hv⟩ := pairs_get e3 hp
    have hi : i < es.size := by
      have := (List.getElem?_eq_some_iff.mp he).1
      simpa using this
    have ee : es[i] = en := by
      have q : es[i]? = some en := by rw [← Array.getElem?_toList]; exact he
      rw [Array.getElem?_eq_getElem hi] at q
      exact Option.some.inj q
    exact ⟨hi, .int p.1, ⟨p.1, hp1, rfl⟩, by rw [ee, ht]; exact ⟨t, rfl⟩, by rw [ee, hv]; exact hp2⟩
  | t =>
    obtain ⟨c, xs, es, ep, e1, e2, _, r⟩ := q
    have l1 : es.size = xs.length := size_of_entries e2
    have l2 : kvs.length = xs.length := Paired.length r
    refine ⟨es, ep, e1, ⟨o, eo, c, e1⟩, by omega, fun i k v hk => ?_⟩
    obtain ⟨p, hp, hp1, hp2, hp3⟩ := paired_get r hk
    have q := entry_at e2 i
    rw [hp] at q
    have hi : i < es.size := by
      rw [l1]
      exact (List.getElem?_eq_some_iff.mp hp).1
    rw [Array.getElem?_eq_getElem hi] at q
    have ee := Option.some.inj q
    exact ⟨hi, .ref p.2.1, ⟨p.2.1, rfl, hp2.1, hp2.2⟩, by rw [ee]; rfl, by rw [ee]; exact hp3⟩
end

/-! ### the walks -/
def Ixk (P : Program) (w : World) (kd : Kd) (a : Addr) (o : Obj) (kvs : List (NestedKey × V)) : It :=
  ⟨fun i H => DX1 P w kd H a o kvs ∧ i < kvs.length, fun i H x H' => H' = H ∧ ∃ k v, kvs[i]? = some (k, v) ∧ KeyV kd H k x, fun i H => DX1 P w kd H a o kvs ∧ kvs.length ≤ i⟩
def Ixv (P : Program) (w : World) (kd : Kd) (a : Addr) (o : Obj) (kvs : List (NestedKey × V)) : It :=
  ⟨fun i H => DX1 P w kd H a o kvs ∧ i < kvs.length, fun i H x H' => H' = H ∧ ∃ k, kvs[i]? = some (k, x), fun i H => DX1 P w kd H a o kvs ∧ kvs.length ≤ i⟩
def Ixi (P : Program) (w : World) (kd : Kd) (a : Addr) (o : Obj) (kvs : List (NestedKey × V)) : It :=
  ⟨fun i H => DX1 P w kd H a o kvs ∧ i < kvs.length, fun i H x H' => ∃ T k v y, kvs[i]? = some (k, v) ∧ KeyV kd H k y ∧ x = .ref T ∧ H T = none ∧ H' = upd H T (.tup [y, v]), fun i H => DX1 P w kd H a o kvs ∧ kvs.length ≤ i⟩
section
variable {P : Program} {w : World} {K : PySem.W.Frag} {tg : Expr} {a : Addr} {o : Obj} {es : Array DictEntry} {ep : Nat} {kd : Kd} {kvs : List (NestedKey × V)}
theorem turn_xk (it : Addr) (hod : o.data = .dict es ep) (hz : es.size = kvs.length) : Turn P w K tg (Ixk P w kd a o kvs) [it] it (fun i h => h.IsKeyIter it a i es.size ep) where
  mem := by simp
  obj := fun i h st b hb => by
    obtain rfl : b = it := by simpa using hb
    obtain ⟨oi, e, c, dd⟩ := st
    exact ⟨oi, e, fun v z => by rw [dd] at z; cases z⟩
  keep := fun i h h' st k => st.at fun oi e => k it (by simp) oi e
  item := by
    intro X hP hw hK hc i pins s σ H E I hf st hg
    subst hP hw hK
    obtain ⟨hd, hi⟩ := hg
    obtain ⟨g0, g1, g2, g3, g4, g5⟩ := hf it (by simp)
    obtain ⟨hs, es', ep', hdt, hm, hsz, ent⟩ := hd.ents I
    obtain ⟨rfl, rfl⟩ := dict_ep hod hdt
    obtain ⟨⟨k, v⟩, hkv⟩ : ∃ p, kvs[i]? = some p := ⟨kvs[i], List.getElem?_eq_getElem hi⟩
    obtain ⟨hie, y, hky, hkr, hvr⟩ := ent i k v hkv
    refine wpAny_pyNext_keys_item_raw st hm hie fun h' st' sb => ?_
    have J : Inv X pins σ H { s with heap := h' } := I.turned (t' := s.toks) (fun b ob hb e => (sb.2 b hb).trans e) g0 g1 g3 g4 g5
    obtain ⟨oi, e, c, dd⟩ := id st'
    exact ⟨_, rfl, go_of (s := { s with heap := h' }) e c dd (by decide) ⟨y, H, J, hkr, ⟨rfl, k, v, hkv, hky⟩, st', fun b hb => (hf b hb).1⟩⟩
  done := by
    intro X hP hw hK hc i pins s σ H E I hf st hg
    subst hP hw hK
    obtain ⟨hd, hi⟩ := hg
    obtain ⟨g0, g1, g2, g3, g4, g5⟩ := hf it (by simp)
    obtain ⟨hs, es', ep', hdt, hm, hsz, ent⟩ := hd.ents I
    obtain ⟨rfl, rfl⟩ := dict_ep hod hdt
    exact wpAny_pyNext_keys_end_raw (I.ok.hd hc) st hm (by omega) fun h' eb => ⟨rfl, I.turned (t' := s.toks) (fun b ob hb e => eb b ob hb e) g0 g1 g3 g4 g5⟩
  self := fun A i s Q E st h => wpAny_pyIter_keyiter st h
theorem turn_xv (it : Addr) (hod : o.data = .dict es ep) (hz : es.size = kvs.length) : Turn P w K tg (Ixv P w kd a o kvs) [it] it (fun i h => h.IsValIter it a i es.size ep) where
  mem := by simp
  obj := fun i h st b hb => by
    obtain rfl : b = it := by simpa using hb
    obtain ⟨oi, e, c, dd⟩ := st
    exact ⟨oi, e, fun v z => by rw [dd] at z; cases z⟩
  keep := fun i h h' st k => st.at fun oi e => k it (by simp) oi e
  item := by
    intro X hP hw hK hc i pins s σ H E I hf st hg
    subst hP hw hK
    obtain ⟨hd, hi⟩ := hg
    obtain ⟨g0, g1, g2, g3, g4, g5⟩ := hf it (by simp)
    obtain ⟨hs, es', ep', hdt, hm, hsz, ent⟩ := hd.ents I
    obtain ⟨rfl, rfl⟩ := dict_ep hod hdt
    obtain ⟨⟨k, v⟩, hkv⟩ : ∃ p, kvs[i]? = some p := ⟨kvs[i], List.getElem?_eq_getElem hi⟩
    obtain ⟨hie, y, hky, hkr, hvr⟩ := ent i k v hkv
    refine wpAny_pyNext_values_item_raw st hm hie fun h' st' sb => ?_
    have J : Inv X pins σ H { s with heap := h' } := I.turned (t' := s.toks) (fun b ob hb e => (sb.2 b hb).trans e) g0 g1 g3 g4 g5
    obtain ⟨oi, e, c, dd⟩ := id st'
    exact ⟨_, rfl, go_of (s := { s with heap := h' }) e c dd (by decide) ⟨v, H, J, hvr, ⟨rfl, k, hkv⟩, st', fun b hb => (hf b hb).1⟩⟩
  done := by
    intro X hP hw hK hc i pins s σ H E I hf st hg
    subst hP hw hK
    obtain ⟨hd, hi⟩ := hg
    obtain ⟨g0, g1, g2, g3, g4, g5⟩ := hf it (by simp)
    obtain ⟨hs, es', ep', hdt, hm, hsz, ent⟩ := hd.ents I
    obtain ⟨rfl, rfl⟩ := dict_ep hod hdt
    exact wpAny_pyNext_values_end_raw (I.ok.hd hc) st hm (by omega) fun h' eb => ⟨rfl, I.turned (t' := s.toks) (fun b ob hb e => eb b ob hb e) g0 g1 g3 g4 g5⟩
  self := fun A i s Q E st h => wpAny_pyIter_valiter st h
theorem turn_xi {elts : List Expr} {kk : Nat} {tpos : Pos} (it : Addr) (hod : o.data = .dict es ep) (hz : es.size = kvs.length) :
    Turn P w K (.Tuple elts kk tpos) (Ixi P w kd a o kvs) [it] it (fun i h => ∃ ok ov, IsItemIter h it a i es.size ep ok ov) where
  mem := by simp
  obj := fun i h st b hb => by
    obtain rfl : b = it := by simpa using hb
    obtain ⟨ok, ov, e⟩ := st
    exact ⟨_, e, fun v z => nomatch z⟩
  keep := fun i h h' st k => let ⟨ok, ov, e⟩ := st; ⟨ok, ov, k it (by simp) _ e⟩
  item := by
    intro X hP hw hK hc i pins s σ H E I hf st hg
    subst hP hw hK
    obtain ⟨hd, hi⟩ := hg
    obtain ⟨hs, es', ep', hdt, hm, hsz, ent⟩ := hd.ents I
    obtain ⟨rfl, rfl⟩ := dict_ep hod hdt
    obtain ⟨⟨k, v⟩, hkv⟩ : ∃ p, kvs[i]? = some p := ⟨kvs[i], List.getElem?_eq_getElem hi⟩
    obtain ⟨hie, y, hky, hkr, hvr⟩ := ent i k v hkv
    obtain ⟨ok, ov, he⟩ := st
    have hlt : it < s.heap.objs.size := Heap.lt_size he
    refine wpAny_pyNext_items_item_raw he hm hie fun h' ho hT hz' hk => ?_
    refine ⟨_, rfl, wpAny_letOwnedTupleGo_items (s := { s with heap := h' }) ho fun h'' he' sb => ?_⟩
    have hT2 := (sb.2 _ (Nat.ne_of_gt hlt)).trans hT
    have J : Inv X pins σ (upd H s.heap.objs.size (.tup [y, v])) { s with heap := h'' } :=
      I.turnedNew (t' := s.toks) (ch := [it]) (fun b ob hb e => (sb.2 b (by simpa using hb)).trans (hk b ob (by simpa using hb) e)) hf (Nat.le_refl _)
        ⟨by show 2 ≤ sizeLine; decide, [_, _], .cons hkr (.cons hvr .nil), ⟨_, hT2, rfl, _, rfl⟩⟩
    refine ⟨.ref s.heap.objs.size, _, J, rfl, ⟨_, k, v, y, hkv, hky, rfl, I.hok.fresh (Nat.le_refl _), rfl⟩, ⟨_, _, he'⟩, fun b hb => ?_⟩
    obtain rfl : b = it := by simpa using hb
    rw [L2.upd_ne (Nat.ne_of_lt hlt)]
    exact (hf b (by simp)).1
  done := by
    intro X hP hw hK hc i pins s σ H E I hf st hg
    subst hP hw hK
    obtain ⟨hd, hi⟩ := hg
    obtain ⟨g0, g1, g2, g3, g4, g5⟩ := hf it (by simp)
    obtain ⟨hs, es', ep', hdt, hm, hsz, ent⟩ := hd.ents I
    obtain ⟨rfl, rfl⟩ := dict_ep hod hdt
    obtain ⟨ok, ov, he⟩ := st
    exact wpAny_pyNext_items_end_raw (I.ok.hd hc) he hm (by omega) fun h' eb => ⟨rfl, I.turned (t' := s.toks) (fun b ob hb e => eb b ob hb e) g0 g1 g3 g4 g5⟩
  self := fun A i s Q E st h => let ⟨_, _, e⟩ := st; wpAny_pyIter_itemiter e h
end
def iXk (P : Program) (w : World) (td : TE) : TI := fun σ H R => td σ H fun x H1 => ∃ a kd o kvs, x = .ref a ∧ DX1 P w kd H1 a o kvs ∧ R (Ixk P w kd a o kvs) H1
def iXv (P : Program) (w : World) (td : TE) : TI := fun σ H R => td σ H fun x H1 => ∃ a kd o kvs, x = .ref a ∧ DX1 P w kd H1 a o kvs ∧ R (Ixv P w kd a o kvs) H1
def iXi (P : Program) (w : World) (td : TE) : TI := fun σ H R => td σ H fun x H1 => ∃ a kd o kvs, x = .ref a ∧ DX1 P w kd H1 a o kvs ∧ R (Ixi P w kd a o kvs) H1
section
variable {X : Cx} {tg e : Expr} {td : TE} {apos cpos : Pos}
theorem pi_xk (he : PE X e td) : PI X tg e (iXk X.prog X.w td) := by
  refine ⟨fun pins s σ H R I h => ?_⟩
  refine thn (he.run pins s σ H _ I h) fun u s1 ⟨x, H1, I1, rx, a, kd, o, kvs, ex, hd, q⟩ => ?_
  subst ex
  obtain rfl : u = Value.ref a := rx
  obtain ⟨hs, es, ep, hdt, hm, hsz, ent⟩ := hd.ents I1
  exact wpAny_pyIter_dict_raw hs hm (pi_one (tk := s1.toks) I1 _ (turn_xk _ hdt hsz) ⟨_, Heap.get?_push_size _ rfl, rfl, rfl⟩ q)
theorem noDict_raw {h : Heap} {a : Addr} {es : Array DictEntry} {ep : Nat} (hm : h.DictRaw a es ep) : ∀ b, Value.ref a = .ref b → ∃ ob, h.get? b = some ob ∧ ob.dict = none := fun b q => by
  cases q
  obtain ⟨o, e, c, _⟩ := hm
  exact ⟨o, e, c.2.1⟩
theorem pi_xv (he : PE X e td) (hbase : attributeBase e "values" X.env (eval e X.env) = eval e X.env := by rfl) (hline : (apos.endLine == cpos.line) = true := by rfl) : PI X tg (.Call (.Attribute e "values" apos) [] [] cpos) (iXv X.prog X.w td) := by
  refine ⟨fun pins s σ H R I h => ?_⟩
  refine wpAny_Call_method (T := "dict") (id := "dict.values") hbase rfl hline F.plainAttrs_dict F.slot_dict_values F.type_dict_values (thn (he.run pins s σ H _ I h) fun u s1 ⟨x, H1, I1, rx, a, kd, o, kvs, ex, hd, q⟩ => ?_)
  subst ex
  obtain rfl : u = Value.ref a := rx
  obtain ⟨hs, es, ep, hdt, hm, hsz, ent⟩ := hd.ents I1
  refine ⟨hm.typeIs, noDict_raw hm, ?_⟩
  have J : Inv X pins σ H1 { s1 with heap := s1.heap.push { cls := .type "dict_values", data := .fields #[.ref a] } } := I1.kept (t' := s1.toks) fun b ob q => Heap.get?_push_of_some _ q
  have fin : wpAny (model X.prog X.w) X.A (pyIter (.ref s1.heap.objs.size)) (PIE X pins σ tg R) X.xe { s1 with heap := s1.heap.push { cls := .type "dict_values", data := .fields #[.ref a] } } :=
    wpAny_pyIter_values_raw (d := a) ⟨_, Heap.get?_push_size _ rfl, rfl, rfl⟩ (hm.at fun o e => Heap.get?_push_of_some _ e) (pi_one (tk := s1.toks) J _ (turn_xv _ hdt hsz) ⟨_, Heap.get?_push_size _ rfl, rfl, rfl⟩ q)
  show wpAny _ _ (callWith cpos (.builtin "dict.values") [.ref a] [] []) _ X.xe s1
  exact method_meetsIn F.slot_dict_values F.entry_dict_values rfl (PySem.evalArgs_none ⟨rfl, hm.typeIs, F.args_dict_values_1 _, _, meets_dict_values_raw a hs, ⟨es, ep, hm⟩, fin⟩)
theorem pi_xi {elts : List Expr} {kk : Nat} {tpos : Pos} (he : PE X e td) (hbase : attributeBase e "items" X.env (eval e X.env) = eval e X.env := by rfl) (hline : (apos.endLine == cpos.line) = true := by rfl) :
    PI X (.Tuple elts kk tpos) (.Call (.Attribute e "items" apos) [] [] cpos) (iXi X.prog X.w td) := by
  refine ⟨fun pins s σ H R I h => ?_⟩
  refine wpAny_Call_method (T := "dict") (id := "dict.items") hbase rfl hline F.plainAttrs_dict F.slot_dict_items F.type_dict_items (thn (he.run pins s σ H _ I h) fun u s1 ⟨x, H1, I1, rx, a, kd, o, kvs, ex, hd, q⟩ => ?_)
  subst ex
  obtain rfl : u = Value.ref a := rx
  obtain ⟨hs, es, ep, hdt, hm, hsz, ent⟩ := hd.ents I1
  refine ⟨hm.typeIs, noDict_raw hm, ?_⟩
  have J : Inv X pins σ H1 { s1 with heap := s1.heap.push { cls := .type "dict_items", data := .fields #[.ref a] } } := I1.kept (t' := s1.toks) fun b ob q => Heap.get?_push_of_some _ q
  have fin : wpAny (model X.prog X.w) X.A (pyIter (.ref s1.heap.objs.size)) (PIE X pins σ (.Tuple elts kk tpos) R) X.xe { s1 with heap := s1.heap.push { cls := .type "dict_items", data := .fields #[.ref a] } } :=
    wpAny_pyIter_items_raw (d := a) ⟨_, Heap.get?_push_size _ rfl, rfl, rfl⟩ (hm.at fun o e => Heap.get?_push_of_some _ e) (pi_one (tk := s1.toks) J _ (turn_xi _ hdt hsz) ⟨.none, .none, Heap.get?_push_size _ rfl⟩ q)
  show wpAny _ _ (callWith cpos (.builtin "dict.items") [.ref a] [] []) _ X.xe s1
  exact method_meetsIn F.slot_dict_items F.entry_dict_items rfl (PySem.evalArgs_none ⟨rfl, hm.typeIs, F.args_dict_items_1 _, _, meets_dict_items_raw a hs, ⟨es, ep, hm⟩, fin⟩)
end

/-! ### loops over anything of n turns -/
theorem for_it {J : It} {n : Nat} {g : TG} {tb : TS} {D : Ends} {σ : L2.St} {H : Hp} (Pv : Nat → L2.St → Hp → Prop) (h0 : Pv 0 σ H) (hgo : ∀ i σ H, i < n → Pv i σ H → J.go i H) (hst : ∀ σ H, Pv n σ H → J.stop n H)
    (hs : ∀ i σ H x H', i < n → Pv i σ H → J.yld i H x H' → g x σ H' fun σ2 H2 => tb { D with nx := Pv (i + 1), ct := Pv (i + 1), bk := D.nx } σ2 H2) (hd : ∀ σ H, Pv n σ H → D.nx σ H) :
    ∃ W : Nat → Nat → L2.St → Hp → Prop, (∃ m, W 0 m σ H) ∧ ∀ i m σ H, W i m σ H →
      (J.stop i H ∧ D.nx σ H) ∨ (J.go i H ∧ ∃ N : L2.St → Hp → Prop, (∀ σ' H', N σ' H' → ∃ m', m' < m ∧ W (i + 1) m' σ' H') ∧ ∀ x H', J.yld i H x H' → g x σ H' fun σ2 H2 => tb { D with nx := N, ct := N, bk := D.nx } σ2 H2) := by
  refine ⟨fun i m σ H => i + m = n ∧ Pv i σ H, ⟨n, Nat.zero_add n, h0⟩, ?_⟩
  rintro i m σ H ⟨e, p⟩
  cases m with
  | zero =>
    obtain rfl : i = n := e
    exact .inl ⟨hst σ H p, hd σ H p⟩
  | succ m =>
    have hi : i < n := by omega
    exact .inr ⟨hgo i σ H hi p, Pv (i + 1), fun σ' H' p' => ⟨m, Nat.lt_succ_self m, by omega, p'⟩, fun x H' y => hs i σ H x H' hi p y⟩
theorem lc_it {J : It} {n : Nat} {g : TG} {tt : TT} {te : TE} {vs : List Nat} {σ : L2.St} {H1 : Hp} {D : Addr} {Qd : Hp → Prop} (Pv : Nat → Hp → Prop) (h0 : Pv 0 (upd H1 D (.lst []))) (hgo : ∀ i H, i < n → Pv i H → J.go i H) (hst : ∀ H, Pv n H → J.stop n H)
    (hs : ∀ i H x H', i < n → Pv i H → J.yld i H x H' → g x (wipe σ vs) H' fun σ2 H2 => wipe σ2 vs = wipe σ vs ∧ tt σ2 H2 fun b H3 =>
      if b = true then te σ2 H3 fun y H4 => ∃ acc, H4 D = some (.lst acc) ∧ acc.length < sizeLine ∧ Pv (i + 1) (upd H4 D (.lst (acc ++ [y]))) else Pv (i + 1) H3) (hd : ∀ H, Pv n H → Qd H) :
    ∃ W : Nat → Nat → Hp → Prop, (∃ m, W 0 m (upd H1 D (.lst []))) ∧ ∀ i m H, W i m H →
      (J.stop i H ∧ Qd H) ∨ (J.go i H ∧ ∃ Nx : Hp → Prop, (∀ H', Nx H' → ∃ m', m' < m ∧ W (i + 1) m' H') ∧ ∀ x H', J.yld i H x H' → g x (wipe σ vs) H' fun σ2 H2 => wipe σ2 vs = wipe σ vs ∧ tt σ2 H2 fun b H3 =>
        if b = true then te σ2 H3 fun y H4 => ∃ acc, H4 D = some (.lst acc) ∧ acc.length < sizeLine ∧ Nx (upd H4 D (.lst (acc ++ [y]))) else Nx H3) := by
  refine ⟨fun i m H => i + m = n ∧ Pv i H, ⟨n, Nat.zero_add n, h0⟩, ?_⟩
  rintro i m H ⟨e, p⟩
  cases m with
  | zero =>
    obtain rfl : i = n := e
    exact .inl ⟨hst H p, hd H p⟩
  | succ m =>
    have hi : i < n := by omega
    exact .inr ⟨hgo i H hi p, Pv (i + 1), fun H' p' => ⟨m, Nat.lt_succ_self m, by omega, p'⟩, fun x H' y => hs i H x H' hi p y⟩

end WW


set_option maxHeartbeats 2000000

/-! dict comprehensions that make a dict of any keys -/
namespace WW
open PySem PySem.Spec PyProof.Rows L2

theorem DX.mut {P : Program} {w : World} {kd : Kd} {H : Hp} {a : Addr} {kvs : List (NestedKey × V)} (x : DX P w kd H a kvs) : Mut (H a) := by
  obtain ⟨φ, e⟩ := x.ext
  rw [e]
  exact True.intro
section
variable {X : Cx} {pins : List (Addr × Obj)} {σ : L2.St} {H : Hp} {s : Shared} {a : Addr} {y v : V} {u r : Value} {k : NestedKey} {kd : Kd} {kvs : List (NestedKey × V)} {A : Around} {E : Value → Shared → Prop}
theorem x_dictSet {Q : Unit → Shared → Prop} (hu : A.units + 9 < cLine) (I : Inv X pins σ H s) (x : DX X.prog X.w kd H a kvs) (hk : KeyV kd H k y) (hl : kvs.length < sizeLine) (ry : RelV y u) (rv : RelV v r)
    (h : ∀ o s', DX X.prog X.w kd (upd H a o) a (putK kvs k v) → Inv X pins σ (upd H a o) s' → Q () s') : wpAny (model X.prog X.w) A (dictSet a u r) Q E s := by
  have mu := x.mut
  have nt : ∀ ys, H a ≠ some (.tup ys) := fun ys e => by
    rw [e] at mu
    exact mu
  have hz : (putK kvs k v).length ≤ sizeLine := by have := length_putK kvs k v; omega
  cases kd with
  | i =>
    obtain ⟨n, rfl, rfl⟩ := hk
    obtain ⟨t, rfl⟩ := (show ∃ t, u = Value.int n t from ry)
    obtain ⟨vs, rel, dd, hs, z⟩ := x.raw_i I.hok
    have hz' : vs.length ≤ sizeLine := by rw [← Paired.length rel]; exact z
    refine wpAny_dictSet_pairs (hsz := hz') (intKind_is _ _ n t) dd fun h' dd' hs' => ?_
    obtain ⟨o, eo, dx⟩ := DX.of_i (H := H) dd' (rel.put n rv) hs hz
    exact h (objO a o) _ dx (d_write I mu hs' ⟨o, eo⟩ (objO_ok eo))
  | t =>
    obtain ⟨b, rfl, hn, hd⟩ := hk
    cases (show u = Value.ref b from ry)
    obtain ⟨xs, rel, dd, hs, z⟩ := x.raw_t I.hok
    have hz' : xs.length ≤ sizeLine := by rw [← Paired.length rel]; exact z
    refine wpAny_dictSet_heap (knd := nestedKind X.prog X.w) (hsz := hz') (by show A.units + 8 < cLine; omega) ⟨NV.is I.hok _ _ _ hn rfl, hd⟩ dd fun h' dd' hs' => ?_
    obtain ⟨o, eo, dx⟩ := DX.of_t (H := H) dd' nt (rel.put k hn hd rv) hs hz
    exact h (objO a o) _ dx (d_write I mu hs' ⟨o, eo⟩ (objO_ok eo))
end
/-- a new empty dict -/
def xObj0 : Obj := { cls := .type "dict", data := .dict #[] }
theorem DX.empty {P : Program} {w : World} (kd : Kd) (H : Hp) (p : Addr) (h : (p == sysModules) = false) : DX P w kd (upd H p (objO p xObj0)) p [] := by
  refine ⟨_, upd_same, Nat.zero_le _, h, ?_⟩
  cases kd with
  | i => exact ⟨⟨rfl, rfl, rfl⟩, [], #[], 0, rfl, fun e he => by simp at he, .nil, List.nodup_nil, .nil⟩
  | t => exact ⟨⟨rfl, rfl, rfl⟩, [], #[], 0, rfl, rfl, List.nodup_nil, .nil⟩

section
variable {X : Cx}
/-- {k: v for target in iter if ..}: D the new dict; W by the turn and a measure, Nx what a turn is to reach -/
def tXDc (P : Program) (w : World) (wi : TI) (g : TG) (tt : TT) (tk tv : TE) (vs : List Nat) : TE := fun σ H Q => wi σ H fun J H1 => ∀ D u0, H1 D = none → (∀ kd, DX P w kd (upd H1 D u0) D []) → ∃ W : Nat → Nat → Hp → Prop, (∃ m, W 0 m (upd H1 D u0)) ∧ ∀ i m H, W i m H →
  (J.stop i H ∧ Q (.ref D) H) ∨ (J.go i H ∧ ∃ Nx : Hp → Prop, (∀ H', Nx H' → ∃ m', m' < m ∧ W (i + 1) m' H') ∧ ∀ x H', J.yld i H x H' → g x (wipe σ vs) H' fun σ2 H2 => wipe σ2 vs = wipe σ vs ∧ tt σ2 H2 fun b H3 =>
    if b = true then tk σ2 H3 fun y H4 => tv σ2 H4 fun z H5 => ∃ kd kvs k, KeyV kd H5 k y ∧ DX P w kd H5 D kvs ∧ kvs.length < sizeLine ∧ ∀ u, DX P w kd (upd H5 D u) D (putK kvs k z) → Nx (upd H5 D u) else Nx H3)
theorem xdc_core {pins : List (Addr × Obj)} {s : Shared} {σ : L2.St} {H : Hp} {Q : VK} {kx vx tg iter : Expr} {ifs : List Expr} {scope : Scope} {own : List (Str × Nat)} {pos pos' : Pos} {wi : TI} {g : TG} {tt : TT} {tk tv : TE} {use : Option (Value → Sem Unit)} {Qf : Value → Shared → Prop}
    (hu : X.A.units + 9 < cLine) (hc : X.calm = true) (hN : X.N.Nodup) (I : Inv X pins σ H s) (hi : PI X tg iter wi) (ok : BlkOk X.N X.env.scope scope own)
    (hg : ∀ (s : Shared) (H : Hp) (C : Addr) (cl : List (Str × Addr)) (fp : List Addr), PG (X.blk s H scope (compEnvC scope cl C X.env) fp) tg g)
    (ht : ∀ (s : Shared) (H : Hp) (C : Addr) (cl : List (Str × Addr)) (fp : List Addr), PTs (X.blk s H scope (compEnvC scope cl C X.env) fp) ifs tt)
    (hk : ∀ (s : Shared) (H : Hp) (C : Addr) (cl : List (Str × Addr)) (fp : List Addr), PE (X.blk s H scope (compEnvC scope cl C X.env) fp) kx tk)
    (he : ∀ (s : Shared) (H : Hp) (C : Addr) (cl : List (Str × Addr)) (fp : List Addr), PE (X.blk s H scope (compEnvC scope cl C X.env) fp) vx tv) (hs : ∀ x, foldedSetIterable iter X.env x = pure x)
    (h : tXDc X.prog X.w wi g tt tk tv (own.map (·.2)) σ H Q)
    (hend : ∀ D C s' m H', Inv X pins σ H' s' → Q (.ref D) H' → s'.heap.Ns C m → FpOk X pins H' C → compPost (model X.prog X.w) X.A X.xe use Qf (.ref D) C (.ok .next) s') :
    wpAny (model X.prog X.w) X.A (comprehension (.DictComp kx vx [⟨tg, iter, ifs, 0⟩] scope pos) scope X.env pos' newDict false (eval iter X.env) use) Qf X.xe s := by
  have caught : ∀ y ∈ scope.names, y.2 = .free → ∃ c, X.env.cells.lookup y.1 = some c := fun y hy e => (ok.free y hy e).elim (fun z => I.ok.has _ (.inl z)) fun z => I.ok.has _ (.inr z)
  refine wpAny_comprehension_free (use := use) rfl hs (closure_ok caught) ok.kind (fun y hy e => by rw [ok.uniq y hy, e]) (thn (hi.run pins s σ H _ I h) fun xv s1 hx => thn hx fun itv s2 h2 => ?_)
  obtain ⟨it, fp, tn, J, H2, rfl, I2, T, st2, f2, q⟩ := h2
  refine wpAny_newObj_type (newEnv_comp ?_)
  obtain ⟨D, hD⟩ : ∃ D, s2.heap.objs.size = D := ⟨_, rfl⟩
  have big : (D == sysModules) = false := beq_eq_false_iff_ne.mpr (by rw [← hD]; exact Ne.symm (Nat.ne_of_lt I2.big))
  have free2 : H2 D = none := I2.hok.fresh (Nat.le_of_eq hD)
  obtain ⟨W, ⟨m0, w0⟩, turn⟩ := q D (objO D xObj0) free2 fun kd => DX.empty kd H2 D big
  -- the empty dict is laid
  obtain ⟨s3, hs3⟩ : ∃ s3 : Shared, s3 = { s2 with heap := s2.heap.push xObj0 } := ⟨_, rfl⟩
  have at3 : s3.heap = s2.heap.push xObj0 := by rw [hs3]
  have I3 : Inv X pins σ (upd H2 D (objO D xObj0)) s3 := by
    rw [hs3]
    refine I2.laid (t' := s2.toks) (fun b o e => Heap.get?_push_of_some _ e) (Nat.le_of_eq hD) (objO_ok ?_)
    rw [← hD]
    exact Heap.get?_push_size _ rfl
  have under : ∀ b ∈ fp, b < s2.heap.objs.size := fun b hb => let ⟨o, e, _⟩ := T.obj _ _ st2 b hb; Heap.lt_size e
  obtain ⟨H3, hH3⟩ : ∃ H3, H3 = upd H2 D (objO D xObj0) := ⟨_, rfl⟩
  rw [← hH3] at I3 w0
  have f3 : ∀ b ∈ fp, FpOk X pins H3 b ∧ b < s3.heap.objs.size := fun b hb => by
    have lt := under b hb
    refine ⟨⟨?_, (f2 b hb).2⟩, by rw [at3, Heap.size_push]; exact Nat.lt_succ_of_lt lt⟩
    rw [hH3, L2.upd_ne (by rw [← hD]; exact Nat.ne_of_lt lt)]
    exact (f2 b hb).1
  have st3 : tn 0 s3.heap := T.keep _ _ _ st2 fun b _ o e => by rw [at3]; exact Heap.get?_push_of_some _ e
  have I4 := block_start I3 ok hN f3
  obtain ⟨cells, hcells⟩ : ∃ cl, cl = cellsFrom (s3.heap.objs.size + 1) scope.names (cloFrom X.env.cells scope.names []) := ⟨_, rfl⟩
  rw [← hcells] at I4
  have pg := hg s3 H3 s3.heap.objs.size cells fp
  have pt := ht s3 H3 s3.heap.objs.size cells fp
  have pk := hk s3 H3 s3.heap.objs.size cells fp
  have pv' := he s3 H3 s3.heap.objs.size cells fp
  have goal : codeAny (model X.prog X.w) X.A (.compStart (.DictComp kx vx [⟨tg, iter, ifs, 0⟩] scope pos) 0 (.ref it) (.ref D) (compEnvC scope cells s3.heap.objs.size X.env)) (compPost (model X.prog X.w) X.A X.xe use Qf (.ref D) s3.heap.objs.size) { s3 with heap := pushCells (s3.heap.push { cls := .type "dict", data := .dict #[] }) scope.names } := by
    obtain ⟨ce, hce⟩ : ∃ ce, ce = compEnvC scope cells s3.heap.objs.size X.env := ⟨_, rfl⟩
    rw [← hce] at I4 pg pt pk pv' ⊢
    have cL : ce.locals = s3.heap.objs.size := by rw [hce]; rfl
    obtain ⟨s4, hs4⟩ : ∃ s4 : Shared, s4 = { s3 with heap := pushCells (s3.heap.push { cls := .type "dict", data := .dict #[] }) scope.names } := ⟨_, rfl⟩
    rw [← hs4] at I4 ⊢
    have st4 : tn 0 s4.heap := T.keep _ _ _ st3 fun b _ o e => by rw [hs4]; exact pushCells_keeps _ _ _ _ (Heap.get?_push_of_some _ e)
    have still : ∀ {σ' : L2.St} {H' : Hp} {s' : Shared}, Inv (X.blk s3 H3 scope ce fp) [] σ' H' s' → (∀ b ∈ fp, H' b = none) → ∀ b ∈ fp, FpOk (X.blk s3 H3 scope ce fp) [] H' b := fun {σ' H' s'} I' hn b hb =>
      ⟨hn b hb, (I'.ok.exf b hb).1, I'.ok.exfs b hb, .inl hb, fun x c e => (I'.ok.exf b hb).2 x c e, fun p hp => absurd (show p ∈ ([] : List (Addr × Obj)) ++ [] from hp) (by simp)⟩
    refine codeAny_compStart_dict ?loop (T.self X.A 0 _ _ _ st4 ?loop)
    refine compLoop_anyD (fun n s' => ∃ i H', Inv (X.blk s3 H3 scope ce fp) [] (wipe σ (own.map (·.2))) H' s' ∧ tn i s'.heap ∧ (∀ b ∈ fp, H' b = none) ∧ W i n H') ?_ m0 ⟨0, H3, I4, st4, fun b hb => (f3 b hb).1.1, w0⟩
    rintro n s5 ⟨i, H5, I5, st5, n5, w5⟩
    rcases turn i n H5 w5 with ⟨stop, done⟩ | ⟨go, Nx, hNx, step⟩
    · refine thnF (T.done (X.blk s3 H3 scope ce fp) rfl rfl rfl hc i [] s5 _ H5 (fun _ _ => False) I5 (still I5 n5) st5 stop) fun r s6 ⟨hr, I6⟩ => ?_
      subst hr
      have I7 : Inv X pins σ H5 s6 := I3.call' (ch := fp) I6.os I6.base I6.hok I6.bare fun b hb => ⟨(f3 b hb).1.2.2.2.1, (f3 b hb).1.2.1, (f3 b hb).1.2.2.2.2.1, (f3 b hb).1.2.2.2.2.2⟩
      have nC : H5 s3.heap.objs.size = none := cL ▸ (show H5 ce.locals = none from I6.free)
      obtain ⟨m, hn, _⟩ := I6.loc
      exact hend D s3.heap.objs.size s6 m H5 I7 done (cL ▸ (show s6.heap.Ns ce.locals m from hn)) (I3.fpOk (Nat.le_refl _) nC)
    · refine thnF (T.item (X.blk s3 H3 scope ce fp) rfl rfl rfl hc i [] s5 _ H5 (fun _ _ => False) I5 (still I5 n5) st5 go) fun r s6 ⟨u, hr, h6⟩ => ?_
      subst hr
      refine thnF h6 fun _ s7 ⟨x, H7, I7, r7, y7, st7, n7⟩ => ?_
      refine thnF (pg.run _ s7 _ H7 x u _ (I7.pinned (still I7 n7) (T.obj _ _ st7)) r7 (step x H7 y7)) fun _ s8 ⟨σ8, H8, I8, hw8, q8⟩ => ?_
      refine thnF (pt.run _ s8 σ8 H8 _ I8 q8) fun b s9 ⟨H9, I9, q9⟩ => ?_
      -- behind the turn
      have again : ∀ {s' : Shared} {H' : Hp}, Inv (X.blk s3 H3 scope ce fp) ([] ++ pinsAt fp s7.heap) σ8 H' s' → Nx H' → ∃ m, m < n ∧ ∃ i H', Inv (X.blk s3 H3 scope ce fp) [] (wipe σ (own.map (·.2))) H' s' ∧ tn i s'.heap ∧ (∀ b ∈ fp, H' b = none) ∧ W i m H' := fun {s' H'} I' nx => by
        obtain ⟨m', hm, w'⟩ := hNx H' nx
        have stays : ∀ b ∈ fp, ∀ o, s7.heap.get? b = some o → s'.heap.get? b = some o ∧ H' b = none := fun b hb o e =>
          let z := I'.pin (b, o) (List.mem_append_right _ (List.mem_append_right _ (mem_pinsAt hb e)))
          ⟨z.1, z.2.1⟩
        refine ⟨m', hm, i + 1, H', (I'.unpinned (pins := [])).weak (by rw [← hw8, wipe_length]) (fun j v e => ?_), T.keep _ _ _ st7 fun b hb o e => (stays b hb o e).1, fun b hb => ?_, w'⟩
        · rw [← hw8] at e
          exact (wipe_some e).1
        · obtain ⟨o, e, _⟩ := T.obj _ _ st7 b hb
          exact (stays b hb o e).2
      cases b with
      | false =>
        simp only [Bool.false_eq_true, if_false] at q9 ⊢
        exact again I9 q9
      | true =>
        simp only [if_true] at q9 ⊢
        refine thnF (pk.run _ s9 σ8 H9 _ I9 q9) fun z s10 ⟨yk, H10, I10, r10, q10⟩ => ?_
        refine thnF (pv'.run _ s10 σ8 H10 _ I10 q10) fun z2 s11 ⟨yv, H11, I11, r11, kd, kvs, k, hky, hD11, hz11, nx⟩ => ?_
        exact x_dictSet (X := X.blk s3 H3 scope ce fp) hu I11 hD11 hky hz11 r10 r11 fun o s12 dx I12 => again I12 (nx o dx)
  subst hD
  rw [hcells, hs3] at goal
  exact goal
/-- as a value -/
theorem pe_xdc {kx vx tg iter : Expr} {ifs : List Expr} {scope : Scope} {own : List (Str × Nat)} {pos : Pos} {wi : TI} {g : TG} {tt : TT} {tk tv : TE} (hu : X.A.units + 9 < cLine) (hc : X.calm = true) (hN : X.N.Nodup) (hi : PI X tg iter wi) (ok : BlkOk X.N X.env.scope scope own)
    (hg : ∀ (s : Shared) (H : Hp) (C : Addr) (cl : List (Str × Addr)) (fp : List Addr), PG (X.blk s H scope (compEnvC scope cl C X.env) fp) tg g)
    (ht : ∀ (s : Shared) (H : Hp) (C : Addr) (cl : List (Str × Addr)) (fp : List Addr), PTs (X.blk s H scope (compEnvC scope cl C X.env) fp) ifs tt)
    (hk : ∀ (s : Shared) (H : Hp) (C : Addr) (cl : List (Str × Addr)) (fp : List Addr), PE (X.blk s H scope (compEnvC scope cl C X.env) fp) kx tk)
    (he : ∀ (s : Shared) (H : Hp) (C : Addr) (cl : List (Str × Addr)) (fp : List Addr), PE (X.blk s H scope (compEnvC scope cl C X.env) fp) vx tv) (hs : ∀ x, foldedSetIterable iter X.env x = pure x := by intro _; rfl) :
    PE X (.DictComp kx vx [⟨tg, iter, ifs, 0⟩] scope pos) (tXDc X.prog X.w wi g tt tk tv (own.map (·.2))) := by
  refine ⟨fun pins s σ H Q I h => ?_⟩
  rw [arm_eval_DictComp]
  refine xdc_core hu hc hN I hi ok hg ht hk he hs h fun D C s' m H' I' q hn f => ⟨m, hn, fun h'' sb => ?_⟩
  exact ⟨.ref D, H', I'.turned (t' := s'.toks) (fun b o hb e => (sb.2 b hb).trans e) f.1 f.2.1 f.2.2.2.1 f.2.2.2.2.1 f.2.2.2.2.2, rfl, q⟩
theorem sw_trueD {kx vx : Expr} {gs : List Comprehension} {scope : Scope} {pos py : Pos} {y : Str} {l : Nat} {env : Env} (hk : env.scope.kind = .function) (hy : env.scope.names.lookup y = some .local) (hl : (py.line == pos.line) = true)
    (ha : (scope.names.any fun (n, k) => n == y && (k == .local || k == .cell)) = false) : swapsWith (.DictComp kx vx gs scope pos) (some (.Name y py)) l env = pure true := by
  have ky : env.kindOf y = some .local := hy
  have hb : env.blockKind = .function := by unfold Env.blockKind; rw [hk]; rfl
  unfold swapsWith
  simp only [hb, ky, ha, Expr.pos, hl]
  rfl
/-- y = {k: v for ..} -/
theorem ps_setXDc {i : Nat} {y : Str} {py : Pos} {kx vx tg iter : Expr} {ifs : List Expr} {scope : Scope} {own : List (Str × Nat)} {pos spos : Pos} {wi : TI} {g : TG} {tt : TT} {tk tv : TE} (hu : X.A.units + 9 < cLine) (hc : X.calm = true) (hN : X.N.Nodup) (hy : X.N[i]? = some y) (hyl : X.env.scope.names.lookup y = some .local)
    (hsw : swapsWith (.DictComp kx vx [⟨tg, iter, ifs, 0⟩] scope pos) (some (.Name y py)) spos.line X.env = pure true) (hi : PI X tg iter wi) (ok : BlkOk X.N X.env.scope scope own)
    (hg : ∀ (s : Shared) (H : Hp) (C : Addr) (cl : List (Str × Addr)) (fp : List Addr), PG (X.blk s H scope (compEnvC scope cl C X.env) fp) tg g)
    (ht : ∀ (s : Shared) (H : Hp) (C : Addr) (cl : List (Str × Addr)) (fp : List Addr), PTs (X.blk s H scope (compEnvC scope cl C X.env) fp) ifs tt)
    (hk : ∀ (s : Shared) (H : Hp) (C : Addr) (cl : List (Str × Addr)) (fp : List Addr), PE (X.blk s H scope (compEnvC scope cl C X.env) fp) kx tk)
    (he : ∀ (s : Shared) (H : Hp) (C : Addr) (cl : List (Str × Addr)) (fp : List Addr), PE (X.blk s H scope (compEnvC scope cl C X.env) fp) vx tv) (hs : ∀ x, foldedSetIterable iter X.env x = pure x := by intro _; rfl) :
    PS X (.Assign [.Name y py] (.DictComp kx vx [⟨tg, iter, ifs, 0⟩] scope pos) spos) (tAsg (tXDc X.prog X.w wi g tt tk tv (own.map (·.2))) (gName i)) := by
  refine ⟨fun pins s σ H D I h => ?_⟩
  rw [exec_Assign_Name_used _ _ _ _ hsw]
  refine wpAny_bind (wpAny_standAt (wpAny_bind ?_))
  show wpAny _ X.A (do let _ ← comprehension (.DictComp kx vx [⟨tg, iter, ifs, 0⟩] scope pos) scope X.env (firstIterPos [⟨tg, iter, ifs, 0⟩] pos) newDict false (eval iter X.env) (some (assign (.Name y py) X.env))) _ _ s
  have h : tXDc X.prog X.w wi g tt tk tv (own.map (·.2)) σ H (fun x H1 => gName i x σ H1 D.nx) := h
  refine wpAny_bind (thn (xdc_core (Qf := fun _ s' => SP X pins D .next s') hu hc hN I hi ok hg ht hk he hs h fun L C s' m H' I' q hn f => ?_) fun _ s' hq => wpAny_pure (wpAny_pure hq))
  show wpAny _ _ (assign (.Name y py) X.env (.ref L)) _ _ _
  refine wpAny_assign_Name (store_ok2 (v := V.ref L) I' hN hy (.inl hyl) rfl (fun s2 I2 ⟨a, sb, ha⟩ => ?_) (.inr hyl))
  obtain ⟨f0, f1, f2, f3, f4, f5⟩ := f
  have haC : C ≠ a := by
    rcases ha with z | z
    · rw [z]; exact f1
    · exact fun e => f4 y a z e.symm
  refine ⟨m, hn.sameBut sb haC, fun h3 sb3 => ?_⟩
  exact ⟨_, H', I2.turned (t' := s2.toks) (fun b o hb e => (sb3.2 b hb).trans e) f0 f1 f3 f4 f5, q⟩
theorem dc_it {P : Program} {w : World} {J : It} {n : Nat} {g : TG} {tt : TT} {tk tv : TE} {vs : List Nat} {σ : L2.St} {H1 : Hp} {D : Addr} {u0 : HO} {Qd : Hp → Prop} (Pv : Nat → Hp → Prop) (h0 : Pv 0 (upd H1 D u0)) (hgo : ∀ i H, i < n → Pv i H → J.go i H) (hst : ∀ H, Pv n H → J.stop n H)
    (hs : ∀ i H x H', i < n → Pv i H → J.yld i H x H' → g x (wipe σ vs) H' fun σ2 H2 => wipe σ2 vs = wipe σ vs ∧ tt σ2 H2 fun b H3 =>
      if b = true then tk σ2 H3 fun y H4 => tv σ2 H4 fun z H5 => ∃ kd kvs k, KeyV kd H5 k y ∧ DX P w kd H5 D kvs ∧ kvs.length < sizeLine ∧ ∀ u, DX P w kd (upd H5 D u) D (putK kvs k z) → Pv (i + 1) (upd H5 D u) else Pv (i + 1) H3) (hd : ∀ H, Pv n H → Qd H) :
    ∃ W : Nat → Nat → Hp → Prop, (∃ m, W 0 m (upd H1 D u0)) ∧ ∀ i m H, W i m H →
      (J.stop i H ∧ Qd H) ∨ (J.go i H ∧ ∃ Nx : Hp → Prop, (∀ H', Nx H' → ∃ m', m' < m ∧ W (i + 1) m' H') ∧ ∀ x H', J.yld i H x H' → g x (wipe σ vs) H' fun σ2 H2 => wipe σ2 vs = wipe σ vs ∧ tt σ2 H2 fun b H3 =>
        if b = true then tk σ2 H3 fun y H4 => tv σ2 H4 fun z H5 => ∃ kd kvs k, KeyV kd H5 k y ∧ DX P w kd H5 D kvs ∧ kvs.length < sizeLine ∧ ∀ u, DX P w kd (upd H5 D u) D (putK kvs k z) → Nx (upd H5 D u) else Nx H3) := by
  refine ⟨fun i m H => i + m = n ∧ Pv i H, ⟨n, Nat.zero_add n, h0⟩, ?_⟩
  rintro i m H ⟨e, p⟩
  cases m with
  | zero =>
    obtain rfl : i = n := e
    exact .inl ⟨hst H p, hd H p⟩
  | succ m =>
    have hi : i < n := by omega
    exact .inr ⟨hgo i H hi p, Pv (i + 1), fun H' p' => ⟨m, Nat.lt_succ_self m, by omega, p'⟩, fun x H' y => hs i H x H' hi p y⟩
end
end WW


set_option maxHeartbeats 2000000

/-! operators of an own class: and, or, in, == -/
namespace WW
open PySem PySem.Spec PyProof.Rows L2

theorem back_of {v : V} {u : Value} {Q : Value → Shared → Prop} {s : Shared} (r : RelV v u) (q : Q u s) : PySem.W.CmpBack Q u s := by
  cases v with
  | non => cases r; exact q
  | bl _ => cases r; exact q
  | int _ => obtain ⟨t, rfl⟩ := r; exact q
  | str _ => obtain ⟨t, rfl⟩ := r; exact q
  | byt _ => obtain ⟨t, rfl⟩ := r; exact q
  | flt _ => obtain ⟨t, rfl⟩ := r; exact q
  | ref _ => cases r; exact q
  | ty _ => cases r; exact q
section
variable {X : Cx} {CX : CXT} {k : Nat} {f C : Addr} {fd : FuncData} {ps : List Str} {sp : Sp} {E : XK}
/-- x op y, both instances of the class, by the class's own method -/
def rOwn2 (C : Addr) (sp : Sp) (E : XK) : R2 := fun x y H Q => ∃ a b dx dy fs gs, x = .ref a ∧ y = .ref b ∧ H a = some (.ins C dx fs) ∧ H b = some (.ins C dy gs) ∧ sp [.ref a, .ref b] H Q E
theorem op_own {op : Operator} (F : FnOk X.prog X.w X.K X.mg X.base CX k f fd ps sp) (hr : Room k X.A) (hb : Binds X.K fd ps []) (hx : Passes CX X E) (hc : PySem.W.selfFirst X.K C = true)
    (hs : PySem.W.findIn X.K (.ref C) (PySem.dunder op.info.2) = some (some (.ref f))) (hf : PySem.W.isFn X.K (.ref f) = true) : OpR X (binaryOp op) (rOwn2 C sp E) := by
  intro pins s σ H x y u v Q I rx ry h
  obtain ⟨a, b, dx, dy, fs, gs, rfl, rfl, ha, hb', hq⟩ := h
  cases rx
  cases ry
  obtain ⟨mA, J, _⟩ := ins_get I.hok ha
  obtain ⟨mB, J', _⟩ := ins_get I.hok hb'
  obtain ⟨od, J, _⟩ := J.look
  obtain ⟨od', J', _⟩ := J'.look
  obtain ⟨m, hF⟩ := I.fr
  refine PySem.W.binop_K hF I.ok.mod.kin J J'.type hc hs hf ?_
  refine thn (run_fn F hr hb .nil hx I (vs := [.ref a, .ref b]) (us := [.ref a, .ref b]) (.cons rfl (.cons rfl .nil)) hq) fun r s' q => ?_
  obtain ⟨z, H', I', rz, qz⟩ := q
  exact back_of rz ⟨z, H', I', rz, qz⟩
theorem cmp_own {op : CmpOp} (F : FnOk X.prog X.w X.K X.mg X.base CX k f fd ps sp) (hr : Room k X.A) (hb : Binds X.K fd ps []) (hx : Passes CX X E)
    (hs : PySem.W.findIn X.K (.ref C) (cmpInfo op).2.1 = some (some (.ref f))) (hf : PySem.W.isFn X.K (.ref f) = true) (ho : ∀ a b, compareOp op a b = richCompare op a b) : OpR X (compareOp op) (rOwn2 C sp E) := by
  intro pins s σ H x y u v Q I rx ry h
  obtain ⟨a, b, dx, dy, fs, gs, rfl, rfl, ha, hb', hq⟩ := h
  cases rx
  cases ry
  obtain ⟨mA, J, _⟩ := ins_get I.hok ha
  obtain ⟨mB, J', _⟩ := ins_get I.hok hb'
  obtain ⟨od, J, _⟩ := J.look
  obtain ⟨od', J', _⟩ := J'.look
  obtain ⟨m, hF⟩ := I.fr
  rw [ho]
  refine PySem.W.cmp_K (op := op) (tb := .ref C) hr.units0 hF I.ok.mod.kin J J'.type (by simp [PySem.W.notFirst]) hs hf ?_
  refine thn (run_fn F hr hb .nil hx I (vs := [.ref a, .ref b]) (us := [.ref a, .ref b]) (.cons rfl (.cons rfl .nil)) hq) fun r s' q => ?_
  obtain ⟨z, H', I', rz, qz⟩ := q
  exact back_of rz ⟨z, H', I', rz, qz⟩
/-- y in x, x an instance of the class -/
def rOwnIn (C : Addr) (sp : Sp) (E : XK) : R2 := fun y x H Q => ∃ a dx fs, x = .ref a ∧ H a = some (.ins C dx fs) ∧ sp [.ref a, y] H (fun z H' => ∃ b, z = .bl b ∧ Q (.bl b) H') E
theorem in_own (F : FnOk X.prog X.w X.K X.mg X.base CX k f fd ps sp) (hr : Room k X.A) (hb : Binds X.K fd ps []) (hx : Passes CX X E)
    (hs : PySem.W.findIn X.K (.ref C) "__contains__" = some (some (.ref f))) (hf : PySem.W.isFn X.K (.ref f) = true) : OpR X (compareOp .In) (rOwnIn C sp E) := by
  intro pins s σ H y x v u Q I ry rx h
  obtain ⟨a, dx, fs, rfl, ha, hq⟩ := h
  cases rx
  obtain ⟨mA, J, _⟩ := ins_get I.hok ha
  obtain ⟨od, J, _⟩ := J.look
  have K0 := I.kIn
  have one : ∀ refuse : Sem Value, wpAny (model X.prog X.w) X.A (callSpecialUnlessNone? (.ref a) "__contains__" [v] refuse) (fun r s' => ∃ b H', r = some (Value.bool b) ∧ Inv X pins σ H' s' ∧ Q (.bl b) H') X.xe s := by
    intro refuse
    unfold callSpecialUnlessNone? specialOf
    refine wpAny_bind (wpAny_bind (J.type.here ((PySem.W.looks_findIn K0 hs).here ?_)))
    refine wpAny_holding (wpAny_bind ((PySem.W.bind_fn K0 _ (beq_iff_eq.mp hf)).here ?_))
    simp only [show (Value.ref f == Value.none) = false from rfl, Bool.false_eq_true, if_false]
    refine wpAny_bind ?_
    refine thn (run_fn F hr hb .nil hx I (vs := [.ref a, y]) (us := [.ref a, v]) (.cons rfl (.cons ry .nil)) hq) fun r s' q => ?_
    obtain ⟨z, H', I', rz, b, rfl, qz⟩ := q
    cases rz
    exact wpAny_pure ⟨b, H', rfl, I', qz⟩
  show wpAny _ _ (contains (Value.ref a) v >>= fun r => pure (Value.bool r)) _ _ _
  refine wpAny_bind ?_
  unfold contains
  refine wpAny_holding ?_
  simp only [show stdlibNamesSay? (.ref a) v = none from rfl]
  unfold specialOf
  refine wpAny_bind (wpAny_bind (J.type.here ((PySem.W.looks_findIn K0 hs).here ?_)))
  rw [if_neg (show ¬ (some (Value.ref f) == some Value.none) = true from fun q => nomatch q)]
  refine wpAny_bind (thn (one _) fun r s' q => ?_)
  obtain ⟨b, H', rfl, I', qz⟩ := q
  exact wpAny_truthy_bool (wpAny_pure ⟨.bl b, H', I', rfl, qz⟩)
end
end WW


set_option maxHeartbeats 2000000

/-! calls: isinstance, len, list, sorted over dicts of any keys -/
namespace WW
open PySem PySem.Spec PyProof.Rows L2

theorem build {α β γ : Type} {F : α → γ → Prop} {G : γ → β → Prop} : ∀ (as : List α) (bs : List β), as.length = bs.length → (∀ (i : Nat) a b, as[i]? = some a → bs[i]? = some b → ∃ c, F a c ∧ G c b) → ∃ cs, Paired F as cs ∧ Paired G cs bs
  | [], [], _, _ => ⟨[], .nil, .nil⟩
  | a :: as, b :: bs, hl, h => by
    obtain ⟨c, h1, h2⟩ := h 0 a b rfl rfl
    obtain ⟨cs, q1, q2⟩ := build as bs (by simpa using hl) fun i a' b' e1 e2 => h (i + 1) a' b' (by simpa using e1) (by simpa using e2)
    exact ⟨c :: cs, .cons h1 q1, .cons h2 q2⟩
  | [], _ :: _, hl, _ => by simp at hl
  | _ :: _, [], hl, _ => by simp at hl

section
variable {X : Cx} {pins : List (Addr × Obj)} {σ : L2.St} {H H' : Hp} {s : Shared} {h' : Heap} {t' : Nat}
/-- the heap has grown, what is new may be tracked -/
theorem grow (I : Inv X pins σ H s) (k : ∀ b o, s.heap.get? b = some o → h'.get? b = some o) (sm : Same H H') (nw : ∀ b, H b = none → b < s.heap.objs.size → H' b = none) (hok : HOk X.prog X.w H' h') : Inv X pins σ H' { s with heap := h', toks := t' } :=
  I.un ⟨fun b o e _ _ _ => k b o e, fun b o e _ _ _ => ⟨o.slots, k b o e⟩, fun b o e n _ => nw b n (Heap.lt_size e), fun b o e _ => ⟨o, k b o e⟩, fun b xs e => sm b _ e, fun b o u e => sm b _ e, fun b ps e => ⟨#[], by rw [sm b _ e]; simp⟩⟩ hok
end

/-! ### isinstance -/
def TyW (P : Program) (w : World) (K : PySem.W.Frag) (H : Hp) (x : V) (T : String) : Prop := TyX K H x (.type T) ∨ (T = "dict" ∧ ∃ a kd kvs, x = .ref a ∧ DX P w kd H a kvs)
section
variable {X : Cx}
theorem kit_w {pins : List (Addr × Obj)} {σ : L2.St} {H : Hp} {s : Shared} {x : V} {u : Value} {T : String} (I : Inv X pins σ H s) (rx : RelV x u) (ty : TyW X.prog X.w X.K H x T) : ∃ P : Heap → Prop, PySem.W.KitX X.K u (.type T) P ∧ P s.heap ∧ u ≠ .builtin "__main__.__loader__#opaque" := by
  rcases ty with ty | ⟨rfl, a, kd, kvs, rfl, d⟩
  · exact kit_of I rx ty
  · cases (show u = Value.ref a from rx)
    obtain ⟨o, e1, e2⟩ := d.typeIs I
    exact ⟨_, PySem.W.kitx_dict, ⟨o, e1, e2⟩, fun z => nomatch z⟩
def rIsW (P : Program) (w : World) (K : PySem.W.Frag) : List V → Hp → VK → Prop := fun xs H Q => ∃ (x : V) (T n : String) (b : Bool), xs = [x, .ty n] ∧ TyW P w K H x T ∧ kitB T n = some b ∧ Q (.bl b) H
theorem call_isw : CallR X (.builtin "isinstance") (rIsW X.prog X.w X.K) := by
  intro pins s σ H xs us Q I r h
  obtain ⟨x, T, n, b, rfl, ty, e, q⟩ := h
  obtain ⟨u1, u2, rfl, r1, r2⟩ := vals2 r
  cases (show u2 = Value.type n from r2)
  obtain ⟨P, Z, p, hx⟩ := kit_w I r1 ty
  exact PySem.W.kia_one Z I.kIn p (kit_ty e) hx fun tk => ⟨.bl b, H, I.tok tk, rfl, q⟩
def rIsW2 (P : Program) (w : World) (K : PySem.W.Frag) : List V → Hp → VK → Prop := fun xs H Q => ∃ (x : V) (tp : Addr) (T n m : String) (b c : Bool), xs = [x, .ref tp] ∧ H tp = some (.tup [.ty n, .ty m]) ∧ TyW P w K H x T ∧ kitB T n = some b ∧ kitB T m = some c ∧ Q (.bl (b || c)) H
theorem call_isw2 : CallR X (.builtin "isinstance") (rIsW2 X.prog X.w X.K) := by
  intro pins s σ H xs us Q I r h
  obtain ⟨x, tp, T, n, m, b, c, rfl, hT, ty, e1, e2, q⟩ := h
  obtain ⟨u1, u2, rfl, r1, r2⟩ := vals2 r
  cases (show u2 = Value.ref tp from r2)
  obtain ⟨P, Z, p, hx⟩ := kit_w I r1 ty
  obtain ⟨_, its, rv, o, h1, h2, k, h3⟩ := (show ObjOk X.prog X.w H s.heap tp (.tup [.ty n, .ty m]) from I.hok tp _ hT)
  obtain ⟨v1, v2, rfl, z1, z2⟩ := vals2 rv
  cases (show v1 = Value.type n from z1)
  cases (show v2 = Value.type m from z2)
  obtain ⟨oc, od, dt, sl⟩ := o
  simp only at h2 h3
  subst h2 h3
  have ka : PySem.W.kitAny X.K (.type T) [.type n, .type m] = some (b || c) := by
    refine kitAny_cons (kit_ty e1) (fun hb => ?_) (fun hb => by rw [hb]; rfl)
    refine kitAny_cons (kit_ty e2) (fun hc => ?_) (fun hc => by rw [hc, Bool.or_true])
    rw [hb, hc]
    exact kitAny_nil
  exact PySem.W.kia_tup Z I.kIn p h1 ka hx fun tk => ⟨.bl (b || c), H, I.tok tk, rfl, q⟩

/-! ### len(d), list(d) -/
def rLenX (P : Program) (w : World) : List V → Hp → VK → Prop := fun xs H Q => ∃ a kd kvs, xs = [.ref a] ∧ DX P w kd H a kvs ∧ Q (.int ((kvs.length : Nat) : Int)) H
theorem call_lenX : CallR X (.builtin "len") (rLenX X.prog X.w) := by
  intro pins s σ H xs us Q I r h
  obtain ⟨a, kd, kvs, rfl, d, q⟩ := h
  obtain ⟨u, rfl, r1⟩ := vals1 r
  cases (show u = Value.ref a from r1)
  obtain ⟨o, d1⟩ := d.one
  obtain ⟨hs, es, ep, hdt, hm, hz, _⟩ := d1.ents I
  have l63 := line63
  have lz := d1.2.1
  refine PyProof.Rows.call_len_slot (n := kvs.length) hm.typeIs PySem.F.slot_dict_len (fun Q' hq => call_len_raw hs hm (by rw [hz]; exact hq)) (by omega) (by omega) ⟨.int ((kvs.length : Nat) : Int), H, I.tok _, ⟨_, rfl⟩, q⟩
def KeysV (kd : Kd) (H : Hp) : List NestedKey → List V → Prop := Paired fun k y => KeyV kd H k y
def rListX (P : Program) (w : World) : List V → Hp → VK → Prop := fun xs H Q => ∃ a kd kvs, xs = [.ref a] ∧ DX P w kd H a kvs ∧ ∀ p ys, H p = none → KeysV kd H (kvs.map (·.1)) ys → Q (.ref p) (upd H p (.lst ys))
theorem call_listX (hc : X.calm = true) : CallR X (.type "list") (rListX X.prog X.w) := by
  intro pins s σ H xs us Q I r h
  obtain ⟨a, kd, kvs, rfl, d, q⟩ := h
  obtain ⟨u, rfl, r1⟩ := vals1 r
  cases (show u = Value.ref a from r1)
  obtain ⟨o, d1⟩ := d.one
  obtain ⟨hs, es, ep, hdt, hm, hz, ent⟩ := d1.ents I
  have lz := d1.2.1
  refine PySem.W.kdl_call (KdlSrc.rawDict (es := es) (ep := ep) hs) (I.ok.hd hc) hm (by omega) fun h' tk acc c k hD hacc => ?_
  have hfr : H s.heap.objs.size = none := I.hok.fresh (Nat.le_refl _)
  obtain ⟨ys, p1, p2⟩ := build (F := fun k y => KeyV kd H k y) (G := RelV) (kvs.map (·.1)) acc.toList (by have := hacc.1; simp; omega) fun i k' v' e1 e2 => by
    rw [List.getElem?_map] at e1
    obtain ⟨⟨k0, v0⟩, hk0, rfl⟩ := Option.map_eq_some_iff.mp e1
    obtain ⟨hi, y, hy1, hy2, _⟩ := ent i k0 v0 hk0
    obtain ⟨_, e3⟩ := hacc.2 i v' (by rw [← Array.getElem?_toList]; exact e2)
    exact ⟨y, hy1, by rw [e3]; exact hy2⟩
  have p2' : Vals ys acc.toList := p2
  refine ⟨.ref s.heap.objs.size, _, I.laid (t' := tk) (o := .lst ys) k (Nat.le_refl _) ⟨by have := hacc.1; have e := p2'.length; simp at e; omega, acc.toList, c, p2', by simpa using hD⟩, rfl, q _ ys hfr p1⟩

/-! ### sorted -/
mutual
theorem NV.reads {P : Program} {w : World} {H : Hp} {h : Heap} (ok : HOk P w H h) : ∀ (k : NestedKey) (v : V) (u : Value), NV H k v → RelV v u → ∃ as, Reads h u k.data as
  | .none, _, u, x, r => by
    cases x
    cases (show u = Value.none from r)
    exact ⟨_, .none⟩
  | .num i, _, u, x, r => by
    cases x
    obtain ⟨t, rfl⟩ := (show ∃ t, u = Value.int i t from r)
    exact ⟨_, .int i t⟩
  | .text y, _, u, x, r => by
    cases x
    obtain ⟨t, rfl⟩ := (show ∃ t, u = Value.str y t from r)
    exact ⟨_, .str y t⟩
  | .tup ks, _, u, x, r => by
    obtain ⟨b, xs, rfl, q, z⟩ := x
    cases (show u = Value.ref b from r)
    obtain ⟨_, its, rv, o, e1, e2, n, e3⟩ := (show ObjOk P w H h b (.tup xs) from ok b _ q)
    obtain ⟨as, ra⟩ := NVs.reads ok ks xs its z rv
    exact ⟨as, .tuple e1 e2 e3 (by simpa using ra)⟩
theorem NVs.reads {P : Program} {w : World} {H : Hp} {h : Heap} (ok : HOk P w H h) : ∀ (ks : List NestedKey) (vs : List V) (us : List Value), NVs H ks vs → Vals vs us → ∃ as, ReadsAll h us (NestedKey.datas ks) as
  | [], _, us, x, r => by
    cases x
    cases r
    exact ⟨_, .nil⟩
  | k :: ks, _, us, x, r => by
    obtain ⟨y, t, rfl, q, z⟩ := x
    cases r with
    | cons r1 r2 =>
      obtain ⟨a1, h1⟩ := NV.reads ok k y _ q r1
      obtain ⟨a2, h2⟩ := NVs.reads ok ks t _ z r2
      exact ⟨_, .cons h1 h2⟩
end
def keyLe (a b : NestedKey) : Bool := PySem.W.dataLe false NestedKey.data a b
/-- tuples with an item at least, or one item alone -/
def SortOk (ks : List NestedKey) : Prop := PySem.W.AllAlike (ks.map NestedKey.data) ∧ ((∀ k ∈ ks, ∃ x r, k = .tup (x :: r)) ∨ ks = [.tup []]) ∧ ∀ k ∈ ks, k.data.depth ≤ 8
theorem sorts_one {prog : Program} {w : World} {A : Around} {s : Shared} {v : Value} {as : List Addr} (hu : A.units + 1 < cLine) (r : Reads s.heap v (.tuple []) as) : PySem.W.SortsAt prog w A s (PySem.W.dataKind s.heap [.tuple []]) [v] := by
  have al : PySem.W.AllAlike [PyData.tuple []] := by
    intro d hd d' hd'
    rw [List.mem_singleton.mp hd, List.mem_singleton.mp hd']
    rfl
  refine ⟨fun u hu => ?_, tuples' true, ?_, fun h2 => absurd h2 (by simp)⟩
  · rw [List.mem_singleton.mp hu]
    exact ⟨_, PySem.W.dataKind_some al (List.mem_singleton.mpr rfl) r⟩
  · intro E x y a b Q ha hb hq
    obtain ⟨d, as1, hd, ra, rfl⟩ := PySem.W.dataKind_inv ha
    obtain ⟨d', as2, hd', rb, rfl⟩ := PySem.W.dataKind_inv hb
    obtain rfl := List.mem_singleton.mp hd
    obtain rfl := List.mem_singleton.mp hd'
    have hq' : Q (PySem.W.dataLt (.tuple []) (.tuple [])) s := hq
    rw [PySem.W.dataLt_tuple] at hq'
    cases ra with
    | @tuple la oa va na _ _ h1 h2 h3 h4 =>
      cases rb with
      | @tuple lb ob vb nb _ _ k1 k2 k3 k4 =>
        have n1 : va.size = ([] : List PyData).length := by simpa using SeqAt.ReadsAll.length _ _ _ h4
        have n2 : vb.size = ([] : List PyData).length := by simpa using SeqAt.ReadsAll.length _ _ _ k4
        exact PySem.W.kat_lt h1 h3 k1 k3 (PySem.W.katLex_alike [] [] 0 _ _ _ _ h4 k4 rfl (by simp [PyData.depthAll]; omega) (fun _ _ x r t e => nomatch e) (by rw [n1, n2]) hq')
/-- xs.sort() of a list that holds keys -/
theorem sort_keys {prog : Program} {w : World} {A : Around} {E : Value → Shared → Prop} {s : Shared} {L : Addr} {vs : List Value} {n : Nat} {ks : List NestedKey} {R : Value → NestedKey → Prop} {Q : Value → Shared → Prop}
    (ho : s.heap.get? L = some (seqObj "list" vs.toArray n)) (hu : A.units + 20 < cLine) (e : PySem.W.EachIs R vs ks) (er : ∀ h' : Heap, (∀ b o, b ≠ L → s.heap.get? b = some o → h'.get? b = some o) → PySem.W.EachIs (fun v b => ∃ as, Reads h' v b.data as) vs ks) (ok : SortOk ks) (hL : ks.length ≤ sizeLine)
    (h : ∀ out, out.length = ks.length → PySem.W.EachIs R out (ks.mergeSort keyLe) → Q .none { s with heap := sortedHeap s.heap L vs (List.toArray out) }) :
    wpAny (model prog w) A (call (.builtin "list.sort") [.ref L]) Q E s := by
  have lv : vs.length = ks.length := e.length
  have er' := er (PySem.W.sortingHeap s.heap L vs) fun b o hb q => PySem.W.sortingHeap_old hb q
  rcases ok with ⟨al, ht | rfl, hd⟩
  · have hs : PySem.W.Sortable (ks.map NestedKey.data) := .inl fun d hd => by
      obtain ⟨k, hk, rfl⟩ := List.mem_map.mp hd
      obtain ⟨x, r, rfl⟩ := ht k hk
      exact ⟨x.data, NestedKey.datas r, by simp [NestedKey.data, NestedKey.datas]⟩
    have bound : ∀ d, d ∈ ks.map NestedKey.data → A.in1.units + d.depth < cLine := fun d hd' => by
      obtain ⟨k, hk, rfl⟩ := List.mem_map.mp hd'
      have := hd k hk
      show A.units + 1 + _ < _
      omega
    refine wpAny_call_entry slot_list_sort ⟨_, ho, rfl⟩ entry_list_sort (PySem.W.list_sort_vals (κ := PySem.W.dataKind (PySem.W.sortingHeap s.heap L vs) (ks.map NestedKey.data)) ho (PySem.W.SortsAt.data (s := { s with heap := PySem.W.sortingHeap s.heap L vs }) (PySem.W.each_map (R := fun v d => ∃ as, Reads (PySem.W.sortingHeap s.heap L vs) v d as) NestedKey.data er') al hs bound) (by rw [lv]; exact hL) ⟨.none, rfl, ?_⟩) (args_list_sort _)
    exact h _ (by rw [PySem.W.sortVals_length false rfl]; exact lv) (PySem.W.sortVals_data false e er' al)
  · cases e with
    | @cons v k vs1 ks1 h1 t =>
      cases t
      cases er' with
      | cons r1 t1 =>
        obtain ⟨as, r1⟩ := r1
        have rd : Reads (PySem.W.sortingHeap s.heap L [v]) v (.tuple []) as := r1
        refine wpAny_call_entry slot_list_sort ⟨_, ho, rfl⟩ entry_list_sort (PySem.W.list_sort_vals (κ := PySem.W.dataKind (PySem.W.sortingHeap s.heap L [v]) [.tuple []]) ho (sorts_one (s := { s with heap := PySem.W.sortingHeap s.heap L [v] }) (by show A.units + 1 + 1 < cLine; omega) rd) hL ⟨.none, rfl, ?_⟩) (args_list_sort _)
        have al1 : PySem.W.AllAlike (([NestedKey.tup []] : List NestedKey).map NestedKey.data) := al
        exact h _ (by rw [PySem.W.sortVals_length false rfl]; rfl) (PySem.W.sortVals_data false (.cons h1 .nil) (.cons ⟨as, r1⟩ .nil) al1)
end
end WW


set_option maxHeartbeats 2000000

/-! calls: sorted, set sizes, dict(..), list of views -/
namespace WW
open PySem PySem.Spec PyProof.Rows L2

theorem paired_of_each {α β : Type} {R : α → β → Prop} : ∀ {as : List α} {bs : List β}, PySem.W.EachIs R as bs → Paired (fun b a => R a b) bs as
  | _, _, .nil => .nil
  | _, _, .cons h t => .cons h (paired_of_each t)
theorem each_of_paired {α β : Type} {R : α → β → Prop} : ∀ {as : List α} {bs : List β}, Paired (fun b a => R a b) bs as → PySem.W.EachIs R as bs
  | _, _, .nil => .nil
  | _, _, .cons h t => .cons h (each_of_paired t)
theorem paired_split {α β γ : Type} {F : α → γ → Prop} {G : γ → β → Prop} : ∀ {as : List α} {bs : List β}, Paired (fun a b => ∃ c, F a c ∧ G c b) as bs → ∃ cs, Paired F as cs ∧ Paired G cs bs
  | _, _, .nil => ⟨[], .nil, .nil⟩
  | _, _, .cons ⟨c, h1, h2⟩ t => let ⟨cs, p1, p2⟩ := paired_split t; ⟨c :: cs, .cons h1 p1, .cons h2 p2⟩
theorem paired_join {α β γ : Type} {F : α → γ → Prop} {G : γ → β → Prop} : ∀ {as : List α} {cs : List γ} {bs : List β}, Paired F as cs → Paired G cs bs → Paired (fun a b => ∃ c, F a c ∧ G c b) as bs
  | _, _, _, .nil, .nil => .nil
  | _, _, _, .cons h1 t1, .cons h2 t2 => .cons ⟨_, h1, h2⟩ (paired_join t1 t2)

section
variable {X : Cx}
/-- behind the gathering: the new list is sorted -/
theorem sorted_core {pins : List (Addr × Obj)} {σ : L2.St} {H : Hp} {s : Shared} {a : Addr} {ks : List NestedKey} {Q : VK} (I : Inv X pins σ H s) (hu : X.A.units + 30 < cLine) (ok : ∀ ks' : List NestedKey, ks'.Perm ks → SortOk ks') (hL : ks.length ≤ sizeLine)
    (hcol : ∀ (R : List Value → Shared → Prop), (∀ (s1 : Shared) (ks' : List NestedKey) (ys : List V) (vs : List Value), (∀ b o, s.heap.get? b = some o → s1.heap.get? b = some o) → s1.gens = s.gens → s1.os = s.os → ks'.Perm ks → Paired (NV H) ks' ys → Vals ys vs → R vs s1) → wpAny (model X.prog X.w) X.A.in1 (collect (.ref a)) R X.xe s)
    (q : ∀ p (ys : List V) (ks' : List NestedKey), H p = none → ks'.Perm ks → ks'.Pairwise (fun x y => keyLe x y = true) → Paired (NV H) ks' ys → Q (.ref p) (upd H p (.lst ys))) :
    wpAny (model X.prog X.w) X.A (call (.builtin "sorted") [.ref a]) (EP X pins σ Q) X.xe s := by
  refine Calls.call_function_entry kind_sorted plain_sorted entry_sorted (args_sorted1 _) ?_
  unfold Builtin.«sorted»
  refine wpAny_bind (m := checkCount "sorted" 1 1 _) (wpAny_pure ?_)
  refine wpAny_bind (hcol _ fun s1 ks1 ys vs k g1 o1 pm p1 p2 => ?_)
  have lv : vs.length = ks1.length := by rw [← Paired.length p2, ← Paired.length p1]
  have l1 : ks1.length = ks.length := pm.length_eq
  refine wpAny_bind (wpAny_newList ?_ (by omega))
  have hoL : (s1.heap.push (seqObj "list" vs.toArray 0)).get? s1.heap.objs.size = some (seqObj "list" vs.toArray 0) := Heap.get?_push_size _ rfl
  have hok1 : HOk X.prog X.w H s1.heap := I.hok.kept k
  have hfr : H s1.heap.objs.size = none := hok1.fresh (Nat.le_refl _)
  have apart : ∀ b o, s.heap.get? b = some o → b ≠ s1.heap.objs.size := fun b o e => Nat.ne_of_lt (Heap.lt_size (k b o e))
  have both : Paired (fun b u => ∃ y, NV H b y ∧ RelV y u) ks1 vs := paired_join p1 p2
  have e1 : PySem.W.EachIs (fun u b => ∃ y, NV H b y ∧ RelV y u) vs ks1 := each_of_paired both
  refine wpAny_bind (wpAny_holding (sort_keys (s := { s1 with heap := s1.heap.push (seqObj "list" vs.toArray 0) }) (ks := ks1) (R := fun u b => ∃ y, NV H b y ∧ RelV y u) hoL (by show X.A.units + 1 + 20 < cLine; omega) e1 (fun h' kh => ?_) (ok ks1 pm) (by omega) fun out lo eo => ?_))
  · refine e1.mono fun u b hz => ?_
    obtain ⟨y, n1, r1⟩ := hz
    have hokh : HOk X.prog X.w H h' := hok1.kept fun b o e => kh b o (Nat.ne_of_lt (Heap.lt_size e)) (Heap.get?_push_of_some _ e)
    exact NV.reads hokh b y u n1 r1
  · obtain ⟨c, hc⟩ := sortedHeap_at (vs := vs) (out := List.toArray out) hoL
    obtain ⟨ys', q1, q2⟩ := paired_split (paired_of_each eo)
    have q2' : Vals ys' out := q2
    have kp : ∀ b o, s.heap.get? b = some o → (sortedHeap (s1.heap.push (seqObj "list" vs.toArray 0)) s1.heap.objs.size vs (List.toArray out)).get? b = some o := fun b o e => by
      have e' := k b o e
      have hlt := Heap.lt_size e'
      rw [sortedHeap_old (Nat.ne_of_lt hlt) (by rw [size_push']; exact Nat.lt_succ_of_lt hlt)]
      exact Heap.get?_push_of_some _ e'
    refine wpAny_pure ⟨_, rfl, ?_⟩
    have kp1 : ∀ b o, s1.heap.get? b = some o → (sortedHeap (s1.heap.push (seqObj "list" vs.toArray 0)) s1.heap.objs.size vs (List.toArray out)).get? b = some o := fun b o e' => by
      have hlt := Heap.lt_size e'
      rw [sortedHeap_old (Nat.ne_of_lt hlt) (by rw [size_push']; exact Nat.lt_succ_of_lt hlt)]
      exact Heap.get?_push_of_some _ e'
    have J : Inv X pins σ (upd H s1.heap.objs.size (.lst ys')) { s with heap := sortedHeap (s1.heap.push (seqObj "list" vs.toArray 0)) s1.heap.objs.size vs (List.toArray out), gens := s1.gens, drawn := s1.drawn, toks := s1.toks } :=
      I.call (ch := []) ⟨fun b o e _ _ _ => kp b o e, fun b o e _ _ _ => ⟨o.slots, kp b o e⟩, fun b o e n _ => by rw [L2.upd_ne (apart b o e)]; exact n, fun b o e _ => ⟨o, kp b o e⟩, fun b xs e => by rw [L2.upd_ne (ne_of_none e hfr)]; exact e, fun b o u e => by rw [L2.upd_ne (ne_of_none e hfr)]; exact e,
        fun b ps e => ⟨#[], by rw [L2.upd_ne (ne_of_none e hfr), e]; simp⟩⟩ (hok1.laid kp1 (Nat.le_refl _) ⟨by rw [q2'.length, lo]; omega, out, c, q2', hc⟩) (by rw [g1]; exact I.bare) (fun _ z => nomatch z)
    have es : ({ s1 with heap := sortedHeap (s1.heap.push (seqObj "list" vs.toArray 0)) s1.heap.objs.size vs (List.toArray out) } : Shared) = { s with heap := sortedHeap (s1.heap.push (seqObj "list" vs.toArray 0)) s1.heap.objs.size vs (List.toArray out), gens := s1.gens, drawn := s1.drawn, toks := s1.toks } := by
      cases s1
      cases s
      cases o1
      rfl
    show EP X pins σ Q _ { s1 with heap := _ }
    rw [es]
    exact ⟨.ref s1.heap.objs.size, _, J, rfl, q _ ys' _ hfr ((List.mergeSort_perm _ _).trans pm) (PySem.W.sort_pairwise (PySem.W.sortLe_total _ false _) ks1) q1⟩
theorem sortOk_perm {ks ks' : List NestedKey} (p : ks'.Perm ks) (h : SortOk ks) : SortOk ks' := by
  obtain ⟨a, b, c⟩ := h
  have m : ∀ {x}, x ∈ ks' → x ∈ ks := fun hx => p.mem_iff.mp hx
  refine ⟨fun d hd d' hd' => ?_, ?_, fun k hk => c k (m hk)⟩
  · obtain ⟨k, hk, rfl⟩ := List.mem_map.mp hd
    obtain ⟨k', hk', rfl⟩ := List.mem_map.mp hd'
    exact a _ (List.mem_map.mpr ⟨k, m hk, rfl⟩) _ (List.mem_map.mpr ⟨k', m hk', rfl⟩)
  · rcases b with b | rfl
    · exact .inl fun k hk => b k (m hk)
    · exact .inr (List.perm_singleton.mp p)
/-- what sorted takes: a dict whose keys are tuples, a list, a set -/
def SrtSrc (P : Program) (w : World) (K : PySem.W.Frag) (H : Hp) (a : Addr) (ks : List NestedKey) : Prop :=
  (∃ kvs, DX P w .t H a kvs ∧ ks = kvs.map (·.1)) ∨ (∃ xs, SqL K H a xs ∧ Paired (NV H) ks xs) ∨
    ∃ L : List (Addr × List Int), H a = some (SetTO P w a L) ∧ (∀ p ∈ L, H p.1 = some (.tup (p.2.map V.int))) ∧ ks = L.map fun p => .tup (p.2.map .num)
def rSrt (P : Program) (w : World) (K : PySem.W.Frag) : List V → Hp → VK → Prop := fun vs H Q => ∃ (a : Addr) (ks : List NestedKey), vs = [.ref a] ∧ SrtSrc P w K H a ks ∧ SortOk ks ∧
  ∀ p (ys : List V) (ks' : List NestedKey), H p = none → ks'.Perm ks → ks'.Pairwise (fun x y => keyLe x y = true) → Paired (NV H) ks' ys → Q (.ref p) (upd H p (.lst ys))
theorem nvs_nums (H : Hp) : ∀ ns : List Int, NVs H (ns.map NestedKey.num) (ns.map V.int)
  | [] => rfl
  | n :: ns => ⟨_, _, rfl, rfl, nvs_nums H ns⟩
theorem call_srt (hc : X.calm = true) (hu : X.A.units + 30 < cLine) : CallR X (.builtin "sorted") (rSrt X.prog X.w X.K) := by
  intro pins s σ H xs us Q I r h
  obtain ⟨a, ks, rfl, src, ok, q⟩ := h
  obtain ⟨u, rfl, r1⟩ := vals1 r
  cases (show u = Value.ref a from r1)
  rcases src with ⟨kvs, d, rfl⟩ | ⟨xs, hl, pk⟩ | ⟨L, ha, hk, rfl⟩
  · obtain ⟨o, d1⟩ := d.one
    obtain ⟨hs, es, ep, hdt, hm, hz, ent⟩ := d1.ents I
    have lz := d1.2.1
    refine sorted_core I hu (fun _ p => sortOk_perm p ok) (by rw [List.length_map]; exact lz) (fun R hR => ?_) q
    refine PySem.W.kdu_collect (A := X.A.in1) (KdlSrc.rawDict (es := es) (ep := ep) hs) (I.ok.hd hc) hm (by omega) fun h' tk acc k hacc => ?_
    obtain ⟨ys, p1, p2⟩ := build (F := NV H) (G := RelV) (kvs.map (·.1)) acc.toList (by have := hacc.1; simp; omega) fun i k' v' e1 e2 => by
      rw [List.getElem?_map] at e1
      obtain ⟨⟨k0, v0⟩, hk0, rfl⟩ := Option.map_eq_some_iff.mp e1
      obtain ⟨hi, y, ⟨b, hyb, hy1, _⟩, hy2, _⟩ := ent i k0 v0 hk0
      obtain ⟨_, e3⟩ := hacc.2 i v' (by rw [← Array.getElem?_toList]; exact e2)
      exact ⟨y, hy1, by rw [e3]; exact hy2⟩
    exact hR _ _ ys _ k rfl rfl (List.Perm.refl _) p1 p2
  · obtain ⟨its, rv, pl, hz⟩ := I.list hl
    have e1 := Paired.length pk
    refine sorted_core I hu (fun _ p => sortOk_perm p ok) (by omega) (fun R hR => ?_) q
    refine collect_list (vs := its) pl.isList ?_ (by rw [← rv.length]; exact hz)
    exact hR { s with heap := _ } ks xs its (fun b o e => by
      rw [Heap.get?_update_ne _ _ _ _ (Nat.ne_of_lt (Heap.lt_size e))]
      exact Heap.get?_push_of_some _ e) rfl rfl (List.Perm.refl _) pk rv
  · have R0 : SetT0 X.prog X.w s.heap a L := (I.hok a _ ha).1
    obtain ⟨es, ep, t, R⟩ := R0.full fun p hp => I.isT (SqT.of (hk p hp))
    obtain ⟨o, ho, hex, hd⟩ := R.ob
    have hsz := R.size
    have hfew := R.few
    refine sorted_core I hu (fun _ p => sortOk_perm p ok) (by rw [List.length_map, sizeLine_eq]; omega) (fun R' hR => ?_) q
    refine collect_set (A := X.A.in1) (I.ok.hd hc) ⟨o, ho, hex.1, hd⟩ R.fits (by unfold scanBound; omega) R.tab.ris R.led fun s1 out k1 hz g1 o1 pm => ?_
    have hes : es.toList.map (·.2) = L.map fun p => Value.ref p.1 := by
      rw [R.rows]
      unfold rowsOf
      rw [List.map_map] <;> rfl
    rw [hes] at pm
    -- the rows in the order that they came
    have order : ∀ (out : List Value) (M : List (Addr × List Int)), out.Perm (M.map fun p => Value.ref p.1) → ∃ M' : List (Addr × List Int), M'.Perm M ∧ out = M'.map fun p => Value.ref p.1 := by
      intro out
      induction out with
      | nil =>
        intro M pm
        have e := pm.length_eq
        rw [List.length_map] at e
        obtain rfl : M = [] := List.length_eq_zero_iff.mp e.symm
        exact ⟨[], List.Perm.refl _, rfl⟩
      | cons v out ih =>
        intro M pm
        obtain ⟨p, hp, rfl⟩ := List.mem_map.mp (pm.mem_iff.mp List.mem_cons_self)
        obtain ⟨A1, A2, rfl⟩ := List.append_of_mem hp
        have pm2 : out.Perm ((A1 ++ A2).map fun p => Value.ref p.1) := by
          rw [List.map_append, List.map_cons] at pm
          have z := pm.trans List.perm_middle
          rw [← List.map_append] at z
          exact z.cons_inv
        obtain ⟨M', q1, q2⟩ := ih _ pm2
        exact ⟨p :: M', (q1.cons p).trans List.perm_middle.symm, by rw [q2]; rfl⟩
    obtain ⟨M', q1, rfl⟩ := order out L pm
    have all : ∀ M : List (Addr × List Int), (∀ p ∈ M, p ∈ L) → Paired (NV H) (M.map fun p => .tup (p.2.map .num)) (M.map fun p => V.ref p.1) ∧ Vals (M.map fun p => V.ref p.1) (M.map fun p => Value.ref p.1) := by
      intro M
      induction M with
      | nil => exact fun _ => ⟨.nil, .nil⟩
      | cons p M ih =>
        intro hM
        obtain ⟨z1, z2⟩ := ih fun x hx => hM x (List.mem_cons_of_mem _ hx)
        exact ⟨.cons ⟨p.1, _, rfl, hk p (hM p List.mem_cons_self), nvs_nums H p.2⟩ z1, .cons rfl z2⟩
    obtain ⟨z1, z2⟩ := all M' fun p hp => q1.mem_iff.mp hp
    exact hR s1 _ _ _ k1 g1 o1 (q1.map _) z1 z2

/-! ### len(set) -/
def rLenSetT (P : Program) (w : World) : List V → Hp → VK → Prop := fun vs H Q => ∃ (a : Addr) (L : List (Addr × List Int)), vs = [.ref a] ∧ H a = some (SetTO P w a L) ∧ (∀ p ∈ L, H p.1 = some (.tup (p.2.map V.int))) ∧ ((L.map (·.2)).Nodup → Q (.int ((L.length : Nat) : Int)) H)
theorem call_lenSetT : CallR X (.builtin "len") (rLenSetT X.prog X.w) := by
  intro pins s σ H xs us Q I r h
  obtain ⟨a, L, rfl, ha, hk, q⟩ := h
  obtain ⟨u, rfl, r1⟩ := vals1 r
  cases (show u = Value.ref a from r1)
  have R0 : SetT0 X.prog X.w s.heap a L := (I.hok a _ ha).1
  obtain ⟨es, ep, t, R⟩ := R0.full fun p hp => I.isT (SqT.of (hk p hp))
  obtain ⟨o, ho, hex, hd⟩ := R.ob
  have hsz := R.size
  have hfew := R.few
  exact call_len_set ho hex hd R.fits (by omega) ⟨.int ((L.length : Nat) : Int), H, I.tok _, ⟨_, by rw [hsz]⟩, q R.nd⟩
/-- len(set(e)), e a list of ints -/
def dcount (ns : List Int) : Nat := (firstMet (fun i => ns.getD i 0) ns.length).length
def tLenSetN (K : PySem.W.Frag) (ta : TE) : TE := fun σ H Q => ta σ H fun x H1 => ∃ (l : Addr) (ns : List Int), x = V.ref l ∧ SqL K H1 l (ns.map V.int) ∧ ns.length < 64 ∧ Q (.int ((dcount ns : Nat) : Int)) H1
theorem pe_lenSetN {a : Expr} {ta : TE} {p p2 q pos : Pos} (hc : X.calm = true) (hg : Gl X "len") (hm : X.mg "len" = none) (hg2 : Gl X "set") (hm2 : X.mg "set" = none) (ha : PE X a ta)
    (na : starEach [a] X.env = (false, eval a X.env) :: starEach [] X.env := by rfl) : PE X (.Call (.Name "len" p) [.Call (.Name "set" p2) [a] [] q] [] pos) (tLenSetN X.K ta) := by
  refine ⟨fun pins s σ H Q I h => ?_⟩
  refine Call_ (ld_blt I hg hm PySem.boot_len ?_)
  refine PyProof.Rows.callWith_builtin1 (PyProof.Rows.args_cons ?_ rfl) rfl rfl
  refine Call_ (ld_blt I hg2 hm2 PyProof.Rows.boot_set ?_)
  refine PyProof.Rows.callWith_type1 (PyProof.Rows.args_cons (thn (ha.run pins s σ H _ I h) fun v s1 ⟨x, H1, I1, r1, q1⟩ => PyProof.Rows.args_nil ?_) na) na rfl
  obtain ⟨l, ns, rfl, hq, h1, q1⟩ := q1
  cases r1
  obtain ⟨its, r, pl, hz⟩ := I1.list hq
  have hl : its.toArray.size = ns.length := by rw [List.size_toArray, ← r.length, List.length_map]
  refine call_set_list (I1.ok.hd hc) pl.isList (ns := ns) (by simpa using r.ints) (by unfold scanBound; omega) fun h' tk hS hk => ?_
  rw [hl] at hS
  refine PyProof.Rows.args_nil ?_
  obtain ⟨o, es, ep, t, ho, hex, hd, _, _, _, hf, hn⟩ := hS
  have I2 : Inv X pins σ H1 { s1 with heap := h', toks := tk } := I1.kept fun b o e => hk b o (Heap.lt_size e) e
  have hle := firstMet_length_le (fun i => ns.getD i 0) ns.length
  exact call_len_set ho hex hd hf (by rw [hn]; omega) ⟨.int ((dcount ns : Nat) : Int), H1, I2.tok _, ⟨_, by rw [hn] <;> rfl⟩, q1⟩
end
end WW


set_option maxHeartbeats 2000000

/-! dict(..), list of views -/
namespace WW
open PySem PySem.Spec PyProof.Rows L2

theorem paired_eq {α β : Type} {f : α → β} : ∀ {as : List α} {ys : List β}, Paired (fun a y => y = f a) as ys → ys = as.map f
  | _, _, .nil => rfl
  | _, _, .cons h t => by rw [List.map_cons, ← paired_eq t, h]
theorem paired_left {α β : Type} {F : α → β → Prop} : ∀ {as : List α} {bs : List β}, Paired F as bs → ∀ a ∈ as, ∃ b, b ∈ bs ∧ F a b
  | _, _, .cons (a := a) (b := b) h t, x, hx => by
    rcases List.mem_cons.mp hx with rfl | hx
    · exact ⟨b, List.mem_cons_self, h⟩
    · obtain ⟨y, hy, q⟩ := paired_left t x hx
      exact ⟨y, List.mem_cons_of_mem _ hy, q⟩
theorem paired_right {α β : Type} {F : α → β → Prop} : ∀ {as : List α} {bs : List β}, Paired F as bs → ∀ b ∈ bs, ∃ a, a ∈ as ∧ F a b
  | _, _, .cons (a := a) (b := b) h t, x, hx => by
    rcases List.mem_cons.mp hx with rfl | hx
    · exact ⟨a, List.mem_cons_self, h⟩
    · obtain ⟨y, hy, q⟩ := paired_right t x hx
      exact ⟨y, List.mem_cons_of_mem _ hy, q⟩

section
variable {X : Cx}
/-! ### dict(pairs) -/
def rDictP (P : Program) (w : World) (K : PySem.W.Frag) : List V → Hp → VK → Prop := fun xs H Q => ∃ (l : Addr) (ts : List Addr) (kvs : List (NestedKey × V)), xs = [.ref l] ∧ SqL K H l (ts.map V.ref) ∧
  Paired (fun t (p : NestedKey × V) => ∃ b, H t = some (.tup [.ref b, p.2]) ∧ NV H p.1 (.ref b) ∧ p.1.depth ≤ 8) ts kvs ∧ (kvs.map (·.1)).Nodup ∧
  ∀ p u, H p = none → DX P w .t (upd H p u) p kvs → Q (.ref p) (upd H p u)
theorem refs_eq : ∀ {ts : List Addr} {us : List Value}, Vals (ts.map V.ref) us → us = ts.map Value.ref
  | [], _, .nil => rfl
  | t :: ts, _, .cons r q => by
    cases r
    rw [refs_eq q] <;> rfl
theorem call_dictPx (hc : X.calm = true) (hu : X.A.units + 30 < cLine) : CallR X (.type "dict") (rDictP X.prog X.w X.K) := by
  intro pins s σ H xs us Q I r h
  obtain ⟨l, ts, kvs, rfl, hl, hp, nd, q⟩ := h
  obtain ⟨u, rfl, r1⟩ := vals1 r
  cases (show u = Value.ref l from r1)
  obtain ⟨its, rv, pl, hz⟩ := I.list hl
  obtain rfl := refs_eq rv
  rw [List.length_map] at hz
  -- the entries as they stand in the heap
  have ent : ∀ (ts : List Addr) (kvs : List (NestedKey × V)), Paired (fun t (p : NestedKey × V) => ∃ b, H t = some (.tup [.ref b, p.2]) ∧ NV H p.1 (.ref b) ∧ p.1.depth ≤ 8) ts kvs →
      ∃ es : List (NestedKey × Addr × Value), KN H kvs es ∧ Paired (fun t (e : NestedKey × Addr × Value) => s.heap.IsTuple t #[.ref e.2.1, e.2.2]) ts es := by
    intro ts kvs hp
    induction hp with
    | nil => exact ⟨[], .nil, .nil⟩
    | @cons t p ts kvs h1 _ ih =>
      obtain ⟨b, e1, e2, e3⟩ := h1
      obtain ⟨es, q1, q2⟩ := ih
      obtain ⟨_, its, rv, o, x1, x2, n, x3⟩ := (show ObjOk X.prog X.w H s.heap t (.tup [.ref b, p.2]) from I.hok t _ e1)
      obtain ⟨u1, u2, rfl, z1, z2⟩ := vals2 rv
      cases (show u1 = Value.ref b from z1)
      exact ⟨(p.1, b, u2) :: es, .cons ⟨rfl, ⟨e2, e3⟩, z2⟩ q1, .cons ⟨o, x1, x2, n, x3⟩ q2⟩
  obtain ⟨es, kn, tp⟩ := ent ts kvs hp
  have lt : ts.length = es.length := Paired.length tp
  have lk : kvs.length = es.length := Paired.length kn
  have keys : kvs.map (·.1) = es.map (·.1) := by
    clear tp lt lk hp nd q ent
    induction kn with
    | nil => rfl
    | cons h _ ih => rw [List.map_cons, List.map_cons, ih, h.1]
  have nde : (es.map (·.1)).Nodup := by rw [← keys]; exact nd
  let ps : List (Value × Value) := es.map fun e => (.ref e.2.1, e.2.2)
  let Ts : Nat → Addr := fun j => ts.getD j 0
  have lp : ps.length = es.length := List.length_map _
  have items : PairItems s.heap (ts.map Value.ref).toArray Ts ps := by
    refine ⟨by simp [ps, lt], fun j k v hj => ?_⟩
    rw [List.getElem?_map] at hj
    obtain ⟨e, he, ee⟩ := Option.map_eq_some_iff.mp hj
    cases ee
    have hjt : j < ts.length := by rw [lt]; exact (List.getElem?_eq_some_iff.mp he).1
    have ht : ts[j]? = some ts[j] := List.getElem?_eq_getElem hjt
    obtain ⟨e', he', it⟩ := paired_get tp ht
    rw [he] at he'
    cases he'
    have et : Ts j = ts[j] := by simp [Ts, List.getD_eq_getElem?_getD, ht]
    rw [et]
    exact ⟨by simp [ht], .inl it⟩
  have fr : H s.heap.objs.size = none := I.hok.fresh (Nat.le_refl _)
  have keysOk := kn.keys I.hok
  refine call_dict_pairsH (knd := nestedKind X.prog X.w) (ps := es) (PairArg.list l (ts.map Value.ref).toArray Ts ps) (I.ok.hd hc) (by show X.A.units + 1 + 1 + 8 < cLine; omega) ⟨?_, items⟩ ⟨by rw [lp], fun i k v hr => ?_⟩ (fun h' hk x hx => ?_) (by omega) fun h' tk dd hk => ?_
  · obtain ⟨o, n, e1, e2, e3, e4⟩ := pl
    exact ⟨o, n, e1, e2, e3, e4⟩
  · have hr' : ps[i]? = some (k, v) := hr
    rw [List.getElem?_map] at hr'
    obtain ⟨e, he, ee⟩ := Option.map_eq_some_iff.mp hr'
    cases ee
    exact ⟨e.1, e.2.1, he, rfl⟩
  · exact nestedKind_stays.stays (fun b o vs n e _ => hk b o (Nat.ne_of_lt (Heap.lt_size e)) (fun z => nomatch z) e) (keysOk x hx)
  · rw [storedAllH_nil_of_nodup _ nde] at dd
    have kp : ∀ b o, s.heap.get? b = some o → h'.get? b = some o := fun b o e => hk b o (fun z => nomatch z) e
    have hs : (s.heap.objs.size == sysModules) = false := beq_eq_false_iff_ne.mpr (Ne.symm (Nat.ne_of_lt I.big))
    obtain ⟨o, eo, dx⟩ := DX.of_t (H := H) dd (fun ys e => by rw [fr] at e; cases e) kn hs (by omega)
    exact ⟨.ref s.heap.objs.size, _, I.laid (t' := tk) kp (Nat.le_refl _) (objO_ok eo), rfl, q _ _ fr dx⟩

/-! ### dict(enumerate(e)) -/
def tDictEnum (P : Program) (w : World) (K : PySem.W.Frag) (ta : TE) : TE := fun σ H Q => ta σ H fun x H1 => ∃ (l : Addr) (xs : List V), x = .ref l ∧ SqL K H1 l xs ∧
  ∀ p u, H1 p = none → DX P w .i (upd H1 p u) p (xs.zipIdx.map fun q => (.num ((q.2 : Nat) : Int), q.1)) → Q (.ref p) (upd H1 p u)
theorem pe_dictEnum {a : Expr} {ta : TE} {p p2 q pos : Pos} (hc : X.calm = true) (hg : Gl X "dict") (hm : X.mg "dict" = none) (hg2 : Gl X "enumerate") (hm2 : X.mg "enumerate" = none) (ha : PE X a ta)
    (na : starEach [a] X.env = (false, eval a X.env) :: starEach [] X.env := by rfl) : PE X (.Call (.Name "dict" p) [.Call (.Name "enumerate" p2) [a] [] q] [] pos) (tDictEnum X.prog X.w X.K ta) := by
  refine ⟨fun pins s σ H Q I h => ?_⟩
  refine Call_ (ld_blt (u := .type "dict") I hg hm (by decide +kernel) ?_)
  refine PyProof.Rows.callWith_type1 (PyProof.Rows.args_cons ?_ rfl) rfl rfl
  refine Call_ (ld_blt (u := .type "enumerate") I hg2 hm2 (by decide +kernel) ?_)
  refine PyProof.Rows.callWith_type1 (PyProof.Rows.args_cons (thn (ha.run pins s σ H _ I h) fun v s1 ⟨x, H1, I1, r1, q1⟩ => PyProof.Rows.args_nil ?_) na) na rfl
  obtain ⟨l, xs, rfl, hl, q1⟩ := q1
  cases r1
  obtain ⟨its, rv, pl, hz⟩ := I1.list hl
  have lx : xs.length = its.length := rv.length
  refine call_enumerate_list pl.isList fun h' he hi hsz k => ?_
  refine PyProof.Rows.args_nil ?_
  have e1 : s1.heap.objs.size + 1 ≠ s1.heap.objs.size := Nat.succ_ne_self _
  have ll : l < s1.heap.objs.size := pl.lt
  let vs : List (Int × Value) := its.zipIdx.map fun q => (((q.2 : Nat) : Int), q.1)
  have lv : vs.length = its.length := by simp [vs]
  have getv : ∀ i : Nat, vs[i]? = (its[i]?).map fun v => ((i : Int), v) := fun i => by
    simp only [vs, List.getElem?_map, List.getElem?_zipIdx]
    cases its[i]? <;> simp
  have nd : (vs.map (·.1)).Nodup := by
    rw [List.nodup_iff_pairwise_ne, List.pairwise_iff_getElem] at *
    intro i j hi hj hij e
    simp [vs] at e
    omega
  refine call_dict_pairs (knd := intKind X.prog X.w) (kvs := vs) (PairArg.enumerate (s1.heap.objs.size + 1) s1.heap.objs.size l e1 (Nat.ne_of_lt (Nat.lt_succ_of_lt ll)) (Nat.ne_of_lt ll) its.toArray) (I1.ok.hd hc) ⟨⟨_, he⟩, hi, pl.isList.at fun o e => k l o e⟩ ⟨by simp [lv], fun i key v hr => ?_⟩ (by simp; omega) fun h2 tk dd hk => ?_
  · obtain ⟨⟨t, rfl⟩, hv⟩ := hr
    have hv' : its[i]? = some v := by simpa using hv
    exact ⟨(i : Int), by rw [getv, hv']; rfl, intKind_is _ _ _ t⟩
  · rw [merged_nil_of_nodup _ nd] at dd
    have kp : ∀ b o, s1.heap.get? b = some o → h2.get? b = some o := fun b o e => hk b o (by
      have := Heap.lt_size e
      simp only [List.mem_cons, List.not_mem_nil, or_false, not_or]
      exact ⟨Nat.ne_of_lt (Nat.lt_succ_of_lt this), Nat.ne_of_lt this⟩) (k b o e)
    have hge : s1.heap.objs.size ≤ h'.objs.size := by rw [hsz]; omega
    have fr : H1 h'.objs.size = none := I1.hok.fresh hge
    have hs : (h'.objs.size == sysModules) = false := beq_eq_false_iff_ne.mpr (Ne.symm (Nat.ne_of_lt (Nat.lt_of_lt_of_le I1.big hge)))
    have ki : KI (xs.zipIdx.map fun q => (.num ((q.2 : Nat) : Int), q.1)) vs := by
      have gen : ∀ (n : Nat) {xs : List V} {its : List Value}, Vals xs its → KI ((xs.zipIdx n).map fun q => (NestedKey.num ((q.2 : Nat) : Int), q.1)) ((its.zipIdx n).map fun q => (((q.2 : Nat) : Int), q.1)) := by
        intro n xs its r
        induction r generalizing n with
        | nil => exact .nil
        | cons r _ ih => exact .cons ⟨rfl, r⟩ (ih (n + 1))
      exact gen 0 rv
    obtain ⟨o, eo, dx⟩ := DX.of_i (H := H1) dd ki hs (by simp; omega)
    exact ⟨.ref h'.objs.size, _, I1.laid (t' := tk) kp hge (objO_ok eo), rfl, q1 _ _ fr dx⟩

/-! ### list(d.values()), list(d.items()) -/
def tListVals (P : Program) (w : World) (td : TE) : TE := fun σ H Q => td σ H fun x H1 => ∃ a kd kvs, x = .ref a ∧ DX P w kd H1 a kvs ∧ ∀ p, H1 p = none → Q (.ref p) (upd H1 p (.lst (kvs.map (·.2))))
theorem pe_listVals {e : Expr} {td : TE} {p apos cpos pos : Pos} (hc : X.calm = true) (hg : Gl X "list") (hm : X.mg "list" = none) (he : PE X e td) (hbase : attributeBase e "values" X.env (eval e X.env) = eval e X.env := by rfl) (hline : (apos.endLine == cpos.line) = true := by rfl)
    (na : starEach [.Call (.Attribute e "values" apos) [] [] cpos] X.env = (false, eval (.Call (.Attribute e "values" apos) [] [] cpos) X.env) :: starEach [] X.env := by rfl) : PE X (.Call (.Name "list" p) [.Call (.Attribute e "values" apos) [] [] cpos] [] pos) (tListVals X.prog X.w td) := by
  refine ⟨fun pins s σ H Q I h => ?_⟩
  refine Call_ (ld_blt (u := .type "list") I hg hm (by decide +kernel) ?_)
  refine PyProof.Rows.callWith_type1 (PyProof.Rows.args_cons ?_ na) na rfl
  refine wpAny_Call_method (T := "dict") (id := "dict.values") hbase rfl hline F.plainAttrs_dict F.slot_dict_values F.type_dict_values (thn (he.run pins s σ H _ I h) fun u s1 ⟨x, H1, I1, rx, a, kd, kvs, ex, d, q⟩ => ?_)
  subst ex
  obtain rfl : u = Value.ref a := rx
  obtain ⟨o, d1⟩ := d.one
  obtain ⟨hs, es, ep, hdt, hmm, hz, ent⟩ := d1.ents I1
  have lz := d1.2.1
  refine ⟨hmm.typeIs, noDict_raw hmm, ?_⟩
  show wpAny _ _ (callWith cpos (.builtin "dict.values") [.ref a] [] []) _ X.xe s1
  refine method_meetsIn F.slot_dict_values F.entry_dict_values rfl (PySem.evalArgs_none ⟨rfl, hmm.typeIs, F.args_dict_values_1 _, _, meets_dict_values_raw a hs, ⟨es, ep, hmm⟩, ?_⟩)
  refine PyProof.Rows.args_nil ?_
  have J : Inv X pins σ H1 { s1 with heap := s1.heap.push { cls := .type "dict_values", data := .fields #[.ref a] } } := I1.kept (t' := s1.toks) fun b ob q => Heap.get?_push_of_some _ q
  refine PySem.W.kdl_call (KdlSrc.rawValues (r := s1.heap.objs.size) (d := a) (es := es) (ep := ep)) (I1.ok.hd hc) ⟨⟨_, Heap.get?_push_size _ rfl, rfl, rfl⟩, hmm.at fun o e => Heap.get?_push_of_some _ e⟩ (by omega) fun h' tk acc c k hD hacc => ?_
  have fr := J.hok.fresh (Nat.le_refl _)
  obtain ⟨ys, p1, p2⟩ := build (F := fun (p : NestedKey × V) y => y = p.2) (G := RelV) kvs acc.toList (by have := hacc.1; simp; omega) fun i p' v' e1 e2 => by
    obtain ⟨k0, v0⟩ := p'
    obtain ⟨hi, y, _, _, hv⟩ := ent i k0 v0 e1
    obtain ⟨_, e3⟩ := hacc.2 i v' (by rw [← Array.getElem?_toList]; exact e2)
    exact ⟨v0, rfl, by rw [e3]; exact hv⟩
  have ey : ys = kvs.map (·.2) := paired_eq p1
  have p2' : Vals ys acc.toList := p2
  rw [ey] at p2'
  exact ⟨.ref _, _, J.laid (t' := tk) (o := .lst (kvs.map (·.2))) k (Nat.le_refl _) ⟨by rw [List.length_map]; exact lz, acc.toList, c, p2', by simpa using hD⟩, rfl, q _ fr⟩

/-- several new objects -/
def lay (H : Hp) : List (Addr × HO) → Hp
  | [] => H
  | z :: zs => upd (lay H zs) z.1 z.2
theorem lay_out {H : Hp} {b : Addr} : ∀ {zs : List (Addr × HO)}, (∀ z ∈ zs, z.1 ≠ b) → lay H zs b = H b
  | [], _ => rfl
  | z :: zs, h => by
    show upd (lay H zs) z.1 z.2 b = H b
    rw [L2.upd_ne (Ne.symm (h z List.mem_cons_self))]
    exact lay_out fun y hy => h y (List.mem_cons_of_mem _ hy)
theorem lay_in {H : Hp} : ∀ {zs : List (Addr × HO)}, zs.Pairwise (fun x y => x.1 ≠ y.1) → ∀ z ∈ zs, lay H zs z.1 = some z.2
  | z :: zs, h, x, hx => by
    show upd (lay H zs) z.1 z.2 x.1 = some x.2
    rw [List.pairwise_cons] at h
    rcases List.mem_cons.mp hx with rfl | hx
    · exact upd_same
    · rw [L2.upd_ne (Ne.symm (h.1 x hx))]
      exact lay_in h.2 x hx
theorem lay_cases {H : Hp} {b : Addr} {o : HO} : ∀ {zs : List (Addr × HO)}, lay H zs b = some o → (b, o) ∈ zs ∨ (H b = some o ∧ ∀ z ∈ zs, z.1 ≠ b)
  | [], h => .inr ⟨h, fun z hz => nomatch hz⟩
  | z :: zs, h => by
    have h : upd (lay H zs) z.1 z.2 b = some o := h
    by_cases e : b = z.1
    · subst e
      rw [upd_same] at h
      cases h
      exact .inl List.mem_cons_self
    · rw [L2.upd_ne e] at h
      rcases lay_cases h with q | ⟨q1, q2⟩
      · exact .inl (List.mem_cons_of_mem _ q)
      · exact .inr ⟨q1, fun y hy => by
          rcases List.mem_cons.mp hy with rfl | hy
          · exact Ne.symm e
          · exact q2 y hy⟩
def tListItems (P : Program) (w : World) (td : TE) : TE := fun σ H Q => td σ H fun x H1 => ∃ a kd kvs, x = .ref a ∧ DX P w kd H1 a kvs ∧
  ∀ p ts H', H1 p = none → Same H1 H' → H' p = some (.lst (ts.map V.ref)) → Paired (fun t (e : NestedKey × V) => ∃ y, KeyV kd H1 e.1 y ∧ H1 t = none ∧ H' t = some (.tup [y, e.2])) ts kvs → Q (.ref p) H'
theorem pe_listItems {e : Expr} {td : TE} {p apos cpos pos : Pos} (hc : X.calm = true) (hg : Gl X "list") (hm : X.mg "list" = none) (he : PE X e td) (hbase : attributeBase e "items" X.env (eval e X.env) = eval e X.env := by rfl) (hline : (apos.endLine == cpos.line) = true := by rfl)
    (na : starEach [.Call (.Attribute e "items" apos) [] [] cpos] X.env = (false, eval (.Call (.Attribute e "items" apos) [] [] cpos) X.env) :: starEach [] X.env := by rfl) : PE X (.Call (.Name "list" p) [.Call (.Attribute e "items" apos) [] [] cpos] [] pos) (tListItems X.prog X.w td) := by
  refine ⟨fun pins s σ H Q I h => ?_⟩
  refine Call_ (ld_blt (u := .type "list") I hg hm (by decide +kernel) ?_)
  refine PyProof.Rows.callWith_type1 (PyProof.Rows.args_cons ?_ na) na rfl
  refine wpAny_Call_method (T := "dict") (id := "dict.items") hbase rfl hline F.plainAttrs_dict F.slot_dict_items F.type_dict_items (thn (he.run pins s σ H _ I h) fun u s1 ⟨x, H1, I1, rx, a, kd, kvs, ex, d, q⟩ => ?_)
  subst ex
  obtain rfl : u = Value.ref a := rx
  obtain ⟨o, d1⟩ := d.one
  obtain ⟨hs, es, ep, hdt, hmm, hz, ent⟩ := d1.ents I1
  have lz := d1.2.1
  refine ⟨hmm.typeIs, noDict_raw hmm, ?_⟩
  show wpAny _ _ (callWith cpos (.builtin "dict.items") [.ref a] [] []) _ X.xe s1
  refine method_meetsIn F.slot_dict_items F.entry_dict_items rfl (PySem.evalArgs_none ⟨rfl, hmm.typeIs, F.args_dict_items_1 _, _, meets_dict_items_raw a hs, ⟨es, ep, hmm⟩, ?_⟩)
  refine PyProof.Rows.args_nil ?_
  have J : Inv X pins σ H1 { s1 with heap := s1.heap.push { cls := .type "dict_items", data := .fields #[.ref a] } } := I1.kept (t' := s1.toks) fun b ob q => Heap.get?_push_of_some _ q
  refine PySem.W.dil_call (r := s1.heap.objs.size) (d := a) (es := es) (ep := ep) (s := { s1 with heap := s1.heap.push { cls := .type "dict_items", data := .fields #[.ref a] } }) (I1.ok.hd hc) ⟨_, Heap.get?_push_size _ rfl, rfl, rfl⟩ (hmm.at fun o e => Heap.get?_push_of_some _ e) (by omega) fun h' tk acc c as k hD hal hG hacc => ?_
  obtain ⟨p0, hp0⟩ : ∃ p0, p0 = (s1.heap.push { cls := .type "dict_items", data := .fields #[.ref a] }).objs.size := ⟨_, rfl⟩
  have frp : H1 p0 = none := J.hok.fresh (Nat.le_of_eq hp0.symm)
  have above : ∀ t ∈ as, p0 < t := fun t ht => by rw [hp0]; exact hG.above t ht
  have frt : ∀ t ∈ as, H1 t = none := fun t ht => J.hok.fresh (by
    have := above t ht
    show (s1.heap.push _).objs.size ≤ t
    rw [← hp0]
    exact Nat.le_of_lt this)
  obtain ⟨ys, py, pv'⟩ := build (F := fun (t : Addr) (z : Addr × HO) => z.1 = t ∧ ObjOk X.prog X.w H1 h' t z.2) (G := fun (z : Addr × HO) (p : NestedKey × V) => ∃ y, KeyV kd H1 p.1 y ∧ z.2 = .tup [y, p.2]) as kvs (by omega) fun i t p' e1 e2 => by
    obtain ⟨k0, v0⟩ := p'
    obtain ⟨hi, y, hy1, hy2, hv⟩ := ent i k0 v0 e2
    obtain ⟨hj, e3⟩ := hG.pairs i t e1
    exact ⟨(t, .tup [y, v0]), ⟨rfl, by show 2 ≤ sizeLine; decide, [_, _], .cons hy2 (.cons hv .nil), ⟨_, e3, rfl, _, rfl⟩⟩, y, hy1, rfl⟩
  have fst : as = ys.map (·.1) := by
    have gen : ∀ (as : List Addr) (ys : List (Addr × HO)), Paired (fun (t : Addr) (z : Addr × HO) => z.1 = t ∧ ObjOk X.prog X.w H1 h' t z.2) as ys → as = ys.map (·.1) := by
      intro as ys h
      induction h with
      | nil => rfl
      | cons h _ ih => rw [List.map_cons, ← ih, h.1]
    exact gen as ys py
  have okz : ∀ z ∈ ys, ObjOk X.prog X.w H1 h' z.1 z.2 := fun z hz => by
    obtain ⟨t, _, e1, e2⟩ := paired_right py z hz
    rw [e1]
    exact e2
  have inAs : ∀ z ∈ ys, z.1 ∈ as := fun z hz => by rw [fst]; exact List.mem_map.mpr ⟨z, hz, rfl⟩
  have pw : ys.Pairwise (fun x y => x.1 ≠ y.1) := by
    have h := hG.rise
    rw [fst] at h
    exact (List.pairwise_map.mp h).imp fun h => Nat.ne_of_lt h
  obtain ⟨H', hH'⟩ : ∃ H', H' = lay H1 ((p0, .lst (as.map V.ref)) :: ys) := ⟨_, rfl⟩
  have pwAll : ((p0, HO.lst (as.map V.ref)) :: ys).Pairwise (fun x y => x.1 ≠ y.1) := List.pairwise_cons.mpr ⟨fun z hz => Nat.ne_of_lt (above _ (inAs z hz)), pw⟩
  have new : ∀ z ∈ (p0, HO.lst (as.map V.ref)) :: ys, H1 z.1 = none := fun z hz => by
    rcases List.mem_cons.mp hz with rfl | hz
    · exact frp
    · exact frt _ (inAs z hz)
  have sm : Same H1 H' := fun b ob e => by
    rw [hH', lay_out fun z hz ez => ?_]
    · exact e
    · rw [← ez, new z hz] at e
      cases e
  have hok : HOk X.prog X.w H' h' := fun b ob e => by
    rw [hH'] at e
    rcases lay_cases e with hm' | ⟨e1, _⟩
    · rcases List.mem_cons.mp hm' with e2 | hm'
      · cases e2
        refine ⟨by rw [List.length_map, hal]; omega, acc.toList, c, ?_, ?_⟩
        · rw [hacc]
          have : ∀ l : List Addr, Vals (l.map V.ref) (l.map Value.ref) := fun l => by
            induction l with
            | nil => exact .nil
            | cons x l ih => exact .cons rfl ih
          exact this as
        · rw [hp0]
          simpa using hD
      · exact (okz _ hm').stay (fun _ _ _ q => q) (fun b e => sm _ _ e) fun b xs e => sm _ _ e
    · exact (J.hok.kept k b ob e1).stay (fun _ _ _ q => q) (fun b e => sm _ _ e) fun b xs e => sm _ _ e
  have J2 : Inv X pins σ H' { s1 with heap := h', toks := tk } := grow (s := { s1 with heap := s1.heap.push { cls := .type "dict_items", data := .fields #[.ref a] } }) (t' := tk) J k sm (fun b hb lt => by
    rw [hH', lay_out fun z hz ez => ?_]
    · exact hb
    · have lt' : b < p0 := by rw [hp0]; exact lt
      rcases List.mem_cons.mp hz with rfl | hz
      · exact absurd lt' (by rw [← ez]; exact Nat.lt_irrefl _)
      · have := above _ (inAs z hz)
        rw [ez] at this
        exact absurd (Nat.lt_trans this lt') (Nat.lt_irrefl _)) hok
  refine ⟨.ref p0, H', J2, by rw [hp0]; rfl, q p0 as H' frp sm (by rw [hH']; exact lay_in pwAll _ List.mem_cons_self) ?_⟩
  have fin : ∀ (as : List Addr) (ys : List (Addr × HO)) (kvs : List (NestedKey × V)), Paired (fun (t : Addr) (z : Addr × HO) => z.1 = t ∧ ObjOk X.prog X.w H1 h' t z.2) as ys → Paired (fun (z : Addr × HO) (p : NestedKey × V) => ∃ y, KeyV kd H1 p.1 y ∧ z.2 = .tup [y, p.2]) ys kvs →
      (∀ z ∈ ys, H' z.1 = some z.2 ∧ H1 z.1 = none) → Paired (fun t (e : NestedKey × V) => ∃ y, KeyV kd H1 e.1 y ∧ H1 t = none ∧ H' t = some (.tup [y, e.2])) as kvs := by
    intro as ys kvs p1
    induction p1 generalizing kvs with
    | nil => intro p2 _; cases p2; exact .nil
    | cons h1 _ ih =>
      intro p2 hz
      cases p2 with
      | cons h2 t2 =>
        obtain ⟨y, e1, e2⟩ := h2
        have z0 := hz _ List.mem_cons_self
        refine .cons ⟨y, e1, by rw [← h1.1]; exact z0.2, by rw [← h1.1, z0.1, e2]⟩ (ih _ t2 fun z hz' => hz z (List.mem_cons_of_mem _ hz'))
  exact fin as ys kvs py pv' fun z hz => ⟨by rw [hH']; exact lay_in pwAll z (List.mem_cons_of_mem _ hz), new z (List.mem_cons_of_mem _ hz)⟩
end
end WW


set_option maxHeartbeats 2000000

/-! the text by places, the data, short rules -/
namespace WW
open PySem PySem.Spec PyProof.Rows L2

def top (i : Nat) : Stmt := PySem.Challenge.pw_wirewords_k52_whole_one_pattern_within_a.main.body.getD i (.Pass ⟨0, 0, 0, 0⟩)
/-- a def of the text, where it stands, how it binds -/
structure Dn (K : PySem.W.Frag) (mg : Str → Option Value) (x : Str) (st : Stmt) (ps : List Str) where
  f : Addr
  fd : FuncData
  F : Fun K x x st f fd
  b : Binds K fd ps []
  g : mg x = some (.ref f)
/-- a method of the class at C -/
structure Md (K : PySem.W.Frag) (C : Addr) (x qual : Str) (st : Stmt) (ps : List Str) where
  f : Addr
  fd : FuncData
  F : Fun K x qual st f fd
  b : Binds K fd ps []
  a : PySem.W.findIn K (.ref C) x = some (some (.ref f))
  i : PySem.W.isFn K (.ref f) = true

/-! ### kinds of values -/
inductive Ty7 where
  | non | bl | int | str | lst | tup | dct
  deriving DecidableEq
def Ty7.nm : Ty7 → String
  | .non => "NoneType" | .bl => "bool" | .int => "int" | .str => "str" | .lst => "list" | .tup => "tuple" | .dct => "dict"
def IsTy (P : Program) (w : World) (K : PySem.W.Frag) (H : Hp) (x : V) : Ty7 → Prop
  | .non => x = .non
  | .bl => ∃ b, x = .bl b
  | .int => ∃ i, x = .int i
  | .str => ∃ i, x = .str i
  | .lst => ∃ a xs, x = .ref a ∧ H a = some (.lst xs)
  | .tup => ∃ a xs, x = .ref a ∧ H a = some (.tup xs)
  | .dct => ∃ a kd kvs, x = .ref a ∧ DX P w kd H a kvs
theorem IsTy.w {P : Program} {w : World} {K : PySem.W.Frag} {H : Hp} {x : V} {t : Ty7} (h : IsTy P w K H x t) : TyW P w K H x t.nm := by
  cases t with
  | non => cases h; exact .inl (.base .non)
  | bl => obtain ⟨b, rfl⟩ := h; exact .inl (.base (.bl b))
  | int => obtain ⟨b, rfl⟩ := h; exact .inl (.base (.int b))
  | str => obtain ⟨b, rfl⟩ := h; exact .inl (.base (.str b))
  | lst => obtain ⟨a, xs, rfl, e⟩ := h; exact .inl (.base (.lst e))
  | tup => obtain ⟨a, xs, rfl, e⟩ := h; exact .inl (.base (.tup e))
  | dct => obtain ⟨a, kd, kvs, rfl, e⟩ := h; exact .inr ⟨rfl, a, kd, kvs, rfl, e⟩
theorem kit_int (t : Ty7) : kitB t.nm "int" = some (t = .int || t = .bl) := by cases t <;> decide +kernel
theorem kit_bool (t : Ty7) : kitB t.nm "bool" = some (decide (t = .bl)) := by cases t <;> decide +kernel
theorem kit_list (t : Ty7) : kitB t.nm "list" = some (decide (t = .lst)) := by cases t <;> decide +kernel
theorem kit_tuple (t : Ty7) : kitB t.nm "tuple" = some (decide (t = .tup)) := by cases t <;> decide +kernel
theorem kit_dict (t : Ty7) : kitB t.nm "dict" = some (decide (t = .dct)) := by cases t <;> decide +kernel

theorem u9 {k : Nat} {A : Around} (h : Room k A) : A.units + 9 < cLine := by have := h.un; omega
theorem u64 {k : Nat} {A : Around} (h : Room k A) : A.units + 64 < cLine := by have := h.un; omega
theorem u30 {k : Nat} {A : Around} (h : Room k A) : A.units + 30 < cLine := by have := h.un; omega
/-! ### heaps -/
theorem ys {A B : Prop} (h : A) : if true = true then A else B := by
  rw [if_pos rfl]
  exact h
theorem yes {σ : L2.St} {H : Hp} {A B : Hp → Prop} (h : A H) : tYes σ H fun b H3 => if b = true then A H3 else B H3 := by
  show (if true = true then A H else B H)
  rw [if_pos rfl]
  exact h
theorem no {A B : Prop} (h : B) : if false = true then A else B := by
  rw [if_neg Bool.false_ne_true]
  exact h
theorem same_upd {H : Hp} {p : Addr} {o : HO} (h : H p = none) : Same H (upd H p o) := fun b x e => by
  rw [upd_ne (ne_of_none e h)]
  exact e
/-- all but what stands at D -/
def SamX (D : Addr) (H H' : Hp) : Prop := ∀ b o, b ≠ D → H b = some o → H' b = some o
theorem SamX.refl (D : Addr) (H : Hp) : SamX D H H := fun _ _ _ e => e
theorem SamX.trans {D : Addr} {H H1 H2 : Hp} (a : SamX D H H1) (b : SamX D H1 H2) : SamX D H H2 := fun c o n e => b c o n (a c o n e)
theorem SamX.of_same {D : Addr} {H H' : Hp} (h : Same H H') : SamX D H H' := fun b o _ e => h b o e
theorem SamX.upd {D : Addr} {H : Hp} {o : HO} : SamX D H (upd H D o) := fun b u n e => by rw [L2.upd_ne n]; exact e
theorem SamX.tups {D : Addr} {H H' : Hp} (h : SamX D H H') (hd : ∀ xs, H D ≠ some (.tup xs)) : Tups H H' := fun b xs e => h b _ (fun q => hd xs (q ▸ e)) e
theorem SamX.dx {P : Program} {w : World} {kd : Kd} {D a : Addr} {H H' : Hp} {kvs : List (NestedKey × V)} (h : SamX D H H') (hd : ∀ xs, H D ≠ some (.tup xs)) (ha : a ≠ D) (x : DX P w kd H a kvs) : DX P w kd H' a kvs := x.mono (h.tups hd) fun o e => h _ _ ha e
theorem SamX.seq {K : PySem.W.Frag} {D a : Addr} {H H' : Hp} {xs : List V} (h : SamX D H H') (ha : a ≠ D) (x : SqL K H a xs) : SqL K H' a xs := by
  rcases x with (x | ⟨o, x⟩) | x
  · exact .inl (.inl (h _ _ ha x))
  · exact .inl (.inr ⟨o, h _ _ ha x⟩)
  · exact .inr x
/-- from ahead of D on nothing is lost -/
theorem Same.put {H H1 : Hp} {D : Addr} {o : HO} (h : Same H H1) (hD : H D = none) : Same H (upd H1 D o) := fun b u e => by
  rw [L2.upd_ne (ne_of_none e hD)]
  exact h b u e
theorem tup_nat {H : Hp} {D : Addr} {acc : List V} (h : H D = some (.lst acc)) : ∀ xs, H D ≠ some (.tup xs) := fun xs e => by rw [h] at e; cases e

/-! ### loops that build a list -/
/-- i turns have made f 0, .., f (i - 1) in the new list at D -/
def LcF (f : Nat → V) (H1 : Hp) (D : Addr) (i : Nat) (H : Hp) : Prop := Same H1 H ∧ H D = some (.lst ((List.range i).map f))
theorem LcF.zero {f : Nat → V} {H1 : Hp} {D : Addr} (h : H1 D = none) : LcF f H1 D 0 (upd H1 D (.lst [])) := ⟨same_upd h, upd_same⟩
theorem LcF.step {f : Nat → V} {H1 H H4 : Hp} {D : Addr} {i : Nat} {y : V} (h : LcF f H1 D i H) (hD : H1 D = none) (hi : i < sizeLine) (s : Same H H4) (e : y = f i) :
    ∃ acc, H4 D = some (.lst acc) ∧ acc.length < sizeLine ∧ LcF f H1 D (i + 1) (upd H4 D (.lst (acc ++ [y]))) := by
  refine ⟨_, s _ _ h.2, by simpa using hi, Same.put (H := H1) (Same.trans h.1 s) hD, ?_⟩
  rw [upd_same, List.range_succ, List.map_append, e]
  rfl
/-! ### names of the machine -/
structure Blt (mg : Str → Option Value) : Prop where
  isinstance : mg "isinstance" = none
  int : mg "int" = none
  bool : mg "bool" = none
  list : mg "list" = none
  tuple : mg "tuple" = none
  dict : mg "dict" = none
  len : mg "len" = none
  all : mg "all" = none
  any : mg "any" = none
  sorted : mg "sorted" = none
  enumerate : mg "enumerate" = none
  set : mg "set" = none
  range : mg "range" = none
  abs : mg "abs" = none
  max : mg "max" = none
  min : mg "min" = none
  divmod : mg "divmod" = none
  repr : mg "repr" = none
section
variable {X : Cx}
theorem ty_int {pos : Pos} (B : Blt X.mg) (hg : Gl X "int") : PE X (.Name "int" pos) (tC (.ty "int")) := pe_bltn hg B.int (u := .type "int") (by decide +kernel) rfl
theorem ty_bool {pos : Pos} (B : Blt X.mg) (hg : Gl X "bool") : PE X (.Name "bool" pos) (tC (.ty "bool")) := pe_bltn hg B.bool (u := .type "bool") (by decide +kernel) rfl
theorem ty_list {pos : Pos} (B : Blt X.mg) (hg : Gl X "list") : PE X (.Name "list" pos) (tC (.ty "list")) := pe_bltn hg B.list (u := .type "list") (by decide +kernel) rfl
theorem ty_tuple {pos : Pos} (B : Blt X.mg) (hg : Gl X "tuple") : PE X (.Name "tuple" pos) (tC (.ty "tuple")) := pe_bltn hg B.tuple (u := .type "tuple") (by decide +kernel) rfl
theorem ty_dict {pos : Pos} (B : Blt X.mg) (hg : Gl X "dict") : PE X (.Name "dict" pos) (tC (.ty "dict")) := pe_bltn hg B.dict (u := .type "dict") (by decide +kernel) rfl
/-- isinstance(x, T) -/
def rIsF (P : Program) (w : World) (K : PySem.W.Frag) (n : String) (f : Ty7 → Bool) : List V → Hp → VK → Prop := fun xs H Q => ∃ (x : V) (t : Ty7), xs = [x, .ty n] ∧ IsTy P w K H x t ∧ Q (.bl (f t)) H
theorem call_isF {n : String} {f : Ty7 → Bool} (hf : ∀ t : Ty7, kitB t.nm n = some (f t)) : CallR X (.builtin "isinstance") (rIsF X.prog X.w X.K n f) := by
  intro pins s σ H xs us Q I r h
  obtain ⟨x, t, rfl, ty, q⟩ := h
  exact call_isw pins s σ H _ us Q I r ⟨x, t.nm, n, f t, rfl, ty.w, hf t, q⟩
/-- isinstance(x, (list, tuple)) -/
def rIsLT (P : Program) (w : World) (K : PySem.W.Frag) : List V → Hp → VK → Prop := fun xs H Q => ∃ (x : V) (t : Ty7) (tp : Addr), xs = [x, .ref tp] ∧ H tp = some (.tup [.ty "list", .ty "tuple"]) ∧ IsTy P w K H x t ∧ Q (.bl (decide (t = .lst) || decide (t = .tup))) H
theorem call_isLT : CallR X (.builtin "isinstance") (rIsLT X.prog X.w X.K) := by
  intro pins s σ H xs us Q I r h
  obtain ⟨x, t, tp, rfl, e, ty, q⟩ := h
  exact call_isw2 pins s σ H _ us Q I r ⟨x, tp, t.nm, "list", "tuple", decide (t = .lst), decide (t = .tup), rfl, e, ty.w, kit_list t, kit_tuple t, q⟩
theorem IsTy.same {P : Program} {w : World} {K : PySem.W.Frag} {H H' : Hp} {x : V} {t : Ty7} (h : IsTy P w K H x t) (s : Same H H') : IsTy P w K H' x t := by
  cases t with
  | non => exact h
  | bl => exact h
  | int => exact h
  | str => exact h
  | lst => obtain ⟨a, xs, rfl, e⟩ := h; exact ⟨a, xs, rfl, s _ _ e⟩
  | tup => obtain ⟨a, xs, rfl, e⟩ := h; exact ⟨a, xs, rfl, s _ _ e⟩
  | dct => obtain ⟨a, kd, kvs, rfl, e⟩ := h; exact ⟨a, kd, kvs, rfl, e.same s⟩
end
end WW


set_option maxHeartbeats 2000000

namespace WW
open PySem PySem.Spec PyProof.Rows L2
section
variable {P : Program} {w : World} {K : PySem.W.Frag} {mg : Str → Option Value} {base : Heap}
abbrev sIsInt : Stmt := top 12
abbrev sIsCount : Stmt := top 13
abbrev sIsBit : Stmt := top 14
abbrev sIsList : Stmt := top 15
abbrev sIsLetter : Stmt := top 16
abbrev sIsWord : Stmt := top 17
theorem sc12 : FnScope ["value"] ["value"] (defScope sIsInt) := ⟨rfl, rfl, rfl, by decide +kernel, rfl, by decide +kernel, by decide +kernel⟩
/-- the value is a whole number, no bool -/
def isI : V → Bool
  | .int _ => true
  | _ => false
theorem isI_of {H : Hp} {x : V} {t : Ty7} (h : IsTy P w K H x t) : isI x = ((t = .int || t = .bl) && !decide (t = .bl)) := by
  cases t with
  | non => cases h; rfl
  | bl => obtain ⟨b, rfl⟩ := h; rfl
  | int => obtain ⟨b, rfl⟩ := h; rfl
  | str => obtain ⟨b, rfl⟩ := h; rfl
  | lst => obtain ⟨a, xs, rfl, e⟩ := h; rfl
  | tup => obtain ⟨a, xs, rfl, e⟩ := h; rfl
  | dct => obtain ⟨a, kd, kvs, rfl, e⟩ := h; rfl
def spIsInt (P : Program) (w : World) (K : PySem.W.Frag) : Sp := fun vs H Q _ => ∃ x t, vs = [x] ∧ IsTy P w K H x t ∧ Q (.bl (isI x)) H
theorem ok_isInt (B : Blt mg) (D : Dn K mg "is_integer" sIsInt ["value"]) : FnOk P w K mg base CX0 1 D.f D.fd ["value"] (spIsInt P w K) := by
  refine D.F.ok sc12 (fun vs H Q E h => ?_) (fun cdv A outer s H vs Q E hr h => ?_)
  · obtain ⟨x, t, rfl, _⟩ := h
    rfl
  · obtain ⟨x, t, rfl, ty, q⟩ := h
    refine ⟨_, pss_one (ps_ret (pe_and (pe_callB (call_isF kit_int) (by rfl) B.isinstance (by decide +kernel) (pa_cons (pv 0) (pa_cons (ty_int B (by rfl)) pa_nil)))
      (pe_one (pe_not (pe_callB (call_isF kit_bool) (by rfl) B.isinstance (by decide +kernel) (pa_cons (pv 0) (pa_cons (ty_bool B (by rfl)) pa_nil))))))), ?_⟩
    rw [isI_of ty] at q
    refine ⟨x, rfl, x, t, rfl, ty, _, rfl, ite2 (fun e => ?_) (fun e => ?_)⟩
    · have e : (decide (t = Ty7.int) || decide (t = Ty7.bl)) = true := e
      rw [e, Bool.true_and] at q
      exact ⟨x, rfl, x, t, rfl, ty, _, rfl, q⟩
    · have e' : (decide (t = Ty7.int) || decide (t = Ty7.bl)) = false := by simpa using e
      rw [e', Bool.false_and] at q
      exact q
/-! is_count, is_bit -/
theorem sc13 : FnScope ["value"] ["value"] (defScope sIsCount) := ⟨rfl, rfl, rfl, by decide +kernel, rfl, by decide +kernel, by decide +kernel⟩
theorem sc14 : FnScope ["value"] ["value"] (defScope sIsBit) := ⟨rfl, rfl, rfl, by decide +kernel, rfl, by decide +kernel, by decide +kernel⟩
def isC : V → Bool
  | .int i => decide (0 ≤ i)
  | _ => false
def isB : V → Bool
  | .int i => decide (0 ≤ i) && decide (i ≤ 1)
  | _ => false
def spIsCount (P : Program) (w : World) (K : PySem.W.Frag) : Sp := fun vs H Q _ => ∃ x t, vs = [x] ∧ IsTy P w K H x t ∧ Q (.bl (isC x)) H
def spIsBit (P : Program) (w : World) (K : PySem.W.Frag) : Sp := fun vs H Q _ => ∃ x t, vs = [x] ∧ IsTy P w K H x t ∧ Q (.bl (isB x)) H
theorem isI_true {x : V} (h : isI x = true) : ∃ i, x = .int i := by
  cases x <;> first | exact ⟨_, rfl⟩ | cases h
theorem ok_isCount (D0 : Dn K mg "is_integer" sIsInt ["value"]) (G0 : FnOk P w K mg base CX0 1 D0.f D0.fd ["value"] (spIsInt P w K)) (D : Dn K mg "is_count" sIsCount ["value"]) : FnOk P w K mg base CX0 2 D.f D.fd ["value"] (spIsCount P w K) := by
  refine D.F.ok sc13 (fun vs H Q E h => ?_) (fun cdv A outer s H vs Q E hr h => ?_)
  · obtain ⟨x, t, rfl, _⟩ := h
    rfl
  · obtain ⟨x, t, rfl, ty, q⟩ := h
    refine ⟨_, pss_one (ps_ret (pe_and (pe_call G0 hr (by rfl) D0.g D0.F.kp D0.b .nil pass0 (pa_cons (pv 0) pa_nil)) (pe_one (pe_cmpR op_ge (pv 0) pe_int (nomark _))))), ?_⟩
    refine ⟨x, rfl, x, t, rfl, ty, _, rfl, ite2 (fun e => ?_) (fun e => ?_)⟩
    · obtain ⟨i, rfl⟩ := isI_true e
      exact ⟨.int i, rfl, i, 0, rfl, rfl, q⟩
    · have e' : isC x = false := by
        cases x <;> first | rfl | exact absurd rfl e
      rw [e'] at q
      exact q
theorem ok_isBit (D0 : Dn K mg "is_integer" sIsInt ["value"]) (G0 : FnOk P w K mg base CX0 1 D0.f D0.fd ["value"] (spIsInt P w K)) (D : Dn K mg "is_bit" sIsBit ["value"]) : FnOk P w K mg base CX0 2 D.f D.fd ["value"] (spIsBit P w K) := by
  refine D.F.ok sc14 (fun vs H Q E h => ?_) (fun cdv A outer s H vs Q E hr h => ?_)
  · obtain ⟨x, t, rfl, _⟩ := h
    rfl
  · obtain ⟨x, t, rfl, ty, q⟩ := h
    refine ⟨_, pss_one (ps_ret (pe_and (pe_call G0 hr (by rfl) D0.g D0.F.kp D0.b .nil pass0 (pa_cons (pv 0) pa_nil)) (pe_one (pe_chain op_le op_le pe_int (pv 0) pe_int)))), ?_⟩
    refine ⟨x, rfl, x, t, rfl, ty, _, rfl, ite2 (fun e => ?_) (fun e => ?_)⟩
    · obtain ⟨i, rfl⟩ := isI_true e
      refine ⟨.int i, rfl, 0, i, rfl, rfl, _, rfl, ite2 (fun e1 => ?_) (fun e1 => ?_)⟩
      · refine ⟨i, 1, rfl, rfl, ?_⟩
        have z : isB (.int i) = decide (i ≤ 1) := by
          show (decide (0 ≤ i) && decide (i ≤ 1)) = _
          rw [show decide (0 ≤ i) = true from e1, Bool.true_and]
        rw [z] at q
        exact q
      · have z : isB (.int i) = false := by
          show (decide (0 ≤ i) && decide (i ≤ 1)) = _
          rw [show decide (0 ≤ i) = false by simpa using e1, Bool.false_and]
        rw [z] at q
        exact q
    · have e' : isB x = false := by
        cases x <;> first | rfl | exact absurd rfl e
      rw [e'] at q
      exact q
/-! is_list -/
theorem sc15 : FnScope ["value"] ["value"] (defScope sIsList) := ⟨rfl, rfl, rfl, by decide +kernel, rfl, by decide +kernel, by decide +kernel⟩
def spIsList (P : Program) (w : World) (K : PySem.W.Frag) : Sp := fun vs H Q _ => ∃ x t, vs = [x] ∧ IsTy P w K H x t ∧ ∀ H', Same H H' → Q (.bl (decide (t = .lst) || decide (t = .tup))) H'
theorem ok_isList (B : Blt mg) (D : Dn K mg "is_list" sIsList ["value"]) : FnOk P w K mg base CX0 1 D.f D.fd ["value"] (spIsList P w K) := by
  refine D.F.ok sc15 (fun vs H Q E h => ?_) (fun cdv A outer s H vs Q E hr h => ?_)
  · obtain ⟨x, t, rfl, _⟩ := h
    rfl
  · obtain ⟨x, t, rfl, ty, q⟩ := h
    refine ⟨_, pss_one (ps_ret (pe_callB call_isLT (by rfl) B.isinstance (by decide +kernel) (pa_cons (pv 0) (pa_cons (pe_tup (pa_cons (ty_list B (by rfl)) (pa_cons (ty_tuple B (by rfl)) pa_nil))) pa_nil)))), ?_⟩
    refine ⟨x, rfl, (by decide), fun p hp => ⟨x, t, p, rfl, upd_same, ty.same (same_upd hp), q _ (same_upd hp)⟩⟩
/-! letters -/
def lk (l : List Int) : NestedKey := .tup (l.map .num)
def Lw (d : Nat) (l : List Int) : Prop := l.length = d ∧ ∀ x ∈ l, x = 0 ∨ x = 1
theorem nvs_ints {H : Hp} : ∀ {l : List Int} {xs : List V}, NVs H (l.map NestedKey.num) xs → xs = l.map V.int
  | [], xs, h => h
  | n :: l, xs, h => by
    obtain ⟨x, r, rfl, e, q⟩ := h
    rw [nvs_ints q]
    have e : x = .int n := e
    rw [e]
    rfl
theorem lk_tup {H : Hp} {l : List Int} {y : V} (h : NV H (lk l) y) : ∃ b, y = .ref b ∧ H b = some (.tup (l.map V.int)) := by
  obtain ⟨b, xs, rfl, e, q⟩ := h
  exact ⟨b, rfl, by rw [e, nvs_ints q]⟩
theorem lk_of {H : Hp} {l : List Int} {b : Addr} (h : H b = some (.tup (l.map V.int))) : NV H (lk l) (.ref b) := ⟨b, _, rfl, h, nvs_nums H l⟩
theorem lk_inj {l m : List Int} (h : lk l = lk m) : l = m := by
  unfold lk at h
  injection h with h
  exact (List.map_inj_right (fun a b e => by injection e)).mp h
theorem depths_num : ∀ l : List Int, NestedKey.depthAll (l.map .num) ≤ 1
  | [] => by simp [NestedKey.depthAll]
  | n :: l => by
    have h := depths_num l
    simp only [List.map_cons, NestedKey.depthAll, NestedKey.depth]
    omega
theorem lk_depth (l : List Int) : (lk l).depth ≤ 8 := by
  have h := depths_num l
  unfold lk
  simp only [NestedKey.depth]
  omega
theorem keyV_lk {H : Hp} {l : List Int} {y : V} : KeyV .t H (lk l) y ↔ ∃ b, y = .ref b ∧ H b = some (.tup (l.map V.int)) := by
  constructor
  · rintro ⟨b, rfl, h, _⟩
    obtain ⟨c, e, q⟩ := lk_tup h
    cases e
    exact ⟨b, rfl, q⟩
  · rintro ⟨b, rfl, h⟩
    exact ⟨b, rfl, lk_of h, lk_depth l⟩
theorem sc16 : FnScope ["value", "width", "bit"] ["value", "width"] (defScope sIsLetter) := ⟨rfl, rfl, rfl, by decide +kernel, rfl, by decide +kernel, by decide +kernel⟩
def spIsLetter : Sp := fun vs H Q _ => ∃ (b : Addr) (l : List Int) (d : Nat), vs = [.ref b, .int d] ∧ H b = some (.tup (l.map V.int)) ∧ Lw d l ∧ d ≤ 4 ∧ ∀ H', Same H H' → Q (.bl true) H'
theorem ok_isLetter (B : Blt mg) (D0 : Dn K mg "is_bit" sIsBit ["value"]) (G0 : FnOk P w K mg base CX0 2 D0.f D0.fd ["value"] (spIsBit P w K)) (D : Dn K mg "is_letter" sIsLetter ["value", "width"]) : FnOk P w K mg base CX0 3 D.f D.fd ["value", "width"] spIsLetter := by
  refine D.F.ok sc16 (fun vs H Q E h => ?_) (fun cdv A outer s H vs Q E hr h => ?_)
  · obtain ⟨x, l, d, rfl, _⟩ := h
    rfl
  · obtain ⟨b, l, d, rfl, hb, hl, hd, q⟩ := h
    refine ⟨_, pss_one (ps_ret (pe_and (pe_callB (call_isF kit_tuple) (by rfl) B.isinstance (by decide +kernel) (pa_cons (pv 0) (pa_cons (ty_tuple B (by rfl)) pa_nil)))
      (pe_and (pe_cmpR op_eq (pe_callB call_len_seq (by rfl) B.len PySem.boot_len (pa_cons (pv 0) pa_nil)) (pv 1) (nomark _))
      (pe_one (pe_callB (cr_all rfl) (by rfl) B.all (by decide +kernel) (pa_cons (pe_lc (own := [("bit", 2)]) (g := gName 2) (tt := tYes) (by rfl) sc16.nd (pi_tup (pv 0)) (blkOk_by (own := [("bit", 2)]) (N := ["value", "width", "bit"]) (sc := defScope sIsLetter) (by decide +kernel))
        (fun _ _ _ _ _ => pg_name (i := 2) sc16.nd rfl (Or.inl rfl)) (fun _ _ _ _ _ => pts_nil) (fun _ _ _ _ _ => pe_call G0 hr (by rfl) D0.g D0.F.kp D0.b .nil pass0 (pa_cons (pv 2) pa_nil))) pa_nil)))))), ?_⟩
    refine ⟨_, rfl, _, .tup, rfl, ⟨b, _, rfl, hb⟩, _, rfl, ?_⟩
    refine ⟨_, rfl, b, _, rfl, .inr (.inl (.inl hb)), _, rfl, rfl, _, rfl, ite2 (fun e => ?_) (fun e => ?_)⟩
    · refine ⟨_, rfl, b, rfl, ⟨_, .inl (.inl hb)⟩, fun D hD => lc_tup (K := K) (a := b) (xs := l.map V.int) (LcF (fun _ => .bl true) H D) (LcF.zero hD) (fun i H' hi p => .inl (.inl (p.1 _ _ hb))) (fun i x H' hx p => ?_) fun H' p => ?_⟩
      · have hi : i < l.length := by simpa using (List.getElem?_eq_some_iff.mp hx).1
        obtain ⟨z, hz⟩ : ∃ z, l[i]? = some z := ⟨l[i], List.getElem?_eq_getElem hi⟩
        rw [List.getElem?_map, hz] at hx
        cases hx
        have hb2 := hl.2 z (List.mem_of_getElem? hz)
        refine ⟨rfl, ?_⟩
        refine yes ?_
        refine ⟨_, rfl, _, .int, rfl, ⟨z, rfl⟩, ?_⟩
        have hlen := hl.1
        refine p.step hD (small1000 (by omega)) (fun _ _ e => e) ?_
        rcases hb2 with rfl | rfl <;> rfl
      · rw [List.length_map] at p
        refine ⟨D, (List.range l.length).map fun _ => true, rfl, SqL.of (by rw [p.2, List.map_map]; rfl), ?_⟩
        rw [List.all_eq_true.mpr (by simp)]
        exact q _ p.1
    · exact absurd (by
        show decide (V.int (((l.map V.int).length : Nat) : Int) = V.int ((d : Nat) : Int)) = true
        rw [List.length_map, hl.1]
        simp) e
/-! words -/
theorem sc17 : FnScope ["value", "width", "letter"] ["value", "width"] (defScope sIsWord) := ⟨rfl, rfl, rfl, by decide +kernel, rfl, by decide +kernel, by decide +kernel⟩
/-- letters at addresses -/
def LtsA (H : Hp) : List Addr → List (List Int) → Prop := Paired fun b l => H b = some (.tup (l.map V.int))
theorem LtsA.get {H : Hp} {bs : List Addr} {ls : List (List Int)} (h : LtsA H bs ls) {i : Nat} {l : List Int} (e : ls[i]? = some l) : ∃ b, bs[i]? = some b ∧ H b = some (.tup (l.map V.int)) := by
  induction h generalizing i with
  | nil => simp at e
  | cons h t ih =>
    cases i with
    | zero => simp at e; subst e; exact ⟨_, rfl, h⟩
    | succ i => simp at e ⊢; exact ih e
theorem LtsA.get2 {H : Hp} {bs : List Addr} {ls : List (List Int)} (h : LtsA H bs ls) {i : Nat} {b : Addr} (e : bs[i]? = some b) : ∃ l, ls[i]? = some l ∧ H b = some (.tup (l.map V.int)) := by
  induction h generalizing i with
  | nil => simp at e
  | cons h t ih =>
    cases i with
    | zero => simp at e; subst e; exact ⟨_, rfl, h⟩
    | succ i => simp at e ⊢; exact ih e
theorem LtsA.same {H H' : Hp} {bs : List Addr} {ls : List (List Int)} (h : LtsA H bs ls) (s : Same H H') : LtsA H' bs ls := Paired.mapP h fun _ _ e => s _ _ e
def spIsWord (K : PySem.W.Frag) : Sp := fun vs H Q _ => ∃ (a : Addr) (bs : List Addr) (ls : List (List Int)) (d : Nat), vs = [.ref a, .int d] ∧ H a = some (.lst (bs.map V.ref)) ∧ LtsA H bs ls ∧ (∀ l ∈ ls, Lw d l) ∧ d ≤ 4 ∧ ls.length ≤ 1000 ∧ ∀ H', Same H H' → Q (.bl true) H'
theorem ok_isWord (B : Blt mg) (D0 : Dn K mg "is_list" sIsList ["value"]) (G0 : FnOk P w K mg base CX0 1 D0.f D0.fd ["value"] (spIsList P w K)) (D1 : Dn K mg "is_letter" sIsLetter ["value", "width"]) (G1 : FnOk P w K mg base CX0 3 D1.f D1.fd ["value", "width"] spIsLetter)
    (D : Dn K mg "is_word" sIsWord ["value", "width"]) : FnOk P w K mg base CX0 4 D.f D.fd ["value", "width"] (spIsWord K) := by
  refine D.F.ok sc17 (fun vs H Q E h => ?_) (fun cdv A outer s H vs Q E hr h => ?_)
  · obtain ⟨a, bs, ls, d, rfl, _⟩ := h
    rfl
  · obtain ⟨a, bs, ls, d, rfl, ha, hb, hl, hd, hz, q⟩ := h
    refine ⟨_, pss_one (ps_ret (pe_and (pe_call G0 (hr.mono (by decide)) (by rfl) D0.g D0.F.kp D0.b .nil pass0 (pa_cons (pv 0) pa_nil))
      (pe_one (pe_callB (cr_all rfl) (by rfl) B.all (by decide +kernel) (pa_cons (pe_lc (own := [("letter", 2)]) (g := gName 2) (tt := tYes) (by rfl) sc17.nd (pi_list (pv 0)) (blkOk_by (own := [("letter", 2)]) (N := ["value", "width", "letter"]) (sc := defScope sIsWord) (by decide +kernel))
        (fun _ _ _ _ _ => pg_name (i := 2) sc17.nd rfl (Or.inl rfl)) (fun _ _ _ _ _ => pts_nil) (fun _ _ _ _ _ => pe_call G1 hr (by rfl) D1.g D1.F.kp D1.b .nil pass0 (pa_cons (pv 2) (pa_cons (pv 1) pa_nil)))) pa_nil))))), ?_⟩
    refine ⟨_, rfl, _, .lst, rfl, ⟨a, _, rfl, ha⟩, fun H1 s1 => ⟨_, rfl, ite2 (fun _ => ?_) (fun e => absurd rfl e)⟩⟩
    refine ⟨_, rfl, a, rfl, ⟨_, SqL.of (s1 _ _ ha)⟩, fun D hD => lc_list (K := K) (a := a) (xs := bs.map V.ref) (LcF (fun _ => .bl true) H1 D) (LcF.zero hD) (fun i H' hi p => SqL.of (p.1 _ _ (s1 _ _ ha))) (fun i x H' hx p => ?_) fun H' p => ?_⟩
    · have hi : i < bs.length := by simpa using (List.getElem?_eq_some_iff.mp hx).1
      obtain ⟨b, hb0⟩ : ∃ z, bs[i]? = some z := ⟨bs[i], List.getElem?_eq_getElem hi⟩
      rw [List.getElem?_map, hb0] at hx
      cases hx
      obtain ⟨l, hl0, hbl⟩ := hb.get2 hb0
      refine ⟨rfl, ?_⟩
      have ln := Paired.length hb
      refine yes ?_
      refine ⟨_, rfl, _, rfl, b, l, d, rfl, p.1 _ _ (s1 _ _ hbl), hl l (List.mem_of_getElem? hl0), hd, fun H4 s4 => ?_⟩
      exact p.step hD (small1000 (by omega)) s4 rfl
    · rw [List.length_map] at p
      refine ⟨D, (List.range bs.length).map fun _ => true, rfl, SqL.of (by rw [p.2, List.map_map]; rfl), ?_⟩
      rw [List.all_eq_true.mpr (by simp)]
      exact q _ (Same.trans s1 p.1)
end
end WW


set_option maxHeartbeats 2000000

namespace WW
open PySem PySem.Spec PyProof.Rows L2
/-! rows, patterns -/
abbrev Ltr := List Int
abbrev IRow := List (Ltr × Int)
def rowKv (r : IRow) : List (NestedKey × V) := r.map fun p => (lk p.1, .int p.2)
def RowI (P : Program) (w : World) (H : Hp) (a : Addr) (r : IRow) : Prop := DX P w .t H a (rowKv r)
def RowOk (d n : Nat) (r : IRow) : Prop := (∀ p ∈ r, Lw d p.1) ∧ (r.map (·.1)).Nodup ∧ (∀ p ∈ r, 0 ≤ p.2 ∧ p.2 < (n : Int)) ∧ r.length ≤ 16
def RowsA (P : Program) (w : World) (H : Hp) : List Addr → List IRow → Prop := Paired fun a r => RowI P w H a r
def GoesA (P : Program) (w : World) (H : Hp) (g : Addr) (rows : List IRow) : Prop := ∃ L, H g = some (.lst (L.map V.ref)) ∧ RowsA P w H L rows
def GoesOk (d : Nat) (rows : List IRow) : Prop := (∀ r ∈ rows, RowOk d rows.length r) ∧ 0 < rows.length ∧ rows.length ≤ 60
def PatAt (P : Program) (w : World) (C : Addr) (H : Hp) (p : Addr) (d : Nat) (rows : List IRow) : Prop :=
  ∃ dx g, H p = some (.ins C dx [("own_width", .int d), ("own_goes", .ref g)]) ∧ GoesA P w H g rows
section
variable {P : Program} {w : World} {K : PySem.W.Frag} {mg : Str → Option Value} {base : Heap}
theorem RowsA.same {H H' : Hp} {L : List Addr} {rows : List IRow} (h : RowsA P w H L rows) (s : Same H H') : RowsA P w H' L rows := Paired.mapP h fun _ _ e => DX.same e s
theorem GoesA.same {H H' : Hp} {g : Addr} {rows : List IRow} (h : GoesA P w H g rows) (s : Same H H') : GoesA P w H' g rows := let ⟨L, e, r⟩ := h; ⟨L, s _ _ e, r.same s⟩
theorem PatAt.same {C : Addr} {H H' : Hp} {p : Addr} {d : Nat} {rows : List IRow} (h : PatAt P w C H p d rows) (s : Same H H') : PatAt P w C H' p d rows := let ⟨dx, g, e, r⟩ := h; ⟨dx, g, s _ _ e, r.same s⟩
theorem paired_get1 {α β : Type} {F : α → β → Prop} : ∀ {as : List α} {bs : List β}, Paired F as bs → ∀ {i : Nat} {a : α}, as[i]? = some a → ∃ b, bs[i]? = some b ∧ F a b
  | _, _, .nil, i, a, e => by simp at e
  | _, _, .cons (a := a') (b := b') h t, 0, a, e => by
    simp at e
    subst e
    exact ⟨b', rfl, h⟩
  | _, _, .cons h t, i + 1, a, e => by
    simp at e ⊢
    exact paired_get1 t e
theorem paired_get2 {α β : Type} {F : α → β → Prop} : ∀ {as : List α} {bs : List β}, Paired F as bs → ∀ {i : Nat} {b : β}, bs[i]? = some b → ∃ a, as[i]? = some a ∧ F a b
  | _, _, .nil, i, a, e => by simp at e
  | _, _, .cons (a := a') (b := b') h t, 0, a, e => by
    simp at e
    subst e
    exact ⟨a', rfl, h⟩
  | _, _, .cons h t, i + 1, a, e => by
    simp at e ⊢
    exact paired_get2 t e
theorem rowKv_get {r : IRow} {i : Nat} {k : NestedKey} {v : V} (h : (rowKv r)[i]? = some (k, v)) : ∃ p, r[i]? = some p ∧ k = lk p.1 ∧ v = .int p.2 := by
  unfold rowKv at h
  rw [List.getElem?_map] at h
  obtain ⟨p, h1, h2⟩ := Option.map_eq_some_iff.mp h
  cases h2
  exact ⟨p, h1, rfl, rfl⟩
theorem rowKv_len (r : IRow) : (rowKv r).length = r.length := by simp [rowKv]
/-! what stands at a key -/
section
variable {κ β : Type} [DecidableEq κ]
def at1 (r : List (κ × β)) (l : κ) : Option β := (r.find? fun p => decide (p.1 = l)).map (·.2)
theorem at1_nil (l : κ) : at1 ([] : List (κ × β)) l = none := rfl
theorem at1_pos {p : κ × β} {r : List (κ × β)} {k : κ} (e : p.1 = k) : at1 (p :: r) k = some p.2 := by simp [at1, List.find?_cons, e]
theorem at1_neg {p : κ × β} {r : List (κ × β)} {k : κ} (e : ¬ p.1 = k) : at1 (p :: r) k = at1 r k := by simp [at1, List.find?_cons, e]
theorem at1_some {r : List (κ × β)} {l : κ} {x : β} (h : at1 r l = some x) : (l, x) ∈ r := by
  unfold at1 at h
  obtain ⟨p, h1, h2⟩ := Option.map_eq_some_iff.mp h
  have e : p.1 = l := by simpa using List.find?_some h1
  have m := List.mem_of_find?_eq_some h1
  cases p
  simp only at e h2
  subst e h2
  exact m
theorem at1_mem : ∀ {r : List (κ × β)}, (r.map (·.1)).Nodup → ∀ {p : κ × β}, p ∈ r → at1 r p.1 = some p.2
  | q :: r, nd, p, h => by
    rw [List.map_cons, List.nodup_cons] at nd
    rcases List.mem_cons.mp h with rfl | h
    · exact at1_pos rfl
    · rw [at1_neg (fun e => nd.1 (e ▸ List.mem_map.mpr ⟨p, h, rfl⟩))]
      exact at1_mem nd.2 h
theorem at1_none {r : List (κ × β)} {l : κ} : at1 r l = none ↔ l ∉ r.map (·.1) := by
  induction r with
  | nil => simp [at1_nil]
  | cons p r ih =>
    by_cases e : p.1 = l
    · rw [at1_pos e]
      simp [e]
    · rw [at1_neg e, ih]
      simp only [List.map_cons, List.mem_cons, not_or]
      exact ⟨fun h => ⟨fun z => e z.symm, h⟩, fun h => h.2⟩
theorem at1_perm {r r' : List (κ × β)} (nd : (r.map (·.1)).Nodup) (h : r'.Perm r) (l : κ) : at1 r' l = at1 r l := by
  have nd' : (r'.map (·.1)).Nodup := (h.map (·.1)).nodup_iff.mpr nd
  cases e : at1 r l with
  | none =>
    rw [at1_none] at e ⊢
    intro z
    exact e ((h.map (·.1)).mem_iff.mp z)
  | some x => exact at1_mem (p := (l, x)) nd' (h.mem_iff.mpr (at1_some e))
theorem valV_map1 {f : κ → NestedKey} {g : β → V} (hf : ∀ a b, f a = f b → a = b) (l : κ) : ∀ r : List (κ × β), valV (r.map fun p => (f p.1, g p.2)) (f l) = (at1 r l).map g
  | [] => rfl
  | p :: r => by
    rw [List.map_cons]
    by_cases e : p.1 = l
    · rw [at1_pos e, valV_pos (by rw [e])]
      rfl
    · rw [at1_neg e, valV_neg (fun z => e (hf _ _ z)), valV_map1 hf l r]
end
theorem rowKv_val (r : IRow) (l : Ltr) : valV (rowKv r) (lk l) = (at1 r l).map V.int := valV_map1 (fun _ _ => lk_inj) l r
theorem perm_map {α β : Type} {f : α → β} {l' m : List β} (h : l'.Perm m) : ∀ l, m = l.map f → ∃ l2 : List α, l2.Perm l ∧ l' = l2.map f := by
  induction h with
  | nil =>
    intro l e
    cases l with
    | nil => exact ⟨[], .refl _, rfl⟩
    | cons a l => cases e
  | cons x _ ih =>
    intro l e
    cases l with
    | nil => cases e
    | cons a l =>
      rw [List.map_cons] at e
      injection e with e1 e2
      obtain ⟨l2, p, q⟩ := ih l e2
      exact ⟨a :: l2, p.cons a, by rw [List.map_cons, q, e1]⟩
  | swap x y l0 =>
    intro l e
    match l, e with
    | a :: b :: l, e =>
      rw [List.map_cons, List.map_cons] at e
      injection e with e1 e2
      injection e2 with e2 e3
      exact ⟨b :: a :: l, List.Perm.swap a b l, by rw [List.map_cons, List.map_cons, ← e1, ← e2, ← e3]⟩
  | trans _ _ ih1 ih2 =>
    intro l e
    obtain ⟨l2, p2, q2⟩ := ih2 l e
    obtain ⟨l1, p1, q1⟩ := ih1 l2 q2
    exact ⟨l1, p1.trans p2, q1⟩
/-! want_narrow -/
abbrev sNarrow : Stmt := top 21
theorem sc21 : FnScope ["width"] ["width"] (defScope sNarrow) := ⟨rfl, rfl, rfl, by decide +kernel, rfl, by decide +kernel, by decide +kernel⟩
def spNarrow : Sp := fun vs H Q _ => ∃ d : Nat, vs = [.int d] ∧ d ≤ 4 ∧ Q .non H
theorem ok_narrow {tk : Tok} (hW : mg "WIDEST_PATTERN" = some (.int 4 tk)) (D0 : Dn K mg "is_count" sIsCount ["value"]) (G0 : FnOk P w K mg base CX0 2 D0.f D0.fd ["value"] (spIsCount P w K)) (D : Dn K mg "want_narrow" sNarrow ["width"]) :
    FnOk P w K mg base CX0 3 D.f D.fd ["width"] spNarrow := by
  refine D.F.ok sc21 (fun vs H Q E h => ?_) (fun cdv A outer s H vs Q E hr h => ?_)
  · obtain ⟨d, rfl, _⟩ := h
    rfl
  · obtain ⟨d, rfl, hd, q⟩ := h
    refine ⟨_, pss_one (ps_if (pw_or (pt_not (pt_val (pe_call G0 hr (by rfl) D0.g D0.F.kp D0.b .nil pass0 (pa_cons (pv 0) pa_nil)))) (pw_or1 (pt_cmpR op_gt (pv 0) (pe_glob (v := .int 4) (by rfl) hW ⟨_, rfl⟩) (nomark _)))).pt pss_never pss_nil), ?_⟩
    refine ⟨_, rfl, _, .int, rfl, ⟨_, rfl⟩, _, rfl, ?_⟩
    have e1 : isC (.int (d : Int)) = true := by simp [isC]
    rw [e1]
    refine no ?_
    refine ⟨_, rfl, _, _, rfl, rfl, _, rfl, ite2 (fun e => ?_) (fun _ => q)⟩
    have e : (4 : Int) < d := of_decide_eq_true e
    omega
/-! is_row -/
abbrev sIsRow : Stmt := top 22
abbrev nIsRow : List Str := ["value", "width", "size", "letter", "goal"]
theorem sc22 : FnScope nIsRow ["value", "width", "size"] (defScope sIsRow) := ⟨rfl, rfl, rfl, by decide +kernel, rfl, by decide +kernel, by decide +kernel⟩
def spIsRow (P : Program) (w : World) : Sp := fun vs H Q _ => ∃ (a : Addr) (d n : Nat) (r : IRow), vs = [.ref a, .int d, .int n] ∧ RowI P w H a r ∧ RowOk d n r ∧ d ≤ 4 ∧ ∀ H', Same H H' → Q (.bl true) H'
theorem ok_isRow (B : Blt mg) (D0 : Dn K mg "is_letter" sIsLetter ["value", "width"]) (G0 : FnOk P w K mg base CX0 3 D0.f D0.fd ["value", "width"] spIsLetter)
    (D1 : Dn K mg "is_count" sIsCount ["value"]) (G1 : FnOk P w K mg base CX0 2 D1.f D1.fd ["value"] (spIsCount P w K)) (D : Dn K mg "is_row" sIsRow ["value", "width", "size"]) :
    FnOk P w K mg base CX0 4 D.f D.fd ["value", "width", "size"] (spIsRow P w) := by
  refine D.F.ok sc22 (fun vs H Q E h => ?_) (fun cdv A outer s H vs Q E hr h => ?_)
  · obtain ⟨a, d, n, r, rfl, _⟩ := h
    rfl
  · obtain ⟨a, d, n, r, rfl, ha, ⟨h1, h2, h3, h4⟩, hd, q⟩ := h
    refine ⟨_, pss_cons (ps_if (pw_or (pt_not (pt_val (pe_callB (call_isF kit_dict) (by rfl) B.isinstance (by decide +kernel) (pa_cons (pv 0) (pa_cons (ty_dict B (by rfl)) pa_nil)))))
        (pw_or1 (pt_not (pt_val (pe_callB (cr_all rfl) (by rfl) B.all (by decide +kernel) (pa_cons (pe_lc (own := [("letter", 3)]) (g := gName 3) (tt := tYes) (by rfl) sc22.nd (pi_xk (pv 0)) (blkOk_by (own := [("letter", 3)]) (N := nIsRow) (sc := defScope sIsRow) (by decide +kernel))
          (fun _ _ _ _ _ => pg_name (i := 3) sc22.nd rfl (Or.inl rfl)) (fun _ _ _ _ _ => pts_nil) (fun _ _ _ _ _ => pe_call G0 hr (by rfl) D0.g D0.F.kp D0.b .nil pass0 (pa_cons (pv 3) (pa_cons (pv 1) pa_nil)))) pa_nil)))))).pt pss_never pss_nil)
      (pss_one (ps_ret (pe_callB (cr_all rfl) (by rfl) B.all (by decide +kernel) (pa_cons (pe_lc (own := [("goal", 4)]) (g := gName 4) (tt := tYes) (by rfl) sc22.nd (pi_xv (pv 0)) (blkOk_by (own := [("goal", 4)]) (N := nIsRow) (sc := defScope sIsRow) (by decide +kernel))
          (fun _ _ _ _ _ => pg_name (i := 4) sc22.nd rfl (Or.inl rfl)) (fun _ _ _ _ _ => pts_nil) (fun _ _ _ _ _ => pe_and (pe_call G1 (hr.mono (by decide)) (by rfl) D1.g D1.F.kp D1.b .nil pass0 (pa_cons (pv 4) pa_nil)) (pe_one (pe_cmpR op_lt (pv 4) (pv 2) (nomark _))))) pa_nil)))), ?_⟩
    have ha : DX P w .t H a (rowKv r) := ha
    obtain ⟨o, d1⟩ := ha.one
    refine ⟨_, rfl, _, .dct, rfl, ⟨a, _, _, rfl, ha⟩, _, rfl, no ?_⟩
    refine ⟨_, rfl, a, .t, o, _, rfl, d1, fun D hD => lc_it (n := r.length) (LcF (fun _ => .bl true) H D) (LcF.zero hD) (fun i H' hi p => ⟨d1.same p.1, by rw [rowKv_len]; exact hi⟩) (fun H' p => ⟨d1.same p.1, by rw [rowKv_len]; exact Nat.le_refl _⟩) (fun i H' x H2 hi p y => ?_) fun H' p => ?_⟩
    · obtain ⟨rfl, k, v, hk, ky⟩ := y
      obtain ⟨p0, hp0, rfl, rfl⟩ := rowKv_get hk
      obtain ⟨b, rfl, hb⟩ := keyV_lk.mp ky
      refine ⟨rfl, yes ⟨_, rfl, _, rfl, b, p0.1, d, rfl, hb, h1 _ (List.mem_of_getElem? hp0), hd, fun H4 s4 => ?_⟩⟩
      exact p.step hD (small1000 (by omega)) s4 rfl
    · refine ⟨D, (List.range r.length).map fun _ => true, rfl, SqL.of (by rw [p.2, List.map_map]; rfl), ?_⟩
      rw [List.all_eq_true.mpr (by simp)]
      refine ⟨_, rfl, no ?_⟩
      refine ⟨_, rfl, a, .t, o, _, rfl, d1.same p.1, fun D2 hD2 => lc_it (n := r.length) (LcF (fun _ => .bl true) H' D2) (LcF.zero hD2) (fun i H2 hi p2 => ⟨d1.same (Same.trans p.1 p2.1), by rw [rowKv_len]; exact hi⟩) (fun H2 p2 => ⟨d1.same (Same.trans p.1 p2.1), by rw [rowKv_len]; exact Nat.le_refl _⟩) (fun i H2 x H3 hi p2 y => ?_) fun H2 p2 => ?_⟩
      · obtain ⟨rfl, k, hk⟩ := y
        obtain ⟨p0, hp0, rfl, rfl⟩ := rowKv_get hk
        have hg := h3 _ (List.mem_of_getElem? hp0)
        refine ⟨rfl, yes ⟨_, rfl, _, .int, rfl, ⟨_, rfl⟩, _, rfl, ?_⟩⟩
        have e1 : isC (.int p0.2) = true := by simp [isC, hg.1]
        rw [e1]
        refine ys ⟨_, rfl, _, rfl, _, _, rfl, rfl, ?_⟩
        refine p2.step hD2 (small1000 (by omega)) (fun _ _ e => e) ?_
        show V.bl (decide (p0.2 < (n : Int))) = _
        rw [decide_eq_true hg.2]
      · refine ⟨D2, (List.range r.length).map fun _ => true, rfl, SqL.of (by rw [p2.2, List.map_map]; rfl), ?_⟩
        rw [List.all_eq_true.mpr (by simp)]
        exact q _ (Same.trans p.1 p2.1)
end
end WW


set_option maxHeartbeats 2000000

namespace WW
open PySem PySem.Spec PyProof.Rows L2
section
variable {P : Program} {w : World} {K : PySem.W.Frag} {mg : Str → Option Value} {base : Heap}
/-! sorting letters -/
theorem alike_nums : ∀ a b : List Int, PySem.W.alikeAll (NestedKey.datas (a.map .num)) (NestedKey.datas (b.map .num)) = true
  | [], _ => rfl
  | _ :: _, [] => rfl
  | x :: a, y :: b => by
    have h := alike_nums a b
    simpa [NestedKey.datas, NestedKey.data, PySem.W.alikeAll, PySem.W.alike] using h
theorem data_depth_num : ∀ a : List Int, PyData.depthAll (NestedKey.datas (a.map .num)) ≤ 1
  | [] => by simp [NestedKey.datas, PyData.depthAll]
  | x :: a => by
    have h := data_depth_num a
    simp only [List.map_cons, NestedKey.datas, NestedKey.data, PyData.depthAll, PyData.depth]
    omega
theorem sortOk_len {d : Nat} {ls : List Ltr} (h : ∀ l ∈ ls, l.length = d) (nd : ls.Nodup) : SortOk (ls.map lk) := by
  refine ⟨fun x hx y hy => ?_, ?_, fun k hk => ?_⟩
  · obtain ⟨k, hk, rfl⟩ := List.mem_map.mp hx
    obtain ⟨k', hk', rfl⟩ := List.mem_map.mp hy
    obtain ⟨a, _, rfl⟩ := List.mem_map.mp hk
    obtain ⟨b, _, rfl⟩ := List.mem_map.mp hk'
    have := alike_nums a b
    simpa [lk, NestedKey.data, PySem.W.alike] using this
  · cases d with
    | zero =>
      have e : ∀ l ∈ ls, l = [] := fun l hl => List.length_eq_zero_iff.mp (h l hl)
      cases ls with
      | nil => exact .inl fun k hk => nomatch hk
      | cons a t =>
        cases t with
        | nil =>
          rw [e a List.mem_cons_self]
          exact .inr rfl
        | cons b t =>
          have e1 := e a List.mem_cons_self
          have e2 := e b (List.mem_cons_of_mem _ List.mem_cons_self)
          rw [List.nodup_cons] at nd
          exact absurd (by rw [e1, e2]; exact List.mem_cons_self) nd.1
    | succ d =>
      refine .inl fun k hk => ?_
      obtain ⟨a, ha, rfl⟩ := List.mem_map.mp hk
      have hl := h a ha
      cases a with
      | nil => cases hl
      | cons x r => exact ⟨_, _, rfl⟩
  · obtain ⟨a, ha, rfl⟩ := List.mem_map.mp hk
    have := data_depth_num a
    simp only [lk, NestedKey.data, PyData.depth]
    omega
theorem sortOk_letters {d : Nat} {ls : List Ltr} (h : ∀ l ∈ ls, Lw d l) (nd : ls.Nodup) : SortOk (ls.map lk) := sortOk_len (fun l hl => (h l hl).1) nd
/-! want_goes -/
abbrev sWantGoes : Stmt := top 23
abbrev nWantGoes : List Str := ["width", "goes", "position", "row"]
theorem sc23 : FnScope nWantGoes ["width", "goes"] (defScope sWantGoes) := ⟨rfl, rfl, rfl, by decide +kernel, rfl, by decide +kernel, by decide +kernel⟩
def spWantGoes (P : Program) (w : World) : Sp := fun vs H Q _ => ∃ (g : Addr) (d : Nat) (rows : List IRow), vs = [.int d, .ref g] ∧ GoesA P w H g rows ∧ GoesOk d rows ∧ d ≤ 4 ∧ ∀ H', Same H H' → Q .non H'
theorem ok_wantGoes {tk : Tok} (B : Blt mg) (hM : mg "MOST_PLACES" = some (.int 60 tk)) (D0 : Dn K mg "is_list" sIsList ["value"]) (G0 : FnOk P w K mg base CX0 1 D0.f D0.fd ["value"] (spIsList P w K))
    (D1 : Dn K mg "is_row" sIsRow ["value", "width", "size"]) (G1 : FnOk P w K mg base CX0 4 D1.f D1.fd ["value", "width", "size"] (spIsRow P w)) (D : Dn K mg "want_goes" sWantGoes ["width", "goes"]) :
    FnOk P w K mg base CX0 5 D.f D.fd ["width", "goes"] (spWantGoes P w) := by
  refine D.F.ok sc23 (fun vs H Q E h => ?_) (fun cdv A outer s H vs Q E hr h => ?_)
  · obtain ⟨g, d, rows, rfl, _⟩ := h
    rfl
  · obtain ⟨g, d, rows, rfl, ⟨L, hg, hL⟩, ⟨h1, h2, h3⟩, hd, q⟩ := h
    have ln : L.length = rows.length := Paired.length hL
    refine ⟨_, pss_cons (ps_if (pw_or (pt_not (pt_val (pe_call G0 (hr.mono (by decide)) (by rfl) D0.g D0.F.kp D0.b .nil pass0 (pa_cons (pv 1) pa_nil)))) (pw_or1 (pt_cmpR op_eq (pe_callB call_len_seq (by rfl) B.len PySem.boot_len (pa_cons (pv 1) pa_nil)) pe_int (nomark _)))).pt pss_never pss_nil)
      (pss_cons (ps_for PassesOwn.never rfl (pi_enum (by rfl) B.enumerate (pa_cons (pv 1) pa_nil)) (pg_tup rfl (pgs_cons (pg_name (i := 2) sc23.nd rfl (.inl rfl)) (pgs_cons (pg_name (i := 3) sc23.nd rfl (.inl rfl)) pgs_nil)))
        (pss_one (ps_if (pt_not (pt_val (pe_call G1 hr (by rfl) D1.g D1.F.kp D1.b .nil pass0 (pa_cons (pv 3) (pa_cons (pv 0) (pa_cons (pe_callB call_len_seq (by rfl) B.len PySem.boot_len (pa_cons (pv 1) pa_nil)) pa_nil)))))) pss_never pss_nil)))
      (pss_one (ps_if (pt_cmpR op_gt (pe_callB call_len_seq (by rfl) B.len PySem.boot_len (pa_cons (pv 1) pa_nil)) (pe_glob (v := .int 60) (by rfl) hM ⟨_, rfl⟩) (nomark _)) pss_never pss_nil))), ?_⟩
    refine ⟨_, rfl, _, .lst, rfl, ⟨g, _, rfl, hg⟩, fun H1 s1 => ⟨_, rfl, no ?_⟩⟩
    have g1 := SqL.of (K := K) (s1 _ _ hg)
    refine ⟨_, rfl, g, _, rfl, .inl g1, rfl, _, rfl, ite2 (fun e => ?_) (fun _ => ?_)⟩
    · have e := of_decide_eq_true e
      injection e with e
      rw [List.length_map] at e
      omega
    refine ⟨_, rfl, g, _, rfl, g1, for_it (n := rows.length) (fun i σ H' => Same H H' ∧ ∃ x y, σ = [some (.int d), some (.ref g), x, y]) ⟨s1, _, _, rfl⟩ (fun i σ H' hi p => ?_) (fun σ H' p => ?_) (fun i σ H' x H2 hi p y => ?_) fun σ H' p => ?_⟩
    · obtain ⟨b, hb⟩ : ∃ b, L[i]? = some b := ⟨L[i]'(by omega), List.getElem?_eq_getElem (by omega)⟩
      exact ⟨_, .ref b, SqL.of (p.1 _ _ hg), by rw [List.getElem?_map, hb]; rfl⟩
    · exact ⟨_, SqL.of (p.1 _ _ hg), by rw [List.length_map]; omega⟩
    · obtain ⟨T, x0, rfl, nT, rfl, f⟩ := y
      obtain ⟨s2, x1, y1, rfl⟩ := p
      obtain ⟨b, hb⟩ : ∃ b, L[i]? = some b := ⟨L[i]'(by omega), List.getElem?_eq_getElem (by omega)⟩
      obtain ⟨r, hr0, hbr⟩ := paired_get1 hL hb
      have ex : x0 = .ref b := by
        have := f _ (SqL.of (s2 _ _ hg))
        rw [List.getElem?_map, hb] at this
        exact (Option.some.inj this).symm
      subst ex
      have s3 : Same H (upd H' T (.tup [.int ((i : Nat) : Int), .ref b])) := Same.trans s2 (same_upd nT)
      refine ⟨T, _, rfl, .inl (.inl upd_same), rfl, _, _, rfl, _, _, rfl, rfl, ?_⟩
      refine ⟨_, rfl, _, rfl, _, rfl, g, _, rfl, .inl (SqL.of (s3 _ _ hg)), b, d, rows.length, r, by rw [List.length_map, ln]; rfl, DX.same hbr s3, h1 _ (List.mem_of_getElem? hr0), hd, fun H4 s4 => ⟨_, rfl, no ?_⟩⟩
      exact ⟨Same.trans s3 s4, _, _, rfl⟩
    · obtain ⟨s2, x, y, rfl⟩ := p
      refine ⟨_, rfl, g, _, rfl, .inl (SqL.of (s2 _ _ hg)), _, _, rfl, rfl, _, rfl, ite2 (fun e => ?_) fun _ => q _ s2⟩
      have e := of_decide_eq_true e
      rw [List.length_map] at e
      omega
end
end WW


set_option maxHeartbeats 2000000

namespace WW
open PySem PySem.Spec PyProof.Rows L2
/-- what is known of the class Pattern -/
structure PatC (K : PySem.W.Frag) (mg : Str → Option Value) (C : Addr) : Prop where
  cl : Cls K C
  nW : NoAttr K C "own_width"
  nG : NoAttr K C "own_goes"
  mgC : mg "Pattern" = some (.ref C)
theorem wg_ : ¬ (("own_width" : Str) = "own_goes") := by decide +kernel
theorem gw_ : ¬ (("own_goes" : Str) = "own_width") := by decide +kernel
theorem pf_eq (d : V) (g : V) : putF "own_goes" g (putF "own_width" d []) = ([("own_width", d), ("own_goes", g)] : List (Str × V)) := by
  show (if ("own_width" : Str) = "own_goes" then [(("own_width" : Str), g)] else (("own_width" : Str), d) :: putF "own_goes" g []) = ([("own_width", d), ("own_goes", g)] : List (Str × V))
  rw [if_neg wg_]
  all_goals rfl
theorem pf_w (d g : V) : ([("own_width", d), ("own_goes", g)] : List (Str × V)).lookup ("own_width" : Str) = some d := by
  rw [← pf_eq, lookup_putF, if_neg wg_, lookup_putF, if_pos rfl]
theorem pf_g (d g : V) : ([("own_width", d), ("own_goes", g)] : List (Str × V)).lookup ("own_goes" : Str) = some g := by
  rw [← pf_eq, lookup_putF, if_pos rfl]
theorem pf_no (d g : V) {m : Str} (h1 : ¬ m = "own_goes") (h2 : ¬ m = "own_width") : ([("own_width", d), ("own_goes", g)] : List (Str × V)).lookup m = none := by
  rw [← pf_eq, lookup_putF, if_neg h1, lookup_putF, if_neg h2]
  all_goals rfl
def SRow (r : IRow) : Prop := r.Pairwise fun p q => keyLe (lk p.1) (lk q.1) = true
def SortedOf (r r' : IRow) : Prop := r'.Perm r ∧ SRow r'
abbrev XC (P : Program) (w : World) (K : PySem.W.Frag) (mg : Str → Option Value) (base : Heap) (N : List Str) (qual : Str) (st : Stmt) (f : Addr) (cdv : Value) (A : Around) (outer : List Env) (s : Shared) (H : Hp) (E : XK) : Cx := (cxOf CX0 P w K mg base N qual (defScope st) f cdv A outer s H E).nox
section
variable {P : Program} {w : World} {K : PySem.W.Frag} {mg : Str → Option Value} {base : Heap}
abbrev sPInit : Stmt := inClass (top 24) 0
abbrev nPInit : List Str := ["self", "width", "goes", "row", "letter"]
theorem scP0 : FnScope nPInit ["self", "width", "goes"] (defScope sPInit) := ⟨rfl, rfl, rfl, by decide +kernel, rfl, by decide +kernel, by decide +kernel⟩
def spPInit (P : Program) (w : World) (C : Addr) : Sp := fun vs H Q _ => ∃ (p g dx : Addr) (d : Nat) (rows : List IRow), vs = [.ref p, .int d, .ref g] ∧ H p = some (.ins C dx []) ∧ GoesA P w H g rows ∧ GoesOk d rows ∧ d ≤ 4 ∧
  ∀ H' rows', SamX p H H' → PatAt P w C H' p d rows' → Paired SortedOf rows rows' → Q .non H'
theorem ok_pinit {C : Addr} (B : Blt mg) (T : PatC K mg C) (D0 : Dn K mg "want_narrow" sNarrow ["width"]) (G0 : FnOk P w K mg base CX0 3 D0.f D0.fd ["width"] spNarrow)
    (D1 : Dn K mg "want_goes" sWantGoes ["width", "goes"]) (G1 : FnOk P w K mg base CX0 5 D1.f D1.fd ["width", "goes"] (spWantGoes P w)) (D : Md K C "__init__" "Pattern.__init__" sPInit ["self", "width", "goes"]) :
    FnOk P w K mg base CX0 6 D.f D.fd ["self", "width", "goes"] (spPInit P w C) := by
  refine D.F.ok scP0 (fun vs H Q E h => ?_) (fun cdv A outer s H vs Q E hr h => ?_)
  · obtain ⟨p, g, dx, d, rows, rfl, _⟩ := h
    rfl
  · obtain ⟨p, g, dx, d, rows, rfl, hp, hg, ok, hd, q⟩ := h
    have hu := hr.un
    refine' ⟨_, pss_cons (ps_expr (pe_call G0 (hr.mono (by decide)) (by rfl) D0.g D0.F.kp D0.b .nil pass0 (pa_cons (pv 1) pa_nil)))
      (pss_cons (ps_expr (pe_call G1 hr (by rfl) D1.g D1.F.kp D1.b .nil pass0 (pa_cons (pv 1) (pa_cons (pv 2) pa_nil))))
      (pss_cons (ps_fld (pv 0) (pv 1) rfl)
      (pss_one (ps_fld (pv 0) (pe_lc (own := [("row", 3)]) (g := gName 3) (tt := tYes) (te := tXDc P w (iList K (tCB (rSrt P w K) (tCons (tVar 3) tNil))) (gName 4) tYes (tVar 4) (tXGet P w (tVar 3) (tVar 4)) [4]) (by rfl) scP0.nd (pi_list (pv 2)) (blkOk_by (own := [("row", 3)]) (N := nPInit) (sc := defScope sPInit) (by decide +kernel))
        (fun _ _ _ _ _ => pg_name (i := 3) scP0.nd rfl (Or.inr rfl)) (fun _ _ _ _ _ => pts_nil)
        (fun _ _ _ _ _ => ?inner)) rfl)))), ?main⟩
    case inner =>
      exact pe_xdc (own := [("letter", 4)]) (g := gName 4) (tt := tYes) (u9 hr) (by rfl) scP0.nd (pi_list (pe_callB (call_srt rfl (u30 hr)) (by rfl) B.sorted (by decide +kernel) (pa_cons (pv 3) pa_nil))) (blkOk_by (own := [("letter", 4)]) (N := nPInit) (sc := relS _ (defScope sPInit)) (by decide +kernel))
          (fun _ _ _ _ _ => pg_name (i := 4) scP0.nd rfl (Or.inl rfl)) (fun _ _ _ _ _ => pts_nil) (fun _ _ _ _ _ => pv 4) (fun _ _ _ _ _ => pe_xget (u9 hr) (pv 3) (pv 4) (fun _ _ => rfl))
    case main =>
      obtain ⟨L, hgl, hL⟩ := id hg
      have ln : L.length = rows.length := Paired.length hL
      refine ⟨_, rfl, d, rfl, hd, _, rfl, _, rfl, g, d, rows, rfl, hg, ok, hd, fun H1 s1 => ?_⟩
      refine ⟨_, rfl, _, rfl, p, C, dx, [], rfl, s1 _ _ hp, T.cl, T.nW, (by show 0 < 1000; decide), ?_⟩
      have gp : g ≠ p := fun e => by
        rw [e, hp] at hgl
        cases hgl
      have s2 : SamX p H (upd H1 p (.ins C dx (putF "own_width" (.int d) []))) := (SamX.of_same s1).trans SamX.upd
      have ntp : ∀ xs, H p ≠ some (.tup xs) := fun xs e => by rw [hp] at e; cases e
      obtain ⟨H2, e2⟩ : ∃ H2, upd H1 p (.ins C dx (putF "own_width" (.int d) [])) = H2 := ⟨_, rfl⟩
      have hp2 : H2 p = some (.ins C dx (putF "own_width" (.int d) [])) := by rw [← e2]; exact upd_same
      rw [e2] at s2
      have g2 : H2 g = some (.lst (L.map V.ref)) := s2 _ _ gp hgl
      have L2 : RowsA P w H2 L rows := Paired.mapP hL fun b r x => by
        have x : DX P w .t H b (rowKv r) := x
        obtain ⟨φ, eb⟩ := x.ext
        exact s2.dx ntp (fun e => by rw [e, hp] at eb; cases eb) x
      refine ⟨_, rfl, g, rfl, ⟨_, SqL.of (by rw [e2]; exact g2)⟩, fun D hD => ?_⟩
      rw [e2] at hD ⊢
      refine lc_list (K := K) (a := g) (xs := L.map V.ref) (fun i H' => Same H2 H' ∧ ∃ bs rs, H' D = some (.lst (bs.map V.ref)) ∧ RowsA P w H' bs rs ∧ Paired SortedOf (rows.take i) rs) ⟨same_upd hD, [], [], upd_same, .nil, .nil⟩ (fun i H' hi p => SqL.of (p.1 _ _ g2)) (fun i x H' hx pv => ?_) fun H' pv => ?_
      · obtain ⟨s3, bs, rs, hDl, hbs, hrs⟩ := pv
        have hi : i < L.length := by simpa using (List.getElem?_eq_some_iff.mp hx).1
        obtain ⟨b, hb⟩ : ∃ b, L[i]? = some b := ⟨L[i]'(by omega), List.getElem?_eq_getElem (by omega)⟩
        rw [List.getElem?_map, hb] at hx
        cases hx
        obtain ⟨r, hr0, hbr⟩ := paired_get1 L2 hb
        obtain ⟨o1, o2, o3, o4⟩ := ok.1 r (List.mem_of_getElem? hr0)
        have hbr : DX P w .t H' b (rowKv r) := DX.same hbr s3
        refine ⟨rfl, yes ?_⟩
        refine ⟨_, rfl, b, (r.map (·.1)).map lk, rfl, .inl ⟨rowKv r, hbr, by simp [rowKv]⟩, sortOk_letters (fun l hl => by obtain ⟨p, hp, rfl⟩ := List.mem_map.mp hl; exact o1 p hp) o2, fun q ys ks' hq perm pw py => ?_⟩
        have sq := same_upd (o := .lst ys) hq
        refine ⟨q, rfl, ⟨_, SqL.of upd_same⟩, fun D2 u0 hD2 hx0 => ?_⟩
        obtain ⟨r', pr, ekr⟩ := perm_map (f := fun p : Ltr × Int => lk p.1) perm r (by rw [List.map_map]; rfl)
        have lks : ks'.length = r'.length := by rw [ekr, List.length_map]
        have lys : ys.length = r'.length := by rw [← Paired.length py, lks]
        have nd' : (r'.map (·.1)).Nodup := (pr.map (·.1)).nodup_iff.mpr o2
        have ntD : ∀ {Hx : Hp} {kd kvs}, DX P w kd Hx D2 kvs → ∀ xs, Hx D2 ≠ some (.tup xs) := fun hx xs e => by
          obtain ⟨φ, e2⟩ := hx.ext
          rw [e2] at e
          cases e
        refine dc_it (n := r'.length) (fun j Hj => Same (upd H' q (.lst ys)) Hj ∧ DX P w .t Hj D2 (rowKv (r'.take j))) ⟨same_upd hD2, by exact hx0 .t⟩ (fun j Hj hj pj => ?_) (fun Hj pj => ?_) (fun j Hj x Hk hj pj y => ?_) fun Hj pj => ?_
        · exact ⟨ys, ys[j]'(by omega), SqL.of (pj.1 _ _ upd_same), List.getElem?_eq_getElem (by omega)⟩
        · exact ⟨ys, SqL.of (pj.1 _ _ upd_same), by omega⟩
        · obtain ⟨rfl, f⟩ := y
          have hx := f _ (SqL.of (pj.1 _ _ upd_same))
          obtain ⟨k', hk', nk⟩ := paired_get2 py hx
          obtain ⟨p0, hp0⟩ : ∃ p0, r'[j]? = some p0 := ⟨r'[j], List.getElem?_eq_getElem hj⟩
          rw [ekr, List.getElem?_map, hp0] at hk'
          cases hk'
          have smj : Same H' Hk := Same.trans sq pj.1
          obtain ⟨c, rfl, hc⟩ := lk_tup nk
          have kyc : KeyV .t Hk (lk p0.1) (.ref c) := keyV_lk.mpr ⟨c, rfl, smj _ _ hc⟩
          have hm : p0 ∈ r := pr.mem_iff.mp (List.mem_of_getElem? hp0)
          have v1 : valV (rowKv r) (lk p0.1) = some (.int p0.2) := by rw [rowKv_val, at1_mem o2 hm]; rfl
          have lr : r'.length = r.length := pr.length_eq
          refine ⟨rfl, yes ⟨_, rfl, _, rfl, _, rfl, b, .t, rowKv r, lk p0.1, .int p0.2, rfl, hbr.same smj, kyc, v1, .t, rowKv (r'.take j), lk p0.1, kyc, pj.2, ?_, fun u hx2 => ⟨Same.put pj.1 hD2, ?_⟩⟩⟩
          · rw [rowKv_len, List.length_take]
            exact small1000 (by omega)
          · have v2 : valV (rowKv (r'.take j)) (lk p0.1) = none := by
              rw [rowKv_val, at1_none.mpr]
              · rfl
              · intro z
                obtain ⟨p1, hp1, e1⟩ := List.mem_map.mp z
                obtain ⟨i1, hi1, e2⟩ := List.getElem_of_mem hp1
                rw [List.length_take] at hi1
                have g1 : r'[i1]? = some p1 := by
                  rw [List.getElem_take] at e2
                  rw [List.getElem?_eq_getElem (by omega), e2]
                have n1 : (r'.map (·.1))[i1]? = some p0.1 := by rw [List.getElem?_map, g1]; exact congrArg some e1
                have n2 : (r'.map (·.1))[j]? = some p0.1 := by rw [List.getElem?_map, hp0]; rfl
                have := (List.getElem?_inj (by rw [List.length_map]; omega) nd').mp (n1.trans n2.symm)
                omega
            rw [putK_new _ v2] at hx2
            rw [List.take_add_one, hp0]
            have e3 : rowKv (r'.take j ++ [p0]) = rowKv (r'.take j) ++ [(lk p0.1, .int p0.2)] := by simp [rowKv]
            show DX P w .t _ D2 (rowKv (r'.take j ++ [p0]))
            rw [e3]
            exact hx2
        · have smj : Same H' Hj := Same.trans sq pj.1
          rw [List.take_length] at pj
          have nD2 : D2 ≠ D := fun e => by
            obtain ⟨φ, eb⟩ := pj.2.ext
            rw [e, smj _ _ hDl] at eb
            cases eb
          have ntl : ∀ xs, Hj D ≠ some (.tup xs) := tup_nat (smj _ _ hDl)
          have lb : bs.length ≤ i := by
            have h1 := Paired.length hbs
            have h2 := Paired.length hrs
            rw [List.length_take] at h2
            omega
          refine ⟨_, smj _ _ hDl, ?_, Same.put (Same.trans s3 smj) hD, bs ++ [D2], rs ++ [r'], ?_, ?_, ?_⟩
          · rw [List.length_map]
            have := ok.2.2
            exact small1000 (by omega)
          · rw [upd_same, List.map_append]
            rfl
          · refine Paired.snoc (Paired.mapP hbs fun a r0 x => ?_) (SamX.upd.dx ntl nD2 pj.2)
            have x : DX P w .t H' a (rowKv r0) := x
            have x' := x.same smj
            refine SamX.upd.dx ntl (fun e => ?_) x'
            obtain ⟨φ, eb⟩ := x.ext
            rw [e, hDl] at eb
            cases eb
          · rw [List.take_add_one, hr0]
            refine Paired.snoc hrs ⟨pr, ?_⟩
            rw [ekr, List.pairwise_map] at pw
            exact pw
      · obtain ⟨s3, bs, rs, hDl, hbs, hrs⟩ := pv
        rw [List.length_map, ln, List.take_length] at hrs
        refine ⟨_, rfl, p, C, dx, _, rfl, s3 _ _ hp2, T.cl, T.nG, (by show 1 < 1000; decide), ?_⟩
        have Dp : D ≠ p := fun e => by
          rw [e, hp2] at hD
          cases hD
        have nt2 : ∀ xs, H' p ≠ some (.tup xs) := fun xs e => by rw [s3 _ _ hp2] at e; cases e
        refine q _ rs ((s2.trans (SamX.of_same s3)).trans SamX.upd) ⟨dx, D, by rw [upd_same, pf_eq], bs, by rw [upd_ne Dp]; exact hDl, Paired.mapP hbs fun a r0 x => ?_⟩ hrs
        have x : DX P w .t H' a (rowKv r0) := x
        refine SamX.upd.dx nt2 (fun e => ?_) x
        obtain ⟨φ, eb⟩ := x.ext
        rw [e, s3 _ _ hp2] at eb
        cases eb
end
end WW


set_option maxHeartbeats 2000000

namespace WW
open PySem PySem.Spec PyProof.Rows L2
/-! the rows of a pattern, words through it -/
section
variable {X : Cx} {C : Addr} {e i : Expr} {ta ti : TE} {apos pos : Pos}
/-- e.own_goes[i] -/
def tRow (P : Program) (w : World) (C : Addr) (ta ti : TE) : TE := fun σ H Q => ta σ H fun x H1 => ∃ p d rows H0, x = .ref p ∧ PatAt P w C H0 p d rows ∧ Same H0 H1 ∧ ti σ H1 fun y H2 => Same H1 H2 ∧ ∃ (n : Nat) (r : IRow), y = .int n ∧ rows[n]? = some r ∧ ∀ b, RowI P w H0 b r → Q (.ref b) H2
theorem pe_row (T : PatC X.K X.mg C) (he : PE X e ta) (hi : PE X i ti) (hs : PlainIx i := by exact fun _ _ => rfl) (hb : attributeBase e "own_goes" X.env (eval e X.env) = eval e X.env := by rfl) :
    PE X (.Subscript (.Attribute e "own_goes" apos) i pos) (tRow X.prog X.w C ta ti) := by
  refine ⟨fun pins s σ H Q I h => ?_⟩
  refine Subscript_ (attr_of hb (thn (he.run pins s σ H _ I h) fun u s1 ⟨x, H1, I1, rx, p, d, rows, H0, ex, ⟨dx, g, ep, L, hg, hL⟩, sm0, q1⟩ => ?_))
  subst ex
  obtain rfl : u = Value.ref p := rx
  refine getattr_ok I1 (sm0 _ _ ep) T.cl T.nG (pf_g _ _) fun u' s2 I2 ru => ?_
  refine thn (hi.run pins s2 σ H1 _ I2 q1) fun v s3 ⟨y, H2, I3, ry, sm, n, r, ey, hr, q2⟩ => ?_
  subst ey
  obtain ⟨b, hb2, hbr⟩ := paired_get2 hL hr
  exact ix_list _ _ pins s3 σ H2 (.ref g) (.int n) u' v Q I3 ru ry ⟨g, _, _, .ref b, rfl, rfl, SqL.of (sm _ _ (sm0 _ _ hg)), atI_nat (j := n) (by rw [List.getElem?_map, hb2]; rfl), q2 b hbr⟩ (hs _ _)
/-- e.own_width -/
def tWid (P : Program) (w : World) (C : Addr) (ta : TE) : TE := fun σ H Q => ta σ H fun x H1 => ∃ p d rows, x = .ref p ∧ PatAt P w C H1 p d rows ∧ Q (.int (d : Int)) H1
theorem pe_wid (T : PatC X.K X.mg C) (he : PE X e ta) (hb : attributeBase e "own_width" X.env (eval e X.env) = eval e X.env := by rfl) : PE X (.Attribute e "own_width" apos) (tWid X.prog X.w C ta) := by
  refine ⟨fun pins s σ H Q I h => ?_⟩
  refine attr_of hb (thn (he.run pins s σ H _ I h) fun u s1 ⟨x, H1, I1, rx, p, d, rows, ex, ⟨dx, g, ep, L, hg, hL⟩, q1⟩ => ?_)
  subst ex
  obtain rfl : u = Value.ref p := rx
  exact getattr_ok I1 ep T.cl T.nW (pf_w _ _) fun u' s2 I2 ru => ⟨_, H1, I2, ru, q1⟩
/-- e.own_goes -/
def tGoes (P : Program) (w : World) (C : Addr) (ta : TE) : TE := fun σ H Q => ta σ H fun x H1 => ∃ p d rows, x = .ref p ∧ PatAt P w C H1 p d rows ∧ ∀ g, GoesA P w H1 g rows → Q (.ref g) H1
theorem pe_goes (T : PatC X.K X.mg C) (he : PE X e ta) (hb : attributeBase e "own_goes" X.env (eval e X.env) = eval e X.env := by rfl) : PE X (.Attribute e "own_goes" apos) (tGoes X.prog X.w C ta) := by
  refine ⟨fun pins s σ H Q I h => ?_⟩
  refine attr_of hb (thn (he.run pins s σ H _ I h) fun u s1 ⟨x, H1, I1, rx, p, d, rows, ex, ⟨dx, g, ep, L, hg, hL⟩, q1⟩ => ?_)
  subst ex
  obtain rfl : u = Value.ref p := rx
  exact getattr_ok I1 ep T.cl T.nG (pf_g _ _) fun u' s2 I2 ru => ⟨_, H1, I2, ru, q1 g ⟨L, hg, hL⟩⟩
end
/-! where a word leads -/
def rowAt (rows : List IRow) (i : Int) : IRow := rows.getD i.toNat []
def stepR (rows : List IRow) (i : Int) (l : Ltr) : Option Int := at1 (rowAt rows i) l
def runR (rows : List IRow) : Int → List Ltr → Option Int
  | i, [] => some i
  | i, l :: t => (stepR rows i l).bind fun j => runR rows j t
def oV : Option Int → V
  | none => .non
  | some i => .int i
theorem rowAt_some {rows : List IRow} {i : Int} (h0 : 0 ≤ i) (h1 : i < (rows.length : Int)) : ∃ n : Nat, i = n ∧ rows[n]? = some (rowAt rows i) := by
  refine ⟨i.toNat, by omega, ?_⟩
  unfold rowAt
  rw [List.getElem?_eq_getElem (by omega), List.getD_eq_getElem?_getD, List.getElem?_eq_getElem (by omega)]
  rfl
theorem GoesOk.row {d : Nat} {rows : List IRow} (ok : GoesOk d rows) {i : Int} (h0 : 0 ≤ i) (h1 : i < (rows.length : Int)) : RowOk d rows.length (rowAt rows i) := by
  obtain ⟨n, e, h⟩ := rowAt_some h0 h1
  exact ok.1 _ (List.mem_of_getElem? h)
theorem GoesOk.step {d : Nat} {rows : List IRow} (ok : GoesOk d rows) {i j : Int} {l : Ltr} (h0 : 0 ≤ i) (h1 : i < (rows.length : Int)) (h : stepR rows i l = some j) : Lw d l ∧ 0 ≤ j ∧ j < (rows.length : Int) := by
  obtain ⟨o1, o2, o3, o4⟩ := ok.row h0 h1
  have m := at1_some h
  exact ⟨o1 _ m, (o3 _ m).1, (o3 _ m).2⟩
section
variable {P : Program} {w : World} {K : PySem.W.Frag} {mg : Str → Option Value} {base : Heap}
abbrev sLed : Stmt := top 25
abbrev nLed : List Str := ["pattern", "word", "place", "letter"]
theorem sc25 : FnScope nLed ["pattern", "word"] (defScope sLed) := ⟨rfl, rfl, rfl, by decide +kernel, rfl, by decide +kernel, by decide +kernel⟩
def spLed (P : Program) (w : World) (C : Addr) : Sp := fun vs H Q _ => ∃ (p a : Addr) (d : Nat) (rows : List IRow) (bs : List Addr) (ls : List Ltr), vs = [.ref p, .ref a] ∧ PatAt P w C H p d rows ∧ GoesOk d rows ∧ H a = some (.lst (bs.map V.ref)) ∧ LtsA H bs ls ∧ Q (oV (runR rows 0 ls)) H
theorem ok_led {C : Addr} (B : Blt mg) (T : PatC K mg C) (D : Dn K mg "led" sLed ["pattern", "word"]) : FnOk P w K mg base CX0 1 D.f D.fd ["pattern", "word"] (spLed P w C) := by
  refine D.F.ok sc25 (fun vs H Q E h => ?_) (fun cdv A outer s H vs Q E hr h => ?_)
  · obtain ⟨p, a, d, rows, bs, ls, rfl, _⟩ := h
    rfl
  · obtain ⟨p, a, d, rows, bs, ls, rfl, hp, ok, ha, hb, q⟩ := h
    have lb : bs.length = ls.length := Paired.length hb
    refine ⟨_, pss_cons (ps_set (i := 2) sc25.nd rfl (.inl rfl) pe_int)
      (pss_cons (ps_for PassesOwn.never rfl (pi_list (pv 1)) (pg_name (i := 3) sc25.nd rfl (.inl rfl))
        (pss_cons (ps_if (pt_cmp (pc_xnotin (u9 hr) (pv 3) (pe_row T (pv 0) (pv 2)))) (pss_one (ps_ret pe_non)) pss_nil)
          (pss_one (ps_set (i := 2) sc25.nd rfl (.inl rfl) (pe_xget (u9 hr) (pe_row T (pv 0) (pv 2)) (pv 3) (fun _ _ => rfl))))))
      (pss_one (ps_ret (pv 2)))), ?_⟩
    refine ⟨_, rfl, a, rfl, ⟨_, SqL.of ha⟩, for_it (n := ls.length) (fun i σ H' => H' = H ∧ ∃ (j : Int) (y : Option V), σ = [some (.ref p), some (.ref a), some (.int j), y] ∧ 0 ≤ j ∧ j < (rows.length : Int) ∧ runR rows 0 ls = runR rows j (ls.drop i)) ⟨rfl, 0, none, rfl, by omega, by have := ok.2.1; omega, rfl⟩ (fun i σ H' hi pv => ?_) (fun σ H' pv => ?_) (fun i σ H' x H2 hi pv y => ?_) fun σ H' pv => ?_⟩
    · obtain ⟨rfl, _⟩ := pv
      exact ⟨_, (bs.map V.ref)[i]'(by rw [List.length_map]; omega), SqL.of ha, List.getElem?_eq_getElem _⟩
    · obtain ⟨rfl, _⟩ := pv
      exact ⟨_, SqL.of ha, by rw [List.length_map]; omega⟩
    · obtain ⟨rfl, j, y0, rfl, j0, j1, er⟩ := pv
      obtain ⟨rfl, f⟩ := y
      have hx := f _ (SqL.of ha)
      rw [List.getElem?_map] at hx
      obtain ⟨b, hb0, rfl⟩ := Option.map_eq_some_iff.mp hx
      obtain ⟨l, hl, hbl⟩ := hb.get2 hb0
      obtain ⟨n, rfl, hn⟩ := rowAt_some j0 j1
      have ky : KeyV .t H2 (lk l) (.ref b) := keyV_lk.mpr ⟨b, rfl, hbl⟩
      have ed : ls.drop i = l :: ls.drop (i + 1) := by
        rw [List.drop_eq_getElem_cons hi]
        rw [List.getElem?_eq_getElem hi] at hl
        rw [Option.some.inj hl]
      rw [ed] at er
      have er : runR rows 0 ls = (stepR rows n l).bind fun j => runR rows j (ls.drop (i + 1)) := er
      refine ⟨_, rfl, _, rfl, p, d, rows, H2, rfl, hp, fun _ _ e => e, _, rfl, fun _ _ e => e, n, _, rfl, hn, fun c hc => ?_⟩
      refine ⟨c, .t, _, lk l, rfl, hc, ky, _, rfl, ?_⟩
      rw [rowKv_val, Option.isSome_map]
      cases es : at1 (rowAt rows n) l with
      | none =>
        have es : stepR rows n l = none := es
        rw [es] at er
        have er : runR rows 0 ls = none := er
        rw [er] at q
        refine ys ?_
        exact q
      | some j2 =>
        have es : stepR rows n l = some j2 := es
        rw [es] at er
        have g := ok.step j0 j1 es
        refine no ⟨_, rfl, p, d, rows, H2, rfl, hp, fun _ _ e => e, _, rfl, fun _ _ e => e, n, _, rfl, hn, fun c2 hc2 => ?_⟩
        refine ⟨_, rfl, c2, .t, _, lk l, .int j2, rfl, hc2, ky, ?_, rfl, j2, _, rfl, g.2.1, g.2.2, er⟩
        rw [rowKv_val, show at1 (rowAt rows n) l = some j2 from es]
        rfl
    · obtain ⟨rfl, j, y0, rfl, j0, j1, er⟩ := pv
      rw [List.drop_length] at er
      rw [er] at q
      exact ⟨_, rfl, q⟩
end
end WW


set_option maxHeartbeats 2000000

/-! the order of keys -/
namespace WW
open PySem PySem.Spec PyProof.Rows L2
mutual
theorem eqv_data : ∀ a b : NestedKey, PyData.eqv a.data b.data = true → a = b
  | .none, .none, _ => rfl
  | .num i, .num j, h => by
    have : i = j := by simpa [NestedKey.data, PyData.eqv] using h
    rw [this]
  | .text x, .text y, h => by
    have : x = y := by simpa [NestedKey.data, PyData.eqv] using h
    rw [this]
  | .tup xs, .tup ys, h => by
    have h : PyData.eqvAll (NestedKey.datas xs) (NestedKey.datas ys) = true := by simpa [NestedKey.data, PyData.eqv] using h
    rw [eqvs_data xs ys h]
  | .none, .num _, h => by simp [NestedKey.data, PyData.eqv] at h
  | .none, .text _, h => by simp [NestedKey.data, PyData.eqv] at h
  | .none, .tup _, h => by simp [NestedKey.data, PyData.eqv] at h
  | .num _, .none, h => by simp [NestedKey.data, PyData.eqv] at h
  | .num _, .text _, h => by simp [NestedKey.data, PyData.eqv] at h
  | .num _, .tup _, h => by simp [NestedKey.data, PyData.eqv] at h
  | .text _, .none, h => by simp [NestedKey.data, PyData.eqv] at h
  | .text _, .num _, h => by simp [NestedKey.data, PyData.eqv] at h
  | .text _, .tup _, h => by simp [NestedKey.data, PyData.eqv] at h
  | .tup _, .none, h => by simp [NestedKey.data, PyData.eqv] at h
  | .tup _, .num _, h => by simp [NestedKey.data, PyData.eqv] at h
  | .tup _, .text _, h => by simp [NestedKey.data, PyData.eqv] at h
theorem eqvs_data : ∀ xs ys : List NestedKey, PyData.eqvAll (NestedKey.datas xs) (NestedKey.datas ys) = true → xs = ys
  | [], [], _ => rfl
  | x :: xs, y :: ys, h => by
    have h : PyData.eqv x.data y.data = true ∧ PyData.eqvAll (NestedKey.datas xs) (NestedKey.datas ys) = true := by simpa [NestedKey.datas, PyData.eqvAll] using h
    rw [eqv_data x y h.1, eqvs_data xs ys h.2]
  | [], _ :: _, h => by simp [NestedKey.datas, PyData.eqvAll] at h
  | _ :: _, [], h => by simp [NestedKey.datas, PyData.eqvAll] at h
end
theorem keyLe_trans {a b c : NestedKey} (h1 : keyLe a b = true) (h2 : keyLe b c = true) : keyLe a c = true := (PySem.W.sortLe_total (listOrd itemOrd) false fun b : NestedKey => PySem.W.keyToks b.data).trans a b c h1 h2
theorem keyLe_total (a b : NestedKey) : keyLe a b = true ∨ keyLe b a = true := (PySem.W.sortLe_total (listOrd itemOrd) false fun b : NestedKey => PySem.W.keyToks b.data).total a b
theorem keyLe_anti {a b : NestedKey} (al : PySem.W.alike a.data b.data = true) (h1 : keyLe a b = true) (h2 : keyLe b a = true) : a = b := by
  have g1 : (!PyProof.Rows.lexLt itemOrd (PySem.W.keyToks b.data) (PySem.W.keyToks a.data)) = true := h1
  have g2 : (!PyProof.Rows.lexLt itemOrd (PySem.W.keyToks a.data) (PySem.W.keyToks b.data)) = true := h2
  rw [Bool.not_eq_true'] at g1 g2
  have e : PySem.W.keyToks a.data = PySem.W.keyToks b.data := (listOrd itemOrd).total _ _ g2 g1
  cases q : PyData.eqv a.data b.data with
  | true => exact eqv_data a b q
  | false =>
    have z := (PySem.W.toks_eqv a.data b.data al).2 q [] [.inl 0]
    rw [← e, PySem.W.lex_pre, PyProof.Rows.lex_irrefl] at z
    cases z
theorem sorted_unique {l1 l2 : List NestedKey} (al : ∀ a ∈ l1, ∀ b ∈ l1, PySem.W.alike a.data b.data = true) (p : l1.Perm l2) (h1 : l1.Pairwise fun x y => keyLe x y = true) (h2 : l2.Pairwise fun x y => keyLe x y = true) : l1 = l2 := by
  refine List.Perm.eq_of_pairwise (le := fun x y => keyLe x y = true) (fun a b ha hb h1 h2 => keyLe_anti (al a ha b (p.mem_iff.mpr hb)) h1 h2) h1 h2 p
theorem alike_lk (a b : Ltr) : PySem.W.alike (lk a).data (lk b).data = true := by
  have := alike_nums a b
  simpa [lk, NestedKey.data, PySem.W.alike] using this
/-- a letter and the name of its goal -/
def sgk (p : Ltr × Int) : NestedKey := .tup [lk p.1, .num p.2]
theorem alike_sgk (a b : Ltr × Int) : PySem.W.alike (sgk a).data (sgk b).data = true := by
  have := alike_lk a.1 b.1
  simp [sgk, NestedKey.data, NestedKey.datas, PySem.W.alike, PySem.W.alikeAll, this]
theorem sgk_inj {a b : Ltr × Int} (h : sgk a = sgk b) : a = b := by
  unfold sgk at h
  injection h with h
  injection h with h1 h2
  injection h2 with h2 _
  injection h2 with h2
  exact Prod.ext (lk_inj h1) h2
end WW


set_option maxHeartbeats 2000000

/-! searching level by level: the least word that one holds alone -/
namespace WW
open PySem PySem.Spec PyProof.Rows L2
def lle (a b : Ltr) : Prop := keyLe (lk a) (lk b) = true
def llt (a b : Ltr) : Prop := lle a b ∧ a ≠ b
theorem lle_total (a b : Ltr) : lle a b ∨ lle b a := keyLe_total _ _
theorem lle_trans {a b c : Ltr} (h : lle a b) (g : lle b c) : lle a c := keyLe_trans h g
theorem lle_anti {a b : Ltr} (h : lle a b) (g : lle b a) : a = b := lk_inj (keyLe_anti (alike_lk a b) h g)
/-- the order of words: the shorter first, then letter by letter -/
def wlt : List Ltr → List Ltr → Prop
  | [], _ => False
  | _, [] => False
  | a :: u, b :: v => llt a b ∨ (a = b ∧ wlt u v)
def SLt (u v : List Ltr) : Prop := u.length < v.length ∨ (u.length = v.length ∧ wlt u v)
def SLe (u v : List Ltr) : Prop := u = v ∨ SLt u v
theorem llt_trans {a b c : Ltr} (h : llt a b) (g : llt b c) : llt a c := ⟨lle_trans h.1 g.1, fun e => h.2 (lle_anti h.1 (by rw [e]; exact g.1))⟩
theorem llt_tri (a b : Ltr) : llt a b ∨ a = b ∨ llt b a := by
  by_cases e : a = b
  · exact .inr (.inl e)
  · rcases lle_total a b with h | h
    · exact .inl ⟨h, e⟩
    · exact .inr (.inr ⟨h, fun q => e q.symm⟩)
theorem wlt_irrefl : ∀ u, ¬ wlt u u
  | [], h => h
  | a :: u, h => by
    rcases h with h | h
    · exact h.2 rfl
    · exact wlt_irrefl u h.2
theorem wlt_trans : ∀ {u v w : List Ltr}, wlt u v → wlt v w → wlt u w
  | [], _, _, h, _ => h.elim
  | _ :: _, [], _, h, _ => h.elim
  | _ :: _, _ :: _, [], _, h => h.elim
  | a :: u, b :: v, c :: w, h, g => by
    rcases h with h | ⟨rfl, h⟩ <;> rcases g with g | ⟨rfl, g⟩
    · exact .inl (llt_trans h g)
    · exact .inl h
    · exact .inl g
    · exact .inr ⟨rfl, wlt_trans h g⟩
theorem wlt_snoc {x y : Ltr} : ∀ {u v : List Ltr}, wlt u v → wlt (u ++ [x]) (v ++ [y])
  | [], _, h => h.elim
  | _ :: _, [], h => h.elim
  | a :: u, b :: v, h => by
    rcases h with h | ⟨rfl, h⟩
    · exact .inl h
    · exact .inr ⟨rfl, wlt_snoc h⟩
theorem wlt_last {x y : Ltr} (h : llt x y) : ∀ u : List Ltr, wlt (u ++ [x]) (u ++ [y])
  | [] => .inl h
  | _ :: u => .inr ⟨rfl, wlt_last h u⟩
theorem slt_irrefl (u : List Ltr) : ¬ SLt u u := fun h => by
  rcases h with h | h
  · omega
  · exact wlt_irrefl u h.2
theorem slt_trans {u v w : List Ltr} (h : SLt u v) (g : SLt v w) : SLt u w := by
  rcases h with h | ⟨e, h⟩ <;> rcases g with g | ⟨e2, g⟩
  · exact .inl (by omega)
  · exact .inl (by omega)
  · exact .inl (by omega)
  · exact .inr ⟨by omega, wlt_trans h g⟩
theorem sle_refl (u : List Ltr) : SLe u u := .inl rfl
theorem sle_trans {u v w : List Ltr} (h : SLe u v) (g : SLe v w) : SLe u w := by
  rcases h with rfl | h
  · exact g
  · rcases g with rfl | g
    · exact .inr h
    · exact .inr (slt_trans h g)
theorem slt_sle {u v w : List Ltr} (h : SLt u v) (g : SLe v w) : SLt u w := by
  rcases g with rfl | g
  · exact h
  · exact slt_trans h g
theorem sle_anti {u v : List Ltr} (h : SLe u v) (g : SLe v u) : u = v := by
  rcases h with h | h
  · exact h
  · exact absurd (slt_sle h g) (slt_irrefl u)
theorem slt_snoc {u v : List Ltr} (h : SLt u v) (x y : Ltr) : SLt (u ++ [x]) (v ++ [y]) := by
  rcases h with h | ⟨e, h⟩
  · exact .inl (by simp; exact h)
  · exact .inr ⟨by simp [e], wlt_snoc h⟩
theorem slt_last {x y : Ltr} (u : List Ltr) (h : llt x y) : SLt (u ++ [x]) (u ++ [y]) := .inr ⟨by simp, wlt_last h u⟩
theorem slt_ext (u : List Ltr) (x : Ltr) (t : List Ltr) : SLt u (u ++ x :: t) := .inl (by simp)
theorem sle_snoc {u v : List Ltr} (h : SLe u v) (x : Ltr) : SLe (u ++ [x]) (v ++ [x]) := by
  rcases h with rfl | h
  · exact .inl rfl
  · exact .inr (slt_snoc h x x)
theorem sle_last {x y : Ltr} (u : List Ltr) (h : llt x y ∨ y = x) : SLe (u ++ [x]) (u ++ [y]) := by
  rcases h with h | rfl
  · exact .inr (slt_last u h)
  · exact .inl rfl
def Bad (A B : List IRow) (u : List Ltr) : Prop := (runR A 0 u).isSome = true ∧ runR B 0 u = none
def LeastBad (A B : List IRow) (u : List Ltr) : Prop := Bad A B u ∧ ∀ v, Bad A B v → SLe u v
theorem least_one {A B : List IRow} {u v : List Ltr} (h : LeastBad A B u) (g : LeastBad A B v) : u = v := sle_anti (h.2 v g.1) (g.2 u h.1)
def Reach (A B : List IRow) (p : Int × Int) : Prop := ∃ u, runR A 0 u = some p.1 ∧ runR B 0 u = some p.2
abbrev Ent := List Ltr × Int × Int
theorem run_snoc0 (A : List IRow) (l : Ltr) : ∀ (u : List Ltr) (i : Int), runR A i (u ++ [l]) = (runR A i u).bind fun j => stepR A j l
  | [], i => by
    show ((stepR A i l).bind fun j => some j) = stepR A i l
    cases stepR A i l <;> rfl
  | x :: u, i => by
    show ((stepR A i x).bind fun j => runR A j (u ++ [l])) = ((stepR A i x).bind fun j => runR A j u).bind fun j => stepR A j l
    cases stepR A i x with
    | none => rfl
    | some j => exact run_snoc0 A l u j
theorem run_app (A : List IRow) : ∀ (u t : List Ltr) (i : Int), runR A i (u ++ t) = (runR A i u).bind fun j => runR A j t
  | [], t, i => rfl
  | x :: u, t, i => by
    show ((stepR A i x).bind fun j => runR A j (u ++ t)) = ((stepR A i x).bind fun j => runR A j u).bind fun j => runR A j t
    cases stepR A i x with
    | none => rfl
    | some j => exact run_app A u t j
/-- snoc induction -/
theorem snoc_ind {p : List Ltr → Prop} (h0 : p []) (hs : ∀ u x, p u → p (u ++ [x])) (u : List Ltr) : p u := by
  have : ∀ (n : Nat) (u : List Ltr), u.length = n → p u := by
    intro n
    induction n with
    | zero => intro u e; rw [List.length_eq_zero_iff.mp e]; exact h0
    | succ n ih =>
      intro u e
      have hne : u ≠ [] := fun q => by rw [q] at e; cases e
      rw [← List.dropLast_concat_getLast hne]
      exact hs _ _ (ih _ (by rw [List.length_dropLast, e]; rfl))
  exact this _ u rfl
/-- where B stops -/
theorem bad_split {A B : List IRow} {v : List Ltr} (h : Bad A B v) : ∃ u x t a b g, v = u ++ x :: t ∧ runR A 0 u = some a ∧ runR B 0 u = some b ∧ stepR A a x = some g ∧ stepR B b x = none := by
  obtain ⟨h1, h2⟩ := h
  have : ∀ (v : List Ltr) (i j : Int), (runR A i v).isSome = true → runR B j v = none → ∃ u x t a b g, v = u ++ x :: t ∧ runR A i u = some a ∧ runR B j u = some b ∧ stepR A a x = some g ∧ stepR B b x = none := by
    intro v
    induction v with
    | nil => intro i j _ q; cases q
    | cons x v ih =>
      intro i j q1 q2
      have q1 : ((stepR A i x).bind fun j => runR A j v).isSome = true := q1
      have q2 : ((stepR B j x).bind fun j => runR B j v) = none := q2
      cases e1 : stepR A i x with
      | none => rw [e1] at q1; cases q1
      | some i2 =>
        rw [e1] at q1
        cases e2 : stepR B j x with
        | none => exact ⟨[], x, v, i, j, i2, rfl, rfl, rfl, e1, e2⟩
        | some j2 =>
          rw [e2] at q2
          obtain ⟨u, y, t, a, b, g, rfl, r1, r2, r3, r4⟩ := ih i2 j2 q1 q2
          refine ⟨x :: u, y, t, a, b, g, rfl, ?_, ?_, r3, r4⟩
          · show ((stepR A i x).bind fun j => runR A j u) = _
            rw [e1]; exact r1
          · show ((stepR B j x).bind fun j => runR B j u) = _
            rw [e2]; exact r2
  exact this v 0 0 h1 h2
def GotE (ord : List Ent) (u : List Ltr) (g f : Int) : Prop := ∃ w, (w, g, f) ∈ ord ∧ SLe w u
theorem GotE.of_mem {ord : List Ent} {u : List Ltr} {g f : Int} (h : (u, g, f) ∈ ord) : GotE ord u g f := ⟨u, h, .inl rfl⟩
theorem GotE.app {ord : List Ent} {u : List Ltr} {g f : Int} (h : GotE ord u g f) (r : List Ent) : GotE (ord ++ r) u g f := let ⟨w, a, b⟩ := h; ⟨w, List.mem_append_left _ a, b⟩
theorem GotE.mem {ord : List Ent} {u : List Ltr} {g f : Int} (h : GotE ord u g f) : (g, f) ∈ ord.map (·.2) := let ⟨w, a, b⟩ := h; List.mem_map.mpr ⟨_, a, rfl⟩
structure BI (A B : List IRow) (ord : List Ent) (n : Nat) (dn : Ltr → Prop) : Prop where
  hd : ord[0]? = some ([], 0, 0)
  nd : (ord.map (·.2)).Nodup
  reach : ∀ e ∈ ord, runR A 0 e.1 = some e.2.1 ∧ runR B 0 e.1 = some e.2.2
  up : ord.Pairwise fun e f => SLt e.1 f.1
  done : ∀ k e, ord[k]? = some e → k < n → ∀ l g, stepR A e.2.1 l = some g → ∃ f, stepR B e.2.2 l = some f ∧ GotE ord (e.1 ++ [l]) g f
  cur : ∀ e, ord[n]? = some e → ∀ l g, dn l → stepR A e.2.1 l = some g → ∃ f, stepR B e.2.2 l = some f ∧ GotE ord (e.1 ++ [l]) g f
  org : ∀ e ∈ ord, e.1 = [] ∨ ∃ k e' l, ord[k]? = some e' ∧ e.1 = e'.1 ++ [l] ∧ (k < n ∨ (k = n ∧ dn l))
section
variable {A B : List IRow} {ord : List Ent} {n : Nat} {dn dn' : Ltr → Prop} {e : Ent} {l : Ltr} {g f : Int}
theorem BI.init : BI A B [([], 0, 0)] 0 fun _ => False := by
  refine ⟨rfl, by simp, fun e he => ?_, by simp, fun k e h hk => absurd hk (by omega), fun e _ l g h => h.elim, fun e he => ?_⟩
  · rw [List.mem_singleton.mp he]
    exact ⟨rfl, rfl⟩
  · rw [List.mem_singleton.mp he]
    exact .inl rfl
theorem BI.org_mono (h : BI A B ord n dn) (hd : ∀ x, dn x → dn' x) : ∀ e ∈ ord, e.1 = [] ∨ ∃ k e' l, ord[k]? = some e' ∧ e.1 = e'.1 ++ [l] ∧ (k < n ∨ (k = n ∧ dn' l)) := fun e he => by
  rcases h.org e he with q | ⟨k, e', l, a, b, c⟩
  · exact .inl q
  · exact .inr ⟨k, e', l, a, b, c.imp id fun c => ⟨c.1, hd _ c.2⟩⟩
theorem BI.skip (h : BI A B ord n dn) (he : ord[n]? = some e) (hs : stepR A e.2.1 l = none) (hd : ∀ x, dn' x ↔ dn x ∨ x = l) : BI A B ord n dn' := by
  refine ⟨h.hd, h.nd, h.reach, h.up, h.done, fun e2 h2 x g hx hg => ?_, h.org_mono fun x hx => (hd x).mpr (.inl hx)⟩
  rcases (hd x).mp hx with hx | rfl
  · exact h.cur e2 h2 x g hx hg
  · rw [he] at h2
    cases h2
    rw [hs] at hg
    cases hg
/-- a pair that stands was found by a word that is not greater -/
theorem BI.le_of_mem (h : BI A B ord n dn) (he : ord[n]? = some e) (hl : ∀ x, dn x → llt x l) {x : Ent} (hx : x ∈ ord) : SLt x.1 (e.1 ++ [l]) := by
  rcases h.org x hx with q | ⟨k, e', y, a, b, c⟩
  · rw [q]
    exact .inl (by simp)
  · rw [b]
    rcases c with c | ⟨rfl, c⟩
    · have hn := (List.getElem?_eq_some_iff.mp he)
      have hk := (List.getElem?_eq_some_iff.mp a)
      obtain ⟨hn1, hn2⟩ := hn
      obtain ⟨hk1, hk2⟩ := hk
      have := List.pairwise_iff_getElem.mp h.up k n hk1 hn1 c
      rw [hk2, hn2] at this
      exact slt_snoc this _ _
    · rw [he] at a
      cases a
      exact slt_last _ (hl y c)
theorem BI.seen (h : BI A B ord n dn) (he : ord[n]? = some e) (h1 : stepR A e.2.1 l = some g) (h2 : stepR B e.2.2 l = some f) (hm : (g, f) ∈ ord.map (·.2)) (hl : ∀ x, dn x → llt x l) (hd : ∀ x, dn' x ↔ dn x ∨ x = l) : BI A B ord n dn' := by
  refine ⟨h.hd, h.nd, h.reach, h.up, h.done, fun e2 he2 x g' hx hg => ?_, h.org_mono fun x hx => (hd x).mpr (.inl hx)⟩
  rcases (hd x).mp hx with hx | rfl
  · exact h.cur e2 he2 x g' hx hg
  · rw [he] at he2
    cases he2
    rw [h1] at hg
    cases hg
    obtain ⟨y, hy, ey⟩ := List.mem_map.mp hm
    refine ⟨f, h2, y.1, ?_, .inr (h.le_of_mem he hl hy)⟩
    rw [← ey]
    exact hy
theorem BI.push (h : BI A B ord n dn) (he : ord[n]? = some e) (h1 : stepR A e.2.1 l = some g) (h2 : stepR B e.2.2 l = some f) (hm : (g, f) ∉ ord.map (·.2)) (hl : ∀ x, dn x → llt x l) (hd : ∀ x, dn' x ↔ dn x ∨ x = l) : BI A B (ord ++ [(e.1 ++ [l], g, f)]) n dn' := by
  obtain ⟨hn1, hn2⟩ := List.getElem?_eq_some_iff.mp he
  have hg : ∀ k x, k ≤ n → (ord ++ [(e.1 ++ [l], g, f)])[k]? = some x → ord[k]? = some x := fun k x hk q => by
    rw [List.getElem?_append_left (by omega)] at q
    exact q
  have hg' : ∀ k x, ord[k]? = some x → (ord ++ [(e.1 ++ [l], g, f)])[k]? = some x := fun k x q => by
    obtain ⟨q1, _⟩ := List.getElem?_eq_some_iff.mp q
    rw [List.getElem?_append_left q1]
    exact q
  refine ⟨hg' _ _ h.hd, ?_, fun x hx => ?_, ?_, fun k x hx hk y g' hy => ?_, fun x hx y g' hy hg2 => ?_, fun x hx => ?_⟩
  · rw [List.map_append, List.nodup_append]
    refine ⟨h.nd, by simp, fun a ha b hb => ?_⟩
    simp at hb
    subst hb
    exact fun q => hm (q ▸ ha)
  · rcases List.mem_append.mp hx with hx | hx
    · exact h.reach x hx
    · rw [List.mem_singleton.mp hx]
      have r := h.reach e (List.mem_of_getElem? he)
      show runR A 0 (e.1 ++ [l]) = some g ∧ runR B 0 (e.1 ++ [l]) = some f
      rw [run_snoc0, run_snoc0, r.1, r.2]
      exact ⟨h1, h2⟩
  · rw [List.pairwise_append]
    refine ⟨h.up, by simp, fun a ha b hb => ?_⟩
    rw [List.mem_singleton.mp hb]
    exact h.le_of_mem he hl ha
  · obtain ⟨f', q1, q2⟩ := h.done k x (hg k x (by omega) hx) hk y g' hy
    exact ⟨f', q1, q2.app _⟩
  · have hx0 := hg n x (Nat.le_refl _) hx
    rcases (hd y).mp hy with hy | rfl
    · obtain ⟨f', q1, q2⟩ := h.cur x hx0 y g' hy hg2
      exact ⟨f', q1, q2.app _⟩
    · rw [he] at hx0
      cases hx0
      rw [h1] at hg2
      cases hg2
      exact ⟨f, h2, .of_mem (List.mem_append_right _ (List.mem_singleton.mpr rfl))⟩
  · rcases List.mem_append.mp hx with hx | hx
    · rcases h.org_mono (fun x hx => (hd x).mpr (.inl hx)) x hx with q | ⟨k, e', y, a, b, c⟩
      · exact .inl q
      · exact .inr ⟨k, e', y, hg' _ _ a, b, c⟩
    · rw [List.mem_singleton.mp hx]
      exact .inr ⟨n, e, l, hg' _ _ he, rfl, .inr ⟨rfl, (hd l).mpr (.inr rfl)⟩⟩
theorem BI.next (h : BI A B ord n dn) (he : ord[n]? = some e) (hall : ∀ x g, stepR A e.2.1 x = some g → dn x) (hd : ∀ x, ¬ dn' x) : BI A B ord (n + 1) dn' := by
  refine ⟨h.hd, h.nd, h.reach, h.up, fun k x hx hk y g hy => ?_, fun x _ y g hy => absurd hy (hd y), fun x hx => ?_⟩
  · by_cases q : k < n
    · exact h.done k x hx q y g hy
    · have : k = n := by omega
      subst this
      rw [he] at hx
      cases hx
      exact h.cur e he y g (hall y g hy) hy
  · rcases h.org x hx with q | ⟨k, e', y, a, b, c⟩
    · exact .inl q
    · exact .inr ⟨k, e', y, a, b, .inl (by rcases c with c | c <;> omega)⟩
theorem BI.found (h : BI A B ord n dn) (he : ord[n]? = some e) (h1 : stepR A e.2.1 l = some g) (h2 : stepR B e.2.2 l = none) (hl : ∀ x g, stepR A e.2.1 x = some g → ¬ dn x → llt l x ∨ x = l) : LeastBad A B (e.1 ++ [l]) := by
  have re := h.reach e (List.mem_of_getElem? he)
  refine ⟨⟨by rw [run_snoc0, re.1]; show (stepR A e.2.1 l).isSome = true; rw [h1]; rfl, by rw [run_snoc0, re.2]; exact h2⟩, fun v hv => ?_⟩
  obtain ⟨hn1, hn2⟩ := List.getElem?_eq_some_iff.mp he
  -- one letter on from an entry
  have one : ∀ (x : Ent) (y : Ltr) (g' : Int), x ∈ ord → stepR A x.2.1 y = some g' → (∃ f', stepR B x.2.2 y = some f' ∧ GotE ord (x.1 ++ [y]) g' f') ∨ SLe (e.1 ++ [l]) (x.1 ++ [y]) := by
    intro x y g' hx hy
    obtain ⟨k, hk⟩ := List.mem_iff_getElem?.mp hx
    obtain ⟨hk1, hk2⟩ := List.getElem?_eq_some_iff.mp hk
    rcases Nat.lt_trichotomy k n with q | q | q
    · exact .inl (h.done k x hk q y g' hy)
    · subst q
      rw [he] at hk
      cases hk
      by_cases dy : dn y
      · exact .inl (h.cur e he y g' dy hy)
      · exact .inr (sle_last _ (hl y g' hy dy))
    · have := List.pairwise_iff_getElem.mp h.up n k hn1 hk1 q
      rw [hk2, hn2] at this
      exact .inr (.inr (slt_snoc this _ _))
  have all : ∀ u : List Ltr, ∀ a b, runR A 0 u = some a → runR B 0 u = some b → GotE ord u a b ∨ SLe (e.1 ++ [l]) u := by
    intro u
    refine snoc_ind (p := fun u => ∀ a b, runR A 0 u = some a → runR B 0 u = some b → GotE ord u a b ∨ SLe (e.1 ++ [l]) u) (fun a b ha hb => ?_) (fun u x ih a b ha hb => ?_) u
    · cases ha
      cases hb
      exact .inl (.of_mem (List.mem_of_getElem? h.hd))
    · rw [run_snoc0] at ha hb
      obtain ⟨a0, ha0, ha⟩ := Option.bind_eq_some_iff.mp ha
      obtain ⟨b0, hb0, hb⟩ := Option.bind_eq_some_iff.mp hb
      rcases ih a0 b0 ha0 hb0 with ⟨w, hw, lw⟩ | q
      · rcases one _ x a hw ha with ⟨f', q1, w2, q2, q3⟩ | q
        · have q1 : stepR B b0 x = some f' := q1
          rw [hb] at q1
          cases q1
          exact .inl ⟨w2, q2, sle_trans q3 (sle_snoc lw x)⟩
        · exact .inr (sle_trans q (sle_snoc lw x))
      · exact .inr (sle_trans q (.inr (slt_ext u x [])))
  obtain ⟨u, x, t, a, b, g', rfl, r1, r2, r3, r4⟩ := bad_split hv
  have tail : SLe (u ++ [x]) (u ++ x :: t) := by
    cases t with
    | nil => exact .inl rfl
    | cons y t =>
      have := slt_ext (u ++ [x]) y t
      rw [List.append_assoc] at this
      exact .inr this
  rcases all u a b r1 r2 with ⟨w, hw, lw⟩ | q
  · rcases one _ x g' hw r3 with ⟨f', q1, _⟩ | q
    · have q1 : stepR B b x = some f' := q1
      rw [r4] at q1
      cases q1
    · exact sle_trans q (sle_trans (sle_snoc lw x) tail)
  · exact sle_trans q (sle_trans (.inr (slt_ext u x [])) tail)
theorem BI.fin (h : BI A B ord n dn) (hn : ord.length ≤ n) : (∀ u, ¬ Bad A B u) ∧ ∀ p, p ∈ ord.map (·.2) ↔ Reach A B p := by
  have one : ∀ (x : Ent) (y : Ltr) (g' : Int), x ∈ ord → stepR A x.2.1 y = some g' → ∃ f', stepR B x.2.2 y = some f' ∧ GotE ord (x.1 ++ [y]) g' f' := by
    intro x y g' hx hy
    obtain ⟨k, hk⟩ := List.mem_iff_getElem?.mp hx
    obtain ⟨hk1, hk2⟩ := List.getElem?_eq_some_iff.mp hk
    exact h.done k x hk (by omega) y g' hy
  have all : ∀ u : List Ltr, ∀ a b, runR A 0 u = some a → runR B 0 u = some b → GotE ord u a b := by
    intro u
    refine snoc_ind (p := fun u => ∀ a b, runR A 0 u = some a → runR B 0 u = some b → GotE ord u a b) (fun a b ha hb => ?_) (fun u x ih a b ha hb => ?_) u
    · cases ha
      cases hb
      exact .of_mem (List.mem_of_getElem? h.hd)
    · rw [run_snoc0] at ha hb
      obtain ⟨a0, ha0, ha⟩ := Option.bind_eq_some_iff.mp ha
      obtain ⟨b0, hb0, hb⟩ := Option.bind_eq_some_iff.mp hb
      obtain ⟨w, hw, lw⟩ := ih a0 b0 ha0 hb0
      obtain ⟨f', q1, w2, q2, q3⟩ := one _ x a hw ha
      have q1 : stepR B b0 x = some f' := q1
      rw [hb] at q1
      cases q1
      exact ⟨w2, q2, sle_trans q3 (sle_snoc lw x)⟩
  refine ⟨fun u hu => ?_, fun p => ⟨fun hp => ?_, fun ⟨u, h1, h2⟩ => (all u _ _ h1 h2).mem⟩⟩
  · obtain ⟨u, x, t, a, b, g', rfl, r1, r2, r3, r4⟩ := bad_split hu
    obtain ⟨w, hw, lw⟩ := all u a b r1 r2
    obtain ⟨f', q1, _⟩ := one _ x g' hw r3
    have q1 : stepR B b x = some f' := q1
    rw [r4] at q1
    cases q1
  · obtain ⟨e, he, rfl⟩ := List.mem_map.mp hp
    exact ⟨e.1, h.reach e he⟩
theorem run_range0 {d : Nat} {A : List IRow} (hA : GoesOk d A) : ∀ (u : List Ltr) (i j : Int), 0 ≤ i → i < (A.length : Int) → runR A i u = some j → 0 ≤ j ∧ j < (A.length : Int)
  | [], i, j, h0, h1, h => by cases h; exact ⟨h0, h1⟩
  | l :: u, i, j, h0, h1, h => by
    obtain ⟨k, hk, h⟩ := Option.bind_eq_some_iff.mp (show ((stepR A i l).bind fun j => runR A j u) = some j from h)
    have := hA.step h0 h1 hk
    exact run_range0 hA u k j this.2.1 this.2.2 h
theorem BI.range {d : Nat} (hA : GoesOk d A) (hB : GoesOk d B) (h : BI A B ord n dn) : ∀ e ∈ ord, 0 ≤ e.2.1 ∧ e.2.1 < (A.length : Int) ∧ 0 ≤ e.2.2 ∧ e.2.2 < (B.length : Int) := fun e he => by
  have r := h.reach e he
  have pA := hA.2.1
  have pB := hB.2.1
  have a := run_range0 hA e.1 0 _ (by omega) (by omega) r.1
  have b := run_range0 hB e.1 0 _ (by omega) (by omega) r.2
  exact ⟨a.1, a.2, b.1, b.2⟩
theorem BI.len (h : BI A B ord n dn) : ∀ (k : Nat) (e : Ent), ord[k]? = some e → e.1.length ≤ k := by
  intro k
  induction k using Nat.strongRecOn with
  | _ k ih =>
    intro e he
    rcases h.org e (List.mem_of_getElem? he) with q | ⟨k', e', y, a, b, c⟩
    · rw [q]
      exact Nat.zero_le _
    · have hk : k' < k := by
        refine Nat.lt_of_not_le fun hk => ?_
        have s1 : SLt e'.1 e.1 := by
          rw [b]
          exact slt_ext _ _ _
        obtain ⟨k1, k2⟩ := List.getElem?_eq_some_iff.mp he
        obtain ⟨k3, k4⟩ := List.getElem?_eq_some_iff.mp a
        by_cases q : k = k'
        · subst q
          rw [he] at a
          cases a
          exact slt_irrefl _ s1
        · have := List.pairwise_iff_getElem.mp h.up k k' k1 k3 (by omega)
          rw [k2, k4] at this
          exact slt_irrefl _ (slt_trans s1 this)
      have := ih k' hk e' a
      rw [b, List.length_append]
      simp only [List.length_cons, List.length_nil]
      omega
theorem nodup_sub0 {α : Type} [DecidableEq α] : ∀ {l1 l2 : List α}, l1.Nodup → (∀ x ∈ l1, x ∈ l2) → ∃ r, l2.Perm (l1 ++ r)
  | [], l2, _, _ => ⟨l2, .refl _⟩
  | a :: t, l2, nd, h => by
    rw [List.nodup_cons] at nd
    have ha := h a List.mem_cons_self
    obtain ⟨r, hr⟩ := nodup_sub0 (l1 := t) (l2 := l2.erase a) nd.2 fun x hx => (List.mem_erase_of_ne (fun e => nd.1 (by rw [← e]; exact hx))).mpr (h x (List.mem_cons_of_mem _ hx))
    exact ⟨r, (List.perm_cons_erase ha).trans (hr.cons a)⟩
theorem pairs_few0 {a b : Nat} {ps : List (Int × Int)} (nd : ps.Nodup) (h : ∀ p ∈ ps, 0 ≤ p.1 ∧ p.1 < (a : Int) ∧ 0 ≤ p.2 ∧ p.2 < (b : Int)) : ps.length ≤ a * b := by
  have all : ∀ n : Nat, ((List.range n).flatMap fun (x : Nat) => (List.range b).map fun (y : Nat) => ((x : Int), (y : Int))).length = n * b := by
    intro n
    induction n with
    | zero => simp
    | succ n ih =>
      rw [List.range_succ, List.flatMap_append, List.length_append, ih, Nat.succ_mul]
      simp
  obtain ⟨r, hr⟩ := nodup_sub0 (l2 := (List.range a).flatMap fun (x : Nat) => (List.range b).map fun (y : Nat) => ((x : Int), (y : Int))) nd fun p hp => by
    have q := h p hp
    refine List.mem_flatMap.mpr ⟨p.1.toNat, List.mem_range.mpr (by omega), List.mem_map.mpr ⟨p.2.toNat, List.mem_range.mpr (by omega), ?_⟩⟩
    refine Prod.ext ?_ ?_
    · show ((p.1.toNat : Nat) : Int) = p.1
      omega
    · show ((p.2.toNat : Nat) : Int) = p.2
      omega
  have := hr.length_eq
  rw [all, List.length_append] at this
  omega
theorem BI.few {d : Nat} (hA : GoesOk d A) (hB : GoesOk d B) (h : BI A B ord n dn) : ord.length ≤ A.length * B.length := by
  have := pairs_few0 h.nd fun p hp => by
    obtain ⟨e, he, rfl⟩ := List.mem_map.mp hp
    exact h.range hA hB e he
  rw [List.length_map] at this
  exact this
end
theorem srow_take {r : IRow} (h : SRow r) (nd : (r.map (·.1)).Nodup) {m : Nat} {p : Ltr × Int} (hp : r[m]? = some p) : ∀ x, x ∈ (r.take m).map (·.1) → llt x p.1 := by
  intro x hx
  obtain ⟨p1, hp1, rfl⟩ := List.mem_map.mp hx
  obtain ⟨i1, hi1, e2⟩ := List.getElem_of_mem hp1
  rw [List.length_take] at hi1
  rw [List.getElem_take] at e2
  obtain ⟨hm, em⟩ := List.getElem?_eq_some_iff.mp hp
  have h2 := List.pairwise_iff_getElem.mp h i1 m (by omega) hm (by omega)
  rw [e2, em] at h2
  refine ⟨h2, fun e => ?_⟩
  have n1 : (r.map (·.1))[i1]? = some p.1 := by rw [List.getElem?_map, List.getElem?_eq_getElem (by omega), e2]; exact congrArg some e
  have n2 : (r.map (·.1))[m]? = some p.1 := by rw [List.getElem?_map, hp]; rfl
  have := (List.getElem?_inj (by rw [List.length_map]; omega) nd).mp (n1.trans n2.symm)
  omega
theorem srow_rest {r : IRow} (h : SRow r) (nd : (r.map (·.1)).Nodup) {m : Nat} {p : Ltr × Int} (hp : r[m]? = some p) : ∀ x, x ∈ r.map (·.1) → x ∉ (r.take m).map (·.1) → llt p.1 x ∨ x = p.1 := by
  intro x hx hn
  obtain ⟨p1, hp1, rfl⟩ := List.mem_map.mp hx
  obtain ⟨i1, hi1, e2⟩ := List.getElem_of_mem hp1
  obtain ⟨hm, em⟩ := List.getElem?_eq_some_iff.mp hp
  by_cases h1 : i1 < m
  · exact absurd (List.mem_map.mpr ⟨p1, List.mem_iff_getElem.mpr ⟨i1, by rw [List.length_take]; omega, by rw [List.getElem_take]; exact e2⟩, rfl⟩) hn
  · by_cases h3 : i1 = m
    · subst h3
      right
      rw [← e2, ← em]
    · left
      have h2 := List.pairwise_iff_getElem.mp h m i1 hm hi1 (by omega)
      rw [e2, em] at h2
      refine ⟨h2, fun e => ?_⟩
      have n1 : (r.map (·.1))[i1]? = some p.1 := by rw [List.getElem?_map, List.getElem?_eq_getElem hi1, e2]; exact congrArg some e.symm
      have n2 : (r.map (·.1))[m]? = some p.1 := by rw [List.getElem?_map, hp]; rfl
      have := (List.getElem?_inj (by rw [List.length_map]; exact hi1) nd).mp (n1.trans n2.symm)
      omega
theorem take_snoc {α β : Type} {f : α → β} {r : List α} {m : Nat} {p : α} (hp : r[m]? = some p) (x : β) : x ∈ (r.take (m + 1)).map f ↔ x ∈ (r.take m).map f ∨ x = f p := by
  rw [List.take_add_one, hp, List.map_append, List.mem_append]
  simp
theorem step_key {rows : List IRow} {i : Int} {l : Ltr} {g : Int} (h : stepR rows i l = some g) : l ∈ (rowAt rows i).map (·.1) := List.mem_map.mpr ⟨_, at1_some h, rfl⟩
end WW


set_option maxHeartbeats 2000000

/-! {k: v} -/
namespace WW
open PySem PySem.Spec PyProof.Rows L2
section
variable {X : Cx} {kx vx : Expr} {tk tv : TE} {pos : Pos}
def tXDisp (P : Program) (w : World) (tk tv : TE) : TE := fun σ H Q => ∀ p u0, H p = none → (∀ kd, DX P w kd (upd H p u0) p []) → tk σ (upd H p u0) fun y H1 => tv σ H1 fun v H2 => ∃ kd k, KeyV kd H2 k y ∧ DX P w kd H2 p [] ∧
  ∀ u, DX P w kd (upd H2 p u) p [(k, v)] → Q (.ref p) (upd H2 p u)
theorem pe_xdisp (hu : X.A.units + 9 < cLine) (hk : PE X kx tk) (hv : PE X vx tv) : PE X (.Dict [some kx] [vx] pos) (tXDisp X.prog X.w tk tv) := by
  refine ⟨fun pins s σ H Q I h => ?_⟩
  have hshape : (evalEachOpt [some kx] X.env).zip ((evalEach [vx] X.env).map fun v => do let x ← v; standAt pos; pure x) = [(eval kx X.env, (do let x ← eval vx X.env; standAt pos; pure x : Sem Value))].map fun p => (some p.1, p.2) := by rfl
  rw [arm_eval_Dict, hshape, dictDisplay_pairs _ (by simp) (by simp)]
  refine wpAny_bind (wpAny_standAt (wpAny_bind ?_))
  unfold subDict
  have hp := I.hok.fresh (Nat.le_refl s.heap.objs.size)
  have big : (s.heap.objs.size == sysModules) = false := beq_eq_false_iff_ne.mpr (Ne.symm (Nat.ne_of_lt I.big))
  have eo : (s.heap.push xObj0).get? s.heap.objs.size = some xObj0 := Heap.get?_push_size _ rfl
  have I1 : Inv X pins σ (upd H s.heap.objs.size (objO s.heap.objs.size xObj0)) { s with heap := s.heap.push xObj0 } :=
    I.laid (t' := s.toks) (fun b o e => Heap.get?_push_of_some _ e) (Nat.le_refl _) (objO_ok eo)
  refine wpAny_bind (wpAny_alloc ?_)
  refine wpAny_bind (wpAny_holding ?_)
  rw [if_pos (by simp)]
  have q := h _ _ hp fun kd => DX.empty kd H s.heap.objs.size big
  obtain ⟨D, hD⟩ : ∃ D, s.heap.objs.size = D := ⟨_, rfl⟩
  rw [hD] at q I1 ⊢
  refine wpAny_bind ?_
  refine wpAny_bind (thn (hk.run pins _ σ _ _ I1 q) fun kv s1 ⟨y, H1, I2, ry, q1⟩ => ?_)
  refine wpAny_bind (wpAny_holding ?_)
  refine wpAny_bind (thn (hv.run pins s1 σ H1 _ I2 q1) fun vv s2 ⟨v, H2, I3, rv, kd, k, hky, hdx, q2⟩ => ?_)
  refine wpAny_bind (wpAny_standAt (wpAny_pure ?_))
  refine wpAny_bind (wpAny_holding (wpAny_pure ?_))
  refine wpAny_pure ?_
  refine wpAny_holding ?_
  rw [List.forIn_cons]
  refine wpAny_bind (wpAny_bind (wpAny_bind (x_dictSet hu I3 hdx hky (by decide) ry rv fun o s3 dx I4 => wpAny_pure ?_)))
  simp only [List.forIn_nil]
  refine wpAny_pure (wpAny_pure (wpAny_pure (wpAny_pure ⟨.ref D, _, I4, rfl, q2 o ?_⟩)))
  exact dx
end
end WW


set_option maxHeartbeats 2000000

namespace WW
open PySem PySem.Spec PyProof.Rows L2
def WordA (H : Hp) (a : Addr) (u : List Ltr) : Prop := ∃ bs, H a = some (.lst (bs.map V.ref)) ∧ LtsA H bs u
theorem WordA.same {H H' : Hp} {a : Addr} {u : List Ltr} (h : WordA H a u) (s : Same H H') : WordA H' a u := let ⟨bs, e, r⟩ := h; ⟨bs, s _ _ e, r.same s⟩
theorem valV_get {kvs : List (NestedKey × V)} (nd : (kvs.map (·.1)).Nodup) {i : Nat} {p : NestedKey × V} (h : kvs[i]? = some p) : valV kvs p.1 = some p.2 := at1_mem nd (List.mem_of_getElem? h)
theorem valV_not_mem {kvs : List (NestedKey × V)} {k : NestedKey} (h : k ∉ kvs.map (·.1)) : valV kvs k = none := at1_none.mpr h
theorem valV_mem {kvs : List (NestedKey × V)} {k : NestedKey} (h : k ∈ kvs.map (·.1)) : (valV kvs k).isSome = true := by
  cases e : valV kvs k with
  | some x => rfl
  | none => exact absurd h (at1_none.mp e)
theorem paired_map1 {α β γ : Type} {F : α → β → Prop} {f : α → γ} {g : β → γ} (h : ∀ a b, F a b → f a = g b) : ∀ {as : List α} {bs : List β}, Paired F as bs → as.map f = bs.map g
  | _, _, .nil => rfl
  | _, _, .cons x t => by rw [List.map_cons, List.map_cons, h _ _ x, paired_map1 h t]
abbrev pkI (p : Int × Int) : NestedKey := lk [p.1, p.2]
theorem pkI_inj {p q : Int × Int} (h : pkI p = pkI q) : p = q := by
  have e := lk_inj h
  injection e with e1 e2
  injection e2 with e2 _
  cases p
  cases q
  exact Prod.ext e1 e2
theorem nodup_map_inj {α β : Type} {f : α → β} (hf : ∀ a b, f a = f b → a = b) {l : List α} (h : l.Nodup) : (l.map f).Nodup := by
  rw [List.nodup_iff_pairwise_ne, List.pairwise_map]
  exact List.Pairwise.imp (fun hn e => hn (hf _ _ e)) (List.nodup_iff_pairwise_ne.mp h)
structure W2 (P : Program) (w : World) (H0 H : Hp) (wd od : Addr) (ord : List Ent) (kvs : List (NestedKey × V)) (ps : List Addr) : Prop where
  sm : Same H0 H
  nw : H0 wd = none
  no : H0 od = none
  dx : DX P w .t H wd kvs
  kp : Paired (fun (kv : NestedKey × V) (e : Ent) => kv.1 = pkI e.2 ∧ ∃ a, kv.2 = .ref a ∧ H0 a = none ∧ a ≠ od ∧ WordA H a e.1) kvs ord
  ol : H od = some (.lst (ps.map V.ref))
  op : Paired (fun b (e : Ent) => H b = some (.tup [.int e.2.1, .int e.2.2])) ps ord
section
variable {P : Program} {w : World} {H0 H H' : Hp} {wd od : Addr} {ord : List Ent} {kvs : List (NestedKey × V)} {ps : List Addr}
theorem W2.same (h : W2 P w H0 H wd od ord kvs ps) (s : Same H H') : W2 P w H0 H' wd od ord kvs ps :=
  ⟨Same.trans h.sm s, h.nw, h.no, h.dx.same s, Paired.mapP h.kp fun _ _ ⟨e, a, e2, n, n2, x⟩ => ⟨e, a, e2, n, n2, x.same s⟩, s _ _ h.ol, Paired.mapP h.op fun _ _ e => s _ _ e⟩
theorem W2.keys (h : W2 P w H0 H wd od ord kvs ps) : kvs.map (·.1) = (ord.map (·.2)).map pkI := by
  rw [List.map_map]
  exact paired_map1 (fun a b x => x.1) h.kp
theorem W2.has (h : W2 P w H0 H wd od ord kvs ps) (p : Int × Int) : (valV kvs (pkI p)).isSome = decide (p ∈ ord.map (·.2)) := by
  by_cases e : p ∈ ord.map (·.2)
  · rw [decide_eq_true e]
    exact valV_mem (by rw [h.keys]; exact List.mem_map.mpr ⟨p, e, rfl⟩)
  · rw [decide_eq_false e, valV_not_mem]
    · rfl
    · rw [h.keys]
      intro z
      obtain ⟨q, hq, e2⟩ := List.mem_map.mp z
      rw [pkI_inj e2] at hq
      exact e hq
theorem W2.look (h : W2 P w H0 H wd od ord kvs ps) (nd : (ord.map (·.2)).Nodup) {n : Nat} {e : Ent} (he : ord[n]? = some e) :
    ∃ a b, ps[n]? = some b ∧ H b = some (.tup [.int e.2.1, .int e.2.2]) ∧ valV kvs (pkI e.2) = some (.ref a) ∧ WordA H a e.1 ∧ a ≠ od := by
  obtain ⟨kv, hk, e1, a, e2, _, n2, x⟩ := paired_get2 h.kp he
  obtain ⟨b, hb, e3⟩ := paired_get2 h.op he
  refine ⟨a, b, hb, e3, ?_, x, n2⟩
  have nk : (kvs.map (·.1)).Nodup := by
    rw [h.keys]
    exact nodup_map_inj (fun _ _ => pkI_inj) nd
  have := valV_get nk hk
  rw [e1, e2] at this
  exact this
/-- the pair, its word are put in -/
theorem W2.push (h : W2 P w H0 H wd od ord kvs ps) {a b : Addr} {u : List Ltr} {g f : Int} {o : HO} (hb : H b = some (.tup [.int g, .int f])) (ha : WordA H a u) (na : H0 a = none) (nao : a ≠ od) (hm : (g, f) ∉ ord.map (·.2)) (hz : ps.length < sizeLine)
    (dx : DX P w .t (upd H wd o) wd (putK kvs (pkI (g, f)) (.ref a))) : ∃ kvs', (upd H wd o) od = some (.lst (ps.map V.ref)) ∧ W2 P w H0 (upd (upd H wd o) od (.lst (ps.map V.ref ++ [.ref b]))) wd od (ord ++ [(u, g, f)]) kvs' (ps ++ [b]) := by
  have nwd : ∀ c ob, H c = some ob → (∀ φ, ob ≠ .ext φ) → c ≠ wd := fun c ob e n q => by
    obtain ⟨φ, e2⟩ := h.dx.ext
    rw [← q, e] at e2
    exact n φ (Option.some.inj e2)
  have nod : od ≠ wd := nwd _ _ h.ol (fun φ z => nomatch z)
  have ol2 : (upd H wd o) od = some (.lst (ps.map V.ref)) := by rw [upd_ne nod]; exact h.ol
  have tp : ∀ c xs, H c = some (.tup xs) → (upd (upd H wd o) od (.lst (ps.map V.ref ++ [.ref b]))) c = some (.tup xs) := fun c xs e => by
    rw [upd_ne (fun q => by rw [q, h.ol] at e; cases e), upd_ne (nwd _ _ e fun φ z => nomatch z)]
    exact e
  have ls : ∀ c xs, c ≠ od → H c = some (.lst xs) → (upd (upd H wd o) od (.lst (ps.map V.ref ++ [.ref b]))) c = some (.lst xs) := fun c xs n e => by
    rw [upd_ne n, upd_ne (nwd _ _ e fun φ z => nomatch z)]
    exact e
  have wa : ∀ c v, c ≠ od → WordA H c v → WordA (upd (upd H wd o) od (.lst (ps.map V.ref ++ [.ref b]))) c v := fun c v n ⟨bs, e, r⟩ => ⟨bs, ls _ _ n e, Paired.mapP r fun _ _ x => tp _ _ x⟩
  have v0 : valV kvs (pkI (g, f)) = none := by
    have := h.has (g, f)
    rw [decide_eq_false hm] at this
    cases e : valV kvs (pkI (g, f)) with
    | none => rfl
    | some x => rw [e] at this; cases this
  rw [putK_new _ v0] at dx
  refine ⟨kvs ++ [(pkI (g, f), .ref a)], ol2, fun c ob e => ?_, h.nw, h.no, ?_, ?_, ?_, ?_⟩
  · rw [upd_ne (ne_of_none e h.no), upd_ne (ne_of_none e h.nw)]
    exact h.sm _ _ e
  · refine SamX.upd.dx (tup_nat ol2) (fun q => nod q.symm) dx
  · exact Paired.snoc (Paired.mapP h.kp fun _ _ ⟨e, c, e2, n, n2, x⟩ => ⟨e, c, e2, n, n2, wa _ _ n2 x⟩) ⟨rfl, a, rfl, na, nao, wa _ _ nao ha⟩
  · rw [upd_same, List.map_append]
    rfl
  · exact Paired.snoc (Paired.mapP h.op fun _ _ e => tp _ _ e) (tp _ _ hb)
end
theorem BI.imp {A B : List IRow} {ord : List Ent} {n : Nat} {dn dn' : Ltr → Prop} (h : BI A B ord n dn) (e : ∀ x, dn' x ↔ dn x) : BI A B ord n dn' := by
  have : dn' = dn := funext fun x => propext (e x)
  rw [this]
  exact h
theorem le1 {x : V} : [x].length ≤ sizeLine := by show 1 ≤ sizeLine; decide
theorem le2 {x y : V} : [x, y].length ≤ sizeLine := by show 2 ≤ sizeLine; decide
theorem le3 {x y z : V} : [x, y, z].length ≤ sizeLine := by show 3 ≤ sizeLine; decide
theorem small_of {n : Nat} (h : n ≤ 100000) : n < sizeLine := Nat.lt_of_le_of_lt h (by decide)
section
variable {P : Program} {w : World} {K : PySem.W.Frag} {mg : Str → Option Value} {base : Heap}
abbrev sW2P : Stmt := top 33
abbrev nW2P : List Str := ["one", "other", "words", "order", "at", "near", "far", "letter", "goal", "pair"]
theorem sc33 : FnScope nW2P ["one", "other"] (defScope sW2P) := ⟨rfl, rfl, rfl, by decide +kernel, rfl, by decide +kernel, by decide +kernel⟩
def spW2P (P : Program) (w : World) (C : Addr) : Sp := fun vs H Q _ => ∃ (p q : Addr) (d : Nat) (A B : List IRow), vs = [.ref p, .ref q] ∧ PatAt P w C H p d A ∧ PatAt P w C H q d B ∧ GoesOk d A ∧ GoesOk d B ∧ (∀ r ∈ A, SRow r) ∧
  ∀ H' t wd v kvs, Same H H' → H' t = some (.tup [.ref wd, v]) → DX P w .t H' wd kvs →
    ((v = .non ∧ (∀ u, ¬ Bad A B u) ∧ ∃ ps : List (Int × Int), kvs.map (·.1) = ps.map (fun p => lk [p.1, p.2]) ∧ ps.Nodup ∧ ∀ p, p ∈ ps ↔ Reach A B p) ∨ ∃ a u, v = .ref a ∧ H a = none ∧ WordA H' a u ∧ LeastBad A B u) → Q (.ref t) H'
theorem ok_w2p {C : Addr} (B : Blt mg) (T : PatC K mg C) (D : Dn K mg "words_to_pairs" sW2P ["one", "other"]) : FnOk P w K mg base CX0 1 D.f D.fd ["one", "other"] (spW2P P w C) := by
  refine D.F.ok sc33 (fun vs H Q E h => ?_) (fun cdv A outer s H vs Q E hr h => ?_)
  · obtain ⟨p, q, d, A, B, rfl, _⟩ := h
    rfl
  · obtain ⟨p, q, d, A, B', rfl, hp, hq, okA, okB, srt, k⟩ := h
    refine ⟨_, pss_cons (ps_par3 (i := 2) (j := 3) (l := 4) rfl sc33.nd rfl rfl rfl (by decide) (by decide) (by decide) rfl rfl rfl
        (pa_cons (pe_xdisp (u9 hr) (pe_tup (pa_cons pe_int (pa_cons pe_int pa_nil))) (pe_lst pa_nil)) (pa_cons (pe_lst (pa_cons (pe_tup (pa_cons pe_int (pa_cons pe_int pa_nil))) pa_nil)) (pa_cons pe_int pa_nil))) rfl)
      (pss_cons (ps_while PassesOwn.never (pt_cmpR op_lt (pv 4) (pe_callB call_len_seq (by rfl) B.len PySem.boot_len (pa_cons (pv 3) pa_nil)) (nomark _))
        (pss_cons (ps_asg (pe_ix ix_list (pv 3) (pv 4) (fun _ _ => rfl)) (pg_tup rfl (pgs_cons (pg_name (i := 5) sc33.nd rfl (.inl rfl)) (pgs_cons (pg_name (i := 6) sc33.nd rfl (.inl rfl)) pgs_nil))))
        (pss_cons (ps_for PassesOwn.never rfl (pi_xi (pe_row T (pv 0) (pv 5))) (pg_tup rfl (pgs_cons (pg_name (i := 7) sc33.nd rfl (.inl rfl)) (pgs_cons (pg_name (i := 8) sc33.nd rfl (.inl rfl)) pgs_nil)))
          (pss_cons (ps_if (pt_cmp (pc_xnotin (u9 hr) (pv 7) (pe_row T (pv 1) (pv 6))))
              (pss_one (ps_ret (pe_tup (pa_cons (pv 2) (pa_cons (pe_op op_cat (pe_xget (u9 hr) (pv 2) (pe_ix ix_list (pv 3) (pv 4) (fun _ _ => rfl)) (fun _ _ => rfl)) (pe_lst (pa_cons (pv 7) pa_nil))) pa_nil))))) pss_nil)
          (pss_cons (ps_set (i := 9) sc33.nd rfl (.inl rfl) (pe_tup (pa_cons (pv 8) (pa_cons (pe_xget (u9 hr) (pe_row T (pv 1) (pv 6)) (pv 7) (fun _ _ => rfl)) pa_nil))))
          (pss_one (ps_if (pt_cmp (pc_xnotin (u9 hr) (pv 9) (pv 2)))
              (pss_cons (ps_xput (u9 hr) (pv 2) (pv 9) (pe_op op_cat (pe_xget (u9 hr) (pv 2) (pe_ix ix_list (pv 3) (pv 4) (fun _ _ => rfl)) (fun _ _ => rfl)) (pe_lst (pa_cons (pv 7) pa_nil))) rfl)
              (pss_one (ps_expr (pe_bm PySem.F.plainAttrs_list PySem.F.slot_list_append PySem.F.type_list_append mt_append (pv 3) (pa_cons (pv 9) pa_nil))))) pss_nil)))))
        (pss_one (ps_set (i := 4) sc33.nd rfl (.inl rfl) (pe_op op_add (pv 4) pe_int))))))
      (pss_one (ps_ret (pe_tup (pa_cons (pv 2) (pa_cons pe_non pa_nil)))))), ?_⟩
    intro wd u0 hwd hx0
    refine ⟨by decide, fun k0 hk0 => ⟨Nat.zero_le _, fun a0 ha0 => ?_⟩⟩
    obtain ⟨H3, e3⟩ : ∃ H3, upd (upd (upd H wd u0) k0 (.tup [.int 0, .int 0])) a0 (.lst []) = H3 := ⟨_, rfl⟩
    have s13 : Same (upd H wd u0) H3 := by rw [← e3]; exact Same.trans (same_upd hk0) (same_upd ha0)
    have dx3 : DX P w .t H3 wd [] := (hx0 .t).same s13
    have hk03 : H3 k0 = some (.tup [.int 0, .int 0]) := by
      rw [← e3, upd_ne (fun z => by rw [← z, upd_same] at ha0; cases ha0)]
      exact upd_same
    have ha03 : H3 a0 = some (.lst []) := by rw [← e3]; exact upd_same
    have sH3 : Same H H3 := Same.trans (same_upd hwd) s13
    have nak : a0 ≠ wd := fun z => by
      obtain ⟨φ, ez⟩ := dx3.ext
      rw [← z, ha03] at ez
      cases ez
    show ∃ kd k, _
    rw [e3]
    refine ⟨.t, pkI (0, 0), keyV_lk.mpr ⟨k0, rfl, hk03⟩, dx3, fun u hx1 => ?_⟩
    have hx1 : DX P w .t (upd H3 wd u) wd [(pkI (0, 0), .ref a0)] := hx1
    refine ⟨by decide, fun b0 hb0 => ⟨le1, fun od hod => ?_⟩⟩
    have na0 : H a0 = none := by
      have q1 : (upd (upd H wd u0) k0 (.tup [.int 0, .int 0])) a0 = none := ha0
      have q2 := Same.free (same_upd (H := upd H wd u0) (o := .tup [.int 0, .int 0]) hk0) q1
      rw [upd_ne nak] at q2
      exact q2
    obtain ⟨H6, e6⟩ : ∃ H6, upd (upd (upd H3 wd u) b0 (.tup [.int 0, .int 0])) od (.lst [.ref b0]) = H6 := ⟨_, rfl⟩
    have s46 : Same (upd H3 wd u) H6 := by rw [← e6]; exact Same.trans (same_upd hb0) (same_upd hod)
    have hH4 : Same H (upd H3 wd u) := Same.put sH3 hwd
    have w6 : W2 P w H H6 wd od [([], 0, 0)] [(pkI (0, 0), .ref a0)] [b0] := by
      have ha04 : (upd H3 wd u) a0 = some (.lst []) := by rw [upd_ne nak]; exact ha03
      refine ⟨Same.trans hH4 s46, hwd, ?_, hx1.same s46, .cons ⟨rfl, a0, rfl, na0, ?_, [], s46 _ _ ha04, .nil⟩ .nil, by rw [← e6]; exact upd_same, .cons ?_ .nil⟩
      · exact Same.free (Same.trans hH4 (same_upd hb0)) hod
      · intro z
        rw [← z, upd_ne (fun z2 => by rw [← z2, ha04] at hb0; cases hb0), ha04] at hod
        cases hod
      · rw [← e6, upd_ne (fun z => by rw [← z, upd_same] at hod; cases hod)]
        exact upd_same
    show ∃ u v w, _
    rw [e6]
    refine ⟨_, _, _, rfl, ?_⟩
    obtain ⟨M, hM⟩ : ∃ M, A.length * B'.length = M := ⟨_, rfl⟩
    have M3600 : M ≤ 3600 := by
      rw [← hM]
      have h1 := okA.2.2
      have h2 := okB.2.2
      calc A.length * B'.length ≤ 60 * 60 := Nat.mul_le_mul h1 h2
        _ = 3600 := rfl
    obtain ⟨St, hSt⟩ : ∃ St : Nat → L2.St → Hp → Prop, St = fun n σ H' => ∃ ord kvs ps x5 x6 x7 x8 x9, σ = [some (.ref p), some (.ref q), some (.ref wd), some (.ref od), some (.int (n : Int)), x5, x6, x7, x8, x9] ∧ W2 P w H H' wd od ord kvs ps ∧ BI A B' ord n (fun _ => False) ∧ n ≤ ord.length := ⟨_, rfl⟩
    refine ⟨fun m σ H' => ∃ n, n + m = M ∧ St n σ H', ⟨M, 0, by omega, ?_⟩, fun m σ H' hW => ?_⟩
    · rw [hSt]
      exact ⟨_, _, _, none, none, none, none, none, rfl, w6, BI.init, by simp⟩
    obtain ⟨n, hnm, hs⟩ := hW
    rw [hSt] at hs
    obtain ⟨ord, kvs, ps, x5, x6, x7, x8, x9, rfl, w2, bi, hn⟩ := hs
    have few : ord.length ≤ M := by rw [← hM]; exact bi.few okA okB
    have lps : ps.length = ord.length := Paired.length w2.op
    refine ⟨_, rfl, _, rfl, od, _, rfl, .inl (SqL.of w2.ol), _, _, rfl, rfl, _, rfl, ite2 (fun e => ?_) (fun e => ?_)⟩
    · have e := of_decide_eq_true e
      rw [List.length_map, lps] at e
      have hlt : n < ord.length := by omega
      refine ⟨St (n + 1), fun σ' H2 h => ⟨M - (n + 1), by omega, n + 1, by omega, h⟩, ?_⟩
      obtain ⟨ent, he⟩ : ∃ ent, ord[n]? = some ent := ⟨ord[n], List.getElem?_eq_getElem hlt⟩
      obtain ⟨a, b, hb, htb, hv, hwa, hao⟩ := w2.look bi.nd he
      obtain ⟨i0, i1, j0, j1⟩ := bi.range okA okB ent (List.mem_of_getElem? he)
      obtain ⟨ni, eni, hni⟩ := rowAt_some i0 i1
      obtain ⟨nj, enj, hnj⟩ := rowAt_some j0 j1
      obtain ⟨o1, o2, o3, o4⟩ := okA.row i0 i1
      have srow := srt _ (List.mem_of_getElem? hni)
      refine ⟨_, rfl, _, rfl, od, _, _, .ref b, rfl, rfl, SqL.of w2.ol, atI_nat (j := n) (by rw [List.getElem?_map, hb]; rfl), b, _, rfl, .inl (.inl htb), rfl, _, _, rfl, _, _, rfl, rfl, ?_⟩
      refine ⟨_, rfl, p, d, A, H, rfl, hp, w2.sm, _, rfl, fun _ _ e => e, ni, _, by rw [eni], hni, fun rb hrb => ?_⟩
      have hrb : DX P w .t H rb (rowKv (rowAt A ent.2.1)) := hrb
      obtain ⟨o, d1⟩ := hrb.one
      refine ⟨rb, .t, o, _, rfl, d1.same w2.sm, for_it (n := (rowAt A ent.2.1).length) (fun m σ H' => ∃ ord kvs ps x7 x8 x9, σ = [some (.ref p), some (.ref q), some (.ref wd), some (.ref od), some (.int (n : Int)), some (.int ent.2.1), some (.int ent.2.2), x7, x8, x9] ∧
          W2 P w H H' wd od ord kvs ps ∧ BI A B' ord n (fun x => x ∈ ((rowAt A ent.2.1).take m).map (·.1)) ∧ ord[n]? = some ent) ?_ (fun m σ H' hm pv => ?_) (fun σ H' pv => ?_) (fun m σ H' x H2 hm pv y => ?_) fun σ H' pv => ?_⟩
      · exact ⟨ord, kvs, ps, x7, x8, x9, rfl, w2, bi.imp (fun x => by simp), he⟩
      · obtain ⟨_, _, _, _, _, _, _, w2', _⟩ := pv
        exact ⟨d1.same w2'.sm, by rw [rowKv_len]; exact hm⟩
      · obtain ⟨_, _, _, _, _, _, _, w2', _⟩ := pv
        exact ⟨d1.same w2'.sm, by rw [rowKv_len]; exact Nat.le_refl _⟩
      · obtain ⟨T0, k0, v0, y0, hk0', ky0, rfl, hT, rfl⟩ := y
        obtain ⟨pl, hpl, rfl, rfl⟩ := rowKv_get hk0'
        obtain ⟨ord, kvs, ps, x7, x8, x9, rfl, w2, bi, he⟩ := pv
        obtain ⟨a, b, hb, htb, hv, hwa, hao⟩ := w2.look bi.nd he
        have w2 := w2.same (same_upd (o := .tup [y0, .int pl.2]) hT)
        have htb := same_upd (o := .tup [y0, .int pl.2]) hT _ _ htb
        have hwa := hwa.same (same_upd (o := .tup [y0, .int pl.2]) hT)
        have ky0 := KeyV.mono (Tups.of_same (same_upd (o := .tup [y0, .int pl.2]) hT)) ky0
        have hTe : (upd H' T0 (.tup [y0, .int pl.2])) T0 = some (.tup [y0, .int pl.2]) := upd_same
        obtain ⟨H2, hH2⟩ : ∃ H2, upd H' T0 (.tup [y0, .int pl.2]) = H2 := ⟨_, rfl⟩
        rw [hH2] at w2 htb hwa ky0 hTe ⊢
        obtain ⟨c0, rfl, hc0⟩ := keyV_lk.mp ky0
        have mem : pl ∈ rowAt A ent.2.1 := List.mem_of_getElem? hpl
        have st1 : stepR A ent.2.1 pl.1 = some pl.2 := at1_mem o2 mem
        refine ⟨T0, _, rfl, .inl (.inl hTe), rfl, _, _, rfl, _, _, rfl, rfl, ?_⟩
        have lps : ps.length = ord.length := Paired.length w2.op
        have few : ord.length ≤ M := by rw [← hM]; exact bi.few okA okB
        have kyb : KeyV .t H2 (pkI ent.2) (.ref b) := keyV_lk.mpr ⟨b, rfl, htb⟩
        obtain ⟨bs, ha1, ha2⟩ := hwa
        have lbs : bs.length ≤ 3600 := by
          have h1 : bs.length = ent.1.length := Paired.length ha2
          have h2 := bi.len n ent he
          have h3 : n < ord.length := (List.getElem?_eq_some_iff.mp he).1
          omega
        refine ⟨_, rfl, _, rfl, q, d, B', H, rfl, hq, w2.sm, _, rfl, fun _ _ e => e, nj, _, by rw [enj], hnj, fun rc hrc => ?_⟩
        have hrc : DX P w .t H rc (rowKv (rowAt B' ent.2.2)) := hrc
        refine ⟨rc, .t, _, lk pl.1, rfl, hrc.same w2.sm, ky0, _, rfl, ?_⟩
        rw [rowKv_val, Option.isSome_map]
        cases es : at1 (rowAt B' ent.2.2) pl.1 with
        | none =>
          have es : stepR B' ent.2.2 pl.1 = none := es
          refine ys ?_
          refine ⟨_, rfl, _, rfl, ⟨_, rfl, _, rfl, od, _, _, .ref b, rfl, rfl, SqL.of w2.ol, atI_nat (j := n) (by rw [List.getElem?_map, hb]; rfl), wd, .t, kvs, pkI ent.2, .ref a, rfl, w2.dx, kyb, hv, _, rfl, le1, fun l1 hl1 => ?_⟩⟩
          have ha1' := same_upd (o := .lst [.ref c0]) hl1 _ _ ha1
          refine ⟨a, l1, _, _, rfl, rfl, ha1', upd_same, ?_, fun z hz => ⟨le2, fun t ht => ?_⟩⟩
          · rw [List.length_map]
            exact Nat.le_of_lt (small_of (by show bs.length + 1 ≤ _; omega))
          have s1 := same_upd (o := .lst [.ref c0]) hl1
          have s2 := Same.trans s1 (same_upd (o := .lst (bs.map V.ref ++ [.ref c0])) hz)
          have s3 := Same.trans s2 (same_upd (o := .tup [.ref wd, .ref z]) ht)
          refine k _ t wd (.ref z) kvs (Same.trans w2.sm s3) upd_same (w2.dx.same s3) (.inr ⟨z, ent.1 ++ [pl.1], rfl, Same.free (Same.trans w2.sm s1) hz, ⟨bs ++ [c0], ?_, ?_⟩, bi.found he st1 es fun x g hx hn => ?_⟩)
          · rw [List.map_append]
            exact same_upd (o := .tup [.ref wd, .ref z]) ht _ _ upd_same
          · exact Paired.snoc (ha2.same s3) (s3 _ _ hc0)
          · exact srow_rest srow o2 hpl x (step_key hx) hn
        | some f =>
          have es : stepR B' ent.2.2 pl.1 = some f := es
          refine no ?_
          refine ⟨_, rfl, _, rfl, q, d, B', H, rfl, hq, w2.sm, _, rfl, fun _ _ e => e, nj, _, by rw [enj], hnj, fun rc2 hrc2 => ?_⟩
          have hrc2 : DX P w .t H rc2 (rowKv (rowAt B' ent.2.2)) := hrc2
          refine ⟨_, rfl, rc2, .t, _, lk pl.1, .int f, rfl, hrc2.same w2.sm, ky0, (by rw [rowKv_val, show at1 (rowAt B' ent.2.2) pl.1 = some f from es]; rfl), le2, fun pr hpr => ?_⟩
          have sp := same_upd (o := .tup [.int pl.2, .int f]) hpr
          have w3 := w2.same sp
          have hpe : (upd H2 pr (.tup [.int pl.2, .int f])) pr = some (.tup [.int pl.2, .int f]) := upd_same
          obtain ⟨H3, hH3⟩ : ∃ H3, upd H2 pr (.tup [.int pl.2, .int f]) = H3 := ⟨_, rfl⟩
          rw [hH3] at w3 sp hpe ⊢
          have kyp : KeyV .t H3 (pkI (pl.2, f)) (.ref pr) := keyV_lk.mpr ⟨pr, rfl, hpe⟩
          refine ⟨_, rfl, _, rfl, wd, .t, kvs, pkI (pl.2, f), rfl, w3.dx, kyp, _, rfl, ?_⟩
          rw [w3.has]
          by_cases hm2 : (pl.2, f) ∈ ord.map (·.2)
          · rw [decide_eq_true hm2]
            refine no ?_
            exact ⟨ord, kvs, ps, _, _, _, rfl, w3, bi.seen he st1 es hm2 (srow_take srow o2 hpl) fun x => take_snoc hpl x, he⟩
          · rw [decide_eq_false hm2]
            refine ys ?_
            have ha13 := sp _ _ ha1
            refine ⟨_, rfl, ⟨_, rfl, _, rfl, od, _, _, .ref b, rfl, rfl, SqL.of w3.ol, atI_nat (j := n) (by rw [List.getElem?_map, hb]; rfl), wd, .t, kvs, pkI ent.2, .ref a, rfl, w3.dx, KeyV.mono (Tups.of_same sp) kyb, hv, _, rfl, le1, fun l1 hl1 => ?_⟩⟩
            have sl1 := same_upd (o := .lst [.ref c0]) hl1
            refine ⟨a, l1, _, _, rfl, rfl, sl1 _ _ ha13, upd_same, ?_, fun z hz => ?_⟩
            · rw [List.length_map]
              exact Nat.le_of_lt (small_of (by show bs.length + 1 ≤ _; omega))
            have sz := Same.trans sl1 (same_upd (o := .lst (bs.map V.ref ++ [.ref c0])) hz)
            have w4 := w3.same sz
            have hze : (upd (upd H3 l1 (.lst [.ref c0])) z (.lst (bs.map V.ref ++ [.ref c0]))) z = some (.lst (bs.map V.ref ++ [.ref c0])) := upd_same
            have hz0 : H z = none := Same.free (Same.trans w3.sm sl1) hz
            have hzo : z ≠ od := fun e => by
              rw [e, sl1 _ _ w3.ol] at hz
              cases hz
            obtain ⟨H4, hH4⟩ : ∃ H4, upd (upd H3 l1 (.lst [.ref c0])) z (.lst (bs.map V.ref ++ [.ref c0])) = H4 := ⟨_, rfl⟩
            rw [hH4] at sz w4 hze ⊢
            have sp4 := Same.trans sp sz
            have waz : WordA H4 z (ent.1 ++ [pl.1]) := ⟨bs ++ [c0], by rw [hze, List.map_append]; rfl, Paired.snoc (ha2.same sp4) (sp4 _ _ hc0)⟩
            have lk2 : kvs.length < sizeLine := by
              have h1 : kvs.length = ord.length := Paired.length w4.kp
              exact small_of (by omega)
            refine ⟨_, rfl, _, rfl, wd, .t, kvs, pkI (pl.2, f), rfl, w4.dx, KeyV.mono (Tups.of_same sz) kyp, lk2, fun u2 hx2 => ?_⟩
            obtain ⟨kvs', eo, w5⟩ := w4.push (sz _ _ hpe) waz hz0 hzo hm2 (small_of (by omega)) hx2
            refine ⟨_, rfl, .inl ⟨rfl, _, .inl (.inl eo)⟩, _, rfl, od, _, _, rfl, rfl, eo, by rw [List.length_map]; exact small_of (by omega), ?_⟩
            refine ⟨_, kvs', _, _, _, _, rfl, w5, bi.push he st1 es hm2 (srow_take srow o2 hpl) fun x => take_snoc hpl x, ?_⟩
            rw [List.getElem?_append_left (List.getElem?_eq_some_iff.mp he).1]
            exact he
      · obtain ⟨ord, kvs, ps, x7, x8, x9, rfl, w2, bi, he⟩ := pv
        refine ⟨_, rfl, _, _, rfl, rfl, ?_⟩
        rw [hSt]
        refine ⟨ord, kvs, ps, _, _, _, _, _, rfl, w2, bi.next he (fun x g hx => by rw [List.take_length]; exact step_key hx) fun _ z => z, ?_⟩
        have := (List.getElem?_eq_some_iff.mp he).1
        omega
    · have e : ¬ ((n : Int) < ((ps.map V.ref).length : Int)) := fun z => e (decide_eq_true z)
      rw [List.length_map, lps] at e
      obtain ⟨f1, f2⟩ := bi.fin (by omega)
      refine ⟨_, rfl, le2, fun t ht => ?_⟩
      refine k _ t wd .non kvs (Same.put w2.sm (Same.free w2.sm ht)) upd_same (w2.dx.same (same_upd ht)) (.inl ⟨rfl, f1, ord.map (·.2), w2.keys, bi.nd, f2⟩)
end
end WW


set_option maxHeartbeats 2000000

namespace WW
open PySem PySem.Spec PyProof.Rows L2
/-- what more is known of the class Pattern: isinstance -/
structure PatI (K : PySem.W.Frag) (C : Addr) : Prop where
  ha : PySem.W.findIn K (.ref C) "__class__" = some (some (.builtin "object.__class__"))
  hn : PySem.W.specialIn K (.builtin "object.__class__") "__get__" = some (some (.builtin "getset_descriptor.__get__"))
  ht : PySem.W.takesIn K (.builtin "object.__class__") = some true
  hm : PySem.W.mroIn K C (.type "object") = some true
  kit : PySem.W.kitOne K (.ref C) (.ref C) = some true
def SPairs (ps : List (Int × Int)) : Prop := ps.Pairwise fun p q => keyLe (pkI p) (pkI q) = true
def PairsL (H : Hp) : List Addr → List (Int × Int) → Prop := Paired fun b p => H b = some (.tup [.int p.1, .int p.2])
def PairsA (H : Hp) (a : Addr) (ps : List (Int × Int)) : Prop := ∃ bs, H a = some (.lst (bs.map V.ref)) ∧ PairsL H bs ps
theorem PairsA.same {H H' : Hp} {a : Addr} {ps : List (Int × Int)} (h : PairsA H a ps) (s : Same H H') : PairsA H' a ps := let ⟨bs, e, r⟩ := h; ⟨bs, s _ _ e, Paired.mapP r fun _ _ x => s _ _ x⟩
theorem pairs_of_keys {H : Hp} : ∀ {ps : List (Int × Int)} {ys : List V}, Paired (NV H) (ps.map pkI) ys → ∃ bs, ys = bs.map V.ref ∧ PairsL H bs ps
  | [], _, .nil => ⟨[], rfl, .nil⟩
  | p :: ps, _, .cons h t => by
    obtain ⟨bs, e, r⟩ := pairs_of_keys t
    obtain ⟨b, rfl, hb⟩ := lk_tup h
    exact ⟨b :: bs, by rw [e]; rfl, .cons hb r⟩
section
variable {P : Program} {w : World} {K : PySem.W.Frag} {mg : Str → Option Value} {base : Heap}
/-! want_same_width, want_pattern -/
abbrev sSameW : Stmt := top 26
theorem sc26 : FnScope ["one", "other"] ["one", "other"] (defScope sSameW) := ⟨rfl, rfl, rfl, by decide +kernel, rfl, by decide +kernel, by decide +kernel⟩
def spSameW (P : Program) (w : World) (C : Addr) : Sp := fun vs H Q _ => ∃ (p q : Addr) (d : Nat) (A B : List IRow), vs = [.ref p, .ref q] ∧ PatAt P w C H p d A ∧ PatAt P w C H q d B ∧ Q .non H
theorem ok_sameW {C : Addr} (T : PatC K mg C) (D : Dn K mg "want_same_width" sSameW ["one", "other"]) : FnOk P w K mg base CX0 1 D.f D.fd ["one", "other"] (spSameW P w C) := by
  refine D.F.ok sc26 (fun vs H Q E h => ?_) (fun cdv A outer s H vs Q E hr h => ?_)
  · obtain ⟨p, q, d, A, B, rfl, _⟩ := h
    rfl
  · obtain ⟨p, q, d, A, B', rfl, hp, hq, k⟩ := h
    refine ⟨_, pss_one (ps_if (pt_cmpR op_ne (pe_wid T (pv 0)) (pe_wid T (pv 1)) (nomark _)) pss_never pss_nil), ?_⟩
    refine ⟨_, rfl, p, d, A, rfl, hp, _, rfl, q, d, B', rfl, hq, rfl, _, rfl, ?_⟩
    rw [decide_eq_true (rfl : V.int (d : Int) = V.int (d : Int))]
    exact no k
abbrev sWantP : Stmt := top 27
theorem sc27 : FnScope ["one", "other"] ["one", "other"] (defScope sWantP) := ⟨rfl, rfl, rfl, by decide +kernel, rfl, by decide +kernel, by decide +kernel⟩
theorem ok_wantP {C : Addr} (B : Blt mg) (T : PatC K mg C) (I : PatI K C) (D0 : Dn K mg "want_same_width" sSameW ["one", "other"]) (G0 : FnOk P w K mg base CX0 1 D0.f D0.fd ["one", "other"] (spSameW P w C))
    (D : Dn K mg "want_pattern" sWantP ["one", "other"]) : FnOk P w K mg base CX0 2 D.f D.fd ["one", "other"] (spSameW P w C) := by
  refine D.F.ok sc27 (fun vs H Q E h => ?_) (fun cdv A outer s H vs Q E hr h => ?_)
  · obtain ⟨p, q, d, A, B, rfl, _⟩ := h
    rfl
  · obtain ⟨p, q, d, A, B', rfl, hp, hq, k⟩ := h
    refine ⟨_, pss_cons (ps_if (pt_not (pt_val (pe_callB call_isi (by rfl) B.isinstance (by decide +kernel) (pa_cons (pv 1) (pa_cons (pe_glob (v := .ref C) (by rfl) T.mgC rfl) pa_nil))))) pss_never pss_nil)
      (pss_one (ps_expr (pe_call G0 hr (by rfl) D0.g D0.F.kp D0.b .nil pass0 (pa_cons (pv 0) (pa_cons (pv 1) pa_nil))))), ?_⟩
    obtain ⟨dx, g, eq, _⟩ := id hq
    refine ⟨_, rfl, _, .ref C, .ref C, .ref C, true, rfl, .own C, .base (.ins eq T.cl I.ha I.hn I.ht I.hm), I.kit, _, rfl, no ?_⟩
    exact ⟨_, rfl, _, rfl, p, q, d, A, B', rfl, hp, hq, k⟩
/-! __contains__ -/
abbrev sPCont : Stmt := inClass (top 24) 11
theorem scP11 : FnScope ["self", "value"] ["self", "value"] (defScope sPCont) := ⟨rfl, rfl, rfl, by decide +kernel, rfl, by decide +kernel, by decide +kernel⟩
def spPCont (P : Program) (w : World) (C : Addr) : Sp := fun vs H Q _ => ∃ (p a : Addr) (d : Nat) (rows : List IRow) (u : List Ltr), vs = [.ref p, .ref a] ∧ PatAt P w C H p d rows ∧ GoesOk d rows ∧ WordA H a u ∧ (∀ l ∈ u, Lw d l) ∧ d ≤ 4 ∧ u.length ≤ 1000 ∧ ∀ H', Same H H' → Q (.bl (runR rows 0 u).isSome) H'
theorem ok_pcont {C : Addr} (T : PatC K mg C) (D0 : Dn K mg "is_word" sIsWord ["value", "width"]) (G0 : FnOk P w K mg base CX0 4 D0.f D0.fd ["value", "width"] (spIsWord K))
    (D1 : Dn K mg "led" sLed ["pattern", "word"]) (G1 : FnOk P w K mg base CX0 1 D1.f D1.fd ["pattern", "word"] (spLed P w C)) (D : Md K C "__contains__" "Pattern.__contains__" sPCont ["self", "value"]) :
    FnOk P w K mg base CX0 5 D.f D.fd ["self", "value"] (spPCont P w C) := by
  refine D.F.ok scP11 (fun vs H Q E h => ?_) (fun cdv A outer s H vs Q E hr h => ?_)
  · obtain ⟨p, a, d, rows, u, rfl, _⟩ := h
    rfl
  · obtain ⟨p, a, d, rows, u, rfl, hp, ok, ⟨bs, ha, hb⟩, hl, hd, hz, k⟩ := h
    refine ⟨_, pss_one (ps_ret (pe_and (pe_call G0 hr (by rfl) D0.g D0.F.kp D0.b .nil pass0 (pa_cons (pv 1) (pa_cons (pe_wid T (pv 0)) pa_nil)))
      (pe_one (pe_cmp (pc_notN (pe_call G1 (hr.mono (by decide)) (by rfl) D1.g D1.F.kp D1.b .nil pass0 (pa_cons (pv 0) (pa_cons (pv 1) pa_nil)))))))), ?_⟩
    refine ⟨_, rfl, _, rfl, p, d, rows, rfl, hp, a, bs, u, d, rfl, ha, hb, hl, hd, hz, fun H1 s1 => ⟨_, rfl, ys ?_⟩⟩
    refine ⟨_, rfl, _, rfl, p, a, d, rows, bs, u, rfl, hp.same s1, ok, s1 _ _ ha, hb.same s1, ?_⟩
    have e : (!decide (oV (runR rows 0 u) = V.non)) = (runR rows 0 u).isSome := by
      cases runR rows 0 u <;> rfl
    show Q (.bl (!decide (oV (runR rows 0 u) = V.non))) H1
    rw [e]
    exact k _ s1
/-! the four over words_to_pairs -/
abbrev sLies : Stmt := top 34
abbrev sFit : Stmt := top 35
abbrev sWT : Stmt := top 36
abbrev sWAl : Stmt := top 37
theorem sc34 : FnScope ["one", "other"] ["one", "other"] (defScope sLies) := ⟨rfl, rfl, rfl, by decide +kernel, rfl, by decide +kernel, by decide +kernel⟩
theorem sc35 : FnScope ["one", "other"] ["one", "other"] (defScope sFit) := ⟨rfl, rfl, rfl, by decide +kernel, rfl, by decide +kernel, by decide +kernel⟩
theorem sc36 : FnScope ["one", "other", "words", "alone"] ["one", "other"] (defScope sWT) := ⟨rfl, rfl, rfl, by decide +kernel, rfl, by decide +kernel, by decide +kernel⟩
theorem sc37 : FnScope ["one", "other"] ["one", "other"] (defScope sWAl) := ⟨rfl, rfl, rfl, by decide +kernel, rfl, by decide +kernel, by decide +kernel⟩
def spLies (P : Program) (w : World) (C : Addr) : Sp := fun vs H Q _ => ∃ (p q : Addr) (d : Nat) (A B : List IRow), vs = [.ref p, .ref q] ∧ PatAt P w C H p d A ∧ PatAt P w C H q d B ∧ GoesOk d A ∧ GoesOk d B ∧ (∀ r ∈ A, SRow r) ∧
  ∀ H' b, Same H H' → (b = true ↔ ∀ u, ¬ Bad A B u) → Q (.bl b) H'
def spFit (P : Program) (w : World) (C : Addr) : Sp := fun vs H Q _ => ∃ (p q : Addr) (d : Nat) (A B : List IRow), vs = [.ref p, .ref q] ∧ PatAt P w C H p d A ∧ PatAt P w C H q d B ∧ GoesOk d A ∧ GoesOk d B ∧ (∀ r ∈ A, SRow r) ∧ (∀ r ∈ B, SRow r) ∧
  ∀ H' b, Same H H' → (b = true ↔ (∀ u, ¬ Bad A B u) ∧ ∀ u, ¬ Bad B A u) → Q (.bl b) H'
/-- the table, or none -/
def TableV (H0 H : Hp) (v : V) (A B : List IRow) : Prop := (v = .non ∧ ∃ u, Bad A B u) ∨ ∃ a ps, v = .ref a ∧ H0 a = none ∧ PairsA H a ps ∧ SPairs ps ∧ ps.Nodup ∧ (∀ u, ¬ Bad A B u) ∧ ∀ p, p ∈ ps ↔ Reach A B p
def AloneV (H0 H : Hp) (v : V) (A B : List IRow) : Prop := (v = .non ∧ ∀ u, ¬ Bad A B u) ∨ ∃ a u, v = .ref a ∧ H0 a = none ∧ WordA H a u ∧ LeastBad A B u
def spWT (P : Program) (w : World) (C : Addr) : Sp := fun vs H Q _ => ∃ (p q : Addr) (d : Nat) (A B : List IRow), vs = [.ref p, .ref q] ∧ PatAt P w C H p d A ∧ PatAt P w C H q d B ∧ GoesOk d A ∧ GoesOk d B ∧ (∀ r ∈ A, SRow r) ∧
  ∀ H' v, Same H H' → TableV H H' v A B → Q v H'
def spWAl (P : Program) (w : World) (C : Addr) : Sp := fun vs H Q _ => ∃ (p q : Addr) (d : Nat) (A B : List IRow), vs = [.ref p, .ref q] ∧ PatAt P w C H p d A ∧ PatAt P w C H q d B ∧ GoesOk d A ∧ GoesOk d B ∧ (∀ r ∈ A, SRow r) ∧
  ∀ H' v, Same H H' → AloneV H H' v A B → Q v H'
section
variable {C : Addr} (B : Blt mg) (D0 : Dn K mg "want_same_width" sSameW ["one", "other"]) (G0 : FnOk P w K mg base CX0 1 D0.f D0.fd ["one", "other"] (spSameW P w C)) (D1 : Dn K mg "words_to_pairs" sW2P ["one", "other"]) (G1 : FnOk P w K mg base CX0 1 D1.f D1.fd ["one", "other"] (spW2P P w C))
include B G0 G1
theorem ok_lies (D : Dn K mg "lies_within" sLies ["one", "other"]) : FnOk P w K mg base CX0 2 D.f D.fd ["one", "other"] (spLies P w C) := by
  refine D.F.ok sc34 (fun vs H Q E h => ?_) (fun cdv A outer s H vs Q E hr h => ?_)
  · obtain ⟨p, q, d, A, B, rfl, _⟩ := h
    rfl
  · obtain ⟨p, q, d, A, B', rfl, hp, hq, okA, okB, srt, k⟩ := h
    refine ⟨_, pss_cons (ps_expr (pe_call G0 hr (by rfl) D0.g D0.F.kp D0.b .nil pass0 (pa_cons (pv 0) (pa_cons (pv 1) pa_nil))))
      (pss_one (ps_ret (pe_cmp (pc_isN (pe_ix ix_tup (pe_call G1 hr (by rfl) D1.g D1.F.kp D1.b .nil pass0 (pa_cons (pv 0) (pa_cons (pv 1) pa_nil))) pe_int (fun _ _ => rfl)))))), ?_⟩
    refine ⟨_, rfl, _, rfl, p, q, d, A, B', rfl, hp, hq, _, rfl, _, rfl, p, q, d, A, B', rfl, hp, hq, okA, okB, srt, fun H1 t wd v kvs s1 ht dx f => ?_⟩
    refine ⟨t, _, 1, v, rfl, rfl, .inl (.inl ht), atI_nat (j := 1) rfl, k _ _ s1 ?_⟩
    rcases f with ⟨rfl, f1, _⟩ | ⟨a, u, rfl, _, _, f1⟩
    · simp [f1]
    · constructor
      · intro z; simp at z
      · intro z; exact absurd f1.1 (z u)
theorem ok_wAl (D : Dn K mg "word_alone" sWAl ["one", "other"]) : FnOk P w K mg base CX0 2 D.f D.fd ["one", "other"] (spWAl P w C) := by
  refine D.F.ok sc37 (fun vs H Q E h => ?_) (fun cdv A outer s H vs Q E hr h => ?_)
  · obtain ⟨p, q, d, A, B, rfl, _⟩ := h
    rfl
  · obtain ⟨p, q, d, A, B', rfl, hp, hq, okA, okB, srt, k⟩ := h
    refine ⟨_, pss_cons (ps_expr (pe_call G0 hr (by rfl) D0.g D0.F.kp D0.b .nil pass0 (pa_cons (pv 0) (pa_cons (pv 1) pa_nil))))
      (pss_one (ps_ret (pe_ix ix_tup (pe_call G1 hr (by rfl) D1.g D1.F.kp D1.b .nil pass0 (pa_cons (pv 0) (pa_cons (pv 1) pa_nil))) pe_int (fun _ _ => rfl)))), ?_⟩
    refine ⟨_, rfl, _, rfl, p, q, d, A, B', rfl, hp, hq, _, rfl, _, rfl, p, q, d, A, B', rfl, hp, hq, okA, okB, srt, fun H1 t wd v kvs s1 ht dx f => ?_⟩
    refine ⟨t, _, 1, v, rfl, rfl, .inl (.inl ht), atI_nat (j := 1) rfl, k _ _ s1 ?_⟩
    rcases f with ⟨rfl, f1, _⟩ | ⟨a, u, rfl, f0, fw, f1⟩
    · exact .inl ⟨rfl, f1⟩
    · exact .inr ⟨a, u, rfl, f0, fw, f1⟩
theorem ok_fit (D : Dn K mg "fit_alike" sFit ["one", "other"]) : FnOk P w K mg base CX0 2 D.f D.fd ["one", "other"] (spFit P w C) := by
  refine D.F.ok sc35 (fun vs H Q E h => ?_) (fun cdv A outer s H vs Q E hr h => ?_)
  · obtain ⟨p, q, d, A, B, rfl, _⟩ := h
    rfl
  · obtain ⟨p, q, d, A, B', rfl, hp, hq, okA, okB, srtA, srtB, k⟩ := h
    refine ⟨_, pss_cons (ps_expr (pe_call G0 hr (by rfl) D0.g D0.F.kp D0.b .nil pass0 (pa_cons (pv 0) (pa_cons (pv 1) pa_nil))))
      (pss_one (ps_ret (pe_and (pe_cmp (pc_isN (pe_ix ix_tup (pe_call G1 hr (by rfl) D1.g D1.F.kp D1.b .nil pass0 (pa_cons (pv 0) (pa_cons (pv 1) pa_nil))) pe_int (fun _ _ => rfl))))
        (pe_one (pe_cmp (pc_isN (pe_ix ix_tup (pe_call G1 hr (by rfl) D1.g D1.F.kp D1.b .nil pass0 (pa_cons (pv 1) (pa_cons (pv 0) pa_nil))) pe_int (fun _ _ => rfl)))))))), ?_⟩
    refine ⟨_, rfl, _, rfl, p, q, d, A, B', rfl, hp, hq, _, rfl, _, rfl, p, q, d, A, B', rfl, hp, hq, okA, okB, srtA, fun H1 t wd v kvs s1 ht dx f => ?_⟩
    refine ⟨t, _, 1, v, rfl, rfl, .inl (.inl ht), atI_nat (j := 1) rfl, _, rfl, ?_⟩
    rcases f with ⟨rfl, f1, _⟩ | ⟨a, u, rfl, f0, fw, f1⟩
    · refine ys ⟨_, rfl, _, rfl, q, p, d, B', A, rfl, hq.same s1, hp.same s1, okB, okA, srtB, fun H2 t2 wd2 v2 kvs2 s2 ht2 dx2 f => ?_⟩
      refine ⟨t2, _, 1, v2, rfl, rfl, .inl (.inl ht2), atI_nat (j := 1) rfl, k _ _ (Same.trans s1 s2) ?_⟩
      rcases f with ⟨rfl, f2, _⟩ | ⟨a, u, rfl, _, _, f2⟩
      · simp [f1, f2]
      · constructor
        · intro z; simp at z
        · intro z; exact absurd f2.1 (z.2 u)
    · refine no (k _ _ s1 ?_)
      constructor
      · intro z; simp at z
      · intro z; exact absurd f1.1 (z.1 u)
theorem ok_wT (D : Dn K mg "within_table" sWT ["one", "other"]) : FnOk P w K mg base CX0 2 D.f D.fd ["one", "other"] (spWT P w C) := by
  refine D.F.ok sc36 (fun vs H Q E h => ?_) (fun cdv A outer s H vs Q E hr h => ?_)
  · obtain ⟨p, q, d, A, B, rfl, _⟩ := h
    rfl
  · obtain ⟨p, q, d, A, B', rfl, hp, hq, okA, okB, srt, k⟩ := h
    refine ⟨_, pss_cons (ps_expr (pe_call G0 hr (by rfl) D0.g D0.F.kp D0.b .nil pass0 (pa_cons (pv 0) (pa_cons (pv 1) pa_nil))))
      (pss_cons (ps_asg (pe_call G1 hr (by rfl) D1.g D1.F.kp D1.b .nil pass0 (pa_cons (pv 0) (pa_cons (pv 1) pa_nil))) (pg_tup rfl (pgs_cons (pg_name (i := 2) sc36.nd rfl (.inl rfl)) (pgs_cons (pg_name (i := 3) sc36.nd rfl (.inl rfl)) pgs_nil))))
      (pss_one (ps_ret (pe_ifExp (pt_cmp (pc_isN (pv 3))) (pe_callB (call_srt rfl (u30 hr)) (by rfl) B.sorted (by decide +kernel) (pa_cons (pv 2) pa_nil)) pe_non)))), ?_⟩
    refine ⟨_, rfl, _, rfl, p, q, d, A, B', rfl, hp, hq, _, rfl, _, rfl, p, q, d, A, B', rfl, hp, hq, okA, okB, srt, fun H1 t wd v kvs s1 ht dx f => ?_⟩
    refine ⟨t, _, rfl, .inl (.inl ht), rfl, _, _, rfl, _, _, rfl, rfl, _, rfl, _, rfl, ?_⟩
    rcases f with ⟨rfl, f1, ps, ek, nd, f2⟩ | ⟨a, u, rfl, f0, fw, f1⟩
    · refine ys ⟨_, rfl, wd, kvs.map (·.1), rfl, .inl ⟨kvs, dx, rfl⟩, ?_, fun l ys ks' hl perm pw py => ?_⟩
      · have e : kvs.map (·.1) = (ps.map fun p => [p.1, p.2]).map lk := by rw [ek, List.map_map]; rfl
        rw [e]
        refine sortOk_len (d := 2) (fun l hl => ?_) (nodup_map_inj (fun a b e => ?_) nd)
        · obtain ⟨p, _, rfl⟩ := List.mem_map.mp hl
          rfl
        · injection e with e1 e2
          injection e2 with e2 _
          exact Prod.ext e1 e2
      · obtain ⟨ps', pp, ekp⟩ := perm_map (f := pkI) perm ps ek
        rw [ekp] at py pw
        obtain ⟨bs, rfl, hbs⟩ := pairs_of_keys py
        rw [List.pairwise_map] at pw
        refine k _ _ (Same.trans s1 (same_upd hl)) (.inr ⟨l, ps', rfl, Same.free s1 hl, ⟨bs, upd_same, Paired.mapP hbs fun _ _ x => same_upd hl _ _ x⟩, pw, pp.nodup_iff.mpr nd, f1, fun p => pp.mem_iff.trans (f2 p)⟩)
    · refine no (k _ _ s1 (.inl ⟨rfl, u, f1.1⟩))
end
end
end WW


set_option maxHeartbeats 2000000

namespace WW
open PySem PySem.Spec PyProof.Rows L2
/-! plain data in the tracked heap -/
section
variable (P : Program) (w : World)
mutual
def DR (H : Hp) : PyData → V → Prop
  | .none, v => v = .non
  | .bool b, v => v = .bl b
  | .int i, v => v = .int i
  | .str x, v => v = .str x
  | .list ds, v => ∃ a ys, v = .ref a ∧ H a = some (.lst ys) ∧ DRs H ds ys
  | .tuple ds, v => ∃ a ys, v = .ref a ∧ H a = some (.tup ys) ∧ DRs H ds ys
  | .dict kvs, v => ∃ a kd xs, v = .ref a ∧ DX P w kd H a xs ∧ DRk H kvs xs
def DRs (H : Hp) : List PyData → List V → Prop
  | [], ys => ys = []
  | d :: ds, ys => ∃ y r, ys = y :: r ∧ DR H d y ∧ DRs H ds r
def DRk (H : Hp) : List (PyData × PyData) → List (NestedKey × V) → Prop
  | [], xs => xs = []
  | (k, d) :: r, xs => ∃ p s, xs = p :: s ∧ k = p.1.data ∧ DR H d p.2 ∧ DRk H r s
end
end
section
variable {P : Program} {w : World} {H H' : Hp}
mutual
theorem DR.same (s : Same H H') : ∀ (d : PyData) (v : V), DR P w H d v → DR P w H' d v
  | .none, _, h => h
  | .bool _, _, h => h
  | .int _, _, h => h
  | .str _, _, h => h
  | .list ds, _, h => by
    obtain ⟨a, ys, e, q, r⟩ := h
    exact ⟨a, ys, e, s _ _ q, DRs.same s ds ys r⟩
  | .tuple ds, _, h => by
    obtain ⟨a, ys, e, q, r⟩ := h
    exact ⟨a, ys, e, s _ _ q, DRs.same s ds ys r⟩
  | .dict kvs, _, h => by
    obtain ⟨a, kd, xs, e, q, r⟩ := h
    exact ⟨a, kd, xs, e, q.same s, DRk.same s kvs xs r⟩
theorem DRs.same (s : Same H H') : ∀ (ds : List PyData) (ys : List V), DRs P w H ds ys → DRs P w H' ds ys
  | [], _, h => h
  | d :: ds, _, h => by
    obtain ⟨y, r, e, q, t⟩ := h
    exact ⟨y, r, e, DR.same s d y q, DRs.same s ds r t⟩
theorem DRk.same (s : Same H H') : ∀ (kvs : List (PyData × PyData)) (xs : List (NestedKey × V)), DRk P w H kvs xs → DRk P w H' kvs xs
  | [], _, h => h
  | (k, d) :: r, _, h => by
    obtain ⟨p, t, e, ek, q, z⟩ := h
    exact ⟨p, t, e, ek, DR.same s d p.2 q, DRk.same s r t z⟩
end
def tyD : PyData → Ty7
  | .none => .non | .bool _ => .bl | .int _ => .int | .str _ => .str | .list _ => .lst | .tuple _ => .tup | .dict _ => .dct
theorem DR.ty {K : PySem.W.Frag} : ∀ (d : PyData) (v : V), DR P w H d v → IsTy P w K H v (tyD d)
  | .none, _, h => h
  | .bool _, _, h => ⟨_, h⟩
  | .int _, _, h => ⟨_, h⟩
  | .str _, _, h => ⟨_, h⟩
  | .list ds, _, h => let ⟨a, ys, e, q, r⟩ := h; ⟨a, ys, e, q⟩
  | .tuple ds, _, h => let ⟨a, ys, e, q, r⟩ := h; ⟨a, ys, e, q⟩
  | .dict kvs, _, h => let ⟨a, kd, xs, e, q, r⟩ := h; ⟨a, kd, xs, e, q⟩
theorem DRs.len : ∀ {ds : List PyData} {ys : List V}, DRs P w H ds ys → ds.length = ys.length
  | [], _, h => by cases h; rfl
  | d :: ds, _, h => by
    obtain ⟨y, r, rfl, q, t⟩ := h
    rw [List.length_cons, List.length_cons, DRs.len t]
theorem DRs.get : ∀ {ds : List PyData} {ys : List V}, DRs P w H ds ys → ∀ {i : Nat} {y : V}, ys[i]? = some y → ∃ d, ds[i]? = some d ∧ DR P w H d y
  | [], _, h, i, y, e => by cases h; simp at e
  | d :: ds, _, h, i, y, e => by
    obtain ⟨y0, r, rfl, q, t⟩ := h
    cases i with
    | zero => simp at e; subst e; exact ⟨d, rfl, q⟩
    | succ i => simp at e ⊢; exact DRs.get t e
end
/-! over a list or a tuple -/
section
variable {X : Cx} {tg e : Expr} {t u : TI}
theorem PI.or (h1 : PI X tg e t) (h2 : PI X tg e u) : PI X tg e (fun σ H R => t σ H R ∨ u σ H R) := ⟨fun pins s σ H R I h => by
  rcases h with h | h
  · exact h1.run pins s σ H R I h
  · exact h2.run pins s σ H R I h⟩
theorem CallR.or {f : Value} {r r' : List V → Hp → VK → Prop} (h1 : CallR X f r) (h2 : CallR X f r') : CallR X f (fun xs H Q => r xs H Q ∨ r' xs H Q) := by
  intro pins s σ H xs us Q I rv q
  rcases q with q | q
  · exact h1 pins s σ H xs us Q I rv q
  · exact h2 pins s σ H xs us Q I rv q
end
/-! lists without doubles -/
theorem nodup_sub {α : Type} [DecidableEq α] : ∀ {l1 l2 : List α}, l1.Nodup → (∀ x ∈ l1, x ∈ l2) → ∃ r, l2.Perm (l1 ++ r)
  | [], l2, _, _ => ⟨l2, .refl _⟩
  | a :: t, l2, nd, h => by
    rw [List.nodup_cons] at nd
    have ha := h a List.mem_cons_self
    obtain ⟨r, hr⟩ := nodup_sub (l1 := t) (l2 := l2.erase a) nd.2 fun x hx => (List.mem_erase_of_ne (fun e => nd.1 (by rw [← e]; exact hx))).mpr (h x (List.mem_cons_of_mem _ hx))
    exact ⟨r, (List.perm_cons_erase ha).trans (hr.cons a)⟩
theorem nodup_len {α : Type} [DecidableEq α] {l1 l2 : List α} (nd : l1.Nodup) (h1 : ∀ x ∈ l1, x ∈ l2) (h2 : ∀ x ∈ l2, x ∈ l1) : l1.length = l2.length ↔ l2.Nodup := by
  obtain ⟨r, hr⟩ := nodup_sub nd h1
  constructor
  · intro e
    have := hr.length_eq
    rw [List.length_append] at this
    have r0 : r = [] := List.length_eq_zero_iff.mp (by omega)
    rw [r0, List.append_nil] at hr
    exact hr.nodup_iff.mpr nd
  · intro n2
    obtain ⟨r2, hr2⟩ := nodup_sub n2 h2
    have a := hr.length_eq
    have b := hr2.length_eq
    rw [List.length_append] at a b
    omega
/-! places, pairs -/
def plD (n : Nat) : PyData → Bool
  | .int i => decide (0 ≤ i) && decide (i < (n : Int))
  | _ => false
def prD (n m : Nat) : PyData → Bool
  | .tuple [x, y] => plD n x && plD m y
  | _ => false
section
variable {P : Program} {w : World} {K : PySem.W.Frag} {mg : Str → Option Value} {base : Heap}
abbrev sIsPlace : Stmt := top 39
abbrev sIsPair : Stmt := top 40
theorem sc39 : FnScope ["pattern", "value"] ["pattern", "value"] (defScope sIsPlace) := ⟨rfl, rfl, rfl, by decide +kernel, rfl, by decide +kernel, by decide +kernel⟩
theorem sc40 : FnScope ["one", "other", "value"] ["one", "other", "value"] (defScope sIsPair) := ⟨rfl, rfl, rfl, by decide +kernel, rfl, by decide +kernel, by decide +kernel⟩
def spIsPlace (P : Program) (w : World) (C : Addr) : Sp := fun vs H Q _ => ∃ (p : Addr) (d : Nat) (A : List IRow) (v : V) (x : PyData), vs = [.ref p, v] ∧ PatAt P w C H p d A ∧ DR P w H x v ∧ Q (.bl (plD A.length x)) H
theorem isC_int {x : PyData} {v : V} {H : Hp} (h : DR P w H x v) : (∃ i, x = .int i ∧ v = .int i) ∨ (isC v = false ∧ ∀ n, plD n x = false) := by
  cases x with
  | int i => cases h; exact .inl ⟨i, rfl, rfl⟩
  | none => cases h; exact .inr ⟨rfl, fun _ => rfl⟩
  | bool b => cases h; exact .inr ⟨rfl, fun _ => rfl⟩
  | str b => cases h; exact .inr ⟨rfl, fun _ => rfl⟩
  | list ds => obtain ⟨a, ys, rfl, _⟩ := h; exact .inr ⟨rfl, fun _ => rfl⟩
  | tuple ds => obtain ⟨a, ys, rfl, _⟩ := h; exact .inr ⟨rfl, fun _ => rfl⟩
  | dict ds => obtain ⟨a, ys, _, rfl, _⟩ := h; exact .inr ⟨rfl, fun _ => rfl⟩
theorem ok_isPlace {C : Addr} (B : Blt mg) (T : PatC K mg C) (D0 : Dn K mg "is_count" sIsCount ["value"]) (G0 : FnOk P w K mg base CX0 2 D0.f D0.fd ["value"] (spIsCount P w K)) (D : Dn K mg "is_place" sIsPlace ["pattern", "value"]) :
    FnOk P w K mg base CX0 3 D.f D.fd ["pattern", "value"] (spIsPlace P w C) := by
  refine D.F.ok sc39 (fun vs H Q E h => ?_) (fun cdv A outer s H vs Q E hr h => ?_)
  · obtain ⟨p, d, A, v, x, rfl, _⟩ := h
    rfl
  · obtain ⟨p, d, A, v, x, rfl, hp, hx, k⟩ := h
    refine ⟨_, pss_one (ps_ret (pe_and (pe_call G0 hr (by rfl) D0.g D0.F.kp D0.b .nil pass0 (pa_cons (pv 1) pa_nil))
      (pe_one (pe_cmpR op_lt (pv 1) (pe_callB call_len_seq (by rfl) B.len PySem.boot_len (pa_cons (pe_goes T (pv 0)) pa_nil)) (nomark _))))), ?_⟩
    refine ⟨_, rfl, v, _, rfl, DR.ty x v hx, _, rfl, ite2 (fun e => ?_) (fun e => ?_)⟩
    · rcases isC_int hx with ⟨i, rfl, rfl⟩ | ⟨e1, _⟩
      · refine ⟨_, rfl, _, rfl, p, d, A, rfl, hp, fun g ⟨L, hg, hL⟩ => ⟨g, _, rfl, .inl (SqL.of hg), i, _, rfl, rfl, ?_⟩⟩
        have ln : L.length = A.length := Paired.length hL
        have e : decide (0 ≤ i) = true := e
        have k : Q (.bl (decide (0 ≤ i) && decide (i < (A.length : Int)))) H := k
        rw [e, Bool.true_and] at k
        show Q (.bl (decide (i < ((L.map V.ref).length : Int)))) H
        rw [List.length_map, ln]
        exact k
      · rw [e1] at e
        cases e
    · rcases isC_int hx with ⟨i, rfl, rfl⟩ | ⟨_, e2⟩
      · have e : decide (0 ≤ i) = false := by simpa [isC] using e
        have k : Q (.bl (decide (0 ≤ i) && decide (i < (A.length : Int)))) H := k
        rw [e, Bool.false_and] at k
        exact k
      · rw [e2] at k
        exact k
def spIsPair (P : Program) (w : World) (C : Addr) : Sp := fun vs H Q _ => ∃ (p q : Addr) (d : Nat) (A B : List IRow) (v : V) (x : PyData), vs = [.ref p, .ref q, v] ∧ PatAt P w C H p d A ∧ PatAt P w C H q d B ∧ DR P w H x v ∧ (∀ ds, x = .tuple ds → ds.length ≤ 1000) ∧ Q (.bl (prD A.length B.length x)) H
theorem prD_not {n m : Nat} {x : PyData} (h : ∀ ds, x = .tuple ds → ds.length ≠ 2) : prD n m x = false := by
  unfold prD
  split
  · exact absurd rfl (h _ rfl)
  · rfl
theorem ok_isPair {C : Addr} (B : Blt mg) (T : PatC K mg C) (D0 : Dn K mg "is_place" sIsPlace ["pattern", "value"]) (G0 : FnOk P w K mg base CX0 3 D0.f D0.fd ["pattern", "value"] (spIsPlace P w C)) (D : Dn K mg "is_pair" sIsPair ["one", "other", "value"]) :
    FnOk P w K mg base CX0 4 D.f D.fd ["one", "other", "value"] (spIsPair P w C) := by
  refine D.F.ok sc40 (fun vs H Q E h => ?_) (fun cdv A outer s H vs Q E hr h => ?_)
  · obtain ⟨p, q, d, A, B, v, x, rfl, _⟩ := h
    rfl
  · obtain ⟨p, q, d, A, B', v, x, rfl, hp, hq, hx, hz, k⟩ := h
    refine ⟨_, pss_one (ps_ret (pe_and (pe_callB (call_isF kit_tuple) (by rfl) B.isinstance (by decide +kernel) (pa_cons (pv 2) (pa_cons (ty_tuple B (by rfl)) pa_nil)))
      (pe_and (pe_cmpR op_eq (pe_callB call_len_seq (by rfl) B.len PySem.boot_len (pa_cons (pv 2) pa_nil)) pe_int (nomark _))
      (pe_and (pe_call G0 hr (by rfl) D0.g D0.F.kp D0.b .nil pass0 (pa_cons (pv 0) (pa_cons (pe_ix ix_tup (pv 2) pe_int (fun _ _ => rfl)) pa_nil)))
      (pe_one (pe_call G0 hr (by rfl) D0.g D0.F.kp D0.b .nil pass0 (pa_cons (pv 1) (pa_cons (pe_ix ix_tup (pv 2) pe_int (fun _ _ => rfl)) pa_nil)))))))), ?_⟩
    refine ⟨_, rfl, v, _, rfl, DR.ty x v hx, _, rfl, ite2 (fun e => ?_) (fun e => ?_)⟩
    · cases x with
      | tuple ds =>
        obtain ⟨a, ys, rfl, ha, hds⟩ := hx
        refine ⟨_, rfl, a, ys, rfl, .inr (.inl (.inl ha)), rfl, _, rfl, ite2 (fun e2 => ?_) (fun e2 => ?_)⟩
        · have e2 : (ys.length : Int) = 2 := V.int.inj (of_decide_eq_true e2)
          match ds, ys, hds, e2 with
          | [], ys, h, e2 => cases h; simp at e2
          | [_], ys, h, e2 =>
            obtain ⟨y, r, rfl, _, rfl⟩ := h
            simp at e2
          | d1 :: d2 :: d3 :: ds, ys, h, e2 =>
            obtain ⟨y, r, rfl, _, y2, r2, rfl, _, y3, r3, rfl, _, _⟩ := h
            simp only [List.length_cons] at e2
            omega
          | [d1, d2], ys, h, e2 =>
            obtain ⟨y, r, rfl, h1, y2, r2, rfl, h2, rfl⟩ := h
            refine ⟨_, rfl, _, rfl, a, _, 0, y, rfl, rfl, .inl (.inl ha), atI_nat (j := 0) rfl, p, d, A, y, d1, rfl, hp, h1, _, rfl, ?_⟩
            have k : Q (.bl (plD A.length d1 && plD B'.length d2)) H := k
            refine ite2 (fun e3 => ?_) (fun e3 => ?_)
            · rw [e3, Bool.true_and] at k
              exact ⟨_, rfl, _, rfl, a, _, 1, y2, rfl, rfl, .inl (.inl ha), atI_nat (j := 1) rfl, q, d, B', y2, d2, rfl, hq, h2, k⟩
            · have e3 : plD A.length d1 = false := by simpa using e3
              rw [e3, Bool.false_and] at k
              exact k
        · rw [prD_not] at k
          · exact k
          · intro ds' e3 h2
            injection e3 with e3
            subst e3
            refine e2 (decide_eq_true ?_)
            have := DRs.len hds
            rw [← this, h2]
            rfl
      | _ => cases e
    · rw [prD_not] at k
      · exact k
      · intro ds e2
        subst e2
        exact absurd rfl e
end
end WW


set_option maxHeartbeats 3200000

namespace WW
open PySem PySem.Spec PyProof.Rows L2
/-! set(t), t a tuple of tuples of ints -/
section
variable {P : Program} {w : World} {A : Around} {E : Value → Shared → Prop} {s : Shared}
abbrev emptySet (w : World) : Obj := { cls := .type "set", dict := none, data := .set #[] 0 (.fresh 0 0 (!w.params.followText "set-order")) }
theorem set_of_tuple {l : Addr} {items : Array Value} (ks : List (Addr × List Int)) {Q : Value → Shared → Prop} (hh : A.handled = none) (hl : s.heap.IsTuple l items) (hit : items.toList = ks.map fun p => Value.ref p.1)
    (hk : ∀ p ∈ ks, IsT P w s.heap p.2 p.1) (hfew : ks.length < 64) (hu : A.units + 3 < cLine)
    (h : ∀ (h' : Heap) (tk : Nat) L es ep t, SetTR P w h' s.heap.objs.size L es ep t → Got ks ks.length L → (∀ b o, s.heap.get? b = some o → h'.get? b = some o) → Q (.ref s.heap.objs.size) { s with heap := h', toks := tk }) :
    wpAny (model P w) A (call (.type "set") [.ref l]) Q E s := by
  have hn : items.size = ks.length := by simpa using congrArg List.length hit
  have old : ∀ {b : Addr}, s.heap.objs.size ≤ b → s.heap.get? b = none := fun {b} hb => by
    cases q : s.heap.get? b with
    | none => rfl
    | some o => exact absurd (Nat.lt_of_lt_of_le (Heap.lt_size q) hb) (Nat.lt_irrefl _)
  have hval : ∀ (i : Nat) (v : Value), items[i]? = some v → ∃ p, ks[i]? = some p ∧ v = .ref p.1 := fun i v hv => by
    rw [← Array.getElem?_toList, hit, List.getElem?_map] at hv
    obtain ⟨p, h1, h2⟩ := Option.map_eq_some_iff.mp hv
    exact ⟨p, h1, h2.symm⟩
  obtain ⟨c, tl, hmro⟩ := F.called_set.mro
  have hmade := F.called_set.made
  have hsub := F.called_set.sub
  refine wpAny_call (codeAny_of_tree ?_)
  show wpAny _ _ (callAny (.type "set") _) _ _ _
  refine wpAny_pure ⟨Code.quiet_builtin _ (by decide +kernel), codeAny_builtin F.entry_type_call ?_⟩
  rw [Around.under_plain (weight_type_call_type "set" [.ref l] []) rfl]
  have h1 := F.called_set.notType
  have h2 := F.called_set.canCreate
  have hct := F.typeCall_set_1 (.ref l)
  repeat (any_goals (first | assumption | wp_step))
  refine codeAny_mono (code_set_led1 (.ref l) (E := E) (Q₁ := fun obj s₁ => obj = .ref s.heap.objs.size ∧ s₁ = { s with heap := s.heap.push (emptySet w) }) ⟨rfl, rfl⟩) fun r s₁ hr => ?_
  match r, hr with
  | .error e, hr => exact hr
  | .ok .next, hr => exact hr.elim
  | .ok .brk, hr => exact hr.elim
  | .ok .cont, hr => exact hr.elim
  | .ok (.ret obj), hr =>
    obtain ⟨rfl, rfl⟩ := hr
    have hS : (s.heap.push (emptySet w)).get? s.heap.objs.size = some (emptySet w) := Heap.get?_push_size _ rfl
    have hT : Shared.TypeIs { s with heap := s.heap.push (emptySet w) } (.ref s.heap.objs.size) "set" := ⟨_, hS, rfl⟩
    have hli := F.called_set.init.lookup
    have hbi := F.called_set.init.bind (.ref s.heap.objs.size)
    repeat (any_goals (first | assumption | wp_step))
    refine codeAny_mono (codeAny_call_builtin (R := wants (fun r s₂ => r = .none ∧ ∃ h' tk L es ep t, s₂ = { s with heap := h', toks := tk } ∧ SetTR P w h' s.heap.objs.size L es ep t ∧ Got ks ks.length L ∧
      (∀ b o, s.heap.get? b = some o → h'.get? b = some o)) E) F.called_set.init.plain F.entry_set_init (check_set_init_1 hT ?_)) fun r₂ s₂ hr₂ => ?_
    · obtain ⟨ol, hol, hcl, nl, hdl⟩ := hl
      obtain ⟨ocls, odict, odata, oslots⟩ := ol
      simp only at hcl hdl
      subst hcl; subst hdl
      have hol' : (s.heap.push (emptySet w)).get? l = some { cls := .type "tuple", dict := odict, data := .seq items nl, slots := oslots } := Heap.get?_push_of_some _ hol
      have hsls := F.sub_tuple_set
      have hslf := F.sub_tuple_frozenset
      have hne : (Value.type "tuple" == Value.type "dict") = false := by decide
      have hl1 : (s.heap.push (emptySet w)).IsTuple l items := ⟨_, hol', rfl, nl, rfl⟩
      unfold Builtin.«set.__init__» noKeywords Builtin.Frozenset.updateFrom
      generalize hPI : pyIter = PI
      wp_walk
      subst hPI
      refine wpAny_pyIter_tuple hl1 ?_
      refine wpAny_bind (wpAny_runValue ?_)
      have hlS : l < s.heap.objs.size := Heap.lt_size hol
      have hh3 : A.in1.in1.in1.handled = none := by simp [hh]
      have hz : (s.heap.push (emptySet w)).objs.size = s.heap.objs.size + 1 := Heap.size_push ..
      refine set_update_tups ((Walks.tuple hh3 _ l (by rw [hz]; exact Nat.ne_of_lt (Nat.lt_succ_of_lt hlS)) items).toS) s.heap.objs.size (by
          rw [hz]
          simp only [List.mem_cons, List.not_mem_nil, or_false, not_or]
          exact ⟨Nat.ne_of_lt (Nat.lt_succ_self _), Nat.ne_of_gt hlS⟩) ks hn hfew hval s.heap hk (old (Nat.le_refl _)) (fun b hb => old (by rw [List.mem_singleton.mp hb, hz]; exact Nat.le_succ _)) hu (items.size - 0) 0 _ (by omega) (Nat.zero_le _)
        ⟨⟨_, Heap.get?_push_size _ rfl, rfl, rfl⟩, hl1.push _⟩ (fun b o e => Heap.get?_push_of_some _ (Heap.get?_push_of_some _ e)) ?_ ?_
      · exact ⟨[], #[], 0, _, setTR_fresh (Heap.get?_push_of_some _ hS), Got.zero ks⟩
      · intro s' L es ep t hm hS' g' hkp
        obtain ⟨h', g2, d', tk', os'⟩ := s'
        obtain rfl : g2 = s.gens := hm.gens
        obtain rfl : d' = s.drawn := hm.drawn
        obtain rfl : os' = s.os := hm.os
        show wpAny _ _ _ _ _ _
        refine wpAny_pure ?_
        show wpAny _ _ (ret Value.none) _ _ _
        rw [hn] at g'
        exact wpAny_pure ⟨rfl, h', tk', L, es, ep, t, rfl, hS', g', hkp⟩
    · match r₂, hr₂ with
      | .error e, hr₂ => exact hr₂
      | .ok .next, hr₂ => exact hr₂.elim
      | .ok .brk, hr₂ => exact hr₂.elim
      | .ok .cont, hr₂ => exact hr₂.elim
      | .ok (.ret r), hr₂ =>
        obtain ⟨rfl, h', tk, L, es, ep, t, rfl, hS', g', hk'⟩ := hr₂
        repeat (any_goals (first | assumption | wp_step))
        exact h _ _ _ _ _ _ hS' g' hk'
end
/-- set(t), t a tuple of tuples of ints -/
def rSetTT (K : PySem.W.Frag) (P : Program) (w : World) : List V → Hp → VK → Prop := fun xs H Q => ∃ (l : Addr) (ks : List (Addr × List Int)), xs = [V.ref l] ∧ SqT K H l (ks.map fun p => V.ref p.1) ∧ (∀ p ∈ ks, SqT K H p.1 (p.2.map V.int)) ∧ ks.length < 64 ∧
  ∀ a L, H a = none → (∀ p ∈ L, p ∈ ks) → (∀ p ∈ ks, p.2 ∈ L.map (·.2)) → Q (.ref a) (upd H a (SetTO P w a L))
theorem call_setTT {X : Cx} (hc : X.calm = true) (hu : X.A.units + 30 < cLine) : CallR X (.type "set") (rSetTT X.K X.prog X.w) := by
  intro pins s σ H xs us Q I r h
  obtain ⟨l, ks, rfl, hl, hk, hf, q⟩ := h
  rw [Vals.ref1 r]
  obtain ⟨its, rv, pl, hz⟩ := I.tuple hl
  have hn : H s.heap.objs.size = none := I.hok.fresh (Nat.le_refl _)
  refine set_of_tuple (P := X.prog) (w := X.w) ks (I.ok.hd hc) (show s.heap.IsTuple l its.toArray from pl) (by simpa using refs_of_vals rv) (fun p hp => I.isT (hk p hp)) hf (by omega) fun h' tk L es ep t R g k => ?_
  refine ⟨.ref s.heap.objs.size, upd H s.heap.objs.size (SetTO X.prog X.w s.heap.objs.size L), I.laid (t' := tk) k (Nat.le_refl _) (setTO_new R.t0), rfl, q _ L hn (fun p hp => ?_) fun p hp => ?_⟩
  · exact List.mem_of_mem_take (g.sub p hp)
  · exact g.all p (by rw [List.take_length]; exact hp)
end WW


set_option maxHeartbeats 2000000

namespace WW
open PySem PySem.Spec PyProof.Rows L2
theorem PairsL.same {H H' : Hp} {bs : List Addr} {ps : List (Int × Int)} (h : PairsL H bs ps) (s : Same H H') : PairsL H' bs ps := Paired.mapP h fun _ _ e => s _ _ e
def zipP (bs : List Addr) (ps : List (Int × Int)) : List (Addr × List Int) := (bs.zip ps).map fun p => (p.1, [p.2.1, p.2.2])
theorem zipP_refs : ∀ {bs : List Addr} {ps : List (Int × Int)}, bs.length = ps.length → bs.map V.ref = (zipP bs ps).map fun p => V.ref p.1
  | [], [], _ => rfl
  | b :: bs, p :: ps, h => by
    have ih := zipP_refs (bs := bs) (ps := ps) (by simpa using h)
    rw [List.map_cons, ih]
    rfl
  | [], _ :: _, h => by simp at h
  | _ :: _, [], h => by simp at h
theorem zipP_at {H : Hp} : ∀ {bs : List Addr} {ps : List (Int × Int)}, PairsL H bs ps → ∀ p ∈ zipP bs ps, H p.1 = some (.tup (p.2.map V.int))
  | _, _, .nil, p, hp => by simp [zipP] at hp
  | _, _, .cons h t, p, hp => by
    rcases List.mem_cons.mp hp with rfl | hp
    · exact h
    · exact zipP_at t p hp
theorem zipP_snd : ∀ {bs : List Addr} {ps : List (Int × Int)}, bs.length = ps.length → (zipP bs ps).map (·.2) = ps.map fun p => [p.1, p.2]
  | [], [], _ => rfl
  | b :: bs, p :: ps, h => by
    have ih := zipP_snd (bs := bs) (ps := ps) (by simpa using h)
    show [p.1, p.2] :: (zipP bs ps).map (·.2) = _
    rw [ih]
    rfl
  | [], _ :: _, h => by simp at h
  | _ :: _, [], h => by simp at h
theorem nodup_of_map {α β : Type} (f : α → β) {l : List α} (h : (l.map f).Nodup) : l.Nodup := by
  rw [List.nodup_iff_pairwise_ne, List.pairwise_map] at h
  exact List.nodup_iff_pairwise_ne.mpr (List.Pairwise.imp (fun hn e => hn (by rw [e])) h)
/-! over a list or a tuple that stays -/
section
variable {K : PySem.W.Frag} {H : Hp} {σ : L2.St} {a : Addr} {xs : List V} {i : Nat} {g : TG} {tt : TT} {vs : List Nat} {Q : VK}
def iSeq (K : PySem.W.Frag) (t : TE) : TI := fun σ H R => iList K t σ H R ∨ iTup K t σ H R
theorem pi_seq {X : Cx} {tg e : Expr} {t : TE} (h : PE X e t) : PI X tg e (iSeq X.K t) := PI.or (pi_list h) (pi_tup h)
theorem tlc_seq {te : TE} (hv : σ[i]? = some (some (.ref a))) (ha : H a = some (.lst xs) ∨ H a = some (.tup xs)) (Pv : Addr → Nat → Hp → Prop) (h0 : ∀ D, H D = none → Pv D 0 (upd H D (.lst []))) (hl : ∀ D j H', Pv D j H' → Same H H')
    (hs : ∀ D j x H', H D = none → xs[j]? = some x → Pv D j H' → g x (wipe σ vs) H' fun σ2 H2 => wipe σ2 vs = wipe σ vs ∧ tt σ2 H2 fun b H3 =>
      if b = true then te σ2 H3 fun y H4 => ∃ acc, H4 D = some (.lst acc) ∧ acc.length < sizeLine ∧ Pv D (j + 1) (upd H4 D (.lst (acc ++ [y]))) else Pv D (j + 1) H3) (hd : ∀ D H', H D = none → Pv D xs.length H' → Q (.ref D) H') :
    tLc (iSeq K (tVar i)) g tt te vs σ H Q := by
  rcases ha with ha | ha
  · exact .inl ⟨_, hv, a, rfl, ⟨_, SqL.of ha⟩, fun D hD => lc_list (K := K) (a := a) (xs := xs) (Pv D) (h0 D hD) (fun j H' _ p => SqL.of (hl _ _ _ p _ _ ha)) (fun j x H' hx p => hs D j x H' hD hx p) fun H' p => hd D H' hD p⟩
  · exact .inr ⟨_, hv, a, rfl, ⟨_, .inl (.inl ha)⟩, fun D hD => lc_tup (K := K) (a := a) (xs := xs) (Pv D) (h0 D hD) (fun j H' _ p => .inl (.inl (hl _ _ _ p _ _ ha))) (fun j x H' hx p => hs D j x H' hD hx p) fun H' p => hd D H' hD p⟩
theorem tdc_seq {P : Program} {w : World} {tk tv : TE} (hv : σ[i]? = some (some (.ref a))) (ha : H a = some (.lst xs) ∨ H a = some (.tup xs)) (Pv : Addr → Nat → Hp → Prop) (h0 : ∀ D u0, H D = none → (∀ kd, DX P w kd (upd H D u0) D []) → Pv D 0 (upd H D u0)) (hl : ∀ D j H', Pv D j H' → Same H H')
    (hs : ∀ D j x H', H D = none → xs[j]? = some x → Pv D j H' → g x (wipe σ vs) H' fun σ2 H2 => wipe σ2 vs = wipe σ vs ∧ tt σ2 H2 fun b H3 =>
      if b = true then tk σ2 H3 fun y H4 => tv σ2 H4 fun z H5 => ∃ kd kvs k, KeyV kd H5 k y ∧ DX P w kd H5 D kvs ∧ kvs.length < sizeLine ∧ ∀ u, DX P w kd (upd H5 D u) D (putK kvs k z) → Pv D (j + 1) (upd H5 D u) else Pv D (j + 1) H3)
    (hd : ∀ D H', H D = none → Pv D xs.length H' → Q (.ref D) H') : tXDc P w (iSeq K (tVar i)) g tt tk tv vs σ H Q := by
  rcases ha with ha | ha
  · refine .inl ⟨_, hv, a, rfl, ⟨_, SqL.of ha⟩, fun D u0 hD h => dc_it (n := xs.length) (Pv D) (h0 D u0 hD h) (fun j H' hj p => ⟨xs, xs[j], SqL.of (hl _ _ _ p _ _ ha), List.getElem?_eq_getElem hj⟩) (fun H' p => ⟨xs, SqL.of (hl _ _ _ p _ _ ha), Nat.le_refl _⟩) (fun j H' x H2 hj p y => ?_) fun H' p => hd D H' hD p⟩
    obtain ⟨rfl, f⟩ := y
    exact hs D j x _ hD (f _ (SqL.of (hl _ _ _ p _ _ ha))) p
  · refine .inr ⟨_, hv, a, rfl, ⟨_, .inl (.inl ha)⟩, fun D u0 hD h => dc_it (n := xs.length) (Pv D) (h0 D u0 hD h) (fun j H' hj p => ⟨xs, xs[j], .inl (.inl (hl _ _ _ p _ _ ha)), List.getElem?_eq_getElem hj⟩) (fun H' p => ⟨xs, .inl (.inl (hl _ _ _ p _ _ ha)), Nat.le_refl _⟩) (fun j H' x H2 hj p y => ?_) fun H' p => hd D H' hD p⟩
    obtain ⟨rfl, f⟩ := y
    exact hs D j x _ hD (f _ (.inl (.inl (hl _ _ _ p _ _ ha)))) p
end
section
variable {P : Program} {w : World} {K : PySem.W.Frag} {mg : Str → Option Value} {base : Heap}
abbrev sUnlike : Stmt := top 38
abbrev nUnlike : List Str := ["value", "one"]
theorem sc38 : FnScope nUnlike ["value"] (defScope sUnlike) := ⟨rfl, rfl, rfl, by decide +kernel, rfl, by decide +kernel, by decide +kernel⟩
def spUnlike : Sp := fun vs H Q _ => ∃ (a : Addr) (bs : List Addr) (ps : List (Int × Int)), vs = [.ref a] ∧ (H a = some (.lst (bs.map V.ref)) ∨ H a = some (.tup (bs.map V.ref))) ∧ PairsL H bs ps ∧ ps.length < 64 ∧
  ∀ H' b, Same H H' → (b = true ↔ ps.Nodup) → Q (.bl b) H'
theorem ok_unlike (B : Blt mg) (D0 : Dn K mg "is_list" sIsList ["value"]) (G0 : FnOk P w K mg base CX0 1 D0.f D0.fd ["value"] (spIsList P w K)) (D : Dn K mg "are_unlike" sUnlike ["value"]) : FnOk P w K mg base CX0 2 D.f D.fd ["value"] spUnlike := by
  refine D.F.ok sc38 (fun vs H Q E h => ?_) (fun cdv A outer s H vs Q E hr h => ?_)
  · obtain ⟨a, bs, ps, rfl, _⟩ := h
    rfl
  · obtain ⟨a, bs, ps, rfl, ha, hb, hz, k⟩ := h
    have ln : bs.length = ps.length := Paired.length hb
    have hu := hr.un
    refine ⟨_, pss_one (ps_ret (pe_and (pe_call G0 hr (by rfl) D0.g D0.F.kp D0.b .nil pass0 (pa_cons (pv 0) pa_nil))
      (pe_and (pe_callB (cr_all rfl) (by rfl) B.all (by decide +kernel) (pa_cons (pe_lc (own := [("one", 1)]) (g := gName 1) (tt := tYes) (te := tCB (rIsF P w K "tuple" fun t => decide (t = Ty7.tup)) (tCons (tVar 1) (tCons (tC (.ty "tuple")) tNil))) (by rfl) sc38.nd (pi_seq (pv 0)) (blkOk_by (own := [("one", 1)]) (N := nUnlike) (sc := defScope sUnlike) (by decide +kernel))
        (fun _ _ _ _ _ => pg_name (i := 1) sc38.nd rfl (Or.inl rfl)) (fun _ _ _ _ _ => pts_nil) (fun _ _ _ _ _ => pe_callB (call_isF kit_tuple) (by rfl) B.isinstance (by decide +kernel) (pa_cons (pv 1) (pa_cons (ty_tuple B (by rfl)) pa_nil)))) pa_nil))
      (pe_one (pe_cmpR op_eq (pe_callB call_lenSetT (by rfl) B.len PySem.boot_len (pa_cons (pe_callTy (CallR.or (cr_setOfT rfl (by show A.units + 3 + 64 < _; have : (A.deeper _).units + 16 * 1 + 200 < cLine := hu; have : A.units + 3 + 16 * 1 + 200 < cLine := this; omega)) (call_setTT rfl (u30 hr))) (by rfl) B.set PyProof.Rows.boot_set (pa_cons (pv 0) pa_nil)) pa_nil))
        (pe_callB call_len_seq (by rfl) B.len PySem.boot_len (pa_cons (pv 0) pa_nil)) (nomark _)))))), ?_⟩
    have hseq : ∀ {H'}, Same H H' → SqL K H' a (bs.map V.ref) ∨ SqT K H' a (bs.map V.ref) := fun s => ha.elim (fun e => .inl (SqL.of (s _ _ e))) fun e => .inr (.inl (.inl (s _ _ e)))
    have ety : ∃ t, IsTy P w K H (.ref a) t ∧ (decide (t = .lst) || decide (t = .tup)) = true := ha.elim (fun e => ⟨.lst, ⟨a, _, rfl, e⟩, rfl⟩) fun e => ⟨.tup, ⟨a, _, rfl, e⟩, rfl⟩
    obtain ⟨t, hty, et⟩ := ety
    refine ⟨_, rfl, _, t, rfl, hty, fun H1 s1 => ⟨_, rfl, ?_⟩⟩
    rw [et]
    refine ys ?_
    have back : ∀ (H' : Hp), Same H H' → ∀ (c : Addr) (L : List (Addr × List Int)), H' c = none → (∀ p ∈ L, p ∈ zipP bs ps) → (∀ p ∈ zipP bs ps, p.2 ∈ L.map (·.2)) → (L.map (·.2)).Nodup →
        Q (.bl (decide (V.int ((L.length : Nat) : Int) = V.int (((bs.map V.ref).length : Nat) : Int)))) (upd H' c (SetTO P w c L)) := fun H' s c L hc h1 h2 nd => by
      refine k _ _ (Same.trans s (same_upd hc)) ?_
      rw [decide_eq_true_eq]
      have q1 : ∀ x ∈ L.map (·.2), x ∈ (zipP bs ps).map (·.2) := fun x hx => by
        obtain ⟨p, hp, rfl⟩ := List.mem_map.mp hx
        exact List.mem_map.mpr ⟨p, h1 p hp, rfl⟩
      have q2 : ∀ x ∈ (zipP bs ps).map (·.2), x ∈ L.map (·.2) := fun x hx => by
        obtain ⟨p, hp, rfl⟩ := List.mem_map.mp hx
        exact h2 p hp
      have q3 := nodup_len nd q1 q2
      rw [zipP_snd ln] at q3
      rw [List.length_map, List.length_map] at q3
      rw [List.length_map, ln]
      constructor
      · intro e
        have e := V.int.inj e
        exact nodup_of_map _ (q3.mp (by omega))
      · intro n
        have := q3.mpr (nodup_map_inj (fun a b e => by
          injection e with e1 e2
          injection e2 with e2 _
          exact Prod.ext e1 e2) n)
        rw [this]
    unfold tAndV tCB tCons
    refine tlc_seq (a := a) (xs := bs.map V.ref) rfl (ha.elim (fun e => .inl (s1 _ _ e)) fun e => .inr (s1 _ _ e)) (LcF (fun _ => .bl true) H1) (fun D hD => LcF.zero hD) (fun D j H' p => p.1) (fun D j x H' hD hx p => ?_) fun D H' hD p => ?_
    · rw [List.getElem?_map] at hx
      obtain ⟨b, hb0, rfl⟩ := Option.map_eq_some_iff.mp hx
      obtain ⟨q, hq, hbq⟩ := paired_get1 hb hb0
      have hj : j < bs.length := (List.getElem?_eq_some_iff.mp hb0).1
      exact ⟨rfl, yes ⟨_, rfl, _, .tup, rfl, ⟨b, _, rfl, p.1 _ _ (s1 _ _ hbq)⟩, p.step hD (small1000 (by omega)) (fun _ _ e => e) rfl⟩⟩
    · rw [List.length_map] at p
      refine ⟨D, (List.range bs.length).map fun _ => true, rfl, SqL.of (by rw [p.2, List.map_map]; rfl), ?_⟩
      rw [List.all_eq_true.mpr (by simp)]
      have s2 := Same.trans s1 p.1
      have hks : ∀ q ∈ zipP bs ps, SqT K H' q.1 (q.2.map V.int) := fun q hq => .inl (.inl (s2 _ _ (zipP_at hb q hq)))
      have hlz : (zipP bs ps).length < 64 := by
        have := congrArg List.length (zipP_refs ln)
        rw [List.length_map, List.length_map] at this
        omega
      refine ⟨_, rfl, ys ?_⟩
      refine ⟨_, rfl, ?_⟩
      have core : ∀ (c : Addr) (L : List (Addr × List Int)), H' c = none → (∀ p ∈ L, p ∈ zipP bs ps) → (∀ p ∈ zipP bs ps, p.2 ∈ L.map (·.2)) → ∀ p ∈ L, (upd H' c (SetTO P w c L)) p.1 = some (.tup (p.2.map V.int)) := fun c L hc h1 h2 p hp => same_upd hc _ _ (s2 _ _ (zipP_at hb p (h1 p hp)))
      have three : ∀ (c : Addr) (L : List (Addr × List Int)), H' c = none → SqL K (upd H' c (SetTO P w c L)) a (bs.map V.ref) ∨ SqT K (upd H' c (SetTO P w c L)) a (bs.map V.ref) := fun c L hc => hseq (Same.trans s2 (same_upd hc))
      rcases ha with ha | ha
      · refine .inl ⟨a, zipP bs ps, rfl, ?_, hks, hlz, fun c L hc h1 h2 => ⟨c, L, rfl, upd_same, core c L hc h1 h2, fun nd => ⟨_, rfl, a, _, rfl, three c L hc, rfl, back H' s2 c L hc h1 h2 nd⟩⟩⟩
        rw [← zipP_refs ln]
        exact SqL.of (s2 _ _ ha)
      · refine .inr ⟨a, zipP bs ps, rfl, ?_, hks, hlz, fun c L hc h1 h2 => ⟨c, L, rfl, upd_same, core c L hc h1 h2, fun nd => ⟨_, rfl, a, _, rfl, three c L hc, rfl, back H' s2 c L hc h1 h2 nd⟩⟩⟩
        rw [← zipP_refs ln]
        exact .inl (.inl (s2 _ _ ha))
end
end WW


set_option maxHeartbeats 2000000

namespace WW
open PySem PySem.Spec PyProof.Rows L2
/-- from the pair the machine stays in ps -/
def Stays (A B : List IRow) (ps : List (Int × Int)) (p : Int × Int) : Prop := ∀ l g, stepR A p.1 l = some g → ∃ f, stepR B p.2 l = some f ∧ (g, f) ∈ ps
def seqOf : PyData → Option (List PyData)
  | .list ds => some ds
  | .tuple ds => some ds
  | _ => none
def pkD (p : Int × Int) : PyData := .tuple [.int p.1, .int p.2]
/-- what is_within_table says -/
def IsTab (A B : List IRow) (d : PyData) : Prop := ∃ ps : List (Int × Int), seqOf d = some (ps.map pkD) ∧ (∀ p ∈ ps, 0 ≤ p.1 ∧ p.1 < (A.length : Int) ∧ 0 ≤ p.2 ∧ p.2 < (B.length : Int)) ∧ ps.Nodup ∧ (0, 0) ∈ ps ∧ ∀ p ∈ ps, Stays A B ps p
theorem plD_true {n : Nat} {d : PyData} (h : plD n d = true) : ∃ i : Int, d = .int i ∧ 0 ≤ i ∧ i < (n : Int) := by
  cases d with
  | int i =>
    have h : (decide (0 ≤ i) && decide (i < (n : Int))) = true := h
    rw [Bool.and_eq_true, decide_eq_true_eq, decide_eq_true_eq] at h
    exact ⟨i, rfl, h⟩
  | _ => cases h
theorem prD_true {n m : Nat} {d : PyData} (h : prD n m d = true) : ∃ p : Int × Int, d = pkD p ∧ 0 ≤ p.1 ∧ p.1 < (n : Int) ∧ 0 ≤ p.2 ∧ p.2 < (m : Int) := by
  unfold prD at h
  split at h
  · rw [Bool.and_eq_true] at h
    obtain ⟨i, rfl, h1, h2⟩ := plD_true h.1
    obtain ⟨j, rfl, h3, h4⟩ := plD_true h.2
    exact ⟨(i, j), rfl, h1, h2, h3, h4⟩
  · cases h
theorem prD_pk {n m : Nat} {p : Int × Int} (h : 0 ≤ p.1 ∧ p.1 < (n : Int) ∧ 0 ≤ p.2 ∧ p.2 < (m : Int)) : prD n m (pkD p) = true := by
  simp [prD, pkD, plD, h]
theorem prs_all {n m : Nat} : ∀ {ds : List PyData}, ds.all (prD n m) = true → ∃ ps : List (Int × Int), ds = ps.map pkD ∧ ∀ p ∈ ps, 0 ≤ p.1 ∧ p.1 < (n : Int) ∧ 0 ≤ p.2 ∧ p.2 < (m : Int)
  | [], _ => ⟨[], rfl, fun _ h => nomatch h⟩
  | d :: ds, h => by
    rw [List.all_cons, Bool.and_eq_true] at h
    obtain ⟨p, rfl, hp⟩ := prD_true h.1
    obtain ⟨ps, rfl, hps⟩ := prs_all h.2
    refine ⟨p :: ps, rfl, fun q hq => ?_⟩
    rcases List.mem_cons.mp hq with rfl | hq
    · exact hp
    · exact hps q hq
theorem pkD_inj {p q : Int × Int} (h : pkD p = pkD q) : p = q := by
  unfold pkD at h
  injection h with h
  injection h with h1 h2
  injection h2 with h2 _
  injection h1 with h1
  injection h2 with h2
  exact Prod.ext h1 h2
theorem tab_pairs {A B : List IRow} {d : PyData} {ps : List (Int × Int)} (h : seqOf d = some (ps.map pkD)) (hr : ∀ p ∈ ps, 0 ≤ p.1 ∧ p.1 < (A.length : Int) ∧ 0 ≤ p.2 ∧ p.2 < (B.length : Int)) : IsTab A B d ↔ ps.Nodup ∧ (0, 0) ∈ ps ∧ ∀ p ∈ ps, Stays A B ps p := by
  constructor
  · rintro ⟨qs, h2, _, h3⟩
    rw [h] at h2
    have : ps = qs := (List.map_inj_right (fun _ _ => pkD_inj)).mp (Option.some.inj h2)
    rw [this]
    exact h3
  · rintro h3
    exact ⟨ps, h, hr, h3⟩
theorem tab_not {A B : List IRow} {d : PyData} {ds : List PyData} (h : seqOf d = some ds) (hn : ds.all (prD A.length B.length) = false) : ¬ IsTab A B d := by
  rintro ⟨ps, h2, h3, _⟩
  rw [h] at h2
  rw [Option.some.inj h2, Bool.eq_false_iff] at hn
  refine hn (List.all_eq_true.mpr fun x hx => ?_)
  obtain ⟨p, hp, rfl⟩ := List.mem_map.mp hx
  exact prD_pk (h3 p hp)
section
variable {P : Program} {w : World}
theorem DRs.pairs {H : Hp} : ∀ {ps : List (Int × Int)} {ys : List V}, DRs P w H (ps.map pkD) ys → ∃ bs, ys = bs.map V.ref ∧ PairsL H bs ps
  | [], ys, h => by cases h; exact ⟨[], rfl, .nil⟩
  | p :: ps, ys, h => by
    obtain ⟨y, r, rfl, h1, h2⟩ := h
    obtain ⟨bs, rfl, hb⟩ := DRs.pairs h2
    obtain ⟨a, zs, rfl, ha, z1, r1, rfl, e1, z2, r2, rfl, e2, e3⟩ := h1
    cases e1
    cases e2
    cases e3
    exact ⟨a :: bs, rfl, .cons ha hb⟩
theorem DR.seq {H : Hp} {d : PyData} {v : V} {ds : List PyData} (h : DR P w H d v) (e : seqOf d = some ds) : ∃ a ys, v = .ref a ∧ (H a = some (.lst ys) ∨ H a = some (.tup ys)) ∧ DRs P w H ds ys := by
  cases d with
  | list xs => cases e; obtain ⟨a, ys, rfl, h1, h2⟩ := h; exact ⟨a, ys, rfl, .inl h1, h2⟩
  | tuple xs => cases e; obtain ⟨a, ys, rfl, h1, h2⟩ := h; exact ⟨a, ys, rfl, .inr h1, h2⟩
  | _ => cases e
end
noncomputable def pB (p : Prop) : Bool := @decide p (Classical.propDecidable p)
theorem pB_true {p : Prop} : pB p = true ↔ p := @decide_eq_true_iff p (Classical.propDecidable p)
theorem pB_of {p : Prop} {b : Bool} (h : b = true ↔ p) : b = pB p := by
  rw [Bool.eq_iff_iff, h, pB_true]
section
variable {P : Program} {w : World} {K : PySem.W.Frag} {mg : Str → Option Value} {base : Heap}
abbrev sGW : Stmt := top 41
abbrev nGW : List Str := ["one", "other", "pair", "some", "letter", "goal"]
theorem sc41 : FnScope nGW ["one", "other", "pair", "some"] (defScope sGW) := ⟨rfl, rfl, rfl, by decide +kernel, rfl, by decide +kernel, by decide +kernel⟩
def spGW (P : Program) (w : World) (C : Addr) : Sp := fun vs H Q _ => ∃ (p q b sd : Addr) (d : Nat) (A B : List IRow) (ij : Int × Int) (kvs : List (NestedKey × V)) (ps : List (Int × Int)), vs = [.ref p, .ref q, .ref b, .ref sd] ∧ PatAt P w C H p d A ∧ PatAt P w C H q d B ∧ GoesOk d A ∧ GoesOk d B ∧
  H b = some (.tup [.int ij.1, .int ij.2]) ∧ (0 ≤ ij.1 ∧ ij.1 < (A.length : Int) ∧ 0 ≤ ij.2 ∧ ij.2 < (B.length : Int)) ∧ DX P w .t H sd kvs ∧ kvs.map (·.1) = ps.map pkI ∧ ∀ H' c, Same H H' → (c = true ↔ Stays A B ps ij) → Q (.bl c) H'
theorem has_keys {kvs : List (NestedKey × V)} {ps : List (Int × Int)} (h : kvs.map (·.1) = ps.map pkI) (p : Int × Int) : (valV kvs (pkI p)).isSome = decide (p ∈ ps) := by
  by_cases e : p ∈ ps
  · rw [decide_eq_true e]
    exact valV_mem (by rw [h]; exact List.mem_map.mpr ⟨p, e, rfl⟩)
  · rw [decide_eq_false e, valV_not_mem]
    · rfl
    · rw [h]
      intro z
      obtain ⟨q, hq, e2⟩ := List.mem_map.mp z
      rw [pkI_inj e2] at hq
      exact e hq
theorem ok_gw {C : Addr} (T : PatC K mg C) (D : Dn K mg "goes_within" sGW ["one", "other", "pair", "some"]) : FnOk P w K mg base CX0 1 D.f D.fd ["one", "other", "pair", "some"] (spGW P w C) := by
  refine D.F.ok sc41 (fun vs H Q E h => ?_) (fun cdv A outer s H vs Q E hr h => ?_)
  · obtain ⟨p, q, b, sd, d, A, B, ij, kvs, ps, rfl, _⟩ := h
    rfl
  · obtain ⟨p, q, b, sd, d, A, B', ij, kvs, ps, rfl, hp, hq, okA, okB, hb, ⟨i0, i1, j0, j1⟩, hdx, hk, k⟩ := h
    refine ⟨_, pss_cons (ps_for PassesOwn.never rfl (pi_xi (pe_row T (pv 0) (pe_ix ix_tup (pv 2) pe_int (fun _ _ => rfl)))) (pg_tup rfl (pgs_cons (pg_name (i := 4) sc41.nd rfl (.inl rfl)) (pgs_cons (pg_name (i := 5) sc41.nd rfl (.inl rfl)) pgs_nil)))
        (pss_one (ps_if (pw_or (pt_cmp (pc_xnotin (u9 hr) (pv 4) (pe_row T (pv 1) (pe_ix ix_tup (pv 2) pe_int (fun _ _ => rfl)))))
          (pw_or1 (pt_cmp (pc_xnotin (u9 hr) (pe_tup (pa_cons (pv 5) (pa_cons (pe_xget (u9 hr) (pe_row T (pv 1) (pe_ix ix_tup (pv 2) pe_int (fun _ _ => rfl))) (pv 4) (fun _ _ => rfl)) pa_nil))) (pv 3))))).pt (pss_one (ps_ret pe_bl)) pss_nil)))
      (pss_one (ps_ret pe_bl)), ?_⟩
    obtain ⟨ni, eni, hni⟩ := rowAt_some i0 i1
    obtain ⟨nj, enj, hnj⟩ := rowAt_some j0 j1
    obtain ⟨o1, o2, o3, o4⟩ := okA.row i0 i1
    refine ⟨_, rfl, p, d, A, H, rfl, hp, fun _ _ e => e, _, rfl, b, _, 0, .int ij.1, rfl, rfl, .inl (.inl hb), atI_nat (j := 0) rfl, fun _ _ e => e, ni, _, by rw [eni], hni, fun rb hrb => ?_⟩
    have hrb : DX P w .t H rb (rowKv (rowAt A ij.1)) := hrb
    obtain ⟨o, d1⟩ := hrb.one
    refine ⟨rb, .t, o, _, rfl, d1, for_it (n := (rowAt A ij.1).length) (fun m σ H' => Same H H' ∧ ∃ x4 x5, σ = [some (.ref p), some (.ref q), some (.ref b), some (.ref sd), x4, x5] ∧ ∀ pl ∈ (rowAt A ij.1).take m, ∃ f, stepR B' ij.2 pl.1 = some f ∧ (pl.2, f) ∈ ps)
      ⟨fun _ _ e => e, none, none, rfl, by simp⟩ (fun m σ H' hm pv => ⟨d1.same pv.1, by rw [rowKv_len]; exact hm⟩) (fun σ H' pv => ⟨d1.same pv.1, by rw [rowKv_len]; exact Nat.le_refl _⟩) (fun m σ H' x H2 hm pv y => ?_) fun σ H' pv => ?_⟩
    · obtain ⟨T0, k0, v0, y0, hk0', ky0, rfl, hT, rfl⟩ := y
      obtain ⟨pl, hpl, rfl, rfl⟩ := rowKv_get hk0'
      obtain ⟨s1, x4, x5, rfl, hall⟩ := pv
      have s2 : Same H (upd H' T0 (.tup [y0, .int pl.2])) := Same.trans s1 (same_upd hT)
      have ky0 := KeyV.mono (Tups.of_same (same_upd (o := .tup [y0, .int pl.2]) hT)) ky0
      have hTe : (upd H' T0 (.tup [y0, .int pl.2])) T0 = some (.tup [y0, .int pl.2]) := upd_same
      obtain ⟨H2, hH2⟩ : ∃ H2, upd H' T0 (.tup [y0, .int pl.2]) = H2 := ⟨_, rfl⟩
      rw [hH2] at s2 ky0 hTe ⊢
      obtain ⟨c0, rfl, hc0⟩ := keyV_lk.mp ky0
      have st1 : stepR A ij.1 pl.1 = some pl.2 := at1_mem o2 (List.mem_of_getElem? hpl)
      refine ⟨T0, _, rfl, .inl (.inl hTe), rfl, _, _, rfl, _, _, rfl, rfl, ?_⟩
      refine ⟨_, rfl, _, rfl, q, d, B', H, rfl, hq, s2, _, rfl, b, _, 1, .int ij.2, rfl, rfl, .inl (.inl (s2 _ _ hb)), atI_nat (j := 1) rfl, fun _ _ e => e, nj, _, by rw [enj], hnj, fun rc hrc => ?_⟩
      have hrc : DX P w .t H rc (rowKv (rowAt B' ij.2)) := hrc
      refine ⟨rc, .t, _, lk pl.1, rfl, hrc.same s2, ky0, _, rfl, ?_⟩
      rw [rowKv_val, Option.isSome_map]
      cases es : at1 (rowAt B' ij.2) pl.1 with
      | none =>
        have es : stepR B' ij.2 pl.1 = none := es
        refine ys (ys (k _ _ s2 ?_))
        constructor
        · intro z
          cases z
        · intro z
          obtain ⟨f, e1, _⟩ := z _ _ st1
          rw [es] at e1
          cases e1
      | some f =>
        have es : stepR B' ij.2 pl.1 = some f := es
        refine no ?_
        refine ⟨_, rfl, _, rfl, q, d, B', H, rfl, hq, s2, _, rfl, b, _, 1, .int ij.2, rfl, rfl, .inl (.inl (s2 _ _ hb)), atI_nat (j := 1) rfl, fun _ _ e => e, nj, _, by rw [enj], hnj, fun rc2 hrc2 => ?_⟩
        have hrc2 : DX P w .t H rc2 (rowKv (rowAt B' ij.2)) := hrc2
        refine ⟨_, rfl, rc2, .t, _, lk pl.1, .int f, rfl, hrc2.same s2, ky0, (by rw [rowKv_val, show at1 (rowAt B' ij.2) pl.1 = some f from es]; rfl), le2, fun pr hpr => ?_⟩
        have sp := same_upd (o := .tup [.int pl.2, .int f]) hpr
        have s3 := Same.trans s2 sp
        refine ⟨_, rfl, sd, .t, kvs, pkI (pl.2, f), rfl, hdx.same s3, keyV_lk.mpr ⟨pr, rfl, upd_same⟩, _, rfl, ?_⟩
        rw [has_keys hk]
        by_cases hm2 : (pl.2, f) ∈ ps
        · rw [decide_eq_true hm2]
          refine no ⟨s3, _, _, rfl, fun pl2 h2 => ?_⟩
          rw [List.take_add_one, hpl] at h2
          rcases List.mem_append.mp h2 with h2 | h2
          · exact hall _ h2
          · have e2 : pl2 = pl := by simpa using h2
            rw [e2]
            exact ⟨f, es, hm2⟩
        · rw [decide_eq_false hm2]
          refine ys (k _ _ s3 ?_)
          constructor
          · intro z
            cases z
          · intro z
            obtain ⟨f2, e1, e2⟩ := z _ _ st1
            rw [es] at e1
            cases e1
            exact absurd e2 hm2
    · obtain ⟨s1, x4, x5, rfl, hall⟩ := pv
      rw [List.take_length] at hall
      exact k _ _ s1 ⟨fun _ l g h => hall (l, g) (at1_some h), fun _ => rfl⟩
abbrev sIWT : Stmt := top 42
abbrev nIWT : List Str := ["one", "other", "value", "some", "pair"]
theorem sc42 : FnScope nIWT ["one", "other", "value"] (defScope sIWT) := ⟨rfl, rfl, rfl, by decide +kernel, rfl, by decide +kernel, by decide +kernel⟩
/-- what may be asked -/
def ThingOk (d : PyData) : Prop := (∀ ds, seqOf d = some ds → ds.length < 64) ∧ ∀ ds, seqOf d = some ds → ∀ x ∈ ds, ∀ es, x = .tuple es → es.length ≤ 1000
def spIWT (P : Program) (w : World) (C : Addr) : Sp := fun vs H Q _ => ∃ (p q : Addr) (n : Nat) (A B : List IRow) (v : V) (d : PyData), vs = [.ref p, .ref q, v] ∧ PatAt P w C H p n A ∧ PatAt P w C H q n B ∧ GoesOk n A ∧ GoesOk n B ∧ DR P w H d v ∧ ThingOk d ∧
  ∀ H' b, Same H H' → (b = true ↔ IsTab A B d) → Q (.bl b) H'
theorem ok_iwt {C : Addr} (B : Blt mg) (T : PatC K mg C) (D0 : Dn K mg "want_same_width" sSameW ["one", "other"]) (G0 : FnOk P w K mg base CX0 1 D0.f D0.fd ["one", "other"] (spSameW P w C))
    (D1 : Dn K mg "is_list" sIsList ["value"]) (G1 : FnOk P w K mg base CX0 1 D1.f D1.fd ["value"] (spIsList P w K)) (D2 : Dn K mg "is_pair" sIsPair ["one", "other", "value"]) (G2 : FnOk P w K mg base CX0 4 D2.f D2.fd ["one", "other", "value"] (spIsPair P w C))
    (D3 : Dn K mg "are_unlike" sUnlike ["value"]) (G3 : FnOk P w K mg base CX0 2 D3.f D3.fd ["value"] spUnlike) (D4 : Dn K mg "goes_within" sGW ["one", "other", "pair", "some"]) (G4 : FnOk P w K mg base CX0 1 D4.f D4.fd ["one", "other", "pair", "some"] (spGW P w C))
    (D : Dn K mg "is_within_table" sIWT ["one", "other", "value"]) : FnOk P w K mg base CX0 5 D.f D.fd ["one", "other", "value"] (spIWT P w C) := by
  refine D.F.ok sc42 (fun vs H Q E h => ?_) (fun cdv A outer s H vs Q E hr h => ?_)
  · obtain ⟨p, q, n, A, B, v, d, rfl, _⟩ := h
    rfl
  · obtain ⟨p, q, n, A, B', v, d, rfl, hp, hq, okA, okB, hd, hz, k⟩ := h
    refine ⟨_, pss_cons (ps_expr (pe_call G0 (hr.mono (by decide)) (by rfl) D0.g D0.F.kp D0.b .nil pass0 (pa_cons (pv 0) (pa_cons (pv 1) pa_nil))))
      (pss_cons (ps_if (pw_or (pt_not (pt_val (pe_call G1 (hr.mono (by decide)) (by rfl) D1.g D1.F.kp D1.b .nil pass0 (pa_cons (pv 2) pa_nil))))
        (pw_or (pt_not (pt_val (pe_callB (cr_all rfl) (by rfl) B.all (by decide +kernel) (pa_cons (pe_lc (own := [("pair", 4)]) (g := gName 4) (tt := tYes) (by rfl) sc42.nd (pi_seq (pv 2)) (blkOk_by (own := [("pair", 4)]) (N := nIWT) (sc := defScope sIWT) (by decide +kernel))
          (fun _ _ _ _ _ => pg_name (i := 4) sc42.nd rfl (Or.inl rfl)) (fun _ _ _ _ _ => pts_nil) (fun _ _ _ _ _ => pe_call G2 hr (by rfl) D2.g D2.F.kp D2.b .nil pass0 (pa_cons (pv 0) (pa_cons (pv 1) (pa_cons (pv 4) pa_nil))))) pa_nil))))
        (pw_or1 (pt_not (pt_val (pe_call G3 (hr.mono (by decide)) (by rfl) D3.g D3.F.kp D3.b .nil pass0 (pa_cons (pv 2) pa_nil))))))).pt (pss_one (ps_ret pe_bl)) pss_nil)
      (pss_cons (ps_set (i := 3) sc42.nd rfl (.inr rfl) (pe_xdc (own := [("pair", 4)]) (g := gName 4) (tt := tYes) (u9 hr) (by rfl) sc42.nd (pi_seq (pv 2)) (blkOk_by (own := [("pair", 4)]) (N := nIWT) (sc := defScope sIWT) (by decide +kernel))
          (fun _ _ _ _ _ => pg_name (i := 4) sc42.nd rfl (Or.inl rfl)) (fun _ _ _ _ _ => pts_nil) (fun _ _ _ _ _ => pv 4) (fun _ _ _ _ _ => pe_bl)))
      (pss_one (ps_ret (pe_and (pe_cmp (pc_xin (u9 hr) (pe_tup (pa_cons pe_int (pa_cons pe_int pa_nil))) (pv 3)))
        (pe_one (pe_callB (cr_all rfl) (by rfl) B.all (by decide +kernel) (pa_cons (pe_lc (own := [("pair", 4)]) (g := gName 4) (tt := tYes) (by rfl) sc42.nd (pi_seq (pv 2)) (blkOk_by (own := [("pair", 4)]) (N := nIWT) (sc := defScope sIWT) (by decide +kernel))
          (fun _ _ _ _ _ => pg_name (i := 4) sc42.nd rfl (Or.inl rfl)) (fun _ _ _ _ _ => pts_nil) (fun _ _ _ _ _ => pe_call G4 (hr.mono (by decide)) (by rfl) D4.g D4.F.kp D4.b .nil pass0 (pa_cons (pv 0) (pa_cons (pv 1) (pa_cons (pv 4) (pa_cons (pv 3) pa_nil)))))) pa_nil)))))))), ?_⟩
    refine ⟨_, rfl, _, rfl, p, q, n, A, B', rfl, hp, hq, ?_⟩
    refine ⟨_, rfl, v, tyD d, rfl, DR.ty d v hd, fun H1 s1 => ⟨_, rfl, ?_⟩⟩
    cases hsq : seqOf d with
    | none =>
      have e1 : (decide (tyD d = Ty7.lst) || decide (tyD d = Ty7.tup)) = false := by
        cases d <;> first | rfl | cases hsq
      rw [e1]
      refine ys (ys (k _ _ s1 ?_))
      constructor
      · intro z
        cases z
      · rintro ⟨ps, h1, _⟩
        rw [hsq] at h1
        cases h1
    | some ds =>
      have e1 : (decide (tyD d = Ty7.lst) || decide (tyD d = Ty7.tup)) = true := by
        cases d <;> first | rfl | cases hsq
      rw [e1]
      refine no ?_
      obtain ⟨a, yv, rfl, ha, hds⟩ := hd.seq hsq
      have lds : ds.length = yv.length := DRs.len hds
      have hz1 := hz.1 ds hsq
      unfold tOr tNot tB tCB tCons
      refine tlc_seq (a := a) (xs := yv) rfl (ha.elim (fun e => .inl (s1 _ _ e)) fun e => .inr (s1 _ _ e)) (LcF (fun i => .bl (prD A.length B'.length (ds.getD i .none))) H1) (fun D hD => LcF.zero hD) (fun D j H' p => p.1) (fun D j x H' hD hx pf => ?_) fun D H' hD pf => ?_
      · obtain ⟨dx, hdx0, hdx⟩ := hds.get hx
        have s2 := Same.trans s1 pf.1
        have hj : j < yv.length := (List.getElem?_eq_some_iff.mp hx).1
        refine ⟨rfl, yes ⟨_, rfl, _, rfl, _, rfl, p, q, n, A, B', x, dx, rfl, hp.same s2, hq.same s2, DR.same s2 dx x hdx, fun es e => hz.2 ds hsq dx (List.mem_of_getElem? hdx0) es e, ?_⟩⟩
        refine pf.step hD (small1000 (by omega)) (fun _ _ e => e) ?_
        rw [List.getD_eq_getElem?_getD, hdx0]
        rfl
      · have s2 := Same.trans s1 pf.1
        refine ⟨D, ds.map (prD A.length B'.length), rfl, SqL.of ?_, _, rfl, ?_⟩
        · rw [pf.2, ← lds]
          congr 2
          rw [List.map_map]
          refine List.ext_getElem (by simp) fun i h1 h2 => ?_
          simp at h1
          simp [List.getD_eq_getElem?_getD, h1]
        rw [List.all_map]
        show (if (!(ds.all (prD A.length B'.length))) = true then _ else _)
        cases eall : ds.all (prD A.length B'.length) with
        | false =>
          refine ys (ys (k _ _ s2 ?_))
          constructor
          · intro z
            cases z
          · intro z
            exact absurd z (tab_not hsq eall)
        | true =>
          refine no ?_
          obtain ⟨ps, rfl, hps⟩ := prs_all eall
          obtain ⟨bs, rfl, hbs⟩ := hds.pairs
          have ln : bs.length = ps.length := Paired.length hbs
          rw [List.length_map] at hz1
          have hit := tab_pairs (A := A) (B := B') hsq hps
          refine ⟨_, rfl, a, bs, ps, rfl, ha.elim (fun e => .inl (s2 _ _ e)) (fun e => .inr (s2 _ _ e)), hbs.same s2, hz1, fun H3 bu s3 hbu => ⟨_, rfl, ?_⟩⟩
          have s3 := Same.trans s2 s3
          cases bu with
          | false =>
            refine ys (k _ _ s3 ?_)
            constructor
            · intro z
              cases z
            · intro z
              exact absurd (hbu.mpr (hit.mp z).1) (by decide)
          | true =>
            refine no ?_
            have nd := hbu.mp rfl
            unfold tNext tSeq tAsg
            dsimp only
            refine tdc_seq (a := a) (xs := bs.map V.ref) rfl (ha.elim (fun e => .inl (s3 _ _ e)) fun e => .inr (s3 _ _ e)) (fun D j H' => Same H3 H' ∧ ∃ kvs, DX P w .t H' D kvs ∧ kvs.map (·.1) = (ps.take j).map pkI) (fun D u0 hD h => ⟨same_upd hD, [], h .t, rfl⟩) (fun D j H' pj => pj.1) (fun D j x H' hD hx pj => ?_) fun D H' hD pj => ?_
            · rw [List.getElem?_map] at hx
              obtain ⟨b, hb0, rfl⟩ := Option.map_eq_some_iff.mp hx
              obtain ⟨pr, hpr, hbp⟩ := paired_get1 hbs hb0
              have hj : j < bs.length := (List.getElem?_eq_some_iff.mp hb0).1
              obtain ⟨s4, kvs, dx, ek⟩ := pj
              have s5 := Same.trans s3 s4
              have ky : KeyV .t H' (pkI pr) (.ref b) := keyV_lk.mpr ⟨b, rfl, s5 _ _ hbp⟩
              have lkv : kvs.length = min j ps.length := by
                have := congrArg List.length ek
                rw [List.length_map, List.length_map, List.length_take] at this
                exact this
              refine ⟨rfl, yes ⟨_, rfl, .t, kvs, pkI pr, ky, dx, small1000 (by omega), fun u hx2 => ⟨Same.put s4 hD, _, hx2, ?_⟩⟩⟩
              have v0 : valV kvs (pkI pr) = none := valV_not_mem (by
                rw [ek]
                intro z
                obtain ⟨p1, hp1, e1⟩ := List.mem_map.mp z
                rw [pkI_inj e1] at hp1
                obtain ⟨i1, hi1, e2⟩ := List.getElem_of_mem hp1
                rw [List.length_take] at hi1
                rw [List.getElem_take] at e2
                have g1 : ps[i1]? = some pr := by rw [List.getElem?_eq_getElem (by omega), e2]
                have := (List.getElem?_inj (by omega) nd).mp (g1.trans hpr.symm)
                omega)
              rw [putK_new _ v0, List.map_append, ek, List.take_add_one, hpr, List.map_append]
              rfl
            · obtain ⟨s4, kvs, dx, ek⟩ := pj
              rw [List.length_map, ln, List.take_length] at ek
              have s5 := Same.trans s3 s4
              refine ⟨by decide, fun z0 hz0 => ?_⟩
              have sz := same_upd (o := .tup [.int 0, .int 0]) hz0
              refine ⟨_, rfl, D, .t, kvs, pkI (0, 0), rfl, dx.same sz, keyV_lk.mpr ⟨z0, rfl, upd_same⟩, _, rfl, ?_⟩
              have s6 := Same.trans s5 sz
              rw [show (if false = true then (!(valV kvs (pkI (0, 0))).isSome) else (valV kvs (pkI (0, 0))).isSome) = (valV kvs (pkI (0, 0))).isSome from rfl, has_keys ek]
              by_cases h00 : ((0, 0) : Int × Int) ∈ ps
              · rw [decide_eq_true h00]
                refine ys ?_
                refine tlc_seq (a := a) (xs := bs.map V.ref) rfl (ha.elim (fun e => .inl (s6 _ _ e)) fun e => .inr (s6 _ _ e)) (LcF (fun i => .bl (pB (Stays A B' ps (ps.getD i (0, 0))))) (upd H' z0 (.tup [.int 0, .int 0]))) (fun D hD => LcF.zero hD) (fun D j H' p => p.1) (fun D2 j x H5 hD2 hx pf => ?_) fun D2 H5 hD2 pf => ?_
                · rw [List.getElem?_map] at hx
                  obtain ⟨b, hb0, rfl⟩ := Option.map_eq_some_iff.mp hx
                  obtain ⟨pr, hpr, hbp⟩ := paired_get1 hbs hb0
                  have hj : j < bs.length := (List.getElem?_eq_some_iff.mp hb0).1
                  have s7 := Same.trans s6 pf.1
                  refine ⟨rfl, yes ⟨_, rfl, _, rfl, _, rfl, _, rfl, p, q, b, D, n, A, B', pr, kvs, ps, rfl, hp.same s7, hq.same s7, okA, okB, s7 _ _ hbp, hps pr (List.mem_of_getElem? hpr), dx.same (Same.trans sz pf.1), ek, fun H6 c s8 hc => ?_⟩⟩
                  refine pf.step hD2 (small1000 (by omega)) s8 ?_
                  rw [pB_of hc, List.getD_eq_getElem?_getD, hpr]
                  rfl
                · rw [List.length_map, ln] at pf
                  refine ⟨D2, ps.map fun pr => pB (Stays A B' ps pr), rfl, SqL.of ?_, k _ _ (Same.trans s6 pf.1) ?_⟩
                  · rw [pf.2]
                    congr 2
                    rw [List.map_map]
                    refine List.ext_getElem (by simp) fun i h1 h2 => ?_
                    simp at h1
                    simp [List.getD_eq_getElem?_getD, h1]
                  · rw [List.all_eq_true, hit]
                    constructor
                    · intro z
                      refine ⟨nd, h00, fun pr hpr => pB_true.mp (z _ (List.mem_map.mpr ⟨pr, hpr, rfl⟩))⟩
                    · rintro ⟨_, _, z⟩ x hx
                      obtain ⟨pr, hpr, rfl⟩ := List.mem_map.mp hx
                      exact pB_true.mpr (z pr hpr)
              · rw [decide_eq_false h00]
                refine no (k _ _ s6 ?_)
                constructor
                · intro z
                  cases z
                · intro z
                  exact absurd (hit.mp z).2.1 h00
end
end WW


set_option maxHeartbeats 2000000

namespace WW
open PySem PySem.Spec PyProof.Rows L2
/-! d.get(k) -/
section
variable {X : Cx} {o e : Expr} {apos cpos : Pos} {td ty : TE}
def tXGet1 (P : Program) (w : World) (td ty : TE) : TE := fun σ H Q => td σ H fun x H1 => ∃ a, x = .ref a ∧ (∃ kd kvs, DX P w kd H1 a kvs) ∧ ty σ H1 fun y H2 => ∃ kd kvs k, DX P w kd H2 a kvs ∧ KeyV kd H2 k y ∧ Q ((valV kvs k).getD .non) H2
theorem x_get1 {pins : List (Addr × Obj)} {σ : L2.St} {H : Hp} {s : Shared} {a : Addr} {y : V} {u : Value} {k : NestedKey} {kd : Kd} {kvs : List (NestedKey × V)} {A : Around} {E : Value → Shared → Prop} {Q : Value → Shared → Prop}
    (hu : A.units + 9 < cLine) (I : Inv X pins σ H s) (x : DX X.prog X.w kd H a kvs) (hk : KeyV kd H k y) (ry : RelV y u) (h : ∀ w' s', Inv X pins σ H s' → RelV ((valV kvs k).getD .non) w' → Q w' s') :
    wpAny (model X.prog X.w) A (call (.builtin "dict.get") [.ref a, u]) Q E s := by
  cases kd with
  | i =>
    obtain ⟨n, rfl, rfl⟩ := hk
    obtain ⟨t, rfl⟩ := (show ∃ t, u = Value.int n t from ry)
    obtain ⟨vs, rel, dd, hs, _⟩ := x.raw_i I.hok
    refine call_meetsIn PySem.F.slot_dict_get dd.typeIs PySem.F.entry_dict_get (PySem.F.args_dict_get_2 _ _) (meets_dict_get (intKind X.prog X.w) a (intKind_is _ _ n t) hs) ⟨_, dd.mapOf, h _ _ (I.tok _) ?_⟩
    exact (rel.val n).getD rfl
  | t =>
    obtain ⟨b, rfl, hn, hd⟩ := hk
    cases (show u = Value.ref b from ry)
    obtain ⟨xs, rel, dd, hs, _⟩ := x.raw_t I.hok
    refine call_meetsIn PySem.F.slot_dict_get dd.typeIs PySem.F.entry_dict_get (PySem.F.args_dict_get_2 _ _) (meetsH_dict_get (nestedKind X.prog X.w) a b hs) ⟨by show A.units + 1 + 8 < cLine; omega, k, xs, ⟨NV.is I.hok _ _ _ hn rfl, hd⟩, dd, h _ _ (I.tok _) ?_⟩
    exact (rel.val k).getD rfl
theorem pe_xget1 (hu : X.A.units + 9 < cLine) (ho : PE X o td) (he : PE X e ty) (m : M1 X o "get" apos e cpos) : PE X (.Call (.Attribute o "get" apos) [e] [] cpos) (tXGet1 X.prog X.w td ty) := by
  refine ⟨fun pins s σ H Q I h => ?_⟩
  refine wpAny_Call_method m.base m.few m.line PySem.F.plainAttrs_dict PySem.F.slot_dict_get PySem.F.type_dict_get (thn (ho.run pins s σ H _ I h) fun u s1 ⟨x, H1, I1, rx, a, ex, ⟨kd, kvs, d⟩, q1⟩ => ?_)
  subst ex
  obtain rfl : u = Value.ref a := rx
  obtain ⟨ob, d1⟩ := d.one
  obtain ⟨hs, es, ep, hdt, hmm, hz, ent⟩ := d1.ents I1
  refine ⟨hmm.typeIs, noDict_raw hmm, ?_⟩
  rw [m.trees]
  refine Calls.callWith_builtin rfl (Calls.evalArgs_plain (Calls.spliced_cons (thn (he.run pins s1 σ H1 _ I1 q1) fun iv s2 ⟨y, H2, I2, ry, kd2, kvs2, k, d2, hk, q2⟩ => Calls.spliced_nil ?_)))
  exact x_get1 hu I2 d2 hk ry fun w' s3 I3 rw' => ⟨_, H2, I3, rw', q2⟩
/-! sorted(set), the set's items known to be unlike -/
def rSrtS (P : Program) (w : World) : List V → Hp → VK → Prop := fun vs H Q => ∃ (a : Addr) (L : List (Addr × List Int)), vs = [.ref a] ∧ H a = some (SetTO P w a L) ∧ (∀ p ∈ L, H p.1 = some (.tup (p.2.map V.int))) ∧ ((L.map (·.2)).Nodup →
  SortOk (L.map fun p => .tup (p.2.map .num)) ∧ ∀ p (ys : List V) (ks' : List NestedKey), H p = none → ks'.Perm (L.map fun p => .tup (p.2.map .num)) → ks'.Pairwise (fun x y => keyLe x y = true) → Paired (NV H) ks' ys → Q (.ref p) (upd H p (.lst ys)))
theorem call_srtS (hc : X.calm = true) (hu : X.A.units + 30 < cLine) : CallR X (.builtin "sorted") (rSrtS X.prog X.w) := by
  intro pins s σ H xs us Q I r h
  obtain ⟨a, L, rfl, ha, hk, q⟩ := h
  have R0 : SetT0 X.prog X.w s.heap a L := (I.hok a _ ha).1
  obtain ⟨es, ep, t, R⟩ := R0.full fun p hp => I.isT (SqT.of (hk p hp))
  obtain ⟨q1, q2⟩ := q R.nd
  exact call_srt hc hu pins s σ H _ us Q I r ⟨a, _, rfl, .inr (.inr ⟨L, ha, hk, rfl⟩), q1, q2⟩
end
/-! rows whose goals are keys -/
abbrev GRow := List (Ltr × NestedKey)
def RowG (P : Program) (w : World) (kd : Kd) (H : Hp) (a : Addr) (r : GRow) : Prop := ∃ kvs, DX P w .t H a kvs ∧ Paired (fun (q : NestedKey × V) (p : Ltr × NestedKey) => q.1 = lk p.1 ∧ KeyV kd H p.2 q.2) kvs r
def oN : Option Int → NestedKey
  | none => .none
  | some i => .num i
/-- two places, either may be missing -/
def pko (p : Option Int × Option Int) : NestedKey := .tup [oN p.1, oN p.2]
theorem oN_nv {H : Hp} {o : Option Int} : NV H (oN o) (oV o) := by
  cases o <;> rfl
theorem oN_inj {a b : Option Int} (h : oN a = oN b) : a = b := by
  cases a <;> cases b <;> first | rfl | (injection h with h; subst h; rfl) | cases h
theorem pko_inj {p q : Option Int × Option Int} (h : pko p = pko q) : p = q := by
  unfold pko at h
  injection h with h
  injection h with h1 h2
  injection h2 with h2 _
  exact Prod.ext (oN_inj h1) (oN_inj h2)
theorem keyV_pko {H : Hp} {p : Option Int × Option Int} {y : V} : KeyV .t H (pko p) y ↔ ∃ b, y = .ref b ∧ H b = some (.tup [oV p.1, oV p.2]) := by
  constructor
  · rintro ⟨b, rfl, ⟨c, xs, e, hc, y1, r1, rfl, e1, y2, r2, rfl, e2, e3⟩, _⟩
    cases e
    refine ⟨b, rfl, ?_⟩
    obtain ⟨i, j⟩ := p
    cases e3
    have e1 : NV H (oN i) y1 := e1
    have e2 : NV H (oN j) y2 := e2
    have f : ∀ (o : Option Int) (v : V), NV H (oN o) v → v = oV o := fun o v h => by
      cases o <;> exact h
    rw [hc, f i y1 e1, f j y2 e2]
  · rintro ⟨b, rfl, h⟩
    refine ⟨b, rfl, ⟨b, _, rfl, h, _, _, rfl, oN_nv, _, _, rfl, oN_nv, rfl⟩, ?_⟩
    obtain ⟨i, j⟩ := p
    cases i <;> cases j <;> simp [pko, oN, NestedKey.depth, NestedKey.depthAll]
theorem RowG.same {P : Program} {w : World} {kd : Kd} {H H' : Hp} {a : Addr} {r : GRow} (h : RowG P w kd H a r) (s : Same H H') : RowG P w kd H' a r := let ⟨kvs, d, p⟩ := h; ⟨kvs, d.same s, Paired.mapP p fun _ _ ⟨e, x⟩ => ⟨e, x.mono (Tups.of_same s)⟩⟩
/-- the row of a place that may be missing -/
def opRow (rows : List IRow) : Option Int → IRow
  | none => []
  | some i => rowAt rows i
def InR (n : Nat) (o : Option Int) : Prop := ∀ i, o = some i → 0 ≤ i ∧ i < (n : Int)
/-- where a letter leads from two places -/
def prF (both : Bool) (A B : List IRow) (p : Option Int × Option Int) (l : Ltr) : Option (Option Int × Option Int) :=
  match at1 (opRow A p.1) l, at1 (opRow B p.2) l with
  | none, none => none
  | some x, some y => some (some x, some y)
  | x, y => if both then none else some (x, y)
abbrev GP (kd : Kd) (H : Hp) : List (NestedKey × V) → GRow → Prop := Paired fun q p => q.1 = lk p.1 ∧ KeyV kd H p.2 q.2
theorem GP.keys {kd : Kd} {H : Hp} {kvs : List (NestedKey × V)} {r : GRow} (h : GP kd H kvs r) : kvs.map (·.1) = (r.map (·.1)).map lk := by
  rw [List.map_map]
  exact paired_map1 (fun a b x => x.1) h
theorem GP.val {kd : Kd} {H : Hp} {kvs : List (NestedKey × V)} {r : GRow} (h : GP kd H kvs r) (l : Ltr) : match at1 r l with
    | none => valV kvs (lk l) = none
    | some g => ∃ y, valV kvs (lk l) = some y ∧ KeyV kd H g y := by
  induction h with
  | nil => exact rfl
  | @cons q p qs ps h1 _ ih =>
    by_cases e : p.1 = l
    · rw [at1_pos e]
      exact ⟨q.2, valV_pos (by rw [h1.1, e]), h1.2⟩
    · rw [at1_neg e, valV_neg (fun z => e (lk_inj (h1.1.symm.trans z)))]
      exact ih
theorem RowG.push {P : Program} {w : World} {kd : Kd} {H : Hp} {D : Addr} {kvs : List (NestedKey × V)} {r : GRow} {l : Ltr} {g : NestedKey} {y : V} {u : HO} (h : DX P w .t H D kvs) (hp : GP kd H kvs r) (hl : l ∉ r.map (·.1)) (hy : KeyV kd H g y) (dx : DX P w .t (upd H D u) D (putK kvs (lk l) y)) :
    DX P w .t (upd H D u) D (kvs ++ [(lk l, y)]) ∧ GP kd (upd H D u) (kvs ++ [(lk l, y)]) (r ++ [(l, g)]) := by
  have v0 : valV kvs (lk l) = none := valV_not_mem (by
    rw [GP.keys hp]
    intro z
    obtain ⟨m, hm, e⟩ := List.mem_map.mp z
    rw [lk_inj e] at hm
    exact hl hm)
  rw [putK_new _ v0] at dx
  exact ⟨dx, Paired.snoc (Paired.mapP hp fun _ _ ⟨e, x⟩ => ⟨e, x.mono h.tups⟩) ⟨rfl, hy.mono h.tups⟩⟩
theorem take_fresh {α β : Type} {f : α → β} {r : List α} (nd : (r.map f).Nodup) {j : Nat} {p : α} (hp : r[j]? = some p) : f p ∉ (r.take j).map f := by
  intro z
  obtain ⟨p1, hp1, e1⟩ := List.mem_map.mp z
  obtain ⟨i1, hi1, e2⟩ := List.getElem_of_mem hp1
  rw [List.length_take] at hi1
  rw [List.getElem_take] at e2
  have g1 : (r.map f)[i1]? = some (f p) := by rw [List.getElem?_map, List.getElem?_eq_getElem (by omega), e2]; exact congrArg some e1
  have g2 : (r.map f)[j]? = some (f p) := by rw [List.getElem?_map, hp]; rfl
  have := (List.getElem?_inj (by rw [List.length_map]; omega) nd).mp (g1.trans g2.symm)
  omega
/-! pair_row -/
def bothRow (ra rb : IRow) : GRow := ra.filterMap fun p => (at1 rb p.1).map fun y => (p.1, pko (some p.2, some y))
theorem bothRow_keys (ra rb : IRow) : ∀ l, l ∈ (bothRow ra rb).map (·.1) → l ∈ ra.map (·.1) := by
  intro l hl
  obtain ⟨q, hq, rfl⟩ := List.mem_map.mp hl
  obtain ⟨p, hp, e⟩ := List.mem_filterMap.mp hq
  obtain ⟨y, _, rfl⟩ := Option.map_eq_some_iff.mp e
  exact List.mem_map.mpr ⟨p, hp, rfl⟩
theorem bothRow_nd : ∀ {ra rb : IRow}, (ra.map (·.1)).Nodup → ((bothRow ra rb).map (·.1)).Nodup
  | [], _, _ => List.nodup_nil
  | p :: ra, rb, nd => by
    rw [List.map_cons, List.nodup_cons] at nd
    have ih := bothRow_nd (ra := ra) (rb := rb) nd.2
    unfold bothRow
    rw [List.filterMap_cons]
    cases e : at1 rb p.1 with
    | none => exact ih
    | some y =>
      show ((p.1, _) :: bothRow ra rb).map (·.1) |>.Nodup
      rw [List.map_cons, List.nodup_cons]
      exact ⟨fun z => nd.1 (bothRow_keys ra rb _ z), ih⟩
theorem bothRow_at (rb : IRow) (l : Ltr) : ∀ ra : IRow, at1 (bothRow ra rb) l = (at1 ra l).bind fun x => (at1 rb l).map fun y => pko (some x, some y)
  | [] => rfl
  | p :: ra => by
    have ih := bothRow_at rb l ra
    unfold bothRow
    rw [List.filterMap_cons]
    by_cases e : p.1 = l
    · rw [at1_pos e]
      subst e
      cases e2 : at1 rb p.1 with
      | none =>
        show at1 (bothRow ra rb) p.1 = _
        rw [ih, e2]
        cases at1 ra p.1 <;> rfl
      | some y => exact at1_pos rfl
    · rw [at1_neg e]
      cases e2 : at1 rb p.1 with
      | none => exact ih
      | some y =>
        show at1 ((p.1, _) :: bothRow ra rb) l = _
        rw [at1_neg (p := ((p.1, pko (some p.2, some y)) : Ltr × NestedKey)) e]
        exact ih
theorem keysV_letters {H : Hp} : ∀ {ls : List Ltr} {ys : List V}, KeysV .t H (ls.map lk) ys → ∃ ks : List (Addr × List Int), ys = (ks.map fun p => V.ref p.1) ∧ ks.map (·.2) = ls ∧ ∀ p ∈ ks, H p.1 = some (.tup (p.2.map V.int))
  | [], _, .nil => ⟨[], rfl, rfl, fun _ h => nomatch h⟩
  | l :: ls, _, .cons h t => by
    obtain ⟨ks, e1, e2, e3⟩ := keysV_letters t
    obtain ⟨b, rfl, hb⟩ := keyV_lk.mp h
    refine ⟨(b, l) :: ks, by rw [e1]; rfl, by rw [← e2]; rfl, fun p hp => ?_⟩
    rcases List.mem_cons.mp hp with rfl | hp
    · exact hb
    · exact e3 p hp
theorem rowKv_keys (r : IRow) : (rowKv r).map (·.1) = (r.map (·.1)).map lk := by
  simp [rowKv]
theorem rowKv_get1 (r : IRow) (l : Ltr) : (valV (rowKv r) (lk l)).getD .non = oV (at1 r l) := by
  rw [rowKv_val]
  cases at1 r l <;> rfl
def orRow (ra rb : IRow) (ls : List Ltr) : GRow := ls.map fun l => (l, pko (at1 ra l, at1 rb l))
theorem orRow_at (ra rb : IRow) (l : Ltr) : ∀ ls : List Ltr, at1 (orRow ra rb ls) l = if l ∈ ls then some (pko (at1 ra l, at1 rb l)) else none
  | [] => rfl
  | x :: ls => by
    show at1 ((x, _) :: orRow ra rb ls) l = _
    by_cases e : x = l
    · subst e
      rw [at1_pos (p := (x, pko (at1 ra x, at1 rb x))) rfl, if_pos List.mem_cons_self]
    · rw [at1_neg (p := (x, pko (at1 ra x, at1 rb x))) e, orRow_at ra rb l ls]
      by_cases m : l ∈ ls
      · rw [if_pos m, if_pos (List.mem_cons_of_mem _ m)]
      · rw [if_neg m, if_neg]
        intro z
        rcases List.mem_cons.mp z with z | z
        · exact e z.symm
        · exact m z
section
variable {P : Program} {w : World} {K : PySem.W.Frag} {mg : Str → Option Value} {base : Heap}
abbrev sPairRow : Stmt := top 28
abbrev nPairRow : List Str := ["one", "other", "pair", "is_both", "near", "far", "letter"]
theorem sc28 : FnScope nPairRow ["one", "other", "pair", "is_both"] (defScope sPairRow) := ⟨rfl, rfl, rfl, by decide +kernel, rfl, by decide +kernel, by decide +kernel⟩
def spPairRow (P : Program) (w : World) (C : Addr) : Sp := fun vs H Q _ => ∃ (p q b : Addr) (d : Nat) (A B : List IRow) (ij : Option Int × Option Int) (both : Bool), vs = [.ref p, .ref q, .ref b, .bl both] ∧ PatAt P w C H p d A ∧ PatAt P w C H q d B ∧ GoesOk d A ∧ GoesOk d B ∧
  H b = some (.tup [oV ij.1, oV ij.2]) ∧ InR A.length ij.1 ∧ InR B.length ij.2 ∧
  ∀ H' a (r : GRow), Same H H' → H a = none → RowG P w .t H' a r → (r.map (·.1)).Nodup → (∀ l ∈ r.map (·.1), Lw d l) → r.length ≤ 32 → (∀ l, at1 r l = (prF both A B ij l).map pko) → Q (.ref a) H'
theorem opRow_ok {d : Nat} {rows : List IRow} (ok : GoesOk d rows) {o : Option Int} (h : InR rows.length o) : RowOk d rows.length (opRow rows o) := by
  cases o with
  | none =>
    show RowOk d rows.length []
    exact ⟨fun _ h => by simp at h, List.nodup_nil, fun _ h => by simp at h, by decide⟩
  | some i => exact ok.row (h i rfl).1 (h i rfl).2
theorem opt_row {C : Addr} {σ : L2.St} {H H0 : Hp} {Q : VK} {s : Nat} {c : Int} {p b : Addr} {d : Nat} {A : List IRow} {o : Option Int} {xs : List V} (hs : σ[s]? = some (some (.ref p))) (h2 : σ[2]? = some (some (.ref b))) (hb : H b = some (.tup xs)) (hc : atI xs c = some (oV o))
    (hp : PatAt P w C H0 p d A) (sm : Same H0 H) (hr : InR A.length o) (k : ∀ H' nb, Same H H' → DX P w .t H' nb (rowKv (opRow A o)) → Q (.ref nb) H') :
    tIf (tB (tIsN (tOp (rIxT K) (tVar 2) (tC (.int c))))) (tXNew P w) (tRow P w C (tVar s) (tOp (rIxT K) (tVar 2) (tC (.int c)))) σ H Q := by
  refine ⟨_, h2, b, xs, c, oV o, rfl, rfl, .inl (.inl hb), hc, _, rfl, ?_⟩
  cases o with
  | none => exact ys fun nb u hn hx => k _ _ (same_upd hn) (hx .t)
  | some i =>
    refine no ?_
    obtain ⟨h0, h1⟩ := hr i rfl
    obtain ⟨n, en, hn⟩ := rowAt_some h0 h1
    exact ⟨_, hs, p, d, A, H0, rfl, hp, sm, _, h2, b, xs, c, .int i, rfl, rfl, .inl (.inl hb), hc, fun _ _ e => e, n, _, by rw [en], hn, fun nb hnb => k _ _ (fun _ _ e => e) (DX.same hnb sm)⟩
theorem ok_pairRow {C : Addr} (B : Blt mg) (T : PatC K mg C) (D : Dn K mg "pair_row" sPairRow ["one", "other", "pair", "is_both"]) : FnOk P w K mg base CX0 1 D.f D.fd ["one", "other", "pair", "is_both"] (spPairRow P w C) := by
  refine D.F.ok sc28 (fun vs H Q E h => ?_) (fun cdv A outer s H vs Q E hr h => ?_)
  · obtain ⟨p, q, b, d, A, B, ij, both, rfl, _⟩ := h
    rfl
  · obtain ⟨p, q, b, d, A, B', ij, both, rfl, hp, hq, okA, okB, hb, ri, rj, k⟩ := h
    refine ⟨_, pss_cons (ps_set (i := 4) sc28.nd rfl (.inr rfl) (pe_ifExp (pt_cmp (pc_isN (pe_ix ix_tup (pv 2) pe_int (fun _ _ => rfl)))) pe_xnew (pe_row T (pv 0) (pe_ix ix_tup (pv 2) pe_int (fun _ _ => rfl)))))
      (pss_cons (ps_set (i := 5) sc28.nd rfl (.inr rfl) (pe_ifExp (pt_cmp (pc_isN (pe_ix ix_tup (pv 2) pe_int (fun _ _ => rfl)))) pe_xnew (pe_row T (pv 1) (pe_ix ix_tup (pv 2) pe_int (fun _ _ => rfl)))))
      (pss_cons (ps_if (pt_val (pv 3)) (pss_one (ps_ret (pe_xdc (own := [("letter", 6)]) (g := gName 6) (tt := tB (tXIn P w false (tVar 6) (tVar 5))) (tk := tVar 6) (tv := tTup (tCons (tXGet P w (tVar 4) (tVar 6)) (tCons (tXGet P w (tVar 5) (tVar 6)) tNil)))
          (u9 hr) (by rfl) sc28.nd (pi_xk (pv 4)) (blkOk_by (own := [("letter", 6)]) (N := nPairRow) (sc := defScope sPairRow) (by decide +kernel)) (fun _ _ _ _ _ => pg_name (i := 6) sc28.nd rfl (Or.inl rfl))
          (fun _ _ _ _ _ => pts_one (pt_cmp (pc_xin (u9 hr) (pv 6) (pv 5)))) (fun _ _ _ _ _ => pv 6) (fun _ _ _ _ _ => pe_tup (pa_cons (pe_xget (u9 hr) (pv 4) (pv 6) (fun _ _ => rfl)) (pa_cons (pe_xget (u9 hr) (pv 5) (pv 6) (fun _ _ => rfl)) pa_nil)))))) pss_nil)
      (pss_one (ps_ret (pe_xdc (own := [("letter", 6)]) (g := gName 6) (tt := tYes) (tk := tVar 6) (tv := tTup (tCons (tXGet1 P w (tVar 4) (tVar 6)) (tCons (tXGet1 P w (tVar 5) (tVar 6)) tNil)))
          (u9 hr) (by rfl) sc28.nd (pi_list (pe_callB (call_srtS rfl (u30 hr)) (by rfl) B.sorted (by decide +kernel) (pa_cons (pe_callTy (cr_setOfT rfl (u64 hr)) (by rfl) B.set PyProof.Rows.boot_set
              (pa_cons (pe_op op_cat (pe_callTy (call_listX rfl) (by rfl) B.list (by decide +kernel) (pa_cons (pv 4) pa_nil)) (pe_callTy (call_listX rfl) (by rfl) B.list (by decide +kernel) (pa_cons (pv 5) pa_nil))) pa_nil)) pa_nil)))
          (blkOk_by (own := [("letter", 6)]) (N := nPairRow) (sc := defScope sPairRow) (by decide +kernel)) (fun _ _ _ _ _ => pg_name (i := 6) sc28.nd rfl (Or.inl rfl))
          (fun _ _ _ _ _ => pts_nil) (fun _ _ _ _ _ => pv 6) (fun _ _ _ _ _ => pe_tup (pa_cons (pe_xget1 (u9 hr) (pv 4) (pv 6) ⟨rfl, rfl, rfl, rfl⟩) (pa_cons (pe_xget1 (u9 hr) (pv 5) (pv 6) ⟨rfl, rfl, rfl, rfl⟩) pa_nil)))))))), ?_⟩
    refine opt_row (s := 0) (c := 0) (o := ij.1) rfl rfl hb (atI_nat (j := 0) rfl) hp (fun _ _ e => e) ri fun H1 nb s1 hnb => ?_
    refine opt_row (s := 1) (c := 1) (o := ij.2) rfl rfl (s1 _ _ hb) (atI_nat (j := 1) rfl) hq s1 rj fun H2 fb s2 hfb => ?_
    have hnb := hnb.same s2
    have s12 := Same.trans s1 s2
    obtain ⟨a1, a2, a3, a4⟩ := opRow_ok okA ri
    obtain ⟨b1, b2, b3, b4⟩ := opRow_ok okB rj
    refine ⟨_, rfl, _, rfl, ?_⟩
    cases both with
    | true =>
      refine ys ?_
      obtain ⟨o, d1⟩ := hnb.one
      refine ⟨_, rfl, nb, .t, o, _, rfl, d1, fun D u0 hD hx0 => dc_it (n := (opRow A ij.1).length) (fun j Hj => Same H2 Hj ∧ ∃ kvs, DX P w .t Hj D kvs ∧ GP .t Hj kvs (bothRow ((opRow A ij.1).take j) (opRow B' ij.2))) ⟨same_upd hD, [], hx0 .t, .nil⟩
        (fun j Hj hj pj => ⟨d1.same pj.1, by rw [rowKv_len]; exact hj⟩) (fun Hj pj => ⟨d1.same pj.1, by rw [rowKv_len]; exact Nat.le_refl _⟩) (fun j Hj x H3 hj pj y => ?_) fun Hj pj => ?_⟩
      · obtain ⟨rfl, k0, v0, hk0, ky0⟩ := y
        obtain ⟨pl, hpl, rfl, rfl⟩ := rowKv_get hk0
        obtain ⟨c0, rfl, hc0⟩ := keyV_lk.mp ky0
        obtain ⟨s3, kvs, dx, gp⟩ := pj
        refine ⟨rfl, ?_⟩
        refine ⟨_, rfl, _, rfl, fb, .t, _, lk pl.1, rfl, hfb.same s3, ky0, _, rfl, ?_⟩
        have etk : bothRow ((opRow A ij.1).take (j + 1)) (opRow B' ij.2) = bothRow ((opRow A ij.1).take j) (opRow B' ij.2) ++ bothRow [pl] (opRow B' ij.2) := by
          rw [List.take_add_one, hpl]
          exact List.filterMap_append
        rw [show (if false = true then (!(valV (rowKv (opRow B' ij.2)) (lk pl.1)).isSome) else (valV (rowKv (opRow B' ij.2)) (lk pl.1)).isSome) = (valV (rowKv (opRow B' ij.2)) (lk pl.1)).isSome from rfl, rowKv_val, Option.isSome_map]
        cases ey : at1 (opRow B' ij.2) pl.1 with
        | none =>
          refine no ⟨s3, kvs, dx, ?_⟩
          rw [etk]
          have : bothRow [pl] (opRow B' ij.2) = [] := by simp [bothRow, ey]
          rw [this, List.append_nil]
          exact gp
        | some y =>
          have eb : bothRow [pl] (opRow B' ij.2) = [(pl.1, pko (some pl.2, some y))] := by simp [bothRow, ey]
          refine ys ⟨_, rfl, _, rfl, _, rfl, nb, .t, _, lk pl.1, .int pl.2, rfl, hnb.same s3, ky0, (by rw [rowKv_val, at1_mem a2 (List.mem_of_getElem? hpl)]; rfl), _, rfl, _, rfl, fb, .t, _, lk pl.1, .int y, rfl, hfb.same s3, ky0, (by rw [rowKv_val, ey]; rfl), le2, fun t ht => ?_⟩
          have st := same_upd (o := .tup [.int pl.2, .int y]) ht
          have lkv : kvs.length ≤ j := by
            have h1 := Paired.length gp
            have h2 := List.length_filterMap_le (fun p : Ltr × Int => (at1 (opRow B' ij.2) p.1).map fun y => (p.1, pko (some p.2, some y))) ((opRow A ij.1).take j)
            rw [List.length_take] at h2
            have h3 : kvs.length = ((opRow A ij.1).take j |>.filterMap fun p : Ltr × Int => (at1 (opRow B' ij.2) p.1).map fun y => (p.1, pko (some p.2, some y))).length := h1
            omega
          refine ⟨.t, kvs, lk pl.1, ky0.mono (Tups.of_same st), dx.same st, small1000 (by omega), fun u hx2 => ?_⟩
          have gp2 : GP .t (upd H3 t (.tup [.int pl.2, .int y])) kvs (bothRow ((opRow A ij.1).take j) (opRow B' ij.2)) := Paired.mapP gp fun _ _ ⟨e, x⟩ => ⟨e, x.mono (Tups.of_same st)⟩
          have nin : pl.1 ∉ (bothRow ((opRow A ij.1).take j) (opRow B' ij.2)).map (·.1) := fun z => by
            exact take_fresh (f := fun p : Ltr × Int => p.1) a2 hpl (bothRow_keys _ _ _ z)
          obtain ⟨q1, q2⟩ := RowG.push (g := pko (some pl.2, some y)) (dx.same st) gp2 nin (keyV_pko.mpr ⟨t, rfl, upd_same⟩) hx2
          refine ⟨Same.put (Same.trans s3 st) hD, _, q1, ?_⟩
          rw [etk, eb]
          exact q2
      · obtain ⟨s3, kvs, dx, gp⟩ := pj
        rw [List.take_length] at gp
        refine k _ D _ (Same.trans s12 s3) (Same.free s12 hD) ⟨kvs, dx, gp⟩ (bothRow_nd a2) (fun l hl => ?_) ?_ fun l => ?_
        · obtain ⟨p, hp, rfl⟩ := List.mem_map.mp (bothRow_keys _ _ _ hl)
          exact a1 p hp
        · have := List.length_filterMap_le (fun p : Ltr × Int => (at1 (opRow B' ij.2) p.1).map fun y => (p.1, pko (some p.2, some y))) (opRow A ij.1)
          show ((opRow A ij.1).filterMap _).length ≤ 32
          omega
        · rw [bothRow_at]
          unfold prF
          cases at1 (opRow A ij.1) l <;> cases at1 (opRow B' ij.2) l <;> rfl
    | false =>
      refine no ?_
      obtain ⟨ra, era⟩ : ∃ ra, opRow A ij.1 = ra := ⟨_, rfl⟩
      obtain ⟨rb, erb⟩ : ∃ rb, opRow B' ij.2 = rb := ⟨_, rfl⟩
      rw [era] at hnb a1 a2 a3 a4
      rw [erb] at hfb b1 b2 b3 b4
      refine ⟨_, rfl, nb, .t, _, rfl, hnb, fun l1 ys1 hl1 ky1 => ⟨_, rfl, fb, .t, _, rfl, hfb.same (same_upd hl1), fun l2 ys2 hl2 ky2 => ?_⟩⟩
      have t1 := same_upd (o := .lst ys1) hl1
      have t2 := same_upd (o := .lst ys2) hl2
      rw [rowKv_keys] at ky1 ky2
      obtain ⟨ks1, rfl, es1, hk1⟩ := keysV_letters ky1
      obtain ⟨ks2, rfl, es2, hk2⟩ := keysV_letters ky2
      have ln1 : ks1.length = ra.length := by
        have := congrArg List.length es1
        simpa using this
      have ln2 : ks2.length = rb.length := by
        have := congrArg List.length es2
        simpa using this
      refine ⟨l1, l2, _, _, rfl, rfl, t2 _ _ upd_same, upd_same, ?_, fun l3 hl3 => ?_⟩
      · rw [List.length_map, List.length_map]
        exact Nat.le_of_lt (small1000 (by omega))
      have t3 := same_upd (o := .lst (ks1.map (fun p => V.ref p.1) ++ ks2.map fun p => V.ref p.1)) hl3
      have t123 := Same.trans (Same.trans t1 t2) t3
      have hks : ∀ p ∈ ks1 ++ ks2, (upd (upd (upd H2 l1 (.lst (ks1.map fun p => V.ref p.1))) l2 (.lst (ks2.map fun p => V.ref p.1))) l3 (.lst (ks1.map (fun p => V.ref p.1) ++ ks2.map fun p => V.ref p.1))) p.1 = some (.tup (p.2.map V.int)) := fun p hp => by
        rcases List.mem_append.mp hp with hp | hp
        · exact t123 _ _ (hk1 p hp)
        · exact t3 _ _ (t2 _ _ (hk2 p hp))
      refine ⟨l3, ks1 ++ ks2, rfl, SqL.of (by rw [List.map_append]; exact upd_same), fun p hp => .inl (.inl (hks p hp)), by rw [List.length_append]; omega, fun sa L hsa hL1 hL2 => ?_⟩
      have t4 := same_upd (o := SetTO P w sa L) hsa
      refine ⟨sa, L, rfl, upd_same, fun p hp => t4 _ _ (hks p (hL1 p hp)), fun nd => ⟨?_, fun sl ys ks' hsl perm pw py => ?_⟩⟩
      · have e : (L.map fun p => NestedKey.tup (p.2.map .num)) = (L.map (·.2)).map lk := by rw [List.map_map]; rfl
        rw [e]
        refine sortOk_letters (d := d) (fun l hl => ?_) nd
        obtain ⟨p, hp, rfl⟩ := List.mem_map.mp hl
        rcases List.mem_append.mp (hL1 p hp) with hp | hp
        · have : p.2 ∈ ra.map (·.1) := by rw [← es1]; exact List.mem_map.mpr ⟨p, hp, rfl⟩
          obtain ⟨q, hq, e⟩ := List.mem_map.mp this
          rw [← e]
          exact a1 q hq
        · have : p.2 ∈ rb.map (·.1) := by rw [← es2]; exact List.mem_map.mpr ⟨p, hp, rfl⟩
          obtain ⟨q, hq, e⟩ := List.mem_map.mp this
          rw [← e]
          exact b1 q hq
      have t5 := same_upd (o := .lst ys) hsl
      obtain ⟨L', pL, ekL⟩ := perm_map (f := fun p : Addr × List Int => lk p.2) perm L rfl
      have memL : ∀ l, l ∈ L'.map (·.2) ↔ l ∈ ra.map (·.1) ∨ l ∈ rb.map (·.1) := fun l => by
        rw [(pL.map (·.2)).mem_iff, ← es1, ← es2]
        constructor
        · intro z
          obtain ⟨p, hp, rfl⟩ := List.mem_map.mp z
          rcases List.mem_append.mp (hL1 p hp) with hp | hp
          · exact .inl (List.mem_map.mpr ⟨p, hp, rfl⟩)
          · exact .inr (List.mem_map.mpr ⟨p, hp, rfl⟩)
        · rintro (z | z)
          · obtain ⟨p, hp, rfl⟩ := List.mem_map.mp z
            exact hL2 p (List.mem_append_left _ hp)
          · obtain ⟨p, hp, rfl⟩ := List.mem_map.mp z
            exact hL2 p (List.mem_append_right _ hp)
      have ndL : (L'.map (·.2)).Nodup := (pL.map (·.2)).nodup_iff.mpr nd
      obtain ⟨H5, eH5⟩ : ∃ H5, upd (upd (upd (upd (upd H2 l1 (.lst (ks1.map fun p => V.ref p.1))) l2 (.lst (ks2.map fun p => V.ref p.1))) l3 (.lst (ks1.map (fun p => V.ref p.1) ++ ks2.map fun p => V.ref p.1))) sa (SetTO P w sa L)) sl (.lst ys) = H5 := ⟨_, rfl⟩
      have hsl5 : H5 sl = some (.lst ys) := by rw [← eH5]; exact upd_same
      have t5 : Same (upd (upd (upd (upd H2 l1 (.lst (ks1.map fun p => V.ref p.1))) l2 (.lst (ks2.map fun p => V.ref p.1))) l3 (.lst (ks1.map (fun p => V.ref p.1) ++ ks2.map fun p => V.ref p.1))) sa (SetTO P w sa L)) H5 := by
        rw [← eH5]
        exact t5
      erw [eH5]
      have s25 : Same H2 H5 := Same.trans t123 (Same.trans t4 t5)
      have lys : ys.length = L'.length := by
        rw [← Paired.length py, ekL, List.length_map]
      have lL : L'.length ≤ 32 := by
        obtain ⟨r, hr⟩ := nodup_sub (l2 := ra.map (·.1) ++ rb.map (·.1)) ndL fun l hl => by
          rw [List.mem_append]
          exact (memL l).mp hl
        have := hr.length_eq
        simp only [List.length_append, List.length_map] at this
        omega
      refine ⟨sl, rfl, ⟨_, SqL.of hsl5⟩, fun D u0 hD hx0 => dc_it (n := L'.length) (fun j Hj => Same H5 Hj ∧ ∃ kvs, DX P w .t Hj D kvs ∧ GP .t Hj kvs (orRow ra rb ((L'.map (·.2)).take j))) ⟨same_upd hD, [], hx0 .t, .nil⟩
        (fun j Hj hj pj => ⟨ys, ys[j]'(by omega), SqL.of (pj.1 _ _ hsl5), List.getElem?_eq_getElem (by omega)⟩) (fun Hj pj => ⟨ys, SqL.of (pj.1 _ _ hsl5), by omega⟩) (fun j Hj x H3 hj pj y => ?_) fun Hj pj => ?_⟩
      · obtain ⟨rfl, f⟩ := y
        have hx := f _ (SqL.of (pj.1 _ _ hsl5))
        obtain ⟨k', hk', nk⟩ := paired_get2 py hx
        rw [ekL, List.getElem?_map] at hk'
        obtain ⟨p0, hp0, rfl⟩ := Option.map_eq_some_iff.mp hk'
        obtain ⟨s3, kvs, dx, gp⟩ := pj
        obtain ⟨c, rfl, hc⟩ := lk_tup nk
        have hc3 : H3 c = some (.tup (p0.2.map V.int)) := s3 _ _ (t5 _ _ hc)
        have ky : KeyV .t H3 (lk p0.2) (.ref c) := keyV_lk.mpr ⟨c, rfl, hc3⟩
        have s23 := Same.trans s25 s3
        refine ⟨rfl, yes ⟨_, rfl, _, rfl, nb, rfl, ⟨.t, _, hnb.same s23⟩, _, rfl, .t, _, lk p0.2, hnb.same s23, ky, _, rfl, fb, rfl, ⟨.t, _, hfb.same s23⟩, _, rfl, .t, _, lk p0.2, hfb.same s23, ky, le2, fun t ht => ?_⟩⟩
        rw [rowKv_get1, rowKv_get1]
        have st := same_upd (o := .tup [oV (at1 ra p0.2), oV (at1 rb p0.2)]) ht
        have gp2 : GP .t (upd H3 t (.tup [oV (at1 ra p0.2), oV (at1 rb p0.2)])) kvs (orRow ra rb ((L'.map (·.2)).take j)) := Paired.mapP gp fun _ _ ⟨e, x⟩ => ⟨e, x.mono (Tups.of_same st)⟩
        have lkv : kvs.length ≤ j := by
          have h1 := Paired.length gp
          unfold orRow at h1
          rw [List.length_map, List.length_take] at h1
          omega
        refine ⟨.t, kvs, lk p0.2, ky.mono (Tups.of_same st), dx.same st, small1000 (by omega), fun u hx2 => ?_⟩
        have nin : p0.2 ∉ (orRow ra rb ((L'.map (·.2)).take j)).map (·.1) := by
          unfold orRow
          rw [List.map_map, show ((fun x : Ltr × NestedKey => x.1) ∘ fun l => (l, pko (at1 ra l, at1 rb l))) = id from rfl, List.map_id, ← List.map_take]
          exact take_fresh (f := fun p : Addr × List Int => p.2) ndL hp0
        obtain ⟨q1, q2⟩ := RowG.push (g := pko (at1 ra p0.2, at1 rb p0.2)) (dx.same st) gp2 nin (keyV_pko.mpr ⟨t, rfl, upd_same⟩) hx2
        refine ⟨Same.put (Same.trans s3 st) hD, _, q1, ?_⟩
        rw [List.take_add_one, List.getElem?_map, hp0]
        unfold orRow at q2 ⊢
        rw [List.map_append]
        exact q2
      · obtain ⟨s3, kvs, dx, gp⟩ := pj
        have et : (L'.map (·.2)).take L'.length = L'.map (·.2) := List.take_of_length_le (by rw [List.length_map]; exact Nat.le_refl _)
        rw [et] at gp
        have ek : (orRow ra rb (L'.map (·.2))).map (·.1) = L'.map (·.2) := by
          unfold orRow
          rw [List.map_map, show ((fun x : Ltr × NestedKey => x.1) ∘ fun l => (l, pko (at1 ra l, at1 rb l))) = id from rfl, List.map_id]
        refine k _ D _ (Same.trans s12 (Same.trans s25 s3)) (Same.free (Same.trans s12 s25) hD) ⟨kvs, dx, gp⟩ (by rw [ek]; exact ndL) (fun l hl => ?_) ?_ fun l => ?_
        · rw [ek, memL] at hl
          rcases hl with hl | hl
          · obtain ⟨q, hq, rfl⟩ := List.mem_map.mp hl
            exact a1 q hq
          · obtain ⟨q, hq, rfl⟩ := List.mem_map.mp hl
            exact b1 q hq
        · unfold orRow
          rw [List.length_map, List.length_map]
          exact lL
        · rw [orRow_at]
          unfold prF
          rw [era, erb]
          by_cases m : l ∈ L'.map (·.2)
          · rw [if_pos m]
            rw [memL] at m
            cases e1 : at1 ra l with
            | some x => cases at1 rb l <;> rfl
            | none =>
              cases e2 : at1 rb l with
              | some y => rfl
              | none => exact (m.elim (at1_none.mp e1) (at1_none.mp e2)).elim
          · rw [if_neg m]
            rw [memL] at m
            have e1 : at1 ra l = none := at1_none.mpr fun z => m (.inl z)
            have e2 : at1 rb l = none := at1_none.mpr fun z => m (.inr z)
            rw [e1, e2]
            rfl
end
end WW


set_option maxHeartbeats 2000000

namespace WW
open PySem PySem.Spec PyProof.Rows L2
theorem small6 {n : Nat} (h : n ≤ 1000000) : n < sizeLine := Nat.lt_of_le_of_lt h (by decide)
/-! xs != [] -/
def rNeE : R2 := fun x y H Q => ∃ a b xs, x = .ref a ∧ y = .ref b ∧ H a = some (.lst xs) ∧ H b = some (.lst []) ∧ Q (.bl (!xs.isEmpty)) H
theorem op_neE {X : Cx} (hu : X.A.units + 9 < cLine) : OpR X (compareOp .NotEq) rNeE := by
  intro pins s σ H x y v u Q I rx ry h
  obtain ⟨a, b, xs, rfl, rfl, ha, hb, q⟩ := h
  cases rx
  cases ry
  obtain ⟨i1, r1, p1, z1⟩ := I.list (SqL.of ha)
  obtain ⟨i2, r2, p2, z2⟩ := I.list (SqL.of hb)
  cases r2
  cases r1 with
  | nil => exact SeqAt.RcNeAt.lists (e := fun _ => true) p1.isList p2.isList rfl (by omega) (fun j h1 h2 => absurd h1 (by simp)) X.prog X.w _ _ ⟨.bl false, H, I, rfl, q⟩
  | cons h t => exact SeqAt.RcNeAt.lists_lengths p1.isList p2.isList (by simp) (by omega) X.prog X.w _ _ ⟨.bl true, H, I, rfl, q⟩
/-! goes by keys -/
abbrev OP := Option Int × Option Int
def GoesG (P : Program) (w : World) (kd : Kd) (H : Hp) (a : Addr) (gs : List (NestedKey × GRow)) : Prop :=
  ∃ kvs, DX P w kd H a kvs ∧ Paired (fun (q : NestedKey × V) (p : NestedKey × GRow) => q.1 = p.1 ∧ ∃ b, q.2 = .ref b ∧ RowG P w kd H b p.2) kvs gs
theorem GoesG.same {P : Program} {w : World} {kd : Kd} {H H' : Hp} {a : Addr} {gs : List (NestedKey × GRow)} (h : GoesG P w kd H a gs) (s : Same H H') : GoesG P w kd H' a gs := let ⟨kvs, d, p⟩ := h; ⟨kvs, d.same s, Paired.mapP p fun _ _ ⟨e, b, e2, x⟩ => ⟨e, b, e2, x.same s⟩⟩
theorem prF_in {both : Bool} {d : Nat} {A B : List IRow} (hA : GoesOk d A) (hB : GoesOk d B) {p x : OP} (h1 : InR A.length p.1) (h2 : InR B.length p.2) {l : Ltr} (h : prF both A B p l = some x) : InR A.length x.1 ∧ InR B.length x.2 := by
  have fA : ∀ i, at1 (opRow A p.1) l = some i → 0 ≤ i ∧ i < (A.length : Int) := fun i e => (opRow_ok hA h1).2.2.1 _ (at1_some e)
  have fB : ∀ i, at1 (opRow B p.2) l = some i → 0 ≤ i ∧ i < (B.length : Int) := fun i e => (opRow_ok hB h2).2.2.1 _ (at1_some e)
  unfold prF at h
  cases e1 : at1 (opRow A p.1) l with
  | none =>
    cases e2 : at1 (opRow B p.2) l with
    | none => rw [e1, e2] at h; cases h
    | some y =>
      rw [e1, e2] at h
      cases both with
      | true => cases h
      | false =>
        cases h
        refine ⟨fun i e => ?_, fun i e => ?_⟩
        · cases e
        · cases e
          exact fB _ e2
  | some i =>
    cases e2 : at1 (opRow B p.2) l with
    | none =>
      rw [e1, e2] at h
      cases both with
      | true => cases h
      | false =>
        cases h
        refine ⟨fun i e => ?_, fun i e => ?_⟩
        · cases e
          exact fA _ e1
        · cases e
    | some y =>
      rw [e1, e2] at h
      cases h
      refine ⟨fun i e => ?_, fun i e => ?_⟩
      · cases e
        exact fA _ e1
      · cases e
        exact fB _ e2
/-- the places that may be, and the missing one -/
def opts (n : Nat) : List (Option Int) := none :: (List.range n).map fun i : Nat => some (i : Int)
theorem mem_opts {n : Nat} {o : Option Int} (h : InR n o) : o ∈ opts n := by
  cases o with
  | none => exact List.mem_cons_self
  | some i =>
    obtain ⟨h0, h1⟩ := h i rfl
    refine List.mem_cons_of_mem _ (List.mem_map.mpr ⟨i.toNat, List.mem_range.mpr (by omega), ?_⟩)
    rw [show ((i.toNat : Nat) : Int) = i by omega]
def optPairs (n m : Nat) : List OP := (opts n).flatMap fun x => (opts m).map fun y => (x, y)
theorem len_optPairs (n m : Nat) : (optPairs n m).length = (n + 1) * (m + 1) := by
  have h : ∀ l : List (Option Int), (l.flatMap fun x => (opts m).map fun y => (x, y)).length = l.length * (m + 1) := by
    intro l
    induction l with
    | nil => simp
    | cons x l ih =>
      rw [List.flatMap_cons, List.length_append, ih, List.length_map, List.length_cons]
      have : (opts m).length = m + 1 := by simp [opts]
      rw [this, Nat.add_mul, Nat.one_mul, Nat.add_comm]
  unfold optPairs
  rw [h]
  simp [opts]
/-- all stands but what is at fd, at wl -/
def Two (fd wl : Addr) (H H' : Hp) : Prop := ∀ c o, c ≠ fd → c ≠ wl → H c = some o → H' c = some o
theorem Two.of_same {fd wl : Addr} {H H' : Hp} (s : Same H H') : Two fd wl H H' := fun c o _ _ e => s c o e
theorem Two.trans {fd wl : Addr} {H H1 H2 : Hp} (a : Two fd wl H H1) (b : Two fd wl H1 H2) : Two fd wl H H2 := fun c o n m e => b c o n m (a c o n m e)
theorem Two.fd {fd wl : Addr} {H : Hp} {o : HO} : Two fd wl H (upd H fd o) := fun c u n _ e => by rw [upd_ne n]; exact e
theorem Two.wl {fd wl : Addr} {H : Hp} {o : HO} : Two fd wl H (upd H wl o) := fun c u _ n e => by rw [upd_ne n]; exact e
theorem Two.tups {fd wl : Addr} {H H' : Hp} (s : Two fd wl H H') (hf : ∃ φ, H fd = some (.ext φ)) {xs : List V} (hw : H wl = some (.lst xs)) : Tups H H' := fun c ys e => s c _ (fun q => by
    obtain ⟨φ, hf⟩ := hf
    rw [← q, e] at hf
    cases hf) (fun q => by rw [q, hw] at e; cases e) e
theorem Two.dx {P : Program} {w : World} {kd : Kd} {fd wl : Addr} {H H' : Hp} (s : Two fd wl H H') (hf : ∃ φ, H fd = some (.ext φ)) {xs : List V} (hw : H wl = some (.lst xs)) {b : Addr} {kvs : List (NestedKey × V)} (hb : b ≠ fd) (h : DX P w kd H b kvs) : DX P w kd H' b kvs :=
  h.mono (s.tups hf hw) fun o e => s _ _ hb (fun q => by
    obtain ⟨φ, e2⟩ := h.ext
    rw [q, hw] at e2
    cases e2) e
theorem Two.row {P : Program} {w : World} {kd : Kd} {fd wl : Addr} {H H' : Hp} (s : Two fd wl H H') (hf : ∃ φ, H fd = some (.ext φ)) {xs : List V} (hw : H wl = some (.lst xs)) {b : Addr} {r : GRow} (hb : b ≠ fd) (h : RowG P w kd H b r) : RowG P w kd H' b r :=
  let ⟨kvs, d, p⟩ := h
  ⟨kvs, s.dx hf hw hb d, Paired.mapP p fun _ _ ⟨e, x⟩ => ⟨e, x.mono (s.tups hf hw)⟩⟩
theorem paired_last {α β : Type} {F : α → β → Prop} : ∀ {bs : List α} {xs : List β} {x : β}, Paired F bs (xs ++ [x]) → ∃ cs c, bs = cs ++ [c] ∧ Paired F cs xs ∧ F c x
  | _, [], x, h => by
    cases h with
    | cons h t => cases t; exact ⟨[], _, rfl, .nil, h⟩
  | _, y :: xs, x, h => by
    cases h with
    | cons h t =>
      obtain ⟨cs, c, rfl, h1, h2⟩ := paired_last t
      exact ⟨_ :: cs, c, rfl, .cons h h1, h2⟩
theorem paired_append {α β : Type} {F : α → β → Prop} : ∀ {as : List α} {bs : List β} {cs : List α} {ds : List β}, Paired F as bs → Paired F cs ds → Paired F (as ++ cs) (bs ++ ds)
  | _, _, _, _, .nil, h => h
  | _, _, _, _, .cons x t, h => .cons x (paired_append t h)
theorem keys_few {n m : Nat} {ks : List OP} (nd : ks.Nodup) (h : ∀ k ∈ ks, InR n k.1 ∧ InR m k.2) : ks.length ≤ (n + 1) * (m + 1) := by
  obtain ⟨r, hr⟩ := nodup_sub (l2 := optPairs n m) nd fun k hk => List.mem_flatMap.mpr ⟨k.1, mem_opts (h k hk).1, List.mem_map.mpr ⟨k.2, mem_opts (h k hk).2, rfl⟩⟩
  have := hr.length_eq
  rw [len_optPairs, List.length_append] at this
  omega
/-- what is known of one found row -/
structure FR (both : Bool) (d : Nat) (A B : List IRow) (g : OP × GRow) : Prop where
  ia : InR A.length g.1.1
  ib : InR B.length g.1.2
  nd : (g.2.map (·.1)).Nodup
  lw : ∀ l ∈ g.2.map (·.1), Lw d l
  few : g.2.length ≤ 32
  at_ : ∀ l, at1 g.2 l = (prF both A B g.1 l).map pko
theorem FR.goals {both : Bool} {d : Nat} {A B : List IRow} {g : OP × GRow} (h : FR both d A B g) : ∀ p ∈ g.2, ∃ x, p.2 = pko x ∧ prF both A B g.1 p.1 = some x := by
  intro p hp
  have e := at1_mem h.nd hp
  rw [h.at_] at e
  obtain ⟨x, h1, h2⟩ := Option.map_eq_some_iff.mp e
  exact ⟨x, h2.symm, h1⟩
abbrev PendL (H : Hp) : List Addr → List OP → Prop := Paired fun b x => H b = some (.tup [oV x.1, oV x.2])
theorem goals_list {H : Hp} {F : Ltr → Option OP} : ∀ {kvs : List (NestedKey × V)} {r : GRow}, GP .t H kvs r → (∀ p ∈ r, ∃ x, p.2 = pko x ∧ F p.1 = some x) → ∃ bs xs, kvs.map (·.2) = bs.map V.ref ∧ PendL H bs xs ∧ (∀ p ∈ r, ∀ x, p.2 = pko x → x ∈ xs) ∧ (∀ x ∈ xs, ∃ l, F l = some x)
  | _, _, .nil, _ => ⟨[], [], rfl, .nil, fun _ h => (nomatch h), fun _ h => (nomatch h)⟩
  | _, _, .cons (a := q) (b := p) h t, hf => by
    obtain ⟨bs, xs, e1, e2, e3, e4⟩ := goals_list t fun p hp => hf p (List.mem_cons_of_mem _ hp)
    obtain ⟨x, ex, fx⟩ := hf p List.mem_cons_self
    have hk := h.2
    rw [ex] at hk
    obtain ⟨b, hb, hbt⟩ := keyV_pko.mp hk
    refine ⟨b :: bs, x :: xs, by rw [List.map_cons, hb, e1]; rfl, .cons hbt e2, fun p' hp' x' ex' => ?_, fun x' hx' => ?_⟩
    · rcases List.mem_cons.mp hp' with rfl | hp'
      · rw [ex] at ex'
        rw [pko_inj ex']
        exact List.mem_cons_self
      · exact List.mem_cons_of_mem _ (e3 _ hp' _ ex')
    · rcases List.mem_cons.mp hx' with rfl | hx'
      · exact ⟨_, fx⟩
      · exact e4 _ hx'
section
variable {P : Program} {w : World} {K : PySem.W.Frag} {mg : Str → Option Value} {base : Heap}
abbrev sMet : Stmt := top 29
abbrev nMet : List Str := ["one", "other", "is_both", "found", "waiting", "pair", "row"]
theorem sc29 : FnScope nMet ["one", "other", "is_both"] (defScope sMet) := ⟨rfl, rfl, rfl, by decide +kernel, rfl, by decide +kernel, by decide +kernel⟩
def spMet (P : Program) (w : World) (C : Addr) : Sp := fun vs H Q _ => ∃ (p q : Addr) (d : Nat) (A B : List IRow) (both : Bool), vs = [.ref p, .ref q, .bl both] ∧ PatAt P w C H p d A ∧ PatAt P w C H q d B ∧ GoesOk d A ∧ GoesOk d B ∧
  ∀ H' a (gs : List (OP × GRow)), Same H H' → GoesG P w .t H' a (gs.map fun g => (pko g.1, g.2)) → (gs.map (·.1)).Nodup → (some 0, some 0) ∈ gs.map (·.1) → (∀ g ∈ gs, FR both d A B g) → (∀ g ∈ gs, ∀ l x, prF both A B g.1 l = some x → x ∈ gs.map (·.1)) → Q (.ref a) H'
theorem ok_met {C : Addr} (B : Blt mg) (T : PatC K mg C) (D0 : Dn K mg "pair_row" sPairRow ["one", "other", "pair", "is_both"]) (G0 : FnOk P w K mg base CX0 1 D0.f D0.fd ["one", "other", "pair", "is_both"] (spPairRow P w C)) (D : Dn K mg "met_pairs" sMet ["one", "other", "is_both"]) :
    FnOk P w K mg base CX0 2 D.f D.fd ["one", "other", "is_both"] (spMet P w C) := by
  refine D.F.ok sc29 (fun vs H Q E h => ?_) (fun cdv A outer s H vs Q E hr h => ?_)
  · obtain ⟨p, q, d, A, B, both, rfl, _⟩ := h
    rfl
  · obtain ⟨p, q, d, A, B', both, rfl, hp, hq, okA, okB, k⟩ := h
    refine ⟨_, pss_cons (ps_set (i := 3) sc29.nd rfl (.inl rfl) pe_xnew)
      (pss_cons (ps_set (i := 4) sc29.nd rfl (.inl rfl) (pe_lst (pa_cons (pe_tup (pa_cons pe_int (pa_cons pe_int pa_nil))) pa_nil)))
      (pss_cons (ps_while PassesOwn.never (pt_cmpR (op_neE (u9 hr)) (pv 4) (pe_lst pa_nil) (nomark _))
        (pss_cons (ps_set (i := 5) sc29.nd rfl (.inl rfl) (pe_bm0 PySem.F.plainAttrs_list PySem.F.slot_list_pop PySem.F.type_list_pop mt_pop (pv 4)))
        (pss_one (ps_if (pt_cmp (pc_xnotin (u9 hr) (pv 5) (pv 3)))
          (pss_cons (ps_set (i := 6) sc29.nd rfl (.inl rfl) (pe_call G0 hr (by rfl) D0.g D0.F.kp D0.b .nil pass0 (pa_cons (pv 0) (pa_cons (pv 1) (pa_cons (pv 5) (pa_cons (pv 2) pa_nil))))))
          (pss_cons (ps_xput (u9 hr) (pv 3) (pv 5) (pv 6) rfl)
          (pss_one (ps_expr (pe_bm PySem.F.plainAttrs_list PySem.F.slot_list_extend PySem.F.type_list_extend mt_extend (pv 4) (pa_cons (pe_listVals (by rfl) (by rfl) B.list (pv 6)) pa_nil)))))) pss_nil))))
      (pss_one (ps_ret (pv 3))))), ?_⟩
    intro fd u0 hfd hx0
    refine ⟨le2, fun b0 hb0 => ⟨le1, fun wl hwl => ?_⟩⟩
    obtain ⟨H3, eH3⟩ : ∃ H3, upd (upd (upd H fd u0) b0 (.tup [.int 0, .int 0])) wl (.lst [.ref b0]) = H3 := ⟨_, rfl⟩
    have t1 := same_upd (o := .tup [.int 0, .int 0]) hb0
    have t2 := same_upd (o := .lst [.ref b0]) hwl
    rw [eH3] at t2
    have s13 := Same.trans t1 t2
    have sH3 : Same H H3 := Same.trans (same_upd hfd) s13
    have dx3 : DX P w .t H3 fd [] := (hx0 .t).same s13
    have hb3 : H3 b0 = some (.tup [oV (some 0), oV (some 0)]) := t2 _ _ upd_same
    have hw3 : H3 wl = some (.lst [.ref b0]) := by rw [← eH3]; exact upd_same
    have nwl : H wl = none := Same.free (Same.trans (same_upd hfd) t1) hwl
    obtain ⟨M, hM⟩ : ∃ M, (A.length + 1) * (B'.length + 1) = M := ⟨_, rfl⟩
    have M3721 : M ≤ 3721 := by
      rw [← hM]
      have h1 := okA.2.2
      have h2 := okB.2.2
      calc (A.length + 1) * (B'.length + 1) ≤ 61 * 61 := Nat.mul_le_mul (by omega) (by omega)
        _ = 3721 := rfl
    obtain ⟨Inv0, hInv⟩ : ∃ Inv0 : List (OP × GRow) → List OP → L2.St → Hp → Prop, Inv0 = fun gs xs σ H' => ∃ kvs bs x5 x6, σ = [some (.ref p), some (.ref q), some (.bl both), some (.ref fd), some (.ref wl), x5, x6] ∧ Same H H' ∧ DX P w .t H' fd kvs ∧
      Paired (fun (q : NestedKey × V) (g : OP × GRow) => q.1 = pko g.1 ∧ ∃ b, q.2 = .ref b ∧ b ≠ fd ∧ RowG P w .t H' b g.2) kvs gs ∧ H' wl = some (.lst (bs.map V.ref)) ∧ PendL H' bs xs ∧
      (gs.map (·.1)).Nodup ∧ (∀ g ∈ gs, FR both d A B' g) ∧ (∀ x ∈ xs, InR A.length x.1 ∧ InR B'.length x.2) ∧ ((some 0, some 0) ∈ gs.map (·.1) ∨ (some 0, some 0) ∈ xs) ∧ (∀ g ∈ gs, ∀ l x, prF both A B' g.1 l = some x → x ∈ gs.map (·.1) ∨ x ∈ xs) ∧ xs.length ≤ 1 + 32 * gs.length := ⟨_, rfl⟩
    have has : ∀ {kvs : List (NestedKey × V)} {gs : List (OP × GRow)} {Hx : Hp}, Paired (fun (q : NestedKey × V) (g : OP × GRow) => q.1 = pko g.1 ∧ ∃ b, q.2 = .ref b ∧ b ≠ fd ∧ RowG P w .t Hx b g.2) kvs gs → ∀ x, (valV kvs (pko x)).isSome = decide (x ∈ gs.map (·.1)) := fun {kvs gs Hx} hp x => by
      have ek : kvs.map (·.1) = (gs.map (·.1)).map pko := by
        rw [List.map_map]
        exact paired_map1 (fun a b x => x.1) hp
      by_cases e : x ∈ gs.map (·.1)
      · rw [decide_eq_true e]
        exact valV_mem (by rw [ek]; exact List.mem_map.mpr ⟨x, e, rfl⟩)
      · rw [decide_eq_false e, valV_not_mem]
        · rfl
        · rw [ek]
          intro z
          obtain ⟨q, hq, e2⟩ := List.mem_map.mp z
          rw [pko_inj e2] at hq
          exact e hq
    refine ⟨fun m σ H' => ∃ gs xs, Inv0 gs xs σ H' ∧ 33 * (M - gs.length) + xs.length = m, ⟨_, [], [(some 0, some 0)], ?_, rfl⟩, fun m σ H' hW => ?_⟩
    · rw [hInv]
      have h0 : (0 : Int) < A.length := by have := okA.2.1; omega
      have h0' : (0 : Int) < B'.length := by have := okB.2.1; omega
      show ∃ kvs bs x5 x6, _ = _ ∧ Same H (upd (upd (upd H fd u0) b0 _) wl _) ∧ _
      rw [eH3]
      refine ⟨[], [b0], none, none, rfl, sH3, dx3, .nil, hw3, .cons hb3 .nil, List.nodup_nil, fun _ h => (nomatch h), fun x hx => ?_, .inr List.mem_cons_self, fun _ h => (nomatch h), by decide⟩
      rw [List.mem_singleton.mp hx]
      refine ⟨fun i e => ?_, fun i e => ?_⟩
      · cases e
        exact ⟨Int.le_refl _, h0⟩
      · cases e
        exact ⟨Int.le_refl _, h0'⟩
    obtain ⟨gs, xs, hI, hm⟩ := hW
    rw [hInv] at hI
    obtain ⟨kvs, bs, x5, x6, rfl, s1, dx, hgs, hwl', hbs, nd, fr, rng, h00, cl, hlen⟩ := hI
    have few : gs.length ≤ M := by
      rw [← hM, ← List.length_map (f := fun g : OP × GRow => g.1)]
      refine keys_few nd fun x hx => ?_
      obtain ⟨g, hg, rfl⟩ := List.mem_map.mp hx
      exact ⟨(fr g hg).ia, (fr g hg).ib⟩
    refine ⟨_, rfl, Nat.zero_le _, fun e0 he0 => ?_⟩
    have se := same_upd (o := .lst []) he0
    refine ⟨wl, e0, _, rfl, rfl, se _ _ hwl', upd_same, _, rfl, ?_⟩
    rcases List.eq_nil_or_concat xs with rfl | ⟨xs, x, ex⟩
    · cases hbs
      refine no ⟨_, rfl, ?_⟩
      refine k _ fd gs (Same.trans s1 se) ⟨kvs, dx.same se, ?_⟩ nd (h00.elim id fun z => nomatch z) fr fun g hg l x hx => (cl g hg l x hx).elim id fun z => nomatch z
      have : ∀ {kvs : List (NestedKey × V)} {gs : List (OP × GRow)}, Paired (fun (q : NestedKey × V) (g : OP × GRow) => q.1 = pko g.1 ∧ ∃ b, q.2 = .ref b ∧ b ≠ fd ∧ RowG P w .t H' b g.2) kvs gs → Paired (fun (q : NestedKey × V) (p : NestedKey × GRow) => q.1 = p.1 ∧ ∃ b, q.2 = .ref b ∧ RowG P w .t (upd H' e0 (.lst [])) b p.2) kvs (gs.map fun g => (pko g.1, g.2)) := by
        intro kvs gs h
        induction h with
        | nil => exact .nil
        | cons h t ih =>
          obtain ⟨h1, b, h2, _, h3⟩ := h
          exact .cons ⟨h1, b, h2, h3.same se⟩ ih
      exact this hgs
    · rw [List.concat_eq_append] at ex
      subst ex
      obtain ⟨bs, b, rfl, hbs, hbx⟩ := paired_last hbs
      rw [show (!((bs ++ [b]).map V.ref).isEmpty) = true by simp]
      refine ys ⟨fun σ' H2 => ∃ gs' xs', Inv0 gs' xs' σ' H2 ∧ 33 * (M - gs'.length) + xs'.length < m, fun σ' H2 ⟨gs', xs', h1, h2⟩ => ⟨_, h2, gs', xs', h1, rfl⟩, ?_⟩
      have hf0 := dx.ext
      have rx := rng x (by simp)
      refine ⟨_, rfl, .inl ⟨rfl, _, SqL.of (se _ _ hwl')⟩, wl, _, .ref b, rfl, rfl, se _ _ hwl', by simp, ?_⟩
      have tw : Two fd wl H' (upd (upd H' e0 (.lst [])) wl (.lst ((bs ++ [b]).map V.ref).dropLast)) := (Two.of_same se).trans Two.wl
      have ew : (upd (upd H' e0 (.lst [])) wl (.lst ((bs ++ [b]).map V.ref).dropLast)) wl = some (.lst (bs.map V.ref)) := by
        rw [upd_same]
        simp
      have s4 : Same H (upd (upd H' e0 (.lst [])) wl (.lst ((bs ++ [b]).map V.ref).dropLast)) := Same.put (Same.trans s1 se) nwl
      obtain ⟨H4, eH4⟩ : ∃ H4, upd (upd H' e0 (.lst [])) wl (.lst ((bs ++ [b]).map V.ref).dropLast) = H4 := ⟨_, rfl⟩
      rw [eH4] at tw ew s4 ⊢
      have nfw : fd ≠ wl := fun e => by
        obtain ⟨φ, h⟩ := hf0
        rw [e, hwl'] at h
        cases h
      have tu := tw.tups hf0 hwl'
      have dx4 : DX P w .t H4 fd kvs := dx.mono tu fun o e => by
        rw [← eH4, upd_ne nfw]
        exact se _ _ e
      have hb4 := tu _ _ hbx
      have ky : KeyV .t H4 (pko x) (.ref b) := keyV_pko.mpr ⟨b, rfl, hb4⟩
      have pend4 : PendL H4 bs xs := Paired.mapP hbs fun _ _ e => tu _ _ e
      have gs4 : Paired (fun (q : NestedKey × V) (g : OP × GRow) => q.1 = pko g.1 ∧ ∃ b, q.2 = .ref b ∧ b ≠ fd ∧ RowG P w .t H4 b g.2) kvs gs := Paired.mapP hgs fun _ _ ⟨e1, b, e2, n, r⟩ => ⟨e1, b, e2, n, tw.row hf0 hwl' n r⟩
      refine ⟨_, rfl, _, rfl, fd, .t, kvs, pko x, rfl, dx4, ky, _, rfl, ?_⟩
      rw [has hgs]
      have lxs : xs.length + 1 = (xs ++ [x]).length := by simp
      by_cases hx : x ∈ gs.map (·.1)
      · rw [decide_eq_true hx]
        refine no ⟨gs, xs, ?_, by omega⟩
        rw [hInv]
        refine ⟨kvs, bs, _, _, rfl, s4, dx4, gs4, ew, pend4, nd, fr, fun y hy => rng y (by simp [hy]), ?_, fun g hg l y hy => ?_, by omega⟩
        · rcases h00 with h | h
          · exact .inl h
          · rcases List.mem_append.mp h with h | h
            · exact .inr h
            · rw [List.mem_singleton.mp h]
              exact .inl hx
        · rcases cl g hg l y hy with h | h
          · exact .inl h
          · rcases List.mem_append.mp h with h | h
            · exact .inr h
            · rw [List.mem_singleton.mp h]
              exact .inl hx
      · rw [decide_eq_false hx]
        refine ys ?_
        refine ⟨_, rfl, _, rfl, _, rfl, _, rfl, p, q, b, d, A, B', x, both, rfl, hp.same s4, hq.same s4, okA, okB, hb4, rx.1, rx.2, fun H5 a r s5 ha hr nr lw fw hat => ?_⟩
        have frx : FR both d A B' (x, r) := ⟨rx.1, rx.2, nr, lw, fw, hat⟩
        have dx5 := dx4.same s5
        have hf5 := dx5.ext
        have naf : a ≠ fd := fun e => by
          obtain ⟨φ, h⟩ := dx4.ext
          rw [← e, ha] at h
          cases h
        have hw5 := s5 _ _ ew
        have lkv : kvs.length = gs.length := Paired.length hgs
        refine ⟨_, rfl, _, rfl, _, rfl, fd, .t, kvs, pko x, rfl, dx5, ky.mono (Tups.of_same s5), small_of (by omega), fun u hx2 => ?_⟩
        have v0 : valV kvs (pko x) = none := by
          have := has hgs x
          rw [decide_eq_false hx] at this
          cases e : valV kvs (pko x) with
          | none => rfl
          | some y => rw [e] at this; cases this
        rw [putK_new _ v0] at hx2
        have tw6 : Two fd wl H5 (upd H5 fd u) := Two.fd
        have hw6 : (upd H5 fd u) wl = some (.lst (bs.map V.ref)) := by rw [upd_ne nfw.symm]; exact hw5
        obtain ⟨kvr, dr, gpr⟩ := id (tw6.row hf5 hw5 naf hr)
        refine ⟨_, rfl, .inl ⟨rfl, _, SqL.of hw6⟩, _, rfl, a, .t, kvr, rfl, dr, fun z hz => ?_⟩
        have sz := same_upd (o := .lst (kvr.map (·.2))) hz
        have lkr : kvr.length = r.length := Paired.length gpr
        have lbs : bs.length = xs.length := Paired.length hbs
        refine ⟨wl, z, _, _, rfl, rfl, sz _ _ hw6, upd_same, by rw [List.length_map, List.length_map]; exact Nat.le_of_lt (small6 (by omega)), ?_⟩
        obtain ⟨cs, ys2, ecs, pcs, g1, g2⟩ := goals_list gpr frx.goals
        have hf6 := hx2.ext
        have tw8 : Two fd wl (upd H5 fd u) (upd (upd (upd H5 fd u) z (.lst (kvr.map (·.2)))) wl (.lst (bs.map V.ref ++ kvr.map (·.2)))) := (Two.of_same sz).trans Two.wl
        have tu8 := tw8.tups hf6 hw6
        have tu58 : Tups H5 (upd H5 fd u) := tw6.tups hf5 hw5
        refine ⟨gs ++ [(x, r)], xs ++ ys2, ?_, ?_⟩
        · rw [hInv]
          refine ⟨kvs ++ [(pko x, .ref a)], bs ++ cs, _, _, rfl, ?_, ?_, ?_, ?_, ?_, ?_, ?_, ?_, ?_, ?_, ?_⟩
          · exact Same.put (Same.trans (Same.put (Same.trans s4 s5) hfd) sz) nwl
          · refine hx2.mono tu8 fun o e => ?_
            rw [upd_ne nfw]
            exact sz _ _ e
          · refine Paired.snoc (Paired.mapP gs4 fun _ _ ⟨e1, b, e2, n, rr⟩ => ⟨e1, b, e2, n, tw8.row hf6 hw6 n (tw6.row hf5 hw5 n (rr.same s5))⟩) ⟨rfl, a, rfl, naf, tw8.row hf6 hw6 naf ⟨kvr, dr, gpr⟩⟩
          · rw [upd_same, List.map_append, ecs]
          · exact paired_append (Paired.mapP pend4 fun _ _ e => tu8 _ _ (tu58 _ _ (s5 _ _ e))) (Paired.mapP pcs fun _ _ e => tu8 _ _ e)
          · rw [List.map_append, List.nodup_append]
            refine ⟨nd, by simp, fun y hy z hz2 => ?_⟩
            have : z = x := by simpa using hz2
            rw [this]
            rintro rfl
            exact hx hy
          · intro g hg
            rcases List.mem_append.mp hg with hg | hg
            · exact fr g hg
            · rw [List.mem_singleton.mp hg]
              exact frx
          · intro y hy
            rcases List.mem_append.mp hy with hy | hy
            · exact rng y (by simp [hy])
            · obtain ⟨l, hl⟩ := g2 y hy
              exact prF_in okA okB rx.1 rx.2 hl
          · rw [List.map_append, List.mem_append, List.mem_append]
            rcases h00 with h | h
            · exact .inl (.inl h)
            · rcases List.mem_append.mp h with h | h
              · exact .inr (.inl h)
              · rw [List.mem_singleton.mp h]
                exact .inl (.inr (by simp))
          · intro g hg l y hy
            rw [List.map_append, List.mem_append, List.mem_append]
            rcases List.mem_append.mp hg with hg | hg
            · rcases cl g hg l y hy with h | h
              · exact .inl (.inl h)
              · rcases List.mem_append.mp h with h | h
                · exact .inr (.inl h)
                · rw [List.mem_singleton.mp h]
                  exact .inl (.inr (by simp))
            · rw [List.mem_singleton.mp hg] at hy
              have e := hat l
              rw [show prF both A B' x l = some y from hy] at e
              exact .inr (.inr (g1 _ (at1_some e) y rfl))
          · have l1 : cs.length = kvr.length := by
              have := congrArg List.length ecs
              simpa using this.symm
            have l2 : cs.length = ys2.length := Paired.length pcs
            rw [List.length_append, List.length_append, List.length_singleton]
            omega
        · have l1 : cs.length = kvr.length := by
            have := congrArg List.length ecs
            simpa using this.symm
          have l2 : cs.length = ys2.length := Paired.length pcs
          have few2 : gs.length + 1 ≤ M := by
            have h := keys_few (n := A.length) (m := B'.length) (ks := x :: gs.map (·.1)) (List.nodup_cons.mpr ⟨hx, nd⟩) fun y hy => by
              rcases List.mem_cons.mp hy with rfl | hy
              · exact rx
              · obtain ⟨g, hg, rfl⟩ := List.mem_map.mp hy
                exact ⟨(fr g hg).ia, (fr g hg).ib⟩
            rw [List.length_cons, List.length_map, hM] at h
            exact h
          rw [List.length_append, List.length_append, List.length_singleton]
          omega
end
end WW


set_option maxHeartbeats 2000000

namespace WW
open PySem PySem.Spec PyProof.Rows L2
def NamesA (P : Program) (w : World) (kd : Kd) (H : Hp) (n : Addr) (gs : List (NestedKey × GRow)) (nm : NestedKey → Int) : Prop := DX P w kd H n (gs.map fun g => (g.1, V.int (nm g.1)))
def signL (nm : NestedKey → Int) (r : GRow) : List (Ltr × Int) := r.map fun p => (p.1, nm p.2)
def SignEq (nm : NestedKey → Int) (r1 r2 : GRow) : Prop := (signL nm r1).Perm (signL nm r2)
structure GOk (d : Nat) (gs : List (NestedKey × GRow)) : Prop where
  nd : (gs.map (·.1)).Nodup
  rnd : ∀ g ∈ gs, (g.2.map (·.1)).Nodup
  lw : ∀ g ∈ gs, ∀ l ∈ g.2.map (·.1), Lw d l
  few : ∀ g ∈ gs, g.2.length ≤ 32
  cl : ∀ g ∈ gs, ∀ p ∈ g.2, p.2 ∈ gs.map (·.1)
  len : gs.length ≤ 3721
def sgnK (nm : NestedKey → Int) (r : GRow) : NestedKey := .tup (((signL nm r).map sgk).mergeSort keyLe)
theorem sgn_perm (nm : NestedKey → Int) (r : GRow) : (((signL nm r).map sgk).mergeSort keyLe).Perm ((signL nm r).map sgk) := List.mergeSort_perm _ _
theorem sgn_sorted (nm : NestedKey → Int) (r : GRow) : (((signL nm r).map sgk).mergeSort keyLe).Pairwise fun x y => keyLe x y = true :=
  List.pairwise_mergeSort (le := keyLe) (fun _ _ _ h1 h2 => keyLe_trans h1 h2) (fun a b => by rcases keyLe_total a b with h | h <;> simp [h]) _
theorem alike_sgks (nm : NestedKey → Int) (r : GRow) : ∀ a ∈ (signL nm r).map sgk, ∀ b ∈ (signL nm r).map sgk, PySem.W.alike a.data b.data = true := by
  intro a ha b hb
  obtain ⟨x, _, rfl⟩ := List.mem_map.mp ha
  obtain ⟨y, _, rfl⟩ := List.mem_map.mp hb
  exact alike_sgk x y
theorem sgn_is {nm : NestedKey → Int} {r : GRow} {ks : List NestedKey} (p : ks.Perm ((signL nm r).map sgk)) (h : ks.Pairwise fun x y => keyLe x y = true) : NestedKey.tup ks = sgnK nm r := by
  unfold sgnK
  congr 1
  exact sorted_unique (fun a ha b hb => alike_sgks nm r a (p.mem_iff.mp ha) b (p.mem_iff.mp hb)) (p.trans (sgn_perm nm r).symm) h (sgn_sorted nm r)
theorem sgn_eq {nm : NestedKey → Int} {r1 r2 : GRow} : sgnK nm r1 = sgnK nm r2 ↔ SignEq nm r1 r2 := by
  constructor
  · intro h
    unfold sgnK at h
    injection h with h
    have p : ((signL nm r1).map sgk).Perm ((signL nm r2).map sgk) := (sgn_perm nm r1).symm.trans (h ▸ sgn_perm nm r2)
    obtain ⟨l, p2, e⟩ := perm_map (f := sgk) p (signL nm r2) rfl
    have : l = signL nm r1 := ((List.map_inj_right (fun _ _ => sgk_inj)).mp e).symm
    rw [this] at p2
    exact p2
  · intro h
    have p : (((signL nm r1).map sgk).mergeSort keyLe).Perm ((signL nm r2).map sgk) := (sgn_perm nm r1).trans (List.Perm.map sgk h)
    exact sgn_is p (sgn_sorted nm r1)
theorem sgk_depths : ∀ l : List (Ltr × Int), NestedKey.depthAll (l.map sgk) ≤ 3
  | [] => by simp [NestedKey.depthAll]
  | p :: l => by
    have h := sgk_depths l
    have h2 := depths_num p.1
    simp only [List.map_cons, NestedKey.depthAll, sgk, lk, NestedKey.depth]
    omega
theorem depthAll_mem {k : NestedKey} : ∀ {ks : List NestedKey}, k ∈ ks → k.depth ≤ NestedKey.depthAll ks
  | x :: ks, h => by
    rcases List.mem_cons.mp h with rfl | h
    · simp only [NestedKey.depthAll]; omega
    · have := depthAll_mem h
      simp only [NestedKey.depthAll]; omega
theorem depthAll_le {n : Nat} : ∀ {ks : List NestedKey}, (∀ k ∈ ks, k.depth ≤ n) → NestedKey.depthAll ks ≤ n
  | [], _ => by simp [NestedKey.depthAll]
  | x :: ks, h => by
    have h1 := h x List.mem_cons_self
    have h2 := depthAll_le fun k hk => h k (List.mem_cons_of_mem _ hk)
    simp only [NestedKey.depthAll]; omega
theorem sgn_depth (nm : NestedKey → Int) (r : GRow) : (sgnK nm r).depth ≤ 8 := by
  have : NestedKey.depthAll (((signL nm r).map sgk).mergeSort keyLe) ≤ 3 := depthAll_le fun k hk => Nat.le_trans (depthAll_mem ((sgn_perm nm r).mem_iff.mp hk)) (sgk_depths _)
  unfold sgnK
  simp only [NestedKey.depth]
  omega
theorem nvs_of_paired {H : Hp} : ∀ {ks : List NestedKey} {ys : List V}, Paired (NV H) ks ys → NVs H ks ys
  | _, _, .nil => rfl
  | _, _, .cons h t => ⟨_, _, rfl, h, nvs_of_paired t⟩
theorem sortOk_sgk (l : List (Ltr × Int)) : SortOk (l.map sgk) := by
  refine ⟨fun x hx y hy => ?_, .inl fun k hk => ?_, fun k hk => ?_⟩
  · obtain ⟨k, hk, rfl⟩ := List.mem_map.mp hx
    obtain ⟨k', hk', rfl⟩ := List.mem_map.mp hy
    obtain ⟨a, _, rfl⟩ := List.mem_map.mp hk
    obtain ⟨b, _, rfl⟩ := List.mem_map.mp hk'
    exact alike_sgk a b
  · obtain ⟨a, _, rfl⟩ := List.mem_map.mp hk
    exact ⟨_, _, rfl⟩
  · obtain ⟨a, _, rfl⟩ := List.mem_map.mp hk
    have := data_depth_num a.1
    simp only [sgk, lk, NestedKey.data, NestedKey.datas, PyData.depth, PyData.depthAll]
    omega
/-- the classes found so far, numbered -/
def kvC (cs : List NestedKey) : List (NestedKey × V) := cs.zipIdx.map fun c => (c.1, V.int ((c.2 : Nat) : Int))
theorem kvC_snoc (cs : List NestedKey) (c : NestedKey) : kvC (cs ++ [c]) = kvC cs ++ [(c, V.int ((cs.length : Nat) : Int))] := by
  unfold kvC
  rw [List.zipIdx_append, List.map_append]
  simp
theorem kvC_len (cs : List NestedKey) : (kvC cs).length = cs.length := by simp [kvC]
theorem kvC_keys (cs : List NestedKey) : (kvC cs).map (·.1) = cs := by
  unfold kvC
  rw [List.map_map]
  have : ∀ (l : List NestedKey) (n : Nat), (l.zipIdx n).map ((fun x : NestedKey × V => x.1) ∘ fun c : NestedKey × Nat => (c.1, V.int ((c.2 : Nat) : Int))) = l := by
    intro l
    induction l with
    | nil => intro n; rfl
    | cons a l ih =>
      intro n
      rw [List.zipIdx_cons, List.map_cons, ih (n + 1)]
      rfl
  exact this cs 0
theorem kvC_val {cs : List NestedKey} {c : NestedKey} (h : c ∈ cs) : valV (kvC cs) c = some (.int ((cs.idxOf c : Nat) : Int)) := by
  have : ∀ (l : List NestedKey) (n : Nat), c ∈ l → valV ((l.zipIdx n).map fun c : NestedKey × Nat => (c.1, V.int ((c.2 : Nat) : Int))) c = some (.int ((n + l.idxOf c : Nat) : Int)) := by
    intro l
    induction l with
    | nil => intro n h; simp at h
    | cons a l ih =>
      intro n h
      rw [List.zipIdx_cons, List.map_cons]
      by_cases e : a = c
      · rw [valV_pos e, e, List.idxOf_cons_self]
        rfl
      · have hi : (a :: l).idxOf c = l.idxOf c + 1 := by rw [List.idxOf_cons, beq_false_of_ne e]; rfl
        rw [valV_neg e, ih (n + 1) (List.mem_of_ne_of_mem (Ne.symm e) h), hi]
        congr 3
        omega
  have := this cs 0 h
  rw [Nat.zero_add] at this
  exact this
theorem names_val {gs : List (NestedKey × GRow)} {nm : NestedKey → Int} {k : NestedKey} (h : k ∈ gs.map (·.1)) : valV (gs.map fun g => (g.1, V.int (nm g.1))) k = some (.int (nm k)) := by
  induction gs with
  | nil => simp at h
  | cons g gs ih =>
    rw [List.map_cons]
    by_cases e : g.1 = k
    · rw [valV_pos e, e]
    · rw [valV_neg e]
      refine ih ?_
      rw [List.map_cons] at h
      rcases List.mem_cons.mp h with h | h
      · exact absurd h.symm e
      · exact h
theorem paired_maps {α β γ δ : Type} {R : γ → δ → Prop} {f : β → γ} {g : α → δ} : ∀ {ts : List α} {l : List β}, Paired (fun t q => R (f q) (g t)) ts l → Paired R (l.map f) (ts.map g)
  | _, _, .nil => .nil
  | _, _, .cons h t => .cons h (paired_maps t)
theorem kvC_has (cs : List NestedKey) (c : NestedKey) : (valV (kvC cs) c).isSome = decide (c ∈ cs) := by
  by_cases e : c ∈ cs
  · rw [decide_eq_true e, kvC_val e]
    rfl
  · rw [decide_eq_false e, valV_not_mem (by rw [kvC_keys]; exact e)]
    rfl
section
variable {P : Program} {w : World} {K : PySem.W.Frag} {mg : Str → Option Value} {base : Heap}
abbrev sClasses : Stmt := top 30
abbrev nClasses : List Str := ["goes", "names", "known", "later", "key", "row", "sign", "letter", "goal"]
theorem sc30 : FnScope nClasses ["goes", "names"] (defScope sClasses) := ⟨rfl, rfl, rfl, by decide +kernel, rfl, by decide +kernel, by decide +kernel⟩
def spClasses (P : Program) (w : World) : Sp := fun vs H Q _ => ∃ (kd : Kd) (a n : Addr) (d : Nat) (gs : List (NestedKey × GRow)) (nm : NestedKey → Int), vs = [.ref a, .ref n] ∧ GoesG P w kd H a gs ∧ NamesA P w kd H n gs nm ∧ GOk d gs ∧
  ∀ H' m nm', Same H H' → NamesA P w kd H' m gs nm' → (∀ g1 ∈ gs, ∀ g2 ∈ gs, nm' g1.1 = nm' g2.1 ↔ SignEq nm g1.2 g2.2) → Q (.ref m) H'
theorem ok_classes (B : Blt mg) (D : Dn K mg "classes_by" sClasses ["goes", "names"]) : FnOk P w K mg base CX0 1 D.f D.fd ["goes", "names"] (spClasses P w) := by
  refine D.F.ok sc30 (fun vs H Q E h => ?_) (fun cdv A outer s H vs Q E hr h => ?_)
  · obtain ⟨kd, a, n, d, gs, nm, rfl, _⟩ := h
    rfl
  · obtain ⟨kd, a, n, d, gs, nm, rfl, hG, hN, ok, k⟩ := h
    refine ⟨_, pss_cons (ps_set (i := 2) sc30.nd rfl (.inl rfl) pe_xnew)
      (pss_cons (ps_set (i := 3) sc30.nd rfl (.inl rfl) pe_xnew)
      (pss_cons (ps_for PassesOwn.never rfl (pi_xi (pv 0)) (pg_tup rfl (pgs_cons (pg_name (i := 4) sc30.nd rfl (.inl rfl)) (pgs_cons (pg_name (i := 5) sc30.nd rfl (.inl rfl)) pgs_nil)))
        (pss_cons (ps_set (i := 6) sc30.nd rfl (.inl rfl) (pe_callTy call_tuple_of (by rfl) B.tuple (by decide +kernel) (pa_cons (pe_callB (call_srt rfl (u30 hr)) (by rfl) B.sorted (by decide +kernel) (pa_cons
            (pe_lc (own := [("letter", 7), ("goal", 8)]) (g := gTup K 2 (gCons (gName 7) (gCons (gName 8) gNil))) (tt := tYes) (te := tTup (tCons (tVar 7) (tCons (tXGet P w (tVar 1) (tVar 8)) tNil))) (by rfl) sc30.nd (pi_xi (pv 5)) (blkOk_by (own := [("letter", 7), ("goal", 8)]) (N := nClasses) (sc := defScope sClasses) (by decide +kernel))
              (fun _ _ _ _ _ => pg_tup rfl (pgs_cons (pg_name (i := 7) sc30.nd rfl (Or.inl rfl)) (pgs_cons (pg_name (i := 8) sc30.nd rfl (Or.inl rfl)) pgs_nil))) (fun _ _ _ _ _ => pts_nil)
              (fun _ _ _ _ _ => pe_tup (pa_cons (pv 7) (pa_cons (pe_xget (u9 hr) (pv 1) (pv 8) (fun _ _ => rfl)) pa_nil)))) pa_nil)) pa_nil)))
        (pss_cons (ps_if (pt_cmp (pc_xnotin (u9 hr) (pv 6) (pv 2))) (pss_one (ps_xput (u9 hr) (pv 2) (pv 6) (pe_callB call_lenX (by rfl) B.len PySem.boot_len (pa_cons (pv 2) pa_nil)) rfl)) pss_nil)
        (pss_one (ps_xput (u9 hr) (pv 3) (pv 4) (pe_xget (u9 hr) (pv 2) (pv 6) (fun _ _ => rfl)) rfl)))))
      (pss_one (ps_ret (pv 3))))), ?_⟩
    intro kn u0 hkn hx0 lt u1 hlt hx1
    have nlk : lt ≠ kn := fun e => by
      rw [e] at hlt
      obtain ⟨φ, e2⟩ := (hx0 .t).ext
      rw [hlt] at e2
      cases e2
    have hlt0 : H lt = none := by
      rw [upd_ne nlk] at hlt
      exact hlt
    obtain ⟨kvg, dg, pg⟩ := id hG
    obtain ⟨o, d1⟩ := dg.one
    have lkg : kvg.length = gs.length := Paired.length pg
    have hlen := ok.len
    have s02 : Same H (upd (upd H kn u0) lt u1) := Same.put (same_upd hkn) hlt0
    refine ⟨_, rfl, a, kd, o, kvg, rfl, d1.same s02, for_it (n := gs.length) (fun j σ H' => ∃ cs x4 x5 x6 x7 x8, σ = [some (.ref a), some (.ref n), some (.ref kn), some (.ref lt), x4, x5, x6, x7, x8] ∧ Same H H' ∧ DX P w .t H' kn (kvC cs) ∧
        DX P w kd H' lt ((gs.take j).map fun g => (g.1, V.int ((cs.idxOf (sgnK nm g.2) : Nat) : Int))) ∧ cs.Nodup ∧ (∀ g ∈ gs.take j, sgnK nm g.2 ∈ cs) ∧ cs.length ≤ j) ?_ (fun j σ H' hj pj => ?_) (fun σ H' pj => ?_) (fun j σ H' x H3 hj pj y => ?_) fun σ H' pj => ?_⟩
    · exact ⟨[], none, none, none, none, none, rfl, s02, (hx0 .t).same (same_upd hlt), hx1 kd, List.nodup_nil, fun _ h => by simp at h, Nat.le_refl _⟩
    · obtain ⟨_, _, _, _, _, _, _, sm, _⟩ := pj
      exact ⟨d1.same sm, by omega⟩
    · obtain ⟨_, _, _, _, _, _, _, sm, _⟩ := pj
      exact ⟨d1.same sm, by omega⟩
    · obtain ⟨T0, k0, v0, y0, hk0, ky0, rfl, hT, rfl⟩ := y
      obtain ⟨cs, x4, x5, x6, x7, x8, rfl, sm, dk, dl, nd, hin, hcl⟩ := pj
      obtain ⟨g, hg0, ek, rb, er, hrow⟩ := paired_get1 pg hk0
      have ek : k0 = g.1 := ek
      have er : v0 = .ref rb := er
      subst ek er
      have sT := same_upd (o := .tup [y0, V.ref rb]) hT
      have sm := Same.trans sm sT
      have dk := dk.same sT
      have dl := dl.same sT
      have ky0 := KeyV.mono (Tups.of_same sT) ky0
      have hTe : (upd H' T0 (.tup [y0, .ref rb])) T0 = some (.tup [y0, .ref rb]) := upd_same
      obtain ⟨H2, hH2⟩ : ∃ H2, upd H' T0 (.tup [y0, .ref rb]) = H2 := ⟨_, rfl⟩
      rw [hH2] at sT sm dk dl ky0 hTe ⊢
      have gm : g ∈ gs := List.mem_of_getElem? hg0
      refine ⟨T0, _, rfl, .inl (.inl hTe), rfl, _, _, rfl, _, _, rfl, rfl, ?_⟩
      obtain ⟨kvr, dr, gpr⟩ := id (hrow.same sm)
      obtain ⟨orr, dr1⟩ := dr.one
      have lkr : kvr.length = g.2.length := Paired.length gpr
      have fg := ok.few g gm
      refine ⟨_, rfl, rb, .t, orr, kvr, rfl, dr1, fun D hD => lc_it (n := g.2.length) (fun m Hm => Same H2 Hm ∧ ∃ ts : List Addr, Hm D = some (.lst (ts.map V.ref)) ∧ Paired (fun t q => NV Hm (sgk q) (.ref t)) ts (signL nm (g.2.take m))) ⟨same_upd hD, [], upd_same, .nil⟩
        (fun m Hm hm pm => ⟨dr1.same pm.1, by omega⟩) (fun Hm pm => ⟨dr1.same pm.1, by omega⟩) (fun m Hm x Hn hm pm y => ?_) fun Hm pm => ?_⟩
      · obtain ⟨T1, k1, v1, y1, hk1, ky1, rfl, hT1, rfl⟩ := y
        obtain ⟨s2m, ts, hDl, pts⟩ := pm
        obtain ⟨p0, hp0, ek1, kv1⟩ := paired_get1 gpr hk1
        have ek1 : k1 = lk p0.1 := ek1
        have kv1 : KeyV kd H2 p0.2 v1 := kv1
        subst ek1
        have s1 := same_upd (o := .tup [y1, v1]) hT1
        have s2n := Same.trans s2m s1
        have ky1 := KeyV.mono (Tups.of_same s1) ky1
        have hTe1 : (upd Hm T1 (.tup [y1, v1])) T1 = some (.tup [y1, v1]) := upd_same
        have hDl1 := s1 _ _ hDl
        have pts1 := Paired.mapP pts fun _ _ e => NV.mono (Tups.of_same s1) _ _ e
        obtain ⟨Hn, hHn⟩ : ∃ Hn, upd Hm T1 (.tup [y1, v1]) = Hn := ⟨_, rfl⟩
        rw [hHn] at s1 s2n ky1 hTe1 hDl1 pts1 ⊢
        obtain ⟨c, rfl, hc⟩ := keyV_lk.mp ky1
        have pm0 : p0 ∈ g.2 := List.mem_of_getElem? hp0
        have hN2 : NamesA P w kd Hn n gs nm := DX.same hN (Same.trans sm s2n)
        refine ⟨T1, _, rfl, .inl (.inl hTe1), rfl, _, _, rfl, _, _, rfl, rfl, rfl, yes ⟨_, rfl, _, rfl, _, rfl, n, kd, _, p0.2, .int (nm p0.2), rfl, hN2, kv1.mono (Tups.of_same s2n), names_val (ok.cl g gm p0 pm0), le2, fun t ht => ?_⟩⟩
        have st := same_upd (o := .tup [.ref c, .int (nm p0.2)]) ht
        have lts : ts.length ≤ m := by
          have := Paired.length pts
          unfold signL at this
          rw [List.length_map, List.length_take] at this
          omega
        have tD : ∀ xs, (upd Hn t (.tup [.ref c, .int (nm p0.2)])) D ≠ some (.tup xs) := tup_nat (st _ _ hDl1)
        refine ⟨_, st _ _ hDl1, by rw [List.length_map]; exact small1000 (by omega), Same.put (Same.trans s2n st) hD, ts ++ [t], by rw [upd_same, List.map_append]; rfl, ?_⟩
        rw [List.take_add_one, hp0]
        unfold signL at pts1 ⊢
        rw [List.map_append]
        refine Paired.snoc (Paired.mapP pts1 fun _ _ e => NV.mono (SamX.upd.tups tD) _ _ (NV.mono (Tups.of_same st) _ _ e)) ?_
        refine NV.mono (SamX.upd.tups tD) _ _ ?_
        exact ⟨t, _, rfl, upd_same, _, _, rfl, lk_of (st _ _ hc), _, _, rfl, rfl, rfl⟩
      · obtain ⟨s2m, ts, hDl, pts⟩ := pm
        rw [List.take_length] at pts
        refine ⟨D, (signL nm g.2).map sgk, rfl, .inr (.inl ⟨_, SqL.of hDl, paired_maps pts⟩), sortOk_sgk _, fun p zv ks' hp perm pw py => ⟨p, zv, rfl, .inl ⟨SqL.of upd_same, fun sg hsg => ?_⟩⟩⟩
        have sp := same_upd (o := .lst zv) hp
        have ss := same_upd (o := .tup zv) hsg
        have s2s := Same.trans s2m (Same.trans sp ss)
        have es := sgn_is perm pw
        have kys : KeyV .t (upd (upd Hm p (.lst zv)) sg (.tup zv)) (sgnK nm g.2) (.ref sg) := by
          rw [← es]
          refine ⟨sg, rfl, ⟨sg, zv, rfl, upd_same, ?_⟩, by rw [es]; exact sgn_depth _ _⟩
          exact nvs_of_paired (Paired.mapP py fun _ _ e => NV.mono (Tups.of_same (Same.trans sp ss)) _ _ e)
        have dk := dk.same s2s
        have dl := dl.same s2s
        have sm := Same.trans sm s2s
        have ky0 := KeyV.mono (Tups.of_same s2s) ky0
        obtain ⟨H4, hH4⟩ : ∃ H4, upd (upd Hm p (.lst zv)) sg (.tup zv) = H4 := ⟨_, rfl⟩
        rw [hH4] at kys dk dl sm ky0 ⊢
        refine ⟨_, rfl, _, rfl, kn, .t, _, sgnK nm g.2, rfl, dk, kys, _, rfl, ?_⟩
        rw [kvC_has]
        have fresh : g.1 ∉ (gs.take j).map (·.1) := take_fresh (f := fun p : NestedKey × GRow => p.1) ok.nd hg0
        have put : ∀ (cs' : List NestedKey) (Hc : Hp) (u : HO), sgnK nm g.2 ∈ cs' → DX P w kd (upd Hc lt u) lt (putK ((gs.take j).map fun g => (g.1, V.int ((cs'.idxOf (sgnK nm g.2) : Nat) : Int))) g.1 (.int ((cs'.idxOf (sgnK nm g.2) : Nat) : Int))) →
            DX P w kd (upd Hc lt u) lt ((gs.take (j + 1)).map fun g => (g.1, V.int ((cs'.idxOf (sgnK nm g.2) : Nat) : Int))) := fun cs' Hc u hm hx => by
          rw [putK_new _ (valV_not_mem (by rw [List.map_map]; exact fresh))] at hx
          rw [List.take_add_one, hg0, List.map_append]
          exact hx
        have inn : ∀ cs' : List NestedKey, (∀ c ∈ cs, c ∈ cs') → sgnK nm g.2 ∈ cs' → ∀ g' ∈ gs.take (j + 1), sgnK nm g'.2 ∈ cs' := fun cs' hs hm g' hg' => by
          rw [List.take_add_one, hg0] at hg'
          rcases List.mem_append.mp hg' with h | h
          · exact hs _ (hin _ h)
          · have : g' = g := by simpa using h
            rw [this]
            exact hm
        have lmap : ∀ cs' : List NestedKey, ((gs.take j).map fun g => (g.1, V.int ((cs'.idxOf (sgnK nm g.2) : Nat) : Int))).length < sizeLine := fun cs' => by
          rw [List.length_map, List.length_take]
          exact small6 (by omega)
        by_cases hs : sgnK nm g.2 ∈ cs
        · rw [decide_eq_true hs]
          refine no ?_
          refine ⟨_, rfl, _, rfl, kn, .t, _, sgnK nm g.2, _, rfl, dk, kys, kvC_val hs, _, rfl, _, rfl, lt, kd, _, g.1, rfl, dl, ky0, lmap cs, fun u hx2 => ?_⟩
          exact ⟨cs, _, _, _, _, _, rfl, Same.put sm hlt0, DX.upd_ne dl dk (Ne.symm nlk), put cs _ u hs hx2, nd, inn cs (fun _ h => h) hs, by omega⟩
        · rw [decide_eq_false hs]
          refine ys ?_
          refine ⟨_, rfl, kn, .t, _, rfl, dk, _, rfl, _, rfl, kn, .t, _, sgnK nm g.2, rfl, dk, kys, by rw [kvC_len]; exact small6 (by omega), fun u hx2 => ?_⟩
          have v0 : valV (kvC cs) (sgnK nm g.2) = none := valV_not_mem (by rw [kvC_keys]; exact hs)
          rw [putK_new _ v0, kvC_len, ← kvC_snoc] at hx2
          have dl5 := DX.upd_ne (u := u) dk dl nlk
          have tu := dk.tups (u := u)
          have hm : sgnK nm g.2 ∈ cs ++ [sgnK nm g.2] := List.mem_append_right _ List.mem_cons_self
          have emap : ((gs.take j).map fun g => (g.1, V.int ((cs.idxOf (sgnK nm g.2) : Nat) : Int))) = (gs.take j).map fun g' => (g'.1, V.int (((cs ++ [sgnK nm g.2]).idxOf (sgnK nm g'.2) : Nat) : Int)) := by
            refine List.map_congr_left fun g' hg' => ?_
            rw [List.idxOf_append, if_pos (hin g' hg')]
          rw [emap] at dl5
          refine ⟨_, rfl, _, rfl, kn, .t, _, sgnK nm g.2, _, rfl, hx2, kys.mono tu, kvC_val hm, _, rfl, _, rfl, lt, kd, _, g.1, rfl, dl5, ky0.mono tu, lmap _, fun u2 hx3 => ?_⟩
          refine ⟨cs ++ [sgnK nm g.2], _, _, _, _, _, rfl, Same.put (Same.put sm hkn) hlt0, DX.upd_ne dl5 hx2 (Ne.symm nlk), put _ _ u2 hm hx3, ?_, inn _ (fun _ h => List.mem_append_left _ h) hm, by rw [List.length_append, List.length_singleton]; omega⟩
          rw [List.nodup_append]
          refine ⟨nd, by simp, fun x hx z hz => ?_⟩
          have : z = sgnK nm g.2 := by simpa using hz
          rw [this]
          rintro rfl
          exact hs hx
    · obtain ⟨cs, x4, x5, x6, x7, x8, rfl, sm, dk, dl, nd, hin, hcl⟩ := pj
      rw [List.take_length] at dl hin
      refine ⟨_, rfl, k _ lt (fun key => ((cs.idxOf (sgnK nm ((at1 gs key).getD [])) : Nat) : Int)) sm ?_ fun g1 h1 g2 h2 => ?_⟩
      · have e : (gs.map fun g => (g.1, V.int ((cs.idxOf (sgnK nm g.2) : Nat) : Int))) = gs.map fun g => (g.1, V.int ((cs.idxOf (sgnK nm ((at1 gs g.1).getD [])) : Nat) : Int)) := by
          refine List.map_congr_left fun g hg => ?_
          rw [at1_mem ok.nd hg]
          rfl
        unfold NamesA
        rw [← e]
        exact dl
      · show ((cs.idxOf (sgnK nm ((at1 gs g1.1).getD [])) : Nat) : Int) = ((cs.idxOf (sgnK nm ((at1 gs g2.1).getD [])) : Nat) : Int) ↔ _
        rw [at1_mem ok.nd h1, at1_mem ok.nd h2]
        show ((cs.idxOf (sgnK nm g1.2) : Nat) : Int) = ((cs.idxOf (sgnK nm g2.2) : Nat) : Int) ↔ _
        rw [← sgn_eq]
        constructor
        · intro e
          have e : cs.idxOf (sgnK nm g1.2) = cs.idxOf (sgnK nm g2.2) := by omega
          have i1 := List.idxOf_lt_length_of_mem (hin g1 h1)
          have e1 := List.getElem_idxOf i1
          have i2 := List.idxOf_lt_length_of_mem (hin g2 h2)
          have e2 := List.getElem_idxOf i2
          rw [← e1, ← e2]
          simp only [e]
        · intro e
          rw [e]
end
end WW


set_option maxHeartbeats 2000000

/-! classes of places that take the same words -/
namespace WW
open PySem PySem.Spec PyProof.Rows L2
/-! counting unlike numbers -/
theorem step_nodup {l : List Int} {x : Int} (h : l.Nodup) : (step_dedup l x).Nodup ∧ ∀ y, y ∈ step_dedup l x ↔ y ∈ l ∨ y = x := by
  unfold step_dedup
  by_cases e : l.any (· == x) = true
  · rw [if_pos e]
    refine ⟨h, fun y => ⟨.inl, fun z => z.elim id fun z => ?_⟩⟩
    obtain ⟨w, hw, e2⟩ := List.any_eq_true.mp e
    rw [z, ← beq_iff_eq.mp e2]
    exact hw
  · rw [if_neg e]
    have nx : x ∉ l := fun z => e (List.any_eq_true.mpr ⟨x, z, by simp⟩)
    refine ⟨?_, fun y => by simp⟩
    rw [List.nodup_append]
    refine ⟨h, by simp, fun y hy z hz => ?_⟩
    have : z = x := by simpa using hz
    rw [this]
    rintro rfl
    exact nx hy
theorem met_nodup (val : Nat → Int) : ∀ i, (firstMet val i).Nodup ∧ ∀ y, y ∈ firstMet val i ↔ ∃ j, j < i ∧ val j = y
  | 0 => ⟨List.nodup_nil, fun y => ⟨fun h => by simp [firstMet_zero] at h, fun ⟨j, h, _⟩ => by omega⟩⟩
  | i + 1 => by
    obtain ⟨h1, h2⟩ := met_nodup val i
    rw [firstMet_succ]
    obtain ⟨g1, g2⟩ := step_nodup (x := val i) h1
    refine ⟨g1, fun y => ?_⟩
    rw [g2, h2]
    constructor
    · rintro (⟨j, hj, e⟩ | e)
      · exact ⟨j, by omega, e⟩
      · exact ⟨i, by omega, e.symm⟩
    · rintro ⟨j, hj, e⟩
      by_cases h : j < i
      · exact .inl ⟨j, h, e⟩
      · have : j = i := by omega
        subst this
        exact .inr e.symm
theorem dcount_list (ns : List Int) : ∃ L : List Int, L.Nodup ∧ (∀ x, x ∈ L ↔ x ∈ ns) ∧ dcount ns = L.length := by
  obtain ⟨h1, h2⟩ := met_nodup (fun i => ns.getD i 0) ns.length
  refine ⟨_, h1, fun x => ?_, rfl⟩
  rw [h2]
  constructor
  · rintro ⟨j, hj, e⟩
    rw [← e, List.getD_eq_getElem?_getD, List.getElem?_eq_getElem hj]
    exact List.getElem_mem hj
  · intro h
    obtain ⟨j, hj, e⟩ := List.getElem_of_mem h
    exact ⟨j, hj, by rw [List.getD_eq_getElem?_getD, List.getElem?_eq_getElem hj, ← e]; rfl⟩
section
variable {α : Type}
/-- f tells as much apart as g, at least -/
theorem count_refine {ks : List α} {f g : α → Int} (h : ∀ x ∈ ks, ∀ y ∈ ks, f x = f y → g x = g y) : dcount (ks.map g) ≤ dcount (ks.map f) ∧ (dcount (ks.map f) = dcount (ks.map g) → ∀ x ∈ ks, ∀ y ∈ ks, g x = g y → f x = f y) := by
  obtain ⟨L1, n1, m1, e1⟩ := dcount_list (ks.map g)
  obtain ⟨L2, n2, m2, e2⟩ := dcount_list (ks.map f)
  -- from f's value to g's
  have ex : ∀ v : Int, ∃ u : Int, ∀ x ∈ ks, f x = v → g x = u := fun v => by
    by_cases hv : ∃ x, x ∈ ks ∧ f x = v
    · obtain ⟨x, hx, e⟩ := hv
      exact ⟨g x, fun y hy ey => h y hy x hx (ey.trans e.symm)⟩
    · exact ⟨0, fun x hx e => absurd ⟨x, hx, e⟩ hv⟩
  obtain ⟨φ, hφ⟩ := Classical.axiomOfChoice ex
  have sub : ∀ u ∈ L1, u ∈ L2.map φ := fun u hu => by
    obtain ⟨x, hx, rfl⟩ := List.mem_map.mp ((m1 u).mp hu)
    exact List.mem_map.mpr ⟨f x, (m2 _).mpr (List.mem_map.mpr ⟨x, hx, rfl⟩), (hφ (f x) x hx rfl).symm⟩
  obtain ⟨r, hr⟩ := nodup_sub n1 sub
  have hl := hr.length_eq
  rw [List.length_map, List.length_append] at hl
  refine ⟨by omega, fun e x hx y hy eg => ?_⟩
  have r0 : r = [] := List.length_eq_zero_iff.mp (by omega)
  rw [r0, List.append_nil] at hr
  have nd : (L2.map φ).Nodup := hr.nodup_iff.mpr n1
  have fx : f x ∈ L2 := (m2 _).mpr (List.mem_map.mpr ⟨x, hx, rfl⟩)
  have fy : f y ∈ L2 := (m2 _).mpr (List.mem_map.mpr ⟨y, hy, rfl⟩)
  have ep : φ (f x) = φ (f y) := by rw [← hφ _ x hx rfl, ← hφ _ y hy rfl, eg]
  obtain ⟨i, hi, ei⟩ := List.getElem_of_mem fx
  obtain ⟨j, hj, ej⟩ := List.getElem_of_mem fy
  have q : (L2.map φ)[i]? = (L2.map φ)[j]? := by
    rw [List.getElem?_map, List.getElem?_map, List.getElem?_eq_getElem hi, List.getElem?_eq_getElem hj, ei, ej]
    exact congrArg some ep
  have := (List.getElem?_inj (by rw [List.length_map]; exact hi) nd).mp q
  subst this
  exact ei.symm.trans ej
theorem count_le {ks : List α} {f : α → Int} : dcount (ks.map f) ≤ ks.length := by
  obtain ⟨L, n, m, e⟩ := dcount_list (ks.map f)
  obtain ⟨r, hr⟩ := nodup_sub n fun x hx => (m x).mp hx
  have := hr.length_eq
  rw [List.length_map, List.length_append] at this
  omega
theorem count_pos {ks : List α} {f : α → Int} (h : ks ≠ []) : 1 ≤ dcount (ks.map f) := by
  obtain ⟨L, n, m, e⟩ := dcount_list (ks.map f)
  cases ks with
  | nil => exact absurd rfl h
  | cons k ks =>
    have : f k ∈ L := (m _).mpr List.mem_cons_self
    have := List.length_pos_of_mem this
    omega
end
/-! the words from a place -/
def rowOf (gs : List (NestedKey × GRow)) (k : NestedKey) : GRow := (at1 gs k).getD []
def okW (gs : List (NestedKey × GRow)) : NestedKey → List Ltr → Prop
  | _, [] => True
  | k, l :: t => ∃ g, at1 (rowOf gs k) l = some g ∧ okW gs g t
def SameUp (gs : List (NestedKey × GRow)) (n : Nat) (x y : NestedKey) : Prop := ∀ u, u.length ≤ n → (okW gs x u ↔ okW gs y u)
def SameW (gs : List (NestedKey × GRow)) (x y : NestedKey) : Prop := ∀ u, okW gs x u ↔ okW gs y u
theorem rowOf_mem {gs : List (NestedKey × GRow)} (nd : (gs.map (·.1)).Nodup) {g : NestedKey × GRow} (h : g ∈ gs) : rowOf gs g.1 = g.2 := by
  unfold rowOf
  rw [at1_mem nd h]
  rfl
theorem signL_at (nm : NestedKey → Int) (l : Ltr) : ∀ r : GRow, at1 (signL nm r) l = (at1 r l).map nm
  | [] => rfl
  | p :: r => by
    show at1 ((p.1, nm p.2) :: signL nm r) l = _
    by_cases e : p.1 = l
    · rw [at1_pos e, at1_pos (p := (p.1, nm p.2)) e]
      rfl
    · rw [at1_neg e, at1_neg (p := (p.1, nm p.2)) e, signL_at nm l r]
theorem signL_keys (nm : NestedKey → Int) (r : GRow) : (signL nm r).map (·.1) = r.map (·.1) := by
  unfold signL
  rw [List.map_map]
  rfl
theorem perm_of_at {κ β : Type} [DecidableEq κ] : ∀ {r1 r2 : List (κ × β)}, (r1.map (·.1)).Nodup → (r2.map (·.1)).Nodup → (∀ l, at1 r1 l = at1 r2 l) → r1.Perm r2
  | [], r2, _, _, h => by
    cases r2 with
    | nil => exact .refl _
    | cons q r2 =>
      have := h q.1
      rw [at1_nil, at1_pos rfl] at this
      cases this
  | p :: r1, r2, n1, n2, h => by
    rw [List.map_cons, List.nodup_cons] at n1
    have hp : p ∈ r2 := by
      have := h p.1
      rw [at1_pos rfl] at this
      exact at1_some this.symm
    obtain ⟨s, t, rfl⟩ := List.append_of_mem hp
    have pm : (s ++ p :: t).Perm (p :: (s ++ t)) := List.perm_middle
    have n3 : ((p :: (s ++ t)).map (·.1)).Nodup := (pm.map (·.1)).nodup_iff.mp n2
    rw [List.map_cons, List.nodup_cons] at n3
    have ih := perm_of_at (r1 := r1) (r2 := s ++ t) n1.2 n3.2 fun l => by
      have e := h l
      rw [at1_perm (r := p :: (s ++ t)) (by rw [List.map_cons, List.nodup_cons]; exact n3) pm] at e
      by_cases el : p.1 = l
      · subst el
        rw [at1_none.mpr n1.1, at1_none.mpr n3.1]
      · rw [at1_neg el, at1_neg el] at e
        exact e
    exact (ih.cons p).trans pm.symm
theorem sign_iff {nm : NestedKey → Int} {r1 r2 : GRow} (n1 : (r1.map (·.1)).Nodup) (n2 : (r2.map (·.1)).Nodup) : SignEq nm r1 r2 ↔ ∀ l, (at1 r1 l).map nm = (at1 r2 l).map nm := by
  constructor
  · intro h l
    rw [← signL_at, ← signL_at]
    exact at1_perm (by rw [signL_keys]; exact n2) h l
  · intro h
    refine perm_of_at (by rw [signL_keys]; exact n1) (by rw [signL_keys]; exact n2) fun l => ?_
    rw [signL_at, signL_at]
    exact h l
section
variable {d : Nat} {gs : List (NestedKey × GRow)} (ok : GOk d gs)
include ok
theorem goal_in {k : NestedKey} (hk : k ∈ gs.map (·.1)) {l : Ltr} {g : NestedKey} (h : at1 (rowOf gs k) l = some g) : g ∈ gs.map (·.1) := by
  obtain ⟨q, hq, rfl⟩ := List.mem_map.mp hk
  rw [rowOf_mem ok.nd hq] at h
  exact ok.cl q hq _ (at1_some h)
/-- the next names tell words apart that are one letter longer -/
theorem same_step {n : Nat} {nm : NestedKey → Int} (h : ∀ x ∈ gs.map (·.1), ∀ y ∈ gs.map (·.1), nm x = nm y ↔ SameUp gs n x y) {x y : NestedKey} (hx : x ∈ gs.map (·.1)) (hy : y ∈ gs.map (·.1)) :
    (∀ l, (at1 (rowOf gs x) l).map nm = (at1 (rowOf gs y) l).map nm) ↔ SameUp gs (n + 1) x y := by
  constructor
  · intro e u hu
    cases u with
    | nil => exact Iff.rfl
    | cons l t =>
      have el := e l
      have ht : t.length ≤ n := by simpa using hu
      show (∃ g, _ ∧ _) ↔ (∃ g, _ ∧ _)
      cases ex : at1 (rowOf gs x) l with
      | none =>
        rw [ex] at el
        cases ey : at1 (rowOf gs y) l with
        | none => simp
        | some g' => rw [ey] at el; cases el
      | some g =>
        rw [ex] at el
        cases ey : at1 (rowOf gs y) l with
        | none => rw [ey] at el; cases el
        | some g' =>
          rw [ey] at el
          have el : nm g = nm g' := Option.some.inj el
          have := (h g (goal_in ok hx ex) g' (goal_in ok hy ey)).mp el t ht
          simp [this]
  · intro e l
    have one := e [l] (by simp)
    have one : (∃ g, at1 (rowOf gs x) l = some g ∧ True) ↔ (∃ g, at1 (rowOf gs y) l = some g ∧ True) := one
    cases ex : at1 (rowOf gs x) l with
    | none =>
      cases ey : at1 (rowOf gs y) l with
      | none => rfl
      | some g' => rw [ex, ey] at one; simp at one
    | some g =>
      cases ey : at1 (rowOf gs y) l with
      | none => rw [ex, ey] at one; simp at one
      | some g' =>
        show some (nm g) = some (nm g')
        rw [(h g (goal_in ok hx ex) g' (goal_in ok hy ey)).mpr]
        intro t ht
        have := e (l :: t) (by simpa using ht)
        have : (∃ g, at1 (rowOf gs x) l = some g ∧ okW gs g t) ↔ (∃ g, at1 (rowOf gs y) l = some g ∧ okW gs g t) := this
        rw [ex, ey] at this
        simpa using this
/-- once nothing more is told apart, nothing ever is -/
theorem same_all {n : Nat} (h : ∀ x ∈ gs.map (·.1), ∀ y ∈ gs.map (·.1), SameUp gs n x y → SameUp gs (n + 1) x y) : ∀ x ∈ gs.map (·.1), ∀ y ∈ gs.map (·.1), SameUp gs n x y → SameW gs x y := by
  have up : ∀ m, ∀ x ∈ gs.map (·.1), ∀ y ∈ gs.map (·.1), SameUp gs n x y → SameUp gs (n + m) x y := by
    intro m
    induction m with
    | zero => exact fun x hx y hy h => h
    | succ m ih =>
      intro x hx y hy hxy u hu
      have h1 := h x hx y hy hxy
      cases u with
      | nil => exact Iff.rfl
      | cons l t =>
        have ht : t.length ≤ n + m := by
          have : (l :: t).length = t.length + 1 := rfl
          omega
        have one := h1 [l] (by simp)
        have one : (∃ g, at1 (rowOf gs x) l = some g ∧ True) ↔ (∃ g, at1 (rowOf gs y) l = some g ∧ True) := one
        show (∃ g, at1 (rowOf gs x) l = some g ∧ okW gs g t) ↔ (∃ g, at1 (rowOf gs y) l = some g ∧ okW gs g t)
        cases ex : at1 (rowOf gs x) l with
        | none =>
          cases ey : at1 (rowOf gs y) l with
          | none => simp
          | some g' => rw [ex, ey] at one; simp at one
        | some g =>
          cases ey : at1 (rowOf gs y) l with
          | none => rw [ex, ey] at one; simp at one
          | some g' =>
            have gg : SameUp gs n g g' := fun t ht => by
              have := h1 (l :: t) (by simpa using ht)
              have : (∃ g, at1 (rowOf gs x) l = some g ∧ okW gs g t) ↔ (∃ g, at1 (rowOf gs y) l = some g ∧ okW gs g t) := this
              rw [ex, ey] at this
              simpa using this
            have := ih g (goal_in ok hx ex) g' (goal_in ok hy ey) gg t ht
            simp [this]
  intro x hx y hy hxy u
  exact up u.length x hx y hy hxy u (by omega)
end
end WW


set_option maxHeartbeats 2000000

namespace WW
open PySem PySem.Spec PyProof.Rows L2
section
variable {P : Program} {w : World} {K : PySem.W.Frag} {mg : Str → Option Value} {base : Heap}
abbrev sFitC : Stmt := top 31
abbrev nFitC : List Str := ["goes", "names", "many", "turn", "later", "key"]
theorem sc31 : FnScope nFitC ["goes"] (defScope sFitC) := ⟨rfl, rfl, rfl, by decide +kernel, rfl, by decide +kernel, by decide +kernel⟩
def spFitC (P : Program) (w : World) : Sp := fun vs H Q _ => ∃ (kd : Kd) (a : Addr) (d : Nat) (gs : List (NestedKey × GRow)), vs = [.ref a] ∧ GoesG P w kd H a gs ∧ GOk d gs ∧ gs ≠ [] ∧ gs.length < 64 ∧
  ∀ H' m nm, Same H H' → NamesA P w kd H' m gs nm → (∀ x ∈ gs.map (·.1), ∀ y ∈ gs.map (·.1), nm x = nm y ↔ SameW gs x y) → Q (.ref m) H'
theorem ok_fitC (B : Blt mg) (D0 : Dn K mg "classes_by" sClasses ["goes", "names"]) (G0 : FnOk P w K mg base CX0 1 D0.f D0.fd ["goes", "names"] (spClasses P w)) (D : Dn K mg "fit_classes" sFitC ["goes"]) : FnOk P w K mg base CX0 2 D.f D.fd ["goes"] (spFitC P w) := by
  refine D.F.ok sc31 (fun vs H Q E h => ?_) (fun cdv A outer s H vs Q E hr h => ?_)
  · obtain ⟨kd, a, d, gs, rfl, _⟩ := h
    rfl
  · obtain ⟨kd, a, d, gs, rfl, hG, ok, hne, h64, k⟩ := h
    refine ⟨_, pss_cons (ps_setXDc (i := 1) (own := [("key", 5)]) (g := gName 5) (tt := tYes) (u9 hr) (by rfl) sc31.nd rfl rfl (sw_trueD rfl rfl rfl (by decide +kernel)) (pi_xk (pv 0)) (blkOk_by (own := [("key", 5)]) (N := nFitC) (sc := defScope sFitC) (by decide +kernel))
        (fun _ _ _ _ _ => pg_name (i := 5) sc31.nd rfl (Or.inl rfl)) (fun _ _ _ _ _ => pts_nil) (fun _ _ _ _ _ => pv 5) (fun _ _ _ _ _ => pe_int))
      (pss_cons (ps_set (i := 2) sc31.nd rfl (.inl rfl) pe_int)
      (pss_cons (ps_for PassesOwn.never rfl (pi_range1 (by rfl) B.range (pa_cons (pe_op op_add (pe_callB call_lenX (by rfl) B.len PySem.boot_len (pa_cons (pv 0) pa_nil)) pe_int) pa_nil)) (pg_name (i := 3) sc31.nd rfl (.inl rfl))
        (pss_cons (ps_set (i := 4) sc31.nd rfl (.inl rfl) (pe_call G0 hr (by rfl) D0.g D0.F.kp D0.b .nil pass0 (pa_cons (pv 0) (pa_cons (pv 1) pa_nil))))
        (pss_cons (ps_if (pt_cmpR op_eq (pe_lenSetN rfl (by rfl) B.len (by rfl) B.set (pe_listVals rfl (by rfl) B.list (pv 4))) (pv 2) (nomark _)) (pss_one (ps_ret (pv 4))) pss_nil)
        (pss_cons (ps_set (i := 1) sc31.nd rfl (.inl rfl) (pv 4))
        (pss_one (ps_set (i := 2) sc31.nd rfl (.inl rfl) (pe_lenSetN rfl (by rfl) B.len (by rfl) B.set (pe_listVals rfl (by rfl) B.list (pv 4)))))))))
      (pss_one (ps_ret (pv 1))))), ?_⟩
    obtain ⟨kvg, dg, pg⟩ := id hG
    obtain ⟨o, d1⟩ := dg.one
    have lkg : kvg.length = gs.length := Paired.length pg
    refine ⟨_, rfl, a, kd, o, kvg, rfl, d1, fun D u0 hD hx0 => dc_it (n := gs.length) (fun j Hj => Same H Hj ∧ DX P w kd Hj D ((gs.take j).map fun g => (g.1, V.int 0))) ⟨same_upd hD, by exact hx0 kd⟩ (fun j Hj hj pj => ⟨d1.same pj.1, by omega⟩) (fun Hj pj => ⟨d1.same pj.1, by omega⟩) (fun j Hj x H3 hj pj y => ?_) fun Hj pj => ?_⟩
    · obtain ⟨rfl, k0, v0, hk0, ky0⟩ := y
      obtain ⟨g, hg0, ek, _⟩ := paired_get1 pg hk0
      have ek : k0 = g.1 := ek
      subst ek
      refine ⟨rfl, yes ⟨_, rfl, kd, _, g.1, ky0, pj.2, by rw [List.length_map, List.length_take]; exact small1000 (by omega), fun u hx2 => ⟨Same.put pj.1 hD, ?_⟩⟩⟩
      rw [putK_new _ (valV_not_mem (by rw [List.map_map]; exact take_fresh (f := fun p : NestedKey × GRow => p.1) ok.nd hg0))] at hx2
      rw [List.take_add_one, hg0, List.map_append]
      exact hx2
    · obtain ⟨sm, dn⟩ := pj
      rw [List.take_length] at dn
      refine ⟨_, rfl, a, kd, kvg, rfl, dg.same sm, _, _, rfl, rfl, _, rfl, by omega, by omega, ?_⟩
      have en : ((((kvg.length : Nat) : Int) + 1).toNat) = gs.length + 1 := by omega
      rw [en]
      have keysne : gs.map (·.1) ≠ [] := by
        cases gs with
        | nil => exact absurd rfl hne
        | cons g gs => simp
      refine for_it (n := gs.length + 1) (fun t σ H' => ∃ (nn : Addr) (nm : NestedKey → Int) (many : Nat) (x3 x4 : Option V) (x5 : Option V), σ = [some (.ref a), some (.ref nn), some (.int (many : Int)), x3, x4, x5] ∧ Same H H' ∧ NamesA P w kd H' nn gs nm ∧
        (∀ x ∈ gs.map (·.1), ∀ y ∈ gs.map (·.1), nm x = nm y ↔ SameUp gs t x y) ∧ ((t = 0 ∧ many = 0) ∨ (1 ≤ t ∧ many = dcount ((gs.map (·.1)).map nm) ∧ t ≤ many))) ?_ (fun t σ H' ht _ => ht) (fun σ H' _ => Nat.le_refl _) (fun t σ H' x H3 ht pt y => ?_) fun σ H' pt => ?_
      · refine ⟨D, fun _ => 0, 0, none, none, none, rfl, sm, dn, fun x hx y hy => ⟨fun _ u hu => ?_, fun _ => rfl⟩, .inl ⟨rfl, rfl⟩⟩
        have : u = [] := List.length_eq_zero_iff.mp (by omega)
        rw [this]
        exact Iff.rfl
      · obtain ⟨rfl, rfl⟩ := y
        obtain ⟨nn, nm, many, x3, x4, x5, rfl, sm, hN, hs, hm⟩ := pt
        refine ⟨_, rfl, _, rfl, kd, a, nn, d, gs, nm, rfl, hG.same sm, hN, ok, fun H4 m nm' s4 hN' hs' => ?_⟩
        have sm4 := Same.trans sm s4
        have hs2 : ∀ x ∈ gs.map (·.1), ∀ y ∈ gs.map (·.1), nm' x = nm' y ↔ SameUp gs (t + 1) x y := fun x hx y hy => by
          rw [← same_step ok hs hx hy]
          obtain ⟨g1, h1, rfl⟩ := List.mem_map.mp hx
          obtain ⟨g2, h2, rfl⟩ := List.mem_map.mp hy
          rw [hs' g1 h1 g2 h2, sign_iff (ok.rnd g1 h1) (ok.rnd g2 h2), rowOf_mem ok.nd h1, rowOf_mem ok.nd h2]
        have ref : ∀ x ∈ gs.map (·.1), ∀ y ∈ gs.map (·.1), nm' x = nm' y → nm x = nm y := fun x hx y hy e => (hs x hx y hy).mpr fun u hu => (hs2 x hx y hy).mp e u (by omega)
        obtain ⟨c1, c2⟩ := count_refine ref
        have cpos := count_pos (f := nm') keysne
        have vals : ((gs.map fun g => (g.1, V.int (nm' g.1))).map (·.2)) = ((gs.map (·.1)).map nm').map V.int := by
          rw [List.map_map, List.map_map, List.map_map]
          rfl
        have l64 : ((gs.map (·.1)).map nm').length < 64 := by
          rw [List.length_map, List.length_map]
          exact h64
        refine ⟨_, rfl, m, kd, _, rfl, hN', fun l1 hl1 => ⟨l1, _, rfl, SqL.of (by rw [vals]; exact upd_same), l64, _, rfl, rfl, _, rfl, ?_⟩⟩
        have s5 := same_upd (o := .lst ((gs.map fun g => (g.1, V.int (nm' g.1))).map (·.2))) hl1
        refine ite2 (fun e => ?_) (fun e => ?_)
        · have e := V.int.inj (of_decide_eq_true e)
          rcases hm with ⟨h0, h1⟩ | ⟨h1, h2, h3⟩
          · omega
          · have eq := c2 (by omega)
            refine ⟨_, rfl, k _ m nm' (Same.trans sm4 s5) (DX.same hN' s5) fun x hx y hy => ?_⟩
            have stable : ∀ x ∈ gs.map (·.1), ∀ y ∈ gs.map (·.1), SameUp gs t x y → SameUp gs (t + 1) x y := fun x hx y hy h => (hs2 x hx y hy).mp (eq x hx y hy ((hs x hx y hy).mpr h))
            constructor
            · intro h
              exact same_all ok stable x hx y hy ((hs x hx y hy).mp (ref x hx y hy h))
            · intro h
              exact (hs2 x hx y hy).mpr fun u _ => h u
        · have e : ¬ ((dcount ((gs.map (·.1)).map nm') : Nat) : Int) = (many : Int) := fun z => e (decide_eq_true (by rw [z]))
          refine ⟨_, rfl, _, rfl, m, kd, _, rfl, DX.same hN' s5, fun l2 hl2 => ⟨l2, _, rfl, SqL.of (by rw [vals]; exact upd_same), l64, ?_⟩⟩
          have s6 := Same.trans s5 (same_upd (o := .lst ((gs.map fun g => (g.1, V.int (nm' g.1))).map (·.2))) hl2)
          refine ⟨m, nm', dcount ((gs.map (·.1)).map nm'), _, _, _, rfl, Same.trans sm4 s6, DX.same hN' s6, hs2, .inr ⟨by omega, rfl, ?_⟩⟩
          rcases hm with ⟨h0, h1⟩ | ⟨h1, h2, h3⟩ <;> omega
      · obtain ⟨nn, nm, many, x3, x4, x5, rfl, sm, hN, hs, hm⟩ := pt
        have c := count_le (ks := gs.map (·.1)) (f := nm)
        rw [List.length_map] at c
        rcases hm with ⟨h0, _⟩ | ⟨_, h2, h3⟩ <;> omega
end
end WW


set_option maxHeartbeats 2000000

/-! letters, sorted rows, numbering -/
namespace WW
open PySem PySem.Spec PyProof.Rows L2
/-! all letters of a width -/
def letters : Nat → List Ltr
  | 0 => [[]]
  | n + 1 => (letters n).flatMap fun l => [l ++ [0], l ++ [1]]
theorem letters_len : ∀ n, (letters n).length = 2 ^ n
  | 0 => rfl
  | n + 1 => by
    have h : ∀ l : List Ltr, (l.flatMap fun l => [l ++ [(0 : Int)], l ++ [1]]).length = 2 * l.length := by
      intro l
      induction l with
      | nil => rfl
      | cons x l ih =>
        rw [List.flatMap_cons, List.length_append, ih, List.length_cons]
        simp only [List.length_cons, List.length_nil]
        omega
    show ((letters n).flatMap _).length = _
    rw [h, letters_len n]
    omega
theorem mem_letters : ∀ {n : Nat} {l : Ltr}, Lw n l → l ∈ letters n
  | 0, l, h => by
    rw [List.length_eq_zero_iff.mp h.1]
    exact List.mem_cons_self
  | n + 1, l, h => by
    have hne : l ≠ [] := fun e => by rw [e] at h; cases h.1
    have e := (List.dropLast_concat_getLast hne)
    have h2 : Lw n l.dropLast := ⟨by rw [List.length_dropLast, h.1]; rfl, fun x hx => h.2 x (List.dropLast_subset l hx)⟩
    refine List.mem_flatMap.mpr ⟨l.dropLast, mem_letters h2, ?_⟩
    rcases h.2 _ (List.getLast_mem hne) with z | z
    · rw [z] at e
      rw [e]
      exact List.mem_cons_self
    · rw [z] at e
      rw [e]
      exact List.mem_cons_of_mem _ List.mem_cons_self
theorem letters_lw : ∀ {n : Nat} {l : Ltr}, l ∈ letters n → Lw n l
  | 0, l, h => by
    rw [List.mem_singleton.mp h]
    exact ⟨rfl, fun x hx => nomatch hx⟩
  | n + 1, l, h => by
    obtain ⟨m, hm, hl⟩ := List.mem_flatMap.mp h
    obtain ⟨h1, h2⟩ := letters_lw hm
    have both : ∀ b : Int, (b = 0 ∨ b = 1) → Lw (n + 1) (m ++ [b]) := fun b hb => ⟨by rw [List.length_append, h1]; rfl, fun x hx => by
      rcases List.mem_append.mp hx with hx | hx
      · exact h2 x hx
      · rw [List.mem_singleton.mp hx]
        exact hb⟩
    rcases List.mem_cons.mp hl with rfl | hl
    · exact both 0 (.inl rfl)
    · rw [List.mem_singleton.mp hl]
      exact both 1 (.inr rfl)
theorem letters_few {d : Nat} {ls : List Ltr} (hd : d ≤ 4) (nd : ls.Nodup) (h : ∀ l ∈ ls, Lw d l) : ls.length ≤ 16 := by
  obtain ⟨r, hr⟩ := nodup_sub (l2 := letters d) nd fun l hl => mem_letters (h l hl)
  have := hr.length_eq
  rw [letters_len, List.length_append] at this
  have h2 : 2 ^ d ≤ 2 ^ 4 := Nat.pow_le_pow_right (by decide) hd
  omega
/-! rows sorted by letter -/
section
variable {β : Type}
def pLe (p q : Ltr × β) : Bool := keyLe (lk p.1) (lk q.1)
def srt (r : List (Ltr × β)) : List (Ltr × β) := r.mergeSort pLe
theorem srt_perm (r : List (Ltr × β)) : (srt r).Perm r := List.mergeSort_perm _ _
theorem srt_sorted (r : List (Ltr × β)) : (srt r).Pairwise fun p q => keyLe (lk p.1) (lk q.1) = true :=
  List.pairwise_mergeSort (le := pLe) (fun _ _ _ h1 h2 => keyLe_trans h1 h2) (fun a b => by rcases keyLe_total (lk a.1) (lk b.1) with h | h <;> simp [pLe, h]) _
theorem lk_anti {a b : Ltr} (h1 : keyLe (lk a) (lk b) = true) (h2 : keyLe (lk b) (lk a) = true) : a = b := lk_inj (keyLe_anti (alike_lk a b) h1 h2)
/-- the keys sorted are the sorted row's keys -/
theorem srt_keys {r : List (Ltr × β)} {ks : List NestedKey} (p : ks.Perm (r.map fun p => lk p.1)) (h : ks.Pairwise fun x y => keyLe x y = true) : ks = (srt r).map fun p => lk p.1 := by
  refine sorted_unique (fun a ha b hb => ?_) (p.trans ((srt_perm r).symm.map _)) h (List.pairwise_map.mpr (srt_sorted r))
  obtain ⟨x, _, rfl⟩ := List.mem_map.mp (p.mem_iff.mp ha)
  obtain ⟨y, _, rfl⟩ := List.mem_map.mp (p.mem_iff.mp hb)
  exact alike_lk _ _
/-- a sorted row is one -/
theorem row_unique {r1 r2 : List (Ltr × β)} (nd : (r1.map (·.1)).Nodup) (p : r2.Perm r1) (h1 : r1.Pairwise fun p q => keyLe (lk p.1) (lk q.1) = true) (h2 : r2.Pairwise fun p q => keyLe (lk p.1) (lk q.1) = true) : r2 = r1 := by
  refine List.Perm.eq_of_pairwise (le := fun p q : Ltr × β => keyLe (lk p.1) (lk q.1) = true) (fun a b ha hb x y => ?_) h2 h1 p
  have e := lk_anti x y
  have ha1 := p.mem_iff.mp ha
  have : ∀ {r : List (Ltr × β)}, (r.map (·.1)).Nodup → ∀ a ∈ r, ∀ b ∈ r, a.1 = b.1 → a = b := by
    intro r nd a ha b hb e
    have e1 := at1_mem nd ha
    have e2 := at1_mem nd hb
    rw [e] at e1
    have := Option.some.inj (e1.symm.trans e2)
    exact Prod.ext e this
  exact this nd a ha1 b hb e
end
/-! numbering by the order of finding -/
def scanF : Nat → List Int → Option Nat
  | c, [] => some c
  | c, j :: t => if j < (c : Int) then scanF c t else if j = (c : Int) then scanF (c + 1) t else none
theorem scan_append (a b : List Int) : ∀ c, scanF c (a ++ b) = (scanF c a).bind fun c' => scanF c' b := by
  induction a with
  | nil => intro c; rfl
  | cons j t ih =>
    intro c
    show (if j < (c : Int) then scanF c (t ++ b) else if j = (c : Int) then scanF (c + 1) (t ++ b) else none) = Option.bind (if j < (c : Int) then scanF c t else if j = (c : Int) then scanF (c + 1) t else none) _
    by_cases h1 : j < (c : Int)
    · rw [if_pos h1, if_pos h1, ih]
    · rw [if_neg h1, if_neg h1]
      by_cases h2 : j = (c : Int)
      · rw [if_pos h2, if_pos h2, ih]
      · rw [if_neg h2, if_neg h2]
        rfl
def flatR (R : List IRow) : List Int := R.flatMap fun r => r.map (·.2)
theorem flatR_snoc (R : List IRow) (r : IRow) : flatR (R ++ [r]) = flatR R ++ r.map (·.2) := by
  unfold flatR
  rw [List.flatMap_append]
  simp
/-- what least_by makes -/
def Least (gs : List (NestedKey × GRow)) (first : NestedKey) (R : List IRow) : Prop :=
  ∃ ord : List NestedKey, ord.length = R.length ∧ ord[0]? = some first ∧ (∀ (i j : Nat) (x y : NestedKey), ord[i]? = some x → ord[j]? = some y → SameW gs x y → i = j) ∧ (∀ k ∈ ord, k ∈ gs.map (·.1)) ∧
    (∀ (i : Nat) (x : NestedKey) (r : IRow), ord[i]? = some x → R[i]? = some r → ∀ l, match at1 (rowOf gs x) l with
      | none => at1 r l = none
      | some g => ∃ (j : Nat) (y : NestedKey), at1 r l = some (j : Int) ∧ ord[j]? = some y ∧ SameW gs g y) ∧
    scanF 1 (flatR R) = some R.length ∧ (∀ i : Nat, i < R.length → ∃ c, scanF 1 (flatR (R.take i)) = some c ∧ i < c) ∧ ∀ r ∈ R, SRow r
end WW


set_option maxHeartbeats 2000000

namespace WW
open PySem PySem.Spec PyProof.Rows L2
/-- where the class of a place stands among the found ones -/
def nmK (nm : NestedKey → Int) (ord : List NestedKey) : List NestedKey := ord.map fun k => .num (nm k)
def ixN (nm : NestedKey → Int) (ord : List NestedKey) (g : NestedKey) : Nat := (nmK nm ord).idxOf (.num (nm g))
def rowF (nm : NestedKey → Int) (ord : List NestedKey) (r : GRow) : IRow := r.map fun p => (p.1, (ixN nm ord p.2 : Int))
theorem ixN_append {nm : NestedKey → Int} {ord : List NestedKey} {g x : NestedKey} (h : NestedKey.num (nm g) ∈ nmK nm ord) : ixN nm (ord ++ [x]) g = ixN nm ord g := by
  unfold ixN
  unfold nmK at h ⊢
  rw [List.map_append, List.idxOf_append, if_pos h]
theorem ixN_lt {nm : NestedKey → Int} {ord : List NestedKey} {g : NestedKey} (h : NestedKey.num (nm g) ∈ nmK nm ord) : ixN nm ord g < ord.length := by
  have := List.idxOf_lt_length_of_mem h
  unfold nmK at this
  rw [List.length_map] at this
  exact this
theorem ixN_get {nm : NestedKey → Int} {ord : List NestedKey} {g : NestedKey} (h : NestedKey.num (nm g) ∈ nmK nm ord) : ∃ y, ord[ixN nm ord g]? = some y ∧ nm g = nm y := by
  have i1 := ixN_lt h
  refine ⟨ord[ixN nm ord g], List.getElem?_eq_getElem i1, ?_⟩
  have i2 := List.idxOf_lt_length_of_mem h
  have e1 : (nmK nm ord)[ixN nm ord g]? = some (.num (nm g)) := by
    unfold ixN
    rw [List.getElem?_eq_getElem i2, List.getElem_idxOf]
  have e2 : (nmK nm ord)[ixN nm ord g]? = some (.num (nm ord[ixN nm ord g])) := by
    unfold nmK
    rw [List.getElem?_map, List.getElem?_eq_getElem i1]
    rfl
  rw [e1] at e2
  injection e2 with e2
  injection e2
theorem rowF_append {nm : NestedKey → Int} {ord : List NestedKey} {x : NestedKey} {r : GRow} (h : ∀ p ∈ r, NestedKey.num (nm p.2) ∈ nmK nm ord) : rowF nm (ord ++ [x]) r = rowF nm ord r :=
  List.map_congr_left fun p hp => by rw [ixN_append (h p hp)]
def rowsN (gs : List (NestedKey × GRow)) (nm : NestedKey → Int) (ord : List NestedKey) (n : Nat) : List IRow := (ord.take n).map fun k => rowF nm ord (srt (rowOf gs k))
/-- the found places -/
structure OI (gs : List (NestedKey × GRow)) (nm : NestedKey → Int) (fk : NestedKey) (ord : List NestedKey) (n : Nat) : Prop where
  hd : ord[0]? = some fk
  mem : ∀ k ∈ ord, k ∈ gs.map (·.1)
  nd : (nmK nm ord).Nodup
  le : n ≤ ord.length
  inn : ∀ k ∈ ord.take n, ∀ p ∈ srt (rowOf gs k), NestedKey.num (nm p.2) ∈ nmK nm ord
  pre : ∀ i, i < n → ∃ c, scanF 1 (flatR (rowsN gs nm ord i)) = some c ∧ i < c
theorem rowsN_append {gs : List (NestedKey × GRow)} {nm : NestedKey → Int} {ord : List NestedKey} {n : Nat} {x : NestedKey} (hn : n ≤ ord.length) (h : ∀ k ∈ ord.take n, ∀ p ∈ srt (rowOf gs k), NestedKey.num (nm p.2) ∈ nmK nm ord) : rowsN gs nm (ord ++ [x]) n = rowsN gs nm ord n := by
  unfold rowsN
  rw [List.take_append_of_le_length hn]
  exact List.map_congr_left fun k hk => rowF_append (h k hk)
theorem rowsN_take {gs : List (NestedKey × GRow)} {nm : NestedKey → Int} {ord : List NestedKey} {n i : Nat} (h : i ≤ n) : (rowsN gs nm ord n).take i = rowsN gs nm ord i := by
  unfold rowsN
  rw [← List.map_take, List.take_take, Nat.min_eq_left h]
theorem OI.few {gs : List (NestedKey × GRow)} {nm : NestedKey → Int} {fk : NestedKey} {ord : List NestedKey} {n : Nat} (h : OI gs nm fk ord n) : ord.length ≤ gs.length := by
  obtain ⟨r, hr⟩ := nodup_sub (l1 := ord) (l2 := gs.map (·.1)) (nodup_of_map _ h.nd) h.mem
  have := hr.length_eq
  rw [List.length_map, List.length_append] at this
  omega
theorem OI.push {gs : List (NestedKey × GRow)} {nm : NestedKey → Int} {fk g : NestedKey} {ord : List NestedKey} {n : Nat} (h : OI gs nm fk ord n) (hg : g ∈ gs.map (·.1)) (hn : NestedKey.num (nm g) ∉ nmK nm ord) : OI gs nm fk (ord ++ [g]) n := by
  have sub : ∀ k, k ∈ nmK nm ord → k ∈ nmK nm (ord ++ [g]) := fun k hk => by
    unfold nmK at hk ⊢
    rw [List.map_append]
    exact List.mem_append_left _ hk
  refine ⟨?_, fun k hk => ?_, ?_, by rw [List.length_append]; have := h.le; omega, fun k hk p hp => ?_, fun i hi => ?_⟩
  · rw [List.getElem?_append_left (List.getElem?_eq_some_iff.mp h.hd).1]
    exact h.hd
  · rcases List.mem_append.mp hk with hk | hk
    · exact h.mem k hk
    · rw [List.mem_singleton.mp hk]
      exact hg
  · unfold nmK at hn ⊢
    rw [List.map_append, List.nodup_append]
    refine ⟨h.nd, by simp, fun x hx z hz => ?_⟩
    have : z = .num (nm g) := by simpa using hz
    rw [this]
    rintro rfl
    exact hn hx
  · rw [List.take_append_of_le_length h.le] at hk
    exact sub _ (h.inn k hk p hp)
  · obtain ⟨c, h1, h2⟩ := h.pre i hi
    have hl := h.le
    refine ⟨c, ?_, h2⟩
    rw [rowsN_append (by omega) fun k hk p hp => h.inn k (List.mem_of_mem_take (by
      rw [show ord.take i = (ord.take n).take i by rw [List.take_take, Nat.min_eq_left (by omega)]] at hk
      exact List.mem_of_mem_take hk |> fun z => z) |> fun z => by
        rw [show ord.take i = (ord.take n).take i by rw [List.take_take, Nat.min_eq_left (by omega)]] at hk
        exact List.mem_of_mem_take hk) p hp]
    exact h1
theorem goesG_val {P : Program} {w : World} {kd : Kd} {H : Hp} {kvs : List (NestedKey × V)} {gs : List (NestedKey × GRow)} (h : Paired (fun (q : NestedKey × V) (p : NestedKey × GRow) => q.1 = p.1 ∧ ∃ b, q.2 = .ref b ∧ RowG P w kd H b p.2) kvs gs) {k : NestedKey} (hk : k ∈ gs.map (·.1)) : ∃ b, valV kvs k = some (.ref b) ∧ RowG P w kd H b (rowOf gs k) := by
  induction h with
  | nil => simp at hk
  | @cons q p qs ps h1 _ ih =>
    obtain ⟨e1, b, e2, hr⟩ := h1
    by_cases e : p.1 = k
    · refine ⟨b, by rw [valV_pos (e1.trans e), e2], ?_⟩
      unfold rowOf
      rw [at1_pos e]
      exact hr
    · rw [List.map_cons] at hk
      rcases List.mem_cons.mp hk with hk | hk
      · exact absurd hk.symm e
      · obtain ⟨b2, h2, h3⟩ := ih hk
        refine ⟨b2, by rw [valV_neg (fun z => e (e1.symm.trans z))]; exact h2, ?_⟩
        unfold rowOf at h3 ⊢
        rw [at1_neg e]
        exact h3
/-- the state of the search: H1 the heap ahead of it -/
structure LS (P : Program) (w : World) (kd : Kd) (nm : NestedKey → Int) (H1 H : Hp) (od nb rl : Addr) (ord : List NestedKey) (vs : List V) (bs : List Addr) (done : List IRow) : Prop where
  sm : Same H1 H
  no : H1 od = none
  nn : H1 nb = none
  nr : H1 rl = none
  ne : od ≠ rl
  o : H od = some (.lst vs)
  ov : Paired (KeyV kd H) ord vs
  nbx : DX P w .i H nb (kvC (nmK nm ord))
  r : H rl = some (.lst (bs.map V.ref))
  rv : RowsA P w H bs done
  rb : nb ∉ bs
/-- within a row -/
structure LSI (P : Program) (w : World) (kd : Kd) (nm : NestedKey → Int) (H1 H : Hp) (od nb rl : Addr) (ord : List NestedKey) (vs : List V) (bs : List Addr) (done : List IRow) (rw : Addr) (rr : IRow) (sl : Addr) (zs : List V) (zk : List NestedKey) : Prop where
  ls : LS P w kd nm H1 H od nb rl ord vs bs done
  nw : H1 rw = none
  ns : H1 sl = none
  wb : rw ≠ nb
  wbs : rw ∉ bs
  so : sl ≠ od
  sr : sl ≠ rl
  wx : DX P w .t H rw (rowKv rr)
  sx : H sl = some (.lst zs)
  zp : Paired (NV H) zk zs
section
variable {P : Program} {w : World} {kd : Kd} {nm : NestedKey → Int} {H1 H H' : Hp} {od nb rl rw sl : Addr} {ord : List NestedKey} {vs zs : List V} {zk : List NestedKey} {bs : List Addr} {done : List IRow} {rr rr' : IRow}
theorem LS.same (h : LS P w kd nm H1 H od nb rl ord vs bs done) (s : Same H H') : LS P w kd nm H1 H' od nb rl ord vs bs done :=
  ⟨Same.trans h.sm s, h.no, h.nn, h.nr, h.ne, s _ _ h.o, Paired.mapP h.ov fun _ _ x => x.mono (Tups.of_same s), h.nbx.same s, s _ _ h.r, h.rv.same s, h.rb⟩
theorem LSI.same (h : LSI P w kd nm H1 H od nb rl ord vs bs done rw rr sl zs zk) (s : Same H H') : LSI P w kd nm H1 H' od nb rl ord vs bs done rw rr sl zs zk :=
  ⟨h.ls.same s, h.nw, h.ns, h.wb, h.wbs, h.so, h.sr, h.wx.same s, s _ _ h.sx, Paired.mapP h.zp fun _ _ x => NV.mono (Tups.of_same s) _ _ x⟩
theorem paired_mem {α β : Type} {F G : α → β → Prop} : ∀ {as : List α} {bs : List β}, Paired F as bs → (∀ a b, a ∈ as → F a b → G a b) → Paired G as bs
  | _, _, .nil, _ => .nil
  | _, _, .cons h t, g => .cons (g _ _ List.mem_cons_self h) (paired_mem t fun a b ha => g a b (List.mem_cons_of_mem _ ha))
theorem ext_lst {a b : Addr} {xs : List V} (h : ∃ φ, H a = some (.ext φ)) (e : H b = some (.lst xs)) : b ≠ a := fun q => by
  obtain ⟨φ, h⟩ := h
  rw [← q, e] at h
  cases h
/-- a class is put in -/
theorem LSI.push (h : LSI P w kd nm H1 H od nb rl ord vs bs done rw rr sl zs zk) {g : NestedKey} {v : V} {u : HO} (hv : KeyV kd H g v) (hx : DX P w .i (upd H nb u) nb (kvC (nmK nm (ord ++ [g])))) :
    (upd H nb u) od = some (.lst vs) ∧ LSI P w kd nm H1 (upd (upd H nb u) od (.lst (vs ++ [v]))) od nb rl (ord ++ [g]) (vs ++ [v]) bs done rw rr sl zs zk := by
  have l := h.ls
  have eb := l.nbx.ext
  have o2 : (upd H nb u) od = some (.lst vs) := by rw [upd_ne (ext_lst eb l.o)]; exact l.o
  have t1 : Tups H (upd H nb u) := l.nbx.tups
  have t2 : Tups (upd H nb u) (upd (upd H nb u) od (.lst (vs ++ [v]))) := SamX.upd.tups (tup_nat o2)
  have t := fun b xs e => t2 b xs (t1 b xs e)
  have dxs : ∀ {kd' : Kd} {a : Addr} {kvs : List (NestedKey × V)}, a ≠ nb → DX P w kd' H a kvs → DX P w kd' (upd (upd H nb u) od (.lst (vs ++ [v]))) a kvs := fun {kd' a kvs} n d =>
    d.mono t fun o e => by
      obtain ⟨φ, e2⟩ := d.ext
      rw [upd_ne (fun q => by rw [q, l.o] at e2; cases e2), upd_ne n]
      exact e
  have lss : ∀ {a : Addr} {xs : List V}, a ≠ od → H a = some (.lst xs) → (upd (upd H nb u) od (.lst (vs ++ [v]))) a = some (.lst xs) := fun {a xs} n e => by
    rw [upd_ne n, upd_ne (ext_lst eb e)]
    exact e
  refine ⟨o2, ⟨⟨fun b ob e => ?_, l.no, l.nn, l.nr, l.ne, upd_same, Paired.snoc (Paired.mapP l.ov fun _ _ x => x.mono t) (hv.mono t), ?_, lss l.ne.symm l.r, paired_mem l.rv fun a b ha x => dxs (fun q => l.rb (q ▸ ha)) x, l.rb⟩, h.nw, h.ns, h.wb, h.wbs, h.so, h.sr, dxs h.wb h.wx, lss h.so h.sx, Paired.mapP h.zp fun _ _ x => NV.mono t _ _ x⟩⟩
  · rw [upd_ne (ne_of_none e l.no), upd_ne (ne_of_none e l.nn)]
    exact l.sm _ _ e
  · refine hx.mono t2 fun o e => ?_
    rw [upd_ne (ext_lst eb l.o).symm]
    exact e
/-- a letter is put into the row -/
theorem LSI.row (h : LSI P w kd nm H1 H od nb rl ord vs bs done rw rr sl zs zk) {u : HO} (hx : DX P w .t (upd H rw u) rw (rowKv rr')) : LSI P w kd nm H1 (upd H rw u) od nb rl ord vs bs done rw rr' sl zs zk := by
  have l := h.ls
  have eb := h.wx.ext
  have t : Tups H (upd H rw u) := h.wx.tups
  have dxs : ∀ {kd' : Kd} {a : Addr} {kvs : List (NestedKey × V)}, a ≠ rw → DX P w kd' H a kvs → DX P w kd' (upd H rw u) a kvs := fun {kd' a kvs} n d => d.mono t fun o e => by rw [upd_ne n]; exact e
  have lss : ∀ {a : Addr} {xs : List V}, H a = some (.lst xs) → (upd H rw u) a = some (.lst xs) := fun {a xs} e => by
    rw [upd_ne (ext_lst eb e)]
    exact e
  refine ⟨⟨fun b ob e => ?_, l.no, l.nn, l.nr, l.ne, lss l.o, Paired.mapP l.ov fun _ _ x => x.mono t, dxs h.wb.symm l.nbx, lss l.r, paired_mem l.rv fun a b ha x => dxs (fun q => h.wbs (q ▸ ha)) x, l.rb⟩, h.nw, h.ns, h.wb, h.wbs, h.so, h.sr, hx, lss h.sx, Paired.mapP h.zp fun _ _ x => NV.mono t _ _ x⟩
  rw [upd_ne (ne_of_none e h.nw)]
  exact l.sm _ _ e
/-- the row is put to the others -/
theorem LSI.close (h : LSI P w kd nm H1 H od nb rl ord vs bs done rw rr sl zs zk) : LS P w kd nm H1 (upd H rl (.lst (bs.map V.ref ++ [.ref rw]))) od nb rl ord vs (bs ++ [rw]) (done ++ [rr]) := by
  have l := h.ls
  have t : Tups H (upd H rl (.lst (bs.map V.ref ++ [.ref rw]))) := SamX.upd.tups (tup_nat l.r)
  have dxs : ∀ {kd' : Kd} {a : Addr} {kvs : List (NestedKey × V)}, DX P w kd' H a kvs → DX P w kd' (upd H rl (.lst (bs.map V.ref ++ [.ref rw]))) a kvs := fun {kd' a kvs} d => d.mono t fun o e => by
    rw [upd_ne (ext_lst d.ext l.r).symm]
    exact e
  refine ⟨fun b ob e => ?_, l.no, l.nn, l.nr, l.ne, by rw [upd_ne l.ne]; exact l.o, Paired.mapP l.ov fun _ _ x => x.mono t, dxs l.nbx, by rw [upd_same, List.map_append]; rfl, Paired.snoc (Paired.mapP l.rv fun _ _ x => dxs x) (dxs h.wx), fun z => ?_⟩
  · rw [upd_ne (ne_of_none e l.nr)]
    exact l.sm _ _ e
  · rcases List.mem_append.mp z with z | z
    · exact l.rb z
    · exact h.wb (List.mem_singleton.mp z).symm
end
section
variable {P : Program} {w : World} {K : PySem.W.Frag} {mg : Str → Option Value} {base : Heap}
abbrev sLeast : Stmt := top 32
abbrev nLeast : List Str := ["width", "first", "goes", "names", "order", "numbers", "rows", "at", "row", "letter", "goal"]
theorem sc32 : FnScope nLeast ["width", "first", "goes"] (defScope sLeast) := ⟨rfl, rfl, rfl, by decide +kernel, rfl, by decide +kernel, by decide +kernel⟩
def spLeast (P : Program) (w : World) (C : Addr) : Sp := fun vs H Q _ => ∃ (kd : Kd) (a : Addr) (d : Nat) (gs : List (NestedKey × GRow)) (fk : NestedKey) (y : V), vs = [.int d, y, .ref a] ∧ GoesG P w kd H a gs ∧ GOk d gs ∧ d ≤ 4 ∧ gs.length ≤ 60 ∧ KeyV kd H fk y ∧ fk ∈ gs.map (·.1) ∧
  ∀ H' p R, Same H H' → PatAt P w C H' p d R → GoesOk d R → Least gs fk R → Q (.ref p) H'
theorem ok_least {C : Addr} (B : Blt mg) (T : PatC K mg C) (hmk : PySem.W.makesIn K C = true) (hkp : PySem.W.keepIn K (.ref C) = true) (D0 : Dn K mg "fit_classes" sFitC ["goes"]) (G0 : FnOk P w K mg base CX0 2 D0.f D0.fd ["goes"] (spFitC P w))
    (D1 : Md K C "__init__" "Pattern.__init__" sPInit ["self", "width", "goes"]) (G1 : FnOk P w K mg base CX0 6 D1.f D1.fd ["self", "width", "goes"] (spPInit P w C)) (D : Dn K mg "least_by" sLeast ["width", "first", "goes"]) :
    FnOk P w K mg base CX0 8 D.f D.fd ["width", "first", "goes"] (spLeast P w C) := by
  refine D.F.ok sc32 (fun vs H Q E h => ?_) (fun cdv A outer s H vs Q E hr h => ?_)
  · obtain ⟨kd, a, d, gs, fk, y, rfl, _⟩ := h
    rfl
  · obtain ⟨kd, a, d, gs, fk, y, rfl, hG, ok, hd, h60, hy, hf, k⟩ := h
    have M1 : Mk K C D1.f := ⟨hmk, D1.a, D1.i, hkp⟩
    refine ⟨_, pss_cons (ps_set (i := 3) sc32.nd rfl (.inl rfl) (pe_call G0 (hr.mono (by decide)) (by rfl) D0.g D0.F.kp D0.b .nil pass0 (pa_cons (pv 2) pa_nil)))
      (pss_cons (ps_set (i := 4) sc32.nd rfl (.inl rfl) (pe_lst (pa_cons (pv 1) pa_nil)))
      (pss_cons (ps_set (i := 5) sc32.nd rfl (.inl rfl) (pe_xdisp (u9 hr) (pe_xget (u9 hr) (pv 3) (pv 1) (fun _ _ => rfl)) pe_int))
      (pss_cons (ps_set (i := 6) sc32.nd rfl (.inl rfl) (pe_lst pa_nil))
      (pss_cons (ps_set (i := 7) sc32.nd rfl (.inl rfl) pe_int)
      (pss_cons (ps_while PassesOwn.never (pt_cmpR op_lt (pv 7) (pe_callB call_len_seq (by rfl) B.len PySem.boot_len (pa_cons (pv 4) pa_nil)) (nomark _))
        (pss_cons (ps_set (i := 8) sc32.nd rfl (.inl rfl) pe_xnew)
        (pss_cons (ps_for PassesOwn.never rfl (pi_list (pe_callB (call_srt rfl (u30 hr)) (by rfl) B.sorted (by decide +kernel) (pa_cons (pe_xget (u9 hr) (pv 2) (pe_ix ix_list (pv 4) (pv 7) (fun _ _ => rfl)) (fun _ _ => rfl)) pa_nil))) (pg_name (i := 9) sc32.nd rfl (.inl rfl))
          (pss_cons (ps_set (i := 10) sc32.nd rfl (.inl rfl) (pe_xget (u9 hr) (pe_xget (u9 hr) (pv 2) (pe_ix ix_list (pv 4) (pv 7) (fun _ _ => rfl)) (fun _ _ => rfl)) (pv 9) (fun _ _ => rfl)))
          (pss_cons (ps_if (pt_cmp (pc_xnotin (u9 hr) (pe_xget (u9 hr) (pv 3) (pv 10) (fun _ _ => rfl)) (pv 5)))
              (pss_cons (ps_xput (u9 hr) (pv 5) (pe_xget (u9 hr) (pv 3) (pv 10) (fun _ _ => rfl)) (pe_callB call_len_seq (by rfl) B.len PySem.boot_len (pa_cons (pv 4) pa_nil)) rfl)
              (pss_one (ps_expr (pe_bm PySem.F.plainAttrs_list PySem.F.slot_list_append PySem.F.type_list_append mt_append (pv 4) (pa_cons (pv 10) pa_nil))))) pss_nil)
          (pss_one (ps_xput (u9 hr) (pv 8) (pv 9) (pe_xget (u9 hr) (pv 5) (pe_xget (u9 hr) (pv 3) (pv 10) (fun _ _ => rfl)) (fun _ _ => rfl)) rfl)))))
        (pss_cons (ps_expr (pe_bm PySem.F.plainAttrs_list PySem.F.slot_list_append PySem.F.type_list_append mt_append (pv 6) (pa_cons (pv 8) pa_nil)))
        (pss_one (ps_set (i := 7) sc32.nd rfl (.inl rfl) (pe_op op_add (pv 7) pe_int)))))))
      (pss_one (ps_ret (pe_make M1 G1 hr (by rfl) T.mgC D1.b .nil pass0 (pa_cons (pv 0) (pa_cons (pv 6) pa_nil)))))))))), ?_⟩
    have gne : gs ≠ [] := fun e => by rw [e] at hf; simp at hf
    refine ⟨_, rfl, kd, a, d, gs, rfl, hG, ok, gne, by omega, fun H1 nn nm s1 hN hnm => ?_⟩
    refine ⟨_, rfl, le1, fun od hod => ?_⟩
    intro nb u0 hnb hx0
    have t1 := same_upd (o := .lst [y]) hod
    have t2 := same_upd (o := u0) hnb
    have t12 := Same.trans t1 t2
    refine ⟨_, rfl, _, rfl, nn, kd, _, fk, .int (nm fk), rfl, DX.same hN t12, hy.mono (Tups.of_same (Same.trans s1 t12)), names_val hf, .i, .num (nm fk), ⟨_, rfl, rfl⟩, hx0 .i, fun u1 hx1 => ?_⟩
    refine ⟨Nat.zero_le _, fun rl hrl => ?_⟩
    obtain ⟨H5, eH5⟩ : ∃ H5, upd (upd (upd (upd H1 od (.lst [y])) nb u0) nb u1) rl (.lst []) = H5 := ⟨_, rfl⟩
    have t4 := same_upd (o := .lst []) hrl
    rw [eH5] at t4
    have nob : od ≠ nb := fun e => by rw [← e, upd_same] at hnb; cases hnb
    have nnb : H1 nb = none := Same.free t1 hnb
    have o4 : (upd (upd (upd H1 od (.lst [y])) nb u0) nb u1) od = some (.lst [y]) := by rw [upd_ne nob, upd_ne nob]; exact upd_same
    have s14 : Same H1 (upd (upd (upd H1 od (.lst [y])) nb u0) nb u1) := Same.put t12 nnb
    have nor : od ≠ rl := fun e => by rw [← e, o4] at hrl; cases hrl
    have ls5 : LS P w kd nm H1 H5 od nb rl [fk] [y] [] [] := by
      refine ⟨Same.trans s14 t4, hod, nnb, Same.free s14 hrl, nor, t4 _ _ o4, .cons (hy.mono (Tups.of_same (Same.trans s1 (Same.trans s14 t4)))) .nil, DX.same (kvs := kvC (nmK nm [fk])) hx1 t4, ?_, .nil, by simp⟩
      rw [← eH5]
      exact upd_same
    obtain ⟨kvg, dg, pg⟩ := id (hG.same s1)
    obtain ⟨St, hSt⟩ : ∃ St : Nat → L2.St → Hp → Prop, St = fun (n : Nat) σ H' => ∃ ord vs bs x8 x9 x10, σ = [some (.int d), some y, some (.ref a), some (.ref nn), some (.ref od), some (.ref nb), some (.ref rl), some (.int (n : Int)), x8, x9, x10] ∧
      LS P w kd nm H1 H' od nb rl ord vs bs (rowsN gs nm ord n) ∧ OI gs nm fk ord n ∧ scanF 1 (flatR (rowsN gs nm ord n)) = some ord.length := ⟨_, rfl⟩
    refine ⟨fun m σ H' => ∃ n, n + m = gs.length ∧ St n σ H', ⟨gs.length, 0, by omega, ?_⟩, fun m σ H' hW => ?_⟩
    · rw [hSt]
      exact ⟨[fk], [y], [], none, none, none, rfl, by rw [← eH5] at ls5; exact ls5, ⟨rfl, fun k hk => by rw [List.mem_singleton.mp hk]; exact hf, by simp [nmK], Nat.zero_le _, fun k hk => by simp at hk, fun i hi => by omega⟩, rfl⟩
    obtain ⟨n, hnm2, hs⟩ := hW
    rw [hSt] at hs
    obtain ⟨ord, vs, bs, x8, x9, x10, rfl, ls, oi, hsc⟩ := hs
    have few := oi.few
    have lvs : ord.length = vs.length := Paired.length ls.ov
    refine ⟨_, rfl, _, rfl, od, _, rfl, .inl (SqL.of ls.o), _, _, rfl, rfl, _, rfl, ite2 (fun e => ?_) (fun e => ?_)⟩
    · have e := of_decide_eq_true e
      have hlt : n < ord.length := by omega
      refine ⟨St (n + 1), fun σ' H2 h => ⟨gs.length - (n + 1), by omega, n + 1, by omega, h⟩, ?_⟩
      obtain ⟨k0, hk0⟩ : ∃ k0, ord[n]? = some k0 := ⟨ord[n], List.getElem?_eq_getElem hlt⟩
      have hk0m := oi.mem k0 (List.mem_of_getElem? hk0)
      obtain ⟨g0, hg0, eg0⟩ := List.mem_map.mp hk0m
      have er0 : rowOf gs k0 = g0.2 := by rw [← eg0]; exact rowOf_mem ok.nd hg0
      obtain ⟨rb, vrb, hrow⟩ := goesG_val pg hk0m
      obtain ⟨kvr, dr, gpr⟩ := id hrow
      obtain ⟨r, hr'⟩ : ∃ r, rowOf gs k0 = r := ⟨_, rfl⟩
      rw [hr'] at gpr er0
      have rnd : (r.map (·.1)).Nodup := er0 ▸ ok.rnd g0 hg0
      have rlw : ∀ l ∈ r.map (·.1), Lw d l := er0 ▸ ok.lw g0 hg0
      have rfew : r.length ≤ 32 := er0 ▸ ok.few g0 hg0
      have rcl : ∀ p ∈ r, p.2 ∈ gs.map (·.1) := er0 ▸ ok.cl g0 hg0
      intro rw0 u hrw hxw
      have sw := same_upd (o := u) hrw
      have lsw := ls.same sw
      have nw1 : H1 rw0 = none := Same.free ls.sm hrw
      have wb : rw0 ≠ nb := fun e => by
        obtain ⟨φ, h⟩ := ls.nbx.ext
        rw [← e, hrw] at h
        cases h
      have wbs : rw0 ∉ bs := fun z => by
        obtain ⟨_, _, hx⟩ := paired_left ls.rv _ z
        have hx : DX P w .t H' rw0 _ := hx
        obtain ⟨φ, h⟩ := hx.ext
        rw [hrw] at h
        cases h
      obtain ⟨v0, hv0, kv0⟩ := paired_get1 lsw.ov hk0
      refine ⟨_, rfl, _, rfl, _, rfl, od, _, _, v0, rfl, rfl, SqL.of lsw.o, atI_nat (j := n) hv0, a, kd, kvg, k0, .ref rb, rfl, dg.same lsw.sm, kv0, vrb, rb, _, rfl, .inl ⟨kvr, dr.same lsw.sm, rfl⟩, ?_, fun sl zs ks' hsl perm pw py => ?_⟩
      · rw [GP.keys gpr]
        exact sortOk_letters rlw rnd
      have ssl := same_upd (o := .lst zs) hsl
      have eks : ks' = (srt r).map fun p => lk p.1 := srt_keys (by
        rw [GP.keys gpr, List.map_map] at perm
        exact perm) pw
      rw [eks] at py
      have lsr : (srt r).length = r.length := (srt_perm r).length_eq
      have lzs : (srt r).length = zs.length := by rw [← Paired.length py, List.length_map]
      have snd : ((srt r).map (·.1)).Nodup := ((srt_perm r).map (·.1)).nodup_iff.mpr rnd
      refine ⟨sl, rfl, ⟨_, SqL.of upd_same⟩, for_it (n := (srt r).length) (fun m σ H'' => ∃ ord vs x9 x10, σ = [some (.int d), some y, some (.ref a), some (.ref nn), some (.ref od), some (.ref nb), some (.ref rl), some (.int (n : Int)), some (.ref rw0), x9, x10] ∧
          LSI P w kd nm H1 H'' od nb rl ord vs bs (rowsN gs nm ord n) rw0 (rowF nm ord ((srt r).take m)) sl zs ((srt r).map fun p => lk p.1) ∧ OI gs nm fk ord n ∧ ord[n]? = some k0 ∧ (∀ p ∈ (srt r).take m, NestedKey.num (nm p.2) ∈ nmK nm ord) ∧
          scanF 1 (flatR (rowsN gs nm ord n) ++ (rowF nm ord ((srt r).take m)).map (·.2)) = some ord.length ∧ ∃ c, scanF 1 (flatR (rowsN gs nm ord n)) = some c ∧ n < c) ?_ (fun m σ H'' hm pm => ?_) (fun σ H'' pm => ?_) (fun m σ H'' x H3 hm pm yy => ?_) fun σ H'' pm => ?_⟩
      · refine ⟨ord, vs, _, _, rfl, ⟨lsw.same ssl, nw1, Same.free lsw.sm hsl, wb, wbs, fun e => ?_, fun e => ?_, DX.same (kvs := rowKv []) (hxw .t) ssl, upd_same, Paired.mapP py fun _ _ x => NV.mono (Tups.of_same ssl) _ _ x⟩, oi, hk0, fun p hp => by simp at hp, by simpa [rowF] using hsc, _, hsc, hlt⟩
        · rw [e, lsw.o] at hsl; cases hsl
        · rw [e, lsw.r] at hsl; cases hsl
      · obtain ⟨_, _, _, _, _, li, _⟩ := pm
        exact ⟨zs, zs[m]'(by omega), SqL.of li.sx, List.getElem?_eq_getElem (by omega)⟩
      · obtain ⟨_, _, _, _, _, li, _⟩ := pm
        exact ⟨zs, SqL.of li.sx, by omega⟩
      · obtain ⟨ord, vs, x9, x10, rfl, li, oi, hk0, hin, hsc, hpre⟩ := pm
        obtain ⟨rfl, f⟩ := yy
        have hx := f _ (SqL.of li.sx)
        obtain ⟨k', hk', nk⟩ := paired_get2 li.zp hx
        rw [List.getElem?_map] at hk'
        obtain ⟨p0, hp0, rfl⟩ := Option.map_eq_some_iff.mp hk'
        obtain ⟨c, rfl, hc⟩ := lk_tup nk
        have few := oi.few
        have ls := li.ls
        have hlt : n < ord.length := (List.getElem?_eq_some_iff.mp hk0).1
        obtain ⟨v0, hv0, kv0⟩ := paired_get1 ls.ov hk0
        have lvs : ord.length = vs.length := Paired.length ls.ov
        have p0m : p0 ∈ r := (srt_perm r).mem_iff.mp (List.mem_of_getElem? hp0)
        have g := GP.val gpr p0.1
        rw [at1_mem rnd p0m] at g
        obtain ⟨gv, vgv, kgv⟩ := g
        have ky : KeyV .t H3 (lk p0.1) (.ref c) := keyV_lk.mpr ⟨c, rfl, hc⟩
        refine ⟨_, rfl, _, rfl, _, rfl, od, _, _, v0, rfl, rfl, SqL.of ls.o, atI_nat (j := n) hv0, a, kd, kvg, k0, .ref rb, rfl, dg.same ls.sm, kv0, vrb, _, rfl, rb, .t, kvr, lk p0.1, gv, rfl, dr.same ls.sm, ky, vgv, ?_⟩
        have kgv3 : KeyV kd H3 p0.2 gv := kgv.mono (Tups.of_same ls.sm)
        refine ⟨_, rfl, _, rfl, nn, kd, _, p0.2, .int (nm p0.2), rfl, DX.same hN ls.sm, kgv3, names_val (rcl p0 p0m), _, rfl, nb, .i, _, .num (nm p0.2), rfl, ls.nbx, ⟨_, rfl, rfl⟩, _, rfl, ?_⟩
        rw [kvC_has]
        have lks : (nmK nm ord).length = ord.length := by unfold nmK; rw [List.length_map]
        have p0in : p0 ∈ (srt r).take (m + 1) := by
          rw [List.take_add_one, hp0]
          exact List.mem_append_right _ List.mem_cons_self
        -- row[letter] = numbers[names[goal]], the rest of the turn
        have fin : ∀ (De : Ends) (ord2 : List NestedKey) (vs2 : List V) (x9 : Option V) (H2 : Hp), (∀ σ H, (∃ ord vs x9 x10, σ = [some (.int d), some y, some (.ref a), some (.ref nn), some (.ref od), some (.ref nb), some (.ref rl), some (.int (n : Int)), some (.ref rw0), x9, x10] ∧
              LSI P w kd nm H1 H od nb rl ord vs bs (rowsN gs nm ord n) rw0 (rowF nm ord ((srt r).take (m + 1))) sl zs ((srt r).map fun p => lk p.1) ∧ OI gs nm fk ord n ∧ ord[n]? = some k0 ∧ (∀ p ∈ (srt r).take (m + 1), NestedKey.num (nm p.2) ∈ nmK nm ord) ∧
              scanF 1 (flatR (rowsN gs nm ord n) ++ (rowF nm ord ((srt r).take (m + 1))).map (·.2)) = some ord.length ∧ ∃ c, scanF 1 (flatR (rowsN gs nm ord n)) = some c ∧ n < c) → De.nx σ H) →
            LSI P w kd nm H1 H2 od nb rl ord2 vs2 bs (rowsN gs nm ord2 n) rw0 (rowF nm ord2 ((srt r).take m)) sl zs ((srt r).map fun p => lk p.1) → OI gs nm fk ord2 n → ord2[n]? = some k0 → (∀ p ∈ (srt r).take m, NestedKey.num (nm p.2) ∈ nmK nm ord2) → NestedKey.num (nm p0.2) ∈ nmK nm ord2 →
            scanF 1 (flatR (rowsN gs nm ord2 n) ++ (rowF nm ord2 ((srt r).take m)).map (·.2) ++ [(ixN nm ord2 p0.2 : Int)]) = some ord2.length → (∃ c, scanF 1 (flatR (rowsN gs nm ord2 n)) = some c ∧ n < c) → KeyV .t H2 (lk p0.1) (.ref c) → KeyV kd H2 p0.2 gv →
            sXPut P w (tVar 8) (tVar 9) (tXGet P w (tVar 5) (tXGet P w (tVar 3) (tVar 10))) De [some (.int d), some y, some (.ref a), some (.ref nn), some (.ref od), some (.ref nb), some (.ref rl), some (.int (n : Int)), some (.ref rw0), some (.ref c), some gv] H2 := by
          intro De ord2 vs2 _ H2 hDe li2 oi2 hk2 hin2 hp2 hsc2 hpre2 ky2 kgv2
          refine ⟨_, rfl, _, rfl, _, rfl, nn, kd, _, p0.2, .int (nm p0.2), rfl, DX.same hN li2.ls.sm, kgv2, names_val (rcl p0 p0m), nb, .i, _, .num (nm p0.2), _, rfl, li2.ls.nbx, ⟨_, rfl, rfl⟩, kvC_val hp2, _, rfl, _, rfl, rw0, .t, _, lk p0.1, rfl, li2.wx, ky2, ?_, fun u2 hx3 => ?_⟩
          · rw [rowKv_len]
            unfold rowF
            rw [List.length_map, List.length_take]
            exact small1000 (by omega)
          have etk : rowF nm ord2 ((srt r).take (m + 1)) = rowF nm ord2 ((srt r).take m) ++ [(p0.1, (ixN nm ord2 p0.2 : Int))] := by
            unfold rowF
            rw [List.take_add_one, hp0, List.map_append]
            rfl
          have fr : valV (rowKv (rowF nm ord2 ((srt r).take m))) (lk p0.1) = none := by
            rw [rowKv_val, at1_none.mpr]
            · rfl
            · have : (rowF nm ord2 ((srt r).take m)).map (·.1) = ((srt r).take m).map (·.1) := by
                unfold rowF
                rw [List.map_map]
                rfl
              rw [this]
              exact take_fresh (f := fun p : Ltr × NestedKey => p.1) snd hp0
          rw [putK_new _ fr] at hx3
          have e3 : rowKv (rowF nm ord2 ((srt r).take (m + 1))) = rowKv (rowF nm ord2 ((srt r).take m)) ++ [(lk p0.1, V.int (ixN nm ord2 p0.2 : Int))] := by
            rw [etk]
            simp [rowKv]
          refine hDe _ _ ⟨ord2, vs2, _, _, rfl, li2.row (by rw [e3]; exact hx3), oi2, hk2, fun p hp => ?_, ?_, hpre2⟩
          · rw [List.take_add_one, hp0] at hp
            rcases List.mem_append.mp hp with hp | hp
            · exact hin2 p hp
            · have : p = p0 := by simpa using hp
              rw [this]
              exact hp2
          · rw [etk, List.map_append, ← List.append_assoc]
            exact hsc2
        by_cases hin0 : NestedKey.num (nm p0.2) ∈ nmK nm ord
        · rw [decide_eq_true hin0]
          refine no ?_
          refine fin _ ord vs (some gv) H3 (fun _ _ h => h) li oi hk0 hin hin0 ?_ hpre ky kgv3
          rw [scan_append, hsc]
          show (if (ixN nm ord p0.2 : Int) < (ord.length : Int) then _ else _) = _
          rw [if_pos (by have := ixN_lt hin0; omega)]
          rfl
        · rw [decide_eq_false hin0]
          refine ys ?_
          refine ⟨_, rfl, od, _, rfl, .inl (SqL.of ls.o), _, rfl, _, rfl, _, rfl, nn, kd, _, p0.2, .int (nm p0.2), rfl, DX.same hN ls.sm, kgv3, names_val (rcl p0 p0m), nb, .i, _, .num (nm p0.2), rfl, ls.nbx, ⟨_, rfl, rfl⟩, by rw [kvC_len, lks]; exact small1000 (by omega), fun u2 hx2 => ?_⟩
          rw [putK_new _ (valV_not_mem (by rw [kvC_keys]; exact hin0)), ← lvs, ← lks, ← kvC_snoc] at hx2
          have ek : nmK nm ord ++ [.num (nm p0.2)] = nmK nm (ord ++ [p0.2]) := by unfold nmK; rw [List.map_append]; rfl
          rw [ek] at hx2
          obtain ⟨o2, li2⟩ := li.push kgv3 hx2
          have tu := ls.nbx.tups (u := u2)
          refine ⟨_, rfl, .inl ⟨rfl, _, SqL.of o2⟩, _, rfl, od, _, _, rfl, rfl, o2, by rw [← lvs]; exact small1000 (by omega), ?_⟩
          have t2 : Tups (upd H3 nb u2) (upd (upd H3 nb u2) od (.lst (vs ++ [gv]))) := SamX.upd.tups (tup_nat o2)
          have sub : ∀ k, k ∈ nmK nm ord → k ∈ nmK nm (ord ++ [p0.2]) := fun k hk => by rw [← ek]; exact List.mem_append_left _ hk
          have erw : rowF nm (ord ++ [p0.2]) ((srt r).take m) = rowF nm ord ((srt r).take m) := rowF_append hin
          have eN : rowsN gs nm (ord ++ [p0.2]) n = rowsN gs nm ord n := rowsN_append oi.le oi.inn
          have eix : ixN nm (ord ++ [p0.2]) p0.2 = ord.length := by
            unfold ixN
            rw [← ek, List.idxOf_append, if_neg hin0, List.idxOf_cons_self, lks]
            omega
          refine fin _ (ord ++ [p0.2]) (vs ++ [gv]) (some gv) _ (fun _ _ h => h) (by rw [erw, eN]; exact li2) (oi.push (rcl p0 p0m) hin0) ?_ (fun p hp => sub _ (hin p hp)) (by rw [← ek]; exact List.mem_append_right _ List.mem_cons_self) ?_ (by rw [eN]; exact hpre) ((ky.mono tu).mono t2) ((kgv3.mono tu).mono t2)
          · rw [List.getElem?_append_left hlt]
            exact hk0
          · rw [erw, eN, scan_append, hsc, eix, List.length_append]
            show (if ((ord.length : Nat) : Int) < (ord.length : Int) then _ else if ((ord.length : Nat) : Int) = (ord.length : Int) then _ else _) = _
            rw [if_neg (by omega), if_pos rfl]
            rfl
      · obtain ⟨ord, vs, x9, x10, rfl, li, oi, hk0, hin, hsc, hpre⟩ := pm
        rw [List.take_length] at li hin hsc
        refine ⟨_, rfl, .inl ⟨rfl, _, SqL.of li.ls.r⟩, _, rfl, rl, _, _, rfl, rfl, li.ls.r, ?_, ?_⟩
        · rw [List.length_map]
          have h1 : bs.length = (rowsN gs nm ord n).length := Paired.length li.ls.rv
          unfold rowsN at h1
          rw [List.length_map, List.length_take] at h1
          have := oi.few
          exact small1000 (by omega)
        refine ⟨_, rfl, _, _, rfl, rfl, ?_⟩
        rw [hSt]
        have eN : rowsN gs nm ord (n + 1) = rowsN gs nm ord n ++ [rowF nm ord (srt r)] := by
          unfold rowsN
          rw [List.take_add_one, hk0, List.map_append]
          show _ ++ [rowF nm ord (srt (rowOf gs k0))] = _
          rw [hr']
        have hlt : n < ord.length := (List.getElem?_eq_some_iff.mp hk0).1
        refine ⟨ord, vs, bs ++ [rw0], _, _, _, rfl, by rw [eN]; exact li.close, ⟨oi.hd, oi.mem, oi.nd, hlt, fun k hk p hp => ?_, fun i hi => ?_⟩, by rw [eN, flatR_snoc]; exact hsc⟩
        · rw [List.take_add_one, hk0] at hk
          rcases List.mem_append.mp hk with hk | hk
          · exact oi.inn k hk p hp
          · have : k = k0 := by simpa using hk
            rw [this, hr'] at hp
            exact hin p hp
        · have er : rowsN gs nm ord i = rowsN gs nm ord i := rfl
          by_cases h : i < n
          · exact oi.pre i h
          · have : i = n := by omega
            subst this
            exact hpre
    · have e : ¬ ((n : Int) < ((vs.length : Nat) : Int)) := fun z => e (decide_eq_true z)
      have hle := oi.le
      have en : n = ord.length := by omega
      subst en
      have lR : (rowsN gs nm ord ord.length).length = ord.length := by
        unfold rowsN
        rw [List.length_map, List.take_length]
      have Rget : ∀ (i : Nat) (x : NestedKey) (r : IRow), ord[i]? = some x → (rowsN gs nm ord ord.length)[i]? = some r → r = rowF nm ord (srt (rowOf gs x)) := fun i x r h1 h2 => by
        unfold rowsN at h2
        rw [List.take_length, List.getElem?_map, h1] at h2
        exact (Option.some.inj h2).symm
      have Rmem : ∀ r ∈ rowsN gs nm ord ord.length, ∃ k ∈ ord, r = rowF nm ord (srt (rowOf gs k)) := fun r hr => by
        unfold rowsN at hr
        obtain ⟨k, hk, e⟩ := List.mem_map.mp hr
        exact ⟨k, List.mem_of_mem_take hk, e.symm⟩
      have keysF : ∀ (r : GRow), (rowF nm ord r).map (·.1) = r.map (·.1) := fun r => by
        unfold rowF
        rw [List.map_map]
        rfl
      have inn : ∀ k ∈ ord, ∀ p ∈ rowOf gs k, NestedKey.num (nm p.2) ∈ nmK nm ord := fun k hk p hp => oi.inn k (by rw [List.take_length]; exact hk) p ((srt_perm _).mem_iff.mpr hp)
      have rowk : ∀ k ∈ ord, ∃ g ∈ gs, rowOf gs k = g.2 := fun k hk => by
        obtain ⟨g, hg, e⟩ := List.mem_map.mp (oi.mem k hk)
        exact ⟨g, hg, by rw [← e]; exact rowOf_mem ok.nd hg⟩
      have nds : ∀ k ∈ ord, ((srt (rowOf gs k)).map (·.1)).Nodup := fun k hk => by
        obtain ⟨g, hg, e⟩ := rowk k hk
        rw [e]
        exact ((srt_perm _).map (·.1)).nodup_iff.mpr (ok.rnd g hg)
      have sR : ∀ r ∈ rowsN gs nm ord ord.length, SRow r := fun r hr => by
        obtain ⟨k, hk, rfl⟩ := Rmem r hr
        unfold rowF
        exact List.pairwise_map.mpr (srt_sorted (rowOf gs k))
      have okR : GoesOk d (rowsN gs nm ord ord.length) := by
        refine ⟨fun r hr => ?_, ?_, by rw [lR]; omega⟩
        · obtain ⟨k, hk, rfl⟩ := Rmem r hr
          obtain ⟨g, hg, e⟩ := rowk k hk
          have lw : ∀ l ∈ (rowF nm ord (srt (rowOf gs k))).map (·.1), Lw d l := fun l hl => by
            rw [keysF] at hl
            rw [e] at hl
            exact ok.lw g hg l (((srt_perm _).map (·.1)).mem_iff.mp hl)
          refine ⟨fun p hp => lw p.1 (List.mem_map.mpr ⟨p, hp, rfl⟩), by rw [keysF]; exact nds k hk, fun p hp => ?_, ?_⟩
          · unfold rowF at hp
            obtain ⟨q, hq, rfl⟩ := List.mem_map.mp hp
            have := ixN_lt (inn k hk q ((srt_perm _).mem_iff.mp hq))
            rw [lR]
            refine ⟨?_, ?_⟩
            · show (0 : Int) ≤ (ixN nm ord q.2 : Int)
              omega
            · show (ixN nm ord q.2 : Int) < _
              omega
          · have := letters_few hd (by rw [keysF]; exact nds k hk) lw
            rw [List.length_map] at this
            exact this
        · rw [lR]
          exact (List.getElem?_eq_some_iff.mp oi.hd).1
      refine ⟨_, rfl, _, rfl, fun x dx hx hdx hne => ⟨x, rl, dx, d, rowsN gs nm ord ord.length, rfl, upd_same, ?_, okR, hd, fun H2 R' sx hpat hso => ⟨rfl, ?_⟩⟩⟩
      · have s2 : Same H' (upd (upd H' dx (.own x)) x (.ins C dx [])) := fun b o e => by
          rw [upd_ne (ne_of_none e hx), upd_ne (ne_of_none e hdx)]
          exact e
        exact ⟨bs, s2 _ _ ls.r, ls.rv.same s2⟩
      · have eR : R' = rowsN gs nm ord ord.length := by
          have : ∀ {R1 R2 : List IRow}, Paired SortedOf R1 R2 → (∀ r ∈ R1, SRow r ∧ (r.map (·.1)).Nodup) → R2 = R1 := by
            intro R1 R2 h
            induction h with
            | nil => intro _; rfl
            | cons h t ih =>
              intro q
              obtain ⟨q1, q2⟩ := q _ List.mem_cons_self
              rw [ih fun r hr => q r (List.mem_cons_of_mem _ hr), row_unique q2 h.1 q1 h.2]
          exact this hso fun r hr => ⟨sR r hr, (okR.1 r hr).2.1⟩
        subst eR
        refine k H2 x _ (fun b o e => ?_) hpat okR ⟨ord, lR.symm, oi.hd, fun i j x y hi hj hxy => ?_, oi.mem, fun i x r hi hr l => ?_, by rw [lR]; exact hsc, fun i hi => ?_, sR⟩
        · have e' := Same.trans s1 ls.sm _ _ e
          refine sx _ _ (ne_of_none e' hx) ?_
          rw [upd_ne (ne_of_none e' hx), upd_ne (ne_of_none e' hdx)]
          exact e'
        · have e1 := (hnm x (oi.mem x (List.mem_of_getElem? hi)) y (oi.mem y (List.mem_of_getElem? hj))).mpr hxy
          have n1 : (nmK nm ord)[i]? = (nmK nm ord)[j]? := by
            unfold nmK
            rw [List.getElem?_map, List.getElem?_map, hi, hj]
            show some (NestedKey.num (nm x)) = some (NestedKey.num (nm y))
            rw [e1]
          exact (List.getElem?_inj (by unfold nmK; rw [List.length_map]; exact (List.getElem?_eq_some_iff.mp hi).1) oi.nd).mp n1
        · have := Rget i x r hi hr
          subst this
          have hxm := List.mem_of_getElem? hi
          have ea : ∀ (r : GRow), at1 (rowF nm ord r) l = (at1 r l).map fun g => (ixN nm ord g : Int) := by
            intro r
            induction r with
            | nil => rfl
            | cons p r ih =>
              show at1 ((p.1, (ixN nm ord p.2 : Int)) :: rowF nm ord r) l = _
              by_cases e : p.1 = l
              · rw [at1_pos e, at1_pos (p := (p.1, (ixN nm ord p.2 : Int))) e]
                rfl
              · rw [at1_neg e, at1_neg (p := (p.1, (ixN nm ord p.2 : Int))) e, ih]
          rw [ea]
          obtain ⟨g, hg, e⟩ := rowk x hxm
          rw [at1_perm (by rw [e]; exact ok.rnd g hg) (srt_perm (rowOf gs x)) l]
          cases eg : at1 (rowOf gs x) l with
          | none => rfl
          | some q =>
            have qm := at1_some eg
            have hq := inn x hxm _ qm
            obtain ⟨y, hy1, hy2⟩ := ixN_get hq
            refine ⟨ixN nm ord q, y, rfl, hy1, (hnm q ?_ y (oi.mem y (List.mem_of_getElem? hy1))).mp hy2⟩
            rw [e] at qm
            exact ok.cl g hg _ qm
        · rw [lR] at hi
          rw [rowsN_take (by omega)]
          exact oi.pre i hi
end
end WW


set_option maxHeartbeats 2000000

/-! the least machine of a language -/
namespace WW
open PySem PySem.Spec PyProof.Rows L2
def acc (R : List IRow) (i : Int) (u : List Ltr) : Prop := (runR R i u).isSome = true
theorem acc_nil (R : List IRow) (i : Int) : acc R i [] := rfl
theorem acc_cons {R : List IRow} {i : Int} {l : Ltr} {u : List Ltr} : acc R i (l :: u) ↔ ∃ j, stepR R i l = some j ∧ acc R j u := by
  unfold acc
  show ((stepR R i l).bind fun j => runR R j u).isSome = true ↔ _
  cases stepR R i l with
  | none => simp
  | some j => simp
structure Canon (R : List IRow) : Prop where
  min : ∀ i j : Nat, i < R.length → j < R.length → (∀ u, acc R i u ↔ acc R j u) → i = j
  scan : scanF 1 (flatR R) = some R.length
  pre : ∀ i : Nat, i < R.length → ∃ c, scanF 1 (flatR (R.take i)) = some c ∧ i < c
  srt : ∀ r ∈ R, SRow r
theorem least_canon {d : Nat} {gs : List (NestedKey × GRow)} {fk : NestedKey} {R : List IRow} (ok : GOk d gs) (okR : GoesOk d R) (h : Least gs fk R) : Canon R ∧ ∀ u, acc R 0 u ↔ okW gs fk u := by
  obtain ⟨ord, hl, h0, hm, hin, hrow, hs, hp, hsr⟩ := h
  have sw : ∀ (x y : NestedKey), SameW gs x y → ∀ u, okW gs x u ↔ okW gs y u := fun _ _ h => h
  have key : ∀ (u : List Ltr) (i : Nat) (x : NestedKey), ord[i]? = some x → (acc R i u ↔ okW gs x u) := by
    intro u
    induction u with
    | nil => intro i x hx; exact ⟨fun _ => trivial, fun _ => rfl⟩
    | cons l u ih =>
      intro i x hx
      have hi : i < R.length := by rw [← hl]; exact (List.getElem?_eq_some_iff.mp hx).1
      obtain ⟨r, hr⟩ : ∃ r, R[i]? = some r := ⟨R[i], List.getElem?_eq_getElem hi⟩
      have e1 : rowAt R (i : Int) = r := by
        unfold rowAt
        rw [List.getD_eq_getElem?_getD, show ((i : Int).toNat) = i by omega, hr]
        rfl
      have hl2 := hrow i x r hx hr l
      rw [acc_cons]
      show (∃ j, at1 (rowAt R i) l = some j ∧ acc R j u) ↔ ∃ g, at1 (rowOf gs x) l = some g ∧ okW gs g u
      rw [e1]
      cases eg : at1 (rowOf gs x) l with
      | none =>
        rw [eg] at hl2
        have hl2 : at1 r l = none := hl2
        rw [hl2]
        simp
      | some g =>
        rw [eg] at hl2
        obtain ⟨j, y, a1, a2, a3⟩ := hl2
        rw [a1]
        have := (ih j y a2).trans (a3 u).symm
        simp [this]
  refine ⟨⟨fun i j hi hj e => ?_, hs, hp, hsr⟩, fun u => key u 0 fk h0⟩
  obtain ⟨x, hx⟩ : ∃ x, ord[i]? = some x := ⟨ord[i], List.getElem?_eq_getElem (by omega)⟩
  obtain ⟨y, hy⟩ : ∃ y, ord[j]? = some y := ⟨ord[j], List.getElem?_eq_getElem (by omega)⟩
  exact hm i j x y hx hy fun u => ((key u i x hx).symm.trans (e u)).trans (key u j y hy)
/-! a pattern's own goes, by numbers -/
def grI (r : IRow) : GRow := r.map fun p => (p.1, .num p.2)
def gsI (A : List IRow) : List (NestedKey × GRow) := A.zipIdx.map fun q => (.num ((q.2 : Nat) : Int), grI q.1)
theorem grI_at (l : Ltr) : ∀ r : IRow, at1 (grI r) l = (at1 r l).map NestedKey.num
  | [] => rfl
  | p :: r => by
    show at1 ((p.1, NestedKey.num p.2) :: grI r) l = _
    by_cases e : p.1 = l
    · rw [at1_pos e, at1_pos (p := (p.1, NestedKey.num p.2)) e]
      rfl
    · rw [at1_neg e, at1_neg (p := (p.1, NestedKey.num p.2)) e, grI_at l r]
theorem grI_keys (r : IRow) : (grI r).map (·.1) = r.map (·.1) := by
  unfold grI
  rw [List.map_map]
  rfl
theorem gsI_get (A : List IRow) (i : Nat) : (gsI A)[i]? = A[i]?.map fun r => (.num (i : Int), grI r) := by
  unfold gsI
  rw [List.getElem?_map, List.getElem?_zipIdx]
  cases A[i]? <;> simp
theorem gsI_keys (A : List IRow) : (gsI A).map (·.1) = (List.range A.length).map fun i : Nat => .num (i : Int) := by
  refine List.ext_getElem? fun i => ?_
  rw [List.getElem?_map, gsI_get, List.getElem?_map]
  by_cases h : i < A.length
  · rw [List.getElem?_eq_getElem h, List.getElem?_range h]
    rfl
  · rw [List.getElem?_eq_none (l := A) (by omega), List.getElem?_eq_none (l := List.range A.length) (by rw [List.length_range]; omega)]
    rfl
theorem gsI_mem {A : List IRow} {g : NestedKey × GRow} (h : g ∈ gsI A) : ∃ (i : Nat) (r : IRow), A[i]? = some r ∧ g = (.num (i : Int), grI r) := by
  obtain ⟨i, hi⟩ := List.mem_iff_getElem?.mp h
  rw [gsI_get] at hi
  obtain ⟨r, h1, h2⟩ := Option.map_eq_some_iff.mp hi
  exact ⟨i, r, h1, h2.symm⟩
theorem gsI_ok {d : Nat} {A : List IRow} (h : GoesOk d A) : GOk d (gsI A) := by
  have rows : ∀ g ∈ gsI A, ∃ r ∈ A, g.2 = grI r := fun g hg => by
    obtain ⟨i, r, h1, rfl⟩ := gsI_mem hg
    exact ⟨r, List.mem_of_getElem? h1, rfl⟩
  refine ⟨?_, fun g hg => ?_, fun g hg l hl => ?_, fun g hg => ?_, fun g hg p hp => ?_, ?_⟩
  · rw [gsI_keys]
    refine nodup_map_inj (fun a b e => ?_) List.nodup_range
    injection e with e
    omega
  · obtain ⟨r, hr, e⟩ := rows g hg
    rw [e, grI_keys]
    exact (h.1 r hr).2.1
  · obtain ⟨r, hr, e⟩ := rows g hg
    rw [e, grI_keys] at hl
    obtain ⟨p, hp, rfl⟩ := List.mem_map.mp hl
    exact (h.1 r hr).1 p hp
  · obtain ⟨r, hr, e⟩ := rows g hg
    rw [e]
    unfold grI
    rw [List.length_map]
    have := (h.1 r hr).2.2.2
    omega
  · obtain ⟨r, hr, e⟩ := rows g hg
    rw [e] at hp
    unfold grI at hp
    obtain ⟨q, hq, rfl⟩ := List.mem_map.mp hp
    have hr3 := (h.1 r hr).2.2.1 q hq
    rw [gsI_keys]
    refine List.mem_map.mpr ⟨q.2.toNat, List.mem_range.mpr (by omega), ?_⟩
    show NestedKey.num ((q.2.toNat : Nat) : Int) = .num q.2
    rw [show ((q.2.toNat : Nat) : Int) = q.2 by omega]
  · have := congrArg List.length (gsI_keys A)
    rw [List.length_map, List.length_map, List.length_range] at this
    have := h.2.2
    omega
theorem gsI_row {d : Nat} {A : List IRow} (h : GoesOk d A) {i : Int} (h0 : 0 ≤ i) (h1 : i < (A.length : Int)) : rowOf (gsI A) (.num i) = grI (rowAt A i) := by
  obtain ⟨n, rfl, hn⟩ := rowAt_some h0 h1
  have : (NestedKey.num (n : Int), grI (rowAt A n)) ∈ gsI A := by
    refine List.mem_of_getElem? (i := n) ?_
    rw [gsI_get, hn]
    rfl
  exact rowOf_mem (gsI_ok h).nd this
theorem gsI_lang {d : Nat} {A : List IRow} (h : GoesOk d A) : ∀ (u : List Ltr) (i : Int), 0 ≤ i → i < (A.length : Int) → (okW (gsI A) (.num i) u ↔ acc A i u)
  | [], _, _, _ => ⟨fun _ => rfl, fun _ => trivial⟩
  | l :: u, i, h0, h1 => by
    rw [acc_cons]
    show (∃ g, at1 (rowOf (gsI A) (.num i)) l = some g ∧ okW (gsI A) g u) ↔ _
    rw [gsI_row h h0 h1, grI_at]
    show _ ↔ ∃ j, at1 (rowAt A i) l = some j ∧ acc A j u
    cases e : at1 (rowAt A i) l with
    | none => simp
    | some j =>
      have g := h.step (l := l) h0 h1 e
      have := gsI_lang h u j g.2.1 g.2.2
      simp [this]
/-! both, either -/
def okP (both : Bool) (A B : List IRow) : OP → List Ltr → Prop
  | _, [] => True
  | p, l :: u => ∃ x, prF both A B p l = some x ∧ okP both A B x u
theorem met_lang {both : Bool} {d : Nat} {A B : List IRow} {gs : List (OP × GRow)} (nd : (gs.map (·.1)).Nodup) (fr : ∀ g ∈ gs, FR both d A B g) (cl : ∀ g ∈ gs, ∀ l x, prF both A B g.1 l = some x → x ∈ gs.map (·.1)) :
    ∀ (u : List Ltr) (p : OP), p ∈ gs.map (·.1) → (okW (gs.map fun g => (pko g.1, g.2)) (pko p) u ↔ okP both A B p u)
  | [], _, _ => ⟨fun _ => trivial, fun _ => trivial⟩
  | l :: u, p, hp => by
    obtain ⟨g, hg, rfl⟩ := List.mem_map.mp hp
    have nd2 : ((gs.map fun g => (pko g.1, g.2)).map (·.1)).Nodup := by
      rw [List.map_map]
      have := nodup_map_inj (fun a b => pko_inj) nd
      rw [List.map_map] at this
      exact this
    have er : rowOf (gs.map fun g => (pko g.1, g.2)) (pko g.1) = g.2 := rowOf_mem nd2 (g := (pko g.1, g.2)) (List.mem_map.mpr ⟨g, hg, rfl⟩)
    show (∃ k, at1 (rowOf _ (pko g.1)) l = some k ∧ _) ↔ ∃ x, prF both A B g.1 l = some x ∧ _
    rw [er, (fr g hg).at_]
    cases e : prF both A B g.1 l with
    | none => simp
    | some x =>
      have := met_lang nd fr cl u x (cl g hg l x e)
      simp [this]
def accO (A : List IRow) : Option Int → List Ltr → Prop
  | none, _ => False
  | some i, u => acc A i u
theorem both_lang {A B : List IRow} : ∀ (u : List Ltr) (i j : Int), okP true A B (some i, some j) u ↔ acc A i u ∧ acc B j u
  | [], _, _ => ⟨fun _ => ⟨rfl, rfl⟩, fun _ => trivial⟩
  | l :: u, i, j => by
    rw [acc_cons, acc_cons]
    show (∃ x, prF true A B (some i, some j) l = some x ∧ okP true A B x u) ↔ _
    unfold prF
    show (∃ x, (match at1 (rowAt A i) l, at1 (rowAt B j) l with | none, none => none | some x, some y => some (some x, some y) | x, y => if true = true then none else some (x, y)) = some x ∧ _) ↔ (∃ j', at1 (rowAt A i) l = some j' ∧ _) ∧ ∃ j', at1 (rowAt B j) l = some j' ∧ _
    cases at1 (rowAt A i) l with
    | none => cases at1 (rowAt B j) l <;> simp
    | some x =>
      cases at1 (rowAt B j) l with
      | none => simp
      | some y =>
        have := both_lang (A := A) (B := B) u x y
        simp [this]
theorem either_lang {A B : List IRow} : ∀ (u : List Ltr) (p : OP), (p.1 ≠ none ∨ p.2 ≠ none) → (okP false A B p u ↔ accO A p.1 u ∨ accO B p.2 u)
  | [], p, h => by
    refine ⟨fun _ => ?_, fun _ => trivial⟩
    obtain ⟨x, y⟩ := p
    cases x with
    | some i => exact .inl rfl
    | none =>
      cases y with
      | some j => exact .inr rfl
      | none => exact absurd rfl (h.elim id id)
  | l :: u, (x, y), h => by
    have ax : accO A x (l :: u) ↔ ∃ j, at1 (opRow A x) l = some j ∧ acc A j u := by
      cases x with
      | none => simp [accO, opRow, at1_nil]
      | some i => exact acc_cons
    have ay : accO B y (l :: u) ↔ ∃ j, at1 (opRow B y) l = some j ∧ acc B j u := by
      cases y with
      | none => simp [accO, opRow, at1_nil]
      | some i => exact acc_cons
    rw [ax, ay]
    show (∃ z, prF false A B (x, y) l = some z ∧ okP false A B z u) ↔ _
    unfold prF
    show (∃ z, (match at1 (opRow A x) l, at1 (opRow B y) l with | none, none => none | some x, some y => some (some x, some y) | x, y => if false = true then none else some (x, y)) = some z ∧ _) ↔ _
    cases at1 (opRow A x) l with
    | none =>
      cases at1 (opRow B y) l with
      | none => simp
      | some j =>
        have := either_lang (A := A) (B := B) u (none, some j) (.inr (by simp))
        simp [this, accO]
    | some i =>
      cases at1 (opRow B y) l with
      | none =>
        have := either_lang (A := A) (B := B) u (some i, none) (.inl (by simp))
        simp [this, accO]
      | some j =>
        have := either_lang (A := A) (B := B) u (some i, some j) (.inl (by simp))
        simp [this, accO]
end WW


set_option maxHeartbeats 2000000

namespace WW
open PySem PySem.Spec PyProof.Rows L2
/-! one least machine a language -/
def SameL (R S : List IRow) (i j : Int) : Prop := ∀ u, acc R i u ↔ acc S j u
def Ag (R S : List IRow) (c : Nat) : Prop := ∀ j : Nat, j < c → SameL R S j j
theorem scan_rows {R S : List IRow} (hR : Canon R) (hS : Canon S) : ∀ {r s : IRow}, Paired (fun p q => p.1 = q.1 ∧ SameL R S p.2 q.2) r s → (∀ p ∈ r, 0 ≤ p.2 ∧ p.2 < (R.length : Int)) → (∀ p ∈ s, 0 ≤ p.2 ∧ p.2 < (S.length : Int)) →
    ∀ {c c1 c2 : Nat}, c ≤ R.length → c ≤ S.length → Ag R S c → scanF c (r.map (·.2)) = some c1 → scanF c (s.map (·.2)) = some c2 → r = s ∧ c1 = c2 ∧ c1 ≤ R.length ∧ c1 ≤ S.length ∧ Ag R S c1
  | _, _, .nil, _, _, c, c1, c2, l1, l2, ag, h1, h2 => by
    cases h1
    cases h2
    exact ⟨rfl, rfl, l1, l2, ag⟩
  | _, _, .cons (a := p) (b := q) (l₁ := r) (l₂ := s) h t, hr, hs, c, c1, c2, l1, l2, ag, h1, h2 => by
    have pr := hr p List.mem_cons_self
    have ps := hs q List.mem_cons_self
    have h1 : (if p.2 < (c : Int) then scanF c (r.map (·.2)) else if p.2 = (c : Int) then scanF (c + 1) (r.map (·.2)) else none) = some c1 := h1
    have h2 : (if q.2 < (c : Int) then scanF c (s.map (·.2)) else if q.2 = (c : Int) then scanF (c + 1) (s.map (·.2)) else none) = some c2 := h2
    obtain ⟨i, hi⟩ : ∃ i : Nat, p.2 = (i : Int) := ⟨p.2.toNat, by omega⟩
    obtain ⟨j, hj⟩ : ∃ j : Nat, q.2 = (j : Int) := ⟨q.2.toNat, by omega⟩
    have sm : SameL R S i j := by
      have := h.2
      rw [hi, hj] at this
      exact this
    have le1 : i ≤ c := by
      by_cases q : i < c
      · omega
      · rw [if_neg (by omega)] at h1
        by_cases q2 : i = c
        · omega
        · rw [if_neg (by omega)] at h1
          cases h1
    have le2 : j ≤ c := by
      by_cases q : j < c
      · omega
      · rw [if_neg (by omega)] at h2
        by_cases q2 : j = c
        · omega
        · rw [if_neg (by omega)] at h2
          cases h2
    have eij : i = j := by
      by_cases q : i < c
      · exact hS.min i j (by omega) (by omega) fun u => ((ag i q u).symm.trans (sm u))
      · by_cases q2 : j < c
        · exact hR.min i j (by omega) (by omega) fun u => (sm u).trans (ag j q2 u).symm
        · omega
    subst eij
    have epq : p = q := Prod.ext h.1 (by rw [hi, hj])
    have rest : ∀ c', c' ≤ R.length → c' ≤ S.length → Ag R S c' → scanF c' (r.map (·.2)) = some c1 → scanF c' (s.map (·.2)) = some c2 → p :: r = q :: s ∧ c1 = c2 ∧ c1 ≤ R.length ∧ c1 ≤ S.length ∧ Ag R S c1 := fun c' a1 a2 a3 a4 a5 => by
      have z := scan_rows hR hS t (fun x hx => hr x (List.mem_cons_of_mem _ hx)) (fun x hx => hs x (List.mem_cons_of_mem _ hx)) a1 a2 a3 a4 a5
      exact ⟨by rw [epq, z.1], z.2⟩
    by_cases q : i < c
    · rw [if_pos (by omega)] at h1 h2
      exact rest c l1 l2 ag h1 h2
    · rw [if_neg (by omega), if_pos (by omega)] at h1 h2
      refine rest (c + 1) (by omega) (by omega) (fun k hk => ?_) h1 h2
      by_cases q2 : k < c
      · exact ag k q2
      · have : k = i := by omega
        rw [this]
        exact sm
theorem paired_row {R S : List IRow} : ∀ {r s : IRow}, r.map (·.1) = s.map (·.1) → (r.map (·.1)).Nodup → (∀ l i j, (l, i) ∈ r → (l, j) ∈ s → SameL R S i j) → Paired (fun p q => p.1 = q.1 ∧ SameL R S p.2 q.2) r s
  | [], [], _, _, _ => .nil
  | [], _ :: _, h, _, _ => by cases h
  | _ :: _, [], h, _, _ => by cases h
  | p :: r, q :: s, h, nd, k => by
    rw [List.map_cons, List.map_cons] at h
    injection h with h1 h2
    rw [List.map_cons, List.nodup_cons] at nd
    refine .cons ⟨h1, k p.1 p.2 q.2 List.mem_cons_self (by rw [h1]; exact List.mem_cons_self)⟩ (paired_row h2 nd.2 fun l i j hi hj => k l i j (List.mem_cons_of_mem _ hi) (List.mem_cons_of_mem _ hj))
theorem keys_same {r s : IRow} (n1 : (r.map (·.1)).Nodup) (n2 : (s.map (·.1)).Nodup) (s1 : SRow r) (s2 : SRow s) (h : ∀ l, (at1 r l).isSome = (at1 s l).isSome) : r.map (·.1) = s.map (·.1) := by
  have key : ∀ (r : IRow) (l : Ltr), at1 (r.map fun p => (p.1, ())) l = (at1 r l).map fun _ => () := by
    intro r l
    unfold at1
    rw [List.find?_map, Option.map_map, Option.map_map]
    rfl
  have e1 : ∀ r : IRow, (r.map fun p => (p.1, ())).map (·.1) = r.map (·.1) := fun r => by rw [List.map_map]; rfl
  have p := perm_of_at (r1 := r.map fun p => (p.1, ())) (r2 := s.map fun p => (p.1, ())) (by rw [e1]; exact n1) (by rw [e1]; exact n2) fun l => by
    rw [key, key]
    have := h l
    cases q1 : at1 r l <;> cases q2 : at1 s l <;> rw [q1, q2] at this <;> simp at this ⊢
  have p := p.map (·.1)
  rw [e1, e1] at p
  exact List.Perm.eq_of_pairwise (le := lle) (fun a b _ _ x y => lle_anti x y) (List.pairwise_map.mpr s1) (List.pairwise_map.mpr s2) p
theorem canon_one {d e : Nat} {R S : List IRow} (oR : GoesOk d R) (oS : GoesOk e S) (hR : Canon R) (hS : Canon S) (h : ∀ u, acc R 0 u ↔ acc S 0 u) : R = S := by
  have step : ∀ i : Nat, i ≤ R.length → i ≤ S.length → R.take i = S.take i ∧ ∃ c, scanF 1 (flatR (R.take i)) = some c ∧ c ≤ R.length ∧ c ≤ S.length ∧ Ag R S c := by
    intro i
    induction i with
    | zero =>
      intro _ _
      refine ⟨rfl, 1, rfl, oR.2.1, oS.2.1, fun j hj => ?_⟩
      have : j = 0 := by omega
      subst this
      exact h
    | succ i ih =>
      intro l1 l2
      obtain ⟨e1, c, hc, c1, c2, ag⟩ := ih (by omega) (by omega)
      have tk : ∀ {T : List IRow} (hi : i < T.length), T.take (i + 1) = T.take i ++ [T[i]] := fun hi => by rw [List.take_add_one, List.getElem?_eq_getElem hi]; rfl
      have ra : ∀ {T : List IRow} (hi : i < T.length), rowAt T (i : Int) = T[i] := fun {T} hi => by
        show T.getD (i : Int).toNat [] = _
        rw [show (i : Int).toNat = i by omega, List.getD_eq_getElem?_getD, List.getElem?_eq_getElem hi]
        rfl
      have hic : i < c := by
        obtain ⟨c', q1, q2⟩ := hR.pre i (by omega)
        rw [hc] at q1
        cases q1
        exact q2
      have sm : SameL R S i i := ag i hic
      have okr := oR.row (i := (i : Int)) (by omega) (by omega)
      have oks := oS.row (i := (i : Int)) (by omega) (by omega)
      rw [ra (by omega)] at okr oks
      have atr : ∀ l, stepR R (i : Int) l = at1 (R[i]'(by omega)) l := fun l => by unfold stepR; rw [ra]
      have ats : ∀ l, stepR S (i : Int) l = at1 (S[i]'(by omega)) l := fun l => by unfold stepR; rw [ra]
      have kk : (R[i]'(by omega)).map (·.1) = (S[i]'(by omega)).map (·.1) := by
        refine keys_same okr.2.1 oks.2.1 (hR.srt _ (List.getElem_mem _)) (hS.srt _ (List.getElem_mem _)) fun l => ?_
        have := sm [l]
        rw [acc_cons, acc_cons] at this
        rw [← atr, ← ats]
        cases q1 : stepR R i l <;> cases q2 : stepR S i l <;> rw [q1, q2] at this <;> simp [acc_nil] at this ⊢
      have pr : Paired (fun p q => p.1 = q.1 ∧ SameL R S p.2 q.2) (R[i]'(by omega)) (S[i]'(by omega)) := paired_row kk okr.2.1 fun l a b ha hb u => by
        have := sm (l :: u)
        rw [acc_cons, acc_cons, atr, ats, at1_mem okr.2.1 ha, at1_mem oks.2.1 hb] at this
        simpa using this
      obtain ⟨d1, hd1⟩ : ∃ d1, scanF c ((R[i]'(by omega)).map (·.2)) = some d1 := by
        have e2 : flatR R = (flatR (R.take i) ++ (R[i]'(by omega)).map (·.2)) ++ flatR (R.drop (i + 1)) := by
          rw [← flatR_snoc, ← tk (by omega)]
          unfold flatR
          rw [← List.flatMap_append, List.take_append_drop]
        have := hR.scan
        rw [e2, scan_append, scan_append, hc] at this
        cases q : scanF c ((R[i]'(by omega)).map (·.2)) with
        | none =>
          have this : (((some c).bind fun c' => scanF c' ((R[i]'(by omega)).map (·.2))).bind fun c' => scanF c' (flatR (R.drop (i + 1)))) = some R.length := this
          rw [show ((some c).bind fun c' => scanF c' ((R[i]'(by omega)).map (·.2))) = none from q] at this
          cases this
        | some d1 => exact ⟨d1, rfl⟩
      obtain ⟨d2, hd2⟩ : ∃ d2, scanF c ((S[i]'(by omega)).map (·.2)) = some d2 := by
        have e2 : flatR S = (flatR (S.take i) ++ (S[i]'(by omega)).map (·.2)) ++ flatR (S.drop (i + 1)) := by
          rw [← flatR_snoc, ← tk (by omega)]
          unfold flatR
          rw [← List.flatMap_append, List.take_append_drop]
        have := hS.scan
        rw [e2, scan_append, scan_append, ← e1, hc] at this
        cases q : scanF c ((S[i]'(by omega)).map (·.2)) with
        | none =>
          rw [show ((some c).bind fun c' => scanF c' ((S[i]'(by omega)).map (·.2))) = none from q] at this
          cases this
        | some d1 => exact ⟨d1, rfl⟩
      obtain ⟨q1, q2, q3, q4, q5⟩ := scan_rows hR hS pr okr.2.2.1 oks.2.2.1 c1 c2 ag hd1 hd2
      refine ⟨by rw [tk (by omega), tk (by omega), e1, q1], d1, ?_, q3, q4, q5⟩
      rw [tk (by omega), flatR_snoc, scan_append, hc]
      exact hd1
  have fin : ∀ {d e : Nat} {R S : List IRow}, GoesOk d R → GoesOk e S → Canon R → Canon S → R.length < S.length → R.take R.length = S.take R.length → False := fun oR oS hR hS hl q => by
    rw [List.take_length] at q
    obtain ⟨c, h1, h2⟩ := hS.pre _ hl
    rw [← q, hR.scan] at h1
    cases h1
    omega
  rcases Nat.lt_trichotomy R.length S.length with q | q | q
  · exact (fin oR oS hR hS q (step R.length (Nat.le_refl _) (by omega)).1).elim
  · have := (step R.length (Nat.le_refl _) (by omega)).1
    rw [List.take_length, q, List.take_length] at this
    exact this
  · exact (fin oS oR hS hR q (step S.length (by omega) (Nat.le_refl _)).1.symm).elim
end WW


set_option maxHeartbeats 2000000

namespace WW
open PySem PySem.Spec PyProof.Rows L2
theorem gsM_ok {both : Bool} {d : Nat} {A B : List IRow} {gs : List (OP × GRow)} (nd : (gs.map (·.1)).Nodup) (fr : ∀ g ∈ gs, FR both d A B g) (cl : ∀ g ∈ gs, ∀ l x, prF both A B g.1 l = some x → x ∈ gs.map (·.1)) (hz : (A.length + 1) * (B.length + 1) ≤ 60) :
    GOk d (gs.map fun g => (pko g.1, g.2)) ∧ (gs.map fun g => (pko g.1, g.2)).length ≤ 60 := by
  have few : gs.length ≤ 60 := by
    have := keys_few (n := A.length) (m := B.length) nd fun k hk => by
      obtain ⟨g, hg, rfl⟩ := List.mem_map.mp hk
      exact ⟨(fr g hg).ia, (fr g hg).ib⟩
    rw [List.length_map] at this
    omega
  have em : (gs.map fun g => (pko g.1, g.2)).map (·.1) = (gs.map (·.1)).map pko := by
    rw [List.map_map, List.map_map]
    rfl
  refine ⟨⟨by rw [em]; exact nodup_map_inj (fun a b => pko_inj) nd, fun g hg => ?_, fun g hg => ?_, fun g hg => ?_, fun g hg p hp => ?_, by rw [List.length_map]; omega⟩, by rw [List.length_map]; exact few⟩
  · obtain ⟨g', hg', rfl⟩ := List.mem_map.mp hg
    exact (fr g' hg').nd
  · obtain ⟨g', hg', rfl⟩ := List.mem_map.mp hg
    exact (fr g' hg').lw
  · obtain ⟨g', hg', rfl⟩ := List.mem_map.mp hg
    exact (fr g' hg').few
  · obtain ⟨g', hg', rfl⟩ := List.mem_map.mp hg
    obtain ⟨x, e, hx⟩ := (fr g' hg').goals p hp
    rw [em]
    exact List.mem_map.mpr ⟨x, cl g' hg' _ x hx, e.symm⟩
section
variable {P : Program} {w : World} {K : PySem.W.Frag} {mg : Str → Option Value} {base : Heap}
abbrev sPLeast : Stmt := inClass (top 24) 7
abbrev sPAnd : Stmt := inClass (top 24) 8
abbrev sPOr : Stmt := inClass (top 24) 9
theorem scP7 : FnScope ["self"] ["self"] (defScope sPLeast) := ⟨rfl, rfl, rfl, by decide +kernel, rfl, by decide +kernel, by decide +kernel⟩
theorem scP8 : FnScope ["self", "other"] ["self", "other"] (defScope sPAnd) := ⟨rfl, rfl, rfl, by decide +kernel, rfl, by decide +kernel, by decide +kernel⟩
theorem scP9 : FnScope ["self", "other"] ["self", "other"] (defScope sPOr) := ⟨rfl, rfl, rfl, by decide +kernel, rfl, by decide +kernel, by decide +kernel⟩
def spPLeast (P : Program) (w : World) (C : Addr) : Sp := fun vs H Q _ => ∃ (p : Addr) (d : Nat) (A : List IRow), vs = [.ref p] ∧ PatAt P w C H p d A ∧ GoesOk d A ∧ d ≤ 4 ∧ ∀ H' q R, Same H H' → PatAt P w C H' q d R → GoesOk d R → Canon R → (∀ u, acc R 0 u ↔ acc A 0 u) → Q (.ref q) H'
def spPOp (P : Program) (w : World) (C : Addr) (op : Prop → Prop → Prop) : Sp := fun vs H Q _ => ∃ (p q : Addr) (d : Nat) (A B : List IRow), vs = [.ref p, .ref q] ∧ PatAt P w C H p d A ∧ PatAt P w C H q d B ∧ GoesOk d A ∧ GoesOk d B ∧ d ≤ 4 ∧ (A.length + 1) * (B.length + 1) ≤ 60 ∧
  ∀ H' r R, Same H H' → PatAt P w C H' r d R → GoesOk d R → Canon R → (∀ u, acc R 0 u ↔ op (acc A 0 u) (acc B 0 u)) → Q (.ref r) H'
theorem rowI_G {H : Hp} {a : Addr} {r : IRow} (h : RowI P w H a r) : RowG P w .i H a (grI r) := by
  refine ⟨rowKv r, h, ?_⟩
  have : ∀ r : IRow, Paired (fun (q : NestedKey × V) (p : Ltr × NestedKey) => q.1 = lk p.1 ∧ KeyV .i H p.2 q.2) (rowKv r) (grI r) := by
    intro r
    induction r with
    | nil => exact .nil
    | cons p r ih => exact .cons ⟨rfl, p.2, rfl, rfl⟩ ih
  exact this r
section
variable {C : Addr} (B : Blt mg) (T : PatC K mg C) (D0 : Dn K mg "least_by" sLeast ["width", "first", "goes"]) (G0 : FnOk P w K mg base CX0 8 D0.f D0.fd ["width", "first", "goes"] (spLeast P w C))
include B T G0
theorem ok_pleast (D : Md K C "least" "Pattern.least" sPLeast ["self"]) : FnOk P w K mg base CX0 9 D.f D.fd ["self"] (spPLeast P w C) := by
  refine D.F.ok scP7 (fun vs H Q E h => ?_) (fun cdv A outer s H vs Q E hr h => ?_)
  · obtain ⟨p, d, A, rfl, _⟩ := h
    rfl
  · obtain ⟨p, d, A, rfl, hp, ok, hd, k⟩ := h
    refine ⟨_, pss_one (ps_ret (pe_call G0 hr (by rfl) D0.g D0.F.kp D0.b .nil pass0 (pa_cons (pe_wid T (pv 0)) (pa_cons pe_int (pa_cons (pe_dictEnum rfl (by rfl) B.dict (by rfl) B.enumerate (pe_goes T (pv 0))) pa_nil))))), ?_⟩
    refine ⟨_, rfl, p, d, A, rfl, hp, _, rfl, p, d, A, rfl, hp, fun g ⟨L, hg, hL⟩ => ⟨g, _, rfl, SqL.of hg, fun a u ha hx => ?_⟩⟩
    have sa := same_upd (o := u) ha
    have hG : GoesG P w .i (upd H a u) a (gsI A) := by
      refine ⟨_, hx, ?_⟩
      have : ∀ (L : List Addr) (A : List IRow) (n : Nat), RowsA P w H L A → Paired (fun (q : NestedKey × V) (p : NestedKey × GRow) => q.1 = p.1 ∧ ∃ b, q.2 = .ref b ∧ RowG P w .i (upd H a u) b p.2) (((L.map V.ref).zipIdx n).map fun q => (NestedKey.num ((q.2 : Nat) : Int), q.1)) ((A.zipIdx n).map fun q => (.num ((q.2 : Nat) : Int), grI q.1)) := by
        intro L A n h
        induction h generalizing n with
        | nil => exact .nil
        | cons h t ih =>
          rw [List.map_cons, List.zipIdx_cons, List.zipIdx_cons, List.map_cons, List.map_cons]
          exact .cons ⟨rfl, _, rfl, rowI_G (DX.same h sa)⟩ (ih (n + 1))
      exact this L A 0 hL
    have okG := gsI_ok ok
    have lG : (gsI A).length = A.length := by
      have := congrArg List.length (gsI_keys A)
      rw [List.length_map, List.length_map, List.length_range] at this
      exact this
    have h0 : 0 < A.length := ok.2.1
    refine ⟨.i, a, d, gsI A, .num 0, .int 0, rfl, hG, okG, hd, by rw [lG]; exact ok.2.2, ⟨0, rfl, rfl⟩, ?_, fun H' q R s hq okR hL => ?_⟩
    · rw [gsI_keys]
      exact List.mem_map.mpr ⟨0, List.mem_range.mpr h0, rfl⟩
    · obtain ⟨c, e⟩ := least_canon okG okR hL
      exact k H' q R (Same.trans sa s) hq okR c fun u => (e u).trans (gsI_lang ok u 0 (Int.le_refl _) (by omega))
variable (D1 : Dn K mg "want_pattern" sWantP ["one", "other"]) (G1 : FnOk P w K mg base CX0 2 D1.f D1.fd ["one", "other"] (spSameW P w C)) (D2 : Dn K mg "met_pairs" sMet ["one", "other", "is_both"]) (G2 : FnOk P w K mg base CX0 2 D2.f D2.fd ["one", "other", "is_both"] (spMet P w C))
include G1 G2
theorem ok_pand (D : Md K C "__and__" "Pattern.__and__" sPAnd ["self", "other"]) : FnOk P w K mg base CX0 9 D.f D.fd ["self", "other"] (spPOp P w C And) := by
  refine D.F.ok scP8 (fun vs H Q E h => ?_) (fun cdv A outer s H vs Q E hr h => ?_)
  · obtain ⟨p, q, d, A, B, rfl, _⟩ := h
    rfl
  · obtain ⟨p, q, d, A, B', rfl, hp, hq, okA, okB, hd, hz, k⟩ := h
    refine ⟨_, pss_cons (ps_expr (pe_call G1 (hr.mono (by decide)) (by rfl) D1.g D1.F.kp D1.b .nil pass0 (pa_cons (pv 0) (pa_cons (pv 1) pa_nil))))
      (pss_one (ps_ret (pe_call G0 hr (by rfl) D0.g D0.F.kp D0.b .nil pass0 (pa_cons (pe_wid T (pv 0)) (pa_cons (pe_tup (pa_cons pe_int (pa_cons pe_int pa_nil))) (pa_cons (pe_call G2 (hr.mono (by decide)) (by rfl) D2.g D2.F.kp D2.b .nil pass0 (pa_cons (pv 0) (pa_cons (pv 1) (pa_cons pe_bl pa_nil)))) pa_nil)))))), ?_⟩
    refine ⟨_, rfl, _, rfl, p, q, d, A, B', rfl, hp, hq, ?_⟩
    refine ⟨_, rfl, p, d, A, rfl, hp, le2, fun z hz0 => ?_⟩
    have sz := same_upd (o := .tup [.int 0, .int 0]) hz0
    refine ⟨_, rfl, _, rfl, p, q, d, A, B', true, rfl, hp.same sz, hq.same sz, okA, okB, fun H2 a gs s2 hG nd h00 fr cl => ?_⟩
    obtain ⟨okG, l60⟩ := gsM_ok nd fr cl hz
    refine ⟨.t, a, d, _, pko (some 0, some 0), .ref z, rfl, hG, okG, hd, l60, keyV_pko.mpr ⟨z, rfl, s2 _ _ upd_same⟩, ?_, fun H' r R s hq okR hL => ?_⟩
    · rw [List.map_map]
      obtain ⟨g, hg, e⟩ := List.mem_map.mp h00
      exact List.mem_map.mpr ⟨g, hg, by rw [← e]; rfl⟩
    · obtain ⟨c, e⟩ := least_canon okG okR hL
      exact k H' r R (Same.trans sz (Same.trans s2 s)) hq okR c fun u => ((e u).trans (met_lang nd fr cl u _ h00)).trans (both_lang u 0 0)
theorem ok_por (D : Md K C "__or__" "Pattern.__or__" sPOr ["self", "other"]) : FnOk P w K mg base CX0 9 D.f D.fd ["self", "other"] (spPOp P w C Or) := by
  refine D.F.ok scP9 (fun vs H Q E h => ?_) (fun cdv A outer s H vs Q E hr h => ?_)
  · obtain ⟨p, q, d, A, B, rfl, _⟩ := h
    rfl
  · obtain ⟨p, q, d, A, B', rfl, hp, hq, okA, okB, hd, hz, k⟩ := h
    refine ⟨_, pss_cons (ps_expr (pe_call G1 (hr.mono (by decide)) (by rfl) D1.g D1.F.kp D1.b .nil pass0 (pa_cons (pv 0) (pa_cons (pv 1) pa_nil))))
      (pss_one (ps_ret (pe_call G0 hr (by rfl) D0.g D0.F.kp D0.b .nil pass0 (pa_cons (pe_wid T (pv 0)) (pa_cons (pe_tup (pa_cons pe_int (pa_cons pe_int pa_nil))) (pa_cons (pe_call G2 (hr.mono (by decide)) (by rfl) D2.g D2.F.kp D2.b .nil pass0 (pa_cons (pv 0) (pa_cons (pv 1) (pa_cons pe_bl pa_nil)))) pa_nil)))))), ?_⟩
    refine ⟨_, rfl, _, rfl, p, q, d, A, B', rfl, hp, hq, ?_⟩
    refine ⟨_, rfl, p, d, A, rfl, hp, le2, fun z hz0 => ?_⟩
    have sz := same_upd (o := .tup [.int 0, .int 0]) hz0
    refine ⟨_, rfl, _, rfl, p, q, d, A, B', false, rfl, hp.same sz, hq.same sz, okA, okB, fun H2 a gs s2 hG nd h00 fr cl => ?_⟩
    obtain ⟨okG, l60⟩ := gsM_ok nd fr cl hz
    refine ⟨.t, a, d, _, pko (some 0, some 0), .ref z, rfl, hG, okG, hd, l60, keyV_pko.mpr ⟨z, rfl, s2 _ _ upd_same⟩, ?_, fun H' r R s hq okR hL => ?_⟩
    · rw [List.map_map]
      obtain ⟨g, hg, e⟩ := List.mem_map.mp h00
      exact List.mem_map.mpr ⟨g, hg, by rw [← e]; rfl⟩
    · obtain ⟨c, e⟩ := least_canon okG okR hL
      exact k H' r R (Same.trans sz (Same.trans s2 s)) hq okR c fun u => ((e u).trans (met_lang nd fr cl u _ h00)).trans (either_lang u (some 0, some 0) (.inl (by simp)))
end
end
end WW


set_option maxHeartbeats 2000000

/-! == of lists of rows -/
namespace WW
open PySem PySem.Spec PyProof.Rows L2
section
variable {P : Program} {w : World} {A : Around} {E : Value → Shared → Prop} {s : Shared}
abbrev NK (P : Program) (w : World) := nestedKind P w
/-- the two dicts' entries are alike -/
def alikeH (eqv : Value → Value → Bool) (ys : List (NestedKey × Addr × Value)) (xs : List (NestedKey × Addr × Value)) : Bool := xs.all fun x => match atKey ys x.1 with
  | none => false
  | some p => eqv x.2.2 p.2
theorem atKey_at {ys : List (NestedKey × Addr × Value)} (nd : (ys.map (·.1)).Nodup) {j : Nat} {k : NestedKey} {p : Addr × Value} (h : ys[j]? = some (k, p)) : atKey ys k = some p := at1_mem nd (List.mem_of_getElem? h)
theorem same_pairs {nm : String} {a b : Addr} {xs ys : List (NestedKey × Addr × Value)} {eqv : Value → Value → Bool} {Q : Bool → Shared → Prop} (hu : (NK P w).room A) (ha : (a == sysModules) = false) (hb : (b == sysModules) = false)
    (da : s.heap.DictOfH (NK P w) a xs) (db : s.heap.DictOfH (NK P w) b ys) (he : ∀ x ∈ xs, ∀ y ∈ ys, SeqAt.EqP P w A s x.2.2 y.2.2 (eqv x.2.2 y.2.2)) (h : Q (xs.length == ys.length && alikeH eqv ys xs) s) :
    wpAny (model P w) A (Builtin.Dict.samePairs nm a b) Q E s := by
  obtain ⟨oa, es, ep, hoa, _, hda, hea, hka, nda⟩ := da
  obtain ⟨ob, fs, ep', hob, _, hdb, heb, hkb, ndb⟩ := db
  have hla : es.size = xs.length := size_of_entries hea
  have hlb : fs.size = ys.length := size_of_entries heb
  unfold Builtin.Dict.samePairs Builtin.Dict.showsAll
  rw [if_neg (by rw [ha]; decide), if_neg (by rw [hb]; decide)]
  refine wpAny_bind (wpAny_pure (wpAny_bind (wpAny_pure ?_)))
  refine wpAny_bind (wpAny_dictEntries hoa hda ?_)
  dsimp only
  refine wpAny_bind (wpAny_dictEntries hob hdb ?_)
  by_cases hsz : es.size = fs.size
  · rw [if_neg (by rw [hsz]; simp)]
    have e0 : (xs.length == ys.length) = true := by rw [← hla, ← hlb, hsz]; simp
    rw [e0, Bool.true_and] at h
    refine wpAny_bind (wpAny_dictEpoch hoa hda ?_)
    refine wpAny_bind ?_
    rw [Std.Legacy.Range.forIn_eq_forIn_range']
    simp only [Std.Legacy.Range.size, Nat.sub_zero, Nat.add_sub_cancel, Nat.div_one]
    refine wpAny_forIn_list _ (fun rest q s' => s' = s ∧ q = (none, ()) ∧ ∃ i, rest = List.range' i (es.size - i) ∧ i ≤ es.size ∧ Q (alikeH eqv ys (xs.drop i)) s) _ ?_ ?_ _ _ ⟨rfl, rfl, 0, by simp, Nat.zero_le _, h⟩
    · rintro x rest q s' ⟨rfl, rfl, i, hr, hi, hq⟩
      have hlt : i < es.size := by
        rcases Nat.lt_or_ge i es.size with h | h
        · exact h
        · rw [Nat.sub_eq_zero_of_le h] at hr
          cases hr
      have er : es.size - i = (es.size - (i + 1)) + 1 := by omega
      rw [er, List.range'_succ] at hr
      injection hr with e1 e2
      subst e1 e2
      obtain ⟨⟨k, c, v⟩, hx⟩ : ∃ y, xs[x]? = some y := ⟨xs[x]'(by omega), List.getElem?_eq_getElem (by omega)⟩
      have hxm := List.mem_of_getElem? hx
      have hex : es[x]? = some ⟨(NK P w).hash k, .ref c, v⟩ := by rw [entry_at hea x, hx]; rfl
      have hdrop : xs.drop x = (k, c, v) :: xs.drop (x + 1) := by
        obtain ⟨hl, e⟩ := List.getElem?_eq_some_iff.mp hx
        rw [List.drop_eq_getElem_cons hl, e]
      rw [hdrop] at hq
      refine wpAny_bind (wpAny_dictEntries hoa hda ?_)
      rw [hex]
      show wpAny _ _ (holding [Value.ref c, v] _ >>= _) _ _ _
      refine wpAny_bind (wpAny_holding (wpAny_bind (wpAny_dictFind_heap (knd := NK P w) hu (hka _ hxm) hob hdb heb hkb ndb (fun hno => ?_) fun j p hj => ?_)))
      · have e : atKey ys k = none := by
          cases q : atKey ys k with
          | none => rfl
          | some p =>
            obtain ⟨j, hj⟩ := List.mem_iff_getElem?.mp (at1_some (show at1 ys k = some p from q))
            exact absurd hj (hno j p)
        have : alikeH eqv ys ((k, c, v) :: xs.drop (x + 1)) = false := by
          unfold alikeH
          rw [List.all_cons, e]
          rfl
        rw [this] at hq
        refine wpAny_pure ?_
        show wpAny _ _ (if (!false) = true then _ else _) _ _ _
        rw [if_pos (by decide)]
        exact wpAny_pure (wpAny_pure hq)
      · have e : atKey ys k = some p := atKey_at ndb hj
        have hym := List.mem_of_getElem? hj
        have hfj : fs[j]? = some ⟨(NK P w).hash k, .ref p.1, p.2⟩ := by rw [entry_at heb j, hj]; rfl
        have : alikeH eqv ys ((k, c, v) :: xs.drop (x + 1)) = (eqv v p.2 && alikeH eqv ys (xs.drop (x + 1))) := by
          unfold alikeH
          rw [List.all_cons, e]
        rw [this] at hq
        refine wpAny_bind (wpAny_dictEntries hob hdb ?_)
        rw [hfj]
        refine wpAny_holding (he _ hxm _ hym _ _ ?_)
        cases eb : eqv v p.2 with
        | false =>
          rw [eb, Bool.false_and] at hq
          show wpAny _ _ (if (!false) = true then _ else _) _ _ _
          rw [if_pos (by decide)]
          exact wpAny_pure (wpAny_pure hq)
        | true =>
          rw [eb, Bool.true_and] at hq
          show wpAny _ _ (if (!true) = true then _ else _) _ _ _
          rw [if_neg (by decide)]
          refine wpAny_bind (wpAny_dictEpoch hoa hda ?_)
          rw [if_neg (by simp)]
          exact wpAny_pure ⟨rfl, rfl, x + 1, rfl, hlt, hq⟩
    · rintro q s' ⟨rfl, rfl, i, hr, hi, hq⟩
      have hin : i = es.size := by
        rcases Nat.lt_or_ge i es.size with h | h
        · have e : es.size - i = (es.size - (i + 1)) + 1 := by omega
          rw [e, List.range'_succ] at hr
          cases hr
        · omega
      rw [hin, hla, List.drop_length] at hq
      exact wpAny_pure hq
  · rw [if_pos (by simpa using hsz)]
    have e0 : (xs.length == ys.length) = false := by rw [← hla, ← hlb]; simpa using hsz
    rw [e0, Bool.false_and] at h
    exact wpAny_bind (wpAny_rule (wpAny_pure h))
end
def eqvI : Value → Value → Bool
  | .int a _, .int b _ => a == b
  | _, _ => false
def rowsEqB (r s : IRow) : Bool := r.length == s.length && r.all fun p => decide (at1 s p.1 = some p.2)
theorem rowsEqB_iff {r s : IRow} (n1 : (r.map (·.1)).Nodup) (n2 : (s.map (·.1)).Nodup) : rowsEqB r s = true ↔ ∀ l, at1 r l = at1 s l := by
  unfold rowsEqB
  rw [Bool.and_eq_true, List.all_eq_true]
  constructor
  · rintro ⟨h1, h2⟩ l
    have sub : ∀ x ∈ r, x ∈ s := fun x hx => at1_some (of_decide_eq_true (h2 x hx))
    obtain ⟨t, ht⟩ := nodup_sub (nodup_of_map _ n1) sub
    have hl := ht.length_eq
    rw [List.length_append] at hl
    have h1 : r.length = s.length := by simpa using h1
    have t0 : t = [] := List.length_eq_zero_iff.mp (by omega)
    rw [t0, List.append_nil] at ht
    exact (at1_perm n1 ht l).symm
  · intro h
    have p := perm_of_at n1 n2 h
    refine ⟨by rw [p.length_eq]; simp, fun x hx => decide_eq_true ?_⟩
    rw [← h, at1_mem n1 hx]
theorem kn_ints {H : Hp} {r : IRow} {xs : List (NestedKey × Addr × Value)} (h : KN H (rowKv r) xs) : ∀ x ∈ xs, ∃ i t, x.2.2 = Value.int i t := by
  intro x hx
  obtain ⟨q, hq, hr⟩ := paired_right h x hx
  obtain ⟨p, _, rfl⟩ := List.mem_map.mp hq
  obtain ⟨t, e⟩ := (show ∃ t, x.2.2 = Value.int p.2 t from hr.2.2)
  exact ⟨p.2, t, e⟩
theorem alike_rows {H : Hp} {s : IRow} {ys : List (NestedKey × Addr × Value)} (hs : KN H (rowKv s) ys) : ∀ {r : IRow} {xs : List (NestedKey × Addr × Value)}, KN H (rowKv r) xs → alikeH eqvI ys xs = r.all fun p => decide (at1 s p.1 = some p.2)
  | [], _, h => by
    cases h
    rfl
  | p :: r, _, .cons (b := x) h t => by
    have ih := alike_rows hs (r := r) t
    unfold alikeH at ih ⊢
    rw [List.all_cons, List.all_cons, ih]
    congr 1
    obtain ⟨e1, _, e2⟩ := h
    have e1 : x.1 = lk p.1 := e1.symm
    obtain ⟨t, e2⟩ := (show ∃ t, x.2.2 = Value.int p.2 t from e2)
    have v := hs.val (lk p.1)
    rw [rowKv_val] at v
    rw [e1]
    cases ea : at1 s p.1 with
    | none =>
      rw [ea] at v
      cases ek : atKey ys (lk p.1) with
      | none => rfl
      | some z =>
        rw [ek] at v
        exact v.elim
    | some i =>
      rw [ea] at v
      cases ek : atKey ys (lk p.1) with
      | none =>
        rw [ek] at v
        exact v.elim
      | some z =>
        rw [ek] at v
        obtain ⟨t2, e3⟩ := (show ∃ t, z.2 = Value.int i t from v)
        show eqvI x.2.2 z.2 = _
        rw [e2, e3]
        show (p.2 == i) = _
        show decide (p.2 = i) = _
        exact decide_eq_decide.mpr ⟨fun h => by rw [h], fun h => (Option.some.inj h).symm⟩
theorem rows_same {H : Hp} : ∀ {r t : IRow} {xs ys : List (NestedKey × Addr × Value)}, KN H (rowKv r) xs → KN H (rowKv t) ys → xs.map (entryOfKey (NK P w)) = ys.map (entryOfKey (NK P w)) → r = t
  | [], t, _, ys, h1, h2, e => by
    cases h1
    cases t with
    | nil => rfl
    | cons q t =>
      cases h2
      cases e
  | p :: r, t, _, ys, .cons (b := x) h t1, h2, e => by
    cases t with
    | nil =>
      cases h2
      cases e
    | cons q t =>
      cases h2 with
      | cons g t2 =>
        rename_i y _
        rw [List.map_cons, List.map_cons] at e
        injection e with e1 e2
        have e1 : (⟨(NK P w).hash x.1, .ref x.2.1, x.2.2⟩ : DictEntry) = ⟨(NK P w).hash y.1, .ref y.2.1, y.2.2⟩ := e1
        injection e1 with _ ek ev
        injection ek with ek
        have ih := rows_same t1 t2 e2
        obtain ⟨_, ⟨n1, _⟩, v1⟩ := h
        obtain ⟨_, ⟨n2, _⟩, v2⟩ := g
        obtain ⟨c1, f1, f2⟩ := lk_tup n1
        obtain ⟨c2, g1, g2⟩ := lk_tup n2
        cases f1
        rw [← ek] at g1
        cases g1
        rw [f2] at g2
        injection g2 with g2
        injection g2 with g2
        have el : p.1 = q.1 := (List.map_inj_right (fun a b e => by injection e)).mp g2
        obtain ⟨a1, w1⟩ := (show ∃ t, x.2.2 = Value.int p.2 t from v1)
        obtain ⟨a2, w2⟩ := (show ∃ t, y.2.2 = Value.int q.2 t from v2)
        rw [w1, w2] at ev
        injection ev with ev _
        rw [ih, show p = q from Prod.ext el ev]
section
variable {X : Cx} {pins : List (Addr × Obj)} {σ : L2.St} {H : Hp} {s : Shared}
theorem row_eqP {A : Around} (I : Inv X pins σ H s) (hu : A.units + 30 < cLine) {a b : Addr} {r t : IRow} (ha : RowI X.prog X.w H a r) (hb : RowI X.prog X.w H b t) (n1 : (r.map (·.1)).Nodup) (n2 : (t.map (·.1)).Nodup) : SeqAt.EqP X.prog X.w A s (.ref a) (.ref b) (rowsEqB r t) := by
  obtain ⟨xs, r1, d1, s1, _⟩ := DX.raw_t I.hok ha
  obtain ⟨ys, r2, d2, s2, _⟩ := DX.raw_t I.hok hb
  by_cases e : a = b
  · subst e
    have ek : rowsEqB r t = true := by
      rw [rowsEqB_iff n1 n2]
      intro l
      obtain ⟨o1, q1, _, _, c1, xs1, es1, ep1, f1, f2, f3, f4⟩ := ha
      obtain ⟨o2, q2, _, _, c2, xs2, es2, ep2, g1, g2, g3, g4⟩ := hb
      have eo : o1 = o2 := by
        have h1 := (I.hok _ _ q1).1
        have h2 := (I.hok _ _ q2).1
        exact Option.some.inj (h1.symm.trans h2)
      subst eo
      rw [f1] at g1
      cases g1
      rw [rows_same f4 g4 (f2.symm.trans g2)]
    rw [ek]
    intro E Q hq
    unfold eqBool
    refine wpAny_holding ?_
    rw [if_pos (by simp)]
    exact wpAny_bind (wpAny_rule (wpAny_pure hq))
  · refine SeqAt.eqP_refs e fun E Q hq => ?_
    refine wpAny_richCompare_same_room (op := .Eq) d1.typeIs d2.typeIs PySem.F.slot_dict_eq (wpAny_call_entry PySem.F.slot_dict_eq d1.typeIs PySem.F.entry_dict_eq ?_ (PySem.F.args_dict_eq_2 _ _)) (by omega)
    show wpAny _ _ (Builtin.Dict.dictSlotArgs "__eq__" ⟨[.ref a, .ref b], []⟩ >>= _) _ _ s
    refine wpAny_bind ?_
    unfold Builtin.Dict.dictSlotArgs
    refine wpAny_bind (wpAny_notOrdered_dict d1.typeIs ?_)
    show wpAny _ _ (pure (Value.ref a, Value.ref b)) _ _ s
    refine wpAny_pure ?_
    refine wpAny_bind (wpAny_isInstance (T := "dict") d2.typeIs PySem.F.sub_dict_dict ?_)
    simp only [Bool.not_true, Bool.false_eq_true, if_false]
    refine wpAny_bind (wpAny_pure (wpAny_bind (wpAny_pure ?_)))
    refine wpAny_bind (same_pairs (eqv := eqvI) (by show A.units + 1 + 8 < cLine; omega) s1 s2 d1 d2 (fun x hx y hy => ?_) ?_)
    · obtain ⟨i, t, e1⟩ := kn_ints r1 x hx
      obtain ⟨j, u, e2⟩ := kn_ints r2 y hy
      rw [e1, e2]
      exact SeqAt.EqAt.eqP (SeqAt.EqAt.int_int i t j u)
    · refine wpAny_pure ⟨_, rfl, fun x => (nomatch x), ?_⟩
      have l1 : xs.length = r.length := by rw [← Paired.length r1, rowKv_len]
      have l2 : ys.length = t.length := by rw [← Paired.length r2, rowKv_len]
      rw [alike_rows r2 r1, l1, l2]
      simpa [rowsEqB] using hq
end
def RowsEq (A B : List IRow) : Prop := A.length = B.length ∧ ∀ (i : Nat) (r t : IRow), A[i]? = some r → B[i]? = some t → ∀ l, at1 r l = at1 t l
def rEqRows (P : Program) (w : World) : R2 := fun x y H Q => ∃ a b A B, x = .ref a ∧ y = .ref b ∧ GoesA P w H a A ∧ GoesA P w H b B ∧ (∀ r ∈ A, (r.map (·.1)).Nodup) ∧ (∀ r ∈ B, (r.map (·.1)).Nodup) ∧ ∀ c, (c = true ↔ RowsEq A B) → Q (.bl c) H
theorem op_eqRows {X : Cx} (hu : X.A.units + 64 < cLine) : OpR X (compareOp .Eq) (rEqRows X.prog X.w) := by
  intro pins s σ H x y v u Q I rx ry h
  obtain ⟨a, b, A, B, rfl, rfl, ⟨L1, h1, r1⟩, ⟨L2, h2, r2⟩, n1, n2, q⟩ := h
  cases rx
  cases ry
  obtain ⟨i1, v1, p1, z1⟩ := I.list (SqL.of h1)
  obtain ⟨i2, v2, p2, z2⟩ := I.list (SqL.of h2)
  have e1 := refs_eq v1
  have e2 := refs_eq v2
  subst e1 e2
  have la : L1.length = A.length := Paired.length r1
  have lb : L2.length = B.length := Paired.length r2
  by_cases hl : A.length = B.length
  · refine SeqAt.rcP_lists (e := fun j => rowsEqB (A.getD j []) (B.getD j [])) p1.isList p2.isList (by simp; omega) (by omega) (fun j g1 g2 => ?_) X.xe _ ⟨.bl _, H, I, rfl, q _ ?_⟩
    · have g1' : j < L1.length := by simpa using g1
      have g2' : j < L2.length := by simpa using g2
      obtain ⟨ra, hra, hda⟩ := paired_get1 r1 (List.getElem?_eq_getElem g1')
      obtain ⟨rb, hrb, hdb⟩ := paired_get1 r2 (List.getElem?_eq_getElem g2')
      have ea : A.getD j [] = ra := by rw [List.getD_eq_getElem?_getD, hra]; rfl
      have eb : B.getD j [] = rb := by rw [List.getD_eq_getElem?_getD, hrb]; rfl
      rw [ea, eb]
      have := row_eqP (A := X.A.in1) I (by show X.A.units + 1 + 30 < cLine; omega) hda hdb (n1 _ (List.mem_of_getElem? hra)) (n2 _ (List.mem_of_getElem? hrb))
      simpa using this
    · rw [List.all_eq_true]
      constructor
      · intro h
        refine ⟨hl, fun i r t hr ht => ?_⟩
        have hi : i < A.length := (List.getElem?_eq_some_iff.mp hr).1
        have := h i (List.mem_range.mpr (by simp; omega))
        rw [List.getD_eq_getElem?_getD, List.getD_eq_getElem?_getD, hr, ht] at this
        exact (rowsEqB_iff (n1 _ (List.mem_of_getElem? hr)) (n2 _ (List.mem_of_getElem? ht))).mp this
      · rintro ⟨_, h⟩ i hi
        have hi : i < L1.length := by simpa using hi
        obtain ⟨r, hr⟩ : ∃ r, A[i]? = some r := ⟨A[i]'(by omega), List.getElem?_eq_getElem (by omega)⟩
        obtain ⟨t, ht⟩ : ∃ t, B[i]? = some t := ⟨B[i]'(by omega), List.getElem?_eq_getElem (by omega)⟩
        rw [List.getD_eq_getElem?_getD, List.getD_eq_getElem?_getD, hr, ht]
        exact (rowsEqB_iff (n1 _ (List.mem_of_getElem? hr)) (n2 _ (List.mem_of_getElem? ht))).mpr (h i r t hr ht)
  · refine SeqAt.RcAt.lists_lengths p1.isList p2.isList (by simp; omega) (by omega) X.prog X.w _ _ ⟨.bl false, H, I, rfl, q _ ?_⟩
    constructor
    · intro h
      cases h
    · intro h
      exact absurd h.1 hl
section
variable {P : Program} {w : World} {K : PySem.W.Frag} {mg : Str → Option Value} {base : Heap}
abbrev sPEq : Stmt := inClass (top 24) 12
theorem scP12 : FnScope ["self", "other"] ["self", "other"] (defScope sPEq) := ⟨rfl, rfl, rfl, by decide +kernel, rfl, by decide +kernel, by decide +kernel⟩
def spPEq (P : Program) (w : World) (C : Addr) : Sp := fun vs H Q _ => ∃ (p q : Addr) (d : Nat) (A B : List IRow), vs = [.ref p, .ref q] ∧ PatAt P w C H p d A ∧ PatAt P w C H q d B ∧ GoesOk d A ∧ GoesOk d B ∧ ∀ c, (c = true ↔ RowsEq A B) → Q (.bl c) H
theorem ok_peq {C : Addr} (B : Blt mg) (T : PatC K mg C) (I : PatI K C) (D : Md K C "__eq__" "Pattern.__eq__" sPEq ["self", "other"]) : FnOk P w K mg base CX0 1 D.f D.fd ["self", "other"] (spPEq P w C) := by
  refine D.F.ok scP12 (fun vs H Q E h => ?_) (fun cdv A outer s H vs Q E hr h => ?_)
  · obtain ⟨p, q, d, A, B, rfl, _⟩ := h
    rfl
  · obtain ⟨p, q, d, A, B', rfl, hp, hq, okA, okB, k⟩ := h
    refine ⟨_, pss_cons (ps_if (pt_not (pt_val (pe_callB call_isi (by rfl) B.isinstance (by decide +kernel) (pa_cons (pv 1) (pa_cons (pe_glob (v := .ref C) (by rfl) T.mgC rfl) pa_nil))))) (pss_one (ps_ret pe_bl)) pss_nil)
      (pss_one (ps_ret (pe_and (pe_cmpR op_eq (pe_wid T (pv 0)) (pe_wid T (pv 1)) (nomark _)) (pe_one (pe_cmpR (op_eqRows (u64 hr)) (pe_goes T (pv 0)) (pe_goes T (pv 1)) (nomark _)))))), ?_⟩
    obtain ⟨dx, g, eq, _⟩ := id hq
    refine ⟨_, rfl, _, .ref C, .ref C, .ref C, true, rfl, .own C, .base (.ins eq T.cl I.ha I.hn I.ht I.hm), I.kit, _, rfl, no ?_⟩
    refine ⟨_, rfl, p, d, A, rfl, hp, _, rfl, q, d, B', rfl, hq, rfl, _, rfl, ?_⟩
    rw [decide_eq_true (rfl : V.int (d : Int) = V.int (d : Int))]
    refine ys ⟨_, rfl, p, d, A, rfl, hp, fun g1 hg1 => ⟨_, rfl, q, d, B', rfl, hq, fun g2 hg2 => ⟨g1, g2, A, B', rfl, rfl, hg1, hg2, fun r hr => (okA.1 r hr).2.1, fun r hr => (okB.1 r hr).2.1, k⟩⟩⟩
end
end WW


set_option maxHeartbeats 2000000

namespace WW
open PySem PySem.Spec PyProof.Rows L2
theorem cmulR {i j : Int} (h0 : 0 ≤ j) (h : j ≤ 1000000000000000000) : CMul i j := .inr ⟨Int.lt_of_lt_of_le (by decide) h0, Int.lt_of_le_of_lt h (by decide)⟩
theorem cmulL {i j : Int} (h0 : 0 ≤ i) (h : i ≤ 1000000000000000000) : CMul i j := .inl ⟨Int.lt_of_lt_of_le (by decide) h0, Int.lt_of_le_of_lt h (by decide)⟩
section
variable {P : Program} {w : World} {K : PySem.W.Frag} {mg : Str → Option Value} {base : Heap}
abbrev sPot : Stmt := top 44
abbrev nPot : List Str := ["_law_script", "_law_k", "_law_cell"]
theorem sc44 : FnScope nPot ["_law_script", "_law_k"] (defScope sPot) := ⟨rfl, rfl, rfl, by decide +kernel, rfl, by decide +kernel, by decide +kernel⟩
/-- a pot at p -/
def PotAt (H : Hp) (p : Addr) : Prop := ∃ x y : Int, H p = some (.lst [.int x, .int y]) ∧ 0 ≤ x ∧ 0 ≤ y ∧ y < 2147483648
def spPot (K : PySem.W.Frag) : Sp := fun vs H Q _ => ∃ (a : Addr) (ns : List Int) (k : Nat), vs = [.ref a, .int k] ∧ SqL K H a (ns.map V.int) ∧ k ≤ 100 ∧ ∀ H' p, Same H H' → H p = none → PotAt H' p → Q (.ref p) H'
theorem ok_pot (B : Blt mg) (D : Dn K mg "_law_pot" sPot ["_law_script", "_law_k"]) : FnOk P w K mg base CX0 1 D.f D.fd ["_law_script", "_law_k"] (spPot K) := by
  refine D.F.ok sc44 (fun vs H Q E h => ?_) (fun cdv A outer s H vs Q E hr h => ?_)
  · obtain ⟨a, ns, k, rfl, _⟩ := h
    rfl
  · obtain ⟨a, ns, k, rfl, ha, hk, q⟩ := h
    refine ⟨_, pss_cons (ps_set (i := 2) sc44.nd rfl (.inl rfl) (pe_op op_add (pe_op op_mul pe_int (pv 1)) pe_int))
      (pss_cons (ps_if (pt_cmpR op_lt (pv 1) (pe_callB call_len_seq (by rfl) B.len PySem.boot_len (pa_cons (pv 0) pa_nil)) (nomark _))
        (pss_one (ps_set (i := 2) sc44.nd rfl (.inl rfl) (pe_callB call_abs (by rfl) B.abs (by decide +kernel) (pa_cons (pe_ix ix_list (pv 0) (pv 1) (fun _ _ => rfl)) pa_nil)))) pss_nil)
      (pss_one (ps_ret (pe_lst (pa_cons (pe_callB (call_max2 rfl) (by rfl) B.max (by decide +kernel) (pa_cons pe_int (pa_cons (pe_op op_sub (pv 2) (pe_op op_pow pe_int pe_int)) pa_nil)))
        (pa_cons (pe_op op_add (pe_op op_mod (pe_callTy call_int1 (by rfl) B.int (by decide +kernel) (pa_cons (pe_op op_add (pe_op op_mul (pe_op op_mod (pe_callTy call_int1 (by rfl) B.int (by decide +kernel) (pa_cons (pv 2) pa_nil)) pe_int)
          (pe_op op_add (pe_op op_mul pe_int (pv 1)) pe_int)) pe_int) pa_nil)) pe_int) pe_int) pa_nil)))))), ?_⟩
    have mulk : ∀ i : Int, CMul i (k : Int) := fun i => cmulR (by omega) (by omega)
    refine ⟨_, rfl, _, _, rfl, rfl, mulk _, _, _, rfl, rfl, ?_⟩
    -- behind the choice of the cell
    have fin : ∀ c : Int, (tLst (tCons (tCB (fun xs H Q => ∃ i j, xs = [.int i, .int j] ∧ Q (.int (if j > i then j else i)) H) (tCons (tC (.int 0)) (tCons (tOp (rI0 fun i j => .int (i - j)) (tVar 2) (tOp (rI CPow fun i j => .int (i ^ j.toNat)) (tC (.int 10)) (tC (.int 18)))) tNil)))
        (tCons (tOp (rI0 fun i j => .int (i + j)) (tOp (rI (fun _ j => 0 < j) fun i j => .int (i % j)) (tCB (fun xs H Q => (∃ i, xs = [.int i] ∧ Q (.int i) H) ∨ ∃ k, xs = [.bl k] ∧ Q (.int (if k then 1 else 0)) H) (tCons (tOp (rI0 fun i j => .int (i + j)) (tOp (rI CMul fun i j => .int (i * j))
          (tOp (rI (fun _ j => 0 < j) fun i j => .int (i % j)) (tCB (fun xs H Q => (∃ i, xs = [.int i] ∧ Q (.int i) H) ∨ ∃ k, xs = [.bl k] ∧ Q (.int (if k then 1 else 0)) H) (tCons (tVar 2) tNil)) (tC (.int 2147483563))) (tOp (rI0 fun i j => .int (i + j)) (tOp (rI CMul fun i j => .int (i * j)) (tC (.int 2)) (tVar 1)) (tC (.int 3)))) (tC (.int 223))) tNil)) (tC (.int 2147483543))) (tC (.int 1))) tNil)))
        [some (.ref a), some (.int k), some (.int c)] H Q := by
      intro c
      refine ⟨_, rfl, _, _, rfl, rfl, ⟨by decide, by decide, by decide⟩, _, _, rfl, rfl, _, _, rfl, ?_⟩
      refine ⟨_, rfl, .inl ⟨_, rfl, _, _, rfl, rfl, (by show (0 : Int) < 2147483563; decide), _, rfl, _, _, rfl, rfl, mulk _, _, _, rfl, rfl, _, _, rfl, rfl, ?_, _, _, rfl, rfl, .inl ⟨_, rfl, _, _, rfl, rfl, (by show (0 : Int) < 2147483543; decide), _, _, rfl, rfl, le2, fun p hp => ?_⟩⟩⟩
      · exact cmulR (by omega) (by omega)
      · refine q _ p (same_upd hp) hp ⟨_, _, upd_same, ?_, ?_, ?_⟩
        · split <;> omega
        · have := Int.emod_nonneg (c % 2147483563 * (2 * (k : Int) + 3) + 223) (b := 2147483543) (by decide)
          omega
        · have := Int.emod_lt_of_pos (c % 2147483563 * (2 * (k : Int) + 3) + 223) (b := 2147483543) (by decide)
          omega
    refine ⟨_, rfl, _, rfl, a, _, rfl, .inl ha, _, _, rfl, rfl, _, rfl, ite2 (fun e => ?_) (fun _ => fin _)⟩
    have e := of_decide_eq_true e
    rw [List.length_map] at e
    obtain ⟨z, hz⟩ : ∃ z, ns[k]? = some z := ⟨ns[k]'(by omega), List.getElem?_eq_getElem (by omega)⟩
    exact ⟨_, rfl, _, rfl, a, _, _, .int z, rfl, rfl, ha, atI_nat (j := k) (by rw [List.getElem?_map, hz]; rfl), z, rfl, fin _⟩
/-! draws -/
abbrev sDraw : Stmt := top 45
abbrev nDraw : List Str := ["_law_pot_here", "_law_size", "_law_digit"]
theorem sc45 : FnScope nDraw ["_law_pot_here", "_law_size"] (defScope sDraw) := ⟨rfl, rfl, rfl, by decide +kernel, rfl, by decide +kernel, by decide +kernel⟩
def spDraw : Sp := fun vs H Q _ => ∃ (p : Addr) (n : Nat), vs = [.ref p, .int n] ∧ PotAt H p ∧ 1 ≤ n ∧ n ≤ 1000 ∧ ∀ H' (r : Nat), SamX p H H' → PotAt H' p → r < n → Q (.int r) H'
theorem ok_draw (B : Blt mg) (D : Dn K mg "_law_draw" sDraw ["_law_pot_here", "_law_size"]) : FnOk P w K mg base CX0 1 D.f D.fd ["_law_pot_here", "_law_size"] spDraw := by
  refine D.F.ok sc45 (fun vs H Q E h => ?_) (fun cdv A outer s H vs Q E hr h => ?_)
  · obtain ⟨p, n, rfl, _⟩ := h
    rfl
  · obtain ⟨p, n, rfl, ⟨x, y, hp, hx, hy, hy2⟩, h1, h2, k⟩ := h
    refine ⟨_, pss_cons (ps_if (pt_cmpR op_gt (pe_ix ix_list (pv 0) pe_int (fun _ _ => rfl)) pe_int (nomark _))
        (pss_cons (ps_asg (pe_callB call_divmod (by rfl) B.divmod (by decide +kernel) (pa_cons (pe_ix ix_list (pv 0) pe_int (fun _ _ => rfl)) (pa_cons (pv 1) pa_nil))) (pg_tup rfl (pgs_cons (pg_sub (pv 0) pe_int set_list) (pgs_cons (pg_name (i := 2) sc45.nd rfl (.inl rfl)) pgs_nil))))
        (pss_one (ps_ret (pv 2)))) pss_nil)
      (pss_cons (ps_asg (pe_op op_mod (pe_callTy call_int1 (by rfl) B.int (by decide +kernel) (pa_cons (pe_op op_add (pe_op op_mul (pe_ix ix_list (pv 0) pe_int (fun _ _ => rfl)) pe_int) pe_int) pa_nil)) pe_int) (pg_sub (pv 0) pe_int set_list))
      (pss_one (ps_ret (pe_op op_mod (pe_callTy call_int1 (by rfl) B.int (by decide +kernel) (pa_cons (pe_op op_fdiv (pe_op op_mod (pe_callTy call_int1 (by rfl) B.int (by decide +kernel) (pa_cons (pe_op op_mul (pe_ix ix_list (pv 0) pe_int (fun _ _ => rfl)) (pe_ix ix_list (pv 0) pe_int (fun _ _ => rfl))) pa_nil)) pe_int) pe_int) pa_nil)) (pv 1))))), ?_⟩
    refine ⟨_, rfl, p, _, 0, .int x, rfl, rfl, SqL.of hp, atI_nat (j := 0) rfl, _, _, rfl, rfl, _, rfl, ite2 (fun e => ?_) (fun e => ?_)⟩
    · refine ⟨_, rfl, p, _, 0, .int x, rfl, rfl, SqL.of hp, atI_nat (j := 0) rfl, _, rfl, x, n, rfl, ⟨by omega, by omega⟩, fun t ht => ?_⟩
      have st := same_upd (o := .tup [.int (x / n), .int (x % n)]) ht
      refine ⟨t, _, rfl, .inl (.inl upd_same), rfl, _, _, rfl, _, rfl, p, _, 0, 0, rfl, rfl, st _ _ hp, rfl, _, _, rfl, rfl, ?_⟩
      have q0 : 0 ≤ x / (n : Int) := Int.ediv_nonneg hx (by omega)
      have r0 := Int.emod_nonneg x (b := (n : Int)) (by omega)
      have r1 := Int.emod_lt_of_pos x (b := (n : Int)) (by omega)
      refine ⟨_, rfl, ?_⟩
      have er : x % (n : Int) = (((x % (n : Int)).toNat : Nat) : Int) := by omega
      have z := k _ (x % (n : Int)).toNat ((SamX.of_same st).trans (SamX.upd (o := .lst ([V.int x, .int y].set 0 (.int (x / (n : Int))))))) ⟨_, _, upd_same, q0, hy, hy2⟩ (by omega)
      rw [← er] at z
      exact z
    · have m0 := Int.emod_nonneg (y * 48271 + 15349) (b := 2147483587) (by decide)
      have m1 := Int.emod_lt_of_pos (y * 48271 + 15349) (b := 2147483587) (by decide)
      refine ⟨_, rfl, p, _, 1, .int y, rfl, rfl, SqL.of hp, atI_nat (j := 1) rfl, _, _, rfl, rfl, cmulR (by decide) (by decide), _, _, rfl, rfl, .inl ⟨_, rfl, _, _, rfl, rfl, (by show (0 : Int) < 2147483587; decide), _, rfl, p, _, 1, 1, rfl, rfl, hp, rfl, ?_⟩⟩
      have eH : (upd H p (.lst ([V.int x, .int y].set 1 (.int ((y * 48271 + 15349) % 2147483587))))) p = some (.lst [.int x, .int ((y * 48271 + 15349) % 2147483587)]) := upd_same
      refine ⟨_, rfl, p, _, 1, .int ((y * 48271 + 15349) % 2147483587), rfl, rfl, SqL.of eH, atI_nat (j := 1) rfl, _, rfl, p, _, 1, .int ((y * 48271 + 15349) % 2147483587), rfl, rfl, SqL.of eH, atI_nat (j := 1) rfl, _, _, rfl, rfl, cmulR m0 (by omega), .inl ⟨_, rfl, _, _, rfl, rfl, (by show (0 : Int) < 2147483549; decide), _, _, rfl, rfl, ⟨by decide, by decide⟩, .inl ⟨_, rfl, _, rfl, _, _, rfl, rfl, (by show (0 : Int) < (n : Int); omega), ?_⟩⟩⟩
      obtain ⟨v, hv⟩ : ∃ v, (y * 48271 + 15349) % 2147483587 * ((y * 48271 + 15349) % 2147483587) % 2147483549 / 17 = v := ⟨_, rfl⟩
      have r0 := Int.emod_nonneg v (b := (n : Int)) (by omega)
      have r1 := Int.emod_lt_of_pos v (b := (n : Int)) (by omega)
      have er : v % (n : Int) = (((v % (n : Int)).toNat : Nat) : Int) := by omega
      have z := k _ (v % (n : Int)).toNat (SamX.upd (o := .lst ([V.int x, .int y].set 1 (.int ((y * 48271 + 15349) % 2147483587))))) ⟨x, _, eH, hx, m0, by omega⟩ (by omega)
      rw [← er, ← hv] at z
      exact z
abbrev sPick : Stmt := top 46
theorem sc46 : FnScope ["_law_pot_here", "_law_some"] ["_law_pot_here", "_law_some"] (defScope sPick) := ⟨rfl, rfl, rfl, by decide +kernel, rfl, by decide +kernel, by decide +kernel⟩
def spPick : Sp := fun vs H Q _ => ∃ (p a : Addr) (xs : List V), vs = [.ref p, .ref a] ∧ PotAt H p ∧ H a = some (.lst xs) ∧ a ≠ p ∧ 1 ≤ xs.length ∧ xs.length ≤ 1000 ∧ ∀ H' x, SamX p H H' → PotAt H' p → x ∈ xs → Q x H'
theorem ok_pick (B : Blt mg) (D0 : Dn K mg "_law_draw" sDraw ["_law_pot_here", "_law_size"]) (G0 : FnOk P w K mg base CX0 1 D0.f D0.fd ["_law_pot_here", "_law_size"] spDraw) (D : Dn K mg "_law_pick" sPick ["_law_pot_here", "_law_some"]) : FnOk P w K mg base CX0 2 D.f D.fd ["_law_pot_here", "_law_some"] spPick := by
  refine D.F.ok sc46 (fun vs H Q E h => ?_) (fun cdv A outer s H vs Q E hr h => ?_)
  · obtain ⟨p, a, xs, rfl, _⟩ := h
    rfl
  · obtain ⟨p, a, xs, rfl, hp, ha, hne, h1, h2, k⟩ := h
    refine ⟨_, pss_one (ps_ret (pe_ix ix_list (pv 1) (pe_call G0 hr (by rfl) D0.g D0.F.kp D0.b .nil pass0 (pa_cons (pv 0) (pa_cons (pe_callB call_len_seq (by rfl) B.len PySem.boot_len (pa_cons (pv 1) pa_nil)) pa_nil))) (fun _ _ => rfl))), ?_⟩
    refine ⟨_, rfl, _, rfl, _, rfl, a, xs, rfl, .inl (SqL.of ha), p, xs.length, rfl, hp, h1, h2, fun H' r sx hp' hr => ?_⟩
    have hr : r < xs.length := hr
    exact ⟨a, xs, r, xs[r], rfl, rfl, SqL.of (sx _ _ hne ha), atI_nat (j := r) (List.getElem?_eq_getElem hr), k _ _ sx hp' (List.getElem_mem hr)⟩
/-! all letters -/
abbrev sLetters : Stmt := top 47
abbrev nLetters : List Str := ["_law_width", "_law_found", "_law_turn", "_law_longer", "_law_letter"]
theorem sc47 : FnScope nLetters ["_law_width"] (defScope sLetters) := ⟨rfl, rfl, rfl, by decide +kernel, rfl, by decide +kernel, by decide +kernel⟩
def LettersA (H : Hp) (a : Addr) (ls : List Ltr) : Prop := ∃ bs, H a = some (.lst (bs.map V.ref)) ∧ LtsA H bs ls
def spLetters : Sp := fun vs H Q _ => ∃ d : Nat, vs = [.int d] ∧ d ≤ 4 ∧ ∀ H' a, Same H H' → H a = none → LettersA H' a (letters d) → Q (.ref a) H'
end
end WW


set_option maxHeartbeats 2000000

namespace WW
open PySem PySem.Spec PyProof.Rows L2
theorem LettersA.same {H H' : Hp} {a : Addr} {ls : List Ltr} (h : LettersA H a ls) (s : Same H H') : LettersA H' a ls := let ⟨bs, e, r⟩ := h; ⟨bs, s _ _ e, r.same s⟩
theorem flatMap_take {α β : Type} {f : α → List β} {l : List α} {j : Nat} {x : α} (h : l[j]? = some x) : (l.take (j + 1)).flatMap f = (l.take j).flatMap f ++ f x := by
  rw [List.take_add_one, h, List.flatMap_append]
  simp
theorem len_letters4 {d : Nat} (h : d ≤ 4) : (letters d).length ≤ 16 := by
  rw [letters_len]
  exact Nat.pow_le_pow_right (n := 2) (by decide) h
section
variable {P : Program} {w : World} {K : PySem.W.Frag} {mg : Str → Option Value} {base : Heap}
theorem cat_letter {σ : L2.St} {H : Hp} {Q : VK} {i : Nat} {b : Addr} {l : Ltr} {c : Int} (hv : σ[i]? = some (some (.ref b))) (hb : H b = some (.tup (l.map V.int))) (hz : l.length ≤ 100) (k : ∀ H' b', Same H H' → H' b' = some (.tup ((l ++ [c]).map V.int)) → Q (.ref b') H') :
    tOp (rCatA K) (tVar i) (tTup (tCons (tC (.int c)) tNil)) σ H Q := by
  refine ⟨_, hv, le1, fun t ht => ?_⟩
  have st := same_upd (o := .tup [.int c]) ht
  have e1 : (upd H t (.tup [.int c])) t = some (.tup [.int c]) := upd_same
  refine ⟨b, t, _, _, rfl, rfl, .inl (.inl (st _ _ hb)), .inl (.inl e1), ?_, fun e => ?_, fun _ e => ?_, fun _ _ p hp => ?_⟩
  · rw [List.length_map]
    exact Nat.le_of_lt (small1000 (by simp; omega))
  · have : l = [] := by simpa using e
    rw [this] at k
    exact k _ t st e1
  · cases e
  · exact k _ p (Same.trans st (same_upd hp)) (by rw [upd_same, List.map_append]; rfl)
theorem ok_letters (B : Blt mg) (D : Dn K mg "_law_letters" sLetters ["_law_width"]) : FnOk P w K mg base CX0 1 D.f D.fd ["_law_width"] spLetters := by
  refine D.F.ok sc47 (fun vs H Q E h => ?_) (fun cdv A outer s H vs Q E hr h => ?_)
  · obtain ⟨d, rfl, _⟩ := h
    rfl
  · obtain ⟨d, rfl, hd, k⟩ := h
    refine ⟨_, pss_cons (ps_set (i := 1) sc47.nd rfl (.inl rfl) (pe_lst (pa_cons (pe_tup pa_nil) pa_nil)))
      (pss_cons (ps_for PassesOwn.never rfl (pi_range1 (by rfl) B.range (pa_cons (pv 0) pa_nil)) (pg_name (i := 2) sc47.nd rfl (.inl rfl))
        (pss_cons (ps_set (i := 3) sc47.nd rfl (.inl rfl) (pe_lst pa_nil))
        (pss_cons (ps_for PassesOwn.never rfl (pi_list (pv 1)) (pg_name (i := 4) sc47.nd rfl (.inl rfl))
          (pss_one (ps_expr (pe_bm PySem.F.plainAttrs_list PySem.F.slot_list_extend PySem.F.type_list_extend mt_extend (pv 3) (pa_cons (pe_lst (pa_cons (pe_op op_catA (pv 4) (pe_tup (pa_cons pe_int pa_nil))) (pa_cons (pe_op op_catA (pv 4) (pe_tup (pa_cons pe_int pa_nil))) pa_nil))) pa_nil)))))
        (pss_one (ps_set (i := 1) sc47.nd rfl (.inl rfl) (pv 3))))))
      (pss_one (ps_ret (pv 1)))), ?_⟩
    refine ⟨Nat.zero_le _, fun t0 ht0 => ⟨le1, fun f0 hf0 => ?_⟩⟩
    have s0 := same_upd (o := .tup []) ht0
    have s1 := same_upd (o := .lst [.ref t0]) hf0
    have s2 := Same.trans s0 s1
    refine ⟨_, rfl, d, rfl, by omega, by omega, ?_⟩
    rw [show ((d : Int)).toNat = d by omega]
    refine for_it (n := d) (fun i σ H' => Same H H' ∧ ∃ fl x2 x3 x4, σ = [some (.int d), some (.ref fl), x2, x3, x4] ∧ H fl = none ∧ LettersA H' fl (letters i)) ⟨s2, f0, none, none, none, rfl, Same.free s0 hf0, [t0], upd_same, .cons (s1 _ _ upd_same) .nil⟩ (fun i σ H' hi _ => hi) (fun σ H' _ => Nat.le_refl _) (fun i σ H' x H2 hi pi y => ?_) fun σ H' pi => ?_
    · obtain ⟨rfl, rfl⟩ := y
      obtain ⟨sm, fl, x2, x3, x4, rfl, hfl, bs, hb, hl⟩ := pi
      have li := len_letters4 (d := i) (by omega)
      have lb : bs.length = (letters i).length := Paired.length hl
      refine ⟨Nat.zero_le _, fun ll hll => ?_⟩
      have sl := same_upd (o := .lst []) hll
      have hll0 : H ll = none := Same.free sm hll
      refine ⟨_, rfl, fl, rfl, ⟨_, SqL.of (sl _ _ hb)⟩, for_it (n := (letters i).length) (fun j σ H' => Same H2 H' ∧ ∃ x4, σ = [some (.int d), some (.ref fl), some (.int (0 + (i : Int))), some (.ref ll), x4] ∧ ∃ cs, H' ll = some (.lst (cs.map V.ref)) ∧ LtsA H' cs (((letters i).take j).flatMap fun l => [l ++ [0], l ++ [1]]))
        ⟨sl, x4, rfl, [], upd_same, .nil⟩ (fun j σ H' hj pj => ⟨_, (bs.map V.ref)[j]'(by rw [List.length_map]; omega), SqL.of (pj.1 _ _ hb), List.getElem?_eq_getElem _⟩) (fun σ H' pj => ⟨_, SqL.of (pj.1 _ _ hb), by rw [List.length_map]; omega⟩) (fun j σ H' x H3 hj pj y => ?_) fun σ H' pj => ?_⟩
      · obtain ⟨s3, x4, rfl, cs, hc, hcs⟩ := pj
        obtain ⟨rfl, f⟩ := y
        have hx := f _ (SqL.of (s3 _ _ hb))
        rw [List.getElem?_map] at hx
        obtain ⟨b, hb0, rfl⟩ := Option.map_eq_some_iff.mp hx
        obtain ⟨l, hl0, hbl⟩ := hl.get2 hb0
        have ll4 := (letters_lw (List.mem_of_getElem? hl0)).1
        refine ⟨_, rfl, .inl ⟨rfl, _, SqL.of hc⟩, cat_letter (i := 4) rfl (s3 _ _ hbl) (by omega) fun H4 b4 s4 e4 => cat_letter (i := 4) rfl (s4 _ _ (s3 _ _ hbl)) (by omega) fun H5 b5 s5 e5 => ⟨le2, fun q hq => ?_⟩⟩
        have sq := same_upd (o := .lst [.ref b4, .ref b5]) hq
        have s35 := Same.trans s4 (Same.trans s5 sq)
        have lcs : cs.length ≤ 32 := by
          have h1 : cs.length = (((letters i).take j).flatMap fun l => [l ++ [(0 : Int)], l ++ [1]]).length := Paired.length hcs
          have h2 : ∀ l : List Ltr, (l.flatMap fun l => [l ++ [(0 : Int)], l ++ [1]]).length = 2 * l.length := by
            intro l
            induction l with
            | nil => rfl
            | cons x l ih =>
              rw [List.flatMap_cons, List.length_append, ih, List.length_cons]
              simp only [List.length_cons, List.length_nil]
              omega
          rw [h2, List.length_take] at h1
          omega
        refine ⟨ll, q, _, _, rfl, rfl, s35 _ _ hc, upd_same, by rw [List.length_map]; exact Nat.le_of_lt (small1000 (by simp; omega)), Same.put (Same.trans s3 s35) hll, _, rfl, cs ++ [b4, b5], by rw [upd_same, List.map_append]; rfl, ?_⟩
        rw [flatMap_take hl0]
        have tD : ∀ xs, (upd H5 q (.lst [.ref b4, .ref b5])) ll ≠ some (.tup xs) := tup_nat (s35 _ _ hc)
        have tu : Tups (upd H5 q (.lst [.ref b4, .ref b5])) (upd (upd H5 q (.lst [.ref b4, .ref b5])) ll (.lst (cs.map V.ref ++ [.ref b4, .ref b5]))) := SamX.upd.tups tD
        refine paired_append (Paired.mapP hcs fun _ _ e => tu _ _ (s35 _ _ e)) (.cons (tu _ _ (sq _ _ (s5 _ _ e4))) (.cons (tu _ _ (sq _ _ e5)) .nil))
      · obtain ⟨s3, x4, rfl, cs, hc, hcs⟩ := pj
        rw [List.take_length] at hcs
        exact ⟨_, rfl, Same.trans sm s3, ll, _, _, _, rfl, hll0, cs, hc, hcs⟩
    · obtain ⟨sm, fl, x2, x3, x4, rfl, hfl, hL⟩ := pi
      exact ⟨_, rfl, k _ fl sm hfl hL⟩
end
end WW


set_option maxHeartbeats 2000000

namespace WW
open PySem PySem.Spec PyProof.Rows L2
theorem PotAt.lst {H : Hp} {p : Addr} (h : PotAt H p) : ∃ xs, H p = some (.lst xs) := let ⟨_, _, e, _⟩ := h; ⟨_, e⟩
theorem PotAt.nt {H : Hp} {p : Addr} (h : PotAt H p) : ∀ xs, H p ≠ some (.tup xs) := fun xs e => by
  obtain ⟨ys, q⟩ := h.lst
  rw [q] at e
  cases e
theorem PotAt.same {H H' : Hp} {p : Addr} (h : PotAt H p) (s : Same H H') : PotAt H' p := let ⟨x, y, e, r⟩ := h; ⟨x, y, s _ _ e, r⟩
theorem SamX.tupsP {H H' : Hp} {p : Addr} (s : SamX p H H') (h : PotAt H p) : Tups H H' := s.tups h.nt
theorem SamX.ext {H H' : Hp} {p b : Addr} {φ : Heap → Prop} (s : SamX p H H') (h : PotAt H p) (e : H b = some (.ext φ)) : b ≠ p := fun q => by
  obtain ⟨ys, e2⟩ := h.lst
  rw [q, e2] at e
  cases e
theorem SamX.dxP {P : Program} {w : World} {kd : Kd} {H H' : Hp} {p a : Addr} {kvs : List (NestedKey × V)} (s : SamX p H H') (h : PotAt H p) (x : DX P w kd H a kvs) : DX P w kd H' a kvs :=
  s.dx h.nt (fun q => by
    obtain ⟨φ, e⟩ := x.ext
    obtain ⟨ys, e2⟩ := h.lst
    rw [q, e2] at e
    cases e) x
theorem SamX.rowsP {P : Program} {w : World} {H H' : Hp} {p : Addr} {L : List Addr} {rows : List IRow} (s : SamX p H H') (h : PotAt H p) (x : RowsA P w H L rows) : RowsA P w H' L rows := Paired.mapP x fun _ _ d => s.dxP h d
theorem SamX.goesP {P : Program} {w : World} {H H' : Hp} {p g : Addr} {rows : List IRow} (s : SamX p H H') (h : PotAt H p) (hg : g ≠ p) (x : GoesA P w H g rows) : GoesA P w H' g rows := let ⟨L, e, r⟩ := x; ⟨L, s _ _ hg e, s.rowsP h r⟩
theorem SamX.ltsP {H H' : Hp} {p : Addr} {bs : List Addr} {ls : List Ltr} (s : SamX p H H') (h : PotAt H p) (x : LtsA H bs ls) : LtsA H' bs ls := Paired.mapP x fun _ _ e => s.tupsP h _ _ e
theorem SamX.free {H H' : Hp} {p a : Addr} (s : SamX p H H') (hp : a ≠ p) (h : H' a = none) : H a = none := by
  cases e : H a with
  | none => rfl
  | some o => rw [s a o hp e] at h; cases h
/-- a list of letters made by the way -/
theorem SamX.put {H H1 : Hp} {p D : Addr} {o : HO} (h : SamX p H H1) (hD : H D = none) : SamX p H (L2.upd H1 D o) := fun b u n e => by
  rw [L2.upd_ne (ne_of_none e hD)]
  exact h b u n e
theorem sub_snoc {α : Type} {ls l : List α} {j : Nat} {x : α} (h : ls.Sublist (l.take j)) (hx : l[j]? = some x) : (ls ++ [x]).Sublist (l.take (j + 1)) := by
  rw [List.take_add_one, hx]
  exact h.append (List.Sublist.refl _)
theorem sub_skip {α : Type} {ls l : List α} {j : Nat} (h : ls.Sublist (l.take j)) : ls.Sublist (l.take (j + 1)) := h.trans (List.take_sublist_take_left (Nat.le_succ j))
theorem letters_nodup : ∀ n, (letters n).Nodup
  | 0 => by simp [letters]
  | n + 1 => by
    have ih := letters_nodup n
    show ((letters n).flatMap fun l => [l ++ [0], l ++ [1]]).Nodup
    have : ∀ l : List Ltr, l.Nodup → (l.flatMap fun l => [l ++ [(0 : Int)], l ++ [1]]).Nodup := by
      intro l
      induction l with
      | nil => intro _; simp
      | cons x l ih =>
        intro nd
        rw [List.nodup_cons] at nd
        rw [List.flatMap_cons, List.nodup_append]
        refine ⟨by simp, ih nd.2, fun a ha b hb => ?_⟩
        rintro rfl
        obtain ⟨y, hy, hb⟩ := List.mem_flatMap.mp hb
        have e : ∀ c e : Int, x ++ [c] = y ++ [e] → x = y := fun c e h => (List.append_inj' h rfl).1
        have : x = y := by
          simp only [List.mem_cons, List.not_mem_nil, or_false] at ha hb
          rcases ha with ha | ha <;> rcases hb with hb | hb <;> exact e _ _ (ha.symm.trans hb)
        exact nd.1 (this ▸ hy)
    exact this _ ih
section
variable {P : Program} {w : World} {K : PySem.W.Frag} {mg : Str → Option Value} {base : Heap}
abbrev sLGoes : Stmt := top 48
abbrev nLGoes : List Str := ["_law_pot_here", "_law_width", "_law_most", "_law_often", "_law_many", "_law_found", "_law_place", "_law_some", "_law_letter"]
theorem sc48 : FnScope nLGoes ["_law_pot_here", "_law_width", "_law_most", "_law_often"] (defScope sLGoes) := ⟨rfl, rfl, rfl, by decide +kernel, rfl, by decide +kernel, by decide +kernel⟩
def spLGoes (P : Program) (w : World) : Sp := fun vs H Q _ => ∃ (p : Addr) (d most often : Nat), vs = [.ref p, .int d, .int most, .int often] ∧ PotAt H p ∧ d ≤ 4 ∧ 1 ≤ most ∧ most ≤ 60 ∧ 1 ≤ often ∧ often ≤ 1000 ∧
  ∀ H' g rows, SamX p H H' → PotAt H' p → H g = none → GoesA P w H' g rows → GoesOk d rows → rows.length ≤ most → Q (.ref g) H'
theorem ok_lgoes (B : Blt mg) (D0 : Dn K mg "_law_draw" sDraw ["_law_pot_here", "_law_size"]) (G0 : FnOk P w K mg base CX0 1 D0.f D0.fd ["_law_pot_here", "_law_size"] spDraw) (D1 : Dn K mg "_law_letters" sLetters ["_law_width"]) (G1 : FnOk P w K mg base CX0 1 D1.f D1.fd ["_law_width"] spLetters)
    (D : Dn K mg "_law_goes" sLGoes ["_law_pot_here", "_law_width", "_law_most", "_law_often"]) : FnOk P w K mg base CX0 2 D.f D.fd ["_law_pot_here", "_law_width", "_law_most", "_law_often"] (spLGoes P w) := by
  refine D.F.ok sc48 (fun vs H Q E h => ?_) (fun cdv A outer s H vs Q E hr h => ?_)
  · obtain ⟨p, d, most, often, rfl, _⟩ := h
    rfl
  · obtain ⟨p, d, most, often, rfl, hp, hd, hm1, hm2, ho1, ho2, k⟩ := h
    refine ⟨_, pss_cons (ps_asg (pe_tup (pa_cons (pe_op op_add pe_int (pe_call G0 hr (by rfl) D0.g D0.F.kp D0.b .nil pass0 (pa_cons (pv 0) (pa_cons (pv 2) pa_nil)))) (pa_cons (pe_lst pa_nil) pa_nil))) (pg_tup rfl (pgs_cons (pg_name (i := 4) sc48.nd rfl (.inr rfl)) (pgs_cons (pg_name (i := 5) sc48.nd rfl (.inl rfl)) pgs_nil))))
      (pss_cons (ps_for PassesOwn.never rfl (pi_range1 (by rfl) B.range (pa_cons (pv 4) pa_nil)) (pg_name (i := 6) sc48.nd rfl (.inl rfl))
        (pss_cons (ps_setLc (i := 7) (own := [("_law_letter", 8)]) (g := gName 8) (by rfl) sc48.nd rfl rfl (sw_true rfl rfl rfl (by decide +kernel)) (pi_list (pe_call G1 hr (by rfl) D1.g D1.F.kp D1.b .nil pass0 (pa_cons (pv 1) pa_nil))) (blkOk_by (own := [("_law_letter", 8)]) (N := nLGoes) (sc := defScope sLGoes) (by decide +kernel))
            (fun _ _ _ _ _ => pg_name (i := 8) sc48.nd rfl (Or.inl rfl)) (fun _ _ _ _ _ => pts_one (pt_cmpR op_gt (pe_call G0 hr (by rfl) D0.g D0.F.kp D0.b .nil pass0 (pa_cons (pv 0) (pa_cons (pv 3) pa_nil))) pe_int (nomark _))) (fun _ _ _ _ _ => pv 8))
        (pss_one (ps_expr (pe_bm PySem.F.plainAttrs_list PySem.F.slot_list_append PySem.F.type_list_append mt_append (pv 5) (pa_cons (pe_callTy (call_dictPx rfl (u30 hr)) (by rfl) B.dict (by decide +kernel) (pa_cons
            (pe_lc (own := [("_law_letter", 8)]) (g := gName 8) (tt := tYes) (by rfl) sc48.nd (pi_list (pv 7)) (blkOk_by (own := [("_law_letter", 8)]) (N := nLGoes) (sc := defScope sLGoes) (by decide +kernel)) (fun _ _ _ _ _ => pg_name (i := 8) sc48.nd rfl (Or.inl rfl)) (fun _ _ _ _ _ => pts_nil)
              (fun _ _ _ _ _ => pe_tup (pa_cons (pv 8) (pa_cons (pe_call G0 hr (by rfl) D0.g D0.F.kp D0.b .nil pass0 (pa_cons (pv 0) (pa_cons (pv 4) pa_nil))) pa_nil)))) pa_nil)) pa_nil))))))
      (pss_one (ps_ret (pv 5)))), ?_⟩
    refine ⟨_, rfl, _, rfl, p, most, rfl, hp, hm1, by omega, fun H1 r s1 hp1 hr1 => ⟨_, _, rfl, rfl, Nat.zero_le _, fun f0 hf0 => ⟨le2, fun t0 ht0 => ?_⟩⟩⟩
    have e1 : (1 : Int) + (r : Int) = ((1 + r : Nat) : Int) := by omega
    have sf := same_upd (o := .lst []) hf0
    have st := same_upd (o := .tup [.int (1 + (r : Int)), .ref f0]) ht0
    refine ⟨t0, _, rfl, .inl (.inl upd_same), rfl, _, _, rfl, _, _, rfl, rfl, ?_⟩
    dsimp only
    rw [e1]
    rw [e1] at st
    have hpf : f0 ≠ p := fun e => by
      obtain ⟨ys, q⟩ := hp1.lst
      rw [← e, hf0] at q
      cases q
    have hf0H : H f0 = none := s1.free hpf hf0
    obtain ⟨many, hmany⟩ : ∃ many, 1 + r = many := ⟨_, rfl⟩
    rw [hmany] at st ⊢
    obtain ⟨H3, hH3⟩ : ∃ H3, upd (upd H1 f0 (.lst [])) t0 (.tup [.int (many : Int), .ref f0]) = H3 := ⟨_, rfl⟩
    have sm3 : SamX p H H3 := by rw [← hH3]; exact s1.trans (SamX.of_same (Same.trans sf st))
    have hp3 : PotAt H3 p := by rw [← hH3]; exact hp1.same (Same.trans sf st)
    have hf3 : H3 f0 = some (.lst []) := by rw [← hH3]; exact st _ _ upd_same
    rw [hH3]
    refine ⟨_, rfl, many, rfl, by omega, by omega, ?_⟩
    rw [show ((many : Int)).toNat = many by omega]
    refine for_it (n := many) (fun i σ H' => SamX p H H' ∧ PotAt H' p ∧ ∃ L rows x6 x7 x8, σ = [some (.ref p), some (.int d), some (.int most), some (.int often), some (.int (many : Int)), some (.ref f0), x6, x7, x8] ∧ H' f0 = some (.lst (L.map V.ref)) ∧ RowsA P w H' L rows ∧ rows.length = i ∧ ∀ r ∈ rows, RowOk d many r)
      ⟨sm3, hp3, [], [], none, none, none, rfl, hf3, .nil, rfl, fun _ h => nomatch h⟩ (fun i σ H' hi _ => hi) (fun σ H' _ => Nat.le_refl _) (fun i σ H' x H2 hi pi y => ?_) fun σ H' pi => ?_
    · obtain ⟨rfl, rfl⟩ := y
      obtain ⟨sm, hpa, L, rows, x6, x7, x8, rfl, hf, hL, hlr, hok⟩ := pi
      refine ⟨_, rfl, d, rfl, hd, fun H4 la s4 hla hla2 => ?_⟩
      obtain ⟨bs, hb, hbl⟩ := hla2
      have lb : bs.length = (letters d).length := Paired.length hbl
      have l16 := len_letters4 hd
      have hp4 := hpa.same s4
      have lap : la ≠ p := fun e => by
        obtain ⟨ys, q⟩ := hpa.lst
        rw [← e, hla] at q
        cases q
      refine ⟨la, rfl, ⟨_, SqL.of hb⟩, fun D hD => lc_it (n := (letters d).length) (fun j Hj => SamX p H4 Hj ∧ PotAt Hj p ∧ ∃ cs ls, Hj D = some (.lst (cs.map V.ref)) ∧ LtsA Hj cs ls ∧ ls.Sublist ((letters d).take j)) ⟨SamX.of_same (same_upd hD), hp4.same (same_upd hD), [], [], upd_same, .nil, List.nil_sublist _⟩
        (fun j Hj hj pj => ⟨_, (bs.map V.ref)[j]'(by rw [List.length_map]; omega), SqL.of (pj.1 _ _ lap hb), List.getElem?_eq_getElem _⟩) (fun Hj pj => ⟨_, SqL.of (pj.1 _ _ lap hb), by rw [List.length_map]; omega⟩) (fun j Hj x H5 hj pj y => ?_) fun Hj pj => ?_⟩
      · obtain ⟨rfl, f⟩ := y
        obtain ⟨s5, hp5, cs, ls, hc, hcs, hsub⟩ := pj
        have hx := f _ (SqL.of (s5 _ _ lap hb))
        rw [List.getElem?_map] at hx
        obtain ⟨b, hb0, rfl⟩ := Option.map_eq_some_iff.mp hx
        obtain ⟨l, hl0, hbl0⟩ := hbl.get2 hb0
        have Dp : D ≠ p := fun e => by
          obtain ⟨ys, q⟩ := hp4.lst
          rw [← e, hD] at q
          cases q
        have lcs : cs.length ≤ 16 := by
          have h1 := Paired.length hcs
          have h2 := hsub.length_le
          rw [List.length_take] at h2
          omega
        refine ⟨rfl, ?_⟩
        refine ⟨_, rfl, _, rfl, p, often, rfl, hp5, ho1, ho2, fun H6 v s6 hp6 hv => ⟨_, _, rfl, rfl, _, rfl, ite2 (fun _ => ?_) (fun _ => ?_)⟩⟩
        · have c6 := s6 _ _ Dp hc
          have tu : Tups H6 (upd H6 D (.lst (cs.map V.ref ++ [.ref b]))) := SamX.upd.tups (tup_nat c6)
          refine ⟨_, rfl, _, c6, by rw [List.length_map]; exact small1000 (by omega), SamX.put (s5.trans s6) hD, ?_, cs ++ [b], ls ++ [l], by rw [upd_same, List.map_append]; rfl, ?_, sub_snoc hsub hl0⟩
          · obtain ⟨x, y, e, r⟩ := hp6
            exact ⟨x, y, by rw [upd_ne (Ne.symm Dp)]; exact e, r⟩
          · exact Paired.snoc (Paired.mapP (s6.ltsP hp5 hcs) fun _ _ e => tu _ _ e) (tu _ _ (s6.tupsP hp5 _ _ (s5.tupsP hp4 _ _ hbl0)))
        · exact ⟨s5.trans s6, hp6, cs, ls, s6 _ _ Dp hc, s6.ltsP hp5 hcs, sub_skip hsub⟩
      · obtain ⟨s5, hp5, cs, ls, hc, hcs, hsub⟩ := pj
        rw [List.take_length] at hsub
        have lcs : cs.length = ls.length := Paired.length hcs
        have lls : ls.length ≤ 16 := by have := hsub.length_le; omega
        have lnd : ls.Nodup := hsub.nodup (letters_nodup d)
        have llw : ∀ l ∈ ls, Lw d l := fun l hl => letters_lw (hsub.subset hl)
        have Dp : D ≠ p := fun e => by
          obtain ⟨ys, q⟩ := hp4.lst
          rw [← e, hD] at q
          cases q
        have hfj : Hj f0 = some (.lst (L.map V.ref)) := s5 _ _ hpf (s4 _ _ hf)
        refine ⟨_, rfl, .inl ⟨rfl, _, SqL.of hfj⟩, ?_⟩
        refine ⟨_, rfl, D, rfl, ⟨_, SqL.of hc⟩, fun E0 hE => lc_it (n := ls.length) (fun j Hk => SamX p Hj Hk ∧ PotAt Hk p ∧ ∃ (ts : List Addr) (rr : IRow), Hk E0 = some (.lst (ts.map V.ref)) ∧ rr.map (·.1) = ls.take j ∧ (∀ q ∈ rr, 0 ≤ q.2 ∧ q.2 < (many : Int)) ∧ Paired (fun t (q : Ltr × Int) => ∃ b, Hk t = some (.tup [.ref b, .int q.2]) ∧ Hk b = some (.tup (q.1.map V.int))) ts rr)
          ⟨SamX.of_same (same_upd hE), hp5.same (same_upd hE), [], [], upd_same, rfl, fun _ h => (nomatch h), .nil⟩
          (fun j Hk hj pk => ⟨_, (cs.map V.ref)[j]'(by rw [List.length_map]; omega), SqL.of (pk.1 _ _ Dp hc), List.getElem?_eq_getElem _⟩) (fun Hk pk => ⟨_, SqL.of (pk.1 _ _ Dp hc), by rw [List.length_map]; omega⟩) (fun j Hk x H6 hj pk y => ?_) fun Hk pk => ?_⟩
        · obtain ⟨rfl, f⟩ := y
          obtain ⟨s6, hp6, ts, rr, he, hk1, hk2, hk3⟩ := pk
          have hx := f _ (SqL.of (s6 _ _ Dp hc))
          rw [List.getElem?_map] at hx
          obtain ⟨b, hb0, rfl⟩ := Option.map_eq_some_iff.mp hx
          obtain ⟨l, hl0, hbl0⟩ := hcs.get2 hb0
          have Ep : E0 ≠ p := fun e => by
            obtain ⟨ys, q⟩ := hp5.lst
            rw [← e, hE] at q
            cases q
          have ltr : ts.length ≤ 16 := by
            have h1 := Paired.length hk3
            have h2 := congrArg List.length hk1
            rw [List.length_map, List.length_take] at h2
            omega
          refine ⟨rfl, yes ⟨_, rfl, _, rfl, _, rfl, p, many, rfl, hp6, by omega, by omega, fun H7 v s7 hp7 hv => ⟨le2, fun t ht => ?_⟩⟩⟩
          have st := same_upd (o := .tup [.ref b, .int (v : Int)]) ht
          have e7 := s7 _ _ Ep he
          have tu : Tups (upd H7 t (.tup [.ref b, .int (v : Int)])) (upd (upd H7 t (.tup [.ref b, .int (v : Int)])) E0 (.lst (ts.map V.ref ++ [.ref t]))) := SamX.upd.tups (tup_nat (st _ _ e7))
          have tt : Tups H6 (upd (upd H7 t (.tup [.ref b, .int (v : Int)])) E0 (.lst (ts.map V.ref ++ [.ref t]))) := fun c xs e => tu _ _ (st _ _ (s7.tupsP hp6 _ _ e))
          refine ⟨_, st _ _ e7, by rw [List.length_map]; exact small1000 (by omega), SamX.put ((s6.trans s7).trans (SamX.of_same st)) hE, ?_, ts ++ [t], rr ++ [(l, (v : Int))], by rw [upd_same, List.map_append]; rfl, ?_, ?_, ?_⟩
          · obtain ⟨x, y, e, r⟩ := hp7
            exact ⟨x, y, by rw [upd_ne (Ne.symm Ep)]; exact st _ _ e, r⟩
          · rw [List.map_append, hk1, List.take_add_one, hl0]
            rfl
          · intro q hq
            rcases List.mem_append.mp hq with hq | hq
            · exact hk2 q hq
            · rw [List.mem_singleton.mp hq]
              show (0 : Int) ≤ (v : Int) ∧ (v : Int) < (many : Int)
              omega
          · exact Paired.snoc (Paired.mapP hk3 fun _ _ ⟨c, e1, e2⟩ => ⟨c, tt _ _ e1, tt _ _ e2⟩) ⟨b, tu _ _ upd_same, tt _ _ (s6.tupsP hp5 _ _ hbl0)⟩
        · obtain ⟨s6, hp6, ts, rr, he, hk1, hk2, hk3⟩ := pk
          rw [List.take_length] at hk1
          have hpairs : Paired (fun t (q : NestedKey × V) => ∃ b, Hk t = some (.tup [.ref b, q.2]) ∧ NV Hk q.1 (.ref b) ∧ q.1.depth ≤ 8) ts (rowKv rr) := by
            have : ∀ {ts : List Addr} {rr : IRow}, Paired (fun t (q : Ltr × Int) => ∃ b, Hk t = some (.tup [.ref b, .int q.2]) ∧ Hk b = some (.tup (q.1.map V.int))) ts rr → Paired (fun t (q : NestedKey × V) => ∃ b, Hk t = some (.tup [.ref b, q.2]) ∧ NV Hk q.1 (.ref b) ∧ q.1.depth ≤ 8) ts (rowKv rr) := by
              intro ts rr h
              induction h with
              | nil => exact .nil
              | cons h t ih =>
                obtain ⟨b, e1, e2⟩ := h
                exact .cons ⟨b, e1, lk_of e2, lk_depth _⟩ ih
            exact this hk3
          have ndk : ((rowKv rr).map (·.1)).Nodup := by
            rw [rowKv_keys, hk1]
            exact nodup_map_inj (fun _ _ => lk_inj) lnd
          refine ⟨E0, ts, rowKv rr, rfl, SqL.of he, hpairs, ndk, fun a u ha hx => ?_⟩
          have sa := same_upd (o := u) ha
          have fk := sa _ _ (s6 _ _ hpf hfj)
          have lL : L.length = rows.length := Paired.length hL
          refine ⟨f0, _, _, rfl, rfl, fk, by rw [List.length_map]; exact small1000 (by omega), ?_⟩
          have rOk : RowOk d many rr := by
            refine ⟨fun q hq => llw _ (by rw [← hk1]; exact List.mem_map.mpr ⟨q, hq, rfl⟩), by rw [hk1]; exact lnd, hk2, ?_⟩
            have := congrArg List.length hk1
            rw [List.length_map] at this
            omega
          have tf : ∀ {b : Addr} {kvs : List (NestedKey × V)}, DX P w .t (upd Hk a u) b kvs → DX P w .t (upd (upd Hk a u) f0 (.lst (L.map V.ref ++ [.ref a]))) b kvs := fun {b kvs} h => SamX.upd.dx (tup_nat fk) (fun e => by
            obtain ⟨φ, e2⟩ := h.ext
            rw [e, fk] at e2
            cases e2) h
          refine ⟨SamX.put ((sm.trans (SamX.of_same s4)).trans (s5.trans (s6.trans (SamX.of_same sa)))) hf0H, ?_, L ++ [a], rows ++ [rr], _, _, _, rfl, by rw [upd_same, List.map_append]; rfl, ?_, by rw [List.length_append]; simp; omega, fun r hr => ?_⟩
          · obtain ⟨x, y, e, r⟩ := hp6
            exact ⟨x, y, by rw [upd_ne (Ne.symm hpf)]; exact sa _ _ e, r⟩
          · exact Paired.snoc (Paired.mapP (((s6.rowsP hp5 (s5.rowsP hp4 (hL.same s4)))).same sa) fun _ _ h => tf h) (tf hx)
          · rcases List.mem_append.mp hr with hr | hr
            · exact hok r hr
            · rw [List.mem_singleton.mp hr]
              exact rOk
    · obtain ⟨sm, hpa, L, rows, x6, x7, x8, rfl, hf, hL, hlr, hok⟩ := pi
      refine ⟨_, rfl, k _ f0 rows sm hpa hf0H ⟨L, hf, hL⟩ ⟨fun r hr => by rw [hlr]; exact hok r hr, by omega, by omega⟩ (by omega)⟩
end
end WW


set_option maxHeartbeats 2000000

namespace WW
open PySem PySem.Spec PyProof.Rows L2
section
variable {P : Program} {w : World} {K : PySem.W.Frag} {mg : Str → Option Value} {base : Heap}
abbrev sLLed : Stmt := top 49
abbrev nLLed : List Str := ["_law_goes_here", "_law_place", "_law_word", "_law_letter"]
theorem sc49 : FnScope nLLed ["_law_goes_here", "_law_place", "_law_word"] (defScope sLLed) := ⟨rfl, rfl, rfl, by decide +kernel, rfl, by decide +kernel, by decide +kernel⟩
def spLLed (P : Program) (w : World) : Sp := fun vs H Q _ => ∃ (g a : Addr) (d : Nat) (rows : List IRow) (u : List Ltr), vs = [.ref g, .int 0, .ref a] ∧ GoesA P w H g rows ∧ GoesOk d rows ∧ WordA H a u ∧ Q (oV (runR rows 0 u)) H
theorem ok_lled (D : Dn K mg "_law_led" sLLed ["_law_goes_here", "_law_place", "_law_word"]) : FnOk P w K mg base CX0 1 D.f D.fd ["_law_goes_here", "_law_place", "_law_word"] (spLLed P w) := by
  refine D.F.ok sc49 (fun vs H Q E h => ?_) (fun cdv A outer s H vs Q E hr h => ?_)
  · obtain ⟨g, a, d, rows, u, rfl, _⟩ := h
    rfl
  · obtain ⟨g, a, d, rows, u, rfl, ⟨L, hg, hL⟩, ok, ⟨bs, ha, hb⟩, k⟩ := h
    have lb : bs.length = u.length := Paired.length hb
    refine ⟨_, pss_cons (ps_for PassesOwn.never rfl (pi_list (pv 2)) (pg_name (i := 3) sc49.nd rfl (.inl rfl))
        (pss_one (ps_set (i := 1) sc49.nd rfl (.inl rfl) (pe_ifExp (pt_cmp (pc_isN (pv 1))) pe_non (pe_xget1 (u9 hr) (pe_ix ix_list (pv 0) (pv 1) (fun _ _ => rfl)) (pv 3) ⟨rfl, rfl, rfl, rfl⟩)))))
      (pss_one (ps_ret (pv 1))), ?_⟩
    refine ⟨_, rfl, a, rfl, ⟨_, SqL.of ha⟩, for_it (n := u.length) (fun i σ H' => H' = H ∧ ∃ (o : Option Int) (x : Option V), σ = [some (.ref g), some (oV o), some (.ref a), x] ∧ InR rows.length o ∧ runR rows 0 u = o.bind fun j => runR rows j (u.drop i))
      ⟨rfl, some 0, none, rfl, fun i e => by cases e; have := ok.2.1; omega, rfl⟩ (fun i σ H' hi pi => ?_) (fun σ H' pi => ?_) (fun i σ H' x H2 hi pi y => ?_) fun σ H' pi => ?_⟩
    · obtain ⟨rfl, _⟩ := pi
      exact ⟨_, (bs.map V.ref)[i]'(by rw [List.length_map]; omega), SqL.of ha, List.getElem?_eq_getElem _⟩
    · obtain ⟨rfl, _⟩ := pi
      exact ⟨_, SqL.of ha, by rw [List.length_map]; omega⟩
    · obtain ⟨rfl, o, x0, rfl, hin, er⟩ := pi
      obtain ⟨rfl, f⟩ := y
      have hx := f _ (SqL.of ha)
      rw [List.getElem?_map] at hx
      obtain ⟨b, hb0, rfl⟩ := Option.map_eq_some_iff.mp hx
      obtain ⟨l, hl, hbl⟩ := hb.get2 hb0
      have ed : u.drop i = l :: u.drop (i + 1) := by
        rw [List.drop_eq_getElem_cons hi]
        rw [List.getElem?_eq_getElem hi] at hl
        rw [Option.some.inj hl]
      rw [ed] at er
      refine ⟨_, rfl, _, rfl, ?_⟩
      cases o with
      | none => exact ys ⟨rfl, none, _, rfl, hin, er⟩
      | some j =>
        refine no ?_
        obtain ⟨j0, j1⟩ := hin j rfl
        obtain ⟨n, en, hn⟩ := rowAt_some j0 j1
        obtain ⟨rb, hrb, hrow⟩ := paired_get2 hL hn
        have hrow : DX P w .t H2 rb (rowKv (rowAt rows j)) := hrow
        refine ⟨_, rfl, _, rfl, g, _, j, .ref rb, rfl, rfl, SqL.of hg, (by rw [en]; exact atI_nat (j := n) (by rw [List.getElem?_map, hrb]; rfl)), rb, rfl, ⟨.t, _, hrow⟩, _, rfl, .t, _, lk l, hrow, keyV_lk.mpr ⟨b, rfl, hbl⟩, ?_⟩
        rw [rowKv_get1]
        refine ⟨rfl, at1 (rowAt rows j) l, _, rfl, fun i e => ?_, ?_⟩
        · have := ok.step j0 j1 (show stepR rows j l = some i from e)
          exact this.2
        · exact er
    · obtain ⟨rfl, o, x0, rfl, hin, er⟩ := pi
      rw [List.drop_length] at er
      refine ⟨_, rfl, ?_⟩
      have : runR rows 0 u = o := by rw [er]; cases o <;> rfl
      rw [this] at k
      exact k
abbrev sLWords : Stmt := top 50
abbrev nLWords : List Str := ["_law_width", "_law_most", "_law_found", "_law_level", "_law_turn", "_law_longer", "_law_word", "_law_letter"]
theorem sc50 : FnScope nLWords ["_law_width", "_law_most"] (defScope sLWords) := ⟨rfl, rfl, rfl, by decide +kernel, rfl, by decide +kernel, by decide +kernel⟩
theorem WordA.upd {H : Hp} {a D : Addr} {o : HO} {u : List Ltr} (h : WordA H a u) (t : Tups H (L2.upd H D o)) (n : a ≠ D) : WordA (L2.upd H D o) a u := let ⟨bs, e, r⟩ := h; ⟨bs, by rw [L2.upd_ne n]; exact e, Paired.mapP r fun _ _ x => t _ _ x⟩
/-- a list of words -/
def WordsA (d m : Nat) (H : Hp) (as : List Addr) : Prop := ∀ a ∈ as, ∃ u, WordA H a u ∧ (∀ l ∈ u, Lw d l) ∧ u.length ≤ m
theorem WordsA.same {d m : Nat} {H H' : Hp} {as : List Addr} (h : WordsA d m H as) (s : Same H H') : WordsA d m H' as := fun a ha => let ⟨u, h1, h2⟩ := h a ha; ⟨u, h1.same s, h2⟩
def spLWords : Sp := fun vs H Q _ => ∃ d m : Nat, vs = [.int d, .int m] ∧ d ≤ 2 ∧ m ≤ 3 ∧ ∀ H' a as, Same H H' → H a = none → H' a = some (.lst (as.map V.ref)) → WordsA d 3 H' as → as.length ≤ 1000 → Q (.ref a) H'
theorem ok_lwords (B : Blt mg) (D1 : Dn K mg "_law_letters" sLetters ["_law_width"]) (G1 : FnOk P w K mg base CX0 1 D1.f D1.fd ["_law_width"] spLetters) (D : Dn K mg "_law_words" sLWords ["_law_width", "_law_most"]) : FnOk P w K mg base CX0 2 D.f D.fd ["_law_width", "_law_most"] spLWords := by
  refine D.F.ok sc50 (fun vs H Q E h => ?_) (fun cdv A outer s H vs Q E hr h => ?_)
  · obtain ⟨d, m, rfl, _⟩ := h
    rfl
  · obtain ⟨d, m, rfl, hd, hm, k⟩ := h
    refine ⟨_, pss_cons (ps_par (i := 2) (j := 3) rfl sc50.nd rfl rfl (by decide) rfl rfl (pa_cons (pe_lst (pa_cons (pe_lst pa_nil) pa_nil)) (pa_cons (pe_lst (pa_cons (pe_lst pa_nil) pa_nil)) pa_nil)) rfl)
      (pss_cons (ps_for PassesOwn.never rfl (pi_range1 (by rfl) B.range (pa_cons (pv 1) pa_nil)) (pg_name (i := 4) sc50.nd rfl (.inl rfl))
        (pss_cons (ps_set (i := 5) sc50.nd rfl (.inl rfl) (pe_lst pa_nil))
        (pss_cons (ps_for PassesOwn.never rfl (pi_list (pv 3)) (pg_name (i := 6) sc50.nd rfl (.inr rfl))
          (pss_one (ps_expr (pe_bm PySem.F.plainAttrs_list PySem.F.slot_list_extend PySem.F.type_list_extend mt_extend (pv 5) (pa_cons
            (pe_lc (own := [("_law_letter", 7)]) (g := gName 7) (tt := tYes) (by rfl) sc50.nd (pi_list (pe_call G1 hr (by rfl) D1.g D1.F.kp D1.b .nil pass0 (pa_cons (pv 0) pa_nil))) (blkOk_by (own := [("_law_letter", 7)]) (N := nLWords) (sc := defScope sLWords) (by decide +kernel)) (fun _ _ _ _ _ => pg_name (i := 7) sc50.nd rfl (Or.inl rfl)) (fun _ _ _ _ _ => pts_nil)
              (fun _ _ _ _ _ => pe_op op_cat (pv 6) (pe_lst (pa_cons (pv 7) pa_nil)))) pa_nil)))))
        (pss_one (ps_par (i := 2) (j := 3) rfl sc50.nd rfl rfl (by decide) rfl rfl (pa_cons (pe_op op_cat (pv 2) (pv 5)) (pa_cons (pv 5) pa_nil)) rfl)))))
      (pss_one (ps_ret (pv 2)))), ?_⟩
    refine ⟨Nat.zero_le _, fun w0 hw0 => ⟨le1, fun f0 hf0 => ⟨Nat.zero_le _, fun w1 hw1 => ⟨le1, fun v0 hv0 => ?_⟩⟩⟩⟩
    have s1 := same_upd (o := .lst []) hw0
    have s2 := same_upd (o := .lst [.ref w0]) hf0
    have s3 := same_upd (o := .lst []) hw1
    have s4 := same_upd (o := .lst [.ref w1]) hv0
    have s12 := Same.trans s1 s2
    have s34 := Same.trans s3 s4
    refine ⟨_, _, rfl, ?_⟩
    refine ⟨_, rfl, m, rfl, by omega, by omega, ?_⟩
    rw [show ((m : Int)).toNat = m by omega]
    refine for_it (n := m) (fun i σ H' => Same H H' ∧ ∃ fl vl fas vas x4 x5 x6 x7, σ = [some (.int d), some (.int m), some (.ref fl), some (.ref vl), x4, x5, x6, x7] ∧ H fl = none ∧ H' fl = some (.lst (fas.map V.ref)) ∧ H' vl = some (.lst (vas.map V.ref)) ∧ WordsA d i H' fas ∧ WordsA d i H' vas ∧ vas.length ≤ 4 ^ i ∧ fas.length ≤ 2 * 4 ^ i)
      ⟨Same.trans s12 s34, f0, v0, [w0], [w1], none, none, none, none, rfl, Same.free s1 hf0, s34 _ _ upd_same, upd_same, fun a ha => ?_, fun a ha => ?_, by show 1 ≤ 4 ^ 0; decide, by show 1 ≤ 2 * 4 ^ 0; decide⟩ (fun i σ H' hi _ => hi) (fun σ H' _ => Nat.le_refl _) (fun i σ H' x H2 hi pi y => ?_) fun σ H' pi => ?_
    · rw [List.mem_singleton.mp ha]
      exact ⟨[], ⟨[], s34 _ _ (s2 _ _ upd_same), .nil⟩, fun _ h => (nomatch h), Nat.le_refl _⟩
    · rw [List.mem_singleton.mp ha]
      exact ⟨[], ⟨[], s4 _ _ upd_same, .nil⟩, fun _ h => (nomatch h), Nat.le_refl _⟩
    · obtain ⟨rfl, rfl⟩ := y
      obtain ⟨sm, fl, vl, fas, vas, x4, x5, x6, x7, rfl, hfl, hf, hv, wf, wv, lv, lf⟩ := pi
      have p4 : 4 ^ i ≤ 4 ^ 2 := Nat.pow_le_pow_right (by decide) (by omega)
      have p4s : 4 ^ (i + 1) = 4 * 4 ^ i := by rw [Nat.pow_succ, Nat.mul_comm]
      refine ⟨Nat.zero_le _, fun ll hll => ?_⟩
      have sl := same_upd (o := .lst []) hll
      refine ⟨_, rfl, vl, rfl, ⟨_, SqL.of (sl _ _ hv)⟩, for_it (n := vas.length) (fun j σ H' => Same H2 H' ∧ ∃ x6, σ = [some (.int d), some (.int m), some (.ref fl), some (.ref vl), some (.int (0 + (i : Int))), some (.ref ll), x6, x7] ∧ ∃ cs, H' ll = some (.lst (cs.map V.ref)) ∧ WordsA d (i + 1) H' cs ∧ cs.length ≤ 4 * j ∧ ll ∉ cs)
        ⟨sl, x6, rfl, [], upd_same, (fun _ h => nomatch h), Nat.le_refl _, by simp⟩ (fun j σ H' hj pj => ⟨_, (vas.map V.ref)[j]'(by rw [List.length_map]; omega), SqL.of (pj.1 _ _ hv), List.getElem?_eq_getElem _⟩) (fun σ H' pj => ⟨_, SqL.of (pj.1 _ _ hv), by rw [List.length_map]; exact Nat.le_refl _⟩) (fun j σ H' x H3 hj pj y => ?_) fun σ H' pj => ?_⟩
      · obtain ⟨s5, x6, rfl, cs, hc, wc, lc, nll⟩ := pj
        obtain ⟨rfl, f⟩ := y
        have hx := f _ (SqL.of (s5 _ _ hv))
        rw [List.getElem?_map] at hx
        obtain ⟨a, ha0, rfl⟩ := Option.map_eq_some_iff.mp hx
        obtain ⟨u, hu1, hu2, hu3⟩ := (wv.same s5) a (List.mem_of_getElem? ha0)
        obtain ⟨bs, hub, huc⟩ := hu1
        have lub : bs.length = u.length := Paired.length huc
        refine ⟨_, rfl, .inl ⟨rfl, _, SqL.of hc⟩, _, rfl, d, rfl, by omega, fun H4 la s6 _ hla => ?_⟩
        obtain ⟨ls, hls, hlb⟩ := hla
        have lls : ls.length = (letters d).length := Paired.length hlb
        have l4 : (letters d).length ≤ 4 := by
          rw [letters_len]
          exact Nat.pow_le_pow_right (n := 2) (i := d) (j := 2) (by decide) hd
        refine ⟨la, rfl, ⟨_, SqL.of hls⟩, fun D hD => lc_it (n := (letters d).length) (fun t Ht => Same H4 Ht ∧ ∃ es, Ht D = some (.lst (es.map V.ref)) ∧ WordsA d (i + 1) Ht es ∧ es.length ≤ t ∧ (∀ a ∈ es, H4 a = none) ∧ D ∉ es) ⟨same_upd hD, [], upd_same, (fun _ h => nomatch h), Nat.le_refl _, (fun _ h => nomatch h), by simp⟩
          (fun t Ht ht pt => ⟨_, (ls.map V.ref)[t]'(by rw [List.length_map]; omega), SqL.of (pt.1 _ _ hls), List.getElem?_eq_getElem _⟩) (fun Ht pt => ⟨_, SqL.of (pt.1 _ _ hls), by rw [List.length_map]; omega⟩) (fun t Ht x H5 ht pt y => ?_) fun Ht pt => ?_⟩
        · obtain ⟨s7, es, he, we, le, nf, nD⟩ := pt
          obtain ⟨rfl, f⟩ := y
          have hx := f _ (SqL.of (s7 _ _ hls))
          rw [List.getElem?_map] at hx
          obtain ⟨b, hb0, rfl⟩ := Option.map_eq_some_iff.mp hx
          obtain ⟨l, hl0, hbl⟩ := hlb.get2 hb0
          have s67 := Same.trans s6 s7
          refine ⟨rfl, yes ⟨_, rfl, _, rfl, le1, fun l1 hl1 => ?_⟩⟩
          have t1 := same_upd (o := .lst [.ref b]) hl1
          refine ⟨a, l1, _, _, rfl, rfl, t1 _ _ (s67 _ _ hub), upd_same, by rw [List.length_map]; exact Nat.le_of_lt (small1000 (by simp; omega)), fun z hz => ?_⟩
          have t2 := same_upd (o := .lst (bs.map V.ref ++ [.ref b])) hz
          have t12 := Same.trans t1 t2
          have he2 := t12 _ _ he
          have tu : Tups (upd (upd H5 l1 (.lst [.ref b])) z (.lst (bs.map V.ref ++ [.ref b]))) (upd (upd (upd H5 l1 (.lst [.ref b])) z (.lst (bs.map V.ref ++ [.ref b]))) D (.lst (es.map V.ref ++ [.ref z]))) := SamX.upd.tups (tup_nat he2)
          have zD : z ≠ D := fun e => by
            rw [e, t1 _ _ he] at hz
            cases hz
          have z4 : H4 z = none := Same.free (Same.trans s7 t1) hz
          refine ⟨_, he2, by rw [List.length_map]; exact small1000 (by omega), Same.put (Same.trans s7 t12) hD, es ++ [z], by rw [upd_same, List.map_append]; rfl, ?_, by rw [List.length_append]; simp; omega, fun a ha => ?_, fun h => ?_⟩
          · intro a ha
            rcases List.mem_append.mp ha with ha | ha
            · obtain ⟨v, h1, h2⟩ := (we.same t12) a ha
              exact ⟨v, h1.upd tu (fun e => nD (e ▸ ha)), h2⟩
            · rw [List.mem_singleton.mp ha]
              refine ⟨u ++ [l], WordA.upd ⟨bs ++ [b], by rw [upd_same, List.map_append]; rfl, ?_⟩ tu zD, fun l2 hl2 => ?_, by rw [List.length_append]; simp; omega⟩
              · exact Paired.snoc (Paired.mapP huc fun _ _ e => t12 _ _ (s67 _ _ e)) (t12 _ _ (s7 _ _ hbl))
              · rcases List.mem_append.mp hl2 with h | h
                · exact hu2 _ h
                · rw [List.mem_singleton.mp h]
                  exact letters_lw (List.mem_of_getElem? hl0)
          · rcases List.mem_append.mp ha with ha | ha
            · exact nf a ha
            · rw [List.mem_singleton.mp ha]
              exact z4
          · rcases List.mem_append.mp h with h | h
            · exact nD h
            · exact zD (List.mem_singleton.mp h).symm
        · obtain ⟨s7, es, he, we, le, nf, nD⟩ := pt
          have s67 := Same.trans s6 s7
          refine ⟨ll, D, _, _, rfl, rfl, s67 _ _ hc, he, by rw [List.length_map, List.length_map]; exact Nat.le_of_lt (small1000 (by omega)), Same.put (Same.trans s5 s67) hll, _, rfl, cs ++ es, by rw [upd_same, List.map_append], fun a ha => ?_, by rw [List.length_append]; omega, fun h => ?_⟩
          · have tu : Tups Ht (upd Ht ll (.lst (cs.map V.ref ++ es.map V.ref))) := SamX.upd.tups (tup_nat (s67 _ _ hc))
            rcases List.mem_append.mp ha with ha | ha
            · obtain ⟨v, h1, h2⟩ := (wc.same s67) a ha
              exact ⟨v, h1.upd tu (fun e => nll (e ▸ ha)), h2⟩
            · obtain ⟨v, h1, h2⟩ := we a ha
              refine ⟨v, h1.upd tu (fun e => ?_), h2⟩
              have := nf a ha
              rw [e, s6 _ _ hc] at this
              cases this
          · rcases List.mem_append.mp h with h | h
            · exact nll h
            · have := nf ll h
              rw [s6 _ _ hc] at this
              cases this
      · obtain ⟨s5, x6, rfl, cs, hc, wc, lc, nll⟩ := pj
        refine ⟨_, rfl, _, rfl, fl, ll, _, _, rfl, rfl, s5 _ _ hf, hc, by rw [List.length_map, List.length_map]; exact Nat.le_of_lt (small1000 (by omega)), fun z hz => ⟨_, rfl, _, _, rfl, ?_⟩⟩
        have t1 := same_upd (o := .lst (fas.map V.ref ++ cs.map V.ref)) hz
        have s6 := Same.trans s5 t1
        refine ⟨Same.trans sm s6, z, ll, fas ++ cs, cs, _, _, _, _, rfl, Same.free (Same.trans sm s5) hz, by rw [upd_same, List.map_append], t1 _ _ hc, fun a ha => ?_, wc.same t1, by omega, by rw [List.length_append]; omega⟩
        rcases List.mem_append.mp ha with ha | ha
        · obtain ⟨u, h1, h2, h3⟩ := (wf.same s6) a ha
          exact ⟨u, h1, h2, by omega⟩
        · exact (wc.same t1) a ha
    · obtain ⟨sm, fl, vl, fas, vas, x4, x5, x6, x7, rfl, hfl, hf, hv, wf, wv, lv, lf⟩ := pi
      have p4 : 4 ^ m ≤ 4 ^ 3 := Nat.pow_le_pow_right (by decide) hm
      exact ⟨_, rfl, k _ fl fas sm hfl hf (fun a ha => let ⟨u, h1, h2, h3⟩ := wf a ha; ⟨u, h1, h2, by omega⟩) (by omega)⟩
end
end WW


set_option maxHeartbeats 2000000

namespace WW
open PySem PySem.Spec PyProof.Rows L2
/-! what is closed is all that is reached -/
theorem run_snoc (A : List IRow) (l : Ltr) : ∀ (u : List Ltr) (i : Int), runR A i (u ++ [l]) = (runR A i u).bind fun j => stepR A j l
  | [], i => by
    show (stepR A i l).bind (fun j => some j) = stepR A i l
    cases stepR A i l <;> rfl
  | x :: u, i => by
    show (stepR A i x).bind (fun j => runR A j (u ++ [l])) = ((stepR A i x).bind fun j => runR A j u).bind _
    cases stepR A i x with
    | none => rfl
    | some j => exact run_snoc A l u j
theorem closed_run {A B : List IRow} {ps : List (Int × Int)} (h : ∀ p ∈ ps, Stays A B ps p) : ∀ (u : List Ltr) (p : Int × Int), p ∈ ps → ∀ i, runR A p.1 u = some i → ∃ j, runR B p.2 u = some j ∧ (i, j) ∈ ps
  | [], p, hp, i, e => by
    have : p.1 = i := Option.some.inj e
    exact ⟨p.2, rfl, by rw [← this]; exact hp⟩
  | l :: u, p, hp, i, e => by
    have e : (stepR A p.1 l).bind (fun j => runR A j u) = some i := e
    cases es : stepR A p.1 l with
    | none => rw [es] at e; cases e
    | some g =>
      rw [es] at e
      obtain ⟨f, hf, hm⟩ := h p hp l g es
      obtain ⟨j, h1, h2⟩ := closed_run h u (g, f) hm i e
      exact ⟨j, by show (stepR B p.2 l).bind _ = _; rw [hf]; exact h1, h2⟩
theorem closed_all {A B : List IRow} {ps : List (Int × Int)} (h0 : (0, 0) ∈ ps) (h : ∀ p ∈ ps, Stays A B ps p) (hr : ∀ p ∈ ps, Reach A B p) : (∀ u, ¬ Bad A B u) ∧ ∀ p, p ∈ ps ↔ Reach A B p := by
  refine ⟨fun u ⟨h1, h2⟩ => ?_, fun p => ⟨hr p, fun ⟨u, h1, h2⟩ => ?_⟩⟩
  · obtain ⟨i, hi⟩ := Option.isSome_iff_exists.mp h1
    obtain ⟨j, hj, _⟩ := closed_run h u (0, 0) h0 i hi
    rw [h2] at hj
    cases hj
  · obtain ⟨j, hj, hm⟩ := closed_run h u (0, 0) h0 p.1 h1
    rw [h2] at hj
    have : p.2 = j := Option.some.inj hj
    rw [← this] at hm
    exact hm
theorem reach_step {A B : List IRow} {p : Int × Int} {l : Ltr} {g f : Int} (h : Reach A B p) (h1 : stepR A p.1 l = some g) (h2 : stepR B p.2 l = some f) : Reach A B (g, f) := by
  obtain ⟨u, e1, e2⟩ := h
  exact ⟨u ++ [l], by rw [run_snoc, e1]; exact h1, by rw [run_snoc, e2]; exact h2⟩
theorem reach_bad {A B : List IRow} {p : Int × Int} {l : Ltr} {g : Int} (h : Reach A B p) (h1 : stepR A p.1 l = some g) (h2 : stepR B p.2 l = none) : ∃ u, Bad A B u := by
  obtain ⟨u, e1, e2⟩ := h
  refine ⟨u ++ [l], ?_, by rw [run_snoc, e2]; exact h2⟩
  rw [run_snoc, e1]
  show (stepR A p.1 l).isSome = true
  rw [h1]
  rfl
theorem reach_zero {A B : List IRow} : Reach A B (0, 0) := ⟨[], rfl, rfl⟩
theorem run_range {d : Nat} {A : List IRow} (ok : GoesOk d A) : ∀ (u : List Ltr) (i j : Int), 0 ≤ i → i < (A.length : Int) → runR A i u = some j → 0 ≤ j ∧ j < (A.length : Int)
  | [], i, j, h0, h1, e => by
    have : i = j := Option.some.inj e
    rw [← this]
    exact ⟨h0, h1⟩
  | l :: u, i, j, h0, h1, e => by
    have e : (stepR A i l).bind (fun j => runR A j u) = some j := e
    cases es : stepR A i l with
    | none => rw [es] at e; cases e
    | some g =>
      rw [es] at e
      have := ok.step h0 h1 es
      exact run_range ok u g j this.2.1 this.2.2 e
theorem reach_range {d : Nat} {A B : List IRow} (okA : GoesOk d A) (okB : GoesOk d B) {p : Int × Int} (h : Reach A B p) : 0 ≤ p.1 ∧ p.1 < (A.length : Int) ∧ 0 ≤ p.2 ∧ p.2 < (B.length : Int) := by
  obtain ⟨u, h1, h2⟩ := h
  have a := run_range okA u 0 p.1 (Int.le_refl _) (by have := okA.2.1; omega) h1
  have b := run_range okB u 0 p.2 (Int.le_refl _) (by have := okB.2.1; omega) h2
  exact ⟨a.1, a.2, b.1, b.2⟩
/-- the pairs in range are few -/
theorem pairs_few {n m : Nat} {ps : List (Int × Int)} (nd : ps.Nodup) (h : ∀ p ∈ ps, 0 ≤ p.1 ∧ p.1 < (n : Int) ∧ 0 ≤ p.2 ∧ p.2 < (m : Int)) : ps.length ≤ n * m := by
  have h2 : ∀ l : List Nat, (l.flatMap fun x : Nat => (List.range m).map fun y : Nat => (((x : Nat) : Int), ((y : Nat) : Int))).length = l.length * m := by
    intro l
    induction l with
    | nil => simp
    | cons x l ih =>
      rw [List.flatMap_cons, List.length_append, ih, List.length_map, List.length_range, List.length_cons, Nat.add_mul, Nat.one_mul, Nat.add_comm]
  obtain ⟨r, hr⟩ := nodup_sub (l2 := (List.range n).flatMap fun x : Nat => (List.range m).map fun y : Nat => (((x : Nat) : Int), ((y : Nat) : Int))) nd fun p hp => by
    obtain ⟨a, b, c, e⟩ := h p hp
    refine List.mem_flatMap.mpr ⟨p.1.toNat, List.mem_range.mpr (by omega), List.mem_map.mpr ⟨p.2.toNat, List.mem_range.mpr (by omega), ?_⟩⟩
    exact Prod.ext (show ((p.1.toNat : Nat) : Int) = p.1 by omega) (show ((p.2.toNat : Nat) : Int) = p.2 by omega)
  have := hr.length_eq
  rw [h2, List.length_range, List.length_append] at this
  omega
/-! goes[i] -/
section
variable {X : Cx} {e i : Expr} {te ti : TE} {pos : Pos}
def tGRow (P : Program) (w : World) (te ti : TE) : TE := fun σ H Q => te σ H fun x H1 => ∃ g rows H0, x = .ref g ∧ GoesA P w H0 g rows ∧ Same H0 H1 ∧ ti σ H1 fun y H2 => Same H1 H2 ∧ ∃ (n : Nat) (r : IRow), y = .int n ∧ rows[n]? = some r ∧ ∀ b, RowI P w H0 b r → Q (.ref b) H2
theorem pe_grow (he : PE X e te) (hi : PE X i ti) (hs : PlainIx i := by exact fun _ _ => rfl) : PE X (.Subscript e i pos) (tGRow X.prog X.w te ti) := by
  refine ⟨fun pins s σ H Q I h => ?_⟩
  refine Subscript_ (thn (he.run pins s σ H _ I h) fun u s1 ⟨x, H1, I1, rx, g, rows, H0, ex, ⟨L, hg, hL⟩, sm0, q1⟩ => ?_)
  subst ex
  refine thn (hi.run pins s1 σ H1 _ I1 q1) fun v s3 ⟨y, H2, I3, ry, sm, n, r, ey, hr, q2⟩ => ?_
  subst ey
  obtain ⟨b, hb2, hbr⟩ := paired_get2 hL hr
  exact ix_list _ _ pins s3 σ H2 (.ref g) (.int n) u v Q I3 rx ry ⟨g, _, _, .ref b, rfl, rfl, SqL.of (sm _ _ (sm0 _ _ hg)), atI_nat (j := n) (by rw [List.getElem?_map, hb2]; rfl), q2 b hbr⟩ (hs _ _)
end
section
variable {P : Program} {w : World} {K : PySem.W.Frag} {mg : Str → Option Value} {base : Heap}
abbrev sLPairs : Stmt := top 51
abbrev nLPairs : List Str := ["_law_mine", "_law_its", "_law_found", "_law_waiting", "_law_here", "_law_letter"]
theorem sc51 : FnScope nLPairs ["_law_mine", "_law_its"] (defScope sLPairs) := ⟨rfl, rfl, rfl, by decide +kernel, rfl, by decide +kernel, by decide +kernel⟩
abbrev PendI (H : Hp) : List Addr → List (Int × Int) → Prop := Paired fun b x => H b = some (.tup [.int x.1, .int x.2])
def spLPairs (P : Program) (w : World) : Sp := fun vs H Q _ => ∃ (g1 g2 : Addr) (d : Nat) (A B : List IRow), vs = [.ref g1, .ref g2] ∧ GoesA P w H g1 A ∧ GoesA P w H g2 B ∧ GoesOk d A ∧ GoesOk d B ∧ ∀ H' v, Same H H' → TableV H H' v A B → Q v H'
theorem ok_lpairs (B : Blt mg) (D : Dn K mg "_law_pairs" sLPairs ["_law_mine", "_law_its"]) : FnOk P w K mg base CX0 1 D.f D.fd ["_law_mine", "_law_its"] (spLPairs P w) := by
  refine D.F.ok sc51 (fun vs H Q E h => ?_) (fun cdv A outer s H vs Q E hr h => ?_)
  · obtain ⟨g1, g2, d, A, B, rfl, _⟩ := h
    rfl
  · obtain ⟨g1, g2, d, A, B', rfl, hg1, hg2, okA, okB, k⟩ := h
    refine ⟨_, pss_cons (ps_par (i := 2) (j := 3) rfl sc51.nd rfl rfl (by decide) rfl rfl (pa_cons pe_xnew (pa_cons (pe_lst (pa_cons (pe_tup (pa_cons pe_int (pa_cons pe_int pa_nil))) pa_nil)) pa_nil)) rfl)
      (pss_cons (ps_while PassesOwn.never (pt_cmpR (op_neE (u9 hr)) (pv 3) (pe_lst pa_nil) (nomark _))
        (pss_cons (ps_set (i := 4) sc51.nd rfl (.inl rfl) (pe_bm0 PySem.F.plainAttrs_list PySem.F.slot_list_pop PySem.F.type_list_pop mt_pop (pv 3)))
        (pss_one (ps_if (pt_cmp (pc_xnotin (u9 hr) (pv 4) (pv 2)))
          (pss_cons (ps_xput (u9 hr) (pv 2) (pv 4) pe_bl rfl)
          (pss_one (ps_for PassesOwn.never rfl (pi_xk (pe_grow (pv 0) (pe_ix ix_tup (pv 4) pe_int (fun _ _ => rfl)))) (pg_name (i := 5) sc51.nd rfl (.inl rfl))
            (pss_cons (ps_if (pt_cmp (pc_xnotin (u9 hr) (pv 5) (pe_grow (pv 1) (pe_ix ix_tup (pv 4) pe_int (fun _ _ => rfl))))) (pss_one (ps_ret pe_non)) pss_nil)
            (pss_one (ps_expr (pe_bm PySem.F.plainAttrs_list PySem.F.slot_list_append PySem.F.type_list_append mt_append (pv 3) (pa_cons (pe_tup (pa_cons (pe_xget (u9 hr) (pe_grow (pv 0) (pe_ix ix_tup (pv 4) pe_int (fun _ _ => rfl))) (pv 5) (fun _ _ => rfl))
              (pa_cons (pe_xget (u9 hr) (pe_grow (pv 1) (pe_ix ix_tup (pv 4) pe_int (fun _ _ => rfl))) (pv 5) (fun _ _ => rfl)) pa_nil))) pa_nil))))))) ) pss_nil))))
      (pss_one (ps_ret (pe_callB (call_srt rfl (u30 hr)) (by rfl) B.sorted (by decide +kernel) (pa_cons (pv 2) pa_nil))))), ?_⟩
    intro fd u0 hfd hx0
    refine ⟨le2, fun b0 hb0 => ⟨le1, fun wl hwl => ?_⟩⟩
    obtain ⟨H3, eH3⟩ : ∃ H3, upd (upd (upd H fd u0) b0 (.tup [.int 0, .int 0])) wl (.lst [.ref b0]) = H3 := ⟨_, rfl⟩
    have t1 := same_upd (o := .tup [.int 0, .int 0]) hb0
    have t2 := same_upd (o := .lst [.ref b0]) hwl
    rw [eH3] at t2
    have s13 := Same.trans t1 t2
    have sH3 : Same H H3 := Same.trans (same_upd hfd) s13
    have dx3 : DX P w .t H3 fd [] := (hx0 .t).same s13
    have hb3 : H3 b0 = some (.tup [.int 0, .int 0]) := t2 _ _ upd_same
    have hw3 : H3 wl = some (.lst [.ref b0]) := by rw [← eH3]; exact upd_same
    have nwl : H wl = none := Same.free (Same.trans (same_upd hfd) t1) hwl
    obtain ⟨M, hM⟩ : ∃ M, A.length * B'.length = M := ⟨_, rfl⟩
    have M3600 : M ≤ 3600 := by
      rw [← hM]
      exact Nat.le_trans (Nat.mul_le_mul okA.2.2 okB.2.2) (by decide)
    have prange : ∀ {ps : List (Int × Int)}, ps.Nodup → (∀ p ∈ ps, Reach A B' p) → ps.length ≤ M := fun nd hr => by
      rw [← hM]
      exact pairs_few nd fun p hp => reach_range okA okB (hr p hp)
    obtain ⟨Inv0, hInv⟩ : ∃ Inv0 : List (Int × Int) → List (Int × Int) → (Option V → Option V → L2.St → Prop) → L2.St → Hp → Prop, Inv0 = fun ps xs F σ H' => ∃ kvs bs x4 x5, σ = [some (.ref g1), some (.ref g2), some (.ref fd), some (.ref wl), x4, x5] ∧ F x4 x5 σ ∧ Same H H' ∧ DX P w .t H' fd kvs ∧
      kvs.map (·.1) = ps.map pkI ∧ H' wl = some (.lst (bs.map V.ref)) ∧ PendI H' bs xs ∧ ps.Nodup ∧ (∀ p ∈ ps, Reach A B' p) ∧ (∀ p ∈ xs, Reach A B' p) ∧ ((0, 0) ∈ ps ∨ (0, 0) ∈ xs) ∧ xs.length ≤ 1 + 16 * ps.length := ⟨_, rfl⟩
    refine ⟨_, _, rfl, ?_⟩
    refine ⟨fun m σ H' => ∃ ps xs, Inv0 ps xs (fun _ _ _ => True) σ H' ∧ (∀ p ∈ ps, ∀ l g, stepR A p.1 l = some g → ∃ f, stepR B' p.2 l = some f ∧ ((g, f) ∈ ps ∨ (g, f) ∈ xs)) ∧ 17 * (M - ps.length) + xs.length = m, ⟨_, [], [(0, 0)], ?_, fun _ h => (nomatch h), rfl⟩, fun m σ H' hW => ?_⟩
    · rw [hInv]
      show ∃ kvs bs x4 x5, _ = _ ∧ True ∧ Same H (upd (upd (upd H fd u0) b0 _) wl _) ∧ _
      rw [eH3]
      refine ⟨[], [b0], none, none, rfl, trivial, sH3, dx3, rfl, hw3, .cons hb3 .nil, List.nodup_nil, fun _ h => (nomatch h), fun p hp => ?_, .inr List.mem_cons_self, by decide⟩
      rw [List.mem_singleton.mp hp]
      exact reach_zero
    obtain ⟨ps, xs, hI, cl, hm⟩ := hW
    rw [hInv] at hI
    obtain ⟨kvs, bs, x4, x5, rfl, _, s1, dx, ek, hwl', hbs, nd, rp, rx, h00, hlen⟩ := hI
    have few : ps.length ≤ M := prange nd rp
    refine ⟨_, rfl, Nat.zero_le _, fun e0 he0 => ?_⟩
    have se := same_upd (o := .lst []) he0
    refine ⟨wl, e0, _, rfl, rfl, se _ _ hwl', upd_same, _, rfl, ?_⟩
    rcases List.eq_nil_or_concat xs with rfl | ⟨xs, x, ex⟩
    · cases hbs
      refine no ?_
      have cl2 := closed_all (h00.elim id fun z => nomatch z) (fun p hp l g h => by
        obtain ⟨f, h1, h2⟩ := cl p hp l g h
        exact ⟨f, h1, h2.elim id fun z => nomatch z⟩) rp
      refine ⟨_, rfl, fd, kvs.map (·.1), rfl, .inl ⟨kvs, dx.same se, rfl⟩, ?_, fun l ys ks' hl perm pw py => ?_⟩
      · have e : kvs.map (·.1) = (ps.map fun p => [p.1, p.2]).map lk := by rw [ek, List.map_map]; rfl
        rw [e]
        refine sortOk_len (d := 2) (fun l hl => ?_) (nodup_map_inj (fun a b e => ?_) nd)
        · obtain ⟨p, _, rfl⟩ := List.mem_map.mp hl
          rfl
        · injection e with e1 e2
          injection e2 with e2 _
          exact Prod.ext e1 e2
      · obtain ⟨ps', pp, ekp⟩ := perm_map (f := pkI) perm ps ek
        rw [ekp] at py pw
        obtain ⟨bs, rfl, hbs⟩ := pairs_of_keys py
        rw [List.pairwise_map] at pw
        have s2 := Same.trans s1 se
        exact k _ _ (Same.trans s2 (same_upd hl)) (.inr ⟨l, ps', rfl, Same.free s2 hl, ⟨bs, upd_same, Paired.mapP hbs fun _ _ x => same_upd hl _ _ x⟩, pw, pp.nodup_iff.mpr nd, cl2.1, fun p => pp.mem_iff.trans (cl2.2 p)⟩)
    · rw [List.concat_eq_append] at ex
      subst ex
      obtain ⟨bs, b, rfl, hbs, hbx⟩ := paired_last hbs
      rw [show (!((bs ++ [b]).map V.ref).isEmpty) = true by simp]
      refine ys ⟨fun σ' H2 => ∃ ps' xs', Inv0 ps' xs' (fun _ _ _ => True) σ' H2 ∧ (∀ p ∈ ps', ∀ l g, stepR A p.1 l = some g → ∃ f, stepR B' p.2 l = some f ∧ ((g, f) ∈ ps' ∨ (g, f) ∈ xs')) ∧ 17 * (M - ps'.length) + xs'.length < m, fun σ' H2 ⟨ps', xs', h1, h2, h3⟩ => ⟨_, h3, ps', xs', h1, h2, rfl⟩, ?_⟩
      have hf0 := dx.ext
      have rx0 := rx x (by simp)
      obtain ⟨i0, i1, j0, j1⟩ := reach_range okA okB rx0
      refine ⟨_, rfl, .inl ⟨rfl, _, SqL.of (se _ _ hwl')⟩, wl, _, .ref b, rfl, rfl, se _ _ hwl', by simp, ?_⟩
      have tw : Two fd wl H' (upd (upd H' e0 (.lst [])) wl (.lst ((bs ++ [b]).map V.ref).dropLast)) := (Two.of_same se).trans Two.wl
      have ew : (upd (upd H' e0 (.lst [])) wl (.lst ((bs ++ [b]).map V.ref).dropLast)) wl = some (.lst (bs.map V.ref)) := by
        rw [upd_same]
        simp
      have s4 : Same H (upd (upd H' e0 (.lst [])) wl (.lst ((bs ++ [b]).map V.ref).dropLast)) := Same.put (Same.trans s1 se) nwl
      obtain ⟨H4, eH4⟩ : ∃ H4, upd (upd H' e0 (.lst [])) wl (.lst ((bs ++ [b]).map V.ref).dropLast) = H4 := ⟨_, rfl⟩
      rw [eH4] at tw ew s4 ⊢
      have nfw : fd ≠ wl := fun e => by
        obtain ⟨φ, h⟩ := hf0
        rw [e, hwl'] at h
        cases h
      have tu := tw.tups hf0 hwl'
      have dx4 : DX P w .t H4 fd kvs := dx.mono tu fun o e => by
        rw [← eH4, upd_ne nfw]
        exact se _ _ e
      have hb4 := tu _ _ hbx
      have ky : KeyV .t H4 (pkI x) (.ref b) := keyV_lk.mpr ⟨b, rfl, hb4⟩
      have pend4 : PendI H4 bs xs := Paired.mapP hbs fun _ _ e => tu _ _ e
      have lxs : xs.length + 1 = (xs ++ [x]).length := by simp
      refine ⟨_, rfl, _, rfl, fd, .t, kvs, pkI x, rfl, dx4, ky, _, rfl, ?_⟩
      rw [has_keys ek]
      by_cases hx : x ∈ ps
      · rw [decide_eq_true hx]
        refine no ⟨ps, xs, ?_, fun p hp l g h => ?_, by omega⟩
        · rw [hInv]
          refine ⟨kvs, bs, _, _, rfl, trivial, s4, dx4, ek, ew, pend4, nd, rp, fun y hy => rx y (by simp [hy]), ?_, by omega⟩
          rcases h00 with h | h
          · exact .inl h
          · rcases List.mem_append.mp h with h | h
            · exact .inr h
            · rw [List.mem_singleton.mp h]
              exact .inl hx
        · obtain ⟨f, h1, h2⟩ := cl p hp l g h
          refine ⟨f, h1, ?_⟩
          rcases h2 with h | h
          · exact .inl h
          · rcases List.mem_append.mp h with h | h
            · exact .inr h
            · rw [List.mem_singleton.mp h]
              exact .inl hx
      · rw [decide_eq_false hx]
        refine ys ?_
        have lkv : kvs.length = ps.length := by
          have := congrArg List.length ek
          simpa using this
        refine ⟨_, rfl, _, rfl, fd, .t, kvs, pkI x, rfl, dx4, ky, small_of (by omega), fun u hx2 => ?_⟩
        have v0 : valV kvs (pkI x) = none := by
          have := has_keys ek x
          rw [decide_eq_false hx] at this
          cases e : valV kvs (pkI x) with
          | none => rfl
          | some y => rw [e] at this; cases this
        rw [putK_new _ v0] at hx2
        have s5 : Same H (upd H4 fd u) := Same.put s4 hfd
        have w5 : (upd H4 fd u) wl = some (.lst (bs.map V.ref)) := by rw [upd_ne nfw.symm]; exact ew
        have tu5 : Tups H4 (upd H4 fd u) := (Two.fd (wl := wl)).tups dx4.ext ew
        have hb5 := tu5 _ _ hb4
        have pend5 : PendI (upd H4 fd u) bs xs := Paired.mapP pend4 fun _ _ e => tu5 _ _ e
        obtain ⟨H5, eH5⟩ : ∃ H5, upd H4 fd u = H5 := ⟨_, rfl⟩
        rw [eH5] at hx2 s5 w5 hb5 pend5 ⊢
        have nd5 : (ps ++ [x]).Nodup := by
          rw [List.nodup_append]
          refine ⟨nd, by simp, fun y hy z hz => ?_⟩
          rw [List.mem_singleton.mp hz]
          rintro rfl
          exact hx hy
        have rp5 : ∀ p ∈ ps ++ [x], Reach A B' p := fun p hp => by
          rcases List.mem_append.mp hp with h | h
          · exact rp p h
          · rw [List.mem_singleton.mp h]
            exact rx0
        have few5 := prange nd5 rp5
        have l5 : (ps ++ [x]).length = ps.length + 1 := by simp
        obtain ⟨ni, eni, hni⟩ := rowAt_some i0 i1
        obtain ⟨nj, enj, hnj⟩ := rowAt_some j0 j1
        obtain ⟨o1, o2, o3, o4⟩ := okA.row i0 i1
        refine ⟨_, rfl, g1, A, H, rfl, hg1, s5, _, rfl, b, _, 0, .int x.1, rfl, rfl, .inl (.inl hb5), rfl, fun _ _ e => e, ni, _, by rw [eni], hni, fun rb hrb => ?_⟩
        have hrb : DX P w .t H rb (rowKv (rowAt A x.1)) := hrb
        obtain ⟨o, d1⟩ := hrb.one
        refine ⟨rb, .t, o, _, rfl, d1.same s5, for_it (n := (rowAt A x.1).length) (fun m σ H' => ∃ xs', Inv0 (ps ++ [x]) xs' (fun x4 _ _ => x4 = some (.ref b)) σ H' ∧ H' b = some (.tup [.int x.1, .int x.2]) ∧
            (∀ p ∈ ps, ∀ l g, stepR A p.1 l = some g → ∃ f, stepR B' p.2 l = some f ∧ ((g, f) ∈ ps ++ [x] ∨ (g, f) ∈ xs')) ∧ (∀ pl ∈ (rowAt A x.1).take m, ∃ f, stepR B' x.2 pl.1 = some f ∧ (pl.2, f) ∈ xs') ∧ xs'.length ≤ xs.length + m) ?_ (fun m σ H' hm pv => ?_) (fun σ H' pv => ?_) (fun m σ H' y H2 hm pv yy => ?_) fun σ H' pv => ?_⟩
        · refine ⟨xs, ?_, hb5, fun p hp l g h => ?_, fun _ h => (nomatch h), Nat.le_refl _⟩
          · rw [hInv]
            refine ⟨_, bs, _, x5, rfl, rfl, s5, hx2, by rw [List.map_append, List.map_append, ek]; rfl, w5, pend5, nd5, rp5, fun y hy => rx y (by simp [hy]), ?_, by omega⟩
            rcases h00 with h | h
            · exact .inl (by simp [h])
            · rcases List.mem_append.mp h with h | h
              · exact .inr h
              · rw [List.mem_singleton.mp h]
                exact .inl (by simp)
          · obtain ⟨f, h1, h2⟩ := cl p hp l g h
            refine ⟨f, h1, ?_⟩
            rcases h2 with h | h
            · exact .inl (by simp [h])
            · rcases List.mem_append.mp h with h | h
              · exact .inr h
              · rw [List.mem_singleton.mp h]
                exact .inl (by simp)
        · obtain ⟨xs', hI, _⟩ := pv
          rw [hInv] at hI
          obtain ⟨_, _, _, _, _, _, s6, _⟩ := hI
          exact ⟨d1.same s6, by rw [rowKv_len]; exact hm⟩
        · obtain ⟨xs', hI, _⟩ := pv
          rw [hInv] at hI
          obtain ⟨_, _, _, _, _, _, s6, _⟩ := hI
          exact ⟨d1.same s6, by rw [rowKv_len]; exact Nat.le_refl _⟩
        · obtain ⟨rfl, k0, v0, hk0, ky0⟩ := yy
          obtain ⟨pl, hpl, rfl, rfl⟩ := rowKv_get hk0
          obtain ⟨c0, rfl, hc0⟩ := keyV_lk.mp ky0
          obtain ⟨xs', hI, hb6, cl6, row6, len6⟩ := pv
          rw [hInv] at hI
          obtain ⟨kvs6, bs6, y4, y5, rfl, rfl, s6, dx6, ek6, w6, pend6, _, _, rx6, h06, hlen6⟩ := hI
          have mem : pl ∈ rowAt A x.1 := List.mem_of_getElem? hpl
          have st1 : stepR A x.1 pl.1 = some pl.2 := at1_mem o2 mem
          refine ⟨_, rfl, _, rfl, g2, B', H, rfl, hg2, s6, _, rfl, b, _, 1, .int x.2, rfl, rfl, .inl (.inl hb6), rfl, fun _ _ e => e, nj, _, by rw [enj], hnj, fun rc hrc => ?_⟩
          have hrc : DX P w .t H rc (rowKv (rowAt B' x.2)) := hrc
          refine ⟨rc, .t, _, lk pl.1, rfl, hrc.same s6, ky0, _, rfl, ?_⟩
          rw [rowKv_val, Option.isSome_map]
          cases es : at1 (rowAt B' x.2) pl.1 with
          | none =>
            have es : stepR B' x.2 pl.1 = none := es
            exact ys (k _ _ s6 (.inl ⟨rfl, reach_bad rx0 st1 es⟩))
          | some f =>
            have es : stepR B' x.2 pl.1 = some f := es
            refine no ?_
            refine ⟨_, rfl, .inl ⟨rfl, _, SqL.of w6⟩, ?_⟩
            refine ⟨_, rfl, g1, A, H, rfl, hg1, s6, _, rfl, b, _, 0, .int x.1, rfl, rfl, .inl (.inl hb6), rfl, fun _ _ e => e, ni, _, by rw [eni], hni, fun rd hrd => ?_⟩
            have hrd : DX P w .t H rd (rowKv (rowAt A x.1)) := hrd
            refine ⟨_, rfl, rd, .t, _, lk pl.1, .int pl.2, rfl, hrd.same s6, ky0, (by rw [rowKv_val, show at1 (rowAt A x.1) pl.1 = some pl.2 from st1]; rfl), ?_⟩
            refine ⟨_, rfl, g2, B', H, rfl, hg2, s6, _, rfl, b, _, 1, .int x.2, rfl, rfl, .inl (.inl hb6), rfl, fun _ _ e => e, nj, _, by rw [enj], hnj, fun rc2 hrc2 => ?_⟩
            have hrc2 : DX P w .t H rc2 (rowKv (rowAt B' x.2)) := hrc2
            refine ⟨_, rfl, rc2, .t, _, lk pl.1, .int f, rfl, hrc2.same s6, ky0, (by rw [rowKv_val, show at1 (rowAt B' x.2) pl.1 = some f from es]; rfl), le2, fun pr hpr => ?_⟩
            have sp := same_upd (o := .tup [.int pl.2, .int f]) hpr
            have lb6 : bs6.length = xs'.length := Paired.length pend6
            have w7 := sp _ _ w6
            refine ⟨wl, _, _, rfl, rfl, w7, by rw [List.length_map]; exact small_of (by omega), ?_⟩
            have tw8 : Two fd wl H2 (upd (upd H2 pr (.tup [.int pl.2, .int f])) wl (.lst (bs6.map V.ref ++ [.ref pr]))) := (Two.of_same sp).trans Two.wl
            have tu8 := tw8.tups dx6.ext w6
            have npw : pr ≠ wl := fun e => by
              rw [e, w6] at hpr
              cases hpr
            refine ⟨xs' ++ [(pl.2, f)], ?_, tu8 _ _ hb6, fun p hp l g h => ?_, fun q hq => ?_, by rw [List.length_append, List.length_singleton]; omega⟩
            · rw [hInv]
              refine ⟨kvs6, bs6 ++ [pr], _, _, rfl, rfl, Same.put (Same.trans s6 sp) nwl, ?_, ek6, by rw [upd_same, List.map_append]; rfl, ?_, nd5, rp5, fun y hy => ?_, ?_, ?_⟩
              · refine dx6.mono tu8 fun o e => ?_
                rw [upd_ne nfw]
                exact sp _ _ e
              · exact Paired.snoc (Paired.mapP pend6 fun _ _ e => tu8 _ _ e) (by show (upd (upd H2 pr _) wl _) pr = _; rw [upd_ne npw]; exact upd_same)
              · rcases List.mem_append.mp hy with h | h
                · exact rx6 y h
                · rw [List.mem_singleton.mp h]
                  exact reach_step rx0 st1 es
              · rcases h06 with h | h
                · exact .inl h
                · exact .inr (by simp [h])
              · rw [List.length_append, List.length_singleton]
                omega
            · obtain ⟨f', h1, h2⟩ := cl6 p hp l g h
              refine ⟨f', h1, ?_⟩
              rcases h2 with h | h
              · exact .inl h
              · exact .inr (by simp [h])
            · rw [List.take_add_one, hpl] at hq
              rcases List.mem_append.mp hq with h | h
              · obtain ⟨f', h1, h2⟩ := row6 q h
                exact ⟨f', h1, by simp [h2]⟩
              · have : q = pl := by simpa using h
                rw [this]
                exact ⟨f, es, by simp⟩
        · obtain ⟨xs', hI, hb6, cl6, row6, len6⟩ := pv
          refine ⟨ps ++ [x], xs', ?_, fun p hp l g h => ?_, by omega⟩
          · rw [hInv] at hI ⊢
            obtain ⟨kvs6, bs6, y4, y5, e1, e2, e3⟩ := hI
            exact ⟨kvs6, bs6, y4, y5, e1, trivial, e3⟩
          · rcases List.mem_append.mp hp with hp | hp
            · exact cl6 p hp l g h
            · rw [List.mem_singleton.mp hp] at h ⊢
              rw [List.take_length] at row6
              obtain ⟨f, h1, h2⟩ := row6 (l, g) (at1_some h)
              exact ⟨f, h1, .inr h2⟩
end
end WW


set_option maxHeartbeats 2000000

namespace WW
open PySem PySem.Spec PyProof.Rows L2
instance decLlt (a b : Ltr) : Decidable (llt a b) := inferInstanceAs (Decidable (keyLe (lk a) (lk b) = true ∧ a ≠ b))
theorem letters_sorted {d : Nat} (h : d ≤ 2) : (letters d).Pairwise llt := by
  match d, h with
  | 0, _ => decide +kernel
  | 1, _ => decide +kernel
  | 2, _ => decide +kernel
theorem letters_before {d : Nat} (h : d ≤ 2) {m : Nat} {l : Ltr} (hl : (letters d)[m]? = some l) : ∀ x, x ∈ (letters d).take m → llt x l := by
  intro x hx
  obtain ⟨i, hi, e⟩ := List.getElem_of_mem hx
  rw [List.length_take] at hi
  rw [List.getElem_take] at e
  obtain ⟨hm, em⟩ := List.getElem?_eq_some_iff.mp hl
  have := List.pairwise_iff_getElem.mp (letters_sorted h) i m (by omega) hm (by omega)
  rw [e, em] at this
  exact this
theorem letters_after {d : Nat} (h : d ≤ 2) {m : Nat} {l : Ltr} (hl : (letters d)[m]? = some l) : ∀ x, x ∈ letters d → x ∉ (letters d).take m → llt l x ∨ x = l := by
  intro x hx hn
  obtain ⟨i, hi, e⟩ := List.getElem_of_mem hx
  obtain ⟨hm, em⟩ := List.getElem?_eq_some_iff.mp hl
  by_cases h1 : i < m
  · exact absurd (List.mem_iff_getElem.mpr ⟨i, by rw [List.length_take]; omega, by rw [List.getElem_take]; exact e⟩) hn
  · by_cases h3 : i = m
    · subst h3
      right
      rw [← e, ← em]
    · left
      have := List.pairwise_iff_getElem.mp (letters_sorted h) m i hm hi (by omega)
      rw [e, em] at this
      exact this
theorem take_snoc1 {α : Type} {r : List α} {m : Nat} {p : α} (hp : r[m]? = some p) (x : α) : x ∈ r.take (m + 1) ↔ x ∈ r.take m ∨ x = p := by
  have := take_snoc (f := id) hp x
  simpa using this
section
variable {P : Program} {w : World} {K : PySem.W.Frag} {mg : Str → Option Value} {base : Heap}
/-- an entry of a level, kept apart from the list at la -/
def EntA (H : Hp) (la : Addr) (t : Addr) (e : Ent) : Prop := ∃ a, a ≠ la ∧ H t = some (.tup [.ref a, .int e.2.1, .int e.2.2]) ∧ WordA H a e.1
theorem EntA.same {H H' : Hp} {la t : Addr} {e : Ent} (h : EntA H la t e) (s : Same H H') : EntA H' la t e := let ⟨a, n, h1, h2⟩ := h; ⟨a, n, s _ _ h1, h2.same s⟩
theorem EntA.two {H H' : Hp} {sd la t : Addr} {e : Ent} (h : EntA H la t e) (s : Two sd la H H') (hf : ∃ φ, H sd = some (.ext φ)) {xs : List V} (hw : H la = some (.lst xs)) : EntA H' la t e := by
  obtain ⟨a, n, h1, bs, h2, h3⟩ := h
  have tu := s.tups hf hw
  refine ⟨a, n, tu _ _ h1, bs, s _ _ (fun q => ?_) n h2, Paired.mapP h3 fun _ _ e => tu _ _ e⟩
  obtain ⟨φ, hf⟩ := hf
  rw [← q, h2] at hf
  cases hf
theorem EntA.fresh {H : Hp} {lv la t : Addr} {e : Ent} (h : EntA H lv t e) {o : HO} (ha : H la = none) : EntA (upd H la o) la t e := by
  obtain ⟨a, n, h1, h2⟩ := h
  have s := same_upd (o := o) ha
  refine ⟨a, fun q => ?_, s _ _ h1, h2.same s⟩
  obtain ⟨bs, h2, _⟩ := h2
  rw [q, ha] at h2
  cases h2
structure AL (P : Program) (w : World) (H H' : Hp) (sd lv la : Addr) (sn : List (Int × Int)) (lev lat : List Ent) (ts us : List Addr) : Prop where
  sm : Same H H'
  sd0 : H sd = none
  la0 : H la = none
  dx : ∃ kvs, DX P w .t H' sd kvs ∧ kvs.map (·.1) = sn.map pkI
  hl : H' lv = some (.lst (ts.map V.ref))
  ha : H' la = some (.lst (us.map V.ref))
  ne : lv ≠ la
  pl : Paired (EntA H' la) ts lev
  pu : Paired (EntA H' la) us lat
section
variable {H H' H2 : Hp} {sd lv la : Addr} {sn : List (Int × Int)} {lev lat : List Ent} {ts us : List Addr}
theorem AL.ext (h : AL P w H H' sd lv la sn lev lat ts us) : ∃ φ, H' sd = some (.ext φ) := let ⟨_, d, _⟩ := h.dx; d.ext
theorem AL.same (h : AL P w H H' sd lv la sn lev lat ts us) (s : Same H' H2) : AL P w H H2 sd lv la sn lev lat ts us :=
  ⟨Same.trans h.sm s, h.sd0, h.la0, let ⟨k, d, e⟩ := h.dx; ⟨k, d.same s, e⟩, s _ _ h.hl, s _ _ h.ha, h.ne, Paired.mapP h.pl fun _ _ x => x.same s, Paired.mapP h.pu fun _ _ x => x.same s⟩
theorem AL.nsl (h : AL P w H H' sd lv la sn lev lat ts us) : sd ≠ la := fun e => by
  obtain ⟨φ, q⟩ := h.ext
  rw [e, h.ha] at q
  cases q
theorem AL.nsv (h : AL P w H H' sd lv la sn lev lat ts us) : lv ≠ sd := fun e => by
  obtain ⟨φ, q⟩ := h.ext
  rw [← e, h.hl] at q
  cases q
theorem AL.put (h : AL P w H H' sd lv la sn lev lat ts us) {kvs : List (NestedKey × V)} {v : V} {p : Int × Int} {u : HO} (ek : kvs.map (·.1) = sn.map pkI) (hx : DX P w .t (upd H' sd u) sd (kvs ++ [(pkI p, v)])) : AL P w H (upd H' sd u) sd lv la (sn ++ [p]) lev lat ts us := by
  have tw : Two sd la H' (upd H' sd u) := Two.fd
  refine ⟨Same.put h.sm h.sd0, h.sd0, h.la0, ⟨_, hx, by rw [List.map_append, List.map_append, ek]; rfl⟩, tw _ _ h.nsv h.ne h.hl, by rw [upd_ne h.nsl.symm]; exact h.ha, h.ne, Paired.mapP h.pl fun _ _ x => x.two tw h.ext h.ha, Paired.mapP h.pu fun _ _ x => x.two tw h.ext h.ha⟩
theorem AL.app (h : AL P w H H' sd lv la sn lev lat ts us) {t : Addr} {e : Ent} (ht : EntA H' la t e) : AL P w H (upd H' la (.lst (us.map V.ref ++ [.ref t]))) sd lv la sn lev (lat ++ [e]) ts (us ++ [t]) := by
  have tw : Two sd la H' (upd H' la (.lst (us.map V.ref ++ [.ref t]))) := Two.wl
  obtain ⟨kvs, d, ek⟩ := h.dx
  refine ⟨Same.put h.sm h.la0, h.sd0, h.la0, ⟨kvs, d.mono (tw.tups h.ext h.ha) (fun o q => by rw [upd_ne h.nsl]; exact q), ek⟩, tw _ _ h.nsv h.ne h.hl, by rw [upd_same, List.map_append]; rfl, h.ne, Paired.mapP h.pl fun _ _ x => x.two tw h.ext h.ha, Paired.snoc (Paired.mapP h.pu fun _ _ x => x.two tw h.ext h.ha) (ht.two tw h.ext h.ha)⟩
end
theorem WordA.two {H H' : Hp} {sd la a : Addr} {u : List Ltr} (h : WordA H a u) (n : a ≠ la) (s : Two sd la H H') (hf : ∃ φ, H sd = some (.ext φ)) {xs : List V} (hw : H la = some (.lst xs)) : WordA H' a u := by
  obtain ⟨bs, h2, h3⟩ := h
  have tu := s.tups hf hw
  refine ⟨bs, s _ _ (fun q => ?_) n h2, Paired.mapP h3 fun _ _ e => tu _ _ e⟩
  obtain ⟨φ, hf⟩ := hf
  rw [← q, h2] at hf
  cases hf
theorem LettersA.two {H H' : Hp} {sd la a : Addr} {u : List Ltr} (h : LettersA H a u) (n : a ≠ la) (s : Two sd la H H') (hf : ∃ φ, H sd = some (.ext φ)) {xs : List V} (hw : H la = some (.lst xs)) : LettersA H' a u := WordA.two h n s hf hw
theorem lev_at {pre lev lat : List Ent} {j : Nat} {e : Ent} (h : lev[j]? = some e) : (pre ++ lev ++ lat)[pre.length + j]? = some e := by
  have hj : j < lev.length := (List.getElem?_eq_some_iff.mp h).1
  rw [List.getElem?_append_left (by rw [List.length_append]; omega), List.getElem?_append_right (by omega), show pre.length + j - pre.length = j by omega]
  exact h
abbrev sAlone : Stmt := top 52
abbrev nAlone : List Str := ["_law_mine", "_law_its", "_law_width", "_law_seen", "_law_level", "_law_later", "_law_word", "_law_near", "_law_far", "_law_letter", "_law_goal"]
theorem sc52 : FnScope nAlone ["_law_mine", "_law_its", "_law_width"] (defScope sAlone) := ⟨rfl, rfl, rfl, by decide +kernel, rfl, by decide +kernel, by decide +kernel⟩
def spAlone (P : Program) (w : World) : Sp := fun vs H Q _ => ∃ (g1 g2 : Addr) (d : Nat) (A B : List IRow), vs = [.ref g1, .ref g2, .int d] ∧ GoesA P w H g1 A ∧ GoesA P w H g2 B ∧ GoesOk d A ∧ GoesOk d B ∧ d ≤ 2 ∧ ∀ H' v, Same H H' → AloneV H H' v A B → Q v H'
theorem ok_alone (B : Blt mg) (D1 : Dn K mg "_law_letters" sLetters ["_law_width"]) (G1 : FnOk P w K mg base CX0 1 D1.f D1.fd ["_law_width"] spLetters) (D : Dn K mg "_law_alone" sAlone ["_law_mine", "_law_its", "_law_width"]) :
    FnOk P w K mg base CX0 2 D.f D.fd ["_law_mine", "_law_its", "_law_width"] (spAlone P w) := by
  refine D.F.ok sc52 (fun vs H Q E h => ?_) (fun cdv A outer s H vs Q E hr h => ?_)
  · obtain ⟨g1, g2, d, A, B, rfl, _⟩ := h
    rfl
  · obtain ⟨g1, g2, d, A, B', rfl, hg1, hg2, okA, okB, hd, k⟩ := h
    refine ⟨_, pss_cons (ps_par (i := 3) (j := 4) rfl sc52.nd rfl rfl (by decide) rfl rfl (pa_cons (pe_xdisp (u9 hr) (pe_tup (pa_cons pe_int (pa_cons pe_int pa_nil))) pe_bl)
        (pa_cons (pe_lst (pa_cons (pe_tup (pa_cons (pe_lst pa_nil) (pa_cons pe_int (pa_cons pe_int pa_nil)))) pa_nil)) pa_nil)) rfl)
      (pss_cons (ps_while PassesOwn.never (pt_cmpR (op_neE (u9 hr)) (pv 4) (pe_lst pa_nil) (nomark _))
        (pss_cons (ps_set (i := 5) sc52.nd rfl (.inl rfl) (pe_lst pa_nil))
        (pss_cons (ps_for PassesOwn.never rfl (pi_list (pv 4)) (pg_tup rfl (pgs_cons (pg_name (i := 6) sc52.nd rfl (.inl rfl)) (pgs_cons (pg_name (i := 7) sc52.nd rfl (.inl rfl)) (pgs_cons (pg_name (i := 8) sc52.nd rfl (.inl rfl)) pgs_nil))))
          (pss_one (ps_for PassesOwn.never rfl (pi_list (pe_call G1 hr (by rfl) D1.g D1.F.kp D1.b .nil pass0 (pa_cons (pv 2) pa_nil))) (pg_name (i := 9) sc52.nd rfl (.inl rfl))
            (pss_one (ps_if (pt_cmp (pc_xin (u9 hr) (pv 9) (pe_grow (pv 0) (pv 7) (fun _ _ => rfl))))
              (pss_cons (ps_if (pt_cmp (pc_xnotin (u9 hr) (pv 9) (pe_grow (pv 1) (pv 8) (fun _ _ => rfl)))) (pss_one (ps_ret (pe_op op_cat (pv 6) (pe_lst (pa_cons (pv 9) pa_nil))))) pss_nil)
              (pss_cons (ps_set (i := 10) sc52.nd rfl (.inl rfl) (pe_tup (pa_cons (pe_xget (u9 hr) (pe_grow (pv 0) (pv 7) (fun _ _ => rfl)) (pv 9) (fun _ _ => rfl)) (pa_cons (pe_xget (u9 hr) (pe_grow (pv 1) (pv 8) (fun _ _ => rfl)) (pv 9) (fun _ _ => rfl)) pa_nil))))
              (pss_one (ps_if (pt_cmp (pc_xnotin (u9 hr) (pv 10) (pv 3)))
                (pss_cons (ps_xput (u9 hr) (pv 3) (pv 10) pe_bl rfl)
                (pss_one (ps_expr (pe_bm PySem.F.plainAttrs_list PySem.F.slot_list_append PySem.F.type_list_append mt_append (pv 5) (pa_cons (pe_tup (pa_cons (pe_op op_cat (pv 6) (pe_lst (pa_cons (pv 9) pa_nil)))
                  (pa_cons (pe_ix ix_tup (pv 10) pe_int (fun _ _ => rfl)) (pa_cons (pe_ix ix_tup (pv 10) pe_int (fun _ _ => rfl)) pa_nil)))) pa_nil))))) pss_nil)))) pss_nil)))))
        (pss_one (ps_set (i := 4) sc52.nd rfl (.inl rfl) (pv 5))))))
      (pss_one (ps_ret pe_non))), ?_⟩
    intro sd u0 hsd hx0
    refine ⟨le2, fun k0 hk0 => ?_⟩
    have s1 := same_upd (o := .tup [.int 0, .int 0]) hk0
    obtain ⟨H1, e1⟩ : ∃ H1, upd (upd H sd u0) k0 (.tup [.int 0, .int 0]) = H1 := ⟨_, rfl⟩
    rw [e1] at s1
    have k01 : H1 k0 = some (.tup [.int 0, .int 0]) := by rw [← e1]; exact upd_same
    show ∃ kd k, _
    rw [e1]
    refine ⟨.t, pkI (0, 0), keyV_lk.mpr ⟨k0, rfl, k01⟩, (hx0 .t).same s1, fun u hx1 => ?_⟩
    have hx1 : DX P w .t (upd H1 sd u) sd [(pkI (0, 0), .bl true)] := hx1
    have sH1 : Same H H1 := Same.trans (same_upd hsd) s1
    have sH2 : Same H (upd H1 sd u) := Same.put sH1 hsd
    obtain ⟨H2, e2⟩ : ∃ H2, upd H1 sd u = H2 := ⟨_, rfl⟩
    rw [e2] at hx1 sH2
    refine ⟨Nat.zero_le _, fun a0 ha0 => ⟨le3, fun t0 ht0 => ⟨le1, fun lv hlv => ?_⟩⟩⟩
    have ha0 : H2 a0 = none := by rw [← e2]; exact ha0
    have ht0 : (upd H2 a0 (.lst [])) t0 = none := by rw [← e2]; exact ht0
    have hlv : (upd (upd H2 a0 (.lst [])) t0 (.tup [.ref a0, .int 0, .int 0])) lv = none := by rw [← e2]; exact hlv
    have t1 := same_upd (o := .lst []) ha0
    have t2 := same_upd (o := .tup [.ref a0, .int 0, .int 0]) ht0
    have t3 := same_upd (o := .lst [.ref t0]) hlv
    have t23 := Same.trans t2 t3
    have t13 := Same.trans t1 t23
    refine ⟨_, _, rfl, ?_⟩
    show ∃ W : Nat → L2.St → Hp → Prop, _
    obtain ⟨M, hM⟩ : ∃ M, A.length * B'.length = M := ⟨_, rfl⟩
    have M3600 : M ≤ 3600 := by
      rw [← hM]
      exact Nat.le_trans (Nat.mul_le_mul okA.2.2 okB.2.2) (by decide)
    obtain ⟨W, hW⟩ : ∃ W : Nat → L2.St → Hp → Prop, W = fun m σ H' => ∃ pre lev ts lv x5 x6 x7 x8 x9 x10, σ = [some (.ref g1), some (.ref g2), some (.int d), some (.ref sd), some (.ref lv), x5, x6, x7, x8, x9, x10] ∧ Same H H' ∧
      (∃ kvs, DX P w .t H' sd kvs ∧ kvs.map (·.1) = ((pre ++ lev).map (·.2)).map pkI) ∧ H' lv = some (.lst (ts.map V.ref)) ∧ (∃ l0, Paired (EntA H' l0) ts lev) ∧ BI A B' (pre ++ lev) pre.length (fun _ => False) ∧ M - pre.length = m := ⟨_, rfl⟩
    refine ⟨W, ⟨M, ?_⟩, fun m σ H' hm => ?_⟩
    · rw [hW]
      have ne : a0 ≠ lv := fun e => by
        rw [← e, t2 _ _ upd_same] at hlv
        cases hlv
      have e3 : ∃ H3, upd (upd (upd H2 a0 (.lst [])) t0 (.tup [.ref a0, .int 0, .int 0])) lv (.lst [.ref t0]) = H3 := ⟨_, rfl⟩
      show ∃ pre lev ts lv x5 x6 x7 x8 x9 x10, _ = _ ∧ Same H (upd (upd (upd (upd H1 sd u) a0 _) t0 _) _ _) ∧ _
      rw [e2]
      exact ⟨[], [([], 0, 0)], [t0], lv, none, none, none, none, none, none, rfl, Same.trans sH2 t13, ⟨_, hx1.same t13, rfl⟩, upd_same, ⟨lv, .cons ⟨a0, ne, t3 _ _ upd_same, [], t23 _ _ upd_same, .nil⟩ .nil⟩, BI.init, rfl⟩
    have hm0 := hm
    rw [hW] at hm
    obtain ⟨pre, lev, ts, lv, x5, x6, x7, x8, x9, x10, rfl, s1, ⟨kvs, dx, ek⟩, hl, ⟨l0, hp⟩, bi, em⟩ := hm
    have few : (pre ++ lev).length ≤ M := by rw [← hM]; exact bi.few okA okB
    have lts : ts.length = lev.length := Paired.length hp
    refine ⟨_, rfl, Nat.zero_le _, fun e0 he0 => ?_⟩
    have se := same_upd (o := .lst []) he0
    refine ⟨lv, e0, _, rfl, rfl, se _ _ hl, upd_same, _, rfl, ?_⟩
    by_cases hz : lev.length = 0
    · have : lev = [] := List.length_eq_zero_iff.mp hz
      subst this
      have : ts = [] := List.length_eq_zero_iff.mp lts
      subst this
      exact no (k _ _ (Same.trans s1 se) (.inl ⟨rfl, (bi.fin (by simp)).1⟩))
    rw [show (!(ts.map V.ref).isEmpty) = true by
      cases ts with
      | nil => exact absurd lts.symm hz
      | cons => rfl]
    rw [List.length_append] at few
    refine ys ⟨fun σ' H2 => ∃ m', m' < m ∧ W m' σ' H2, fun σ' H2 h => h, Nat.zero_le _, fun la hla => ?_⟩
    have sl := same_upd (o := .lst []) hla
    have s2 := Same.trans se sl
    have al0 : AL P w H (upd (upd H' e0 (.lst [])) la (.lst [])) sd lv la ((pre ++ lev ++ []).map (fun e : Ent => e.2)) lev [] ts [] := by
      refine ⟨Same.trans s1 s2, ?_, Same.free (Same.trans s1 se) hla, ⟨kvs, dx.same s2, by rw [List.append_nil]; exact ek⟩, s2 _ _ hl, upd_same, fun e => ?_, Paired.mapP hp fun _ _ x => (x.same se).fresh hla, .nil⟩
      · exact hsd
      · rw [← e, se _ _ hl] at hla
        cases hla
    refine ⟨_, rfl, lv, rfl, ⟨_, SqL.of al0.hl⟩, for_it (n := ts.length) (fun j σ H' => ∃ (lat : List Ent) (us : List Addr) (x6 x7 x8 x9 x10 : Option V), σ = [some (.ref g1), some (.ref g2), some (.int d), some (.ref sd), some (.ref lv), some (.ref la), x6, x7, x8, x9, x10] ∧
        AL P w H H' sd lv la ((pre ++ lev ++ lat).map (·.2)) lev lat ts us ∧ BI A B' (pre ++ lev ++ lat) (pre.length + j) (fun _ => False)) ⟨[], [], x6, x7, x8, x9, x10, rfl, al0, by rw [List.append_nil]; exact bi⟩
      (fun j σ H' hj pj => ?_) (fun σ H' pj => ?_) (fun j σ H' x H3 hj pj y => ?_) fun σ H' pj => ?_⟩
    · obtain ⟨_, _, _, _, _, _, _, _, al, _⟩ := pj
      exact ⟨_, (ts.map V.ref)[j]'(by rw [List.length_map]; omega), SqL.of al.hl, List.getElem?_eq_getElem _⟩
    · obtain ⟨_, _, _, _, _, _, _, _, al, _⟩ := pj
      exact ⟨_, SqL.of al.hl, by rw [List.length_map]; exact Nat.le_refl _⟩
    · obtain ⟨lat, us, x6, x7, x8, x9, x10, rfl, al, bi⟩ := pj
      obtain ⟨rfl, f⟩ := y
      have hx := f _ (SqL.of al.hl)
      rw [List.getElem?_map] at hx
      obtain ⟨t, ht0, rfl⟩ := Option.map_eq_some_iff.mp hx
      obtain ⟨ent, he0, a, nal, htt, hwa⟩ := paired_get1 al.pl ht0
      have he : (pre ++ lev ++ lat)[pre.length + j]? = some ent := lev_at he0
      refine ⟨t, _, rfl, .inl (.inl htt), rfl, _, _, rfl, _, _, rfl, _, _, rfl, rfl, ?_⟩
      obtain ⟨i0, i1, j0, j1⟩ := bi.range okA okB ent (List.mem_of_getElem? he)
      obtain ⟨ni, eni, hni⟩ := rowAt_some i0 i1
      obtain ⟨nj, enj, hnj⟩ := rowAt_some j0 j1
      refine ⟨_, rfl, d, rfl, by omega, fun H4 ll s4 hll hll2 => ?_⟩
      have nll : ll ≠ la := fun e => by
        rw [e, al.ha] at hll
        cases hll
      obtain ⟨ls, hls, hlb⟩ := id hll2
      have lls : ls.length = (letters d).length := Paired.length hlb
      refine ⟨ll, rfl, ⟨_, SqL.of hls⟩, for_it (n := (letters d).length) (fun m σ H' => ∃ (lat : List Ent) (us : List Addr) (x9 x10 : Option V), σ = [some (.ref g1), some (.ref g2), some (.int d), some (.ref sd), some (.ref lv), some (.ref la), some (.ref a), some (.int ent.2.1), some (.int ent.2.2), x9, x10] ∧
          AL P w H H' sd lv la ((pre ++ lev ++ lat).map (·.2)) lev lat ts us ∧ BI A B' (pre ++ lev ++ lat) (pre.length + j) (fun x => x ∈ (letters d).take m) ∧ H' ll = some (.lst (ls.map V.ref)) ∧ LtsA H' ls (letters d) ∧ WordA H' a ent.1)
        ⟨lat, us, x9, x10, rfl, al.same s4, bi.imp (fun x => by simp), hls, hlb, hwa.same s4⟩ (fun m σ H' hm pm => ?_) (fun σ H' pm => ?_) (fun m σ H' x H5 hm pm y => ?_) fun σ H' pm => ?_⟩
      · obtain ⟨_, _, _, _, _, _, _, hl6, _⟩ := pm
        exact ⟨_, (ls.map V.ref)[m]'(by rw [List.length_map]; omega), SqL.of hl6, List.getElem?_eq_getElem _⟩
      · obtain ⟨_, _, _, _, _, _, _, hl6, _⟩ := pm
        exact ⟨_, SqL.of hl6, by rw [List.length_map]; omega⟩
      · obtain ⟨lat, us, x9, x10, rfl, al, bi, hl6, hb6, hwa⟩ := pm
        obtain ⟨rfl, f⟩ := y
        have hx := f _ (SqL.of hl6)
        rw [List.getElem?_map] at hx
        obtain ⟨c0, hc0, rfl⟩ := Option.map_eq_some_iff.mp hx
        obtain ⟨l, hl0, hcl⟩ := hb6.get2 hc0
        have he : (pre ++ lev ++ lat)[pre.length + j]? = some ent := lev_at he0
        have ky0 : KeyV .t H5 (lk l) (.ref c0) := keyV_lk.mpr ⟨c0, rfl, hcl⟩
        have few : (pre ++ lev ++ lat).length ≤ M := by rw [← hM]; exact bi.few okA okB
        obtain ⟨wbs, hwb, hwc⟩ := id hwa
        have lwb : wbs.length ≤ 3600 := by
          have h1 : wbs.length = ent.1.length := Paired.length hwc
          have h2 := bi.len _ ent he
          have h3 := (List.getElem?_eq_some_iff.mp he).1
          omega
        refine ⟨_, rfl, _, rfl, g1, A, H, rfl, hg1, al.sm, _, rfl, fun _ _ e => e, ni, _, by rw [eni], hni, fun rb hrb => ?_⟩
        have hrb : DX P w .t H rb (rowKv (rowAt A ent.2.1)) := hrb
        refine ⟨rb, .t, _, lk l, rfl, hrb.same al.sm, ky0, _, rfl, ?_⟩
        rw [rowKv_val, Option.isSome_map]
        cases e1 : at1 (rowAt A ent.2.1) l with
        | none => exact no ⟨lat, us, _, _, rfl, al, bi.skip he e1 fun x => take_snoc1 hl0 x, hl6, hb6, hwa⟩
        | some g =>
          have st1 : stepR A ent.2.1 l = some g := e1
          refine ys ?_
          refine ⟨_, rfl, _, rfl, g2, B', H, rfl, hg2, al.sm, _, rfl, fun _ _ e => e, nj, _, by rw [enj], hnj, fun rc hrc => ?_⟩
          have hrc : DX P w .t H rc (rowKv (rowAt B' ent.2.2)) := hrc
          refine ⟨rc, .t, _, lk l, rfl, hrc.same al.sm, ky0, _, rfl, ?_⟩
          rw [rowKv_val, Option.isSome_map]
          cases e2 : at1 (rowAt B' ent.2.2) l with
          | none =>
            have es : stepR B' ent.2.2 l = none := e2
            refine ys ⟨_, rfl, _, rfl, le1, fun l1 hl1 => ?_⟩
            have t1 := same_upd (o := .lst [.ref c0]) hl1
            refine ⟨a, l1, _, _, rfl, rfl, t1 _ _ hwb, upd_same, ?_, fun z hz => ?_⟩
            · rw [List.length_map]
              exact Nat.le_of_lt (small_of (by show wbs.length + 1 ≤ _; omega))
            have t2 := same_upd (o := .lst (wbs.map V.ref ++ [.ref c0])) hz
            have t12 := Same.trans t1 t2
            refine k _ _ (Same.trans al.sm t12) (.inr ⟨z, ent.1 ++ [l], rfl, Same.free (Same.trans al.sm t1) hz, ⟨wbs ++ [c0], by rw [upd_same, List.map_append]; rfl, Paired.snoc (Paired.mapP hwc fun _ _ e => t12 _ _ e) (t12 _ _ hcl)⟩, bi.found he st1 es fun x g hx hn => letters_after hd hl0 x (mem_letters (okA.step i0 i1 hx).1) hn⟩)
          | some f =>
            have es : stepR B' ent.2.2 l = some f := e2
            refine no ?_
            refine ⟨_, rfl, g1, A, H, rfl, hg1, al.sm, _, rfl, fun _ _ e => e, ni, _, by rw [eni], hni, fun rd hrd => ?_⟩
            have hrd : DX P w .t H rd (rowKv (rowAt A ent.2.1)) := hrd
            refine ⟨_, rfl, rd, .t, _, lk l, .int g, rfl, hrd.same al.sm, ky0, (by rw [rowKv_val, e1]; rfl), ?_⟩
            refine ⟨_, rfl, g2, B', H, rfl, hg2, al.sm, _, rfl, fun _ _ e => e, nj, _, by rw [enj], hnj, fun rc2 hrc2 => ?_⟩
            have hrc2 : DX P w .t H rc2 (rowKv (rowAt B' ent.2.2)) := hrc2
            refine ⟨_, rfl, rc2, .t, _, lk l, .int f, rfl, hrc2.same al.sm, ky0, (by rw [rowKv_val, e2]; rfl), le2, fun pr hpr => ?_⟩
            have sp := same_upd (o := .tup [.int g, .int f]) hpr
            have al := al.same sp
            have hl6 := sp _ _ hl6
            have hb6 : LtsA _ ls (letters d) := Paired.mapP hb6 fun _ _ e => sp _ _ e
            have hwa := hwa.same sp
            have hcl := sp _ _ hcl
            have hpe : (upd H5 pr (.tup [.int g, .int f])) pr = some (.tup [.int g, .int f]) := upd_same
            obtain ⟨H6, e6⟩ : ∃ H6, upd H5 pr (.tup [.int g, .int f]) = H6 := ⟨_, rfl⟩
            rw [e6] at al hl6 hb6 hwa hcl hpe ⊢
            have kyp : KeyV .t H6 (pkI (g, f)) (.ref pr) := keyV_lk.mpr ⟨pr, rfl, hpe⟩
            obtain ⟨kv6, dx6, ek6⟩ := al.dx
            refine ⟨_, rfl, _, rfl, sd, .t, kv6, pkI (g, f), rfl, dx6, kyp, _, rfl, ?_⟩
            rw [has_keys ek6]
            by_cases hin : (g, f) ∈ (pre ++ lev ++ lat).map (·.2)
            · rw [decide_eq_true hin]
              exact no ⟨lat, us, _, _, rfl, al, bi.seen he st1 es hin (letters_before hd hl0) fun x => take_snoc1 hl0 x, hl6, hb6, hwa⟩
            · rw [decide_eq_false hin]
              refine ys ?_
              have lkv : kv6.length = (pre ++ lev ++ lat).length := by
                have := congrArg List.length ek6
                simpa using this
              refine ⟨_, rfl, _, rfl, sd, .t, kv6, pkI (g, f), rfl, dx6, kyp, small_of (by omega), fun u hx2 => ?_⟩
              have v0 : valV kv6 (pkI (g, f)) = none := by
                have := has_keys ek6 (g, f)
                rw [decide_eq_false hin] at this
                cases e : valV kv6 (pkI (g, f)) with
                | none => rfl
                | some y => rw [e] at this; cases this
              rw [putK_new _ v0] at hx2
              have tw : Two sd la H6 (upd H6 sd u) := Two.fd
              have tu := tw.tups al.ext al.ha
              have nls : ll ≠ sd := fun e => by
                obtain ⟨φ, q⟩ := al.ext
                rw [← e, hl6] at q
                cases q
              have al7 := al.put ek6 hx2
              have hl7 := tw _ _ nls nll hl6
              have hb7 : LtsA _ ls (letters d) := Paired.mapP hb6 fun _ _ e => tu _ _ e
              have hwa7 := hwa.two nal tw al.ext al.ha
              have hcl7 := tu _ _ hcl
              have hpe7 := tu _ _ hpe
              obtain ⟨H7, e7⟩ : ∃ H7, upd H6 sd u = H7 := ⟨_, rfl⟩
              rw [e7] at al7 hl7 hb7 hwa7 hcl7 hpe7 ⊢
              obtain ⟨wbs, hwb, hwc⟩ := id hwa7
              have lwb : wbs.length ≤ 3600 := by
                have h1 : wbs.length = ent.1.length := Paired.length hwc
                have h2 := bi.len _ ent he
                have h3 := (List.getElem?_eq_some_iff.mp he).1
                omega
              refine ⟨_, rfl, .inl ⟨rfl, _, SqL.of al7.ha⟩, _, rfl, _, rfl, le1, fun l1 hl1 => ?_⟩
              have t1 := same_upd (o := .lst [.ref c0]) hl1
              refine ⟨a, l1, _, _, rfl, rfl, t1 _ _ hwb, upd_same, ?_, fun z hz => ?_⟩
              · rw [List.length_map]
                exact Nat.le_of_lt (small_of (by show wbs.length + 1 ≤ _; omega))
              have t2 := same_upd (o := .lst (wbs.map V.ref ++ [.ref c0])) hz
              have t12 := Same.trans t1 t2
              refine ⟨_, rfl, pr, _, 0, .int g, rfl, rfl, .inl (.inl (t12 _ _ hpe7)), rfl, _, rfl, pr, _, 1, .int f, rfl, rfl, .inl (.inl (t12 _ _ hpe7)), rfl, le3, fun tt htt2 => ?_⟩
              have t3 := same_upd (o := .tup [.ref z, .int g, .int f]) htt2
              have t13 := Same.trans t12 t3
              have al8 := al7.same t13
              have hza : z ≠ la := fun e => by
                rw [e, t1 _ _ al7.ha] at hz
                cases hz
              have ent8 := al8.app (t := tt) (e := (ent.1 ++ [l], g, f)) ⟨z, hza, upd_same, wbs ++ [c0], by rw [t3 _ _ upd_same, List.map_append]; rfl, Paired.snoc (Paired.mapP hwc fun _ _ e => t13 _ _ e) (t13 _ _ hcl7)⟩
              have tw9 : Two sd la _ (upd (upd (upd (upd H7 l1 (.lst [.ref c0])) z (.lst (wbs.map V.ref ++ [.ref c0]))) tt (.tup [.ref z, .int g, .int f])) la (.lst (us.map V.ref ++ [.ref tt]))) := Two.wl
              have tu9 := tw9.tups al8.ext al8.ha
              refine ⟨la, _, _, rfl, rfl, al8.ha, by rw [List.length_map]; have := Paired.length al8.pu; rw [List.length_append] at few; exact small_of (by omega), lat ++ [(ent.1 ++ [l], g, f)], us ++ [tt], _, _, rfl, ?_, ?_, tw9 _ _ nls nll (t13 _ _ hl7), Paired.mapP hb7 fun _ _ e => tu9 _ _ (t13 _ _ e), (hwa7.same t13).two nal tw9 al8.ext al8.ha⟩
              · rw [← List.append_assoc, List.map_append]
                exact ent8
              · rw [← List.append_assoc]
                exact bi.push he st1 es hin (letters_before hd hl0) fun x => take_snoc1 hl0 x
      · obtain ⟨lat, us, x9, x10, rfl, al, bi, _⟩ := pm
        rw [List.take_length] at bi
        exact ⟨lat, us, _, _, _, _, _, rfl, al, bi.next (lev_at he0) (fun x g h => mem_letters (okA.step i0 i1 h).1) fun x h => h⟩
    · obtain ⟨lat, us, x6, x7, x8, x9, x10, rfl, al, bi⟩ := pj
      refine ⟨_, rfl, M - (pre ++ lev).length, by rw [List.length_append]; omega, ?_⟩
      rw [hW]
      exact ⟨pre ++ lev, lat, us, la, _, _, _, _, _, _, rfl, al.sm, al.dx, al.ha, ⟨la, al.pu⟩, by rw [List.length_append, ← lts]; exact bi, rfl⟩
end
end WW


set_option maxHeartbeats 2000000

namespace WW
open PySem PySem.Spec PyProof.Rows L2
section
variable {P : Program} {w : World} {K : PySem.W.Frag} {mg : Str → Option Value} {base : Heap}
abbrev sLPlace : Stmt := top 53
abbrev sLPair : Stmt := top 54
theorem sc53 : FnScope ["_law_thing", "_law_many"] ["_law_thing", "_law_many"] (defScope sLPlace) := ⟨rfl, rfl, rfl, by decide +kernel, rfl, by decide +kernel, by decide +kernel⟩
theorem sc54 : FnScope ["_law_thing", "_law_mine", "_law_its"] ["_law_thing", "_law_mine", "_law_its"] (defScope sLPair) := ⟨rfl, rfl, rfl, by decide +kernel, rfl, by decide +kernel, by decide +kernel⟩
def spLPlace (P : Program) (w : World) : Sp := fun vs H Q _ => ∃ (n : Nat) (v : V) (x : PyData), vs = [v, .int n] ∧ DR P w H x v ∧ Q (.bl (plD n x)) H
theorem ok_lplace (B : Blt mg) (D : Dn K mg "_law_is_place" sLPlace ["_law_thing", "_law_many"]) : FnOk P w K mg base CX0 1 D.f D.fd ["_law_thing", "_law_many"] (spLPlace P w) := by
  refine D.F.ok sc53 (fun vs H Q E h => ?_) (fun cdv A outer s H vs Q E hr h => ?_)
  · obtain ⟨n, v, x, rfl, _⟩ := h
    rfl
  · obtain ⟨n, v, x, rfl, hx, k⟩ := h
    refine ⟨_, pss_one (ps_ret (pe_and (pe_callB (call_isF kit_int) (by rfl) B.isinstance (by decide +kernel) (pa_cons (pv 0) (pa_cons (ty_int B (by rfl)) pa_nil)))
      (pe_and (pe_not (pe_callB (call_isF kit_bool) (by rfl) B.isinstance (by decide +kernel) (pa_cons (pv 0) (pa_cons (ty_bool B (by rfl)) pa_nil))))
      (pe_one (pe_chain op_le op_lt pe_int (pv 0) (pv 1)))))), ?_⟩
    have hty := DR.ty (K := K) x v hx
    cases x with
    | int i =>
      cases hx
      refine ⟨_, rfl, _, _, rfl, hty, _, rfl, ys ⟨_, rfl, _, _, rfl, hty, _, rfl, _, rfl, ys ⟨_, rfl, 0, i, rfl, rfl, _, rfl, ite2 (fun e => ?_) (fun e => ?_)⟩⟩⟩
      · refine ⟨_, rfl, i, n, rfl, rfl, ?_⟩
        have k : Q (.bl (decide (0 ≤ i) && decide (i < (n : Int)))) H := k
        rw [show decide (0 ≤ i) = true from e, Bool.true_and] at k
        exact k
      · have k : Q (.bl (decide (0 ≤ i) && decide (i < (n : Int)))) H := k
        rw [show decide (0 ≤ i) = false by simpa using e, Bool.false_and] at k
        exact k
    | bool b => exact ⟨_, rfl, _, _, rfl, hty, _, rfl, ys ⟨_, rfl, _, _, rfl, hty, _, rfl, _, rfl, no k⟩⟩
    | none => exact ⟨_, rfl, _, _, rfl, hty, _, rfl, no k⟩
    | str b => exact ⟨_, rfl, _, _, rfl, hty, _, rfl, no k⟩
    | list b => exact ⟨_, rfl, _, _, rfl, hty, _, rfl, no k⟩
    | tuple b => exact ⟨_, rfl, _, _, rfl, hty, _, rfl, no k⟩
    | dict b => exact ⟨_, rfl, _, _, rfl, hty, _, rfl, no k⟩
def spLPair (P : Program) (w : World) : Sp := fun vs H Q _ => ∃ (g1 g2 : Addr) (A B : List IRow) (v : V) (x : PyData), vs = [v, .ref g1, .ref g2] ∧ GoesA P w H g1 A ∧ GoesA P w H g2 B ∧ DR P w H x v ∧ (∀ ds, x = .tuple ds → ds.length ≤ 1000) ∧ Q (.bl (prD A.length B.length x)) H
theorem ok_lpair (B : Blt mg) (D0 : Dn K mg "_law_is_place" sLPlace ["_law_thing", "_law_many"]) (G0 : FnOk P w K mg base CX0 1 D0.f D0.fd ["_law_thing", "_law_many"] (spLPlace P w)) (D : Dn K mg "_law_is_pair" sLPair ["_law_thing", "_law_mine", "_law_its"]) :
    FnOk P w K mg base CX0 2 D.f D.fd ["_law_thing", "_law_mine", "_law_its"] (spLPair P w) := by
  refine D.F.ok sc54 (fun vs H Q E h => ?_) (fun cdv A outer s H vs Q E hr h => ?_)
  · obtain ⟨g1, g2, A, B, v, x, rfl, _⟩ := h
    rfl
  · obtain ⟨g1, g2, A, B', v, x, rfl, hg1, hg2, hx, hz, k⟩ := h
    refine ⟨_, pss_cons (ps_if (pw_or (pt_not (pt_val (pe_callB (call_isF kit_tuple) (by rfl) B.isinstance (by decide +kernel) (pa_cons (pv 0) (pa_cons (ty_tuple B (by rfl)) pa_nil)))))
        (pw_or1 (pt_cmpR op_ne (pe_callB call_len_seq (by rfl) B.len PySem.boot_len (pa_cons (pv 0) pa_nil)) pe_int (nomark _)))).pt (pss_one (ps_ret pe_bl)) pss_nil)
      (pss_one (ps_ret (pe_and (pe_call G0 hr (by rfl) D0.g D0.F.kp D0.b .nil pass0 (pa_cons (pe_ix ix_tup (pv 0) pe_int (fun _ _ => rfl)) (pa_cons (pe_callB call_len_seq (by rfl) B.len PySem.boot_len (pa_cons (pv 1) pa_nil)) pa_nil)))
        (pe_one (pe_call G0 hr (by rfl) D0.g D0.F.kp D0.b .nil pass0 (pa_cons (pe_ix ix_tup (pv 0) pe_int (fun _ _ => rfl)) (pa_cons (pe_callB call_len_seq (by rfl) B.len PySem.boot_len (pa_cons (pv 2) pa_nil)) pa_nil))))))), ?_⟩
    have hty := DR.ty (K := K) x v hx
    obtain ⟨L1, h1, r1⟩ := hg1
    obtain ⟨L2, h2, r2⟩ := hg2
    have ln1 : L1.length = A.length := Paired.length r1
    have ln2 : L2.length = B'.length := Paired.length r2
    cases x with
    | tuple ds =>
      obtain ⟨a, ys, rfl, ha, hds⟩ := hx
      refine ⟨_, rfl, _, _, rfl, hty, _, rfl, no ?_⟩
      refine ⟨_, rfl, a, ys, rfl, .inr (.inl (.inl ha)), rfl, _, rfl, ite2 (fun e2 => ?_) (fun e2 => ?_)⟩
      · rw [prD_not] at k
        · exact k
        · intro ds' e3 h2
          injection e3 with e3
          subst e3
          have := DRs.len hds
          rw [h2] at this
          have e2 : (!decide (V.int (ys.length : Int) = V.int 2)) = true := e2
          rw [← this] at e2
          exact absurd e2 (by decide)
      · have e2 : ¬ (!decide (V.int (ys.length : Int) = V.int 2)) = true := e2
        have e2 : (ys.length : Int) = 2 := by
          by_cases h : V.int (ys.length : Int) = V.int 2
          · exact V.int.inj h
          · rw [decide_eq_false h] at e2
            exact absurd rfl e2
        match ds, ys, hds, e2 with
        | [], ys, h, e2 => cases h; simp at e2
        | [_], ys, h, e2 =>
          obtain ⟨y, r, rfl, _, rfl⟩ := h
          simp at e2
        | d1 :: d2 :: d3 :: ds, ys, h, e2 =>
          obtain ⟨y, r, rfl, _, y2, r2, rfl, _, y3, r3, rfl, _, _⟩ := h
          simp only [List.length_cons] at e2
          omega
        | [d1, d2], ys, h, e2 =>
          obtain ⟨y, r, rfl, q1, y2, r2, rfl, q2, rfl⟩ := h
          refine ⟨_, rfl, a, _, 0, y, rfl, rfl, .inl (.inl ha), atI_nat (j := 0) rfl, _, rfl, g1, _, rfl, .inl (SqL.of h1), A.length, y, d1, by rw [List.length_map, ln1]; rfl, q1, _, rfl, ?_⟩
          have k : Q (.bl (plD A.length d1 && plD B'.length d2)) H := k
          refine ite2 (fun e3 => ?_) (fun e3 => ?_)
          · rw [e3, Bool.true_and] at k
            exact ⟨_, rfl, a, _, 1, y2, rfl, rfl, .inl (.inl ha), atI_nat (j := 1) rfl, _, rfl, g2, _, rfl, .inl (SqL.of h2), B'.length, y2, d2, by rw [List.length_map, ln2]; rfl, q2, k⟩
          · have e3 : plD A.length d1 = false := by simpa using e3
            rw [e3, Bool.false_and] at k
            exact k
    | int b => exact ⟨_, rfl, _, _, rfl, hty, _, rfl, ys (ys k)⟩
    | bool b => exact ⟨_, rfl, _, _, rfl, hty, _, rfl, ys (ys k)⟩
    | none => exact ⟨_, rfl, _, _, rfl, hty, _, rfl, ys (ys k)⟩
    | str b => exact ⟨_, rfl, _, _, rfl, hty, _, rfl, ys (ys k)⟩
    | list b => exact ⟨_, rfl, _, _, rfl, hty, _, rfl, ys (ys k)⟩
    | dict b => exact ⟨_, rfl, _, _, rfl, hty, _, rfl, ys (ys k)⟩
end
end WW


set_option maxHeartbeats 2000000

namespace WW
open PySem PySem.Spec PyProof.Rows L2
theorem u65 {k : Nat} {A : Around} (h : Room k A) : A.units + 65 < cLine := by have := h.un; omega
theorem canLay_pairs : ∀ ps : List (Int × Int), PyData.canLayAll0 (ps.map pkD) = true
  | [] => rfl
  | p :: ps => by
    show (PyData.canLay0 (pkD p) && PyData.canLayAll0 (ps.map pkD)) = true
    rw [canLay_pairs ps, Bool.and_true]
    rfl
theorem depth_pairs : ∀ ps : List (Int × Int), PyData.depthAll (ps.map pkD) ≤ 4
  | [] => Nat.zero_le _
  | p :: ps => by
    show max (PyData.depth (pkD p)) (PyData.depthAll (ps.map pkD)) ≤ 4
    have := depth_pairs ps
    have : PyData.depth (pkD p) ≤ 4 := by
      show max 0 (max 0 0) + 1 ≤ 4
      decide
    omega
theorem shaped_pairs (ps : List (Int × Int)) : SeqAt.shaped (.list (ps.map pkD)) = true := by
  refine Bool.and_eq_true_iff.mpr ⟨canLay_pairs ps, decide_eq_true ?_⟩
  show PyData.depthAll (ps.map pkD) + 1 ≤ 64
  have := depth_pairs ps
  omega
theorem shaped_pk (p : Int × Int) : SeqAt.shaped (pkD p) = true := by
  refine Bool.and_eq_true_iff.mpr ⟨rfl, decide_eq_true ?_⟩
  show max 0 (max 0 0) + 1 ≤ 64
  decide
theorem eqv_pk (p q : Int × Int) : PyData.eqv (pkD p) (pkD q) = decide (p = q) := by
  have : PyData.eqv (pkD p) (pkD q) = (decide (p.1 = q.1) && (decide (p.2 = q.2) && true)) := by simp [pkD, PyData.eqv, PyData.eqvAll, Bool.beq_eq_decide_eq]
  rw [this, Bool.and_true, Bool.eq_iff_iff, Bool.and_eq_true, decide_eq_true_eq, decide_eq_true_eq, decide_eq_true_eq]
  exact ⟨fun h => Prod.ext h.1 h.2, fun h => by rw [h]; exact ⟨rfl, rfl⟩⟩
theorem any_pk (ps : List (Int × Int)) (p : Int × Int) : ((ps.map pkD).any fun z => PyData.eqv z (pkD p)) = decide (p ∈ ps) := by
  rw [Bool.eq_iff_iff, List.any_eq_true, decide_eq_true_eq]
  constructor
  · rintro ⟨x, hx, e⟩
    obtain ⟨q, hq, rfl⟩ := List.mem_map.mp hx
    rw [eqv_pk, decide_eq_true_eq] at e
    rw [← e]
    exact hq
  · intro h
    exact ⟨pkD p, List.mem_map.mpr ⟨p, h, rfl⟩, by rw [eqv_pk]; exact decide_eq_true rfl⟩
section
variable {K : PySem.W.Frag}
theorem dp_pk {H : Hp} {b : Addr} {p : Int × Int} (h : H b = some (.tup [.int p.1, .int p.2])) : Dp K H (.ref b) (pkD p) := .tup (.inl (.inl h)) (.cons (.int _) (.cons (.int _) .nil))
theorem dp_all {H : Hp} : ∀ {bs : List Addr} {ps : List (Int × Int)}, PairsL H bs ps → DpAll K H (bs.map V.ref) (ps.map pkD)
  | _, _, .nil => .nil
  | _, _, .cons h t => .cons (dp_pk h) (dp_all t)
theorem dp_pairs {H : Hp} {a : Addr} {bs : List Addr} {ps : List (Int × Int)} (h : H a = some (.lst (bs.map V.ref))) (r : PairsL H bs ps) : Dp K H (.ref a) (.list (ps.map pkD)) := .lst (SqL.of h) (dp_all r)
theorem paired_take {α β : Type} {F : α → β → Prop} : ∀ {as : List α} {bs : List β} (n : Nat), Paired F as bs → Paired F (as.take n) (bs.take n)
  | _, _, 0, _ => .nil
  | _, _, n + 1, .nil => .nil
  | _, _, n + 1, .cons h t => .cons h (paired_take n t)
end
theorem dups_iff (ps : List (Int × Int)) : ((List.range ps.length).any fun i => decide (ps.getD i (0, 0) ∈ ps.take i)) = true ↔ ¬ ps.Nodup := by
  rw [List.any_eq_true]
  constructor
  · rintro ⟨i, hi, h⟩ nd
    have hi := List.mem_range.mp hi
    have h := of_decide_eq_true h
    rw [List.getD_eq_getElem?_getD, List.getElem?_eq_getElem hi] at h
    obtain ⟨j, hj, e⟩ := List.getElem_of_mem h
    rw [List.length_take] at hj
    rw [List.getElem_take] at e
    have := (List.getElem?_inj (i := j) (j := i) (by omega) nd).mp (by rw [List.getElem?_eq_getElem (by omega), List.getElem?_eq_getElem hi, e]; rfl)
    omega
  · intro h
    rw [List.nodup_iff_pairwise_ne, List.pairwise_iff_getElem] at h
    have : ∃ i j, ∃ (hi : i < ps.length) (hj : j < ps.length), i < j ∧ ps[i] = ps[j] := by
      apply Classical.byContradiction
      intro hn
      exact h fun i j hi hj hij e => hn ⟨i, j, hi, hj, hij, e⟩
    obtain ⟨i, j, hi, hj, hij, e⟩ := this
    refine ⟨j, List.mem_range.mpr hj, decide_eq_true ?_⟩
    rw [List.getD_eq_getElem?_getD, List.getElem?_eq_getElem hj]
    show ps[j] ∈ ps.take j
    rw [← e]
    exact List.mem_iff_getElem.mpr ⟨i, by rw [List.length_take]; omega, by rw [List.getElem_take]⟩
theorem cut_take (xs : List V) (j : Nat) : cutV xs none (some (j : Int)) = xs.take j := by
  unfold cutV
  rw [HT.sIx_nat, HT.sIx_none, List.drop_zero, Nat.sub_zero]
  exact (List.take_eq_take_min ..).symm
section
variable {P : Program} {w : World} {K : PySem.W.Frag} {mg : Str → Option Value} {base : Heap}
abbrev sLTab : Stmt := top 55
abbrev nLTab : List Str := ["_law_mine", "_law_its", "_law_thing", "_law_some", "_law_near", "_law_far", "_law_letter", "_law_duo", "_law_at"]
theorem sc55 : FnScope nLTab ["_law_mine", "_law_its", "_law_thing"] (defScope sLTab) := ⟨rfl, rfl, rfl, by decide +kernel, rfl, by decide +kernel, by decide +kernel⟩
def spLTab (P : Program) (w : World) : Sp := fun vs H Q _ => ∃ (g1 g2 : Addr) (n : Nat) (A B : List IRow) (v : V) (d : PyData), vs = [.ref g1, .ref g2, v] ∧ GoesA P w H g1 A ∧ GoesA P w H g2 B ∧ GoesOk n A ∧ GoesOk n B ∧ DR P w H d v ∧ ThingOk d ∧
  ∀ H' b, Same H H' → (b = true ↔ IsTab A B d) → Q (.bl b) H'
theorem ok_ltab (B : Blt mg) (D1 : Dn K mg "_law_is_pair" sLPair ["_law_thing", "_law_mine", "_law_its"]) (G1 : FnOk P w K mg base CX0 2 D1.f D1.fd ["_law_thing", "_law_mine", "_law_its"] (spLPair P w)) (D : Dn K mg "_law_is_table" sLTab ["_law_mine", "_law_its", "_law_thing"]) :
    FnOk P w K mg base CX0 3 D.f D.fd ["_law_mine", "_law_its", "_law_thing"] (spLTab P w) := by
  refine D.F.ok sc55 (fun vs H Q E h => ?_) (fun cdv A outer s H vs Q E hr h => ?_)
  · obtain ⟨g1, g2, n, A, B, v, d, rfl, _⟩ := h
    rfl
  · obtain ⟨g1, g2, n, A, B', v, d, rfl, hg1, hg2, okA, okB, hd, hz, k⟩ := h
    refine ⟨_, pss_cons (ps_if (pw_or (pt_not (pt_val (pe_callB call_isLT (by rfl) B.isinstance (by decide +kernel) (pa_cons (pv 2) (pa_cons (pe_tup (pa_cons (ty_list B (by rfl)) (pa_cons (ty_tuple B (by rfl)) pa_nil))) pa_nil)))))
        (pw_or1 (pt_not (pt_val (pe_callB (cr_all rfl) (by rfl) B.all (by decide +kernel) (pa_cons (pe_lc (own := [("_law_duo", 7)]) (g := gName 7) (tt := tYes) (by rfl) sc55.nd (pi_seq (pv 2)) (blkOk_by (own := [("_law_duo", 7)]) (N := nLTab) (sc := defScope sLTab) (by decide +kernel))
          (fun _ _ _ _ _ => pg_name (i := 7) sc55.nd rfl (Or.inl rfl)) (fun _ _ _ _ _ => pts_nil) (fun _ _ _ _ _ => pe_call G1 hr (by rfl) D1.g D1.F.kp D1.b .nil pass0 (pa_cons (pv 7) (pa_cons (pv 0) (pa_cons (pv 1) pa_nil))))) pa_nil)))))).pt (pss_one (ps_ret pe_bl)) pss_nil)
      (pss_cons (ps_set (i := 3) sc55.nd rfl (.inr rfl) (pe_callTy call_list_of (by rfl) B.list (by decide +kernel) (pa_cons (pv 2) pa_nil)))
      (pss_cons (ps_if (pw_or (pt_cmpR (op_notInD (u65 hr)) (pe_tup (pa_cons pe_int (pa_cons pe_int pa_nil))) (pv 3) (by rfl))
        (pw_or1 (pt_val (pe_callB (cr_any rfl) (by rfl) B.any (by decide +kernel) (pa_cons (pe_lc (own := [("_law_at", 8), ("_law_duo", 7)]) (g := gTup K 2 (gCons (gName 8) (gCons (gName 7) gNil))) (tt := tYes) (te := tOp (rInD K) (tVar 7) (tSl (rSlL K) (tVar 3) tNoPart (tPart (tVar 8)))) (by rfl) sc55.nd (pi_enum (by rfl) B.enumerate (pa_cons (pv 3) pa_nil))
          (blkOk_by (own := [("_law_at", 8), ("_law_duo", 7)]) (N := nLTab) (sc := defScope sLTab) (by decide +kernel))
          (fun _ _ _ _ _ => pg_tup rfl (pgs_cons (pg_name (i := 8) sc55.nd rfl (Or.inl rfl)) (pgs_cons (pg_name (i := 7) sc55.nd rfl (Or.inl rfl)) pgs_nil))) (fun _ _ _ _ _ => pts_nil)
          (fun _ _ _ _ _ => pe_cmpR (op_inD (u65 hr)) (pv 7) (pe_slice sl_list (pv 3) po_none (po_some (pv 8))) (by rfl))) pa_nil))))).pt (pss_one (ps_ret pe_bl)) pss_nil)
      (pss_cons (ps_for PassesOwn.never rfl (pi_list (pv 3)) (pg_tup rfl (pgs_cons (pg_name (i := 4) sc55.nd rfl (.inl rfl)) (pgs_cons (pg_name (i := 5) sc55.nd rfl (.inl rfl)) pgs_nil)))
        (pss_one (ps_for PassesOwn.never rfl (pi_xk (pe_grow (pv 0) (pv 4) (fun _ _ => rfl))) (pg_name (i := 6) sc55.nd rfl (.inl rfl))
          (pss_one (ps_if (pw_or (pt_cmp (pc_xnotin (u9 hr) (pv 6) (pe_grow (pv 1) (pv 5) (fun _ _ => rfl))))
            (pw_or1 (pt_cmpR (op_notInD (u65 hr)) (pe_tup (pa_cons (pe_xget (u9 hr) (pe_grow (pv 0) (pv 4) (fun _ _ => rfl)) (pv 6) (fun _ _ => rfl)) (pa_cons (pe_xget (u9 hr) (pe_grow (pv 1) (pv 5) (fun _ _ => rfl)) (pv 6) (fun _ _ => rfl)) pa_nil))) (pv 3) (by rfl)))).pt (pss_one (ps_ret pe_bl)) pss_nil)))))
      (pss_one (ps_ret pe_bl))))), ?_⟩
    refine ⟨_, rfl, le2, fun p0 hp0 => ⟨v, tyD d, p0, rfl, upd_same, (DR.ty d v hd).same (same_upd hp0), ?_⟩⟩
    have s1 := same_upd (o := .tup [.ty "list", .ty "tuple"]) hp0
    obtain ⟨H1, eH1⟩ : ∃ H1, upd H p0 (.tup [.ty "list", .ty "tuple"]) = H1 := ⟨_, rfl⟩
    rw [eH1] at s1
    refine ⟨_, rfl, ?_⟩
    cases hsq : seqOf d with
    | none =>
      have e1 : (decide (tyD d = Ty7.lst) || decide (tyD d = Ty7.tup)) = false := by
        cases d <;> first | rfl | cases hsq
      rw [e1]
      refine ys (ys (k _ _ (by rw [eH1]; exact s1) ?_))
      constructor
      · intro z
        cases z
      · rintro ⟨ps, h1, _⟩
        rw [hsq] at h1
        cases h1
    | some ds =>
      have e1 : (decide (tyD d = Ty7.lst) || decide (tyD d = Ty7.tup)) = true := by
        cases d <;> first | rfl | cases hsq
      rw [e1]
      refine no ?_
      obtain ⟨a, yv, rfl, ha, hds⟩ := hd.seq hsq
      have lds : ds.length = yv.length := DRs.len hds
      have hz1 := hz.1 ds hsq
      unfold tNot tB tCB tCons
      dsimp only
      rw [eH1]
      refine tlc_seq (a := a) (xs := yv) rfl (ha.elim (fun e => .inl (s1 _ _ e)) fun e => .inr (s1 _ _ e)) (LcF (fun i => .bl (prD A.length B'.length (ds.getD i .none))) H1) (fun D hD => LcF.zero hD) (fun D j H' p => p.1) (fun D j x H' hD hx pf => ?_) fun D H' hD pf => ?_
      · obtain ⟨dx, hdx0, hdx⟩ := hds.get hx
        have s2 := Same.trans s1 pf.1
        have hj : j < yv.length := (List.getElem?_eq_some_iff.mp hx).1
        refine ⟨rfl, yes ⟨_, rfl, _, rfl, _, rfl, g1, g2, A, B', x, dx, rfl, hg1.same s2, hg2.same s2, DR.same s2 dx x hdx, fun es e => hz.2 ds hsq dx (List.mem_of_getElem? hdx0) es e, ?_⟩⟩
        refine pf.step hD (small1000 (by omega)) (fun _ _ e => e) ?_
        rw [List.getD_eq_getElem?_getD, hdx0]
        rfl
      · have s2 := Same.trans s1 pf.1
        refine ⟨D, ds.map (prD A.length B'.length), rfl, SqL.of ?_, _, rfl, ?_⟩
        · rw [pf.2, ← lds]
          congr 2
          rw [List.map_map]
          refine List.ext_getElem (by simp) fun i h1 h2 => ?_
          simp at h1
          simp [List.getD_eq_getElem?_getD, h1]
        rw [List.all_map]
        show (if (!(ds.all (prD A.length B'.length))) = true then _ else _)
        cases eall : ds.all (prD A.length B'.length) with
        | false =>
          refine ys (k _ _ s2 ?_)
          constructor
          · intro z
            cases z
          · intro z
            exact absurd z (tab_not hsq eall)
        | true =>
          refine no ?_
          obtain ⟨ps, rfl, hps⟩ := prs_all eall
          obtain ⟨bs, rfl, hbs⟩ := hds.pairs
          have ln : bs.length = ps.length := Paired.length hbs
          rw [List.length_map] at hz1
          have hit := tab_pairs (A := A) (B := B') hsq hps
          refine ⟨_, rfl, a, bs.map V.ref, rfl, ha.elim (fun e => .inl (SqL.of (s2 _ _ e))) (fun e => .inr (.inl (.inl (s2 _ _ e)))), fun sm hsm => ?_⟩
          have s3 := Same.trans s2 (same_upd (o := .lst (bs.map V.ref)) hsm)
          have hs3 : (upd H' sm (.lst (bs.map V.ref))) sm = some (.lst (bs.map V.ref)) := upd_same
          obtain ⟨H3, eH3⟩ : ∃ H3, upd H' sm (.lst (bs.map V.ref)) = H3 := ⟨_, rfl⟩
          rw [eH3] at s3 hs3 ⊢
          refine ⟨le2, fun z0 hz0 => ?_⟩
          have s4 := same_upd (o := .tup [.int 0, .int 0]) hz0
          refine ⟨_, rfl, pkD (0, 0), ps.map pkD, dp_pk upd_same, dp_pairs (s4 _ _ hs3) (hbs.same (Same.trans s3 s4)), shaped_pk _, shaped_pairs _, _, rfl, ?_⟩
          rw [any_pk]
          have s34 := Same.trans s3 s4
          have hs4 := s4 _ _ hs3
          obtain ⟨H4, eH4⟩ : ∃ H4, upd H3 z0 (.tup [.int 0, .int 0]) = H4 := ⟨_, rfl⟩
          rw [eH4] at s34 hs4 ⊢
          by_cases h00 : ((0, 0) : Int × Int) ∈ ps
          · rw [decide_eq_true h00]
            refine no ?_
            refine ⟨_, rfl, sm, _, rfl, SqL.of hs4, fun D2 hD2 => lc_it (n := ps.length) (LcF (fun i => .bl (decide (ps.getD i (0, 0) ∈ ps.take i))) H4 D2) (LcF.zero hD2) (fun j Hj hj pf => ⟨_, (bs.map V.ref)[j]'(by rw [List.length_map]; omega), SqL.of (pf.1 _ _ hs4), List.getElem?_eq_getElem _⟩) (fun Hj pf => ⟨_, SqL.of (pf.1 _ _ hs4), by rw [List.length_map]; omega⟩) (fun j Hj x H5 hj pf y => ?_) fun Hj pf => ?_⟩
            · obtain ⟨T, z, rfl, hT, rfl, f⟩ := y
              have hx := f _ (SqL.of (pf.1 _ _ hs4))
              rw [List.getElem?_map] at hx
              obtain ⟨b, hb0, rfl⟩ := Option.map_eq_some_iff.mp hx
              obtain ⟨pr, hpr, hbp⟩ := paired_get1 hbs hb0
              have st := same_upd (o := .tup [.int (j : Nat), .ref b]) hT
              have s5 := Same.trans pf.1 st
              have s45 := Same.trans s34 s5
              have hTe : (upd Hj T (.tup [.int (j : Nat), .ref b])) T = some (.tup [.int (j : Nat), .ref b]) := upd_same
              obtain ⟨H6, eH6⟩ : ∃ H6, upd Hj T (.tup [.int (j : Nat), .ref b]) = H6 := ⟨_, rfl⟩
              rw [eH6] at st s5 s45 hTe ⊢
              refine ⟨T, _, rfl, .inl (.inl hTe), rfl, _, _, rfl, _, _, rfl, rfl, rfl, yes ⟨_, rfl, _, rfl, _, rfl, (j : Int), rfl, sm, _, rfl, SqL.of (s5 _ _ hs4), fun cp hcp => ?_⟩⟩
              have sc := same_upd (o := .lst (cutV (bs.map V.ref) none (some (j : Int)))) hcp
              have hcs := (upd_same : (upd H6 cp (.lst (cutV (bs.map V.ref) none (some (j : Int))))) cp = _)
              obtain ⟨H7, eH7⟩ : ∃ H7, upd H6 cp (.lst (cutV (bs.map V.ref) none (some (j : Int)))) = H7 := ⟨_, rfl⟩
              rw [eH7] at sc hcs ⊢
              rw [cut_take, ← List.map_take] at hcs
              refine ⟨pkD pr, (ps.take j).map pkD, dp_pk (sc _ _ (s45 _ _ hbp)), dp_pairs hcs (paired_take j (hbs.same (Same.trans s45 sc))), shaped_pk _, shaped_pairs _, ?_⟩
              rw [any_pk]
              refine pf.step hD2 (small1000 (by omega)) (Same.trans st sc) ?_
              rw [List.getD_eq_getElem?_getD, hpr]
              rfl
            · have s5 := Same.trans s34 pf.1
              refine ⟨D2, (List.range ps.length).map fun i => decide (ps.getD i (0, 0) ∈ ps.take i), rfl, SqL.of (by rw [pf.2, List.map_map]; rfl), _, rfl, ?_⟩
              rw [List.any_map]
              show (if ((List.range ps.length).any fun i => decide (ps.getD i (0, 0) ∈ ps.take i)) = true then _ else _)
              by_cases nd : ps.Nodup
              · rw [show ((List.range ps.length).any fun i => decide (ps.getD i (0, 0) ∈ ps.take i)) = false by
                  rw [Bool.eq_false_iff]
                  intro h
                  exact (dups_iff ps).mp h nd]
                refine no ?_
                have hs5 := pf.1 _ _ hs4
                refine ⟨_, rfl, sm, rfl, ⟨_, SqL.of hs5⟩, for_it (n := ps.length) (fun j σ H' => Same Hj H' ∧ ∃ x4 x5 x6 x7 x8, σ = [some (.ref g1), some (.ref g2), some (.ref a), some (.ref sm), x4, x5, x6, x7, x8] ∧ ∀ p ∈ ps.take j, Stays A B' ps p)
                  ⟨fun _ _ e => e, _, _, _, _, _, rfl, by simp⟩ (fun j σ H' hj pj => ⟨_, (bs.map V.ref)[j]'(by rw [List.length_map]; omega), SqL.of (pj.1 _ _ hs5), List.getElem?_eq_getElem _⟩) (fun σ H' pj => ⟨_, SqL.of (pj.1 _ _ hs5), by rw [List.length_map]; omega⟩) (fun j σ H' x H6 hj pj y => ?_) fun σ H' pj => ?_⟩
                · obtain ⟨s6, x4, x5, x6, x7, x8, rfl, hall⟩ := pj
                  obtain ⟨rfl, f⟩ := y
                  have hx := f _ (SqL.of (s6 _ _ hs5))
                  rw [List.getElem?_map] at hx
                  obtain ⟨b, hb0, rfl⟩ := Option.map_eq_some_iff.mp hx
                  obtain ⟨pr, hpr, hbp⟩ := paired_get1 hbs hb0
                  have s7 := Same.trans s5 s6
                  obtain ⟨i0, i1, j0, j1⟩ := hps pr (List.mem_of_getElem? hpr)
                  obtain ⟨ni, eni, hni⟩ := rowAt_some i0 i1
                  obtain ⟨nj, enj, hnj⟩ := rowAt_some j0 j1
                  obtain ⟨o1, o2, o3, o4⟩ := okA.row i0 i1
                  refine ⟨b, _, rfl, .inl (.inl (s7 _ _ hbp)), rfl, _, _, rfl, _, _, rfl, rfl, ?_⟩
                  refine ⟨_, rfl, g1, A, H, rfl, hg1, s7, _, rfl, fun _ _ e => e, ni, _, by rw [eni], hni, fun rb hrb => ?_⟩
                  have hrb : DX P w .t H rb (rowKv (rowAt A pr.1)) := hrb
                  obtain ⟨o, d1⟩ := hrb.one
                  refine ⟨rb, .t, o, _, rfl, d1.same s7, for_it (n := (rowAt A pr.1).length) (fun m σ Hm => Same H6 Hm ∧ ∃ x6 x7 x8, σ = [some (.ref g1), some (.ref g2), some (.ref a), some (.ref sm), some (.int pr.1), some (.int pr.2), x6, x7, x8] ∧ ∀ pl ∈ (rowAt A pr.1).take m, ∃ f, stepR B' pr.2 pl.1 = some f ∧ (pl.2, f) ∈ ps)
                    ⟨fun _ _ e => e, _, _, _, rfl, by simp⟩ (fun m σ Hm hm pv => ⟨d1.same (Same.trans s7 pv.1), by rw [rowKv_len]; exact hm⟩) (fun σ Hm pv => ⟨d1.same (Same.trans s7 pv.1), by rw [rowKv_len]; exact Nat.le_refl _⟩) (fun m σ Hm x H8 hm pv y => ?_) fun σ Hm pv => ?_⟩
                  · obtain ⟨rfl, k0, v0, hk0, ky0⟩ := y
                    obtain ⟨pl, hpl, rfl, rfl⟩ := rowKv_get hk0
                    obtain ⟨c0, rfl, hc0⟩ := keyV_lk.mp ky0
                    obtain ⟨s8, x6, x7, x8, rfl, hrow⟩ := pv
                    have s9 := Same.trans s7 s8
                    have st1 : stepR A pr.1 pl.1 = some pl.2 := at1_mem o2 (List.mem_of_getElem? hpl)
                    refine ⟨_, rfl, _, rfl, g2, B', H, rfl, hg2, s9, _, rfl, fun _ _ e => e, nj, _, by rw [enj], hnj, fun rc hrc => ?_⟩
                    have hrc : DX P w .t H rc (rowKv (rowAt B' pr.2)) := hrc
                    refine ⟨rc, .t, _, lk pl.1, rfl, hrc.same s9, ky0, _, rfl, ?_⟩
                    rw [rowKv_val, Option.isSome_map]
                    cases e2 : at1 (rowAt B' pr.2) pl.1 with
                    | none =>
                      have es : stepR B' pr.2 pl.1 = none := e2
                      refine ys (ys (k _ _ s9 ?_))
                      constructor
                      · intro z
                        cases z
                      · intro z
                        obtain ⟨f, q1, _⟩ := (hit.mp z).2.2 pr (List.mem_of_getElem? hpr) _ _ st1
                        rw [es] at q1
                        cases q1
                    | some f =>
                      have es : stepR B' pr.2 pl.1 = some f := e2
                      refine no ?_
                      refine ⟨_, rfl, g1, A, H, rfl, hg1, s9, _, rfl, fun _ _ e => e, ni, _, by rw [eni], hni, fun rd hrd => ?_⟩
                      have hrd : DX P w .t H rd (rowKv (rowAt A pr.1)) := hrd
                      refine ⟨_, rfl, rd, .t, _, lk pl.1, .int pl.2, rfl, hrd.same s9, ky0, (by rw [rowKv_val, show at1 (rowAt A pr.1) pl.1 = some pl.2 from st1]; rfl), ?_⟩
                      refine ⟨_, rfl, g2, B', H, rfl, hg2, s9, _, rfl, fun _ _ e => e, nj, _, by rw [enj], hnj, fun rc2 hrc2 => ?_⟩
                      have hrc2 : DX P w .t H rc2 (rowKv (rowAt B' pr.2)) := hrc2
                      refine ⟨_, rfl, rc2, .t, _, lk pl.1, .int f, rfl, hrc2.same s9, ky0, (by rw [rowKv_val, e2]; rfl), le2, fun q hq => ?_⟩
                      have sq := same_upd (o := .tup [.int pl.2, .int f]) hq
                      refine ⟨_, rfl, pkD (pl.2, f), ps.map pkD, dp_pk upd_same, dp_pairs (sq _ _ (s8 _ _ (s6 _ _ hs5))) (hbs.same (Same.trans s9 sq)), shaped_pk _, shaped_pairs _, _, rfl, ?_⟩
                      rw [any_pk]
                      by_cases hin : (pl.2, f) ∈ ps
                      · rw [decide_eq_true hin]
                        refine no ⟨Same.trans s8 sq, _, _, _, rfl, fun pl2 h2 => ?_⟩
                        rw [List.take_add_one, hpl] at h2
                        rcases List.mem_append.mp h2 with h2 | h2
                        · exact hrow _ h2
                        · have e2 : pl2 = pl := by simpa using h2
                          rw [e2]
                          exact ⟨f, es, hin⟩
                      · rw [decide_eq_false hin]
                        refine ys (k _ _ (Same.trans s9 sq) ?_)
                        constructor
                        · intro z
                          cases z
                        · intro z
                          obtain ⟨f2, q1, q2⟩ := (hit.mp z).2.2 pr (List.mem_of_getElem? hpr) _ _ st1
                          rw [es] at q1
                          cases q1
                          exact absurd q2 hin
                  · obtain ⟨s8, x6, x7, x8, rfl, hrow⟩ := pv
                    rw [List.take_length] at hrow
                    refine ⟨Same.trans s6 s8, _, _, _, _, _, rfl, fun p hp => ?_⟩
                    rw [List.take_add_one, hpr] at hp
                    rcases List.mem_append.mp hp with hp | hp
                    · exact hall p hp
                    · have e2 : p = pr := by simpa using hp
                      rw [e2]
                      exact fun l g h => hrow (l, g) (at1_some h)
                · obtain ⟨s6, x4, x5, x6, x7, x8, rfl, hall⟩ := pj
                  rw [List.take_length] at hall
                  exact k _ _ (Same.trans s5 s6) ⟨fun _ => hit.mpr ⟨nd, h00, hall⟩, fun _ => rfl⟩
              · rw [(dups_iff ps).mpr nd]
                refine ys (k _ _ s5 ?_)
                constructor
                · intro z
                  cases z
                · intro z
                  exact absurd (hit.mp z).1 nd
          · rw [decide_eq_false h00]
            refine ys (ys (k _ _ s34 ?_))
            constructor
            · intro z
              cases z
            · intro z
              exact absurd (hit.mp z).2.1 h00
end
end WW


set_option maxHeartbeats 2000000

/-! data whose text is short -/
namespace WW
open PySem PySem.Spec PyProof.Rows L2
structure Fine (n W : Nat) (d : PyData) : Prop where
  lv : d.leavesShort 8 = true
  sh : d.showable = true
  dp : d.depth ≤ n
  wt : d.weight ≤ W
theorem Fine.mono {n W m U : Nat} {d : PyData} (h : Fine n W d) (a : n ≤ m) (b : W ≤ U) : Fine m U d := ⟨h.lv, h.sh, Nat.le_trans h.dp a, Nat.le_trans h.wt b⟩
theorem fine_none : Fine 0 0 .none := ⟨rfl, rfl, Nat.le_refl _, Nat.le_refl _⟩
theorem fine_bool (b : Bool) : Fine 0 0 (.bool b) := ⟨rfl, rfl, Nat.le_refl _, Nat.le_refl _⟩
theorem fine_empty : Fine 0 0 (.str "") := ⟨by decide +kernel, rfl, Nat.le_refl _, Nat.le_refl _⟩
theorem fine_int {i : Int} (h : -1 ≤ i) (g : i < 64) : Fine 0 7 (.int i) := by
  have key : ∀ n : Nat, n < 65 → (PyData.leavesShort 8 (.int ((n : Int) - 1)) = true ∧ PyData.showable (.int ((n : Int) - 1)) = true) ∧ PyData.weight (.int ((n : Int) - 1)) ≤ 7 := by decide +kernel
  have k := key (i + 1).toNat (by omega)
  have e : (((i + 1).toNat : Nat) : Int) - 1 = i := by omega
  rw [e] at k
  exact ⟨k.1.1, k.1.2, Nat.le_refl _, k.2⟩
theorem fine_all {n W : Nat} : ∀ {ds : List PyData}, (∀ d ∈ ds, Fine n W d) → PyData.leavesShortAll 8 ds = true ∧ PyData.showableAll ds = true ∧ PyData.depthAll ds ≤ n ∧ PyData.weightAll ds ≤ ds.length * (W + 1)
  | [], _ => ⟨rfl, rfl, Nat.zero_le _, Nat.zero_le _⟩
  | d :: ds, h => by
    have h1 := h d List.mem_cons_self
    obtain ⟨a, b, c, e⟩ := fine_all (ds := ds) fun x hx => h x (List.mem_cons_of_mem _ hx)
    refine ⟨?_, ?_, Nat.max_le.mpr ⟨h1.dp, c⟩, ?_⟩
    · show (d.leavesShort 8 && PyData.leavesShortAll 8 ds) = true
      rw [h1.lv, a]; rfl
    · show (d.showable && PyData.showableAll ds) = true
      rw [h1.sh, b]; rfl
    · show d.weight + 1 + PyData.weightAll ds ≤ (ds.length + 1) * (W + 1)
      have := h1.wt
      rw [Nat.add_mul, Nat.one_mul]
      omega
theorem fine_list {n W m : Nat} {ds : List PyData} (h : ∀ d ∈ ds, Fine n W d) (hl : ds.length ≤ m) : Fine (n + 1) (m * (W + 1)) (.list ds) := by
  obtain ⟨a, b, c, e⟩ := fine_all h
  exact ⟨a, b, Nat.succ_le_succ c, Nat.le_trans e (Nat.mul_le_mul_right _ hl)⟩
theorem fine_tuple {n W m : Nat} {ds : List PyData} (h : ∀ d ∈ ds, Fine n W d) (hl : ds.length ≤ m) : Fine (n + 1) (m * (W + 1)) (.tuple ds) := by
  obtain ⟨a, b, c, e⟩ := fine_all h
  exact ⟨a, b, Nat.succ_le_succ c, Nat.le_trans e (Nat.mul_le_mul_right _ hl)⟩
theorem fine_kv {n W : Nat} : ∀ {kvs : List (PyData × PyData)}, (∀ p ∈ kvs, Fine n W p.1 ∧ Fine n W p.2) → PyData.leavesShortKv 8 kvs = true ∧ PyData.showableKv kvs = true ∧ PyData.depthKv kvs ≤ n ∧ PyData.weightKv kvs ≤ kvs.length * (2 * W + 2)
  | [], _ => ⟨rfl, rfl, Nat.zero_le _, Nat.zero_le _⟩
  | (k, v) :: ds, h => by
    have h1 := h (k, v) List.mem_cons_self
    obtain ⟨a, b, c, e⟩ := fine_kv (kvs := ds) fun x hx => h x (List.mem_cons_of_mem _ hx)
    refine ⟨?_, ?_, Nat.max_le.mpr ⟨Nat.max_le.mpr ⟨h1.1.dp, h1.2.dp⟩, c⟩, ?_⟩
    · show (k.leavesShort 8 && v.leavesShort 8 && PyData.leavesShortKv 8 ds) = true
      rw [h1.1.lv, h1.2.lv, a]; rfl
    · show (k.showable && v.showable && PyData.showableKv ds) = true
      rw [h1.1.sh, h1.2.sh, b]; rfl
    · show k.weight + v.weight + 2 + PyData.weightKv ds ≤ (ds.length + 1) * (2 * W + 2)
      have h2 : k.weight ≤ W := h1.1.wt
      have h3 : v.weight ≤ W := h1.2.wt
      rw [Nat.add_mul, Nat.one_mul]
      omega
theorem fine_dict {n W m : Nat} {kvs : List (PyData × PyData)} (h : ∀ p ∈ kvs, Fine n W p.1 ∧ Fine n W p.2) (hl : kvs.length ≤ m) : Fine (n + 1) (m * (2 * W + 2)) (.dict kvs) := by
  obtain ⟨a, b, c, e⟩ := fine_kv h
  exact ⟨a, b, Nat.succ_le_succ c, Nat.le_trans e (Nat.mul_le_mul_right _ hl)⟩
theorem Fine.len {n W : Nat} {d : PyData} (h : Fine n W d) (hw : W ≤ 100000) : d.shown.length ≤ 1000010 := by
  have := PyData.shown_le 8 (by decide) d h.lv
  have := h.wt
  omega
/-- what a thing of the law holds -/
structure Pt (x : PyData) : Prop where
  fine : Fine 4 400 x
  tup : ∀ es, x = .tuple es → es.length ≤ 1000
structure Tg (d : PyData) : Prop where
  ok : ThingOk d
  fine : Fine 6 30000 d
theorem tg_seq {d : PyData} {xs : List PyData} (e : d = .list xs ∨ d = .tuple xs) (hl : xs.length < 64) (h : ∀ x ∈ xs, Pt x) : Tg d := by
  have sq : ∀ ds, seqOf d = some ds → ds = xs := by
    rcases e with rfl | rfl
    · intro ds h
      cases h
      rfl
    · intro ds h
      cases h
      rfl
  refine ⟨⟨fun ds q => by rw [sq ds q]; exact hl, fun ds q x hx es e => (h x (sq ds q ▸ hx)).tup es e⟩, ?_⟩
  have f : Fine 5 25664 d := by
    rcases e with rfl | rfl
    · exact fine_list (m := 64) (fun x hx => (h x hx).fine) (by omega)
    · exact fine_tuple (m := 64) (fun x hx => (h x hx).fine) (by omega)
  exact f.mono (by decide) (by decide)
theorem tg_list {xs : List PyData} (hl : xs.length < 64) (h : ∀ x ∈ xs, Pt x) : Tg (.list xs) := tg_seq (.inl rfl) hl h
theorem tg_flat {d : PyData} (h : Fine 6 30000 d) (n : seqOf d = none) : Tg d := ⟨⟨fun ds q => (by rw [n] at q; cases q), fun ds q => (by rw [n] at q; cases q)⟩, h⟩
theorem pt_flat {x : PyData} (h : Fine 0 7 x) : Pt x := ⟨h.mono (by decide) (by decide), fun es e => by
  subst e
  exact absurd h.dp (by show ¬ (PyData.depthAll es + 1 ≤ 0); omega)⟩
theorem fine_two {n W : Nat} {a b : PyData} (ha : Fine n W a) (hb : Fine n W b) : Fine (n + 1) (2 * (W + 1)) (.tuple [a, b]) := fine_tuple (m := 2) (fun d hd => by
  rcases List.mem_cons.mp hd with rfl | hd
  · exact ha
  · rw [List.mem_singleton.mp hd]; exact hb) (by show 2 ≤ 2; omega)
theorem pt_two {a b : PyData} (ha : Fine 2 40 a) (hb : Fine 2 40 b) : Pt (.tuple [a, b]) := ⟨(fine_two ha hb).mono (by decide) (by decide), fun es e => by
  injection e with e
  subst e
  show 2 ≤ 1000
  decide⟩
theorem fine_zero : Fine 2 40 (.int 0) := (fine_int (by decide) (by decide)).mono (by decide) (by decide)
theorem pt_pk {p : Int × Int} (h1 : -1 ≤ p.1) (h2 : p.1 < 64) (h3 : -1 ≤ p.2) (h4 : p.2 < 64) : Pt (pkD p) := pt_two ((fine_int h1 h2).mono (by decide) (by decide)) ((fine_int h3 h4).mono (by decide) (by decide))
end WW
namespace WW
open PySem PySem.Spec PyProof.Rows L2
theorem tgs_nil : ∀ d ∈ ([] : List PyData), Tg d := fun d h => nomatch h
theorem tgs_cons {d : PyData} {ds : List PyData} (h : Tg d) (t : ∀ x ∈ ds, Tg x) : ∀ x ∈ d :: ds, Tg x := fun x hx => by
  rcases List.mem_cons.mp hx with rfl | hx
  · exact h
  · exact t x hx
theorem tgs_app {ds es : List PyData} (h : ∀ x ∈ ds, Tg x) (t : ∀ x ∈ es, Tg x) : ∀ x ∈ ds ++ es, Tg x := fun x hx => by
  rcases List.mem_append.mp hx with hx | hx
  · exact h x hx
  · exact t x hx
theorem ptl_app {ds es : List PyData} (h : ∀ x ∈ ds, Pt x) (t : ∀ x ∈ es, Pt x) : ∀ x ∈ ds ++ es, Pt x := fun x hx => by
  rcases List.mem_append.mp hx with hx | hx
  · exact h x hx
  · exact t x hx
theorem ptl_one {x : PyData} (h : Pt x) : ∀ y ∈ [x], Pt y := fun y hy => by
  rw [List.mem_singleton.mp hy]
  exact h
theorem ptl_map {α : Type} {f : α → PyData} {xs : List α} (h : ∀ a ∈ xs, Pt (f a)) : ∀ y ∈ xs.map f, Pt y := fun y hy => by
  obtain ⟨a, ha, rfl⟩ := List.mem_map.mp hy
  exact h a ha
theorem fine_pk {p : Int × Int} (h1 : -1 ≤ p.1) (h2 : p.1 < 64) (h3 : -1 ≤ p.2) (h4 : p.2 < 64) : Fine 1 16 (pkD p) := fine_two (fine_int h1 h2) (fine_int h3 h4)
theorem pt_lst {x : List PyData} (h : Fine 4 400 (.list x)) : Pt (.list x) := ⟨h, fun es e => by cases e⟩
theorem fine_l0 : Fine 1 8 (.list [.int 0]) := fine_list (m := 1) (W := 7) (n := 0) (fun d hd => by rw [List.mem_singleton.mp hd]; exact fine_int (by decide) (by decide)) (by decide)
theorem fine_d0 : Fine 1 0 (.dict []) := ⟨rfl, rfl, by decide, by decide⟩
end WW


set_option maxHeartbeats 2000000

/-! repr of plain data -/
namespace WW
open PySem PySem.Spec PyProof.Rows L2
mutual
theorem NV.reads0 {P : Program} {w : World} {H : Hp} {h : Heap} (ok : HOk P w H h) : ∀ (k : NestedKey) (v : V) (u : Value), NV H k v → RelV v u → Reads h u k.data []
  | .none, _, u, x, r => by
    cases x
    cases (show u = Value.none from r)
    exact .none
  | .num i, _, u, x, r => by
    cases x
    obtain ⟨t, rfl⟩ := (show ∃ t, u = Value.int i t from r)
    exact .int i t
  | .text y, _, u, x, r => by
    cases x
    obtain ⟨t, rfl⟩ := (show ∃ t, u = Value.str y t from r)
    exact .str y t
  | .tup ks, _, u, x, r => by
    obtain ⟨b, xs, rfl, q, z⟩ := x
    cases (show u = Value.ref b from r)
    obtain ⟨_, its, rv, o, e1, e2, n, e3⟩ := (show ObjOk P w H h b (.tup xs) from ok b _ q)
    exact .tuple e1 e2 e3 (by simpa using NVs.reads0 ok ks xs its z rv)
theorem NVs.reads0 {P : Program} {w : World} {H : Hp} {h : Heap} (ok : HOk P w H h) : ∀ (ks : List NestedKey) (vs : List V) (us : List Value), NVs H ks vs → Vals vs us → ReadsAll h us (NestedKey.datas ks) []
  | [], _, us, x, r => by
    cases x
    cases r
    exact .nil
  | k :: ks, _, us, x, r => by
    obtain ⟨y, t, rfl, q, z⟩ := x
    cases r with
    | cons r1 r2 => exact .cons (as := []) (bs := []) (NV.reads0 ok k y _ q r1) (NVs.reads0 ok ks t _ z r2)
end
abbrev EntR (h : Heap) : List (NestedKey × V) → List DictEntry → Prop := Paired fun p e => Reads h e.key p.1.data [] ∧ RelV p.2 e.val
section
variable {P : Program} {w : World} {H : Hp} {h : Heap}
theorem DX.entR (ok : HOk P w H h) {kd : Kd} {a : Addr} {kvs : List (NestedKey × V)} (x : DX P w kd H a kvs) : ∃ o es n, h.get? a = some o ∧ o.cls = .type "dict" ∧ o.data = .dict es n ∧ EntR h kvs es.toList := by
  cases kd with
  | i =>
    obtain ⟨o, e, z, hs, c, vs, es, ep, e1, e2, e3, e4, r⟩ := x
    have q : h.get? a = some o := (show ObjOk P w H h a (objO a o) from ok a _ e).1
    refine ⟨o, es, ep, q, c.1, e1, ?_⟩
    clear e4 e2 e1 z e
    revert e3 r
    generalize es.toList = l
    intro e3 r
    induction e3 generalizing kvs with
    | nil => cases r; exact .nil
    | @cons en kv es vs h1 h2 _ ih =>
      cases r with
      | cons r1 r2 =>
        refine .cons ⟨?_, ?_⟩ (ih r2)
        · rw [r1.1]
          obtain ⟨t, ht⟩ := Value.isInt_shape h1
          rw [ht]
          exact .int _ t
        · rw [h2]
          exact r1.2
  | t =>
    obtain ⟨o, e, z, hs, c, xs, es, ep, e1, e2, e3, r⟩ := x
    have q : h.get? a = some o := (show ObjOk P w H h a (objO a o) from ok a _ e).1
    refine ⟨o, es, ep, q, c.1, e1, ?_⟩
    rw [e2]
    clear e3 e2 e1 z e
    induction r with
    | nil => exact .nil
    | @cons p q ps qs hq t ih =>
      refine .cons ⟨?_, hq.2.2⟩ ih
      exact NV.reads0 ok _ _ _ hq.2.1.1 rfl
mutual
theorem DR.reads (ok : HOk P w H h) (nm : ∃ o es n, h.get? sysModules = some o ∧ o.data = .dict es n) : ∀ (d : PyData) (v : V) (u : Value), DR P w H d v → RelV v u → ∃ as, Reads h u d as ∧ sysModules ∉ as
  | .none, _, u, x, r => by
    cases x
    cases (show u = Value.none from r)
    exact ⟨[], .none, by simp⟩
  | .bool b, _, u, x, r => by
    cases x
    cases (show u = Value.bool b from r)
    exact ⟨[], .bool b, by simp⟩
  | .int i, _, u, x, r => by
    cases x
    obtain ⟨t, rfl⟩ := (show ∃ t, u = Value.int i t from r)
    exact ⟨[], .int i t, by simp⟩
  | .str y, _, u, x, r => by
    cases x
    obtain ⟨t, rfl⟩ := (show ∃ t, u = Value.str y t from r)
    exact ⟨[], .str y t, by simp⟩
  | .list ds, _, u, x, r => by
    obtain ⟨a, ys, rfl, q, z⟩ := x
    cases (show u = Value.ref a from r)
    obtain ⟨_, its, n, rv, e⟩ := (show ObjOk P w H h a (.lst ys) from ok a _ q)
    obtain ⟨as, h1, h2⟩ := DRs.reads ok nm ds ys its z rv
    refine ⟨a :: as, .list e rfl rfl (by simpa using h1), fun hm => ?_⟩
    rcases List.mem_cons.mp hm with e2 | hm
    · obtain ⟨o, es, n2, e3, e4⟩ := nm
      rw [e2, e] at e3
      cases e3
      cases e4
    · exact h2 hm
  | .tuple ds, _, u, x, r => by
    obtain ⟨a, ys, rfl, q, z⟩ := x
    cases (show u = Value.ref a from r)
    obtain ⟨_, its, rv, o, e1, e2, n, e3⟩ := (show ObjOk P w H h a (.tup ys) from ok a _ q)
    obtain ⟨as, h1, h2⟩ := DRs.reads ok nm ds ys its z rv
    exact ⟨as, .tuple e1 e2 e3 (by simpa using h1), h2⟩
  | .dict kvs, _, u, x, r => by
    obtain ⟨a, kd, xs, rfl, dx, z⟩ := x
    cases (show u = Value.ref a from r)
    obtain ⟨o, es, n, e1, e2, e3, er⟩ := dx.entR ok
    obtain ⟨_, hs⟩ : (∃ o, DX1 P w kd H a o xs) ∧ (a == sysModules) = false := ⟨dx, let ⟨_, _, _, hs, _⟩ := dx; hs⟩
    obtain ⟨h1, as, h2, h3⟩ := DRk.reads ok nm kvs xs _ z er
    refine ⟨_, .dict e1 e2 e3 h1 h2, fun hm => ?_⟩
    rcases List.mem_append.mp hm with hm | hm
    · rw [List.mem_singleton.mp hm] at hs
      simp at hs
    · exact h3 hm
theorem DRs.reads (ok : HOk P w H h) (nm : ∃ o es n, h.get? sysModules = some o ∧ o.data = .dict es n) : ∀ (ds : List PyData) (vs : List V) (us : List Value), DRs P w H ds vs → Vals vs us → ∃ as, ReadsAll h us ds as ∧ sysModules ∉ as
  | [], _, us, x, r => by
    cases x
    cases r
    exact ⟨[], .nil, by simp⟩
  | d :: ds, _, us, x, r => by
    obtain ⟨y, t, rfl, q, z⟩ := x
    cases r with
    | cons r1 r2 =>
      obtain ⟨as, h1, h2⟩ := DR.reads ok nm d y _ q r1
      obtain ⟨bs, h3, h4⟩ := DRs.reads ok nm ds t _ z r2
      exact ⟨as ++ bs, .cons h1 h3, fun hm => (List.mem_append.mp hm).elim h2 h4⟩
theorem DRk.reads (ok : HOk P w H h) (nm : ∃ o es n, h.get? sysModules = some o ∧ o.data = .dict es n) : ∀ (ds : List (PyData × PyData)) (kvs : List (NestedKey × V)) (es : List DictEntry), DRk P w H ds kvs → EntR h kvs es →
    ReadsAll h (es.map (·.key)) (ds.map (·.1)) [] ∧ ∃ as, ReadsAll h (es.map (·.val)) (ds.map (·.2)) as ∧ sysModules ∉ as
  | [], _, es, x, r => by
    cases x
    cases r
    exact ⟨.nil, [], .nil, by simp⟩
  | (k, d) :: ds, _, es, x, r => by
    obtain ⟨p, s, rfl, ek, q, z⟩ := x
    cases r with
    | cons r1 r2 =>
      obtain ⟨as, h1, h2⟩ := DR.reads ok nm d p.2 _ q r1.2
      obtain ⟨h3, bs, h4, h5⟩ := DRk.reads ok nm ds s _ z r2
      refine ⟨.cons (as := []) (bs := []) (by rw [ek]; exact r1.1) h3, as ++ bs, .cons h1 h4, fun hm => (List.mem_append.mp hm).elim h2 h5⟩
end
end
/-- the modules' table stands -/
def SysOk (base : Heap) : Prop := ∃ o es n, base.get? sysModules = some o ∧ o.data = .dict es n
def rReprD (P : Program) (w : World) : List V → Hp → VK → Prop := fun xs H Q => ∃ v d n W, xs = [v] ∧ DR P w H d v ∧ Fine n W d ∧ n ≤ 100 ∧ W ≤ 100000 ∧ Q (.str d.shown) H
section
variable {X : Cx}
theorem call_reprD (hg : X.A.guards = some []) (hb : SysOk X.base) (hu : X.A.units + 150 < cLine) : CallR X (.builtin "repr") (rReprD X.prog X.w) := by
  intro pins s σ H xs us Q I r h
  obtain ⟨v, d, n, W, rfl, hd, fn, hn, hW, q⟩ := h
  obtain ⟨u, rfl, r1⟩ := vals1 r
  have hz : d.shown.length ≤ sizeLine := Nat.le_trans (fn.len hW) (by decide)
  have hsys : ∃ o es n, s.heap.get? sysModules = some o ∧ o.data = .dict es n := by
    obtain ⟨o, es, m, e1, e2⟩ := hb
    exact ⟨o, es, m, I.bk _ _ e1, e2⟩
  obtain ⟨as, hr, hm⟩ := DR.reads I.hok hsys d v u hd r1
  have hdp := fn.dp
  have box : ∀ a, u = .ref a → wpAny (model X.prog X.w) X.A (call (.builtin "repr") [u]) (EP X pins σ Q) X.xe s := fun a e => by
    subst e
    exact repr_of_reads' (h₀ := s.heap) hr fn.sh (fun _ => hm) hg (by omega) (fun _ _ e => e) (fun h' u' tk hk => ⟨.str d.shown, H, I.kept hk, ⟨_, rfl⟩, q⟩) hz
  cases hr with
  | none => exact PySem.P.repr_of_none ⟨.str _, H, I.tok _, ⟨_, rfl⟩, q⟩
  | bool b => exact PySem.P.repr_of_bool ⟨.str _, H, I.tok _, ⟨_, by cases b <;> rfl⟩, q⟩
  | int i t =>
    have hi : i.natAbs.log2 < 1920 := by simpa [PyData.showable] using fn.sh
    exact PySem.P.repr_of_int hi ⟨.str _, H, I.tok _, ⟨_, rfl⟩, q⟩
  | str x t => exact PySem.P.repr_of_str ⟨.str _, H, I.tok _, ⟨_, rfl⟩, q⟩ hz
  | list _ _ _ _ => exact box _ rfl
  | tuple _ _ _ _ => exact box _ rfl
  | dict _ _ _ _ _ => exact box _ rfl
end
end WW


set_option maxHeartbeats 2000000

/-! promises of defs that look at the guards of the run -/
namespace WW
open PySem PySem.Spec PyProof.Rows L2
abbrev GPr := Around → Hp → Prop
/-- no repr is under way -/
def Idle : GPr := fun A _ => A.guards = some []
structure GnOk (Gp : GPr) (P : Program) (w : World) (K : PySem.W.Frag) (mg : Str → Option Value) (base : Heap) (k : Nat) (f : Addr) (fd : FuncData) (ps : List Str) (sp : Sp) : Prop where
  len : ∀ vs H Q E, sp vs H Q E → vs.length = ps.length
  run : ∀ (A : Around) (outer : List Env) (s : Shared) (H : Hp) (args : Args) (us : List Value) (vs : List V) (Q : VK) (E : XK), Gp A H → Room k A → Env0 P w K mg base A outer s H → BindsTo s fd args (ps.zip us) → Vals vs us → sp vs H Q E →
    codeAny (model P w) A (.call (.ref f) args) (CR CX0 outer P w H s Q E) s
section
variable {P : Program} {w : World} {K : PySem.W.Frag} {mg : Str → Option Value} {base : Heap} {Gp : GPr}
/-- a def by its body, the guards told -/
theorem gn_fun {x qual : Str} {st : Stmt} {f : Addr} {fd : FuncData} {N ps : List Str} {k : Nat} {sp : Sp} (F : Fun K x qual st f fd) (S : FnScope N ps (defScope st)) (ln : ∀ vs H Q E, sp vs H Q E → vs.length = ps.length)
    (body : ∀ (cdv : Value) (A : Around) (outer : List Env) (s : Shared) (H : Hp) (vs : List V) (Q : VK) (E : XK), Gp A H → Room k (A.deeper (envOfC qual (defScope st) s.heap.objs.size f cdv)) → sp vs H Q E →
      ∃ t, PSs (cxOf CX0 P w K mg base N qual (defScope st) f cdv A outer s H E).nox (defBody st) t ∧ t { nx := fun _ H' => Q .non H', rt := Q } (start N vs) H) : GnOk Gp P w K mg base (k + 1) f fd ps sp := by
  obtain ⟨oc, od, kV, doc, pm, an, cdv, ct, osl, rfl, lk, hcd⟩ := F.ex
  constructor
  · exact ln
  intro A outer s H args us vs Q E gp room env bnd rel pre
  have inBase : ∀ b o, base.get? b = some o → s.heap.get? b = some o := fun b o e => (env.bs b o e).1
  have kin := env.mod.kin.keeps inBase
  have noL := env.mod.nolimit.keeps inBase
  have params : ∀ y ∈ ps.zip us, (defScope st).names.lookup y.1 = some .local ∨ ((defScope st).names.lookup y.1 = some .cell ∧ ((cellsFrom (s.heap.objs.size + 1) (defScope st).names []).lookup y.1).isSome = true) := by
    rintro ⟨n, v⟩ hy
    exact (S.par n (List.of_mem_zip hy).1).imp id fun q => ⟨q, PySem.W.cellsFrom_some _ _ _ (.inl q)⟩
  refine codeAny_call_function room.depth (kin _ _ lk) rfl S.co S.gen rfl (PySem.W.codeRec_of kin hcd) (bnd _ _ _ _ (wpAny_newFunctionEnv_cells S.kind params fun env2 he s1 x => ?_))
  cases he
  obtain ⟨t, ht, hq⟩ := body cdv A outer s H vs Q E gp (room.deeper _) pre
  have I0 := inv_start (CX := CX0) (N := N) (E := E) S room.hd env (ln _ _ _ _ pre) rel x
  refine ⟨noL.keeps x.toInCall.keep, codeAny_func (wpAny_mono (ht.nox.run [] s1 (start N vs) H _ I0 hq) (fun fl s2 hs => ?_) fun e s2 hs => hs)⟩
  cases fl with
  | brk =>
    obtain ⟨_, _, _, z⟩ := hs
    exact z.elim
  | cont =>
    obtain ⟨_, _, _, z⟩ := hs
    exact z.elim
  | next =>
    obtain ⟨_, H2, J, q⟩ := hs
    exact ⟨.non, H2, J.os, J.bare, J.base, J.hok, rfl, q⟩
  | ret u =>
    obtain ⟨v, _, H2, J, rv, q⟩ := hs
    exact ⟨v, H2, J.os, J.bare, J.base, J.hok, rv, q⟩
end
section
variable {X : Cx} {k : Nat} {f : Addr} {fd : FuncData} {ps : List Str} {sp : Sp} {E : XK} {x : Str} {p pos : Pos} {e : Expr} {es : List Expr} {t : TA} {Gp : GPr}
theorem Sub.env {n : Nat} {A1 : Around} (sb : Sub X n A1) {pins : List (Addr × Obj)} {σ : L2.St} {H : Hp} {s : Shared} (I : Inv X pins σ H s) : Env0 X.prog X.w X.K X.mg X.base A1 X.stack s H := by
  have z := I.env0
  constructor
  · rw [sb.fr]
    exact z.frames
  · exact z.mod
  · exact z.bs
  · exact z.bsz
  · exact z.funs
  · exact z.frf
  · exact z.hok
  · exact z.bare
/-- the call itself, under anything that is no frame -/
theorem gn_run {A1 : Around} {pins : List (Addr × Obj)} {σ : L2.St} {H : Hp} {s : Shared} {Q : VK} {us : List Value} {vs : List V} (G : GnOk Gp X.prog X.w X.K X.mg X.base k f fd ps sp) (sb : Sub X k A1) (gp : Gp A1 H) (hb : Binds X.K fd ps []) (hx : Passes CX0 X E)
    (I : Inv X pins σ H s) (r : Vals vs us) (h : sp vs H Q E) : wpAny (model X.prog X.w) A1 (call (.ref f) us) (EP X pins σ Q) X.xe s := by
  have n1 : (us ++ ([] : List Value)).length = ps.length := by rw [List.append_nil, ← r.length]; exact G.len _ _ _ _ h
  have b1 := hb s us I.kIn n1
  rw [List.append_nil] at b1
  refine wpAny_call (codeAny_mono (G.run A1 X.stack s H ⟨us, []⟩ us vs Q E gp sb.room (Sub.env sb I) b1 r h) fun res s2 hq => ?_)
  rcases res with e | fl
  · exact hx pins σ H s e s2 I hq
  · rcases fl with _ | _ | _ | u
    · exact hq.elim
    · exact hq.elim
    · exact hq.elim
    · exact I.after hq
theorem pe_callG (G : GnOk Idle X.prog X.w X.K X.mg X.base k f fd ps sp) (gi : X.A.guards = some []) (hr : Room k X.A) (hg : Gl X x) (hm : X.mg x = some (.ref f)) (hk : PySem.W.keepIn X.K (.ref f) = true) (hb : Binds X.K fd ps []) (hx : Passes CX0 X E)
    (ha : PA X (e :: es) t) (hdb : (x == ("__debug__" : Str)) = false := by decide) (he : starEach (e :: es) X.env = (false, eval e X.env) :: starEach es X.env := by rfl) (hpl : (backTo pos (starEach es X.env)).any (·.1) = false := by rfl) :
    PE X (.Call (.Name x p) (e :: es) [] pos) (tCall sp [] E t) := by
  constructor
  intro pins s σ H Q I h
  refine wpAny_Call_Name_kw (ld_glob I hg hm (PySem.W.callWith_K (h₀ := X.base) I.ok.mod.kin hk (thn (ha.run pos pins s σ H _ I h) fun us s1 ⟨vs, H1, I1, r1, q1⟩ => ⟨I1.kIn, ?_⟩) he hpl) hdb)
  have q1 : sp (vs ++ []) H1 Q E := q1
  rw [List.append_nil] at q1
  exact gn_run G ⟨hr, rfl⟩ gi hb hx I1 r1 q1
/-- f(k = v, ..), all by keyword -/
theorem pe_callK0 {ks : List Str} {kws : List Keyword} {tk : TA} {g : List Value → List Value → List Value} {gV : List V → List V → List V} (F : FnOk X.prog X.w X.K X.mg X.base CX0 k f fd ps sp) (hr : Room k X.A) (hg : Gl X x) (hm : X.mg x = some (.ref f)) (hk : PySem.W.keepIn X.K (.ref f) = true) (hb : KBinds X.K fd ps ks g gV) (hx : Passes CX0 X E)
    (hkw : PK X kws tk) (hall : (backToKw pos (keywordEach kws X.env)).all (·.1.isSome) = true := by rfl) (hks : (backToKw pos (keywordEach kws X.env)).filterMap (·.1) = ks := by rfl) (hdb : (x == ("__debug__" : Str)) = false := by decide)
    (hpl : ((backTo pos (starEach [] X.env)).any (·.1) || (backToKw pos (keywordEach kws X.env)).any (·.1.isNone)) = false := by rfl) :
    PE X (.Call (.Name x p) [] kws pos) (tCallK sp gV E tNil tk) := by
  constructor
  intro pins s σ H Q I h
  refine wpAny_Call_Name_kw (ld_glob I hg hm (PySem.W.callWith_KW0 (h₀ := X.base) I.ok.mod.kin hk hall (thn (hkw.run pos pins s σ H _ I h) fun ws s2 ⟨zs, H2, I2, rz, q2⟩ => ⟨I2.kIn, ?_⟩) hpl) hdb)
  rw [hks]
  exact run_fnk (us := []) (vs := []) F hr hb hx I2 .nil rz q2
end
end WW


set_option maxHeartbeats 2000000

/-! repr within repr: the guards name no data -/
namespace WW
open PySem PySem.Spec PyProof.Rows L2
def UnR (H : Hp) (l : Addr) : Prop := ∃ p xs C dx fs, H l = some (.lst (.ref p :: xs)) ∧ H p = some (.ins C dx fs)
theorem UnR.same {H H' : Hp} {l : Addr} (h : UnR H l) (s : Same H H') : UnR H' l := let ⟨p, xs, C, dx, fs, a, b⟩ := h; ⟨p, xs, C, dx, fs, s _ _ a, s _ _ b⟩
def GdOk : GPr := fun A H => ∃ g, A.guards = some g ∧ ∀ id v rest kw, Code.builtin id ⟨v :: rest, kw⟩ ∈ g → ∃ l, v = .ref l ∧ UnR H l
section
variable {P : Program} {w : World} {H : Hp} {h : Heap}
theorem unread (ok : HOk P w H h) {l : Addr} (u : UnR H l) {d : PyData} {as : List Addr} (r : Reads h (.ref l) d as) : False := by
  obtain ⟨p, xs, C, dx, fs, e1, e2⟩ := u
  obtain ⟨_, its, n, rv, el⟩ := (show ObjOk P w H h l (.lst (.ref p :: xs)) from ok l _ e1)
  obtain ⟨_, _, _, ep, _⟩ := (show ObjOk P w H h p (.ins C dx fs) from ok p _ e2)
  cases rv with
  | @cons _ u0 _ us r1 r2 =>
    cases (show u0 = Value.ref p from r1)
    cases r with
    | list h1 h2 h3 h4 =>
      rw [el] at h1
      cases h1
      injection h3 with h3
      subst h3
      cases h4 with
      | cons r3 r4 =>
        cases r3 with
        | list k1 k2 => rw [ep] at k1; cases k1; cases k2
        | tuple k1 k2 => rw [ep] at k1; cases k1; cases k2
        | dict k1 k2 => rw [ep] at k1; cases k1; cases k2
    | tuple h1 h2 =>
      rw [el] at h1
      cases h1
      injection h2 with h2
      exact absurd h2 (by decide)
    | dict h1 h2 =>
      rw [el] at h1
      cases h1
      injection h2 with h2
      exact absurd h2 (by decide)
theorem clear_of (ok : HOk P w H h) {g : List Code} (hg : ∀ id v rest kw, Code.builtin id ⟨v :: rest, kw⟩ ∈ g → ∃ l, v = .ref l ∧ UnR H l) {b : Addr} {d : PyData} {as : List Addr} (r : Reads h (.ref b) d as) : Clear g b := fun id v rest kw hm e => by
  obtain ⟨l, rfl, u⟩ := hg id v rest kw hm
  cases e
  exact unread ok u r
end
theorem repr_listG {P : Program} {w : World} {A : Around} {E : Value → Shared → Prop} {s : Shared} {h0 : Heap} {a : Addr} {xs : List PyData} {as : List Addr} {g : List Code} {Q : Value → Shared → Prop} (r : Reads h0 (.ref a) (.list xs) as) (hs : (PyData.list xs).showable = true) (hsm : sysModules ∉ as) (ne : xs ≠ [])
    (hg : A.guards = some g) (cl : ∀ b d as, Reads h0 (.ref b) d as → Clear g b) (hu : A.units + (PyData.list xs).depth < cLine) (hk0 : ∀ b o, h0.get? b = some o → s.heap.get? b = some o)
    (hQ : ∀ h' u tk, (∀ b o, s.heap.get? b = some o → h'.get? b = some o) → Q (.str (PyData.list xs).shown u) { s with heap := h', toks := tk }) (hsz : (PyData.list xs).shown.length ≤ sizeLine) : wpAny (model P w) A (pyReprObj (.ref a)) Q E s := by
  cases r with
  | @list _ o vs n _ bs0 h1 h2 h3 h4 =>
    have sz : (listText (PyData.shownAll xs)).length ≤ sizeLine := hsz
    obtain ⟨bs, hb, hk⟩ := ReprAllK.of_readsAll (prog := P) (w := w) h4 (show PyData.showableAll xs = true from hs) (fun _ hm => hsm (List.mem_cons_of_mem _ hm)) fun t ht => Nat.le_trans (listText_mem_le ht) sz
    have self : Reads h0 (.ref a) (.list xs) (a :: bs0) := .list h1 h2 h3 h4
    have dp : (PyData.list xs).depth = PyData.depthAll xs + 1 := rfl
    have out : a ∉ bs := not_mem_of_deeper self (by omega) hb
    have clr : ∀ b ∈ a :: bs, Clear g b := fun b hm => by
      rcases List.mem_cons.mp hm with e | hm
      · rw [e]
        exact cl _ _ _ self
      · obtain ⟨d, as2, r2, _⟩ := hb b hm
        exact cl _ _ _ r2
    obtain ⟨l⟩ := vs
    cases l with
    | nil =>
      cases (show ReadsAll h0 [] xs bs0 from h4)
      exact (ne rfl).elim
    | cons x l =>
      exact wpAny_pyReprObj_listK h1 h2 h3 out (by simpa using hk.length_eq) (fun i y e => hk.item i y (by simpa using e)) hg clr (by omega) hk0 hQ sz
section
variable {X : Cx}
/-- {e!r} of a list of plain data -/
def tFmtD (A : Around) (P : Program) (w : World) (te : TE) : TE := fun σ H Q => te σ H fun x H1 => ∃ ds n W, DR P w H1 (.list ds) x ∧ ds ≠ [] ∧ Fine n W (.list ds) ∧ n ≤ 100 ∧ W ≤ 100000 ∧ GdOk A H1 ∧ Q (.str (PyData.list ds).shown) H1
theorem pe_fmtD {e : Expr} {te : TE} {pos : Pos} (hb : SysOk X.base) (hu : X.A.units + 150 < cLine) (he : PE X e te) : PE X (.FormattedValue e 114 none pos) (tFmtD X.A X.prog X.w te) := by
  refine ⟨fun pins s σ H Q I h => wpAny_FormattedValue_repr (thn (he.run pins s σ H _ I h) fun v s1 hv => ?_)⟩
  obtain ⟨x, H1, I1, r1, ds, n, W, hd, ne, fn, hn, hW, ⟨g, hg, gd⟩, q⟩ := hv
  have hz : (PyData.list ds).shown.length ≤ sizeLine := Nat.le_trans (fn.len hW) (by decide)
  have hsys : ∃ o es n, s1.heap.get? sysModules = some o ∧ o.data = .dict es n := by
    obtain ⟨o, es, m, e1, e2⟩ := hb
    exact ⟨o, es, m, I1.bk _ _ e1, e2⟩
  obtain ⟨as, hr, hm⟩ := DR.reads I1.hok hsys _ _ v hd r1
  have hdp := fn.dp
  obtain ⟨a, ys, rfl, _⟩ := hd
  cases (show v = Value.ref a from r1)
  refine repr_listG (h0 := s1.heap) hr fn.sh hm ne hg (fun b d as r => clear_of I1.hok gd r) (by omega) (fun _ _ e => e) (fun h' u tk hk => ?_) hz
  have I2 : Inv X pins σ H1 { s1 with heap := h', toks := tk } := I1.kept hk
  exact wpAny_formatField_str ⟨.str _, H1, I2, ⟨_, rfl⟩, q⟩ ⟨.str _, H1, I2.tok _, ⟨_, rfl⟩, q⟩ hz
end
/-! a pattern's text -/
def rowD (r : IRow) : PyData := .dict (r.map fun p => ((lk p.1).data, .int p.2))
def goesD (A : List IRow) : PyData := .list (A.map rowD)
def patText (d : Nat) (A : List IRow) : Str := ((((Str.empty ++ "Pattern(") ++ toString (d : Int)) ++ ", ") ++ (goesD A).shown) ++ ")"
section
variable {P : Program} {w : World} {K : PySem.W.Frag} {mg : Str → Option Value} {base : Heap} {H : Hp}
theorem row_dr {a : Addr} {r : IRow} (h : RowI P w H a r) : DR P w H (rowD r) (.ref a) := by
  refine ⟨a, .t, _, rfl, h, ?_⟩
  have : ∀ r : IRow, DRk P w H (r.map fun p => ((lk p.1).data, PyData.int p.2)) (rowKv r) := by
    intro r
    induction r with
    | nil => exact rfl
    | cons p r ih => exact ⟨_, _, rfl, rfl, rfl, ih⟩
  exact this r
theorem rows_dr : ∀ {L : List Addr} {A : List IRow}, RowsA P w H L A → DRs P w H (A.map rowD) (L.map V.ref)
  | _, _, .nil => rfl
  | _, _, .cons h t => ⟨_, _, rfl, row_dr h, rows_dr t⟩
theorem goes_dr {g : Addr} {A : List IRow} (h : GoesA P w H g A) : DR P w H (goesD A) (.ref g) := by
  obtain ⟨L, hg, hL⟩ := h
  exact ⟨g, _, rfl, hg, rows_dr hL⟩
theorem datas_num : ∀ l : List Int, NestedKey.datas (l.map .num) = l.map PyData.int
  | [] => rfl
  | i :: l => by
    show PyData.int i :: NestedKey.datas (l.map .num) = _
    rw [datas_num l]
    rfl
theorem u150 {k : Nat} {A : Around} (h : Room k A) : A.units + 150 < cLine := by have := h.un; omega
theorem fine_lk {d : Nat} {l : Ltr} (h : Lw d l) (hd : d ≤ 4) : Fine 1 32 (lk l).data := by
  have e : (lk l).data = .tuple (l.map .int) := congrArg PyData.tuple (datas_num l)
  rw [e]
  refine fine_tuple (n := 0) (W := 7) (m := 4) (fun x hx => ?_) (by rw [List.length_map, h.1]; exact hd)
  obtain ⟨i, hi, rfl⟩ := List.mem_map.mp hx
  rcases h.2 i hi with rfl | rfl
  · exact fine_int (by decide) (by decide)
  · exact fine_int (by decide) (by decide)
theorem fine_goes {d : Nat} {A : List IRow} (ok : GoesOk d A) (hd : d ≤ 4) : Fine 3 63420 (goesD A) := by
  refine fine_list (n := 2) (W := 1056) (m := 60) (fun x hx => ?_) (by rw [List.length_map]; exact ok.2.2)
  obtain ⟨r, hr, rfl⟩ := List.mem_map.mp hx
  obtain ⟨o1, o2, o3, o4⟩ := ok.1 r hr
  refine fine_dict (n := 1) (W := 32) (m := 16) (fun p hp => ?_) (by rw [List.length_map]; exact o4)
  obtain ⟨q, hq, rfl⟩ := List.mem_map.mp hp
  have r3 := o3 q hq
  have l3 := ok.2.2
  exact ⟨fine_lk (o1 q hq) hd, (fine_int (by omega) (by omega)).mono (by decide) (by decide)⟩
abbrev sPRepr : Stmt := inClass (top 24) 13
theorem scP13 : FnScope ["self"] ["self"] (defScope sPRepr) := ⟨rfl, rfl, rfl, by decide +kernel, rfl, by decide +kernel, by decide +kernel⟩
def spPRepr (P : Program) (w : World) (C : Addr) : Sp := fun vs H Q _ => ∃ (p : Addr) (d : Nat) (A : List IRow), vs = [.ref p] ∧ PatAt P w C H p d A ∧ GoesOk d A ∧ d ≤ 4 ∧ Q (.str (patText d A)) H
theorem ok_prepr {C : Addr} (T : PatC K mg C) (hb : SysOk base) (D : Md K C "__repr__" "Pattern.__repr__" sPRepr ["self"]) : GnOk GdOk P w K mg base 1 D.f D.fd ["self"] (spPRepr P w C) := by
  refine gn_fun D.F scP13 (fun vs H Q E h => ?_) (fun cdv A outer s H vs Q E gd hr h => ?_)
  · obtain ⟨p, d, A, rfl, _⟩ := h
    rfl
  · obtain ⟨p, d, A', rfl, hp, ok, hd, q⟩ := h
    have gd2 : GdOk (A.deeper (envOfC "Pattern.__repr__" (defScope sPRepr) s.heap.objs.size D.f cdv)) H := gd
    refine ⟨_, pss_one (ps_ret (pe_joined (.cons pe_str (.cons (pe_fmtR (pe_wid T (pv 0))) (.cons pe_str (.cons (pe_fmtD hb (u150 hr) (pe_goes T (pv 0))) (.cons pe_str .nil))))))), ?_⟩
    have fg := fine_goes ok hd
    have lg := fg.len (by decide)
    have ld : (toString (d : Int) : Str).length ≤ 10 := by
      have key : ∀ n : Nat, n < 5 → (toString (n : Int) : Str).length ≤ 10 := by decide +kernel
      exact key d (by omega)
    have l1 : ((Str.empty ++ "Pattern(" : Str)).length = 8 := by decide +kernel
    have l2 : ((", " : String) : Str).length = 2 := rfl
    have l3 : ((")" : String) : Str).length = 1 := rfl
    have big : 2000000 ≤ sizeLine := by decide
    refine ⟨_, rfl, by rw [l1]; omega, ?_⟩
    refine ⟨_, rfl, p, d, A', rfl, hp, .inr ⟨(d : Int), rfl, ?_, ?_⟩⟩
    · have key : ∀ n : Nat, n < 5 → (n : Int).natAbs.log2 < 1920 := by decide +kernel
      exact key d (by omega)
    refine ⟨_, rfl, by rw [strLen_append, l1]; omega, ?_⟩
    refine ⟨_, rfl, by rw [strLen_append, strLen_append, l1, l2]; omega, ?_⟩
    refine ⟨_, rfl, p, d, A', rfl, hp, fun g hg => ⟨A'.map rowD, 3, 63420, goes_dr hg, ?_, fg, by decide, by decide, gd2, ?_⟩⟩
    · intro e
      have e1 : (A'.map rowD).length = 0 := by rw [e]; rfl
      rw [List.length_map] at e1
      have e2 := ok.2.1
      omega
    refine ⟨_, rfl, by rw [strLen_append, strLen_append, strLen_append, l1, l2]; have : (PyData.list (A'.map rowD)).shown.length ≤ 1000010 := lg; omega, ?_⟩
    refine ⟨_, rfl, by rw [strLen_append, strLen_append, strLen_append, strLen_append, l1, l2, l3]; have : (PyData.list (A'.map rowD)).shown.length ≤ 1000010 := lg; omega, ?_⟩
    exact q
end
end WW


set_option maxHeartbeats 2000000

/-! sorted rows lead alike; one table, one least word; their sizes -/
namespace WW
open PySem PySem.Spec PyProof.Rows L2
theorem sorted_len {A A' : List IRow} (h : Paired SortedOf A A') : A'.length = A.length := (Paired.length h).symm
theorem step_sorted {d : Nat} {A A' : List IRow} (h : Paired SortedOf A A') (ok : GoesOk d A) (i : Int) (l : Ltr) : stepR A' i l = stepR A i l := by
  unfold stepR rowAt
  rw [List.getD_eq_getElem?_getD, List.getD_eq_getElem?_getD]
  cases e : A[i.toNat]? with
  | none =>
    have : A'[i.toNat]? = none := by
      rw [List.getElem?_eq_none_iff] at e ⊢
      rw [sorted_len h]
      exact e
    rw [this]
  | some r =>
    obtain ⟨r', e', s⟩ := paired_get1 h e
    rw [e']
    exact at1_perm (ok.1 r (List.mem_of_getElem? e)).2.1 s.1 l
theorem run_sorted {d : Nat} {A A' : List IRow} (h : Paired SortedOf A A') (ok : GoesOk d A) : ∀ (u : List Ltr) (i : Int), runR A' i u = runR A i u
  | [], _ => rfl
  | l :: u, i => by
    show ((stepR A' i l).bind fun j => runR A' j u) = ((stepR A i l).bind fun j => runR A j u)
    rw [step_sorted h ok]
    congr 1
    funext j
    exact run_sorted h ok u j
theorem goes_sorted {d : Nat} {A A' : List IRow} (h : Paired SortedOf A A') (ok : GoesOk d A) : GoesOk d A' := by
  have l := sorted_len h
  refine ⟨fun r' hr' => ?_, by rw [l]; exact ok.2.1, by rw [l]; exact ok.2.2⟩
  obtain ⟨i, hi⟩ := List.mem_iff_getElem?.mp hr'
  obtain ⟨r, hr, s⟩ := paired_get2 h hi
  obtain ⟨a, b, c, e⟩ := ok.1 r (List.mem_of_getElem? hr)
  rw [l]
  exact ⟨fun p hp => a p (s.1.mem_iff.mp hp), (s.1.map (·.1)).nodup_iff.mpr b, fun p hp => c p (s.1.mem_iff.mp hp), by rw [s.1.length_eq]; exact e⟩
theorem srow_sorted {A A' : List IRow} (h : Paired SortedOf A A') : ∀ r ∈ A', SRow r := fun r' hr' => by
  obtain ⟨i, hi⟩ := List.mem_iff_getElem?.mp hr'
  obtain ⟨r, hr, s⟩ := paired_get2 h hi
  exact s.2
section
variable {d : Nat} {A A' B B' : List IRow} (hA : Paired SortedOf A A') (hB : Paired SortedOf B B') (oA : GoesOk d A) (oB : GoesOk d B)
include hA hB oA oB
theorem bad_sorted (u : List Ltr) : Bad A' B' u ↔ Bad A B u := by
  unfold Bad
  rw [run_sorted hA oA, run_sorted hB oB]
theorem reach_sorted (p : Int × Int) : Reach A' B' p ↔ Reach A B p := by
  unfold Reach
  constructor
  · rintro ⟨u, h1, h2⟩
    exact ⟨u, by rw [← run_sorted hA oA]; exact h1, by rw [← run_sorted hB oB]; exact h2⟩
  · rintro ⟨u, h1, h2⟩
    exact ⟨u, by rw [run_sorted hA oA]; exact h1, by rw [run_sorted hB oB]; exact h2⟩
theorem lbad_sorted (u : List Ltr) : LeastBad A' B' u ↔ LeastBad A B u := by
  unfold LeastBad
  rw [bad_sorted hA hB oA oB]
  constructor
  · rintro ⟨h1, h2⟩
    exact ⟨h1, fun v hv => h2 v ((bad_sorted hA hB oA oB v).mpr hv)⟩
  · rintro ⟨h1, h2⟩
    exact ⟨h1, fun v hv => h2 v ((bad_sorted hA hB oA oB v).mp hv)⟩
theorem tab_sorted (x : PyData) : IsTab A' B' x ↔ IsTab A B x := by
  unfold IsTab Stays
  have e1 : ∀ i l, stepR A' i l = stepR A i l := step_sorted hA oA
  have e2 : ∀ i l, stepR B' i l = stepR B i l := step_sorted hB oB
  simp only [e1, e2, sorted_len hA, sorted_len hB]
end
/-! one table -/
theorem alike_pkI (a b : Int × Int) : PySem.W.alike (pkI a).data (pkI b).data = true := alike_lk _ _
theorem spairs_one {ps qs : List (Int × Int)} (n1 : ps.Nodup) (n2 : qs.Nodup) (s1 : SPairs ps) (s2 : SPairs qs) (h : ∀ p, p ∈ ps ↔ p ∈ qs) : ps = qs := by
  have p : ps.Perm qs := (List.perm_ext_iff_of_nodup n1 n2).mpr h
  exact List.Perm.eq_of_pairwise (le := fun p q => keyLe (pkI p) (pkI q) = true) (fun a b _ _ x y => pkI_inj (keyLe_anti (alike_pkI a b) x y)) s1 s2 p
/-- what a table is, as data -/
def tabD : Option (List (Int × Int)) → PyData
  | none => .none
  | some ps => .list (ps.map pkD)
def wordD (u : List Ltr) : PyData := .list (u.map fun l => (lk l).data)
def aloneD : Option (List Ltr) → PyData
  | none => .none
  | some u => wordD u
def TabO (A B : List IRow) : Option (List (Int × Int)) → Prop
  | none => ∃ u, Bad A B u
  | some ps => SPairs ps ∧ ps.Nodup ∧ (∀ u, ¬ Bad A B u) ∧ ∀ p, p ∈ ps ↔ Reach A B p
def AloneO (A B : List IRow) : Option (List Ltr) → Prop
  | none => ∀ u, ¬ Bad A B u
  | some u => LeastBad A B u
theorem tabO_one {A B : List IRow} : ∀ {a b : Option (List (Int × Int))}, TabO A B a → TabO A B b → a = b
  | none, none, _, _ => rfl
  | some ps, some qs, h, g => congrArg some (spairs_one h.2.1 g.2.1 h.1 g.1 fun p => (h.2.2.2 p).trans (g.2.2.2 p).symm)
  | none, some qs, ⟨u, hu⟩, g => (g.2.2.1 u hu).elim
  | some ps, none, h, ⟨u, hu⟩ => (h.2.2.1 u hu).elim
theorem aloneO_one {A B : List IRow} : ∀ {a b : Option (List Ltr)}, AloneO A B a → AloneO A B b → a = b
  | none, none, _, _ => rfl
  | some u, some v, h, g => congrArg some (least_one h g)
  | none, some u, h, g => (h u g.1).elim
  | some u, none, h, g => (g u h.1).elim
section
variable {d : Nat} {A A' B B' : List IRow} (hA : Paired SortedOf A A') (hB : Paired SortedOf B B') (oA : GoesOk d A) (oB : GoesOk d B)
include hA hB oA oB
theorem tabO_sorted : ∀ {o : Option (List (Int × Int))}, TabO A' B' o → TabO A B o
  | none, ⟨u, h⟩ => ⟨u, (bad_sorted hA hB oA oB u).mp h⟩
  | some ps, ⟨h1, h2, h3, h4⟩ => ⟨h1, h2, fun u hu => h3 u ((bad_sorted hA hB oA oB u).mpr hu), fun p => (h4 p).trans (reach_sorted hA hB oA oB p)⟩
theorem aloneO_sorted : ∀ {o : Option (List Ltr)}, AloneO A' B' o → AloneO A B o
  | none, h => fun u hu => h u ((bad_sorted hA hB oA oB u).mpr hu)
  | some u, h => (lbad_sorted hA hB oA oB u).mp h
end
/-! sizes -/
theorem run_lw {d : Nat} {A : List IRow} (ok : GoesOk d A) : ∀ (u : List Ltr) (i : Int), 0 ≤ i → i < (A.length : Int) → (runR A i u).isSome = true → ∀ l ∈ u, Lw d l
  | [], _, _, _, _, l, hl => nomatch hl
  | x :: u, i, h0, h1, h, l, hl => by
    have h : ((stepR A i x).bind fun j => runR A j u).isSome = true := h
    cases e : stepR A i x with
    | none => rw [e] at h; cases h
    | some j =>
      rw [e] at h
      have st := ok.step h0 h1 e
      rcases List.mem_cons.mp hl with rfl | hl
      · exact st.1
      · exact run_lw ok u j st.2.1 st.2.2 h l hl
theorem lbad_len {d : Nat} {A B : List IRow} (oA : GoesOk d A) (oB : GoesOk d B) {u : List Ltr} (h : LeastBad A B u) : u.length ≤ A.length * B.length + 1 := by
  obtain ⟨v, x, t, a, b, g, rfl, r1, r2, r3, r4⟩ := bad_split h.1
  have bad2 : Bad A B (v ++ [x]) := by
    refine ⟨?_, ?_⟩
    · rw [run_snoc0, r1]
      show (stepR A a x).isSome = true
      rw [r3]
      rfl
    · rw [run_snoc0, r2]
      exact r4
  have et : t = [] := by
    cases t with
    | nil => rfl
    | cons y t =>
      have z := h.2 _ bad2
      have z2 := slt_ext (v ++ [x]) y t
      rw [List.append_assoc] at z2
      exact absurd (slt_sle z2 z) (slt_irrefl _)
  subst et
  -- the places along v
  have at_ : ∀ i : Nat, i ≤ v.length → ∃ p : Int × Int, runR A 0 (v.take i) = some p.1 ∧ runR B 0 (v.take i) = some p.2 := by
    intro i hi
    have e : v = v.take i ++ v.drop i := (List.take_append_drop i v).symm
    rw [e, run_app] at r1 r2
    obtain ⟨a0, ha, _⟩ := Option.bind_eq_some_iff.mp r1
    obtain ⟨b0, hb, _⟩ := Option.bind_eq_some_iff.mp r2
    exact ⟨(a0, b0), ha, hb⟩
  have at2 : ∀ i : Nat, ∃ p : Int × Int, i ≤ v.length → runR A 0 (v.take i) = some p.1 ∧ runR B 0 (v.take i) = some p.2 := fun i => by
    by_cases hi : i ≤ v.length
    · obtain ⟨p, hp⟩ := at_ i hi
      exact ⟨p, fun _ => hp⟩
    · exact ⟨(0, 0), fun z => absurd z hi⟩
  obtain ⟨f, hf⟩ := Classical.axiomOfChoice at2
  have inj : ∀ i j : Nat, i < j → j ≤ v.length → f i ≠ f j := by
    intro i j hij hj e
    have h1 := hf i (by omega)
    have h2 := hf j hj
    rw [e] at h1
    -- the way round is left out
    have key : ∀ (R : List IRow) (q : Int), runR R 0 (v.take i) = some q → runR R 0 (v.take j) = some q → runR R 0 ((v.take i ++ v.drop j) ++ [x]) = runR R 0 (v ++ [x]) := by
      intro R q k1 k2
      have e2 : v = v.take j ++ v.drop j := (List.take_append_drop j v).symm
      have : runR R 0 (v.take i ++ v.drop j) = runR R 0 v := by
        rw [run_app, k1]
        conv => rhs; rw [e2, run_app, k2]
      rw [run_snoc0, run_snoc0, this]
    have kA := key A _ h1.1 h2.1
    have kB := key B _ h1.2 h2.2
    have bad3 : Bad A B ((v.take i ++ v.drop j) ++ [x]) := by
      unfold Bad
      rw [kA, kB]
      exact bad2
    have z := h.2 _ bad3
    have sh : ((v.take i ++ v.drop j) ++ [x]).length < (v ++ [x]).length := by
      simp only [List.length_append, List.length_take, List.length_drop, List.length_cons, List.length_nil]
      omega
    exact absurd (slt_sle (.inl sh) z) (slt_irrefl _)
  have nd : ((List.range (v.length + 1)).map f).Nodup := by
    rw [List.nodup_iff_pairwise_ne, List.pairwise_map]
    refine List.Pairwise.imp_of_mem (R := fun i j => i < j) (fun {i j} hi hj hij => ?_) List.pairwise_lt_range
    exact inj i j hij (by have := List.mem_range.mp hj; omega)
  have few := pairs_few (n := A.length) (m := B.length) nd fun p hp => by
    obtain ⟨i, hi, rfl⟩ := List.mem_map.mp hp
    have hi := List.mem_range.mp hi
    exact reach_range oA oB ⟨v.take i, hf i (by omega)⟩
  rw [List.length_map, List.length_range] at few
  rw [List.length_append]
  show v.length + 1 ≤ _
  omega
theorem fine_word {d : Nat} {A B : List IRow} (oA : GoesOk d A) (oB : GoesOk d B) (hd : d ≤ 4) (lA : A.length ≤ 4) (lB : B.length ≤ 4) {u : List Ltr} (h : LeastBad A B u) : Fine 2 561 (wordD u) := by
  have l := lbad_len oA oB h
  have m : A.length * B.length ≤ 4 * 4 := Nat.mul_le_mul lA lB
  refine fine_list (n := 1) (W := 32) (m := 17) (fun x hx => ?_) (by rw [List.length_map]; omega)
  obtain ⟨y, hy, rfl⟩ := List.mem_map.mp hx
  exact fine_lk (run_lw oA u 0 (by omega) (by have := oA.2.1; omega) h.1.1 y hy) hd
theorem fine_aloneO {d : Nat} {A B : List IRow} (oA : GoesOk d A) (oB : GoesOk d B) (hd : d ≤ 4) (lA : A.length ≤ 4) (lB : B.length ≤ 4) : ∀ {o : Option (List Ltr)}, AloneO A B o → Fine 2 561 (aloneD o)
  | none, _ => fine_none.mono (by decide) (by decide)
  | some u, h => fine_word oA oB hd lA lB h
theorem fine_tabO {d : Nat} {A B : List IRow} (oA : GoesOk d A) (oB : GoesOk d B) (lA : A.length ≤ 4) (lB : B.length ≤ 4) : ∀ {o : Option (List (Int × Int))}, TabO A B o → Fine 2 561 (tabD o)
  | none, _ => fine_none.mono (by decide) (by decide)
  | some ps, h => by
    have rg : ∀ p ∈ ps, 0 ≤ p.1 ∧ p.1 < (A.length : Int) ∧ 0 ≤ p.2 ∧ p.2 < (B.length : Int) := fun p hp => reach_range oA oB ((h.2.2.2 p).mp hp)
    have few := pairs_few h.2.1 rg
    have m : A.length * B.length ≤ 4 * 4 := Nat.mul_le_mul lA lB
    refine (fine_list (n := 1) (W := 16) (m := 16) (fun x hx => ?_) (by rw [List.length_map]; omega)).mono (by decide) (by decide)
    obtain ⟨p, hp, rfl⟩ := List.mem_map.mp hx
    have := rg p hp
    exact fine_pk (by omega) (by omega) (by omega) (by omega)
end WW


set_option maxHeartbeats 2000000

/-! making plain data, read through a view of the heap -/
namespace WW
open PySem PySem.Spec PyProof.Rows L2
structure Vw (I : Hp → Prop) (vw : Hp → Hp) : Prop where
  same : ∀ {H H' : Hp}, Same H H' → I H → I H'
  mono : ∀ {H H' : Hp}, Same H H' → Same (vw H) (vw H')
  sub : ∀ {H : Hp}, Same (vw H) H
  new : ∀ {H : Hp} {a : Addr}, I H → H a = none → ∀ H' : Hp, vw H' a = H' a
  tups : ∀ {H : Hp}, I H → Tups H (vw H)
  ext : ∀ {H : Hp} {a : Addr} {o : HO}, I H → (∃ φ, H a = some (.ext φ)) → H a = some o → vw H a = some o
  loc : ∀ {H H' : Hp} {c : Addr}, H c = H' c → vw H c = vw H' c
def hole (p : Addr) (vw : Hp → Hp) : Hp → Hp := fun H a => if a = p then none else vw H a
theorem hole_ne {p a : Addr} {vw : Hp → Hp} {H : Hp} (h : a ≠ p) : hole p vw H a = vw H a := if_neg h
theorem hole_sub {p : Addr} {vw : Hp → Hp} {H : Hp} : Same (hole p vw H) (vw H) := fun a o e => by
  by_cases h : a = p
  · rw [h] at e
    unfold hole at e
    rw [if_pos rfl] at e
    cases e
  · rw [hole_ne h] at e
    exact e
theorem vw_id {I : Hp → Prop} (h : ∀ {H H' : Hp}, Same H H' → I H → I H') : Vw I id :=
  ⟨h, fun s => s, fun _ _ e => e, fun _ _ _ => rfl, fun _ _ _ e => e, fun _ _ e => e, fun e => e⟩
theorem vw_hole {I I2 : Hp → Prop} {vw : Hp → Hp} {p : Addr} (Z : Vw I vw) (h : ∀ {H : Hp}, I2 H → I H ∧ ∃ xs, H p = some (.lst xs)) (s : ∀ {H H' : Hp}, Same H H' → I2 H → I2 H') : Vw I2 (hole p vw) := by
  refine ⟨s, fun {H H'} sm a o e => ?_, fun {H} a o e => Z.sub _ _ (hole_sub _ _ e), fun {H a} hi ha H' => ?_, fun {H} hi c xs e => ?_, fun {H a o} hi hx e => ?_, fun {H H' c} e => ?_⟩
  · by_cases q : a = p
    · rw [q] at e
      unfold hole at e
      rw [if_pos rfl] at e
      cases e
    · rw [hole_ne q] at e ⊢
      exact Z.mono sm _ _ e
  · have q : a ≠ p := fun q => by
      obtain ⟨xs, e⟩ := (h hi).2
      rw [← q, ha] at e
      cases e
    rw [hole_ne q]
    exact Z.new (h hi).1 ha H'
  · have q : c ≠ p := fun q => by
      obtain ⟨ys, e2⟩ := (h hi).2
      rw [← q, e] at e2
      cases e2
    rw [hole_ne q]
    exact Z.tups (h hi).1 _ _ e
  · have q : a ≠ p := fun q => by
      obtain ⟨ys, e2⟩ := (h hi).2
      obtain ⟨φ, e3⟩ := hx
      rw [← q, e3] at e2
      cases e2
    rw [hole_ne q]
    exact Z.ext (h hi).1 hx e
  · unfold hole
    by_cases q : c = p
    · rw [if_pos q, if_pos q]
    · rw [if_neg q, if_neg q]
      exact Z.loc e
section
variable {P : Program} {w : World} {K : PySem.W.Frag} {I : Hp → Prop} {vw : Hp → Hp} {σ : L2.St}
theorem Vw.dx (Z : Vw I vw) {H : Hp} (h : I H) {kd : Kd} {a : Addr} {kvs : List (NestedKey × V)} (x : DX P w kd H a kvs) : DX P w kd (vw H) a kvs := x.mono (Z.tups h) fun o e => Z.ext h x.ext e
def Mk (P : Program) (w : World) (I : Hp → Prop) (vw : Hp → Hp) (σ : L2.St) (te : TE) (d : PyData) : Prop :=
  ∀ (H : Hp) (Q : VK), I H → (∀ H' v, Same H H' → I H' → DR P w (vw H') d v → Q v H') → te σ H Q
def Mks (P : Program) (w : World) (I : Hp → Prop) (vw : Hp → Hp) (σ : L2.St) (ta : TA) (ds : List PyData) : Prop :=
  ∀ (H : Hp) (Q : List V → Hp → Prop), I H → (∀ H' vs, Same H H' → I H' → DRs P w (vw H') ds vs → Q vs H') → ta σ H Q
theorem mks_nil : Mks P w I vw σ tNil [] := fun H Q hi k => k H [] (fun _ _ e => e) hi rfl
theorem mks_cons (Z : Vw I vw) {te : TE} {ta : TA} {d : PyData} {ds : List PyData} (h : Mk P w I vw σ te d) (t : Mks P w I vw σ ta ds) : Mks P w I vw σ (tCons te ta) (d :: ds) := fun H Q hi k =>
  h H _ hi fun H1 v s1 hi1 hv => t H1 _ hi1 fun H2 vs s2 hi2 hvs => k H2 (v :: vs) (Same.trans s1 s2) hi2 ⟨v, vs, rfl, DR.same (Z.mono s2) d v hv, hvs⟩
theorem mk_tup (Z : Vw I vw) {ta : TA} {ds : List PyData} (h : Mks P w I vw σ ta ds) (hz : ds.length ≤ 100000 := by decide) : Mk P w I vw σ (tTup ta) (.tuple ds) := fun H Q hi k =>
  h H _ hi fun H1 vs s1 hi1 hvs => ⟨by rw [← DRs.len hvs]; exact Nat.le_of_lt (small_of hz), fun p hp => k _ _ (Same.trans s1 (same_upd hp)) (Z.same (same_upd hp) hi1) ⟨p, vs, rfl, by rw [Z.new hi1 hp]; exact upd_same, DRs.same (Z.mono (same_upd hp)) ds vs hvs⟩⟩
theorem mk_lst (Z : Vw I vw) {ta : TA} {ds : List PyData} (h : Mks P w I vw σ ta ds) (hz : ds.length ≤ 100000 := by decide) : Mk P w I vw σ (tLst ta) (.list ds) := fun H Q hi k =>
  h H _ hi fun H1 vs s1 hi1 hvs => ⟨by rw [← DRs.len hvs]; exact Nat.le_of_lt (small_of hz), fun p hp => k _ _ (Same.trans s1 (same_upd hp)) (Z.same (same_upd hp) hi1) ⟨p, vs, rfl, by rw [Z.new hi1 hp]; exact upd_same, DRs.same (Z.mono (same_upd hp)) ds vs hvs⟩⟩
theorem mk_var {i : Nat} {v : V} {d : PyData} (hv : σ[i]? = some (some v)) (h : ∀ H, I H → DR P w (vw H) d v) : Mk P w I vw σ (tVar i) d := fun H Q hi k => ⟨v, hv, k H v (fun _ _ e => e) hi (h H hi)⟩
theorem mk_c {v : V} {d : PyData} (h : ∀ H, DR P w H d v) : Mk P w I vw σ (tC v) d := fun H Q hi k => k H v (fun _ _ e => e) hi (h _)
theorem mk_new (Z : Vw I vw) : Mk P w I vw σ (tXNew P w) (.dict []) := fun H Q hi k => fun p u hp hx => k _ _ (same_upd hp) (Z.same (same_upd hp) hi) ⟨p, .t, [], rfl, Z.dx (Z.same (same_upd hp) hi) (hx .t), rfl⟩
theorem DRs.append {H : Hp} : ∀ {ds es : List PyData} {xs ys : List V}, DRs P w H ds xs → DRs P w H es ys → DRs P w H (ds ++ es) (xs ++ ys)
  | [], _, _, _, h, g => by cases h; exact g
  | d :: ds, _, _, _, h, g => by
    obtain ⟨y, r, rfl, h1, h2⟩ := h
    exact ⟨y, _, rfl, h1, DRs.append h2 g⟩
theorem DRs.drop {H : Hp} : ∀ {ds : List PyData} {xs : List V} (n : Nat), DRs P w H ds xs → DRs P w H (ds.drop n) (xs.drop n)
  | _, _, 0, h => h
  | [], _, n + 1, h => by cases h; exact rfl
  | d :: ds, _, n + 1, h => by
    obtain ⟨y, r, rfl, h1, h2⟩ := h
    exact DRs.drop n h2
theorem DRs.take {H : Hp} : ∀ {ds : List PyData} {xs : List V} (n : Nat), DRs P w H ds xs → DRs P w H (ds.take n) (xs.take n)
  | _, _, 0, h => rfl
  | [], _, n + 1, h => by cases h; exact rfl
  | d :: ds, _, n + 1, h => by
    obtain ⟨y, r, rfl, h1, h2⟩ := h
    exact ⟨y, _, rfl, h1, DRs.take n h2⟩
theorem DRs.rev {H : Hp} : ∀ {ds : List PyData} {xs : List V}, DRs P w H ds xs → DRs P w H ds.reverse xs.reverse
  | [], _, h => by cases h; exact rfl
  | d :: ds, _, h => by
    obtain ⟨y, r, rfl, h1, h2⟩ := h
    rw [List.reverse_cons, List.reverse_cons]
    exact DRs.append (DRs.rev h2) ⟨y, [], rfl, h1, rfl⟩
theorem mk_cat (Z : Vw I vw) {ta tb : TE} {ds es : List PyData} (h : Mk P w I vw σ ta (.list ds)) (g : Mk P w I vw σ tb (.list es)) (hz : ds.length + es.length ≤ 100000) : Mk P w I vw σ (tOp rCat ta tb) (.list (ds ++ es)) := fun H Q hi k =>
  h H _ hi fun H1 v s1 hi1 hv => g H1 _ hi1 fun H2 u s2 hi2 hu => by
    obtain ⟨a, xs, rfl, ha, hxs⟩ := DR.same (Z.mono s2) _ _ hv
    obtain ⟨b, ys, rfl, hb, hys⟩ := hu
    refine ⟨a, b, xs, ys, rfl, rfl, Z.sub _ _ ha, Z.sub _ _ hb, by rw [← DRs.len hxs, ← DRs.len hys]; exact Nat.le_of_lt (small_of hz), fun p hp => ?_⟩
    have sp := same_upd (o := .lst (xs ++ ys)) hp
    exact k _ _ (Same.trans (Same.trans s1 s2) sp) (Z.same sp hi2) ⟨p, _, rfl, by rw [Z.new hi2 hp]; exact upd_same, DRs.append (DRs.same (Z.mono sp) _ _ hxs) (DRs.same (Z.mono sp) _ _ hys)⟩
theorem mk_rev (Z : Vw I vw) {ta : TE} {ds : List PyData} (h : Mk P w I vw σ ta (.list ds)) : Mk P w I vw σ (tRevL K ta) (.list ds.reverse) := fun H Q hi k =>
  h H _ hi fun H1 v s1 hi1 hv => by
    obtain ⟨a, xs, rfl, ha, hxs⟩ := hv
    refine ⟨a, xs, rfl, SqL.of (Z.sub _ _ ha), fun p hp => ?_⟩
    have sp := same_upd (o := .lst xs.reverse) hp
    exact k _ _ (Same.trans s1 sp) (Z.same sp hi1) ⟨p, _, rfl, by rw [Z.new hi1 hp]; exact upd_same, DRs.rev (DRs.same (Z.mono sp) _ _ hxs)⟩
end
end WW


set_option maxHeartbeats 2000000

/-! more makers: slices, conversions, comprehensions -/
namespace WW
open PySem PySem.Spec PyProof.Rows L2
section
variable {P : Program} {w : World} {K : PySem.W.Frag} {I : Hp → Prop} {vw : Hp → Hp} {σ : L2.St}
def MkO (I : Hp → Prop) (σ : L2.St) (t : TO) (o : Option Int) : Prop := ∀ (H : Hp) (Q : Option Int → Hp → Prop), I H → (∀ H', Same H H' → I H' → Q o H') → t σ H Q
theorem mko_none : MkO I σ tNoPart none := fun H Q hi k => k H (fun _ _ e => e) hi
theorem mko_some {te : TE} {i : Int} (h : Mk P w I vw σ te (.int i)) : MkO I σ (tPart te) (some i) := fun H Q hi k => h H _ hi fun H1 v s1 hi1 hv => ⟨i, hv, k H1 s1 hi1⟩
def cutD (ds : List PyData) (lo hi : Option Int) : List PyData := (ds.drop (HT.sIx ds.length 0 lo)).take (HT.sIx ds.length ds.length hi - HT.sIx ds.length 0 lo)
theorem DRs.cut {H : Hp} {ds : List PyData} {xs : List V} (h : DRs P w H ds xs) (lo hi : Option Int) : DRs P w H (cutD ds lo hi) (cutV xs lo hi) := by
  unfold cutD cutV
  rw [← DRs.len h]
  exact DRs.take _ (DRs.drop _ h)
theorem mk_cut (Z : Vw I vw) {te : TE} {tl th : TO} {ds : List PyData} {lo hi : Option Int} (h : Mk P w I vw σ te (.list ds)) (hl : MkO I σ tl lo) (hh : MkO I σ th hi) : Mk P w I vw σ (tSl (rSlL K) te tl th) (.list (cutD ds lo hi)) := fun H Q hi0 k =>
  h H _ hi0 fun H1 v s1 hi1 hv => hl H1 _ hi1 fun H2 s2 hi2 => hh H2 _ hi2 fun H3 s3 hi3 => by
    obtain ⟨a, xs, rfl, ha, hxs⟩ := DR.same (Z.mono (Same.trans s2 s3)) _ _ hv
    refine ⟨a, xs, rfl, SqL.of (Z.sub _ _ ha), fun p hp => ?_⟩
    have sp := same_upd (o := .lst (cutV xs lo hi)) hp
    exact k _ _ (Same.trans (Same.trans s1 (Same.trans s2 s3)) sp) (Z.same sp hi3) ⟨p, _, rfl, by rw [Z.new hi3 hp]; exact upd_same, DRs.cut (DRs.same (Z.mono sp) _ _ hxs) lo hi⟩
theorem mk_cutA (Z : Vw I vw) {te : TE} {tl th : TO} {ds : List PyData} {lo hi : Option Int} (h : Mk P w I vw σ te (.tuple ds)) (hl : MkO I σ tl lo) (hh : MkO I σ th hi) (hn : ¬ (HT.sIx ds.length 0 lo = 0 ∧ HT.sIx ds.length ds.length hi = ds.length)) :
    Mk P w I vw σ (tSl (rSlA K) te tl th) (.tuple (cutD ds lo hi)) := fun H Q hi0 k =>
  h H _ hi0 fun H1 v s1 hi1 hv => hl H1 _ hi1 fun H2 s2 hi2 => hh H2 _ hi2 fun H3 s3 hi3 => by
    obtain ⟨a, xs, rfl, ha, hxs⟩ := DR.same (Z.mono (Same.trans s2 s3)) _ _ hv
    refine ⟨a, xs, rfl, .inl (.inl (Z.sub _ _ ha)), fun q => ?_, fun _ p hp => ?_⟩
    · rw [← DRs.len hxs] at q
      exact absurd q hn
    have sp := same_upd (o := .tup (cutV xs lo hi)) hp
    exact k _ _ (Same.trans (Same.trans s1 (Same.trans s2 s3)) sp) (Z.same sp hi3) ⟨p, _, rfl, by rw [Z.new hi3 hp]; exact upd_same, DRs.cut (DRs.same (Z.mono sp) _ _ hxs) lo hi⟩
theorem mk_listT (Z : Vw I vw) {te : TE} {ds : List PyData} (h : Mk P w I vw σ te (.tuple ds)) : Mk P w I vw σ (tCB (fun xs H Q => ∃ p ys, xs = [.ref p] ∧ (SqL K H p ys ∨ SqT K H p ys) ∧ ∀ l, H l = none → Q (.ref l) (upd H l (.lst ys))) (tCons te tNil)) (.list ds) := fun H Q hi k =>
  h H _ hi fun H1 v s1 hi1 hv => by
    obtain ⟨a, xs, rfl, ha, hxs⟩ := hv
    refine ⟨a, xs, rfl, .inr (.inl (.inl (Z.sub _ _ ha))), fun p hp => ?_⟩
    have sp := same_upd (o := .lst xs) hp
    exact k _ _ (Same.trans s1 sp) (Z.same sp hi1) ⟨p, _, rfl, by rw [Z.new hi1 hp]; exact upd_same, DRs.same (Z.mono sp) _ _ hxs⟩
theorem mk_tupL (Z : Vw I vw) {te : TE} {ds : List PyData} (h : Mk P w I vw σ te (.list ds)) : Mk P w I vw σ (tCB (fun xs H Q => ∃ p ys, xs = [.ref p] ∧ ((SqL K H p ys ∧ ∀ l, H l = none → Q (.ref l) (upd H l (.tup ys))) ∨ (SqT K H p ys ∧ Q (.ref p) H))) (tCons te tNil)) (.tuple ds) := fun H Q hi k =>
  h H _ hi fun H1 v s1 hi1 hv => by
    obtain ⟨a, xs, rfl, ha, hxs⟩ := hv
    refine ⟨a, xs, rfl, .inl ⟨SqL.of (Z.sub _ _ ha), fun p hp => ?_⟩⟩
    have sp := same_upd (o := .tup xs) hp
    exact k _ _ (Same.trans s1 sp) (Z.same sp hi1) ⟨p, _, rfl, by rw [Z.new hi1 hp]; exact upd_same, DRs.same (Z.mono sp) _ _ hxs⟩
theorem DRs.at {H : Hp} : ∀ {ds : List PyData} {xs : List V}, DRs P w H ds xs → ∀ {i : Nat} {d : PyData}, ds[i]? = some d → ∃ x, xs[i]? = some x ∧ DR P w H d x
  | [], _, h, i, d, e => by simp at e
  | d0 :: ds, _, h, i, d, e => by
    obtain ⟨y, r, rfl, h1, h2⟩ := h
    cases i with
    | zero => simp at e; subst e; exact ⟨y, rfl, h1⟩
    | succ i => simp at e ⊢; exact DRs.at h2 e
theorem mk_ixL (Z : Vw I vw) {te ti : TE} {ds : List PyData} {n : Nat} {d : PyData} (h : Mk P w I vw σ te (.list ds)) (g : Mk P w I vw σ ti (.int n)) (hd : ds[n]? = some d) : Mk P w I vw σ (tOp (rIxL K) te ti) d := fun H Q hi k =>
  h H _ hi fun H1 v s1 hi1 hv => g H1 _ hi1 fun H2 u s2 hi2 hu => by
    obtain ⟨a, xs, rfl, ha, hxs⟩ := DR.same (Z.mono s2) _ _ hv
    obtain ⟨x, hx, hdx⟩ := hxs.at hd
    exact ⟨a, xs, n, x, rfl, hu, SqL.of (Z.sub _ _ ha), atI_nat hx, k _ _ (Same.trans s1 s2) hi2 hdx⟩
theorem mk_catA (Z : Vw I vw) {ta tb : TE} {ds es : List PyData} (h : Mk P w I vw σ ta (.tuple ds)) (g : Mk P w I vw σ tb (.tuple es)) (n1 : ds ≠ []) (n2 : es ≠ []) (hz : ds.length + es.length ≤ 100000) : Mk P w I vw σ (tOp (rCatA K) ta tb) (.tuple (ds ++ es)) := fun H Q hi k =>
  h H _ hi fun H1 v s1 hi1 hv => g H1 _ hi1 fun H2 u s2 hi2 hu => by
    obtain ⟨a, xs, rfl, ha, hxs⟩ := DR.same (Z.mono s2) _ _ hv
    obtain ⟨b, ys, rfl, hb, hys⟩ := hu
    have l1 := DRs.len hxs
    have l2 := DRs.len hys
    refine ⟨a, b, xs, ys, rfl, rfl, .inl (.inl (Z.sub _ _ ha)), .inl (.inl (Z.sub _ _ hb)), by rw [← l1, ← l2]; exact Nat.le_of_lt (small_of hz), fun e => ?_, fun _ e => ?_, fun _ _ p hp => ?_⟩
    · subst e
      exact absurd (List.length_eq_zero_iff.mp l1) n1
    · subst e
      exact absurd (List.length_eq_zero_iff.mp l2) n2
    have sp := same_upd (o := .tup (xs ++ ys)) hp
    exact k _ _ (Same.trans (Same.trans s1 s2) sp) (Z.same sp hi2) ⟨p, _, rfl, by rw [Z.new hi2 hp]; exact upd_same, DRs.append (DRs.same (Z.mono sp) _ _ hxs) (DRs.same (Z.mono sp) _ _ hys)⟩
/-! comprehensions -/
theorem lc_core (Z : Vw I vw) {J : It} {te : TE} {vs : List Nat} {j n : Nat} {H : Hp} (hi : I H) {Q : VK} {f : Nat → PyData} (hw : ∀ x, wipe ((wipe σ vs).set j (some x)) vs = wipe σ vs) (hn : n ≤ 100000)
    (hgo : ∀ t Ht, t < n → Same H Ht → J.go t Ht) (hst : ∀ Ht, Same H Ht → J.stop n Ht)
    (body : ∀ (I2 : Hp → Prop) (vw2 : Hp → Hp), Vw I2 vw2 → (∀ H2, I2 H2 → Same (vw H) (vw2 H2)) → ∀ t Ht x Hx, t < n → Same H Ht → J.yld t Ht x Hx → Hx = Ht ∧ Mk P w I2 vw2 ((wipe σ vs).set j (some x)) te (f t))
    (k : ∀ H' v, Same H H' → I H' → DR P w (vw H') (.list ((List.range n).map f)) v → Q v H') {D : Addr} (hD : H D = none) :
    ∃ W : Nat → Nat → Hp → Prop, (∃ m, W 0 m (upd H D (.lst []))) ∧ ∀ i m H, W i m H →
      (J.stop i H ∧ Q (.ref D) H) ∨ (J.go i H ∧ ∃ Nx : Hp → Prop, (∀ H', Nx H' → ∃ m', m' < m ∧ W (i + 1) m' H') ∧ ∀ x H', J.yld i H x H' → gName j x (wipe σ vs) H' fun σ2 H2 => wipe σ2 vs = wipe σ vs ∧ tYes σ2 H2 fun b H3 =>
        if b = true then te σ2 H3 fun y H4 => ∃ acc, H4 D = some (.lst acc) ∧ acc.length < sizeLine ∧ Nx (upd H4 D (.lst (acc ++ [y]))) else Nx H3) := by
  refine lc_it (n := n) (Qd := fun Hq => Q (.ref D) Hq) (fun t Ht => Same H Ht ∧ ∃ zs, Ht D = some (.lst zs) ∧ zs.length = t ∧ DRs P w (hole D vw Ht) ((List.range t).map f) zs) ⟨same_upd hD, [], upd_same, rfl, rfl⟩ (fun t Ht ht pt => hgo t Ht ht pt.1) (fun Ht pt => hst Ht pt.1) (fun t Ht x Hx ht pt y => ?_) fun Ht pt => ?_
  · obtain ⟨s1, zs, hz, hl, hr⟩ := pt
    have V2 : Vw (fun Hx => Same H Hx ∧ ∃ xs, Hx D = some (.lst xs)) (hole D vw) := vw_hole Z (fun h => ⟨Z.same h.1 hi, h.2⟩) fun s h => ⟨Same.trans h.1 s, let ⟨xs, e⟩ := h.2; ⟨xs, s _ _ e⟩⟩
    obtain ⟨rfl, hb⟩ := body _ _ V2 (fun H2 h2 c o e => by
      have q : c ≠ D := fun q => by
        rw [q] at e
        rw [Z.sub _ _ e] at hD
        cases hD
      rw [hole_ne q]
      exact Z.mono h2.1 _ _ e) t Ht x Hx ht s1 y
    refine ⟨hw x, yes (hb _ _ ⟨s1, zs, hz⟩ fun H4 y s4 hi4 hy => ⟨zs, s4 _ _ hz, small_of (by omega), Same.put (Same.trans s1 s4) hD, zs ++ [y], upd_same, by simp [hl], ?_⟩)⟩
    have sv : Same (hole D vw H4) (hole D vw (upd H4 D (.lst (zs ++ [y])))) := fun c o e => by
      by_cases q : c = D
      · rw [q] at e
        unfold hole at e
        rw [if_pos rfl] at e
        cases e
      · rw [hole_ne q] at e ⊢
        rw [← Z.loc (show H4 c = (upd H4 D (.lst (zs ++ [y]))) c from (upd_ne q).symm)]
        exact e
    rw [List.range_succ, List.map_append]
    exact DRs.append (DRs.same (Same.trans (V2.mono s4) sv) _ _ hr) ⟨y, [], rfl, DR.same sv _ _ hy, rfl⟩
  · obtain ⟨s1, zs, hz, hl, hr⟩ := pt
    exact k _ _ s1 (Z.same s1 hi) ⟨D, zs, rfl, by rw [Z.new hi hD]; exact hz, DRs.same hole_sub _ _ hr⟩
theorem range_map_get {ds : List PyData} {f : PyData → PyData} : (List.range ds.length).map (fun t => f (ds.getD t .none)) = ds.map f := by
  refine List.ext_getElem (by simp) fun i h1 h2 => ?_
  simp at h1
  simp [List.getD_eq_getElem?_getD, h1]
theorem mk_lc (Z : Vw I vw) {ti te : TE} {vs : List Nat} {j : Nat} {ds : List PyData} {f : PyData → PyData} (h : Mk P w I vw σ ti (.list ds)) (hw : ∀ x, wipe ((wipe σ vs).set j (some x)) vs = wipe σ vs) (hn : ds.length ≤ 100000)
    (body : ∀ (I2 : Hp → Prop) (vw2 : Hp → Hp), Vw I2 vw2 → ∀ d x, d ∈ ds → (∀ H2, I2 H2 → DR P w (vw2 H2) d x) → Mk P w I2 vw2 ((wipe σ vs).set j (some x)) te (f d)) :
    Mk P w I vw σ (tLc (iList K ti) (gName j) tYes te vs) (.list (ds.map f)) := fun H Q hi k =>
  h H _ hi fun H1 v s1 hi1 hv => by
    obtain ⟨a, xs, rfl, ha, hxs⟩ := hv
    have lds := DRs.len hxs
    have hsq : ∀ {Ht}, Same H1 Ht → SqL K Ht a xs := fun s => SqL.of (s _ _ (Z.sub _ _ ha))
    refine ⟨a, rfl, ⟨_, hsq fun _ _ e => e⟩, fun D hD => lc_core (P := P) (w := w) (J := Itl K a) (f := fun t => f (ds.getD t .none)) Z hi1 hw hn (fun t Ht ht s => ⟨xs, xs[t]'(by omega), hsq s, List.getElem?_eq_getElem _⟩) (fun Ht s => ⟨xs, hsq s, by omega⟩) (fun I2 vw2 Z2 hs2 t Ht x Hx ht s y => ?_) (fun H2 v s2 hi2 hr => ?_) hD⟩
    · obtain ⟨rfl, e⟩ := y
      obtain ⟨d, hd, hdx⟩ := DRs.get hxs (e _ (hsq s))
      rw [List.getD_eq_getElem?_getD, hd]
      exact ⟨rfl, body I2 vw2 Z2 d x (List.mem_of_getElem? hd) fun H2 h2 => DR.same (hs2 H2 h2) _ _ hdx⟩
    · rw [range_map_get] at hr
      exact k _ _ (Same.trans s1 s2) hi2 hr
theorem mk_lcT (Z : Vw I vw) {ti te : TE} {vs : List Nat} {j : Nat} {ds : List PyData} {f : PyData → PyData} (h : Mk P w I vw σ ti (.tuple ds)) (hw : ∀ x, wipe ((wipe σ vs).set j (some x)) vs = wipe σ vs) (hn : ds.length ≤ 100000)
    (body : ∀ (I2 : Hp → Prop) (vw2 : Hp → Hp), Vw I2 vw2 → ∀ d x, d ∈ ds → (∀ H2, I2 H2 → DR P w (vw2 H2) d x) → Mk P w I2 vw2 ((wipe σ vs).set j (some x)) te (f d)) :
    Mk P w I vw σ (tLc (iTup K ti) (gName j) tYes te vs) (.list (ds.map f)) := fun H Q hi k =>
  h H _ hi fun H1 v s1 hi1 hv => by
    obtain ⟨a, xs, rfl, ha, hxs⟩ := hv
    have lds := DRs.len hxs
    have hsq : ∀ {Ht}, Same H1 Ht → SqT K Ht a xs := fun s => .inl (.inl (s _ _ (Z.sub _ _ ha)))
    refine ⟨a, rfl, ⟨_, hsq fun _ _ e => e⟩, fun D hD => lc_core (P := P) (w := w) (J := Itt K a) (f := fun t => f (ds.getD t .none)) Z hi1 hw hn (fun t Ht ht s => ⟨xs, xs[t]'(by omega), hsq s, List.getElem?_eq_getElem _⟩) (fun Ht s => ⟨xs, hsq s, by omega⟩) (fun I2 vw2 Z2 hs2 t Ht x Hx ht s y => ?_) (fun H2 v s2 hi2 hr => ?_) hD⟩
    · obtain ⟨rfl, e⟩ := y
      obtain ⟨d, hd, hdx⟩ := DRs.get hxs (e _ (hsq s))
      rw [List.getD_eq_getElem?_getD, hd]
      exact ⟨rfl, body I2 vw2 Z2 d x (List.mem_of_getElem? hd) fun H2 h2 => DR.same (hs2 H2 h2) _ _ hdx⟩
    · rw [range_map_get] at hr
      exact k _ _ (Same.trans s1 s2) hi2 hr
end
end WW


set_option maxHeartbeats 2000000

/-! makers: ranges, dicts, parts of pairs -/
namespace WW
open PySem PySem.Spec PyProof.Rows L2
section
variable {P : Program} {w : World} {K : PySem.W.Frag} {I : Hp → Prop} {vw : Hp → Hp} {σ : L2.St}
theorem mk_lcR (Z : Vw I vw) {ti te : TE} {vs : List Nat} {j n : Nat} {f : Nat → PyData} (h : Mk P w I vw σ ti (.int n)) (hw : ∀ x, wipe ((wipe σ vs).set j (some x)) vs = wipe σ vs) (hn : n ≤ 100000)
    (body : ∀ (I2 : Hp → Prop) (vw2 : Hp → Hp), Vw I2 vw2 → ∀ t : Nat, t < n → Mk P w I2 vw2 ((wipe σ vs).set j (some (.int (t : Int)))) te (f t)) :
    Mk P w I vw σ (tLc (iRng1 (tCons ti tNil)) (gName j) tYes te vs) (.list ((List.range n).map f)) := fun H Q hi k =>
  h H _ hi fun H1 v s1 hi1 hv => by
    have hv : v = .int (n : Int) := hv
    subst hv
    refine ⟨(n : Int), rfl, by omega, by omega, fun D hD => ?_⟩
    rw [show ((n : Int)).toNat = n by omega]
    refine lc_core (P := P) (w := w) (J := Itr 0 n) (f := f) Z hi1 hw hn (fun t Ht ht s => ht) (fun Ht s => Nat.le_refl _) (fun I2 vw2 Z2 hs2 t Ht x Hx ht s y => ?_) (fun H2 v s2 hi2 hr => k _ _ (Same.trans s1 s2) hi2 hr) hD
    obtain ⟨rfl, rfl⟩ := y
    rw [show (0 : Int) + (t : Int) = (t : Int) by omega]
    exact ⟨rfl, body I2 vw2 Z2 t ht⟩
/-- a bool of 0 and 1, else itself -/
def bpF : PyData → PyData
  | .int k => if k < 2 then .bool (decide (k = 1)) else .int k
  | d => d
theorem mk_bp {i : Nat} {k : Int} (h : σ[i]? = some (some (.int k))) : Mk P w I vw σ (tIf (tTest (tOp (rI0 fun i j => .bl (decide (i < j))) (tVar i) (tC (.int 2)))) (tOp rEq (tVar i) (tC (.int 1))) (tVar i)) (bpF (.int k)) := fun H Q hi q => by
  refine ⟨_, h, _, _, rfl, rfl, _, rfl, ?_⟩
  refine ite2 (fun e => ?_) (fun e => ?_)
  · have e : k < 2 := of_decide_eq_true e
    refine ⟨_, h, rfl, q H _ (fun _ _ e => e) hi ?_⟩
    show DR P w (vw H) (if k < 2 then .bool (decide (k = 1)) else .int k) _
    rw [if_pos e]
    show V.bl (decide (V.int k = V.int 1)) = V.bl (decide (k = 1))
    rw [dec_int]
    rfl
  · have e : ¬ k < 2 := fun z => e (decide_eq_true z)
    refine ⟨_, h, q H _ (fun _ _ e => e) hi ?_⟩
    show DR P w (vw H) (if k < 2 then .bool (decide (k = 1)) else .int k) _
    rw [if_neg e]
    exact rfl
theorem mk_dict (Z : Vw I vw) {te : TE} {ps : List (Int × Int)} (h : Mk P w I vw σ te (.list (ps.map fun p => .tuple [pkD p, .int 0]))) (nd : ps.Nodup) :
    Mk P w I vw σ (tCB (rDictP P w K) (tCons te tNil)) (.dict (ps.map fun p => (pkD p, .int 0))) := fun H Q hi k =>
  h H _ hi fun H1 v s1 hi1 hv => by
    obtain ⟨l, xs, rfl, hl, hxs⟩ := hv
    have key : ∀ (ps : List (Int × Int)) (xs : List V), DRs P w (vw H1) (ps.map fun p => .tuple [pkD p, .int 0]) xs → ∃ ts : List Addr, xs = ts.map V.ref ∧
        Paired (fun t (p : NestedKey × V) => ∃ b, H1 t = some (.tup [.ref b, p.2]) ∧ NV H1 p.1 (.ref b) ∧ p.1.depth ≤ 8) ts (ps.map fun p => (pkI p, V.int 0)) := by
      intro ps
      induction ps with
      | nil =>
        intro xs h
        cases h
        exact ⟨[], rfl, .nil⟩
      | cons p ps ih =>
        intro xs h
        obtain ⟨y, r, rfl, ⟨t, ys, rfl, ht, z1, r1, rfl, ⟨b, bs, rfl, hb, b1, r2, rfl, e1, b2, r3, rfl, e2, rfl⟩, z2, r4, rfl, e3, rfl⟩, h2⟩ := h
        obtain ⟨ts, rfl, hp⟩ := ih r h2
        cases e1
        cases e2
        cases e3
        exact ⟨t :: ts, rfl, .cons ⟨b, Z.sub _ _ ht, ⟨b, _, rfl, Z.sub _ _ hb, _, _, rfl, rfl, _, _, rfl, rfl, rfl⟩, lk_depth _⟩ hp⟩
    obtain ⟨ts, rfl, hp⟩ := key ps xs hxs
    refine ⟨l, ts, _, rfl, SqL.of (Z.sub _ _ hl), hp, ?_, fun p u hp hx => ?_⟩
    · rw [List.map_map]
      exact nodup_map_inj (f := pkI) (fun a b e => pkI_inj e) nd
    · have sp := same_upd (o := u) hp
      have i2 := Z.same sp hi1
      refine k _ _ (Same.trans s1 sp) i2 ⟨p, .t, _, rfl, Z.dx i2 hx, ?_⟩
      have : ∀ ps : List (Int × Int), DRk P w (vw (upd H1 p u)) (ps.map fun p => (pkD p, PyData.int 0)) (ps.map fun p => (pkI p, V.int 0)) := by
        intro ps
        induction ps with
        | nil => exact rfl
        | cons q ps ih => exact ⟨_, _, rfl, rfl, rfl, ih⟩
      exact this ps
end
end WW


set_option maxHeartbeats 2000000

namespace WW
open PySem PySem.Spec PyProof.Rows L2
section
variable {P : Program} {w : World} {K : PySem.W.Frag} {mg : Str → Option Value} {base : Heap}
abbrev sBent : Stmt := top 56
abbrev nBent : List Str := ["_law_pot_here", "_law_mine", "_law_its", "_law_told", "_law_at", "_law_extra", "_law_found", "_law_every", "_law_near", "_law_bools", "_law_far", "_law_part", "_law_duo"]
theorem sc56 : FnScope nBent ["_law_pot_here", "_law_mine", "_law_its"] (defScope sBent) := ⟨rfl, rfl, rfl, by decide +kernel, rfl, by decide +kernel, by decide +kernel⟩
def spBent (P : Program) (w : World) : Sp := fun vs H Q _ => ∃ (p g1 g2 : Addr) (d : Nat) (A B : List IRow), vs = [.ref p, .ref g1, .ref g2] ∧ PotAt H p ∧ GoesA P w H g1 A ∧ GoesA P w H g2 B ∧ g1 ≠ p ∧ g2 ≠ p ∧ GoesOk d A ∧ GoesOk d B ∧ A.length ≤ 4 ∧ B.length ≤ 4 ∧
  ∀ H' L zs ds, SamX p H H' → PotAt H' p → H' L = some (.lst zs) → DRs P w H' ds zs → (∀ d ∈ ds, Tg d) → ds.length ≤ 100 → Q (.ref L) H'
theorem drs_pairs {H : Hp} : ∀ {bs : List Addr} {ps : List (Int × Int)}, PairsL H bs ps → DRs P w H (ps.map pkD) (bs.map V.ref)
  | _, _, .nil => rfl
  | _, _, .cons h t => ⟨_, _, rfl, ⟨_, _, rfl, h, _, _, rfl, rfl, _, _, rfl, rfl, rfl⟩, drs_pairs t⟩
theorem mk_add {I : Hp → Prop} {vw : Hp → Hp} {σ : L2.St} {ta tb : TE} {i j : Int} (h : Mk P w I vw σ ta (.int i)) (g : Mk P w I vw σ tb (.int j)) : Mk P w I vw σ (tOp (rI0 fun i j => .int (i + j)) ta tb) (.int (i + j)) := fun H Q hi k =>
  h H _ hi fun H1 v s1 hi1 hv => g H1 _ hi1 fun H2 u s2 hi2 hu => ⟨i, j, hv, hu, k _ _ (Same.trans s1 s2) hi2 rfl⟩
theorem mk_neg {I : Hp → Prop} {vw : Hp → Hp} {σ : L2.St} {ta : TE} {i : Int} (h : Mk P w I vw σ ta (.int i)) : Mk P w I vw σ (tUn (rU fun i => .int (-i)) ta) (.int (-i)) := fun H Q hi k =>
  h H _ hi fun H1 v s1 hi1 hv => ⟨i, hv, k _ _ s1 hi1 rfl⟩
theorem mk_len {I : Hp → Prop} {vw : Hp → Hp} {σ : L2.St} {i : Nat} {a : Addr} {n : Nat} (hv : σ[i]? = some (some (.ref a))) (h : ∀ H, I H → ∃ xs, H a = some (.lst xs) ∧ xs.length = n) :
    Mk P w I vw σ (tCB (fun xs H Q => ∃ p ys, xs = [.ref p] ∧ (SqL K H p ys ∨ SqT K H p ys) ∧ Q (.int ys.length) H) (tCons (tVar i) tNil)) (.int n) := fun H Q hi k => by
  obtain ⟨xs, hx, hl⟩ := h H hi
  exact ⟨_, hv, a, xs, rfl, .inl (SqL.of hx), k _ _ (fun _ _ e => e) hi (by rw [hl]; rfl)⟩
theorem cut_len (ds : List PyData) (lo hi : Option Int) : (cutD ds lo hi).length ≤ ds.length := by
  unfold cutD
  rw [List.length_take, List.length_drop]
  omega
theorem lst_of {I : Hp → Prop} {vw : Hp → Hp} {σ : L2.St} {ta : TA} {ds : List PyData} {H : Hp} {Q : VK} (h : Mks P w I vw σ ta ds) (hi : I H) (hz : ds.length ≤ sizeLine) (k : ∀ H1 vs a, Same H H1 → DRs P w (vw H1) ds vs → H1 a = none → Q (.ref a) (upd H1 a (.lst vs))) : tLst ta σ H Q :=
  h H _ hi fun H1 vs s1 hi1 hvs => ⟨by rw [← DRs.len hvs]; exact hz, fun a ha => k H1 vs a s1 hvs ha⟩
def everyD (m i : Nat) : List PyData := (List.range i).flatMap fun (x : Nat) => (List.range m).map fun (y : Nat) => pkD ((x : Int), (y : Int))
theorem everyD_succ (m i : Nat) : everyD m (i + 1) = everyD m i ++ (List.range m).map fun (y : Nat) => pkD ((i : Int), (y : Int)) := by
  unfold everyD
  rw [List.range_succ, List.flatMap_append]
  simp
theorem everyD_len (m i : Nat) : (everyD m i).length = i * m := by
  induction i with
  | zero => simp [everyD]
  | succ i ih => rw [everyD_succ, List.length_append, ih, List.length_map, List.length_range, Nat.add_mul, Nat.one_mul]
theorem told_or {σ : L2.St} {H H1 : Hp} {v : V} {d : Nat} {A B : List IRow} {Q : VK} (hv : σ[3]? = some (some v)) (s1 : Same H H1) (tv : TableV H H1 v A B) (okA : GoesOk d A) (okB : GoesOk d B) (lA : A.length ≤ 4) (lB : B.length ≤ 4)
    (k : ∀ H2 ta bs ps, Same H H2 → H ta = none → H2 ta = some (.lst (bs.map V.ref)) → PairsL H2 bs ps → ps.Nodup → 1 ≤ ps.length → ps.length ≤ 16 → (∀ p ∈ ps, 0 ≤ p.1 ∧ p.1 < 4 ∧ 0 ≤ p.2 ∧ p.2 < 4) → Q (.ref ta) H2) :
    tIf (tB (tIsN (tVar 3))) (tLst (tCons (tTup (tCons (tC (.int 0)) (tCons (tC (.int 0)) tNil))) tNil)) (tVar 3) σ H1 Q := by
  rcases tv with ⟨rfl, _⟩ | ⟨ta, ps, rfl, fr, ⟨bs, ht, hb⟩, _, nd, _, hr⟩
  · refine ⟨_, hv, _, rfl, ys ⟨le2, fun b hb => ⟨le1, fun ta hta => ?_⟩⟩⟩
    have sb := same_upd (o := .tup [.int 0, .int 0]) hb
    have st := same_upd (o := .lst [.ref b]) hta
    exact k _ ta [b] [(0, 0)] (Same.trans s1 (Same.trans sb st)) (Same.free (Same.trans s1 sb) hta) upd_same (.cons (st _ _ upd_same) .nil) (by decide) (by decide) (by decide) (fun p hp => by rw [List.mem_singleton.mp hp]; decide)
  · refine ⟨_, hv, _, rfl, no ⟨_, hv, k H1 ta bs ps s1 fr ht hb nd ?_ ?_ ?_⟩⟩
    · have : ((0, 0) : Int × Int) ∈ ps := (hr _).mpr reach_zero
      cases ps with
      | nil => cases this
      | cons => simp
    · refine Nat.le_trans (pairs_few nd fun p hp => reach_range okA okB ((hr p).mp hp)) ?_
      exact Nat.mul_le_mul lA lB
    · intro p hp
      have := reach_range okA okB ((hr p).mp hp)
      omega
theorem hole_upd {f0 : Addr} {o : HO} {H : Hp} : Same (hole f0 id H) (hole f0 id (upd H f0 o)) := fun c u e => by
  by_cases q : c = f0
  · rw [q] at e
    unfold hole at e
    rw [if_pos rfl] at e
    cases e
  · rw [hole_ne q] at e ⊢
    show (upd H f0 o) c = some u
    rw [upd_ne q]
    exact e
/-- found.extend([..]) -/
theorem ext_at {I : Hp → Prop} {f0 : Addr} {σ : L2.St} {i : Nat} {ta : TA} {ds es : List PyData} {H : Hp} {vs : List V} {D : Ends} (Z : Vw I (hole f0 id)) (hup : ∀ H' zs, I H' → I (upd H' f0 (.lst zs))) (m : Mks P w I (hole f0 id) σ ta es) (hv : σ[i]? = some (some (.ref f0)))
    (hi : I H) (hf : H f0 = some (.lst vs)) (hd : DRs P w (hole f0 id H) ds vs) (sz : ds.length + es.length ≤ 100000) (k : ∀ H' vs', I H' → H' f0 = some (.lst vs') → DRs P w (hole f0 id H') (ds ++ es) vs' → D.nx σ H') :
    tDrop (tBM K "list" rExtend (tVar i) (tCons (tLst ta) tNil)) D σ H := by
  refine ⟨_, hv, .inl ⟨rfl, _, SqL.of hf⟩, ?_⟩
  refine m H _ hi fun H1 xs s1 hi1 hxs => ?_
  have l1 := DRs.len hd
  have l2 := DRs.len hxs
  refine ⟨by rw [← l2]; exact Nat.le_of_lt (small_of (by omega)), fun b hb => ?_⟩
  have sb := same_upd (o := .lst xs) hb
  refine ⟨f0, b, vs, xs, rfl, rfl, sb _ _ (s1 _ _ hf), upd_same, by rw [← l1, ← l2]; exact Nat.le_of_lt (small_of (by omega)), ?_⟩
  have s2 : Same (hole f0 id H1) (hole f0 id (upd (upd H1 b (.lst xs)) f0 (.lst (vs ++ xs)))) := Same.trans (Z.mono sb) hole_upd
  exact k _ _ (hup _ _ (Z.same sb hi1)) upd_same (DRs.append (DRs.same (Same.trans (Z.mono s1) s2) _ _ hd) (DRs.same s2 _ _ hxs))
theorem i4_pack {f0 : Addr} {HE : Hp} {vs : List V} (hf : HE f0 = some (.lst vs)) : ∃ I4 : Hp → Prop, Vw I4 (hole f0 id) ∧ (∀ H' zs, I4 H' → I4 (upd H' f0 (.lst zs))) ∧ I4 HE ∧ ∀ Hx, I4 Hx → Same (hole f0 id HE) (hole f0 id Hx) := by
  refine ⟨fun Hx => (∃ zs, Hx f0 = some (.lst zs)) ∧ Same (hole f0 id HE) (hole f0 id Hx), vw_hole (vw_id (I := fun _ => True) fun _ _ => trivial) (fun h => ⟨trivial, h.1⟩) (fun {Ha Hb} s h => ?_), fun H' zs h => ⟨⟨zs, upd_same⟩, Same.trans h.2 hole_upd⟩, ⟨⟨_, hf⟩, fun _ _ e => e⟩, fun Hx h => h.2⟩
  obtain ⟨⟨zs, h1⟩, h2⟩ := h
  refine ⟨⟨zs, s _ _ h1⟩, fun c o e => ?_⟩
  have q : c ≠ f0 := fun q => by
    rw [q] at e
    unfold hole at e
    rw [if_pos rfl] at e
    cases e
  have e2 := h2 _ _ e
  rw [hole_ne q] at e2 ⊢
  exact s _ _ e2
def bpT : PyData → PyData
  | .tuple ds => .tuple (ds.map bpF)
  | d => d
def catF : PyData → PyData
  | .tuple ds => .tuple (ds ++ [.int 0])
  | d => d
def cutF : PyData → PyData
  | .tuple ds => .tuple (cutD ds none (some 1))
  | d => d
theorem mem_cut {ds : List PyData} {lo hi : Option Int} {x : PyData} (h : x ∈ cutD ds lo hi) : x ∈ ds := List.mem_of_mem_drop (List.mem_of_mem_take h)
theorem ok_bent (B : Blt mg) (D0 : Dn K mg "_law_draw" sDraw ["_law_pot_here", "_law_size"]) (G0 : FnOk P w K mg base CX0 1 D0.f D0.fd ["_law_pot_here", "_law_size"] spDraw)
    (D1 : Dn K mg "_law_pairs" sLPairs ["_law_mine", "_law_its"]) (G1 : FnOk P w K mg base CX0 1 D1.f D1.fd ["_law_mine", "_law_its"] (spLPairs P w)) (D : Dn K mg "_law_bent" sBent ["_law_pot_here", "_law_mine", "_law_its"]) :
    FnOk P w K mg base CX0 2 D.f D.fd ["_law_pot_here", "_law_mine", "_law_its"] (spBent P w) := by
  refine D.F.ok sc56 (fun vs H Q E h => ?_) (fun cdv A outer s H vs Q E hr h => ?_)
  · obtain ⟨p, g1, g2, d, A, B, rfl, _⟩ := h
    rfl
  · obtain ⟨p, g1, g2, d, A, B', rfl, hp, hg1, hg2, n1, n2, okA, okB, lA, lB, k⟩ := h
    refine' ⟨_, pss_cons (ps_set (i := 3) sc56.nd rfl (.inl rfl) (pe_call G1 hr (by rfl) D1.g D1.F.kp D1.b .nil pass0 (pa_cons (pv 1) (pa_cons (pv 2) pa_nil))))
      (pss_cons (ps_set (i := 3) sc56.nd rfl (.inl rfl) (pe_ifExp (pt_cmp (pc_isN (pv 3))) (pe_lst (pa_cons (pe_tup (pa_cons pe_int (pa_cons pe_int pa_nil))) pa_nil)) (pv 3)))
      (pss_cons (ps_par (i := 4) (j := 5) rfl sc56.nd rfl rfl (by decide) rfl rfl (pa_cons (pe_call G0 hr (by rfl) D0.g D0.F.kp D0.b .nil pass0 (pa_cons (pv 0) (pa_cons (pe_callB call_len_seq (by rfl) B.len PySem.boot_len (pa_cons (pv 3) pa_nil)) pa_nil)))
          (pa_cons (pe_tup (pa_cons (pe_call G0 hr (by rfl) D0.g D0.F.kp D0.b .nil pass0 (pa_cons (pv 0) (pa_cons (pe_callB call_len_seq (by rfl) B.len PySem.boot_len (pa_cons (pv 1) pa_nil)) pa_nil)))
            (pa_cons (pe_call G0 hr (by rfl) D0.g D0.F.kp D0.b .nil pass0 (pa_cons (pv 0) (pa_cons (pe_callB call_len_seq (by rfl) B.len PySem.boot_len (pa_cons (pv 2) pa_nil)) pa_nil))) pa_nil))) pa_nil)) rfl)
      (pss_cons (ps_set (i := 6) sc56.nd rfl (.inl rfl) (pe_lst (pa_cons (pv 3) (pa_cons (pe_revL (pv 3)) (pa_cons (pe_callTy call_tuple_of (by rfl) B.tuple (by decide +kernel) (pa_cons (pv 3) pa_nil))
          (pa_cons (pe_op op_cat (pv 3) (pe_lst (pa_cons (pv 5) pa_nil))) (pa_cons (pe_op op_cat (pv 3) (pe_slice sl_list (pv 3) po_none (po_some pe_int)))
          (pa_cons (pe_op op_cat (pe_slice sl_list (pv 3) po_none (po_some (pv 4))) (pe_slice sl_list (pv 3) (po_some (pe_op op_add (pv 4) pe_int)) po_none)) (pa_cons (pe_op op_cat (pv 3) (pe_lst (pa_cons pe_non pa_nil))) pa_nil)))))))))
      (pss_cons (ps_set (i := 7) sc56.nd rfl (.inl rfl) (pe_lst pa_nil))
      (pss_cons (ps_for PassesOwn.never rfl (pi_range1 (by rfl) B.range (pa_cons (pe_callB call_len_seq (by rfl) B.len PySem.boot_len (pa_cons (pv 1) pa_nil)) pa_nil)) (pg_name (i := 8) sc56.nd rfl (.inr rfl))
        (pss_one (ps_expr (pe_bm PySem.F.plainAttrs_list PySem.F.slot_list_extend PySem.F.type_list_extend mt_extend (pv 7) (pa_cons
          (pe_lc (own := [("_law_far", 10)]) (g := gName 10) (tt := tYes) (te := tTup (tCons (tVar 8) (tCons (tVar 10) tNil))) (by rfl) sc56.nd (pi_range1 (by rfl) B.range (pa_cons (pe_callB call_len_seq (by rfl) B.len PySem.boot_len (pa_cons (pv 2) pa_nil)) pa_nil)) (blkOk_by (own := [("_law_far", 10)]) (N := nBent) (sc := defScope sBent) (by decide +kernel))
            (fun _ _ _ _ _ => pg_name (i := 10) sc56.nd rfl (Or.inl rfl)) (fun _ _ _ _ _ => pts_nil) (fun _ _ _ _ _ => pe_tup (pa_cons (pv 8) (pa_cons (pv 10) pa_nil)))) pa_nil)))))
      (pss_cons (ps_expr (pe_bm PySem.F.plainAttrs_list PySem.F.slot_list_extend PySem.F.type_list_extend mt_extend (pv 6) (pa_cons (pe_lst (pa_cons (pv 7)
          (pa_cons (pe_op op_cat (pe_op op_cat (pe_slice sl_list (pv 3) po_none (po_some (pv 4))) (pe_lst (pa_cons (pe_callTy call_list_of (by rfl) B.list (by decide +kernel) (pa_cons (pe_ix ix_list (pv 3) (pv 4) (fun _ _ => rfl)) pa_nil)) pa_nil))) (pe_slice sl_list (pv 3) (po_some (pe_op op_add (pv 4) pe_int)) po_none))
          (pa_cons (pe_op op_cat (pv 3) (pe_lst (pa_cons (pe_tup (pa_cons (pe_callB call_len_seq (by rfl) B.len PySem.boot_len (pa_cons (pv 1) pa_nil)) (pa_cons pe_int pa_nil))) pa_nil)))
          (pa_cons (pe_op op_cat (pv 3) (pe_lst (pa_cons (pe_tup (pa_cons pe_int (pa_cons (pe_callB call_len_seq (by rfl) B.len PySem.boot_len (pa_cons (pv 2) pa_nil)) pa_nil))) pa_nil))) pa_nil))))) pa_nil)))
      (pss_cons (ps_setLc (i := 9) (own := [("_law_duo", 12)]) (g := gName 12) (tt := tYes) (te := tCB (fun xs H Q => ∃ p ys, xs = [.ref p] ∧ ((SqL K H p ys ∧ ∀ l, H l = none → Q (.ref l) (upd H l (.tup ys))) ∨ (SqT K H p ys ∧ Q (.ref p) H))) (tCons (tLc (iTup K (tVar 12)) (gName 11) tYes (tIf (tTest (tOp (rI0 fun i j => .bl (decide (i < j))) (tVar 11) (tC (.int 2)))) (tOp rEq (tVar 11) (tC (.int 1))) (tVar 11)) [11]) tNil))
          (by rfl) sc56.nd rfl rfl (sw_true rfl rfl rfl (by decide +kernel)) (pi_list (pv 3)) (blkOk_by (own := [("_law_duo", 12)]) (N := nBent) (sc := defScope sBent) (by decide +kernel))
            (fun _ _ _ _ _ => pg_name (i := 12) sc56.nd rfl (Or.inl rfl)) (fun _ _ _ _ _ => pts_nil) (fun _ _ _ _ _ => ?inner))
      (pss_cons (ps_expr (pe_bm PySem.F.plainAttrs_list PySem.F.slot_list_extend PySem.F.type_list_extend mt_extend (pv 6) (pa_cons (pe_lst (pa_cons (pv 9) (pa_cons (pe_lst (pa_cons (pv 3) pa_nil))
          (pa_cons (pe_callTy (call_dictPx rfl (u30 hr)) (by rfl) B.dict (by decide +kernel) (pa_cons (pe_lc (own := [("_law_duo", 12)]) (g := gName 12) (tt := tYes) (te := tTup (tCons (tVar 12) (tCons (tC (.int 0)) tNil))) (by rfl) sc56.nd (pi_list (pv 3)) (blkOk_by (own := [("_law_duo", 12)]) (N := nBent) (sc := defScope sBent) (by decide +kernel))
            (fun _ _ _ _ _ => pg_name (i := 12) sc56.nd rfl (Or.inl rfl)) (fun _ _ _ _ _ => pts_nil) (fun _ _ _ _ _ => pe_tup (pa_cons (pv 12) (pa_cons pe_int pa_nil)))) pa_nil))
          (pa_cons (pe_lc (own := [("_law_duo", 12)]) (g := gName 12) (tt := tYes) (te := tOp (rCatA K) (tVar 12) (tTup (tCons (tC (.int 0)) tNil))) (by rfl) sc56.nd (pi_list (pv 3)) (blkOk_by (own := [("_law_duo", 12)]) (N := nBent) (sc := defScope sBent) (by decide +kernel))
            (fun _ _ _ _ _ => pg_name (i := 12) sc56.nd rfl (Or.inl rfl)) (fun _ _ _ _ _ => pts_nil) (fun _ _ _ _ _ => pe_op op_catA (pv 12) (pe_tup (pa_cons pe_int pa_nil))))
          (pa_cons (pe_lc (own := [("_law_duo", 12)]) (g := gName 12) (tt := tYes) (te := tSl (rSlA K) (tVar 12) tNoPart (tPart (tC (.int 1)))) (by rfl) sc56.nd (pi_list (pv 3)) (blkOk_by (own := [("_law_duo", 12)]) (N := nBent) (sc := defScope sBent) (by decide +kernel))
            (fun _ _ _ _ _ => pg_name (i := 12) sc56.nd rfl (Or.inl rfl)) (fun _ _ _ _ _ => pts_nil) (fun _ _ _ _ _ => pe_slice sl_tupA (pv 12) po_none (po_some pe_int))) pa_nil)))))) pa_nil)))
      (pss_cons (ps_expr (pe_bm PySem.F.plainAttrs_list PySem.F.slot_list_extend PySem.F.type_list_extend mt_extend (pv 6) (pa_cons (pe_lst
          (pa_cons (pe_op op_cat (pv 3) (pe_lst (pa_cons (pe_tup (pa_cons (pe_un un_neg pe_int) (pa_cons pe_int pa_nil))) pa_nil)))
          (pa_cons (pe_op op_cat (pv 3) (pe_lst (pa_cons (pe_tup (pa_cons pe_int (pa_cons (pe_un un_neg pe_int) pa_nil))) pa_nil)))
          (pa_cons (pe_op op_cat (pv 3) (pe_lst (pa_cons (pe_tup (pa_cons (pe_lst (pa_cons pe_int pa_nil)) (pa_cons pe_int pa_nil))) pa_nil)))
          (pa_cons (pe_op op_cat (pv 3) (pe_lst (pa_cons (pe_tup (pa_cons pe_int (pa_cons (pe_lst (pa_cons pe_int pa_nil)) pa_nil))) pa_nil)))
          (pa_cons (pe_op op_cat (pv 3) (pe_lst (pa_cons (pe_tup (pa_cons pe_xnew (pa_cons pe_int pa_nil))) pa_nil))) pa_nil)))))) pa_nil)))
      (pss_one (ps_ret (pe_op op_cat (pv 6) (pe_lst (pa_cons pe_non (pa_cons pe_int (pa_cons pe_bl (pa_cons pe_str (pa_cons (pe_lst pa_nil) (pa_cons (pe_tup pa_nil) (pa_cons pe_xnew
          (pa_cons (pe_lst (pa_cons (pe_tup (pa_cons pe_int (pa_cons pe_int pa_nil))) pa_nil))
          (pa_cons (pe_lst (pa_cons (pe_tup (pa_cons pe_int (pa_cons pe_int pa_nil))) (pa_cons (pe_tup (pa_cons pe_int (pa_cons (pe_un un_neg pe_int) pa_nil))) pa_nil)))
          (pa_cons (pe_lst (pa_cons (pe_tup (pa_cons (pe_lst (pa_cons pe_int pa_nil)) (pa_cons pe_int pa_nil))) pa_nil))
          (pa_cons (pe_lst (pa_cons (pe_lst (pa_cons pe_int (pa_cons pe_int pa_nil))) pa_nil)) pa_nil)))))))))))))))))))))))), ?main⟩
    case inner =>
      exact pe_callTy call_tuple_of (by rfl) B.tuple (by decide +kernel) (pa_cons (pe_lc (own := [("_law_part", 11)]) (g := gName 11) (tt := tYes) (by rfl) sc56.nd (pi_tup (pv 12)) (blkOk_by (own := [("_law_part", 11)]) (N := nBent) (sc := relS _ (defScope sBent)) (by decide +kernel))
        (fun _ _ _ _ _ => pg_name (i := 11) sc56.nd rfl (Or.inl rfl)) (fun _ _ _ _ _ => pts_nil) (fun _ _ _ _ _ => pe_ifExp (pt_cmpR op_lt (pv 11) pe_int (nomark _)) (pe_cmpR op_eq (pv 11) pe_int (nomark _)) (pv 11))) pa_nil)
    case main =>
      refine ⟨_, rfl, _, rfl, g1, g2, d, A, B', rfl, hg1, hg2, okA, okB, fun H1 v s1 tv => ?_⟩
      refine told_or rfl s1 tv okA okB lA lB fun H2 ta bs ps s2 fta hta hbs nd lp1 lp2 rp => ?_
      have ln : bs.length = ps.length := Paired.length hbs
      obtain ⟨L1, h1, r1⟩ := id hg1
      obtain ⟨L2, h2, r2⟩ := id hg2
      have ln1 : L1.length = A.length := Paired.length r1
      have ln2 : L2.length = B'.length := Paired.length r2
      have hp2 := hp.same s2
      have ntp : ta ≠ p := fun e => by
        obtain ⟨x, y, q, _⟩ := hp
        rw [← e, fta] at q
        cases q
      refine ⟨_, rfl, _, rfl, ta, bs.map V.ref, rfl, .inl (SqL.of hta), p, ps.length, by rw [List.length_map, ln]; rfl, hp2, lp1, by omega, fun H3 at' s3 hp3 lat => ?_⟩
      refine ⟨_, rfl, _, rfl, g1, _, rfl, .inl (SqL.of (s3 _ _ n1 (s2 _ _ h1))), p, A.length, by rw [List.length_map, ln1]; rfl, hp3, okA.2.1, by omega, fun H4 e1 s4 hp4 le1' => ?_⟩
      refine ⟨_, rfl, _, rfl, g2, _, rfl, .inl (SqL.of (s4 _ _ n2 (s3 _ _ n2 (s2 _ _ h2)))), p, B'.length, by rw [List.length_map, ln2]; rfl, hp4, okB.2.1, by omega, fun H5 e2 s5 hp5 le2' => ⟨le2, fun xt hxt => ?_⟩⟩
      refine ⟨_, _, rfl, ?_⟩
      have sx5 : SamX p H H5 := ((SamX.of_same s2).trans s3).trans (s4.trans s5)
      have sx := same_upd (o := .tup [.int (e1 : Int), .int (e2 : Int)]) hxt
      have hX6 : (upd H5 xt (.tup [.int (e1 : Int), .int (e2 : Int)])) xt = some (.tup [.int (e1 : Int), .int (e2 : Int)]) := upd_same
      obtain ⟨H6, eH6⟩ : ∃ H6, upd H5 xt (.tup [.int (e1 : Int), .int (e2 : Int)]) = H6 := ⟨_, rfl⟩
      rw [eH6] at sx hX6 ⊢
      have sx6 : SamX p H H6 := sx5.trans (SamX.of_same sx)
      have hp6 : PotAt H6 p := hp5.same sx
      have sx26 : SamX p H2 H6 := (s3.trans (s4.trans s5)).trans (SamX.of_same sx)
      have tu26 := sx26.tupsP hp2
      have told6 : DR P w H6 (.list (ps.map pkD)) (.ref ta) := ⟨ta, _, rfl, sx26 _ _ ntp hta, drs_pairs (Paired.mapP hbs fun _ _ e => tu26 _ _ e)⟩
      have ext6 : DR P w H6 (pkD ((e1 : Int), (e2 : Int))) (.ref xt) := ⟨xt, _, rfl, hX6, _, _, rfl, rfl, _, _, rfl, rfl, rfl⟩
      have g16 : H6 g1 = some (.lst (L1.map V.ref)) := sx6 _ _ n1 h1
      have g26 : H6 g2 = some (.lst (L2.map V.ref)) := sx6 _ _ n2 h2
      have Z1 : Vw (fun Hx => Same H6 Hx) id := vw_id fun s h => Same.trans h s
      have hT1 : ∀ Hx, Same H6 Hx → DR P w (id Hx) (.list (ps.map pkD)) (.ref ta) := fun Hx h => DR.same h _ _ told6
      have hX1 : ∀ Hx, Same H6 Hx → DR P w (id Hx) (pkD ((e1 : Int), (e2 : Int))) (.ref xt) := fun Hx h => DR.same h _ _ ext6
      have lps : (ps.map pkD).length = ps.length := List.length_map _
      have sz1 : ∀ lo hi : Option Int, (cutD (ps.map pkD) lo hi).length ≤ 16 := fun lo hi => Nat.le_trans (cut_len _ _ _) (by omega)
      have sz2 : ∀ lo hi lo' hi' : Option Int, (cutD (ps.map pkD) lo hi).length + (cutD (ps.map pkD) lo' hi').length ≤ 100000 := fun lo hi lo' hi' => by
        have a := sz1 lo hi
        have b := sz1 lo' hi'
        omega
      have sz3 : ∀ lo hi : Option Int, (ps.map pkD).length + (cutD (ps.map pkD) lo hi).length ≤ 100000 := fun lo hi => by
        have a := sz1 lo hi
        omega
      have sz4 : ∀ ds : List PyData, ds.length ≤ 100 → (ps.map pkD).length + ds.length ≤ 100000 := fun ds h => by omega
      unfold tSeq tAsg
      dsimp only
      refine lst_of (P := P) (w := w) (I := fun Hx => Same H6 Hx) (vw := id) (ds := [.list (ps.map pkD), .list (ps.map pkD).reverse, .tuple (ps.map pkD), .list (ps.map pkD ++ [pkD ((e1 : Int), (e2 : Int))]), .list (ps.map pkD ++ cutD (ps.map pkD) none (some 1)), .list (cutD (ps.map pkD) none (some (at' : Int)) ++ cutD (ps.map pkD) (some ((at' : Int) + 1)) none), .list (ps.map pkD ++ [.none])]) ?mk1 (fun _ _ e => e) (Nat.le_of_lt (small_of (by show 7 ≤ 100000; decide))) fun H7 vs f0 s7 hvs hf0 => ?_
      case mk1 =>
        refine mks_cons Z1 (mk_var rfl hT1) (mks_cons Z1 (mk_rev Z1 (mk_var rfl hT1)) (mks_cons Z1 (mk_tupL Z1 (mk_var rfl hT1)) (mks_cons Z1 ?a (mks_cons Z1 ?b (mks_cons Z1 ?c (mks_cons Z1 ?d mks_nil))))))
        case a => exact mk_cat Z1 (mk_var rfl hT1) (mk_lst Z1 (mks_cons Z1 (mk_var rfl hX1) mks_nil) (by show 1 ≤ 100000; decide)) (sz4 _ (by show 1 ≤ 100; decide))
        case b => exact mk_cat Z1 (mk_var rfl hT1) (mk_cut Z1 (mk_var rfl hT1) mko_none (mko_some (vw := id) (mk_c (P := P) (w := w) fun _ => rfl))) (sz3 _ _)
        case c => exact mk_cat Z1 (mk_cut Z1 (mk_var rfl hT1) mko_none (mko_some (P := P) (w := w) (vw := id) (mk_var rfl fun _ _ => rfl))) (mk_cut Z1 (mk_var rfl hT1) (mko_some (P := P) (w := w) (vw := id) (mk_add (mk_var rfl fun _ _ => rfl) (mk_c fun _ => rfl))) mko_none) (sz2 _ _ _ _)
        case d => exact mk_cat Z1 (mk_var rfl hT1) (mk_lst Z1 (mks_cons Z1 (mk_c fun _ => rfl) mks_nil)) (sz4 _ (by show 1 ≤ 100; decide))
      have hf6 : H6 f0 = none := Same.free s7 hf0
      have s78 := same_upd (o := .lst vs) hf0
      have h8f : (upd H7 f0 (.lst vs)) f0 = some (.lst vs) := upd_same
      have hvs : DRs P w H7 [.list (ps.map pkD), .list (ps.map pkD).reverse, .tuple (ps.map pkD), .list (ps.map pkD ++ [pkD ((e1 : Int), (e2 : Int))]), .list (ps.map pkD ++ cutD (ps.map pkD) none (some 1)), .list (cutD (ps.map pkD) none (some (at' : Int)) ++ cutD (ps.map pkD) (some ((at' : Int) + 1)) none), .list (ps.map pkD ++ [.none])] vs := hvs
      obtain ⟨ds1, hds1⟩ : ∃ ds1 : List PyData, [.list (ps.map pkD), .list (ps.map pkD).reverse, .tuple (ps.map pkD), .list (ps.map pkD ++ [pkD ((e1 : Int), (e2 : Int))]), .list (ps.map pkD ++ cutD (ps.map pkD) none (some 1)), .list (cutD (ps.map pkD) none (some (at' : Int)) ++ cutD (ps.map pkD) (some ((at' : Int) + 1)) none), .list (ps.map pkD ++ [.none])] = ds1 := ⟨_, rfl⟩
      rw [hds1] at hvs
      obtain ⟨H8, eH8⟩ : ∃ H8, upd H7 f0 (.lst vs) = H8 := ⟨_, rfl⟩
      rw [eH8] at s78 h8f ⊢
      have v78 : Same H7 (hole f0 id H8) := fun c o e => by
        have q : c ≠ f0 := fun q => by
          rw [q, hf0] at e
          cases e
        rw [hole_ne q]
        exact s78 _ _ e
      have vs8 : DRs P w (hole f0 id H8) ds1 vs := DRs.same v78 _ _ hvs
      have told8 : DR P w (hole f0 id H8) (.list (ps.map pkD)) (.ref ta) := DR.same (Same.trans s7 v78) _ _ told6
      obtain ⟨I2, hI2⟩ : ∃ I2 : Hp → Prop, I2 = fun Hx => (∃ zs, Hx f0 = some (.lst zs)) ∧ Same (hole f0 id H8) (hole f0 id Hx) := ⟨_, rfl⟩
      have Z2 : Vw I2 (hole f0 id) := vw_hole (vw_id (I := fun _ => True) fun _ _ => trivial) (fun h => ⟨trivial, by rw [hI2] at h; exact h.1⟩) (fun {Ha Hb} s h => by
        rw [hI2] at h ⊢
        obtain ⟨⟨zs, h1⟩, h2⟩ := h
        refine ⟨⟨zs, s _ _ h1⟩, fun c o e => ?_⟩
        have q : c ≠ f0 := fun q => by
          rw [q] at e
          unfold hole at e
          rw [if_pos rfl] at e
          cases e
        have e2 := h2 _ _ e
        rw [hole_ne q] at e2 ⊢
        exact s _ _ e2)
      have hT2 : ∀ Hx, I2 Hx → DR P w (hole f0 id Hx) (.list (ps.map pkD)) (.ref ta) := fun Hx h => by
        rw [hI2] at h
        exact DR.same h.2 _ _ told8
      refine ⟨Nat.zero_le _, fun ev hev => ?_⟩
      have nef : ev ≠ f0 := fun e => by
        rw [e, h8f] at hev
        cases hev
      have s89 := same_upd (o := .lst []) hev
      have h9e : (upd H8 ev (.lst [])) ev = some (.lst []) := upd_same
      obtain ⟨H9, eH9⟩ : ∃ H9, upd H8 ev (.lst []) = H9 := ⟨_, rfl⟩
      rw [eH9] at s89 h9e ⊢
      obtain ⟨I3, hI3⟩ : ∃ I3 : Hp → Prop, I3 = fun Hx => I2 Hx ∧ ∃ ys, Hx ev = some (.lst ys) := ⟨_, rfl⟩
      have Z3 : Vw I3 (hole ev (hole f0 id)) := vw_hole Z2 (fun h => by rw [hI3] at h; exact h) (fun {Ha Hb} s h => by
        rw [hI3] at h ⊢
        obtain ⟨h1, ys, h2⟩ := h
        exact ⟨Z2.same s h1, ys, s _ _ h2⟩)
      have i29 : I2 H9 := Z2.same s89 (by rw [hI2]; exact ⟨⟨vs, h8f⟩, fun _ _ e => e⟩)
      have g18 : (hole f0 id H8) g1 = some (.lst (L1.map V.ref)) := v78 _ _ (s7 _ _ g16)
      have g28 : (hole f0 id H8) g2 = some (.lst (L2.map V.ref)) := v78 _ _ (s7 _ _ g26)
      have hG1 : ∀ Hx, I2 Hx → ∃ xs, Hx g1 = some (.lst xs) ∧ xs.length = A.length := fun Hx h => by
        rw [hI2] at h
        exact ⟨_, hole_sub _ _ (h.2 _ _ g18), by rw [List.length_map, ln1]⟩
      have hG2 : ∀ Hx, I2 Hx → ∃ xs, Hx g2 = some (.lst xs) ∧ xs.length = B'.length := fun Hx h => by
        rw [hI2] at h
        exact ⟨_, hole_sub _ _ (h.2 _ _ g28), by rw [List.length_map, ln2]⟩
      obtain ⟨xs1, hx1, hl1⟩ := hG1 H9 i29
      refine ⟨_, rfl, g1, xs1, rfl, .inl (SqL.of hx1), A.length, by rw [hl1], by omega, by omega, ?_⟩
      rw [show ((A.length : Int)).toNat = A.length by omega]
      have v89 : Same (hole f0 id H8) (hole ev (hole f0 id) H9) := fun c o e => by
        have q : c ≠ ev := fun q => by
          rw [q, hole_ne nef] at e
          rw [show H8 ev = some o from e] at hev
          cases hev
        rw [hole_ne q]
        exact (Z2.mono s89) _ _ e
      refine for_it (n := A.length) (fun i σ Hx => I3 Hx ∧ Hx f0 = some (.lst vs) ∧ Same (hole ev (hole f0 id) H9) (hole ev (hole f0 id) Hx) ∧ (∃ x8, σ = [some (.ref p), some (.ref g1), some (.ref g2), some (.ref ta), some (.int (at' : Int)), some (.ref xt), some (.ref f0), some (.ref ev), x8, none, none, none, none]) ∧ ∃ es, Hx ev = some (.lst es) ∧ DRs P w (hole ev (hole f0 id) Hx) (everyD B'.length i) es)
        ⟨by rw [hI3]; exact ⟨i29, _, h9e⟩, s89 _ _ h8f, fun _ _ e => e, ⟨_, rfl⟩, [], h9e, rfl⟩ (fun i σ Hx hi _ => hi) (fun σ Hx _ => Nat.le_refl _) (fun i σ Hx x Hy hi pi y => ?_) fun σ Hx pi => ?_
      · obtain ⟨rfl, rfl⟩ := y
        obtain ⟨hI, hf, hs, ⟨x8, rfl⟩, es, he, hd⟩ := pi
        have hI' := hI
        rw [hI3] at hI'
        have hn : (0 : Int) + (i : Int) = (i : Int) := by omega
        rw [hn]
        refine ⟨_, rfl, .inl ⟨rfl, _, SqL.of he⟩, ?_⟩
        have mkE : Mk P w I3 (hole ev (hole f0 id)) [some (.ref p), some (.ref g1), some (.ref g2), some (.ref ta), some (.int (at' : Int)), some (.ref xt), some (.ref f0), some (.ref ev), some (.int (i : Int)), none, none, none, none]
            (tLc (iRng1 (tCons (tCB (fun xs H Q => ∃ p ys, xs = [.ref p] ∧ (SqL K H p ys ∨ SqT K H p ys) ∧ Q (.int ys.length) H) (tCons (tVar 2) tNil)) tNil)) (gName 10) tYes (tTup (tCons (tVar 8) (tCons (tVar 10) tNil))) [10]) (.list ((List.range B'.length).map fun (y : Nat) => pkD ((i : Int), (y : Int)))) := by
          refine mk_lcR Z3 (mk_len rfl fun Hx h => hG2 Hx (by rw [hI3] at h; exact h.1)) (fun x => rfl) (by have := lB; omega) fun I4 vw4 Z4 t ht => ?_
          exact mk_tup Z4 (mks_cons Z4 (mk_var rfl fun _ _ => rfl) (mks_cons Z4 (mk_var rfl fun _ _ => rfl) mks_nil)) (by show 2 ≤ 100000; decide)
        refine mkE _ _ hI fun H' v s' hi' hv => ?_
        obtain ⟨z, zs, rfl, hz, hzs⟩ := hv
        have lz := DRs.len hzs
        rw [List.length_map, List.length_range] at lz
        have les := DRs.len hd
        rw [everyD_len] at les
        have hsmall : i * B'.length ≤ 4 * 4 := Nat.mul_le_mul (by omega) lB
        refine ⟨ev, z, es, zs, rfl, rfl, s' _ _ he, Z3.sub _ _ hz, by rw [← les, ← lz]; exact Nat.le_of_lt (small_of (by omega)), ?_⟩
        have hi2 : I3 (upd H' ev (.lst (es ++ zs))) := by
          rw [hI3, hI2] at hi' ⊢
          obtain ⟨⟨⟨q1, q2⟩, q3⟩, _⟩ := hi'
          refine ⟨⟨⟨q1, by rw [upd_ne (Ne.symm nef)]; exact q2⟩, fun c o e => ?_⟩, _, upd_same⟩
          have q : c ≠ ev := fun q => by
            rw [q, hole_ne nef] at e
            rw [show H8 ev = some o from e] at hev
            cases hev
          have e2 := q3 _ _ e
          have q4 : c ≠ f0 := fun q4 => by
            rw [q4] at e
            unfold hole at e
            rw [if_pos rfl] at e
            cases e
          rw [hole_ne q4] at e2 ⊢
          show (upd H' ev (.lst (es ++ zs))) c = some o
          rw [upd_ne q]
          exact e2
        have sv : Same (hole ev (hole f0 id) H') (hole ev (hole f0 id) (upd H' ev (.lst (es ++ zs)))) := fun c o e => by
          by_cases q : c = ev
          · rw [q] at e
            unfold hole at e
            rw [if_pos rfl] at e
            cases e
          · rw [hole_ne q] at e ⊢
            rw [← Z2.loc (show H' c = (upd H' ev (.lst (es ++ zs))) c from (upd_ne q).symm)]
            exact e
        refine ⟨hi2, by rw [upd_ne (Ne.symm nef)]; exact s' _ _ hf, Same.trans hs (Same.trans (Z3.mono s') sv), ⟨_, rfl⟩, _, upd_same, ?_⟩
        rw [everyD_succ]
        exact DRs.append (DRs.same (Same.trans (Z3.mono s') sv) _ _ hd) (DRs.same sv _ _ hzs)
      · obtain ⟨hI, hf, hs, ⟨x8, rfl⟩, es, he, hd⟩ := pi
        obtain ⟨T, hT⟩ : ∃ T, ps.map pkD = T := ⟨_, rfl⟩
        obtain ⟨HE, hHE⟩ : ∃ HE, Hx = HE := ⟨_, rfl⟩
        rw [hHE] at hI hf hs he hd ⊢
        obtain ⟨I4, Z4, up4, i4E, sI4⟩ := i4_pack hf
        have s8E : Same (hole f0 id H8) (hole f0 id HE) := fun c o e => by
          have q : c ≠ ev := fun q => by
            rw [q, hole_ne nef] at e
            rw [show H8 ev = some o from e] at hev
            cases hev
          have e2 := hs _ _ (v89 _ _ e)
          rw [hole_ne q] at e2
          exact e2
        have vsE : DRs P w (hole f0 id HE) ds1 vs := DRs.same s8E _ _ vs8
        have toldE : DR P w (hole f0 id HE) (.list T) (.ref ta) := by
          rw [← hT]
          exact DR.same s8E _ _ told8
        have evE : DR P w (hole f0 id HE) (.list (everyD B'.length A.length)) (.ref ev) := ⟨ev, es, rfl, by rw [hole_ne nef]; exact he, DRs.same hole_sub _ _ hd⟩
        have hT4 : ∀ Hx, I4 Hx → DR P w (hole f0 id Hx) (.list T) (.ref ta) := fun Hx h => DR.same (sI4 _ h) _ _ toldE
        have hE4 : ∀ Hx, I4 Hx → DR P w (hole f0 id Hx) (.list (everyD B'.length A.length)) (.ref ev) := fun Hx h => DR.same (sI4 _ h) _ _ evE
        have hG14 : ∀ Hx, I4 Hx → ∃ xs, Hx g1 = some (.lst xs) ∧ xs.length = A.length := fun Hx h => ⟨_, hole_sub _ _ (sI4 _ h _ _ (s8E _ _ g18)), by rw [List.length_map, ln1]⟩
        have hG24 : ∀ Hx, I4 Hx → ∃ xs, Hx g2 = some (.lst xs) ∧ xs.length = B'.length := fun Hx h => ⟨_, hole_sub _ _ (sI4 _ h _ _ (s8E _ _ g28)), by rw [List.length_map, ln2]⟩
        have lT : T.length = ps.length := by rw [← hT]; exact lps
        have tz1 : ∀ lo hi : Option Int, (cutD T lo hi).length ≤ 16 := fun lo hi => Nat.le_trans (cut_len _ _ _) (by omega)
        have tz4 : ∀ ds : List PyData, ds.length ≤ 100 → T.length + ds.length ≤ 100000 := fun ds h => by omega
        obtain ⟨pa, hpa⟩ : ∃ pa, ps[at']? = some pa := ⟨ps[at'], List.getElem?_eq_getElem lat⟩
        have hTa : T[at']? = some (pkD pa) := by
          rw [← hT, List.getElem?_map, hpa]
          rfl
        have l1 : ds1.length = 7 := by rw [← hds1]; rfl
        refine ext_at (P := P) (w := w) (I := I4) (i := 6) (ds := ds1) (es := [.list (everyD B'.length A.length), .list ((cutD T none (some (at' : Int)) ++ [.list [.int pa.1, .int pa.2]]) ++ cutD T (some ((at' : Int) + 1)) none), .list (T ++ [pkD ((A.length : Int), 0)]), .list (T ++ [pkD (0, (B'.length : Int))])]) Z4 up4 ?m2 rfl i4E hf vsE (by rw [l1]; show 7 + 4 ≤ 100000; decide) fun Ha va hia hfa hda => ?_
        case m2 =>
          refine mks_cons Z4 (mk_var rfl hE4) (mks_cons Z4 ?a (mks_cons Z4 ?b (mks_cons Z4 ?c mks_nil)))
          case a =>
            refine mk_cat Z4 (mk_cat Z4 (mk_cut Z4 (mk_var rfl hT4) mko_none (mko_some (P := P) (w := w) (vw := hole f0 id) (mk_var rfl fun _ _ => rfl))) (mk_lst Z4 (mks_cons Z4 (mk_listT Z4 (mk_ixL Z4 (mk_var rfl hT4) (mk_var rfl fun _ _ => rfl) hTa)) mks_nil) (by show 1 ≤ 100000; decide)) ?_) (mk_cut Z4 (mk_var rfl hT4) (mko_some (P := P) (w := w) (vw := hole f0 id) (mk_add (mk_var rfl fun _ _ => rfl) (mk_c fun _ => rfl))) mko_none) ?_
            · have := tz1 none (some (at' : Int))
              show _ + 1 ≤ 100000
              omega
            · have a1 := tz1 none (some (at' : Int))
              have a2 := tz1 (some ((at' : Int) + 1)) none
              rw [List.length_append]
              show _ + 1 + _ ≤ 100000
              omega
          case b => exact mk_cat Z4 (mk_var rfl hT4) (mk_lst Z4 (mks_cons Z4 (mk_tup Z4 (mks_cons Z4 (mk_len rfl hG14) (mks_cons Z4 (mk_c fun _ => rfl) mks_nil)) (by show 2 ≤ 100000; decide)) mks_nil) (by show 1 ≤ 100000; decide)) (tz4 _ (by show 1 ≤ 100; decide))
          case c => exact mk_cat Z4 (mk_var rfl hT4) (mk_lst Z4 (mks_cons Z4 (mk_tup Z4 (mks_cons Z4 (mk_c fun _ => rfl) (mks_cons Z4 (mk_len rfl hG24) mks_nil)) (by show 2 ≤ 100000; decide)) mks_nil) (by show 1 ≤ 100000; decide)) (tz4 _ (by show 1 ≤ 100; decide))
        dsimp only
        refine mk_lc (P := P) (w := w) (K := K) (ds := T) (f := bpT) Z4 (mk_var ?hv hT4) ?hw (by omega) ?mb _ _ hia fun Hb vb sb hib hvb => ?_
        case hv => rfl
        case hw => exact fun x => rfl
        case mb =>
          intro I2 vw2 Z2 d x hd hx
          rw [← hT] at hd
          obtain ⟨q, hq, rfl⟩ := List.mem_map.mp hd
          refine mk_tupL Z2 (mk_lcT (ds := [.int q.1, .int q.2]) (f := bpF) Z2 (mk_var rfl hx) (fun x => rfl) (by show 2 ≤ 100000; decide) fun I3 vw3 Z3 d2 x2 hd2 hx2 H3 Q3 hi3 q3 => ?_)
          have h2 := hx2 H3 hi3
          rcases List.mem_cons.mp hd2 with rfl | hd2
          · cases h2
            exact mk_bp rfl H3 Q3 hi3 q3
          · rw [List.mem_singleton.mp hd2] at h2 q3
            cases h2
            exact mk_bp rfl H3 Q3 hi3 q3
        obtain ⟨I5, Z5, up5, i5E, sI5⟩ := i4_pack (sb _ _ hfa)
        have sEb : Same (hole f0 id HE) (hole f0 id Hb) := sI4 _ hib
        have hT5 : ∀ Hx, I5 Hx → DR P w (hole f0 id Hx) (.list T) (.ref ta) := fun Hx h => DR.same (sI5 _ h) _ _ (hT4 _ hib)
        have hB5 : ∀ Hx, I5 Hx → DR P w (hole f0 id Hx) (.list (T.map bpT)) vb := fun Hx h => DR.same (sI5 _ h) _ _ hvb
        have hda2 := DRs.same (Z4.mono sb) _ _ hda
        obtain ⟨ds2, hds2⟩ : ∃ ds2, ds1 ++ [.list (everyD B'.length A.length), .list ((cutD T none (some (at' : Int)) ++ [.list [.int pa.1, .int pa.2]]) ++ cutD T (some ((at' : Int) + 1)) none), .list (T ++ [pkD ((A.length : Int), 0)]), .list (T ++ [pkD (0, (B'.length : Int))])] = ds2 := ⟨_, rfl⟩
        rw [hds2] at hda2
        have l2 : ds2.length = 11 := by rw [← hds2, List.length_append, l1]; rfl
        have inT : ∀ d ∈ T, ∃ q : Int × Int, q ∈ ps ∧ d = pkD q := fun d hd => by
          rw [← hT] at hd
          obtain ⟨q, hq, rfl⟩ := List.mem_map.mp hd
          exact ⟨q, hq, rfl⟩
        refine ext_at (P := P) (w := w) (I := I5) (i := 6) (ds := ds2) (es := [.list (T.map bpT), .list [.list T], .dict (ps.map fun p => (pkD p, .int 0)), .list (T.map catF), .list (T.map cutF)]) Z5 up5 ?m3 rfl i5E (sb _ _ hfa) hda2 (by rw [l2]; show 11 + 5 ≤ 100000; decide) fun Hc vc hic hfc hdc => ?_
        case m3 =>
          refine mks_cons Z5 (mk_var rfl hB5) (mks_cons Z5 ?a (mks_cons Z5 ?b (mks_cons Z5 ?c (mks_cons Z5 ?d mks_nil))))
          case a => exact mk_lst Z5 (mks_cons Z5 (mk_var rfl hT5) mks_nil) (by show 1 ≤ 100000; decide)
          case b =>
            refine mk_dict Z5 ?_ nd
            have e : (ps.map fun p => PyData.tuple [pkD p, .int 0]) = T.map fun d => .tuple [d, .int 0] := by rw [← hT, List.map_map]; rfl
            rw [e]
            refine mk_lc (f := fun d => .tuple [d, .int 0]) Z5 (mk_var rfl hT5) (fun x => rfl) (by omega) fun I6 vw6 Z6 d x hd hx => ?_
            exact mk_tup Z6 (mks_cons Z6 (mk_var rfl hx) (mks_cons Z6 (mk_c fun _ => rfl) mks_nil)) (by show 2 ≤ 100000; decide)
          case c =>
            refine mk_lc (f := catF) Z5 (mk_var rfl hT5) (fun x => rfl) (by omega) fun I6 vw6 Z6 d x hd hx => ?_
            obtain ⟨q, hq, rfl⟩ := inT d hd
            exact mk_catA Z6 (mk_var rfl hx) (mk_tup Z6 (mks_cons Z6 (mk_c fun _ => rfl) mks_nil) (by show 1 ≤ 100000; decide)) (by simp) (by simp) (by show 2 + 1 ≤ 100000; decide)
          case d =>
            refine mk_lc (f := cutF) Z5 (mk_var rfl hT5) (fun x => rfl) (by omega) fun I6 vw6 Z6 d x hd hx => ?_
            obtain ⟨q, hq, rfl⟩ := inT d hd
            exact mk_cutA Z6 (mk_var rfl hx) mko_none (mko_some (P := P) (w := w) (vw := vw6) (mk_c fun _ => rfl)) (by show ¬ (HT.sIx 2 0 none = 0 ∧ HT.sIx 2 2 (some 1) = 2); decide)
        obtain ⟨ds3, hds3⟩ : ∃ ds3, ds2 ++ [.list (T.map bpT), .list [.list T], .dict (ps.map fun p => (pkD p, .int 0)), .list (T.map catF), .list (T.map cutF)] = ds3 := ⟨_, rfl⟩
        rw [hds3] at hdc
        have l3 : ds3.length = 16 := by rw [← hds3, List.length_append, l2]; rfl
        have catK : ∀ {σ1 : _root_.L2.St} {te : TE} {d : PyData}, σ1[3]? = some (some (.ref ta)) → Mk P w I5 (hole f0 id) σ1 te d → Mk P w I5 (hole f0 id) σ1 (tOp rCat (tVar 3) (tLst (tCons te tNil))) (.list (T ++ [d])) := fun {σ1 te d} e h => mk_cat Z5 (mk_var e hT5) (mk_lst Z5 (mks_cons Z5 h mks_nil) (by show 1 ≤ 100000; decide)) (tz4 _ (by show 1 ≤ 100; decide))
        refine ext_at (P := P) (w := w) (I := I5) (i := 6) (ds := ds3) (es := [.list (T ++ [pkD (-1, 0)]), .list (T ++ [pkD (0, -1)]), .list (T ++ [.tuple [.list [.int 0], .int 0]]), .list (T ++ [.tuple [.int 0, .list [.int 0]]]), .list (T ++ [.tuple [.dict [], .int 0]])]) Z5 up5 ?m4 rfl hic hfc hdc (by rw [l3]; show 16 + 5 ≤ 100000; decide) fun Hd vd hid hfd hdd => ?_
        case m4 =>
          refine mks_cons Z5 ?a (mks_cons Z5 ?b (mks_cons Z5 ?c (mks_cons Z5 ?d (mks_cons Z5 ?e mks_nil))))
          case a => exact catK rfl (mk_tup Z5 (mks_cons Z5 (mk_neg (mk_c fun _ => rfl)) (mks_cons Z5 (mk_c fun _ => rfl) mks_nil)) (by show 2 ≤ 100000; decide))
          case b => exact catK rfl (mk_tup Z5 (mks_cons Z5 (mk_c fun _ => rfl) (mks_cons Z5 (mk_neg (mk_c fun _ => rfl)) mks_nil)) (by show 2 ≤ 100000; decide))
          case c => exact catK rfl (mk_tup Z5 (mks_cons Z5 (mk_lst Z5 (mks_cons Z5 (mk_c fun _ => rfl) mks_nil) (by show 1 ≤ 100000; decide)) (mks_cons Z5 (mk_c fun _ => rfl) mks_nil)) (by show 2 ≤ 100000; decide))
          case d => exact catK rfl (mk_tup Z5 (mks_cons Z5 (mk_c fun _ => rfl) (mks_cons Z5 (mk_lst Z5 (mks_cons Z5 (mk_c fun _ => rfl) mks_nil) (by show 1 ≤ 100000; decide)) mks_nil)) (by show 2 ≤ 100000; decide))
          case e => exact catK rfl (mk_tup Z5 (mks_cons Z5 (mk_new Z5) (mks_cons Z5 (mk_c fun _ => rfl) mks_nil)) (by show 2 ≤ 100000; decide))
        obtain ⟨ds4, hds4⟩ : ∃ ds4, ds3 ++ [.list (T ++ [pkD (-1, 0)]), .list (T ++ [pkD (0, -1)]), .list (T ++ [.tuple [.list [.int 0], .int 0]]), .list (T ++ [.tuple [.int 0, .list [.int 0]]]), .list (T ++ [.tuple [.dict [], .int 0]])] = ds4 := ⟨_, rfl⟩
        rw [hds4] at hdd
        have l4 : ds4.length = 21 := by rw [← hds4, List.length_append, l3]; rfl
        unfold tRet
        dsimp only
        refine ⟨_, rfl, ?_⟩
        have c0 : ∀ {σ1 : _root_.L2.St} (i : Int), Mk P w I5 (hole f0 id) σ1 (tC (.int i)) (.int i) := fun i => mk_c fun _ => rfl
        refine lst_of (P := P) (w := w) (I := I5) (vw := hole f0 id) (ds := [.none, .int 0, .bool true, .str (Str.ofString ""), .list [], .tuple [], .dict [], .list [.tuple [.int 0, .int 0]], .list [.tuple [.int 0, .int 0], .tuple [.int 0, .int (-1)]], .list [.tuple [.list [.int 0], .int 0]], .list [.list [.int 0, .int 0]]]) ?m5 hid (Nat.le_of_lt (small_of (by show 11 ≤ 100000; decide))) fun He ve a s5' hve ha => ?_
        case m5 =>
          refine mks_cons Z5 (mk_c fun _ => rfl) (mks_cons Z5 (c0 0) (mks_cons Z5 (mk_c fun _ => rfl) (mks_cons Z5 (mk_c fun _ => rfl) (mks_cons Z5 ?a (mks_cons Z5 ?b (mks_cons Z5 (mk_new Z5) (mks_cons Z5 ?c (mks_cons Z5 ?d (mks_cons Z5 ?e (mks_cons Z5 ?f mks_nil))))))))))
          case a => exact mk_lst Z5 mks_nil (by show 0 ≤ 100000; decide)
          case b => exact mk_tup Z5 mks_nil (by show 0 ≤ 100000; decide)
          case c => exact mk_lst Z5 (mks_cons Z5 (mk_tup Z5 (mks_cons Z5 (c0 0) (mks_cons Z5 (c0 0) mks_nil)) (by show 2 ≤ 100000; decide)) mks_nil) (by show 1 ≤ 100000; decide)
          case d => exact mk_lst Z5 (mks_cons Z5 (mk_tup Z5 (mks_cons Z5 (c0 0) (mks_cons Z5 (c0 0) mks_nil)) (by show 2 ≤ 100000; decide)) (mks_cons Z5 (mk_tup Z5 (mks_cons Z5 (c0 0) (mks_cons Z5 (mk_neg (c0 1)) mks_nil)) (by show 2 ≤ 100000; decide)) mks_nil)) (by show 2 ≤ 100000; decide)
          case e => exact mk_lst Z5 (mks_cons Z5 (mk_tup Z5 (mks_cons Z5 (mk_lst Z5 (mks_cons Z5 (c0 0) mks_nil) (by show 1 ≤ 100000; decide)) (mks_cons Z5 (c0 0) mks_nil)) (by show 2 ≤ 100000; decide)) mks_nil) (by show 1 ≤ 100000; decide)
          case f => exact mk_lst Z5 (mks_cons Z5 (mk_lst Z5 (mks_cons Z5 (c0 0) (mks_cons Z5 (c0 0) mks_nil)) (by show 2 ≤ 100000; decide)) mks_nil) (by show 1 ≤ 100000; decide)
        obtain ⟨ds5, hds5⟩ : ∃ ds5 : List PyData, [.none, .int 0, .bool true, .str (Str.ofString ""), .list [], .tuple [], .dict [], .list [.tuple [.int 0, .int 0]], .list [.tuple [.int 0, .int 0], .tuple [.int 0, .int (-1)]], .list [.tuple [.list [.int 0], .int 0]], .list [.list [.int 0, .int 0]]] = ds5 := ⟨_, rfl⟩
        rw [hds5] at hve
        have l5 : ds5.length = 11 := by rw [← hds5]; rfl
        have lvd := DRs.len hdd
        have lve := DRs.len hve
        have sa := same_upd (o := .lst ve) ha
        refine ⟨f0, a, vd, ve, rfl, rfl, sa _ _ (s5' _ _ hfd), upd_same, by rw [← lvd, ← lve]; exact Nat.le_of_lt (small_of (by omega)), fun L hL => ?_⟩
        have sl := same_upd (o := .lst (vd ++ ve)) hL
        have s2 : Same He (upd (upd He a (.lst ve)) L (.lst (vd ++ ve))) := Same.trans sa sl
        have sAll : Same H6 (upd (upd He a (.lst ve)) L (.lst (vd ++ ve))) := Same.trans (Same.trans s7 (Same.trans v78 (Same.trans s8E (Same.trans sEb (Same.trans (sI5 _ hid) hole_sub))))) (Same.trans s5' s2)
        refine k _ L _ (ds4 ++ ds5) (sx6.trans (SamX.of_same sAll)) (hp6.same sAll) upd_same ?_ ?_ (by rw [List.length_append, l4, l5]; decide)
        · exact DRs.append (DRs.same (Same.trans hole_sub (Same.trans s5' s2)) _ _ hdd) (DRs.same (Same.trans hole_sub s2) _ _ hve)
        · have ptT : ∀ x ∈ T, Pt x := fun x hx => by
            obtain ⟨q, hq, rfl⟩ := inT x hx
            have := rp q hq
            exact pt_pk (by omega) (by omega) (by omega) (by omega)
          have fT : ∀ x ∈ T, Fine 1 16 x := fun x hx => by
            obtain ⟨q, hq, rfl⟩ := inT x hx
            have := rp q hq
            exact fine_pk (by omega) (by omega) (by omega) (by omega)
          have ptC : ∀ lo hi, ∀ x ∈ cutD T lo hi, Pt x := fun lo hi x hx => ptT x (mem_cut hx)
          have hpa4 := rp pa (List.mem_of_getElem? hpa)
          have plus : ∀ {x : PyData}, Pt x → Tg (.list (T ++ [x])) := fun h => tg_list (by rw [List.length_append]; show T.length + 1 < 64; omega) (ptl_app ptT (ptl_one h))
          have z1 : Fine 0 7 (.int 0) := fine_int (by decide) (by decide)
          have pl : ∀ {a b : Int}, -1 ≤ a → a < 64 → -1 ≤ b → b < 64 → Pt (.list [.int a, .int b]) := fun {a b} h1 h2 h3 h4 => pt_lst ((fine_list (n := 0) (W := 7) (m := 2) (fun d hd => by
            rcases List.mem_cons.mp hd with rfl | hd
            · exact fine_int h1 h2
            · rw [List.mem_singleton.mp hd]; exact fine_int h3 h4) (by show 2 ≤ 2; omega)).mono (by decide) (by decide))
          have g1 : ∀ d ∈ ds1, Tg d := by
            rw [← hds1, hT]
            refine tgs_cons (tg_list (by omega) ptT) (tgs_cons (tg_list (by rw [List.length_reverse]; omega) fun x hx => ptT x (List.mem_reverse.mp hx)) (tgs_cons (tg_seq (.inr rfl) (by omega) ptT) (tgs_cons (plus ?_) (tgs_cons (tg_list ?_ (ptl_app ptT (ptC _ _))) (tgs_cons (tg_list ?_ (ptl_app (ptC _ _) (ptC _ _))) (tgs_cons (plus (pt_flat (fine_none.mono (by decide) (by decide)))) tgs_nil))))))
            · exact pt_pk (show (-1 : Int) ≤ (e1 : Int) by omega) (show (e1 : Int) < 64 by omega) (show (-1 : Int) ≤ (e2 : Int) by omega) (show (e2 : Int) < 64 by omega)
            · have := tz1 none (some 1)
              rw [List.length_append]
              omega
            · have a1 := tz1 none (some (at' : Int))
              have a2 := tz1 (some ((at' : Int) + 1)) none
              rw [List.length_append]
              omega
          have g2 : ∀ d ∈ ds2, Tg d := by
            rw [← hds2]
            refine tgs_app g1 (tgs_cons (tg_list ?_ ?_) (tgs_cons (tg_list ?_ (ptl_app (ptl_app (ptC _ _) (ptl_one (pl (by omega) (by omega) (by omega) (by omega)))) (ptC _ _))) (tgs_cons (plus (pt_pk (show (-1 : Int) ≤ (A.length : Int) by omega) (show (A.length : Int) < 64 by omega) (by show (-1 : Int) ≤ 0; decide) (by show (0 : Int) < 64; decide))) (tgs_cons (plus (pt_pk (by show (-1 : Int) ≤ 0; decide) (by show (0 : Int) < 64; decide) (show (-1 : Int) ≤ (B'.length : Int) by omega) (show (B'.length : Int) < 64 by omega))) tgs_nil))))
            · rw [everyD_len]
              have : A.length * B'.length ≤ 4 * 4 := Nat.mul_le_mul lA lB
              omega
            · intro x hx
              obtain ⟨i, hi, hx⟩ := List.mem_flatMap.mp hx
              obtain ⟨j, hj, rfl⟩ := List.mem_map.mp hx
              have hi := List.mem_range.mp hi
              have hj := List.mem_range.mp hj
              exact pt_pk (show (-1 : Int) ≤ (i : Int) by omega) (show (i : Int) < 64 by omega) (show (-1 : Int) ≤ (j : Int) by omega) (show (j : Int) < 64 by omega)
            · have a1 := tz1 none (some (at' : Int))
              have a2 := tz1 (some ((at' : Int) + 1)) none
              rw [List.length_append, List.length_append]
              show _ + 1 + _ < 64
              omega
          have bp1 : ∀ {i : Int}, 0 ≤ i → i < 4 → Fine 0 7 (bpF (.int i)) := fun {i} h1 h2 => by
            show Fine 0 7 (if i < 2 then .bool (decide (i = 1)) else .int i)
            by_cases q : i < 2
            · rw [if_pos q]
              exact (fine_bool _).mono (by decide) (by decide)
            · rw [if_neg q]
              exact fine_int (by omega) (by omega)
          have g3 : ∀ d ∈ ds3, Tg d := by
            rw [← hds3]
            refine tgs_app g2 (tgs_cons (tg_list (by rw [List.length_map]; omega) (ptl_map fun d hd => ?_)) (tgs_cons (tg_list (by show 1 < 64; decide) (ptl_one (pt_lst ((fine_list (m := 16) fT (by omega)).mono (by decide) (by decide))))) (tgs_cons (tg_flat ((fine_dict (n := 1) (W := 16) (m := 16) (fun p hp => ?_) (by rw [List.length_map]; omega)).mono (by decide) (by decide)) rfl) (tgs_cons (tg_list (by rw [List.length_map]; omega) (ptl_map fun d hd => ?_)) (tgs_cons (tg_list (by rw [List.length_map]; omega) (ptl_map fun d hd => ?_)) tgs_nil)))))
            · obtain ⟨q, hq, rfl⟩ := inT d hd
              have := rp q hq
              exact pt_two ((bp1 (by omega) (by omega)).mono (by decide) (by decide)) ((bp1 (by omega) (by omega)).mono (by decide) (by decide))
            · obtain ⟨q, hq, rfl⟩ := List.mem_map.mp hp
              have := rp q hq
              exact ⟨fine_pk (by omega) (by omega) (by omega) (by omega), z1.mono (by decide) (by decide)⟩
            · obtain ⟨q, hq, rfl⟩ := inT d hd
              have := rp q hq
              refine ⟨(fine_tuple (n := 0) (W := 7) (m := 3) (fun x hx => ?_) (by show 3 ≤ 3; omega)).mono (by decide) (by decide), fun es e => ?_⟩
              · rcases List.mem_append.mp hx with hx | hx
                · rcases List.mem_cons.mp hx with rfl | hx
                  · exact fine_int (by omega) (by omega)
                  · rw [List.mem_singleton.mp hx]; exact fine_int (by omega) (by omega)
                · rw [List.mem_singleton.mp hx]; exact z1
              · injection e with e
                rw [← e]
                show 3 ≤ 1000
                decide
            · obtain ⟨q, hq, rfl⟩ := inT d hd
              have := rp q hq
              have lc : (cutD [PyData.int q.1, PyData.int q.2] none (some 1)).length ≤ 2 := cut_len _ _ _
              refine ⟨(fine_tuple (n := 0) (W := 7) (m := 2) (fun x hx => ?_) lc).mono (by decide) (by decide), fun es e => ?_⟩
              · rcases List.mem_cons.mp (mem_cut hx) with rfl | hx
                · exact fine_int (by omega) (by omega)
                · rw [List.mem_singleton.mp hx]; exact fine_int (by omega) (by omega)
              · injection e with e
                rw [← e]
                omega
          have m1 : Fine 0 7 (.int (-1)) := fine_int (by decide) (by decide)
          have fl0 : Fine 2 40 (.list [.int 0]) := fine_l0.mono (by decide) (by decide)
          have g4 : ∀ d ∈ ds4, Tg d := by
            rw [← hds4]
            refine tgs_app g3 (tgs_cons (plus (pt_pk (by show (-1 : Int) ≤ -1; decide) (by show (-1 : Int) < 64; decide) (by show (-1 : Int) ≤ 0; decide) (by show (0 : Int) < 64; decide))) (tgs_cons (plus (pt_pk (by show (-1 : Int) ≤ 0; decide) (by show (0 : Int) < 64; decide) (by show (-1 : Int) ≤ -1; decide) (by show (-1 : Int) < 64; decide))) (tgs_cons (plus (pt_two fl0 fine_zero)) (tgs_cons (plus (pt_two fine_zero fl0)) (tgs_cons (plus (pt_two (fine_d0.mono (by decide) (by decide)) fine_zero)) tgs_nil)))))
          refine tgs_app g4 ?_
          rw [← hds5]
          have no0 : ∀ x ∈ ([] : List PyData), Pt x := fun x hx => nomatch hx
          have p00 : Pt (.tuple [.int 0, .int 0]) := pt_two fine_zero fine_zero
          refine tgs_cons (tg_flat (fine_none.mono (by decide) (by decide)) rfl) (tgs_cons (tg_flat (z1.mono (by decide) (by decide)) rfl) (tgs_cons (tg_flat ((fine_bool _).mono (by decide) (by decide)) rfl) (tgs_cons (tg_flat (fine_empty.mono (by decide) (by decide)) rfl) (tgs_cons (tg_list (by decide) no0) (tgs_cons (tg_seq (.inr rfl) (by decide) no0) (tgs_cons (tg_flat (fine_d0.mono (by decide) (by decide)) rfl) (tgs_cons (tg_list (by decide) (ptl_one p00)) (tgs_cons (tg_list (by decide) ?_) (tgs_cons (tg_list (by decide) (ptl_one (pt_two fl0 fine_zero))) (tgs_cons (tg_list (by decide) (ptl_one (pl (by decide) (by decide) (by decide) (by decide)))) tgs_nil))))))))))
          exact fun x hx => by
            rcases List.mem_cons.mp hx with rfl | hx
            · exact p00
            · rw [List.mem_singleton.mp hx]
              exact pt_two fine_zero (m1.mono (by decide) (by decide))
end
end WW


set_option maxHeartbeats 2000000

/-! repr of a list of patterns -/
namespace WW
open PySem PySem.Spec PyProof.Rows L2
section
variable {X : Cx} {pins : List (Addr × Obj)} {σ : L2.St} {H : Hp} {s : Shared} {C : Addr}
theorem pat_item (D : Md X.K C "__repr__" "Pattern.__repr__" sPRepr ["self"]) (G : GnOk GdOk X.prog X.w X.K X.mg X.base 1 D.f D.fd ["self"] (spPRepr X.prog X.w C)) {A1 : Around} (sb : Sub X 1 A1) (gd : GdOk A1 H) (I : Inv X pins σ H s) {p d b : Nat} {A : List IRow}
    (hp : PatAt X.prog X.w C H p d A) (ok : GoesOk d A) (hd : d ≤ 4) (hb : b ≤ sizeLine) {Q : Str → Shared → Prop} (q : ∀ s', Inv X pins σ H s' → Q (patText d A) s') : wpAny (model X.prog X.w) A1 (pyReprUnder b (.ref p)) Q X.xe s := by
  have hu : A1.units < cLine := by have := sb.room.un; omega
  obtain ⟨dx, g, ep, _⟩ := id hp
  obtain ⟨mA, J, _⟩ := ins_get I.hok ep
  obtain ⟨od, J, _⟩ := J.look
  have look := PySem.W.looks_findIn (M := model X.prog X.w) I.kIn D.a
  refine wpAny_pyReprUnder_ref hb ?_
  unfold pyReprObjUnder
  unfold pyReprObjBy
  refine wpAny_bind (wpAny_cRoomFor hu (wpAny_bind (wpAny_bind (J.type.here (look.here ?_)))))
  have run : wpAny (model X.prog X.w) A1 (call (.ref D.f) [.ref p]) (fun v s' => ∃ u, v = .str (patText d A) u ∧ Q (patText d A) s') X.xe s := by
    refine wpAny_mono (gn_run (Q := fun v H' => v = .str (patText d A) ∧ H' = H) G sb gd D.b pass0 I (vs := [.ref p]) (.cons (show RelV (.ref p) (Value.ref p) from rfl) .nil) ⟨p, d, A, rfl, hp, ok, hd, rfl, rfl⟩) (fun v s2 hv => ?_) fun _ _ z => z
    obtain ⟨_, _, I2, rv, rfl, rfl⟩ := hv
    obtain ⟨u, rfl⟩ := (show ∃ u, v = Value.str (patText d A) u from rv)
    exact ⟨u, rfl, q s2 I2⟩
  rw [if_neg (show ¬ (some (Value.ref D.f)).isNone = true from Bool.false_ne_true)]
  refine wpAny_bind (m := callSpecialIfBoundBy? _ (.ref p) (Str.ofString "__repr__")) ?_
  simp only [callSpecialIfBoundBy?, bindSpecialIfBound?]
  refine wpAny_holding (wpAny_bind (wpAny_bind (wpAny_bind (J.type.here (look.here ?_)))))
  refine wpAny_bind (wpAny_askSetting (wpAny_ite ?_))
  have fin : ∀ {R : Option Value → Shared → Prop}, (∀ u s', Q (patText d A) s' → R (some (.str (patText d A) u)) s') → wpAny (model X.prog X.w) A1 (call (.ref D.f) [.ref p] >>= fun v => pure (some v)) R X.xe s := fun k => wpAny_bind (wpAny_mono run (fun v s' ⟨u, e, z⟩ => wpAny_pure (by rw [e]; exact k u s' z)) fun _ _ z => z)
  have bd := PySem.W.bind_fn (M := model X.prog X.w) I.kIn (.ref p) (beq_iff_eq.mp D.i)
  split
  · exact wpAny_bind (bd.here (wpAny_pure (fin fun u s' z => wpAny_bind (wpAny_isInstance (T := "str") (b := true) rfl isSubtype_str_str (wpAny_pure ⟨_, u, rfl, z⟩)))))
  · exact wpAny_tryCatch (wpAny_bind (bd.here (wpAny_pure (fin fun u s' z => wpAny_bind (wpAny_isInstance (T := "str") (b := true) rfl isSubtype_str_str (wpAny_pure ⟨_, u, rfl, z⟩))))))
/-! the walk over the list -/
theorem sub_loop {n : Nat} {A1 : Around} (sb : Sub X (n + 1) A1) (args : Args) : Sub X n (A1.under (.builtin "list.__repr__.loop" args)) := by
  have eu : (A1.under (.builtin "list.__repr__.loop" args)).units = A1.units + 1 := units_under_list_loop _ _
  have ed : (A1.under (.builtin "list.__repr__.loop" args)).depth ≤ A1.depth + 1 := by
    have ew : (Code.builtin "list.__repr__.loop" args).weight = 1 := by simp [Code.weight, Code.frames, Code.isFrame, Code.isCreation, Code.isCaller, Code.isGuard, guardIds]
    show A1.depth + (Code.builtin "list.__repr__.loop" args).weight ≤ _
    omega
  have ef : (A1.under (.builtin "list.__repr__.loop" args)).frames = A1.frames := by
    simp [Around.under, Code.envs, Code.isFrame, pushEnvs]
  have r := sb.room
  have r1 := r.dp
  have r2 := r.un
  exact ⟨⟨r.hd, by omega, by omega⟩, ef.trans sb.fr⟩
/-- what a pattern shows -/
structure PItem (X : Cx) (C : Addr) (H : Hp) (p : Addr) (t : Str) : Prop where
  ex : ∃ d A, PatAt X.prog X.w C H p d A ∧ GoesOk d A ∧ d ≤ 4 ∧ t = patText d A
theorem PItem.same {H H' : Hp} {p : Addr} {t : Str} (h : PItem X C H p t) (s : Same H H') : PItem X C H' p t := let ⟨d, A, a, b, c, e⟩ := h.ex; ⟨d, A, a.same s, b, c, e⟩
theorem same_put {H0 H : Hp} {P : Addr} {o : HO} (h : Same H0 H) (n : H0 P = none) : Same H0 (upd H P o) := fun c u e => by
  rw [upd_ne (fun q => by rw [q, n] at e; cases e)]
  exact h _ _ e
theorem valsStr : ∀ {ts : List Str} {us : List Value}, Vals (ts.map V.str) us → ∃ l : List (Str × Tok), us = strValues l ∧ l.map (·.1) = ts
  | [], _, .nil => ⟨[], rfl, rfl⟩
  | t :: ts, _, .cons r q => by
    obtain ⟨l, e1, e2⟩ := valsStr q
    obtain ⟨tk, rfl⟩ := r
    exact ⟨(t, tk) :: l, by rw [e1]; rfl, by rw [List.map_cons, e2]⟩
theorem pats_loop (D : Md X.K C "__repr__" "Pattern.__repr__" sPRepr ["self"]) (G : GnOk GdOk X.prog X.w X.K X.mg X.base 1 D.f D.fd ["self"] (spPRepr X.prog X.w C)) {A1 : Around} (sb : Sub X 2 A1) (idle : A1.guards = some []) {H0 : Hp} {l P : Addr} {ps : List Addr} {ts : List Str}
    (hl : H0 l = some (.lst (ps.map V.ref))) (hP : H0 P = none) (hpt : Paired (fun p t => PItem X C H0 p t) ps ts) (hz : (listText ts).length ≤ sizeLine) (hn : ts.length ≤ 1000) {Q : VK} (q : ∀ H', Same H0 H' → Q (.str (listText ts)) H') :
    ∀ (k i : Nat) (s : Shared) (H : Hp), ps.length - i = k → i ≤ ps.length → Inv X pins σ H s → Same H0 H → H P = some (.lst ((ts.take i).map V.str)) →
      codeAny (model X.prog X.w) A1 (.builtin "list.__repr__.loop" ⟨[.ref l, rawInt i, .ref P, rawInt ((piled (ts.take i) : Nat) : Int)], []⟩) (callEnd (EP X pins σ Q) X.xe) s := by
  have lpt : ps.length = ts.length := Paired.length hpt
  have hp3 := piled_le_listText ts
  intro k
  induction k with
  | zero =>
    intro i s H hk hi I sm hp
    have ei : i = ps.length := by omega
    obtain ⟨_, its, n, rv, lits, el⟩ := I.lstM (sm _ _ hl)
    obtain ⟨_, jts, m, rj, ljts, ej⟩ := I.lstM hp
    rw [List.take_of_length_le (by omega)] at rj
    obtain ⟨done, rfl, ed⟩ := valsStr rj
    refine codeAny_builtin F.entry_list_repr_loop (show wpAny _ _ (Builtin.«list.__repr__.loop» ⟨[.ref l, .int i 0, .ref P, .int ((piled (ts.take i) : Nat) : Int) 0], []⟩) _ _ s from ?_)
    rw [repr_loop_tree]
    have none0 : its.toArray[(i : Int).toNat]? = none := by
      rw [List.length_map] at lits
      simp
      omega
    refine wpAny_bind (wpAny_listItems el rfl ?_)
    rw [none0]
    show wpAny _ _ (reprEnd (.ref P)) _ _ s
    unfold reprEnd
    refine wpAny_bind (wpAny_listItems ej rfl ?_)
    rw [repr_fold, ed]
    exact wpAny_bind (wpAny_pure (wpAny_bind (wpAny_mkStr (wpAny_pure ⟨.str (listText ts), H, I.tok _, ⟨_, rfl⟩, q H sm⟩) hz)))
  | succ k ih =>
    intro i s H hk hi I sm hp
    have hi2 : i < ps.length := by omega
    obtain ⟨t, ht, hit⟩ := paired_get1 hpt (List.getElem?_eq_getElem hi2)
    obtain ⟨d, A, hpa, ok, hd, et⟩ := (hit.same sm).ex
    obtain ⟨_, its, n, rv, lits, el⟩ := I.lstM (sm _ _ hl)
    obtain ⟨u0, hu0, ru0⟩ := rv.get (show (ps.map V.ref)[i]? = some (.ref ps[i]) by rw [List.getElem?_map, List.getElem?_eq_getElem hi2]; rfl)
    cases (show u0 = Value.ref ps[i] from ru0)
    have pl1 := piled_take_succ ht
    have pl2 := piled_take_le ts (i + 1)
    have tz : t.length ≤ sizeLine := by omega
    have unr : UnR H l := by
      cases hpt with
      | nil => simp at hi2
      | @cons p0 t0 ps0 ts0 r0 _ =>
        obtain ⟨d0, A0, ⟨dx, g0, e0, _⟩, _⟩ := r0.ex
        exact ⟨p0, _, C, dx, _, sm _ _ hl, sm _ _ e0⟩
    refine codeAny_builtin F.entry_list_repr_loop (show wpAny _ _ (Builtin.«list.__repr__.loop» ⟨[.ref l, .int i 0, .ref P, .int ((piled (ts.take i) : Nat) : Int) 0], []⟩) _ _ s from ?_)
    rw [repr_loop_tree]
    have some0 : its.toArray[(i : Int).toNat]? = some (.ref ps[i]) := by
      rw [show (i : Int).toNat = i by omega, List.getElem?_toArray]
      exact hu0
    refine wpAny_bind (wpAny_listItems el rfl ?_)
    rw [some0]
    have gd : GdOk (A1.under (.builtin "list.__repr__.loop" ⟨[.ref l, rawInt i, .ref P, rawInt ((piled (ts.take i) : Nat) : Int)], []⟩)) H := by
      refine ⟨_, guards_under_guard (isGuard_list_loop _) idle, fun id v rest kw hm => ?_⟩
      rw [List.mem_singleton] at hm
      cases hm
      exact ⟨l, rfl, unr⟩
    refine wpAny_bind (m := holding [Value.ref ps[i]] (pyReprUnder (((piled (ts.take i) : Nat) : Int).toNat + 1) (.ref ps[i]))) (wpAny_holding (pat_item D G (sub_loop sb _) gd I hpa ok hd (by omega) fun s2 I2 => ?_))
    rw [← et]
    refine wpAny_bind (wpAny_mkStr ?_ tz)
    have I3 := I2.tok (s2.toks + 1)
    obtain ⟨zz, jts, m, rj, ljts, ej⟩ := I3.lstM hp
    have hjz : jts.toArray.size ≤ sizeLine := by rw [List.size_toArray, ← ljts]; exact zz
    have lj : jts.length < ts.length := by
      rw [← ljts, List.length_map, List.length_take]
      omega
    have toN : ((piled (ts.take i) : Nat) : Int).toNat + (t.length + 2) = piled (ts.take (i + 1)) := by omega
    rw [toN]
    refine wpAny_bind (m := Builtin.List.listUpdate (.ref P) _) ?_
    show wpAny _ _ (updateSeq P _) _ _ _
    refine wpAny_updateSeq ej rfl (wpAny_pure ⟨F.quiet_list_repr_loop _, ?_⟩) hjz
    have I4 := Inv.lset (t' := s2.toks + 1) (its' := jts ++ [.str t s2.toks]) (f := fun x => x.push (.str t s2.toks)) I3 hp ej (by simp) (rj.append (.cons (show RelV (.str t) (Value.str t s2.toks) from ⟨_, rfl⟩) .nil)) (by
      rw [List.length_append, List.length_map, List.length_take]
      have : 1001 ≤ sizeLine := by decide
      show _ + 1 ≤ _
      omega)
    have nx := ih (i + 1) _ _ (by omega) (by omega) I4 (same_put sm hP) (by
      rw [upd_same, List.take_add_one, ht, List.map_append]
      rfl)
    rw [show ((i + 1 : Nat) : Int) = (i : Int) + 1 by omega] at nx
    exact nx
theorem call_reprP (D : Md X.K C "__repr__" "Pattern.__repr__" sPRepr ["self"]) (G : GnOk GdOk X.prog X.w X.K X.mg X.base 1 D.f D.fd ["self"] (spPRepr X.prog X.w C)) (idle : X.A.guards = some []) (hr : Room 6 X.A) :
    CallR X (.builtin "repr") (fun xs H Q => ∃ (l : Addr) (ps : List Addr) (ts : List Str), xs = [.ref l] ∧ H l = some (.lst (ps.map V.ref)) ∧ ps ≠ [] ∧ Paired (fun p t => PItem X C H p t) ps ts ∧ (listText ts).length ≤ sizeLine ∧ ts.length ≤ 1000 ∧ ∀ H', Same H H' → Q (.str (listText ts)) H') := by
  intro pins s σ H xs us Q I r h
  obtain ⟨l, ps, ts, rfl, hl, ne, hp, hz, hn, q⟩ := h
  obtain ⟨u, rfl, r1⟩ := vals1 r
  cases (show u = Value.ref l from r1)
  obtain ⟨_, its, n, rv, lits, el⟩ := I.lstM hl
  have lpt : ps.length = ts.length := Paired.length hp
  have hu := hr.un
  have hd := hr.dp
  obtain ⟨x, its, rfl⟩ : ∃ x r, its = x :: r := by
    cases its with
    | nil =>
      cases ps with
      | nil => exact (ne rfl).elim
      | cons p ps => cases lits
    | cons x r => exact ⟨x, r, rfl⟩
  refine call_repr_slot (by omega) ⟨_, el, rfl⟩ F.slot_list_repr.toG ?_
  have main : wpAny (model X.prog X.w) X.A.in1 (call (.builtin "list.__repr__") [.ref l]) (EP X pins σ fun v H' => v = .str (listText ts) ∧ Same H H') X.xe s := by
    refine wpAny_call (codeAny_call_builtin F.slot_list_repr.plain F.entry_list_repr (F.slot_list_repr.check _ _ _ _ _ _ _ _ ⟨_, el, rfl⟩ (F.args_list_repr_1 _) ?_))
    refine wpAny_list_repr_head (g := []) (A := X.A.in1.in1) idle (fun v rest kw hm => nomatch hm) el rfl ?_
    refine wpAny_bind (m := newList []) (wpAny_newObj_type (wpAny_pure ⟨F.quiet_list_repr_loop _, ?_⟩))
    have hnew := I.fresh
    have I1 := Inv.lnew (its := []) (ys := []) (t' := s.toks) I .nil (Nat.zero_le _)
    have go := pats_loop (σ := σ) (pins := pins) D G (A1 := X.A.in1) ⟨⟨hr.hd, by show X.A.depth + 3 * 2 + 5 < _; omega, by show X.A.units + 1 + 16 * 2 + 200 < _; omega⟩, rfl⟩ idle (P := s.heap.objs.size) hl hnew hp hz hn (Q := fun v H' => v = .str (listText ts) ∧ Same H H') (fun H' sm => ⟨rfl, sm⟩) ps.length 0 _ _ (by omega) (Nat.zero_le _) I1 (same_put (fun _ _ e => e) hnew) (by rw [upd_same]; rfl)
    exact go
  refine wpAny_mono main (fun v s2 hv => ?_) fun _ _ z => z
  obtain ⟨_, H2, I2, rv2, rfl, sm⟩ := hv
  obtain ⟨tk, rfl⟩ := (show ∃ tk, v = Value.str (listText ts) tk from rv2)
  exact ⟨_, tk, rfl, .str _, H2, I2, ⟨_, rfl⟩, q H2 sm⟩
end
end WW


set_option maxHeartbeats 2000000

/-! what _law_two_right stands on -/
namespace WW
open PySem PySem.Spec PyProof.Rows L2
/-! calls by keywords alone -/
def kg2 {α : Type} : List α → List α → List α
  | [], [a, b] => [b, a]
  | _, _ => []
def kg3 {α : Type} : List α → List α → List α
  | [], [a, b, c] => [c, b, a]
  | _, _ => []
theorem kg2_vals {vs : List V} {us : List Value} {zs : List V} {ws : List Value} (h : Vals vs us) (g : Vals zs ws) : Vals (kg2 vs zs) (kg2 us ws) := by
  cases h with
  | cons => exact .nil
  | nil =>
    cases g with
    | nil => exact .nil
    | cons r1 g =>
      cases g with
      | nil => exact .nil
      | cons r2 g =>
        cases g with
        | nil => exact .cons r2 (.cons r1 .nil)
        | cons => exact .nil
theorem kg3_vals {vs : List V} {us : List Value} {zs : List V} {ws : List Value} (h : Vals vs us) (g : Vals zs ws) : Vals (kg3 vs zs) (kg3 us ws) := by
  cases h with
  | cons => exact .nil
  | nil =>
    cases g with
    | nil => exact .nil
    | cons r1 g =>
      cases g with
      | nil => exact .nil
      | cons r2 g =>
        cases g with
        | nil => exact .nil
        | cons r3 g =>
          cases g with
          | nil => exact .cons r3 (.cons r2 (.cons r1 .nil))
          | cons => exact .nil
section
variable {K : PySem.W.Frag}
theorem kb2 {x qual : Str} {st : Stmt} {f : Addr} {fd : FuncData} (F : Fun K x qual st f fd)
    (h : ∀ (kV doc pm : Value) (an : Option Addr) (cdv ct a b : Value), bindArgs (PySem.W.fnOf x qual (defArgs st) (defBody st) (defScope st) .none kV doc pm an cdv ct) ⟨[], [("other", a), ("one", b)]⟩ = pure [(("one" : Str), b), ("other", a)]) :
    KBinds K fd ["one", "other"] ["other", "one"] kg2 kg2 := by
  obtain ⟨oc, od, kV, doc, pm, an, cdv, ct, osl, rfl, lk, hcd⟩ := F.ex
  refine ⟨fun s us ws _ hl => ?_, kg2_vals⟩
  match us, ws, hl with
  | [], [a, b], _ => exact .of_eq (h kV doc pm an cdv ct a b)
  | [], [], hl => cases hl
  | [], [_], hl => cases hl
  | [], _ :: _ :: _ :: _, hl => cases hl
  | _ :: _, _, hl => cases hl
theorem kb3 {x qual : Str} {st : Stmt} {f : Addr} {fd : FuncData} (F : Fun K x qual st f fd)
    (h : ∀ (kV doc pm : Value) (an : Option Addr) (cdv ct a b c : Value), bindArgs (PySem.W.fnOf x qual (defArgs st) (defBody st) (defScope st) .none kV doc pm an cdv ct) ⟨[], [("value", a), ("other", b), ("one", c)]⟩ = pure [(("one" : Str), c), ("other", b), ("value", a)]) :
    KBinds K fd ["one", "other", "value"] ["value", "other", "one"] kg3 kg3 := by
  obtain ⟨oc, od, kV, doc, pm, an, cdv, ct, osl, rfl, lk, hcd⟩ := F.ex
  refine ⟨fun s us ws _ hl => ?_, kg3_vals⟩
  match us, ws, hl with
  | [], [a, b, c], _ => exact .of_eq (h kV doc pm an cdv ct a b c)
  | [], [], hl => cases hl
  | [], [_], hl => cases hl
  | [], [_, _], hl => cases hl
  | [], _ :: _ :: _ :: _ :: _, hl => cases hl
  | _ :: _, _, hl => cases hl
variable {mg : Str → Option Value}
theorem kb_wT (D : Dn K mg "within_table" sWT ["one", "other"]) : KBinds K D.fd ["one", "other"] ["other", "one"] kg2 kg2 := kb2 D.F fun _ _ _ _ _ _ _ _ => rfl
theorem kb_wAl (D : Dn K mg "word_alone" sWAl ["one", "other"]) : KBinds K D.fd ["one", "other"] ["other", "one"] kg2 kg2 := kb2 D.F fun _ _ _ _ _ _ _ _ => rfl
theorem kb_lies (D : Dn K mg "lies_within" sLies ["one", "other"]) : KBinds K D.fd ["one", "other"] ["other", "one"] kg2 kg2 := kb2 D.F fun _ _ _ _ _ _ _ _ => rfl
theorem kb_iwt (D : Dn K mg "is_within_table" sIWT ["one", "other", "value"]) : KBinds K D.fd ["one", "other", "value"] ["value", "other", "one"] kg3 kg3 := kb3 D.F fun _ _ _ _ _ _ _ _ _ => rfl
end
/-! the values as data -/
section
variable {P : Program} {w : World} {K : PySem.W.Frag} {H0 H : Hp} {A B : List IRow} {v : V}
theorem lk_dr {b : Addr} {l : Ltr} (h : H b = some (.tup (l.map V.int))) : DR P w H (lk l).data (.ref b) := by
  have key : ∀ l : List Int, DRs P w H (NestedKey.datas (l.map .num)) (l.map V.int) := by
    intro l
    induction l with
    | nil => exact rfl
    | cons i l ih => exact ⟨_, _, rfl, rfl, ih⟩
  exact ⟨b, _, rfl, h, key l⟩
theorem word_dr {a : Addr} {u : List Ltr} (h : WordA H a u) : DR P w H (wordD u) (.ref a) := by
  obtain ⟨bs, e, r⟩ := h
  have key : ∀ {bs : List Addr} {u : List Ltr}, LtsA H bs u → DRs P w H (u.map fun l => (lk l).data) (bs.map V.ref) := by
    intro bs u r
    induction r with
    | nil => exact rfl
    | cons h t ih => exact ⟨_, _, rfl, lk_dr h, ih⟩
  exact ⟨a, _, rfl, e, key r⟩
/-- a value, new if it is an object: then a list, not long -/
def NewL (H0 H : Hp) (n : Nat) (v : V) : Prop := ∀ a, v = .ref a → H0 a = none ∧ ∃ xs, H a = some (.lst xs) ∧ xs.length ≤ n
theorem tableV_o {d : Nat} (oA : GoesOk d A) (oB : GoesOk d B) (lA : A.length ≤ 4) (lB : B.length ≤ 4) (h : TableV H0 H v A B) : ∃ o, TabO A B o ∧ DR P w H (tabD o) v ∧ NewL H0 H 100 v ∧ (v = .non ↔ o = none) := by
  rcases h with ⟨rfl, hb⟩ | ⟨a, ps, rfl, fr, ⟨bs, ea, hbs⟩, h1, h2, h3, h4⟩
  · exact ⟨none, hb, rfl, (fun a e => nomatch e), by simp⟩
  · refine ⟨some ps, ⟨h1, h2, h3, h4⟩, ⟨a, _, rfl, ea, drs_pairs hbs⟩, fun b e => ?_, by simp⟩
    cases e
    refine ⟨fr, _, ea, ?_⟩
    have few := pairs_few h2 fun p hp => reach_range oA oB ((h4 p).mp hp)
    have m : A.length * B.length ≤ 4 * 4 := Nat.mul_le_mul lA lB
    have ln : bs.length = ps.length := Paired.length hbs
    rw [List.length_map]
    omega
theorem aloneV_o {d : Nat} (oA : GoesOk d A) (oB : GoesOk d B) (lA : A.length ≤ 4) (lB : B.length ≤ 4) (h : AloneV H0 H v A B) : ∃ o, AloneO A B o ∧ DR P w H (aloneD o) v ∧ NewL H0 H 100 v := by
  rcases h with ⟨rfl, hb⟩ | ⟨a, u, rfl, fr, hw, hl⟩
  · exact ⟨none, hb, rfl, fun a e => nomatch e⟩
  · refine ⟨some u, hl, word_dr hw, fun b e => ?_⟩
    cases e
    obtain ⟨bs, ea, hbs⟩ := hw
    refine ⟨fr, _, ea, ?_⟩
    have few := lbad_len oA oB hl
    have m : A.length * B.length ≤ 4 * 4 := Nat.mul_le_mul lA lB
    have ln : bs.length = u.length := Paired.length hbs
    rw [List.length_map]
    omega
theorem NewL.same {H' : Hp} {n : Nat} (h : NewL H0 H n v) (s : Same H H') : NewL H0 H' n v := fun a e => by
  obtain ⟨h1, xs, h2, h3⟩ := h a e
  exact ⟨h1, xs, s _ _ h2, h3⟩
end
/-! readings -/
section
variable {P : Program} {w : World} {K : PySem.W.Frag} {I : Hp → Prop} {vw : Hp → Hp} {σ : L2.St}
theorem mk_repr (Z : Vw I vw) {te : TE} {d : PyData} {n W : Nat} (h : Mk P w I vw σ te d) (f : Fine n W d) (hn : n ≤ 100) (hW : W ≤ 100000) : Mk P w I vw σ (tCB (rReprD P w) (tCons te tNil)) (.str d.shown) := fun H Q hi k =>
  h H _ hi fun H1 v s1 hi1 hv => ⟨v, d, n, W, rfl, DR.same Z.sub _ _ hv, f, hn, hW, k _ _ s1 hi1 rfl⟩
/-- a comprehension over a display of two names -/
theorem mk_lcRefs (Z : Vw I vw) {te : TE} {vs : List Nat} {j i1 i2 : Nat} {a b : V} {d1 d2 : PyData} (h1 : σ[i1]? = some (some a)) (h2 : σ[i2]? = some (some b)) (hw : ∀ x, wipe ((wipe σ vs).set j (some x)) vs = wipe σ vs)
    (body1 : ∀ (I2 : Hp → Prop) (vw2 : Hp → Hp), Vw I2 vw2 → (∀ H2, I2 H2 → ∃ H1, I H1 ∧ Same (vw H1) (vw2 H2)) → Mk P w I2 vw2 ((wipe σ vs).set j (some a)) te d1)
    (body2 : ∀ (I2 : Hp → Prop) (vw2 : Hp → Hp), Vw I2 vw2 → (∀ H2, I2 H2 → ∃ H1, I H1 ∧ Same (vw H1) (vw2 H2)) → Mk P w I2 vw2 ((wipe σ vs).set j (some b)) te d2) :
    Mk P w I vw σ (tLc (iList K (tLst (tCons (tVar i1) (tCons (tVar i2) tNil)))) (gName j) tYes te vs) (.list [d1, d2]) := fun H Q hi k => by
  refine ⟨_, h1, _, h2, le2, fun L hL => ⟨L, rfl, ⟨_, SqL.of upd_same⟩, fun D hD => ?_⟩⟩
  have s6 := same_upd (o := .lst [a, b]) hL
  have atL : (upd H L (.lst [a, b])) L = some (.lst [a, b]) := upd_same
  have hi6 := Z.same s6 hi
  refine lc_core (P := P) (w := w) (I := I) (vw := vw) (J := Itl K L) (n := 2) (f := fun t => if t = 0 then d1 else d2) Z hi6 hw (by decide) (fun t Ht ht s => ⟨_, [a, b][t]'ht, SqL.of (s _ _ atL), List.getElem?_eq_getElem _⟩) (fun Ht s => ⟨_, SqL.of (s _ _ atL), Nat.le_refl _⟩) (fun I2 vw2 Z2 hs2 t Ht x Hx ht s y => ?_) (fun H7 v s7 hi7 hv => k _ _ (Same.trans s6 s7) hi7 hv) hD
  obtain ⟨rfl, f⟩ := y
  have hx := f _ (SqL.of (s _ _ atL))
  have back : ∀ H2, I2 H2 → ∃ H1, I H1 ∧ Same (vw H1) (vw2 H2) := fun H2 h => ⟨_, hi6, hs2 H2 h⟩
  match t, ht, hx with
  | 0, _, hx =>
    obtain rfl : a = x := Option.some.inj hx
    exact ⟨rfl, body1 I2 vw2 Z2 back⟩
  | 1, _, hx =>
    obtain rfl : b = x := Option.some.inj hx
    exact ⟨rfl, body2 I2 vw2 Z2 back⟩
theorem drs_bools {H : Hp} : ∀ {bs : List Bool} {xs : List V}, DRs P w H (bs.map PyData.bool) xs → xs = bs.map V.bl
  | [], _, h => h
  | b :: bs, _, h => by
    obtain ⟨y, r, rfl, hy, hr⟩ := h
    rw [drs_bools hr, (show y = .bl b from hy)]
    rfl
theorem ifnot_all (Z : Vw I vw) {te : TE} {bs : List Bool} {H : Hp} {s1 s2 : TS} {D : Ends} (h : Mk P w I vw σ te (.list (bs.map PyData.bool))) (ht : bs.all id = true) (hi : I H) (k : ∀ H', Same H H' → I H' → s2 D σ H') :
    tIfS (tNot (tB (tCB (rAll K) (tCons te tNil)))) s1 s2 D σ H :=
  h H _ hi fun H1 v s1 hi1 hv => by
    obtain ⟨a, xs, rfl, ha, hxs⟩ := hv
    have e := drs_bools hxs
    subst e
    refine ⟨a, bs, rfl, SqL.of (Z.sub _ _ ha), _, rfl, ?_⟩
    rw [ht]
    exact no (k _ s1 hi1)
theorem asg_mk {te : TE} {d : PyData} {i : Nat} {H : Hp} {D : Ends} (h : Mk P w I vw σ te d) (hi : I H) (k : ∀ H' v, Same H H' → I H' → DR P w (vw H') d v → D.nx (σ.set i (some v)) H') : tAsg te (gName i) D σ H :=
  h H _ hi fun H1 v s1 hi1 hv => k H1 v s1 hi1 hv
theorem mk_rep2 (Z : Vw I vw) {te : TE} {x : PyData} (h : Mk P w I vw σ te (.list [x])) : Mk P w I vw σ (tOp rRep te (tC (.int 2))) (.list [x, x]) := fun H Q hi k =>
  h H _ hi fun H1 v s1 hi1 hv => by
    obtain ⟨a, xs, rfl, ha, y, r, rfl, hy, rfl⟩ := hv
    refine ⟨a, 2, [y], rfl, rfl, Z.sub _ _ ha, by decide, by decide, by show 1 * 2 ≤ sizeLine; decide, fun p hp => ?_⟩
    have sp := same_upd (o := .lst [y, y]) hp
    have hy2 := DR.same (Z.mono sp) _ _ hy
    exact k _ _ (Same.trans s1 sp) (Z.same sp hi1) ⟨p, [y, y], rfl, by rw [Z.new hi1 hp]; exact upd_same, y, [y], rfl, hy2, y, [], rfl, hy2, rfl⟩
/-- two readings that make the same text are not unlike -/
theorem ne_same {ta tb : TE} {x : Str} (h : Mk P w I vw σ ta (.str x)) (g : Mk P w I vw σ tb (.str x)) {H : Hp} {Q : Bool → Hp → Prop} (hi : I H) (k : ∀ H', Same H H' → I H' → Q false H') : tTest (tOp rNe ta tb) σ H Q :=
  h H _ hi fun H1 v s1 hi1 hv => g H1 _ hi1 fun H2 u s2 hi2 hu => by
    cases hv
    cases hu
    refine ⟨rfl, _, rfl, ?_⟩
    rw [decide_eq_true rfl]
    exact k H2 (Same.trans s1 s2) hi2
theorem eq_same {ta tb : TE} {x : Str} (h : Mk P w I vw σ ta (.str x)) (g : Mk P w I vw σ tb (.str x)) {H : Hp} {Q : VK} (hi : I H) (k : ∀ H', Same H H' → I H' → Q (.bl true) H') : tOp rEq ta tb σ H Q :=
  h H _ hi fun H1 v s1 hi1 hv => g H1 _ hi1 fun H2 u s2 hi2 hu => by
    cases hv
    cases hu
    refine ⟨rfl, ?_⟩
    rw [decide_eq_true rfl]
    exact k H2 (Same.trans s1 s2) hi2
theorem mk_notN {te : TE} {d : PyData} {b : Bool} (h : Mk P w I vw σ te d) (hv : ∀ H u, DR P w H d u → decide (u = .non) = !b) : Mk P w I vw σ (tNotN te) (.bool b) := fun H Q hi k =>
  h H _ hi fun H1 u s1 hi1 hu => k _ _ s1 hi1 (by
    show V.bl (!decide (u = .non)) = V.bl b
    rw [hv _ _ hu, Bool.not_not])
end
theorem same_mk0 {H : Hp} {x dx : Addr} {o1 o2 : HO} (hx : H x = none) (hdx : H dx = none) : Same H (upd (upd H dx o1) x o2) := fun c u e => by
  rw [upd_ne (ne_of_none e hx), upd_ne (ne_of_none e hdx)]
  exact e
theorem same_make {H H1 : Hp} {x dx : Addr} {o1 o2 : HO} (hx : H x = none) (hdx : H dx = none) (s : SamX x (upd (upd H dx o1) x o2) H1) : Same H H1 := fun c u e => s c u (ne_of_none e hx) (same_mk0 hx hdx c u e)
theorem bool_eq {b c : Bool} {p : Prop} (h : b = true ↔ p) (g : c = true ↔ p) : b = c := by
  cases b <;> cases c <;> simp_all
theorem bool_of (p : Prop) : ∃ b : Bool, b = true ↔ p := by
  by_cases h : p
  · exact ⟨true, by simp [h]⟩
  · exact ⟨false, by simp [h]⟩
theorem pat_len {d : Nat} {A : List IRow} (ok : GoesOk d A) (hd : d ≤ 4) : (patText d A).length ≤ 1000100 := by
  have lg := (fine_goes ok hd).len (by decide)
  have ld : (toString (d : Int) : Str).length ≤ 10 := by
    have key : ∀ n : Nat, n < 5 → (toString (n : Int) : Str).length ≤ 10 := by decide +kernel
    exact key d (by omega)
  have l1 : ((Str.empty ++ "Pattern(" : Str)).length = 8 := by decide +kernel
  have l2 : ((", " : String) : Str).length = 2 := rfl
  have l3 : ((")" : String) : Str).length = 1 := rfl
  unfold patText
  rw [strLen_append, strLen_append, strLen_append, strLen_append, l1, l2, l3]
  omega
theorem two_len {d : Nat} {A B : List IRow} (oA : GoesOk d A) (oB : GoesOk d B) (hd : d ≤ 4) : (listText [patText d A, patText d B]).length ≤ sizeLine := by
  have := listText_len_le [patText d A, patText d B]
  have a := pat_len oA hd
  have b := pat_len oB hd
  simp only [List.map_cons, List.map_nil, List.sum_cons, List.sum_nil, List.length_cons, List.length_nil] at this
  have z : 3000000 ≤ sizeLine := by decide
  omega
section
variable {P : Program} {w : World} {H H' : Hp} {C p g : Addr} {d : Nat} {A : List IRow}
theorem SamX.patP (s : SamX p H H') (hp : PotAt H p) {q : Addr} (ok : GoesOk d A) (h : PatAt P w C H q d A) : PatAt P w C H' q d A := by
  obtain ⟨dx, g, e, L, eg, r⟩ := h
  obtain ⟨x, y, ep, _⟩ := id hp
  refine ⟨dx, g, s _ _ (fun z => ?_) e, s.goesP hp (fun z => ?_) ⟨L, eg, r⟩⟩
  · rw [z, ep] at e
    cases e
  · rw [z, ep] at eg
    injection eg with eg
    injection eg with eg
    have lr : L.length = A.length := Paired.length r
    have := ok.2.1
    cases L with
    | nil => rw [List.length_nil] at lr; omega
    | cons a L => cases eg
end
end WW


set_option maxHeartbeats 4000000

/-! _law_two_right -/
namespace WW
open PySem PySem.Spec PyProof.Rows L2
section
variable {P : Program} {w : World} {K : PySem.W.Frag} {mg : Str → Option Value} {base : Heap}
abbrev sTwo : Stmt := top 57
abbrev nTwo : List Str := ["_law_pot_here", "_law_width", "_law_mine", "_law_its", "_law_near", "_law_far", "_law_due", "_law_shown", "_law_turn", "_law_told", "_law_alone_here", "_law_some", "_law_thing", "_law_is_so", "_law_here", "_law_both"]
abbrev pTwo : List Str := ["_law_pot_here", "_law_width", "_law_mine", "_law_its"]
theorem sc57 : FnScope nTwo pTwo (defScope sTwo) := ⟨rfl, rfl, rfl, by decide +kernel, rfl, by decide +kernel, by decide +kernel⟩
def spTwo (P : Program) (w : World) : Sp := fun vs H Q _ => ∃ (p g1 g2 : Addr) (d : Nat) (A B : List IRow), vs = [.ref p, .int d, .ref g1, .ref g2] ∧ PotAt H p ∧ GoesA P w H g1 A ∧ GoesA P w H g2 B ∧ g1 ≠ p ∧ g2 ≠ p ∧ GoesOk d A ∧ GoesOk d B ∧ d ≤ 2 ∧ A.length ≤ 4 ∧ B.length ≤ 4 ∧
  ∀ H', SamX p H H' → PotAt H' p → Q (.bl true) H'
theorem ok_two {C : Addr} (B : Blt mg) (T : PatC K mg C) (hb : SysOk base) (hmk : PySem.W.makesIn K C = true) (hkp : PySem.W.keepIn K (.ref C) = true)
    (D1 : Md K C "__init__" "Pattern.__init__" sPInit ["self", "width", "goes"]) (G1 : FnOk P w K mg base CX0 6 D1.f D1.fd ["self", "width", "goes"] (spPInit P w C))
    (Dr : Md K C "__repr__" "Pattern.__repr__" sPRepr ["self"]) (Gr : GnOk GdOk P w K mg base 1 Dr.f Dr.fd ["self"] (spPRepr P w C))
    (D2 : Dn K mg "within_table" sWT ["one", "other"]) (G2 : FnOk P w K mg base CX0 2 D2.f D2.fd ["one", "other"] (spWT P w C))
    (D3 : Dn K mg "word_alone" sWAl ["one", "other"]) (G3 : FnOk P w K mg base CX0 2 D3.f D3.fd ["one", "other"] (spWAl P w C))
    (D4 : Dn K mg "lies_within" sLies ["one", "other"]) (G4 : FnOk P w K mg base CX0 2 D4.f D4.fd ["one", "other"] (spLies P w C))
    (D5 : Dn K mg "fit_alike" sFit ["one", "other"]) (G5 : FnOk P w K mg base CX0 2 D5.f D5.fd ["one", "other"] (spFit P w C))
    (D6 : Dn K mg "is_within_table" sIWT ["one", "other", "value"]) (G6 : FnOk P w K mg base CX0 5 D6.f D6.fd ["one", "other", "value"] (spIWT P w C))
    (D7 : Dn K mg "_law_pairs" sLPairs ["_law_mine", "_law_its"]) (G7 : FnOk P w K mg base CX0 1 D7.f D7.fd ["_law_mine", "_law_its"] (spLPairs P w))
    (D8 : Dn K mg "_law_alone" sAlone ["_law_mine", "_law_its", "_law_width"]) (G8 : FnOk P w K mg base CX0 2 D8.f D8.fd ["_law_mine", "_law_its", "_law_width"] (spAlone P w))
    (D9 : Dn K mg "_law_is_table" sLTab ["_law_mine", "_law_its", "_law_thing"]) (G9 : FnOk P w K mg base CX0 3 D9.f D9.fd ["_law_mine", "_law_its", "_law_thing"] (spLTab P w))
    (D10 : Dn K mg "_law_bent" sBent ["_law_pot_here", "_law_mine", "_law_its"]) (G10 : FnOk P w K mg base CX0 2 D10.f D10.fd ["_law_pot_here", "_law_mine", "_law_its"] (spBent P w))
    (D : Dn K mg "_law_two_right" sTwo pTwo) : GnOk Idle P w K mg base 10 D.f D.fd pTwo (spTwo P w) := by
  refine gn_fun D.F sc57 (fun vs H Q E h => ?_) (fun cdv A0 outer s H vs Q E gi hr h => ?_)
  · obtain ⟨p, g1, g2, d, A, B, rfl, _⟩ := h
    rfl
  · obtain ⟨p, g1, g2, d, A, B', rfl, hp, hg1, hg2, n1, n2, okA, okB, hd, lA, lB, k⟩ := h
    have M1 : L2.Mk K C D1.f := ⟨hmk, D1.a, D1.i, hkp⟩
    have gi2 : (A0.deeper (envOfC "_law_two_right" (defScope sTwo) s.heap.objs.size D.f cdv)).guards = some [] := gi
    refine ⟨_, pss_cons (ps_par (i := 4) (j := 5) rfl sc57.nd rfl rfl (by decide) rfl rfl (pa_cons (pe_make M1 G1 (hr.mono (by decide)) (by rfl) T.mgC D1.b .nil pass0 (pa_cons (pv 1) (pa_cons (pv 2) pa_nil))) (pa_cons (pe_make M1 G1 (hr.mono (by decide)) (by rfl) T.mgC D1.b .nil pass0 (pa_cons (pv 1) (pa_cons (pv 3) pa_nil))) pa_nil)) rfl)
      (pss_cons (ps_par (i := 6) (j := 7) rfl sc57.nd rfl rfl (by decide) rfl rfl (pa_cons (pe_call G7 (hr.mono (by decide)) (by rfl) D7.g D7.F.kp D7.b .nil pass0 (pa_cons (pv 2) (pa_cons (pv 3) pa_nil)))
          (pa_cons (pe_callB (call_reprP Dr Gr gi2 (hr.mono (by decide))) (by rfl) B.repr (by decide +kernel) (pa_cons (pe_lst (pa_cons (pv 4) (pa_cons (pv 5) pa_nil))) pa_nil)) pa_nil)) rfl)
      (pss_cons (ps_for PassesOwn.never rfl (pi_range1 (by rfl) B.range (pa_cons pe_int pa_nil)) (pg_name (i := 8) sc57.nd rfl (.inl rfl))
        (pss_cons (ps_set (i := 9) sc57.nd rfl (.inl rfl) (pe_ifExp (pt_cmpR op_eq (pv 8) pe_int (nomark _)) (pe_call G2 (hr.mono (by decide)) (by rfl) D2.g D2.F.kp D2.b .nil pass0 (pa_cons (pv 4) (pa_cons (pv 5) pa_nil)))
          (pe_callK0 G2 (hr.mono (by decide)) (by rfl) D2.g D2.F.kp (kb_wT D2) pass0 (pk_cons (pv 5) (pk_cons (pv 4) pk_nil)))))
        (pss_cons (ps_set (i := 10) sc57.nd rfl (.inl rfl) (pe_ifExp (pt_cmpR op_eq (pv 8) pe_int (nomark _)) (pe_call G3 (hr.mono (by decide)) (by rfl) D3.g D3.F.kp D3.b .nil pass0 (pa_cons (pv 4) (pa_cons (pv 5) pa_nil)))
          (pe_callK0 G3 (hr.mono (by decide)) (by rfl) D3.g D3.F.kp (kb_wAl D3) pass0 (pk_cons (pv 5) (pk_cons (pv 4) pk_nil)))))
        (pss_cons (ps_if (pt_cmpR op_ne (pe_callB (call_reprD gi2 hb (u150 hr)) (by rfl) B.repr (by decide +kernel) (pa_cons (pe_lst (pa_cons (pv 9) (pa_cons (pv 10) pa_nil))) pa_nil))
            (pe_callB (call_reprD gi2 hb (u150 hr)) (by rfl) B.repr (by decide +kernel) (pa_cons (pe_lst (pa_cons (pv 6) (pa_cons (pe_call G8 (hr.mono (by decide)) (by rfl) D8.g D8.F.kp D8.b .nil pass0 (pa_cons (pv 2) (pa_cons (pv 3) (pa_cons (pv 1) pa_nil)))) pa_nil))) pa_nil)) (nomark _)) (pss_one (ps_ret pe_bl)) pss_nil)
        (pss_cons (ps_if (pt_cmpR op_ne (pe_callB (call_reprD gi2 hb (u150 hr)) (by rfl) B.repr (by decide +kernel) (pa_cons (pe_lst (pa_cons (pe_call G4 (hr.mono (by decide)) (by rfl) D4.g D4.F.kp D4.b .nil pass0 (pa_cons (pv 4) (pa_cons (pv 5) pa_nil)))
              (pa_cons (pe_callK0 G4 (hr.mono (by decide)) (by rfl) D4.g D4.F.kp (kb_lies D4) pass0 (pk_cons (pv 5) (pk_cons (pv 4) pk_nil))) pa_nil))) pa_nil))
            (pe_callB (call_reprD gi2 hb (u150 hr)) (by rfl) B.repr (by decide +kernel) (pa_cons (pe_op op_rep (pe_lst (pa_cons (pe_cmp (pc_notN (pv 6))) pa_nil)) pe_int) pa_nil)) (nomark _)) (pss_one (ps_ret pe_bl)) pss_nil)
        (pss_one (ps_for PassesOwn.never rfl (pi_list (pe_lst (pa_cons (pv 9) (pa_cons (pv 10) pa_nil)))) (pg_name (i := 11) sc57.nd rfl (.inl rfl))
          (pss_one (ps_if (pt_cmp (pc_notN (pv 11))) (pss_one (ps_expr (pe_bm PySem.F.plainAttrs_list PySem.F.slot_list_append PySem.F.type_list_append mt_append (pv 11) (pa_cons pe_non pa_nil)))) pss_nil)))))))))
      (pss_cons (ps_for PassesOwn.never rfl (pi_list (pe_call G10 (hr.mono (by decide)) (by rfl) D10.g D10.F.kp D10.b .nil pass0 (pa_cons (pv 0) (pa_cons (pv 2) (pa_cons (pv 3) pa_nil))))) (pg_name (i := 12) sc57.nd rfl (.inl rfl))
        (pss_cons (ps_par (i := 13) (j := 14) rfl sc57.nd rfl rfl (by decide) rfl rfl (pa_cons (pe_call G9 (hr.mono (by decide)) (by rfl) D9.g D9.F.kp D9.b .nil pass0 (pa_cons (pv 2) (pa_cons (pv 3) (pa_cons (pv 12) pa_nil))))
            (pa_cons (pe_callB (call_reprD gi2 hb (u150 hr)) (by rfl) B.repr (by decide +kernel) (pa_cons (pv 12) pa_nil)) pa_nil)) rfl)
        (pss_cons (ps_set (i := 9) sc57.nd rfl (.inl rfl) (pe_lst (pa_cons (pe_call G6 (hr.mono (by decide)) (by rfl) D6.g D6.F.kp D6.b .nil pass0 (pa_cons (pv 4) (pa_cons (pv 5) (pa_cons (pv 12) pa_nil))))
            (pa_cons (pe_callK0 G6 (hr.mono (by decide)) (by rfl) D6.g D6.F.kp (kb_iwt D6) pass0 (pk_cons (pv 12) (pk_cons (pv 5) (pk_cons (pv 4) pk_nil)))) pa_nil))))
        (pss_one (ps_if (pw_or (pt_cmpR op_ne (pe_callB (call_reprD gi2 hb (u150 hr)) (by rfl) B.repr (by decide +kernel) (pa_cons (pv 9) pa_nil)) (pe_callB (call_reprD gi2 hb (u150 hr)) (by rfl) B.repr (by decide +kernel) (pa_cons (pe_lst (pa_cons (pv 13) (pa_cons (pv 13) pa_nil))) pa_nil)) (nomark _))
            (pw_or1 (pt_cmpR op_ne (pe_callB (call_reprD gi2 hb (u150 hr)) (by rfl) B.repr (by decide +kernel) (pa_cons (pv 12) pa_nil)) (pv 14) (nomark _)))).pt (pss_one (ps_ret pe_bl)) pss_nil)))))
      (pss_cons (ps_set (i := 15) sc57.nd rfl (.inl rfl) (pe_lst (pa_cons (pe_call G4 (hr.mono (by decide)) (by rfl) D4.g D4.F.kp D4.b .nil pass0 (pa_cons (pv 4) (pa_cons (pv 5) pa_nil))) (pa_cons (pe_call G4 (hr.mono (by decide)) (by rfl) D4.g D4.F.kp D4.b .nil pass0 (pa_cons (pv 5) (pa_cons (pv 4) pa_nil))) pa_nil))))
      (pss_one (ps_ret (pe_and (pe_cmpR op_eq (pe_callB (call_reprP Dr Gr gi2 (hr.mono (by decide))) (by rfl) B.repr (by decide +kernel) (pa_cons (pe_lst (pa_cons (pv 4) (pa_cons (pv 5) pa_nil))) pa_nil)) (pv 7) (nomark _))
        (pe_one (pe_cmpR op_eq (pe_call G5 (hr.mono (by decide)) (by rfl) D5.g D5.F.kp D5.b .nil pass0 (pa_cons (pv 4) (pa_cons (pv 5) pa_nil))) (pe_callB (cr_all rfl) (by rfl) B.all (by decide +kernel) (pa_cons (pv 15) pa_nil)) (nomark _)))))))))), ?_⟩
    refine ⟨_, rfl, _, rfl, fun x1 dx1 hx1 hdx1 ne1 => ⟨x1, g1, dx1, d, A, rfl, upd_same, hg1.same (same_mk0 hx1 hdx1), okA, by omega, fun H1 As sx1 pa hsA => ⟨rfl, ?_⟩⟩⟩
    have s1 : Same H H1 := same_make hx1 hdx1 sx1
    refine ⟨_, rfl, _, rfl, fun x2 dx2 hx2 hdx2 ne2 => ⟨x2, g2, dx2, d, B', rfl, upd_same, (hg2.same s1).same (same_mk0 hx2 hdx2), okB, by omega, fun H2 Bs sx2 pb hsB => ⟨rfl, _, _, rfl, ?_⟩⟩⟩
    have s2 : Same H1 H2 := same_make hx2 hdx2 sx2
    have okAs := goes_sorted hsA okA
    have okBs := goes_sorted hsB okB
    have srA := srow_sorted hsA
    have srB := srow_sorted hsB
    have lAs := sorted_len hsA
    have lBs := sorted_len hsB
    refine ⟨_, rfl, _, rfl, g1, g2, d, A, B', rfl, (hg1.same s1).same s2, (hg2.same s1).same s2, okA, okB, fun H3 vd s3 tv => ?_⟩
    obtain ⟨ot, hot, dtv, ntv, etv⟩ := tableV_o (P := P) (w := w) okA okB lA lB tv
    have pa3 : PatAt P w C H3 x1 d As := (pa.same s2).same s3
    have pb3 : PatAt P w C H3 x2 d Bs := pb.same s3
    refine ⟨_, rfl, _, rfl, le2, fun l hl => ?_⟩
    have sl := same_upd (o := .lst [.ref x1, .ref x2]) hl
    refine ⟨l, [x1, x2], [patText d As, patText d Bs], rfl, upd_same, by simp, .cons ⟨d, As, pa3.same sl, okAs, by omega, rfl⟩ (.cons ⟨d, Bs, pb3.same sl, okBs, by omega, rfl⟩ .nil), two_len okAs okBs (by omega), by show 2 ≤ 1000; decide, fun H4 s4 => ⟨_, _, rfl, ?_⟩⟩
    have s34 : Same H3 H4 := Same.trans sl s4
    have s04 : Same H H4 := Same.trans s1 (Same.trans s2 (Same.trans s3 s34))
    have pa4 := pa3.same s34
    have pb4 := pb3.same s34
    have ga4 := hg1.same s04
    have gb4 := hg2.same s04
    have hp4 := hp.same s04
    have dt4 : DR P w H4 (tabD ot) vd := DR.same s34 _ _ dtv
    obtain ⟨bAB, hAB⟩ := bool_of (∀ u, ¬ Bad A B' u)
    have hABs : bAB = true ↔ ∀ u, ¬ Bad As Bs u := hAB.trans ⟨fun h u hu => h u ((bad_sorted hsA hsB okA okB u).mp hu), fun h u hu => h u ((bad_sorted hsA hsB okA okB u).mpr hu)⟩
    refine ⟨2, rfl, by decide, by decide, ?_⟩
    have Z : Vw (fun Hx => Same H4 Hx) id := vw_id fun s h => Same.trans h s
    have rd9 : ∀ {σ : L2.St} {y : V}, σ[4]? = some (some (.ref x1)) → σ[5]? = some (some (.ref x2)) → σ[8]? = some (some y) → scal y (.int 0) = true → ∀ Hx, Same H4 Hx → ∀ Q' : VK, (∀ v Hy, Same Hx Hy → TableV Hx Hy v As Bs → Q' v Hy) →
        tIf (tTest (tOp rEq (tVar 8) (tC (.int 0)))) (tCall (spWT P w C) [] E0 (tCons (tVar 4) (tCons (tVar 5) tNil))) (tCallK (spWT P w C) kg2 E0 tNil (tCons (tVar 5) (tCons (tVar 4) tNil))) σ Hx Q' := fun e4 e5 e8 sc Hx sx Q' kk =>
      ⟨_, e8, sc, _, rfl, ite2 (fun _ => ⟨_, e4, _, e5, x1, x2, d, As, Bs, rfl, pa4.same sx, pb4.same sx, okAs, okBs, srA, fun Hy v sy tvy => kk v Hy sy tvy⟩) (fun _ => ⟨_, e5, _, e4, x1, x2, d, As, Bs, rfl, pa4.same sx, pb4.same sx, okAs, okBs, srA, fun Hy v sy tvy => kk v Hy sy tvy⟩)⟩
    have rd10 : ∀ {σ : L2.St} {y : V}, σ[4]? = some (some (.ref x1)) → σ[5]? = some (some (.ref x2)) → σ[8]? = some (some y) → scal y (.int 0) = true → ∀ Hx, Same H4 Hx → ∀ Q' : VK, (∀ v Hy, Same Hx Hy → AloneV Hx Hy v As Bs → Q' v Hy) →
        tIf (tTest (tOp rEq (tVar 8) (tC (.int 0)))) (tCall (spWAl P w C) [] E0 (tCons (tVar 4) (tCons (tVar 5) tNil))) (tCallK (spWAl P w C) kg2 E0 tNil (tCons (tVar 5) (tCons (tVar 4) tNil))) σ Hx Q' := fun e4 e5 e8 sc Hx sx Q' kk =>
      ⟨_, e8, sc, _, rfl, ite2 (fun _ => ⟨_, e4, _, e5, x1, x2, d, As, Bs, rfl, pa4.same sx, pb4.same sx, okAs, okBs, srA, fun Hy v sy tvy => kk v Hy sy tvy⟩) (fun _ => ⟨_, e5, _, e4, x1, x2, d, As, Bs, rfl, pa4.same sx, pb4.same sx, okAs, okBs, srA, fun Hy v sy tvy => kk v Hy sy tvy⟩)⟩
    have mkL : ∀ {Hz : Hp} {σ : L2.St}, Same H4 Hz → σ[4]? = some (some (.ref x1)) → σ[5]? = some (some (.ref x2)) → Mk P w (fun Hx => Same Hz Hx) id σ (tCall (spLies P w C) [] E0 (tCons (tVar 4) (tCons (tVar 5) tNil))) (.bool bAB) := fun sz e4 e5 Hx Q' sx kk =>
      ⟨_, e4, _, e5, x1, x2, d, As, Bs, rfl, (pa4.same sz).same sx, (pb4.same sz).same sx, okAs, okBs, srA, fun Hy b sy hb' => by
        rw [bool_eq hb' hABs]
        exact kk _ _ sy (Same.trans sx sy) rfl⟩
    have mkLK : ∀ {Hz : Hp} {σ : L2.St}, Same H4 Hz → σ[4]? = some (some (.ref x1)) → σ[5]? = some (some (.ref x2)) → Mk P w (fun Hx => Same Hz Hx) id σ (tCallK (spLies P w C) kg2 E0 tNil (tCons (tVar 5) (tCons (tVar 4) tNil))) (.bool bAB) := fun sz e4 e5 Hx Q' sx kk =>
      ⟨_, e5, _, e4, x1, x2, d, As, Bs, rfl, (pa4.same sz).same sx, (pb4.same sz).same sx, okAs, okBs, srA, fun Hy b sy hb' => by
        rw [bool_eq hb' hABs]
        exact kk _ _ sy (Same.trans sx sy) rfl⟩
    have ft : Fine 2 561 (tabD ot) := fine_tabO okA okB lA lB hot
    have hnon : ∀ Hx u, DR P w Hx (tabD ot) u → decide (u = .non) = !bAB := fun Hx u hu => by
      cases ot with
      | none =>
        obtain ⟨u0, hu0⟩ := hot
        have : bAB = false := by
          cases bAB with
          | false => rfl
          | true => exact (hAB.mp rfl u0 hu0).elim
        rw [this, (show u = .non from hu)]
        rfl
      | some ps =>
        have : bAB = true := hAB.mpr hot.2.2.1
        obtain ⟨a, ys, rfl, _⟩ := hu
        rw [this]
        rfl
    obtain ⟨tx, htx⟩ : ∃ tx, listText [patText d As, patText d Bs] = tx := ⟨_, rfl⟩
    rw [htx]
    refine for_it (n := 2) (fun i σ Hx => Same H4 Hx ∧ ∃ y8 y9 y10 y11, σ = [some (.ref p), some (.int d), some (.ref g1), some (.ref g2), some (.ref x1), some (.ref x2), some vd, some (.str tx), y8, y9, y10, y11, none, none, none, none]) ⟨fun _ _ e => e, none, none, none, none, rfl⟩ (fun i σ Hx hi _ => hi) (fun σ Hx _ => Nat.le_refl _) (fun i σ Hx x Hy hi pi y => ?_) fun σ Hx pi => ?_
    · obtain ⟨rfl, rfl⟩ := y
      obtain ⟨sx, y8, y9, y10, y11, rfl⟩ := pi
      refine rd9 rfl rfl rfl rfl _ sx _ fun v9 Ha sa tva => ?_
      obtain ⟨o9, ho9, d9, n9, _⟩ := tableV_o (P := P) (w := w) okAs okBs (by omega) (by omega) tva
      obtain rfl : o9 = ot := tabO_one (tabO_sorted hsA hsB okA okB ho9) hot
      refine rd10 rfl rfl rfl rfl _ (Same.trans sx sa) _ fun v10 Hb sb tvb => ?_
      obtain ⟨oa, hoa, d10, n10⟩ := aloneV_o (P := P) (w := w) okAs okBs (by omega) (by omega) tvb
      have hoa2 := aloneO_sorted hsA hsB okA okB hoa
      have s4b : Same H4 Hb := Same.trans sx (Same.trans sa sb)
      have Zb : Vw (fun Hx => Same Hb Hx) id := vw_id fun s h => Same.trans h s
      have d9b := DR.same sb _ _ d9
      have d6b := DR.same s4b _ _ dt4
      have fa : Fine 2 561 (aloneD oa) := fine_aloneO okA okB (by omega) lA lB hoa2
      have f2 : Fine 3 1124 (.list [tabD o9, aloneD oa]) := fine_list (n := 2) (W := 561) (m := 2) (fun x hx => by
        rcases List.mem_cons.mp hx with rfl | hx
        · exact ft
        · rw [List.mem_singleton.mp hx]; exact fa) (by show 2 ≤ 2; omega)
      refine ne_same (P := P) (w := w) (I := fun Hx => Same Hb Hx) (vw := id) (mk_repr Zb (mk_lst Zb (mks_cons Zb (mk_var rfl fun _ h => DR.same h _ _ d9b) (mks_cons Zb (mk_var rfl fun _ h => DR.same h _ _ d10) mks_nil)) (by show 2 ≤ 100000; decide)) f2 (by decide) (by decide))
        (mk_repr Zb (mk_lst Zb (mks_cons Zb (mk_var rfl fun _ h => DR.same h _ _ d6b) (mks_cons Zb ?al mks_nil)) (by show 2 ≤ 100000; decide)) f2 (by decide) (by decide)) (fun _ _ e => e) fun Hc sc _ => ?_
      case al =>
        intro Hx' Q' sx' kk
        refine ⟨_, rfl, _, rfl, _, rfl, g1, g2, d, A, B', rfl, (ga4.same s4b).same sx', (gb4.same s4b).same sx', okA, okB, hd, fun Hy v sy tvy => ?_⟩
        obtain ⟨oc, hoc, dc, _⟩ := aloneV_o (P := P) (w := w) okA okB lA lB tvy
        obtain rfl : oc = oa := aloneO_one hoc hoa2
        exact kk _ _ sy (Same.trans sx' sy) dc
      refine no ?_
      have s4c : Same H4 Hc := Same.trans s4b sc
      have Zc : Vw (fun Hx => Same Hc Hx) id := vw_id fun s h => Same.trans h s
      have fb : Fine 1 2 (.list [.bool bAB, .bool bAB]) := fine_list (n := 0) (W := 0) (m := 2) (fun x hx => by
        rcases List.mem_cons.mp hx with rfl | hx
        · exact fine_bool _
        · rw [List.mem_singleton.mp hx]; exact fine_bool _) (by show 2 ≤ 2; omega)
      refine ne_same (P := P) (w := w) (I := fun Hx => Same Hc Hx) (vw := id) (mk_repr Zc (mk_lst Zc (mks_cons Zc (mkL s4c rfl rfl) (mks_cons Zc (mkLK s4c rfl rfl) mks_nil)) (by show 2 ≤ 100000; decide)) fb (by decide) (by decide))
        (mk_repr Zc (mk_rep2 Zc (mk_lst Zc (mks_cons Zc (mk_notN (mk_var rfl fun _ h => DR.same (Same.trans s4c h) _ _ dt4) hnon) mks_nil) (by show 1 ≤ 100000; decide))) fb (by decide) (by decide)) (fun _ _ e => e) fun Hd sd _ => ?_
      refine no ?_
      have s4d : Same H4 Hd := Same.trans s4c sd
      refine ⟨_, rfl, _, rfl, le2, fun L hL => ⟨L, rfl, ⟨_, SqL.of upd_same⟩, ?_⟩⟩
      have sL := same_upd (o := .lst [v9, v10]) hL
      have n9d : ∀ a, v9 = .ref a → H4 a = none ∧ L ≠ a ∧ ∃ xs, (upd Hd L (.lst [v9, v10])) a = some (.lst xs) ∧ xs.length ≤ 100 := fun a e => by
        obtain ⟨q1, xs, q2, q3⟩ := n9 a e
        have q4 := sd _ _ (sc _ _ (sb _ _ q2))
        refine ⟨Same.free sx q1, fun q5 => ?_, xs, sL _ _ q4, q3⟩
        rw [← q5, hL] at q4
        cases q4
      have n10d : ∀ a, v10 = .ref a → H4 a = none ∧ L ≠ a ∧ ∃ xs, (upd Hd L (.lst [v9, v10])) a = some (.lst xs) ∧ xs.length ≤ 100 := fun a e => by
        obtain ⟨q1, xs, q2, q3⟩ := n10 a e
        have q4 := sd _ _ (sc _ _ q2)
        refine ⟨Same.free (Same.trans sx sa) q1, fun q5 => ?_, xs, sL _ _ q4, q3⟩
        rw [← q5, hL] at q4
        cases q4
      refine for_it (n := 2) (fun j σ Hx => Same H4 Hx ∧ Hx L = some (.lst [v9, v10]) ∧ (∀ v, v = v9 ∨ v = v10 → ∀ a, v = .ref a → H4 a = none ∧ L ≠ a ∧ ∃ xs, Hx a = some (.lst xs) ∧ xs.length ≤ 100 + j) ∧ ∃ y11, σ = [some (.ref p), some (.int d), some (.ref g1), some (.ref g2), some (.ref x1), some (.ref x2), some vd, some (.str tx), some (.int (0 + (i : Int))), some v9, some v10, y11, none, none, none, none])
        ⟨Same.trans s4d sL, upd_same, fun v hv a e => by
          rcases hv with rfl | rfl
          · exact n9d a e
          · exact n10d a e, _, rfl⟩ (fun j σ Hx hj pj => ?_) (fun σ Hx pj => ?_) (fun j σ Hx x Hy hj pj y => ?_) fun σ Hx pj => ?_
      · exact ⟨_, [v9, v10][j]'hj, SqL.of pj.2.1, List.getElem?_eq_getElem _⟩
      · exact ⟨_, SqL.of pj.2.1, Nat.le_refl _⟩
      · obtain ⟨q1, q2, q3, y11, rfl⟩ := pj
        obtain ⟨rfl, f⟩ := y
        have hx := f _ (SqL.of q2)
        have hx2 : x = v9 ∨ x = v10 := by
          match j, hj, hx with
          | 0, _, hx => exact .inl (Option.some.inj hx).symm
          | 1, _, hx => exact .inr (Option.some.inj hx).symm
        refine ⟨_, rfl, _, rfl, ?_⟩
        dsimp only
        refine ite2 (fun e => ?_) (fun e => ⟨q1, q2, fun v hv a ev => ?_, _, rfl⟩)
        · have nn : x ≠ .non := fun z => by rw [z] at e; cases e
          have xr : ∃ a, x = .ref a := by
            rcases hx2 with rfl | rfl
            · cases o9 with
              | none => exact (nn d9).elim
              | some ps =>
                obtain ⟨a, _, e9, _⟩ := d9
                exact ⟨a, e9⟩
            · cases oa with
              | none => exact (nn d10).elim
              | some u =>
                obtain ⟨a, _, e10, _⟩ := d10
                exact ⟨a, e10⟩
          obtain ⟨a, rfl⟩ := xr
          obtain ⟨r1, r2, xs, r3, r4⟩ := q3 _ hx2 a rfl
          refine ⟨_, rfl, .inl ⟨rfl, _, SqL.of r3⟩, a, xs, .non, rfl, rfl, r3, small_of (by omega), ?_⟩
          refine ⟨same_put q1 r1, by rw [upd_ne r2]; exact q2, fun v hv b ev => ?_, _, rfl⟩
          obtain ⟨t1, t2, ys, t3, t4⟩ := q3 v hv b ev
          refine ⟨t1, t2, ?_⟩
          by_cases q : b = a
          · rw [q, upd_same]
            exact ⟨_, rfl, by rw [List.length_append]; show xs.length + 1 ≤ _; omega⟩
          · rw [upd_ne q]
            exact ⟨ys, t3, by omega⟩
        · obtain ⟨t1, t2, ys, t3, t4⟩ := q3 v hv a ev
          exact ⟨t1, t2, ys, t3, by omega⟩
      · obtain ⟨q1, _, _, y11, rfl⟩ := pj
        exact ⟨q1, _, _, _, _, rfl⟩
    · obtain ⟨sx, y8, y9, y10, y11, rfl⟩ := pi
      have hpx := hp4.same sx
      refine ⟨_, rfl, _, rfl, _, rfl, p, g1, g2, d, A, B', rfl, hpx, ga4.same sx, gb4.same sx, n1, n2, okA, okB, lA, lB, fun H5 L zs ds sx5 hp5 hL hds htg hlen => ⟨L, rfl, ⟨_, SqL.of hL⟩, ?_⟩⟩
      have pa5 := sx5.patP hpx okAs (pa4.same sx)
      have pb5 := sx5.patP hpx okBs (pb4.same sx)
      have ga5 := sx5.goesP hpx n1 (ga4.same sx)
      have gb5 := sx5.goesP hpx n2 (gb4.same sx)
      have lds := DRs.len hds
      refine for_it (n := ds.length) (fun j σ Hy => Same H5 Hy ∧ ∃ y8 y9 y10 y11 y12 y13 y14, σ = [some (.ref p), some (.int d), some (.ref g1), some (.ref g2), some (.ref x1), some (.ref x2), some vd, some (.str tx), y8, y9, y10, y11, y12, y13, y14, none]) ⟨fun _ _ e => e, _, _, _, _, none, none, none, rfl⟩ (fun j σ Hy hj pj => ?_) (fun σ Hy pj => ?_) (fun j σ Hy x Hz hj pj y => ?_) fun σ Hy pj => ?_
      · exact ⟨_, zs[j]'(by omega), SqL.of (pj.1 _ _ hL), List.getElem?_eq_getElem _⟩
      · exact ⟨_, SqL.of (pj.1 _ _ hL), by omega⟩
      · obtain ⟨q1, y8, y9, y10, y11, y12, y13, y14, rfl⟩ := pj
        obtain ⟨rfl, f⟩ := y
        have hx := f _ (SqL.of (q1 _ _ hL))
        obtain ⟨dd, hdd, hdx5⟩ := DRs.get hds hx
        have tg := htg dd (List.mem_of_getElem? hdd)
        have hdx := DR.same q1 _ _ hdx5
        refine ⟨_, rfl, _, rfl, _, rfl, g1, g2, d, A, B', x, dd, rfl, ga5.same q1, gb5.same q1, okA, okB, hdx, tg.ok, fun H6 b1 s6 hb1 => ?_⟩
        have hdx6 := DR.same s6 _ _ hdx
        refine ⟨_, rfl, x, dd, 6, 30000, rfl, hdx6, tg.fine, by decide, by decide, _, _, rfl, ?_⟩
        have q6 := Same.trans q1 s6
        refine ⟨_, rfl, _, rfl, _, rfl, x1, x2, d, As, Bs, x, dd, rfl, pa5.same q6, pb5.same q6, okAs, okBs, hdx6, tg.ok, fun H7 b2 s7 hb2 => ?_⟩
        have q7 := Same.trans q6 s7
        have hdx7 := DR.same s7 _ _ hdx6
        refine ⟨_, rfl, _, rfl, _, rfl, x1, x2, d, As, Bs, x, dd, rfl, pa5.same q7, pb5.same q7, okAs, okBs, hdx7, tg.ok, fun H8 b3 s8 hb3 => ⟨le2, fun l9 hl9 => ?_⟩⟩
        have ts := tab_sorted hsA hsB okA okB dd
        obtain rfl : b2 = b1 := bool_eq (hb2.trans ts) hb1
        obtain rfl : b3 = b2 := bool_eq (hb3.trans ts) hb1
        have s9 := same_upd (o := .lst [.bl b3, .bl b3]) hl9
        obtain ⟨H9, eH9⟩ : ∃ H9, upd H8 l9 (.lst [.bl b3, .bl b3]) = H9 := ⟨_, rfl⟩
        have at9 : H9 l9 = some (.lst [.bl b3, .bl b3]) := by rw [← eH9]; exact upd_same
        rw [eH9] at s9 ⊢
        have q9 : Same H5 H9 := Same.trans q7 (Same.trans s8 s9)
        have hdx9 : DR P w H9 dd x := DR.same (Same.trans s8 s9) _ _ hdx7
        have d9 : DR P w H9 (.list [.bool b3, .bool b3]) (.ref l9) := ⟨l9, _, rfl, at9, _, _, rfl, rfl, _, _, rfl, rfl, rfl⟩
        have Z9 : Vw (fun Hx => Same H9 Hx) id := vw_id fun s h => Same.trans h s
        have fb : Fine 1 2 (.list [.bool b3, .bool b3]) := fine_list (n := 0) (W := 0) (m := 2) (fun x hx => by
          rcases List.mem_cons.mp hx with rfl | hx
          · exact fine_bool _
          · rw [List.mem_singleton.mp hx]; exact fine_bool _) (by show 2 ≤ 2; omega)
        refine ne_same (P := P) (w := w) (I := fun Hx => Same H9 Hx) (vw := id) (mk_repr Z9 (mk_var rfl fun _ h => DR.same h _ _ d9) fb (by decide) (by decide)) (mk_repr Z9 (mk_lst Z9 (mks_cons Z9 (mk_var rfl fun _ _ => rfl) (mks_cons Z9 (mk_var rfl fun _ _ => rfl) mks_nil)) (by show 2 ≤ 100000; decide)) fb (by decide) (by decide)) (fun _ _ e => e) fun H10 s10 _ => no ?_
        refine ne_same (P := P) (w := w) (I := fun Hx => Same H9 Hx) (vw := id) (mk_repr Z9 (mk_var rfl fun _ h => DR.same h _ _ hdx9) tg.fine (by decide) (by decide)) (mk_var rfl fun _ _ => rfl) s10 fun H11 s11 _ => no ?_
        exact ⟨Same.trans q9 (Same.trans s10 s11), _, _, _, _, _, _, _, rfl⟩
      · obtain ⟨q1, y8, y9, y10, y11, y12, y13, y14, rfl⟩ := pj
        refine ⟨_, rfl, _, rfl, x1, x2, d, As, Bs, rfl, pa5.same q1, pb5.same q1, okAs, okBs, srA, fun H6 b4 s6 hb4 => ?_⟩
        have q6 := Same.trans q1 s6
        refine ⟨_, rfl, _, rfl, x2, x1, d, Bs, As, rfl, pb5.same q6, pa5.same q6, okBs, okAs, srB, fun H7 b5 s7 hb5 => ⟨le2, fun l15 hl15 => ?_⟩⟩
        have q7 := Same.trans q6 s7
        have s8 := same_upd (o := .lst [.bl b4, .bl b5]) hl15
        obtain ⟨H8, eH8⟩ : ∃ H8, upd H7 l15 (.lst [.bl b4, .bl b5]) = H8 := ⟨_, rfl⟩
        have at8 : H8 l15 = some (.lst [.bl b4, .bl b5]) := by rw [← eH8]; exact upd_same
        rw [eH8] at s8 ⊢
        have q8 := Same.trans q7 s8
        refine ⟨_, rfl, _, rfl, le2, fun l2 hl2 => ?_⟩
        have s9 := same_upd (o := .lst [.ref x1, .ref x2]) hl2
        have q9 := Same.trans q8 s9
        refine ⟨l2, [x1, x2], [patText d As, patText d Bs], rfl, upd_same, by simp, .cons ⟨d, As, pa5.same q9, okAs, by omega, rfl⟩ (.cons ⟨d, Bs, pb5.same q9, okBs, by omega, rfl⟩ .nil), two_len okAs okBs (by omega), by show 2 ≤ 1000; decide, fun H10 s10 => ⟨_, rfl, rfl, _, rfl, ?_⟩⟩
        rw [htx, decide_eq_true rfl]
        have q10 := Same.trans q9 s10
        refine ys ⟨_, rfl, _, rfl, x1, x2, d, As, Bs, rfl, pa5.same q10, pb5.same q10, okAs, okBs, srA, srB, fun H11 bf s11 hbf => ⟨_, rfl, l15, [b4, b5], rfl, SqL.of (s11 _ _ (s10 _ _ (s9 _ _ at8))), rfl, ?_⟩⟩
        have ebf : bf = [b4, b5].all id := by
          have : (b4 && b5) = true ↔ (∀ u, ¬ Bad As Bs u) ∧ ∀ u, ¬ Bad Bs As u := by rw [Bool.and_eq_true, hb4, hb5]
          have e2 := bool_eq hbf this
          rw [e2]
          simp
        rw [ebf, decide_eq_true rfl]
        have q11 := Same.trans q10 s11
        exact k _ (((SamX.of_same s04).trans (SamX.of_same sx)).trans (sx5.trans (SamX.of_same q11))) (hp5.same q11)
end
end WW


set_option maxHeartbeats 2000000

/-! between both -/
namespace WW
open PySem PySem.Spec PyProof.Rows L2
theorem nobad_iff {A B : List IRow} : (∀ u, ¬ Bad A B u) ↔ ∀ u, acc A 0 u → acc B 0 u := by
  constructor
  · intro h u hu
    cases e : runR B 0 u with
    | none => exact (h u ⟨hu, e⟩).elim
    | some j => show (runR B 0 u).isSome = true; rw [e]; rfl
  · intro h u hu
    have := h u hu.1
    unfold acc at this
    rw [hu.2] at this
    cases this
theorem acc_sorted {d : Nat} {A A' : List IRow} (h : Paired SortedOf A A') (ok : GoesOk d A) (u : List Ltr) : acc A' 0 u ↔ acc A 0 u := by
  unfold acc
  rw [run_sorted h ok]
theorem rowsEq_step {R S : List IRow} (h : RowsEq R S) (i : Int) (l : Ltr) : stepR R i l = stepR S i l := by
  unfold stepR rowAt
  rw [List.getD_eq_getElem?_getD, List.getD_eq_getElem?_getD]
  cases e : R[i.toNat]? with
  | none =>
    have : S[i.toNat]? = none := by
      rw [List.getElem?_eq_none_iff] at e ⊢
      rw [← h.1]
      exact e
    rw [this]
  | some r =>
    have hi := (List.getElem?_eq_some_iff.mp e).1
    have e2 : S[i.toNat]? = some (S[i.toNat]'(by rw [← h.1]; exact hi)) := List.getElem?_eq_getElem _
    rw [e2]
    exact h.2 _ _ _ e e2 l
theorem rowsEq_run {R S : List IRow} (h : RowsEq R S) : ∀ (u : List Ltr) (i : Int), runR R i u = runR S i u
  | [], _ => rfl
  | l :: u, i => by
    show ((stepR R i l).bind fun j => runR R j u) = ((stepR S i l).bind fun j => runR S j u)
    rw [rowsEq_step h]
    congr 1
    funext j
    exact rowsEq_run h u j
theorem rowsEq_lang {d e : Nat} {R S : List IRow} (oR : GoesOk d R) (oS : GoesOk e S) (cR : Canon R) (cS : Canon S) : RowsEq R S ↔ ∀ u, acc R 0 u ↔ acc S 0 u := by
  constructor
  · intro h u
    unfold acc
    rw [rowsEq_run h]
  · intro h
    rw [canon_one oR oS cR cS h]
    exact ⟨rfl, fun i r t e1 e2 l => by rw [e1] at e2; rw [Option.some.inj e2]⟩
end WW


set_option maxHeartbeats 4000000

/-! _law_between_right -/
namespace WW
open PySem PySem.Spec PyProof.Rows L2
section
variable {P : Program} {w : World} {K : PySem.W.Frag} {mg : Str → Option Value} {base : Heap}
abbrev sBet : Stmt := top 58
abbrev nBet : List Str := ["_law_pot_here", "_law_width", "_law_mine", "_law_its", "_law_near", "_law_far", "_law_least", "_law_most", "_law_word", "_law_held", "_law_part", "_law_goes_here"]
abbrev pBet : List Str := ["_law_pot_here", "_law_width", "_law_mine", "_law_its"]
theorem sc58 : FnScope nBet pBet (defScope sBet) := ⟨rfl, rfl, rfl, by decide +kernel, rfl, by decide +kernel, by decide +kernel⟩
def spBet (P : Program) (w : World) : Sp := fun vs H Q _ => ∃ (p g1 g2 : Addr) (d : Nat) (A B : List IRow), vs = [.ref p, .int d, .ref g1, .ref g2] ∧ GoesA P w H g1 A ∧ GoesA P w H g2 B ∧ GoesOk d A ∧ GoesOk d B ∧ d ≤ 2 ∧ A.length ≤ 4 ∧ B.length ≤ 4 ∧
  ∀ H', Same H H' → Q (.bl true) H'
theorem ok_bet {C : Addr} (B : Blt mg) (T : PatC K mg C) (hmk : PySem.W.makesIn K C = true) (hkp : PySem.W.keepIn K (.ref C) = true) (hsf : PySem.W.selfFirst K C = true)
    (D1 : Md K C "__init__" "Pattern.__init__" sPInit ["self", "width", "goes"]) (G1 : FnOk P w K mg base CX0 6 D1.f D1.fd ["self", "width", "goes"] (spPInit P w C))
    (D2 : Md K C "__and__" "Pattern.__and__" sPAnd ["self", "other"]) (G2 : FnOk P w K mg base CX0 9 D2.f D2.fd ["self", "other"] (spPOp P w C And))
    (D3 : Md K C "__or__" "Pattern.__or__" sPOr ["self", "other"]) (G3 : FnOk P w K mg base CX0 9 D3.f D3.fd ["self", "other"] (spPOp P w C Or))
    (D4 : Dn K mg "lies_within" sLies ["one", "other"]) (G4 : FnOk P w K mg base CX0 2 D4.f D4.fd ["one", "other"] (spLies P w C))
    (D5 : Md K C "least" "Pattern.least" sPLeast ["self"]) (G5 : FnOk P w K mg base CX0 9 D5.f D5.fd ["self"] (spPLeast P w C))
    (D6 : Md K C "__eq__" "Pattern.__eq__" sPEq ["self", "other"]) (G6 : FnOk P w K mg base CX0 1 D6.f D6.fd ["self", "other"] (spPEq P w C))
    (D7 : Dn K mg "_law_words" sLWords ["_law_width", "_law_most"]) (G7 : FnOk P w K mg base CX0 2 D7.f D7.fd ["_law_width", "_law_most"] spLWords)
    (D8 : Dn K mg "_law_led" sLLed ["_law_goes_here", "_law_place", "_law_word"]) (G8 : FnOk P w K mg base CX0 1 D8.f D8.fd ["_law_goes_here", "_law_place", "_law_word"] (spLLed P w))
    (D9 : Md K C "__contains__" "Pattern.__contains__" sPCont ["self", "value"]) (G9 : FnOk P w K mg base CX0 5 D9.f D9.fd ["self", "value"] (spPCont P w C))
    (D : Dn K mg "_law_between_right" sBet pBet) : FnOk P w K mg base CX0 10 D.f D.fd pBet (spBet P w) := by
  refine D.F.ok sc58 (fun vs H Q E h => ?_) (fun cdv A0 outer s H vs Q E hr h => ?_)
  · obtain ⟨p, g1, g2, d, A, B, rfl, _⟩ := h
    rfl
  · obtain ⟨p, g1, g2, d, A, B', rfl, hg1, hg2, okA, okB, hd, lA, lB, k⟩ := h
    have M1 : L2.Mk K C D1.f := ⟨hmk, D1.a, D1.i, hkp⟩
    refine' ⟨_, pss_cons (ps_par (i := 4) (j := 5) rfl sc58.nd rfl rfl (by decide) rfl rfl (pa_cons (pe_make M1 G1 (hr.mono (by decide)) (by rfl) T.mgC D1.b .nil pass0 (pa_cons (pv 1) (pa_cons (pv 2) pa_nil))) (pa_cons (pe_make M1 G1 (hr.mono (by decide)) (by rfl) T.mgC D1.b .nil pass0 (pa_cons (pv 1) (pa_cons (pv 3) pa_nil))) pa_nil)) rfl)
      (pss_cons (ps_asg (pe_tup (pa_cons (pe_op (op_own (op := .BitAnd) G2 hr D2.b pass0 hsf D2.a D2.i) (pv 4) (pv 5)) (pa_cons (pe_op (op_own (op := .BitOr) G3 hr D3.b pass0 hsf D3.a D3.i) (pv 4) (pv 5)) pa_nil))) (pg_tup rfl (pgs_cons (pg_name (i := 6) sc58.nd rfl (.inr rfl)) (pgs_cons (pg_name (i := 7) sc58.nd rfl (.inr rfl)) pgs_nil))))
      (pss_cons (ps_if (pt_not (pt_val (pe_callB (cr_all rfl) (by rfl) B.all (by decide +kernel) (pa_cons (pe_lc (own := [("_law_part", 10)]) (g := gName 10) (tt := tYes) (te := tAndV (tCall (spLies P w C) [] E0 (tCons (tVar 6) (tCons (tVar 10) tNil))) (tCall (spLies P w C) [] E0 (tCons (tVar 10) (tCons (tVar 7) tNil)))) (by rfl) sc58.nd (pi_list (pe_lst (pa_cons (pv 4) (pa_cons (pv 5) pa_nil)))) (blkOk_by (own := [("_law_part", 10)]) (N := nBet) (sc := defScope sBet) (by decide +kernel))
          (fun _ _ _ _ _ => pg_name (i := 10) sc58.nd rfl (Or.inl rfl)) (fun _ _ _ _ _ => pts_nil) (fun _ _ _ _ _ => pe_and (pe_call G4 (hr.mono (by decide)) (by rfl) D4.g D4.F.kp D4.b .nil pass0 (pa_cons (pv 6) (pa_cons (pv 10) pa_nil))) (pe_one (pe_call G4 (hr.mono (by decide)) (by rfl) D4.g D4.F.kp D4.b .nil pass0 (pa_cons (pv 10) (pa_cons (pv 7) pa_nil)))))) pa_nil)))) (pss_one (ps_ret pe_bl)) pss_nil)
      (pss_cons (ps_if (pw_or (pt_cmpR op_ne (pe_call G4 (hr.mono (by decide)) (by rfl) D4.g D4.F.kp D4.b .nil pass0 (pa_cons (pv 4) (pa_cons (pv 5) pa_nil))) (pe_cmpR (cmp_own (op := .Eq) G6 (hr.mono (by decide)) D6.b pass0 D6.a D6.i (fun _ _ => rfl)) (pv 6) (pe_meth0 (pv 4) T.cl ⟨D5.a, D5.i, D5.F.kp⟩ G5 hr D5.b .nil pass0) (nomark _)) (nomark _))
          (pw_or1 (pt_cmpR op_ne (pe_call G4 (hr.mono (by decide)) (by rfl) D4.g D4.F.kp D4.b .nil pass0 (pa_cons (pv 5) (pa_cons (pv 4) pa_nil))) (pe_cmpR (cmp_own (op := .Eq) G6 (hr.mono (by decide)) D6.b pass0 D6.a D6.i (fun _ _ => rfl)) (pv 7) (pe_meth0 (pv 4) T.cl ⟨D5.a, D5.i, D5.F.kp⟩ G5 hr D5.b .nil pass0) (nomark _)) (nomark _)))).pt (pss_one (ps_ret pe_bl)) pss_nil)
      (pss_cons (ps_for PassesOwn.never rfl (pi_list (pe_call G7 (hr.mono (by decide)) (by rfl) D7.g D7.F.kp D7.b .nil pass0 (pa_cons (pv 1) (pa_cons (pe_ifExp (pt_cmpR op_lt (pv 1) pe_int (nomark _)) pe_int pe_int) pa_nil)))) (pg_name (i := 8) sc58.nd rfl (.inr rfl))
        (pss_cons (ps_setLc (i := 9) (own := [("_law_goes_here", 11)]) (g := gName 11) (tt := tYes) (te := tNotN (tCall (spLLed P w) [] E0 (tCons (tVar 11) (tCons (tC (.int 0)) (tCons (tVar 8) tNil))))) (by rfl) sc58.nd rfl rfl (sw_true rfl rfl rfl (by decide +kernel)) (pi_list (pe_lst (pa_cons (pv 2) (pa_cons (pv 3) pa_nil)))) (blkOk_by (own := [("_law_goes_here", 11)]) (N := nBet) (sc := defScope sBet) (by decide +kernel))
            (fun _ _ _ _ _ => pg_name (i := 11) sc58.nd rfl (Or.inl rfl)) (fun _ _ _ _ _ => pts_nil) (fun _ _ _ _ _ => pe_cmp (pc_notN (pe_call G8 (hr.mono (by decide)) (by rfl) D8.g D8.F.kp D8.b .nil pass0 (pa_cons (pv 11) (pa_cons pe_int (pa_cons (pv 8) pa_nil)))))))
        (pss_one (ps_if (pw_or (pt_cmpR op_ne (pe_cmpR (in_own G9 (hr.mono (by decide)) D9.b pass0 D9.a D9.i) (pv 8) (pv 6) (by rfl)) (pe_callB (cr_all rfl) (by rfl) B.all (by decide +kernel) (pa_cons (pv 9) pa_nil)) (nomark _))
            (pw_or1 (pt_cmpR op_ne (pe_cmpR (in_own G9 (hr.mono (by decide)) D9.b pass0 D9.a D9.i) (pv 8) (pv 7) (by rfl)) (pe_callB (cr_any rfl) (by rfl) B.any (by decide +kernel) (pa_cons (pv 9) pa_nil)) (nomark _)))).pt (pss_one (ps_ret pe_bl)) pss_nil))))
      (pss_one (ps_ret pe_bl)))))), ?main⟩
    case main =>
      refine ⟨_, rfl, _, rfl, fun x1 dx1 hx1 hdx1 ne1 => ⟨x1, g1, dx1, d, A, rfl, upd_same, hg1.same (same_mk0 hx1 hdx1), okA, by omega, fun H1 As sx1 pa hsA => ⟨rfl, ?_⟩⟩⟩
      have s1 : Same H H1 := same_make hx1 hdx1 sx1
      refine ⟨_, rfl, _, rfl, fun x2 dx2 hx2 hdx2 ne2 => ⟨x2, g2, dx2, d, B', rfl, upd_same, (hg2.same s1).same (same_mk0 hx2 hdx2), okB, by omega, fun H2 Bs sx2 pb hsB => ⟨rfl, _, _, rfl, ?_⟩⟩⟩
      have s2 : Same H1 H2 := same_make hx2 hdx2 sx2
      have okAs := goes_sorted hsA okA
      have okBs := goes_sorted hsB okB
      have srA := srow_sorted hsA
      have srB := srow_sorted hsB
      have lAs := sorted_len hsA
      have lBs := sorted_len hsB
      have pa2 := pa.same s2
      have sz : (As.length + 1) * (Bs.length + 1) ≤ 60 := by
        have : (As.length + 1) * (Bs.length + 1) ≤ 5 * 5 := Nat.mul_le_mul (by omega) (by omega)
        omega
      have insOf : ∀ {Hx : Hp} {q : Addr} {R : List IRow}, PatAt P w C Hx q d R → ∃ dx g, Hx q = some (.ins C dx [("own_width", .int (d : Int)), ("own_goes", .ref g)]) := fun ⟨dx, g, e, _⟩ => ⟨dx, g, e⟩
      obtain ⟨da, ga, ea⟩ := insOf pa2
      obtain ⟨db, gb, eb⟩ := insOf pb
      refine ⟨_, rfl, _, rfl, x1, x2, da, db, _, _, rfl, rfl, ea, eb, x1, x2, d, As, Bs, rfl, pa2, pb, okAs, okBs, by omega, sz, fun H3 r1 R1 s3 p1 ok1 c1 l1 => ?_⟩
      refine ⟨_, rfl, _, rfl, x1, x2, da, db, _, _, rfl, rfl, s3 _ _ ea, s3 _ _ eb, x1, x2, d, As, Bs, rfl, pa2.same s3, pb.same s3, okAs, okBs, by omega, sz, fun H4 r2 R2 s4 p2 ok2 c2 l2 => ⟨le2, fun t ht => ?_⟩⟩
      have s5 := same_upd (o := .tup [.ref r1, .ref r2]) ht
      refine ⟨t, _, rfl, .inl (.inl upd_same), rfl, _, _, rfl, _, _, rfl, rfl, ?_⟩
      obtain ⟨H5, eH5⟩ : ∃ H5, upd H4 t (.tup [.ref r1, .ref r2]) = H5 := ⟨_, rfl⟩
      rw [eH5] at s5 ⊢
      have s25 : Same H2 H5 := Same.trans s3 (Same.trans s4 s5)
      have s05 : Same H H5 := Same.trans s1 (Same.trans s2 s25)
      have pa5 := pa2.same s25
      have pb5 := pb.same s25
      have p15 := p1.same (Same.trans s4 s5)
      have p25 := p2.same s5
      have ga5 := hg1.same s05
      have gb5 := hg2.same s05
      have w1 : ∀ u, ¬ Bad R1 As u := nobad_iff.mpr fun u h => ((l1 u).mp h).1
      have w2 : ∀ u, ¬ Bad R1 Bs u := nobad_iff.mpr fun u h => ((l1 u).mp h).2
      have w3 : ∀ u, ¬ Bad As R2 u := nobad_iff.mpr fun u h => (l2 u).mpr (.inl h)
      have w4 : ∀ u, ¬ Bad Bs R2 u := nobad_iff.mpr fun u h => (l2 u).mpr (.inr h)
      have Z5 : Vw (fun Hx => Same H5 Hx) id := vw_id fun s h => Same.trans h s
      have go : ∀ {σ : L2.St} {Hy : Hp} {Q' : VK} (xi : Addr) (Xi : List IRow), σ[6]? = some (some (.ref r1)) → σ[7]? = some (some (.ref r2)) → σ[10]? = some (some (.ref xi)) → Same H5 Hy → PatAt P w C H5 xi d Xi → GoesOk d Xi → (∀ r ∈ Xi, SRow r) → (∀ u, ¬ Bad R1 Xi u) → (∀ u, ¬ Bad Xi R2 u) → (∀ H', Same Hy H' → Q' (.bl true) H') →
          tAndV (tCall (spLies P w C) [] E0 (tCons (tVar 6) (tCons (tVar 10) tNil))) (tCall (spLies P w C) [] E0 (tCons (tVar 10) (tCons (tVar 7) tNil))) σ Hy Q' := by
        intro σ Hy Q' xi Xi e6 e7 e10 sy pX okX srX b1 b2 q
        refine ⟨_, e6, _, e10, r1, xi, d, R1, Xi, rfl, p15.same sy, pX.same sy, ok1, okX, c1.srt, fun Hz b sz hb => ⟨b, rfl, ?_⟩⟩
        rw [hb.mpr b1]
        refine ys ⟨_, e10, _, e7, xi, r2, d, Xi, R2, rfl, (pX.same sy).same sz, (p25.same sy).same sz, okX, ok2, srX, fun Hw b' sw hb' => ?_⟩
        rw [hb'.mpr b2]
        exact q _ (Same.trans sz sw)
      have mkAll : Mk P w (fun Hx => Same H5 Hx) id [some (.ref p), some (.int (d : Int)), some (.ref g1), some (.ref g2), some (.ref x1), some (.ref x2), some (.ref r1), some (.ref r2), none, none, none, none] (tLc (iList K (tLst (tCons (tVar 4) (tCons (tVar 5) tNil)))) (gName 10) tYes (tAndV (tCall (spLies P w C) [] E0 (tCons (tVar 6) (tCons (tVar 10) tNil))) (tCall (spLies P w C) [] E0 (tCons (tVar 10) (tCons (tVar 7) tNil)))) [10]) (.list ([true, true].map PyData.bool)) := by
        refine mk_lcRefs (P := P) (w := w) (K := K) (vw := id) (a := .ref x1) (b := .ref x2) Z5 rfl rfl (fun x => rfl) ?b1 ?b2
        case b1 =>
          intro I2 vw2 Z2 back Hy Q' hi q
          obtain ⟨Hq, sq, s'⟩ := back _ hi
          exact go x1 As rfl rfl rfl (Same.trans sq (Same.trans s' Z2.sub)) pa5 okAs srA w1 w3 fun H' s => q _ _ s (Z2.same s hi) rfl
        case b2 =>
          intro I2 vw2 Z2 back Hy Q' hi q
          obtain ⟨Hq, sq, s'⟩ := back _ hi
          exact go x2 Bs rfl rfl rfl (Same.trans sq (Same.trans s' Z2.sub)) pb5 okBs srB w2 w4 fun H' s => q _ _ s (Z2.same s hi) rfl
      refine ifnot_all (P := P) (w := w) (K := K) (vw := id) Z5 mkAll rfl (fun _ _ e => e) fun H6 s6 _ => ?_
      have s56 : Same H5 H6 := s6
      have noL : ∀ g : Addr, ([("own_width", V.int (d : Int)), ("own_goes", V.ref g)] : List (Str × V)).lookup ("least" : Str) = none := fun g => pf_no _ _ (by decide +kernel) (by decide +kernel)
      have one : ∀ {Hx : Hp} (_ : Same H5 Hx) (q1 q2 : Addr) (X Y : List IRow) (rr : Addr) (R : List IRow) (b : Bool) {σ : L2.St} {i4 j4 i6 : Nat} {Q' : Bool → Hp → Prop}, σ[i4]? = some (some (.ref q1)) → σ[j4]? = some (some (.ref q2)) → σ[i6]? = some (some (.ref rr)) → σ[4]? = some (some (.ref x1)) →
          PatAt P w C H5 q1 d X → PatAt P w C H5 q2 d Y → GoesOk d X → GoesOk d Y → (∀ r ∈ X, SRow r) → PatAt P w C H5 rr d R → GoesOk d R → Canon R → ((∀ u, ¬ Bad X Y u) ↔ ∀ u, acc R 0 u ↔ acc As 0 u) → (∀ H', Same Hx H' → Q' false H') →
          tTest (tOp rNe (tCall (spLies P w C) [] E0 (tCons (tVar i4) (tCons (tVar j4) tNil))) (tOp (rOwn2 C (spPEq P w C) E0) (tVar i6) (tMeth C "least" (spPLeast P w C) [] E0 (tVar 4) tNil))) σ Hx Q' := by
        intro Hx sx q1 q2 X Y rr R b σ i4 j4 i6 Q' e1 e2 e3 e4 pX pY okX okY srX pR okR cR hiff kk
        refine ⟨_, e1, _, e2, q1, q2, d, X, Y, rfl, pX.same sx, pY.same sx, okX, okY, srX, fun Hy b sy hb => ?_⟩
        obtain ⟨dx, gx, ex⟩ := insOf ((pa5.same sx).same sy)
        refine ⟨_, e3, _, e4, x1, dx, _, rfl, ex, noL gx, x1, d, As, rfl, (pa5.same sx).same sy, okAs, by omega, fun Hz q Rn sz pq okn cn ln => ?_⟩
        obtain ⟨dr, gr, er⟩ := insOf (((pR.same sx).same sy).same sz)
        obtain ⟨dq, gq, eq⟩ := insOf pq
        refine ⟨rr, q, dr, dq, _, _, rfl, rfl, er, eq, rr, q, d, R, Rn, rfl, ((pR.same sx).same sy).same sz, pq, okR, okn, fun c hc => ⟨rfl, _, rfl, ?_⟩⟩
        have ec : c = b := by
          refine bool_eq (hc.trans (rowsEq_lang okR okn cR cn)) (hb.trans (hiff.trans ?_))
          constructor
          · intro h u
            rw [h u, ln u]
          · intro h u
            rw [h u, ln u]
        rw [ec, decide_eq_true rfl]
        exact kk _ (Same.trans sy sz)
      refine one s56 x1 x2 As Bs r1 R1 true rfl rfl rfl rfl pa5 pb5 okAs okBs srA p15 ok1 c1 ?i1 fun H7 s7 => no ?_
      case i1 =>
        rw [nobad_iff]
        constructor
        · intro h u
          rw [l1 u]
          exact ⟨fun z => z.1, fun z => ⟨z, h u z⟩⟩
        · intro h u z
          exact ((l1 u).mp ((h u).mpr z)).2
      refine one (Same.trans s56 s7) x2 x1 Bs As r2 R2 true rfl rfl rfl rfl pb5 pa5 okBs okAs srB p25 ok2 c2 ?i2 fun H8 s8 => no ?_
      case i2 =>
        rw [nobad_iff]
        constructor
        · intro h u
          rw [l2 u]
          exact ⟨fun z => z.elim id (h u), .inl⟩
        · intro h u z
          exact (h u).mp ((l2 u).mpr (.inr z))
      have s58 : Same H5 H8 := Same.trans s56 (Same.trans s7 s8)
      have rdW : ∀ {σ : L2.St} {Hx : Hp} {Q' : VK}, σ[1]? = some (some (.int (d : Int))) → (∀ H' a as, Same Hx H' → H' a = some (.lst (as.map V.ref)) → WordsA d 3 H' as → as.length ≤ 1000 → Q' (.ref a) H') →
          tCall spLWords [] E0 (tCons (tVar 1) (tCons (tIf (tTest (tOp (rI0 fun i j => .bl (decide (i < j))) (tVar 1) (tC (.int 2)))) (tC (.int 3)) (tC (.int 2))) tNil)) σ Hx Q' := fun {σ Hx Q'} e1 kk =>
        ⟨_, e1, _, e1, _, _, rfl, rfl, _, rfl, ite2 (fun _ => ⟨d, 3, rfl, hd, by decide, fun H' a as s _ h1 h2 h3 => kk H' a as s h1 h2 h3⟩) (fun _ => ⟨d, 2, rfl, hd, by decide, fun H' a as s _ h1 h2 h3 => kk H' a as s h1 h2 h3⟩)⟩
      refine rdW rfl fun H9 a as s9 ha hws has => ⟨a, rfl, ⟨_, SqL.of ha⟩, ?_⟩
      have s59 : Same H5 H9 := Same.trans s58 s9
      refine for_it (n := as.length) (fun i σ Hx => Same H9 Hx ∧ ∃ y8 y9, σ = [some (.ref p), some (.int d), some (.ref g1), some (.ref g2), some (.ref x1), some (.ref x2), some (.ref r1), some (.ref r2), y8, y9, none, none]) ⟨fun _ _ e => e, none, none, rfl⟩ (fun i σ Hx hi pi => ?_) (fun σ Hx pi => ?_) (fun i σ Hx x Hy hi pi y => ?_) fun σ Hx pi => ?_
      · exact ⟨_, (as.map V.ref)[i]'(by rw [List.length_map]; exact hi), SqL.of (pi.1 _ _ ha), List.getElem?_eq_getElem _⟩
      · exact ⟨_, SqL.of (pi.1 _ _ ha), by rw [List.length_map]; exact Nat.le_refl _⟩
      · obtain ⟨q1, y8, y9, rfl⟩ := pi
        obtain ⟨rfl, f⟩ := y
        have hx := f _ (SqL.of (q1 _ _ ha))
        rw [List.getElem?_map] at hx
        obtain ⟨b, hb0, rfl⟩ := Option.map_eq_some_iff.mp hx
        obtain ⟨u, hu, hlw, hul⟩ := hws b (List.mem_of_getElem? hb0)
        have hux := hu.same q1
        have s5x : Same H5 Hy := Same.trans s59 q1
        have Zx : Vw (fun Hx => Same Hy Hx) id := vw_id fun s h => Same.trans h s
        have led : ∀ {g : Addr} {R : List IRow} {σ1 : L2.St} {Hz : Hp} {Q' : VK}, GoesA P w H5 g R → GoesOk d R → Same H5 Hz → WordA Hz b u → σ1[11]? = some (some (.ref g)) → σ1[8]? = some (some (.ref b)) → Q' (.bl (runR R 0 u).isSome) Hz →
            tNotN (tCall (spLLed P w) [] E0 (tCons (tVar 11) (tCons (tC (.int 0)) (tCons (tVar 8) tNil)))) σ1 Hz Q' := by
          intro g R σ1 Hz Q' hg okR sz hw e11 e8 q
          refine ⟨_, e11, _, e8, g, b, d, R, u, rfl, hg.same sz, okR, hw, ?_⟩
          have e : (!decide (oV (runR R 0 u) = V.non)) = (runR R 0 u).isSome := by
            cases runR R 0 u <;> rfl
          show Q' (.bl (!decide (oV (runR R 0 u) = V.non))) Hz
          rw [e]
          exact q
        have mkHeld : Mk P w (fun Hx => Same Hy Hx) id [some (.ref p), some (.int (d : Int)), some (.ref g1), some (.ref g2), some (.ref x1), some (.ref x2), some (.ref r1), some (.ref r2), some (.ref b), y9, none, none] (tLc (iList K (tLst (tCons (tVar 2) (tCons (tVar 3) tNil)))) (gName 11) tYes (tNotN (tCall (spLLed P w) [] E0 (tCons (tVar 11) (tCons (tC (.int 0)) (tCons (tVar 8) tNil))))) [11]) (.list ([(runR A 0 u).isSome, (runR B' 0 u).isSome].map PyData.bool)) := by
          refine mk_lcRefs (P := P) (w := w) (K := K) (vw := id) (a := .ref g1) (b := .ref g2) Zx rfl rfl (fun x => rfl) ?b1 ?b2
          case b1 =>
            intro I2 vw2 Z2 back Hz Q' hi q
            obtain ⟨Hq, sq, s'⟩ := back _ hi
            have sz := Same.trans sq (Same.trans s' Z2.sub)
            exact led ga5 okA (Same.trans s5x sz) (hux.same sz) rfl rfl (q _ _ (fun _ _ e => e) hi rfl)
          case b2 =>
            intro I2 vw2 Z2 back Hz Q' hi q
            obtain ⟨Hq, sq, s'⟩ := back _ hi
            have sz := Same.trans sq (Same.trans s' Z2.sub)
            exact led gb5 okB (Same.trans s5x sz) (hux.same sz) rfl rfl (q _ _ (fun _ _ e => e) hi rfl)
        refine asg_mk (P := P) (w := w) (vw := id) mkHeld (fun _ _ e => e) fun H10 v9 s10 _ hv9 => ?_
        obtain ⟨D9, xs9, rfl, hD9, hxs9⟩ := hv9
        have exs9 := drs_bools hxs9
        subst exs9
        have s510 : Same H5 H10 := Same.trans s5x s10
        obtain ⟨d1, gg1, e1⟩ := insOf (p15.same s510)
        have hu10 := hux.same s10
        have m1 : (runR R1 0 u).isSome = ((runR A 0 u).isSome && (runR B' 0 u).isSome) := by
          have z := l1 u
          rw [acc_sorted hsA okA, acc_sorted hsB okB] at z
          rw [Bool.eq_iff_iff, Bool.and_eq_true]
          exact z
        have m2 : (runR R2 0 u).isSome = ((runR A 0 u).isSome || (runR B' 0 u).isSome) := by
          have z := l2 u
          rw [acc_sorted hsA okA, acc_sorted hsB okB] at z
          rw [Bool.eq_iff_iff, Bool.or_eq_true]
          exact z
        refine ⟨_, rfl, _, rfl, r1, d1, _, rfl, e1, r1, b, d, R1, u, rfl, p15.same s510, ok1, hu10, hlw, by omega, by omega, fun H11 s11 => ⟨_, rfl, _, rfl, D9, [(runR A 0 u).isSome, (runR B' 0 u).isSome], rfl, SqL.of (s11 _ _ hD9), rfl, _, rfl, ?_⟩⟩
        rw [show ([(runR A 0 u).isSome, (runR B' 0 u).isSome].all id) = (runR R1 0 u).isSome by rw [m1]; simp, decide_eq_true rfl]
        refine no ?_
        obtain ⟨d2, gg2, e2⟩ := insOf ((p25.same s510).same s11)
        refine ⟨_, rfl, _, rfl, r2, d2, _, rfl, e2, r2, b, d, R2, u, rfl, (p25.same s510).same s11, ok2, hu10.same s11, hlw, by omega, by omega, fun H12 s12 => ⟨_, rfl, _, rfl, D9, [(runR A 0 u).isSome, (runR B' 0 u).isSome], rfl, SqL.of (s12 _ _ (s11 _ _ hD9)), rfl, _, rfl, ?_⟩⟩
        rw [show ([(runR A 0 u).isSome, (runR B' 0 u).isSome].any id) = (runR R2 0 u).isSome by rw [m2]; simp, decide_eq_true rfl]
        exact no ⟨Same.trans q1 (Same.trans s10 (Same.trans s11 s12)), _, _, rfl⟩
      · exact k _ (Same.trans s05 (Same.trans s59 pi.1))
end
end WW


set_option maxHeartbeats 4000000

/-! _law_right -/
namespace WW
open PySem PySem.Spec PyProof.Rows L2
section
variable {P : Program} {w : World} {K : PySem.W.Frag} {mg : Str → Option Value} {base : Heap}
abbrev sRight : Stmt := top 59
abbrev nRight : List Str := ["_law_pot_here", "_law_width", "_law_mine", "_law_its", "_law_row", "_law_more", "_law_letter"]
theorem sc59 : FnScope nRight ["_law_pot_here"] (defScope sRight) := ⟨rfl, rfl, rfl, by decide +kernel, rfl, by decide +kernel, by decide +kernel⟩
def spRight : Sp := fun vs H Q _ => ∃ p : Addr, vs = [.ref p] ∧ PotAt H p ∧ ∀ H', SamX p H H' → Q (.bl true) H'
theorem ok_right (B : Blt mg) (D0 : Dn K mg "_law_draw" sDraw ["_law_pot_here", "_law_size"]) (G0 : FnOk P w K mg base CX0 1 D0.f D0.fd ["_law_pot_here", "_law_size"] spDraw)
    (D1 : Dn K mg "_law_letters" sLetters ["_law_width"]) (G1 : FnOk P w K mg base CX0 1 D1.f D1.fd ["_law_width"] spLetters)
    (D2 : Dn K mg "_law_pick" sPick ["_law_pot_here", "_law_some"]) (G2 : FnOk P w K mg base CX0 2 D2.f D2.fd ["_law_pot_here", "_law_some"] spPick)
    (D3 : Dn K mg "_law_goes" sLGoes ["_law_pot_here", "_law_width", "_law_most", "_law_often"]) (G3 : FnOk P w K mg base CX0 2 D3.f D3.fd ["_law_pot_here", "_law_width", "_law_most", "_law_often"] (spLGoes P w))
    (D4 : Dn K mg "_law_two_right" sTwo pTwo) (G4 : GnOk Idle P w K mg base 10 D4.f D4.fd pTwo (spTwo P w))
    (D5 : Dn K mg "_law_between_right" sBet pBet) (G5 : FnOk P w K mg base CX0 10 D5.f D5.fd pBet (spBet P w))
    (D : Dn K mg "_law_right" sRight ["_law_pot_here"]) : GnOk Idle P w K mg base 11 D.f D.fd ["_law_pot_here"] (spRight) := by
  refine gn_fun D.F sc59 (fun vs H Q E h => ?_) (fun cdv A0 outer s H vs Q E gi hr h => ?_)
  · obtain ⟨p, rfl, _⟩ := h
    rfl
  · obtain ⟨p, rfl, hp, k⟩ := h
    have gi2 : (A0.deeper (envOfC "_law_right" (defScope sRight) s.heap.objs.size D.f cdv)).guards = some [] := gi
    refine ⟨_, pss_cons (ps_set (i := 1) sc59.nd rfl (.inl rfl) (pe_call G2 (hr.mono (by decide)) (by rfl) D2.g D2.F.kp D2.b .nil pass0 (pa_cons (pv 0) (pa_cons (pe_lst (pa_cons pe_int (pa_cons pe_int (pa_cons pe_int (pa_cons pe_int pa_nil))))) pa_nil))))
      (pss_cons (ps_asg (pe_tup (pa_cons (pe_call G3 (hr.mono (by decide)) (by rfl) D3.g D3.F.kp D3.b .nil pass0 (pa_cons (pv 0) (pa_cons (pv 1) (pa_cons pe_int (pa_cons pe_int pa_nil)))))
          (pa_cons (pe_call G3 (hr.mono (by decide)) (by rfl) D3.g D3.F.kp D3.b .nil pass0 (pa_cons (pv 0) (pa_cons (pv 1) (pa_cons pe_int (pa_cons (pe_call G2 (hr.mono (by decide)) (by rfl) D2.g D2.F.kp D2.b .nil pass0 (pa_cons (pv 0) (pa_cons (pe_lst (pa_cons pe_int (pa_cons pe_int pa_nil))) pa_nil))) pa_nil))))) pa_nil)))
        (pg_tup rfl (pgs_cons (pg_name (i := 2) sc59.nd rfl (.inr rfl)) (pgs_cons (pg_name (i := 3) sc59.nd rfl (.inl rfl)) pgs_nil))))
      (pss_cons (ps_if (pt_cmpR op_eq (pe_call G0 (hr.mono (by decide)) (by rfl) D0.g D0.F.kp D0.b .nil pass0 (pa_cons (pv 0) (pa_cons pe_int pa_nil))) pe_int (nomark _))
        (pss_cons (ps_set (i := 3) sc59.nd rfl (.inl rfl) (pe_lst pa_nil))
        (pss_one (ps_for PassesOwn.never rfl (pi_list (pv 2)) (pg_name (i := 4) sc59.nd rfl (.inr rfl))
          (pss_cons (ps_setLc (i := 5) (own := [("_law_letter", 6)]) (g := gName 6) (tt := tAnd (tB (tXIn P w true (tVar 6) (tVar 4))) (tTest (tOp (rI0 fun i j => .bl (decide (j < i))) (tCall spDraw [] E0 (tCons (tVar 0) (tCons (tC (.int 3)) tNil))) (tC (.int 0))))) (by rfl) sc59.nd rfl rfl (sw_true rfl rfl rfl (by decide +kernel)) (pi_list (pe_call G1 (hr.mono (by decide)) (by rfl) D1.g D1.F.kp D1.b .nil pass0 (pa_cons (pv 1) pa_nil))) (blkOk_by (own := [("_law_letter", 6)]) (N := nRight) (sc := defScope sRight) (by decide +kernel))
              (fun _ _ _ _ _ => pg_name (i := 6) sc59.nd rfl (Or.inl rfl)) (fun _ _ _ _ _ => pts_one (PW.pt (pw_and (pt_cmp (pc_xnotin (u9 hr) (pv 6) (pv 4))) (pw_and1 (pt_cmpR op_gt (pe_call G0 (hr.mono (by decide)) (by rfl) D0.g D0.F.kp D0.b .nil pass0 (pa_cons (pv 0) (pa_cons pe_int pa_nil))) pe_int (nomark _)))))) (fun _ _ _ _ _ => pv 6))
          (pss_one (ps_expr (pe_bm PySem.F.plainAttrs_list PySem.F.slot_list_append PySem.F.type_list_append mt_append (pv 3) (pa_cons (pe_callTy (call_dictPx rfl (u30 hr)) (by rfl) B.dict (by decide +kernel) (pa_cons
              (pe_op op_cat (pe_listItems rfl (by rfl) B.list (pv 4))
                (pe_lc (own := [("_law_letter", 6)]) (g := gName 6) (tt := tYes) (te := tTup (tCons (tVar 6) (tCons (tCall spDraw [] E0 (tCons (tVar 0) (tCons (tCB (fun xs H Q => ∃ p ys, xs = [.ref p] ∧ (SqL K H p ys ∨ SqT K H p ys) ∧ Q (.int ys.length) H) (tCons (tVar 2) tNil)) tNil))) tNil))) (by rfl) sc59.nd (pi_list (pv 5)) (blkOk_by (own := [("_law_letter", 6)]) (N := nRight) (sc := defScope sRight) (by decide +kernel)) (fun _ _ _ _ _ => pg_name (i := 6) sc59.nd rfl (Or.inl rfl)) (fun _ _ _ _ _ => pts_nil)
                  (fun _ _ _ _ _ => pe_tup (pa_cons (pv 6) (pa_cons (pe_call G0 (hr.mono (by decide)) (by rfl) D0.g D0.F.kp D0.b .nil pass0 (pa_cons (pv 0) (pa_cons (pe_callB call_len_seq (by rfl) B.len PySem.boot_len (pa_cons (pv 2) pa_nil)) pa_nil))) pa_nil))))) pa_nil)) pa_nil)))))))) pss_nil)
      (pss_cons (ps_if (pw_or (pt_not (pt_val (pe_callG G4 gi2 hr (by rfl) D4.g D4.F.kp D4.b pass0 (pa_cons (pv 0) (pa_cons (pv 1) (pa_cons (pv 2) (pa_cons (pv 3) pa_nil)))))))
          (pw_or1 (pt_not (pt_val (pe_callG G4 gi2 hr (by rfl) D4.g D4.F.kp D4.b pass0 (pa_cons (pv 0) (pa_cons (pv 1) (pa_cons (pv 3) (pa_cons (pv 2) pa_nil))))))))).pt (pss_one (ps_ret pe_bl)) pss_nil)
      (pss_one (ps_ret (pe_call G5 hr (by rfl) D5.g D5.F.kp D5.b .nil pass0 (pa_cons (pv 0) (pa_cons (pv 1) (pa_cons (pv 2) (pa_cons (pv 3) pa_nil)))))))))), ?_⟩
    have neP : ∀ {Hx : Hp} {a : Addr}, PotAt Hx p → Hx a = none → a ≠ p := fun {Hx a} hpx ha e => by
      obtain ⟨ys, q⟩ := hpx.lst
      rw [← e, ha] at q
      cases q
    refine ⟨_, rfl, (by show 4 ≤ sizeLine; decide), fun lp hlp => ⟨p, lp, _, rfl, hp.same (same_upd hlp), upd_same, neP hp hlp, (by show 1 ≤ 4; decide), (by show 4 ≤ 1000; decide), fun H2 x s2 hp2 hx => ?_⟩⟩
    have s02 : SamX p H H2 := (SamX.of_same (same_upd hlp)).trans s2
    obtain ⟨d, rfl, hd⟩ : ∃ d : Nat, x = .int (d : Int) ∧ d ≤ 2 := by
      simp only [List.mem_cons, List.not_mem_nil, or_false] at hx
      rcases hx with rfl | rfl | rfl | rfl
      · exact ⟨0, rfl, by decide⟩
      · exact ⟨1, rfl, by decide⟩
      · exact ⟨1, rfl, by decide⟩
      · exact ⟨2, rfl, by decide⟩
    refine ⟨_, rfl, _, rfl, p, d, 4, 2, rfl, hp2, by omega, by decide, by decide, by decide, by decide, fun H3 g1 A s3 hp3 n1 hg1 okA lA => ?_⟩
    have g1p : g1 ≠ p := neP hp2 n1
    refine ⟨_, rfl, _, rfl, _, rfl, le2, fun lq hlq => ⟨p, lq, _, rfl, hp3.same (same_upd hlq), upd_same, neP hp3 hlq, (by show 1 ≤ 2; decide), (by show 2 ≤ 1000; decide), fun H4 y s4 hp4 hy => ?_⟩⟩
    have s34 : SamX p H3 H4 := (SamX.of_same (same_upd hlq)).trans s4
    obtain ⟨often, rfl, ho1, ho2⟩ : ∃ o : Nat, y = .int (o : Int) ∧ 1 ≤ o ∧ o ≤ 1000 := by
      simp only [List.mem_cons, List.not_mem_nil, or_false] at hy
      rcases hy with rfl | rfl
      · exact ⟨3, rfl, by decide, by decide⟩
      · exact ⟨9, rfl, by decide, by decide⟩
    refine ⟨p, d, 4, often, rfl, hp4, by omega, by decide, by decide, ho1, ho2, fun H5 g2 B' s5 hp5 n2 hg2 okB lB => ⟨le2, fun t ht => ?_⟩⟩
    have g2p : g2 ≠ p := neP hp4 n2
    have st := same_upd (o := .tup [.ref g1, .ref g2]) ht
    refine ⟨t, _, rfl, .inl (.inl upd_same), rfl, _, _, rfl, _, _, rfl, rfl, ?_⟩
    obtain ⟨H6, eH6⟩ : ∃ H6, upd H5 t (.tup [.ref g1, .ref g2]) = H6 := ⟨_, rfl⟩
    rw [eH6] at st ⊢
    have hp6 := hp5.same st
    have s36 : SamX p H3 H6 := s34.trans (s5.trans (SamX.of_same st))
    have s06 : SamX p H H6 := (s02.trans s3).trans s36
    have ga6 := s36.goesP hp3 g1p hg1
    have gb6 := hg2.same st
    -- what stands behind the choice
    have rest : ∀ {σ : L2.St} {Hx : Hp} {D : Ends} (gi : Addr) (Bi : List IRow), D.rt = Q → σ[0]? = some (some (.ref p)) → σ[1]? = some (some (.int (d : Int))) → σ[2]? = some (some (.ref g1)) → σ[3]? = some (some (.ref gi)) → SamX p H6 Hx → PotAt Hx p → GoesA P w Hx gi Bi → gi ≠ p → GoesOk d Bi → Bi.length ≤ 4 →
        tSeq (tIfS (tOr (tNot (tB (tCall (spTwo P w) [] E0 (tCons (tVar 0) (tCons (tVar 1) (tCons (tVar 2) (tCons (tVar 3) tNil))))))) (tNot (tB (tCall (spTwo P w) [] E0 (tCons (tVar 0) (tCons (tVar 1) (tCons (tVar 3) (tCons (tVar 2) tNil)))))))) (tRet (tC (.bl false))) tNext)
          (tRet (tCall (spBet P w) [] E0 (tCons (tVar 0) (tCons (tVar 1) (tCons (tVar 2) (tCons (tVar 3) tNil)))))) D σ Hx := by
      intro σ Hx D gi Bi eD e0 e1 e2 e3 sx hpx hgi gip okBi lBi
      have gax := sx.goesP hp6 g1p ga6
      refine ⟨_, e0, _, e1, _, e2, _, e3, p, g1, gi, d, A, Bi, rfl, hpx, gax, hgi, g1p, gip, okA, okBi, hd, lA, lBi, fun Hy sy hpy => ⟨_, rfl, no ?_⟩⟩
      have gay := sy.goesP hpx g1p gax
      have giy := sy.goesP hpx gip hgi
      refine ⟨_, e0, _, e1, _, e3, _, e2, p, gi, g1, d, Bi, A, rfl, hpy, giy, gay, gip, g1p, okBi, okA, hd, lBi, lA, fun Hz sz hpz => ⟨_, rfl, no ?_⟩⟩
      have gaz := sz.goesP hpy g1p gay
      have giz := sz.goesP hpy gip giy
      refine ⟨_, e0, _, e1, _, e2, _, e3, p, g1, gi, d, A, Bi, rfl, gaz, giz, okA, okBi, hd, lA, lBi, fun Hw sw => ?_⟩
      show D.rt (.bl true) Hw
      rw [eD]
      exact k _ (s06.trans (sx.trans (sy.trans (sz.trans (SamX.of_same sw)))))
    refine ⟨_, rfl, p, 2, rfl, hp6, by decide, by decide, fun H7 r s7 hp7 hr' => ⟨rfl, _, rfl, ite2 (fun e => ?_) (fun e => ?_)⟩⟩
    · have ga7 := s7.goesP hp6 g1p ga6
      obtain ⟨L1, hL1, hR1⟩ := id ga7
      have lL1 : L1.length = A.length := Paired.length hR1
      refine ⟨Nat.zero_le _, fun f0 hf0 => ?_⟩
      have sf := same_upd (o := .lst []) hf0
      have hpf : f0 ≠ p := neP hp7 hf0
      refine ⟨_, rfl, g1, rfl, ⟨_, SqL.of (sf _ _ hL1)⟩, ?_⟩
      refine for_it (n := A.length) (fun i σ H' => SamX p H7 H' ∧ PotAt H' p ∧ ∃ L rows x4 x5 x6, σ = [some (.ref p), some (.int d), some (.ref g1), some (.ref f0), x4, x5, x6] ∧ H' f0 = some (.lst (L.map V.ref)) ∧ RowsA P w H' L rows ∧ rows.length = i ∧ ∀ r ∈ rows, RowOk d A.length r)
        ⟨SamX.of_same sf, hp7.same sf, [], [], none, none, none, rfl, upd_same, .nil, rfl, fun _ h => nomatch h⟩ (fun i σ H' hi pi => ?_) (fun σ H' pi => ?_) (fun i σ H' x H2 hi pi y => ?_) fun σ H' pi => ?_
      · exact ⟨_, (L1.map V.ref)[i]'(by rw [List.length_map]; omega), SqL.of (pi.1 _ _ g1p hL1), List.getElem?_eq_getElem _⟩
      · exact ⟨_, SqL.of (pi.1 _ _ g1p hL1), by rw [List.length_map]; omega⟩
      · obtain ⟨sm, hpa, L, rows, x4, x5, x6, rfl, hf, hL, hlr, hok⟩ := pi
        obtain ⟨rfl, fx⟩ := y
        have hx0 := fx _ (SqL.of (sm _ _ g1p hL1))
        rw [List.getElem?_map] at hx0
        obtain ⟨b, hb0, rfl⟩ := Option.map_eq_some_iff.mp hx0
        obtain ⟨r, hr0, hbr7⟩ := paired_get1 hR1 hb0
        have rok := okA.1 r (List.mem_of_getElem? hr0)
        have hbr : RowI P w H2 b r := sm.dxP hp7 hbr7
        refine ⟨_, rfl, d, rfl, by omega, fun H4 la s4 hla hla2 => ?_⟩
        obtain ⟨bs, hb, hbl⟩ := hla2
        have lb : bs.length = (letters d).length := Paired.length hbl
        have l16 : (letters d).length ≤ 16 := len_letters4 (by omega)
        have hp4 := hpa.same s4
        have hbr4 : RowI P w H4 b r := hbr.same s4
        have lap : la ≠ p := neP hpa hla
        refine ⟨la, rfl, ⟨_, SqL.of hb⟩, fun D hD => lc_it (n := (letters d).length) (fun j Hj => SamX p H4 Hj ∧ PotAt Hj p ∧ ∃ cs ls, Hj D = some (.lst (cs.map V.ref)) ∧ LtsA Hj cs ls ∧ ls.Sublist ((letters d).take j) ∧ ∀ l ∈ ls, at1 r l = none) ⟨SamX.of_same (same_upd hD), hp4.same (same_upd hD), [], [], upd_same, .nil, List.nil_sublist _, fun _ h => nomatch h⟩
          (fun j Hj hj pj => ⟨_, (bs.map V.ref)[j]'(by rw [List.length_map]; omega), SqL.of (pj.1 _ _ lap hb), List.getElem?_eq_getElem _⟩) (fun Hj pj => ⟨_, SqL.of (pj.1 _ _ lap hb), by rw [List.length_map]; omega⟩) (fun j Hj x H5 hj pj y => ?_) fun Hj pj => ?_⟩
        · obtain ⟨rfl, f⟩ := y
          obtain ⟨s5, hp5, cs, ls, hc, hcs, hsub, hout⟩ := pj
          have hx := f _ (SqL.of (s5 _ _ lap hb))
          rw [List.getElem?_map] at hx
          obtain ⟨b1, hb1, rfl⟩ := Option.map_eq_some_iff.mp hx
          obtain ⟨l, hl0, hbl0⟩ := hbl.get2 hb1
          have Dp : D ≠ p := neP hp4 hD
          have lcs : cs.length ≤ 16 := by
            have h1 := Paired.length hcs
            have h2 := hsub.length_le
            rw [List.length_take] at h2
            omega
          have hbl5 := s5.tupsP hp4 _ _ hbl0
          have hbr5 : DX P w .t H5 b (rowKv r) := s5.dxP hp4 hbr4
          refine ⟨rfl, ?_⟩
          refine ⟨_, rfl, _, rfl, b, .t, _, lk l, rfl, hbr5, keyV_lk.mpr ⟨b1, rfl, hbl5⟩, _, rfl, ite2 (fun e => ?_) (fun _ => ?_)⟩
          · have e : (!(valV (rowKv r) (lk l)).isSome) = true := e
            rw [rowKv_val] at e
            have eo : at1 r l = none := by
              cases q : at1 r l with
              | none => rfl
              | some z => rw [q] at e; cases e
            refine ⟨_, rfl, p, 3, rfl, hp5, by decide, by decide, fun H6 v s6 hp6 hv => ⟨_, _, rfl, rfl, _, rfl, ite2 (fun _ => ?_) (fun _ => ?_)⟩⟩
            · have c6 := s6 _ _ Dp hc
              have tu : Tups H6 (upd H6 D (.lst (cs.map V.ref ++ [.ref b1]))) := SamX.upd.tups (tup_nat c6)
              refine ⟨_, rfl, _, c6, by rw [List.length_map]; exact small1000 (by omega), SamX.put (s5.trans s6) hD, ?_, cs ++ [b1], ls ++ [l], by rw [upd_same, List.map_append]; rfl, ?_, sub_snoc hsub hl0, fun l2 hl2 => ?_⟩
              · obtain ⟨x, y, e, r⟩ := hp6
                exact ⟨x, y, by rw [upd_ne (Ne.symm Dp)]; exact e, r⟩
              · exact Paired.snoc (Paired.mapP (s6.ltsP hp5 hcs) fun _ _ e => tu _ _ e) (tu _ _ (s6.tupsP hp5 _ _ hbl5))
              · rcases List.mem_append.mp hl2 with h2 | h2
                · exact hout l2 h2
                · rw [List.mem_singleton.mp h2]
                  exact eo
            · exact ⟨s5.trans s6, hp6, cs, ls, s6 _ _ Dp hc, s6.ltsP hp5 hcs, sub_skip hsub, hout⟩
          · exact ⟨s5, hp5, cs, ls, hc, hcs, sub_skip hsub, hout⟩
        · obtain ⟨s5, hp5, cs, ls, hc, hcs, hsub, hout⟩ := pj
          rw [List.take_length] at hsub
          have lcs : cs.length = ls.length := Paired.length hcs
          have lls : ls.length ≤ 16 := by have := hsub.length_le; omega
          have lnd : ls.Nodup := hsub.nodup (letters_nodup d)
          have llw : ∀ l ∈ ls, Lw d l := fun l hl => letters_lw (hsub.subset hl)
          have Dp : D ≠ p := neP hp4 hD
          have hfj : Hj f0 = some (.lst (L.map V.ref)) := s5 _ _ hpf (s4 _ _ hf)
          have hbrj : DX P w .t Hj b (rowKv r) := s5.dxP hp4 hbr4
          refine ⟨_, rfl, .inl ⟨rfl, _, SqL.of hfj⟩, ?_⟩
          refine ⟨_, rfl, b, .t, _, rfl, hbrj, fun pI ts1 HI hpI sI hI hI2 => ?_⟩
          have hpI' := hp5.same sI
          have cI := sI _ _ hc
          refine ⟨_, rfl, D, rfl, ⟨_, SqL.of cI⟩, fun E0 hE => lc_it (n := ls.length) (fun j Hk => SamX p HI Hk ∧ PotAt Hk p ∧ ∃ (ts : List Addr) (rr : IRow), Hk E0 = some (.lst (ts.map V.ref)) ∧ rr.map (·.1) = ls.take j ∧ (∀ q ∈ rr, 0 ≤ q.2 ∧ q.2 < (A.length : Int)) ∧ Paired (fun t (q : Ltr × Int) => ∃ b, Hk t = some (.tup [.ref b, .int q.2]) ∧ Hk b = some (.tup (q.1.map V.int))) ts rr)
            ⟨SamX.of_same (same_upd hE), hpI'.same (same_upd hE), [], [], upd_same, rfl, fun _ h => (nomatch h), .nil⟩
            (fun j Hk hj pk => ⟨_, (cs.map V.ref)[j]'(by rw [List.length_map]; omega), SqL.of (pk.1 _ _ Dp cI), List.getElem?_eq_getElem _⟩) (fun Hk pk => ⟨_, SqL.of (pk.1 _ _ Dp cI), by rw [List.length_map]; omega⟩) (fun j Hk x H6 hj pk y => ?_) fun Hk pk => ?_⟩
          · obtain ⟨rfl, f⟩ := y
            obtain ⟨s6, hp6k, ts, rr, he, hk1, hk2, hk3⟩ := pk
            have hx := f _ (SqL.of (s6 _ _ Dp cI))
            rw [List.getElem?_map] at hx
            obtain ⟨b1, hb1, rfl⟩ := Option.map_eq_some_iff.mp hx
            obtain ⟨l, hl0, hbl0⟩ := hcs.get2 hb1
            have Ep : E0 ≠ p := neP hpI' hE
            have ltr : ts.length ≤ 16 := by
              have h1 := Paired.length hk3
              have h2 := congrArg List.length hk1
              rw [List.length_map, List.length_take] at h2
              omega
            have g1k : H6 g1 = some (.lst (L1.map V.ref)) := s6 _ _ g1p (sI _ _ (s5 _ _ g1p (s4 _ _ (sm _ _ g1p hL1))))
            refine ⟨rfl, yes ⟨_, rfl, _, rfl, _, rfl, g1, _, rfl, .inl (SqL.of g1k), p, A.length, by rw [List.length_map, lL1]; rfl, hp6k, okA.2.1, by omega, fun H7' v s7' hp7' hv => ⟨le2, fun t ht => ?_⟩⟩⟩
            have st := same_upd (o := .tup [.ref b1, .int (v : Int)]) ht
            have e7 := s7' _ _ Ep he
            have tu : Tups (upd H7' t (.tup [.ref b1, .int (v : Int)])) (upd (upd H7' t (.tup [.ref b1, .int (v : Int)])) E0 (.lst (ts.map V.ref ++ [.ref t]))) := SamX.upd.tups (tup_nat (st _ _ e7))
            have tt : Tups H6 (upd (upd H7' t (.tup [.ref b1, .int (v : Int)])) E0 (.lst (ts.map V.ref ++ [.ref t]))) := fun c xs e => tu _ _ (st _ _ (s7'.tupsP hp6k _ _ e))
            refine ⟨_, st _ _ e7, by rw [List.length_map]; exact small1000 (by omega), SamX.put ((s6.trans s7').trans (SamX.of_same st)) hE, ?_, ts ++ [t], rr ++ [(l, (v : Int))], by rw [upd_same, List.map_append]; rfl, ?_, ?_, ?_⟩
            · obtain ⟨x, y, e, r⟩ := hp7'
              exact ⟨x, y, by rw [upd_ne (Ne.symm Ep)]; exact st _ _ e, r⟩
            · rw [List.map_append, hk1, List.take_add_one, hl0]
              rfl
            · intro q hq
              rcases List.mem_append.mp hq with hq | hq
              · exact hk2 q hq
              · rw [List.mem_singleton.mp hq]
                show (0 : Int) ≤ (v : Int) ∧ (v : Int) < (A.length : Int)
                omega
            · exact Paired.snoc (Paired.mapP hk3 fun _ _ ⟨c, e1, e2⟩ => ⟨c, tt _ _ e1, tt _ _ e2⟩) ⟨b1, tu _ _ upd_same, tt _ _ (s6.tupsP hpI' _ _ (sI _ _ hbl0))⟩
          · obtain ⟨s6, hp6k, ts, rr, he, hk1, hk2, hk3⟩ := pk
            rw [List.take_length] at hk1
            have neI : pI ≠ p := neP hp5 hpI
            have hIk : Hk pI = some (.lst (ts1.map V.ref)) := s6 _ _ neI hI
            have ltr : ts.length ≤ 16 := by
              have h1 := Paired.length hk3
              have h2 := congrArg List.length hk1
              rw [List.length_map] at h2
              omega
            have lt1 : ts1.length ≤ 16 := by
              have h1 := Paired.length hI2
              rw [rowKv_len] at h1
              have := rok.2.2.2
              omega
            refine ⟨pI, E0, _, _, rfl, rfl, hIk, he, by rw [List.length_map, List.length_map]; exact Nat.le_of_lt (small1000 (by omega)), fun pC hpC => ?_⟩
            have sC := same_upd (o := .lst (ts1.map V.ref ++ ts.map V.ref)) hpC
            have hC : (upd Hk pC (.lst (ts1.map V.ref ++ ts.map V.ref))) pC = some (.lst ((ts1 ++ ts).map V.ref)) := by rw [upd_same, List.map_append]
            obtain ⟨HC, eHC⟩ : ∃ HC, upd Hk pC (.lst (ts1.map V.ref ++ ts.map V.ref)) = HC := ⟨_, rfl⟩
            rw [eHC] at sC hC ⊢
            have tIC : Tups HI HC := fun c xs e => sC _ _ (s6.tupsP hpI' _ _ e)
            have tJC : Tups Hj HC := fun c xs e => tIC _ _ (sI _ _ e)
            have pairs1 : Paired (fun t (q : NestedKey × V) => ∃ b, HC t = some (.tup [.ref b, q.2]) ∧ NV HC q.1 (.ref b) ∧ q.1.depth ≤ 8) ts1 (rowKv r) := by
              have : ∀ {ts1 : List Addr} {r : IRow}, Paired (fun t (e : NestedKey × V) => ∃ y, KeyV .t Hj e.1 y ∧ Hj t = none ∧ HI t = some (.tup [y, e.2])) ts1 (rowKv r) → Paired (fun t (q : NestedKey × V) => ∃ b, HC t = some (.tup [.ref b, q.2]) ∧ NV HC q.1 (.ref b) ∧ q.1.depth ≤ 8) ts1 (rowKv r) := by
                intro ts1 r h
                induction r generalizing ts1 with
                | nil =>
                  cases h
                  exact .nil
                | cons q r ih =>
                  cases h with
                  | cons h t =>
                    obtain ⟨y, e1, _, e2⟩ := h
                    obtain ⟨b2, rfl, e3⟩ := keyV_lk.mp e1
                    exact .cons ⟨b2, tIC _ _ e2, lk_of (tJC _ _ e3), lk_depth _⟩ (ih t)
              exact this hI2
            have pairs2 : Paired (fun t (q : NestedKey × V) => ∃ b, HC t = some (.tup [.ref b, q.2]) ∧ NV HC q.1 (.ref b) ∧ q.1.depth ≤ 8) ts (rowKv rr) := by
              have : ∀ {ts : List Addr} {rr : IRow}, Paired (fun t (q : Ltr × Int) => ∃ b, Hk t = some (.tup [.ref b, .int q.2]) ∧ Hk b = some (.tup (q.1.map V.int))) ts rr → Paired (fun t (q : NestedKey × V) => ∃ b, HC t = some (.tup [.ref b, q.2]) ∧ NV HC q.1 (.ref b) ∧ q.1.depth ≤ 8) ts (rowKv rr) := by
                intro ts rr h
                induction h with
                | nil => exact .nil
                | cons h t ih =>
                  obtain ⟨b, e1, e2⟩ := h
                  exact .cons ⟨b, sC _ _ e1, lk_of (sC _ _ e2), lk_depth _⟩ ih
              exact this hk3
            have glue : ∀ {a1 a2 : List Addr} {k1 k2 : List (NestedKey × V)} {F : Addr → NestedKey × V → Prop}, Paired F a1 k1 → Paired F a2 k2 → Paired F (a1 ++ a2) (k1 ++ k2) := by
              intro a1 a2 k1 k2 F h1 h2
              induction h1 with
              | nil => exact h2
              | cons h t ih => exact .cons h ih
            have ekv : rowKv r ++ rowKv rr = rowKv (r ++ rr) := by
              unfold rowKv
              rw [List.map_append]
            have ndR : ((r ++ rr).map (·.1)).Nodup := by
              rw [List.map_append, hk1, List.nodup_append]
              refine ⟨rok.2.1, lnd, fun x hx y hy e => ?_⟩
              subst e
              exact at1_none.mp (hout x hy) hx
            have rOk : RowOk d A.length (r ++ rr) := by
              refine ⟨fun q hq => ?_, ndR, fun q hq => ?_, ?_⟩
              · rcases List.mem_append.mp hq with hq | hq
                · exact rok.1 q hq
                · exact llw _ (by rw [← hk1]; exact List.mem_map.mpr ⟨q, hq, rfl⟩)
              · rcases List.mem_append.mp hq with hq | hq
                · exact rok.2.2.1 q hq
                · exact hk2 q hq
              · have := letters_few (d := d) (ls := (r ++ rr).map (·.1)) (by omega) ndR fun l hl => by
                  obtain ⟨q, hq, rfl⟩ := List.mem_map.mp hl
                  rcases List.mem_append.mp hq with hq | hq
                  · exact rok.1 q hq
                  · exact llw _ (by rw [← hk1]; exact List.mem_map.mpr ⟨q, hq, rfl⟩)
                rw [List.length_map] at this
                exact this
            have ndk : ((rowKv (r ++ rr)).map (·.1)).Nodup := by
              rw [rowKv_keys]
              exact nodup_map_inj (fun _ _ => lk_inj) ndR
            refine ⟨pC, ts1 ++ ts, rowKv (r ++ rr), rfl, SqL.of hC, by rw [← ekv]; exact glue pairs1 pairs2, ndk, fun a u ha hx => ?_⟩
            have sa := same_upd (o := u) ha
            have fk := sa _ _ (sC _ _ (s6 _ _ hpf (sI _ _ hfj)))
            have lL : L.length = rows.length := Paired.length hL
            refine ⟨f0, _, _, rfl, rfl, fk, by rw [List.length_map]; exact small1000 (by omega), ?_⟩
            have tf : ∀ {b : Addr} {kvs : List (NestedKey × V)}, DX P w .t (upd HC a u) b kvs → DX P w .t (upd (upd HC a u) f0 (.lst (L.map V.ref ++ [.ref a]))) b kvs := fun {b kvs} h => SamX.upd.dx (tup_nat fk) (fun e => by
              obtain ⟨φ, e2⟩ := h.ext
              rw [e, fk] at e2
              cases e2) h
            have sAll : SamX p H7 (upd HC a u) := (sm.trans (SamX.of_same s4)).trans (s5.trans ((SamX.of_same sI).trans (s6.trans ((SamX.of_same sC).trans (SamX.of_same sa)))))
            refine ⟨SamX.put sAll hf0, ?_, L ++ [a], rows ++ [r ++ rr], _, _, _, rfl, by rw [upd_same, List.map_append]; rfl, ?_, by rw [List.length_append]; simp; omega, fun r' hr' => ?_⟩
            · obtain ⟨x, y, e, r⟩ := hp6k
              exact ⟨x, y, by rw [upd_ne (Ne.symm hpf)]; exact sa _ _ (sC _ _ e), r⟩
            · exact Paired.snoc (Paired.mapP ((((s6.rowsP hpI' (((s5.rowsP hp4 (hL.same s4))).same sI)).same sC)).same sa) fun _ _ h => tf h) (tf hx)
            · rcases List.mem_append.mp hr' with hr' | hr'
              · exact hok r' hr'
              · rw [List.mem_singleton.mp hr']
                exact rOk
      · obtain ⟨sm, hpa, L, rows, x4, x5, x6, rfl, hf, hL, hlr, hok⟩ := pi
        exact rest f0 rows rfl rfl rfl rfl rfl (s7.trans sm) hpa ⟨L, hf, hL⟩ hpf ⟨fun r hr => by rw [hlr]; exact hok r hr, by rw [hlr]; exact okA.2.1, by omega⟩ (by omega)
    · exact rest g2 B' rfl rfl rfl rfl rfl s7 hp7 (s7.goesP hp6 g2p gb6) g2p okB lB
end
end WW


set_option maxHeartbeats 2000000

/-! the law's call, no repr being under way -/
namespace WW
open PySem PySem.Spec PyProof.Rows L2
theorem lawG {P : Program} {w : World} {K : PySem.W.Frag} {mg mb : Str → Option Value} {k : Nat} {fa a : Addr} {fd : FuncData} {x : Str} {sp : Sp} {s1 : Shared} {vs : List Value} {ns : List Int}
    (KX : K.In s1.heap) (hns : s1.heap.Ns mainGlobals mg) (hb : s1.heap.Ns builtinsNs mb) (hbb : ∀ y : Str, y ≠ "__name__" → mb y = bootBuiltins y) (hlim : s1.heap.NoLimit) (hsys : ∃ ms, s1.heap.Ns sysModules ms) (hg : s1.gens = #[])
    (ha : s1.heap.get? a = some { cls := .type "list", data := .seq vs.toArray }) (hi : IntsAre vs ns) (hl : ns.length ≤ sizeLine) (hr : Room k callerA)
    (F : ∀ base : Heap, K.In base → base.Ns mainGlobals mg → SysOk base → GnOk Idle P w K mg base k fa fd [x] sp) (hbind : ∀ (s : Shared) (u : Value), BindsTo s fd ⟨[u], []⟩ [(x, u)])
    (hsp : ∀ H : Hp, Only H → SqL K H a (ns.map V.int) → sp [.ref a] H (fun v _ => v = .bl true) fun _ _ _ => False) :
    codeAny (model P w) callerA (.call (.ref fa) ⟨[.ref a], []⟩) (fun r s' => r = .ok (.ret (.bool true)) ∧ OldK s1.heap s'.heap ∧ s'.os = s1.os ∧ AllBare s'.gens) s1 := by
  have main : ∀ H : Hp, Only H → SqL K H a (ns.map V.int) → HOk P w H s1.heap → (∀ b u, H b = some u → b = a ∧ K.lookup b = none) →
      codeAny (model P w) callerA (.call (.ref fa) ⟨[.ref a], []⟩) (fun r s' => r = .ok (.ret (.bool true)) ∧ OldK s1.heap s'.heap ∧ s'.os = s1.os ∧ AllBare s'.gens) s1 := by
    intro H hO hS hok hA
    have seen : ∀ {b : Addr} {o : Obj}, s1.heap.get? b = some o → (b = a → False) → (hidT s1.heap H).get? b = some o := fun {b o} e n => hidT_get e (by
      rcases q : H b with _ | u
      · rfl
      · exact (n (hA b u q).1).elim)
    have ns' : ∀ {b : Addr} {m : Str → Option Value}, s1.heap.Ns b m → (hidT s1.heap H).Ns b m := fun {b m} ⟨o, es, ep, e, d, r⟩ => ⟨o, es, ep, seen e (fun z => by
      subst z
      rw [ha] at e
      cases e
      cases d), d, r⟩
    have kin : K.In (hidT s1.heap H) := fun b o e => hidT_get (KX b o e) (by
      rcases q : H b with _ | u
      · rfl
      · have z := (hA b u q).2
        rw [e] at z
        cases z)
    have sysk : SysOk (hidT s1.heap H) := by
      obtain ⟨ms, z⟩ := hsys
      obtain ⟨o, es, ep, e, d, _⟩ := ns' z
      exact ⟨o, es, ep, e, d⟩
    have md : Mod K mg (hidT s1.heap H) := by
      obtain ⟨mc, l1, l2⟩ := hlim
      exact ⟨kin, ns' hns, ⟨mb, ns' hb, hbb⟩, mc, ns' l1, l2⟩
    have env : Env0 P w K mg (hidT s1.heap H) callerA [] s1 H := by
      refine ⟨rfl, md, fun b o e => of_hidT e, Nat.le_of_eq (hidT_size _ _), trivial, fun b z => ?_, hok, .of_eq hg⟩
      exact nomatch (show b ∈ ([] : List Addr) from z)
    have G := F _ kin (ns' hns) sysk
    refine codeAny_mono (G.run callerA [] s1 H ⟨[.ref a], []⟩ [.ref a] [.ref a] _ _ rfl hr env (hbind s1 (.ref a)) (.cons rfl .nil) (hsp H hO hS)) fun res s2 hz => ?_
    rcases res with e | fl
    · exact (show False from hz).elim
    · rcases fl with _ | _ | _ | u
      · exact (show False from hz).elim
      · exact (show False from hz).elim
      · exact (show False from hz).elim
      · obtain ⟨v, H2, os, bare, un, ok2, rv, q⟩ := hz
        have q : v = .bl true := q
        cases q
        cases (show u = Value.bool true from rv)
        refine ⟨rfl, .of_keep fun b o e => ?_, os, bare⟩
        rcases q : H b with _ | u
        · exact un.keep b o e q (fun z => nomatch (show b ∈ ([] : List Addr) from z)) (fun z => nomatch z)
        · rcases hO b with z | ⟨ob, xs, z⟩
          · rw [q] at z
            cases z
          · have e1 := (hok b _ z).1
            have e2 := (ok2 b _ (un.frzs b ob _ z)).1
            rw [e] at e1
            cases e1
            exact e2
  have rv := vals_ints hi
  rcases hk : K.lookup a with _ | o
  · have at0 : ∀ {b : Addr} {u : HO}, (if b = a then some (HO.frz { cls := .type "list", data := .seq vs.toArray } (.lst (ns.map V.int))) else none) = some u → b = a ∧ u = HO.frz { cls := .type "list", data := .seq vs.toArray } (.lst (ns.map V.int)) := fun {b u} z => by
      by_cases q : b = a
      · rw [if_pos q] at z
        exact ⟨q, (Option.some.inj z).symm⟩
      · rw [if_neg q] at z
        cases z
    refine main (fun b => if b = a then some (.frz { cls := .type "list", data := .seq vs.toArray } (.lst (ns.map V.int))) else none) (fun b => ?_) (.inl (.inr ⟨_, if_pos rfl⟩)) (fun b u z => ?_) fun b u z => ?_
    · by_cases q : b = a
      · exact .inr ⟨_, _, if_pos q⟩
      · exact .inl (if_neg q)
    · obtain ⟨rfl, rfl⟩ := at0 z
      exact ⟨ha, by rw [List.length_map]; exact hl, vs, _, rv, ha⟩
    · obtain ⟨rfl, _⟩ := at0 z
      exact ⟨rfl, hk⟩
  · have e := KX a o hk
    rw [ha] at e
    cases e
    refine main (fun _ => none) (fun _ => .inl rfl) (.inr ⟨_, vs.toArray, _, hk, rfl, rfl, rfl, ?_, by simpa using rv⟩) (fun b u z => nomatch z) fun b u z => nomatch z
    rw [List.size_toArray, hi.length]
    exact hl
theorem walkG {l : PySem.W.OpenLaw} {n k : Nat} {q : Program} {loose : List Str} {XP : (Str → Option Value) → Heap → Prop} {YP : World → Heap → Prop} {d : DefRec} {K : Params → PySem.W.Frag} {sp : World → Sp} {x : Str}
    (hn : l.most = some n) (hn2 : n ≤ sizeLine) (hdf : d.params.defaults = []) (hr : Room k callerA) (hq : importsNone q = true)
    (hY : ∀ (w : World) (h : Heap), YP w h → (K w.params).In h)
    (F : ∀ (w : World) (mg : Str → Option Value) (fa : Addr) (h : Heap), (K w.params).In h → h.Ns mainGlobals mg → mg d.name = some (.ref fa) →
      ∃ fd : FuncData, (∀ (s : Shared) (u : Value), BindsTo s fd ⟨[u], []⟩ [(x, u)]) ∧
        ∀ base : Heap, (K w.params).In base → base.Ns mainGlobals mg → SysOk base → GnOk Idle l.prog w (K w.params) mg base k fa fd [x] (sp w))
    (hsp : ∀ (w : World) (H : Hp) (a : Addr) (ns : List Int), ns.length ≤ n → Only H → SqL (K w.params) H a (ns.map V.int) → sp w [.ref a] H (fun v _ => v = .bl true) fun _ _ _ => False) :
    PySem.W.WalkO q loose XP YP l.row.toRowW d [] (fun f vs => PySem.call f vs) := by
  refine Att.attach_call hn hdf fun w s0 s1 mg mb fa o pm cd doc a vs ns G Y ho hd hcd hmg hobj hints hlen hg => ?_
  have kin := hY w _ Y
  obtain ⟨fd, hb, hF⟩ := F w mg fa _ kin G.T.g hmg
  have sn := G.T.seer hq
  exact lawG kin G.T.g G.T.b G.T.builtins G.T.nolimit (let ⟨mm, z, _⟩ := sn.mods; ⟨mm, z⟩) hg hobj hints (Nat.le_trans hlen hn2) hr hF hb fun H hO hS => hsp w H a ns hlen hO hS
end WW


set_option maxHeartbeats 4000000

/-! law -/
namespace WW
open PySem PySem.Spec PyProof.Rows L2
section
variable {P : Program} {w : World} {K : PySem.W.Frag} {mg : Str → Option Value} {base : Heap}
abbrev sLaw : Stmt := top 60
theorem sc60 : FnScope ["_law_script", "_law_k"] ["_law_script"] (defScope sLaw) := ⟨rfl, rfl, rfl, by decide +kernel, rfl, by decide +kernel, by decide +kernel⟩
def spLaw (K : PySem.W.Frag) : Sp := fun vs H Q _ => ∃ (a : Addr) (ns : List Int), vs = [.ref a] ∧ SqL K H a (ns.map V.int) ∧ ns.length ≤ 63 ∧ ∀ H', Q (.bl true) H'
theorem ok_law (B : Blt mg) (D0 : Dn K mg "_law_pot" sPot ["_law_script", "_law_k"]) (G0 : FnOk P w K mg base CX0 1 D0.f D0.fd ["_law_script", "_law_k"] (spPot K))
    (D1 : Dn K mg "_law_right" sRight ["_law_pot_here"]) (G1 : GnOk Idle P w K mg base 11 D1.f D1.fd ["_law_pot_here"] spRight)
    (D : Dn K mg "law" sLaw ["_law_script"]) : GnOk Idle P w K mg base 12 D.f D.fd ["_law_script"] (spLaw K) := by
  refine gn_fun D.F sc60 (fun vs H Q E h => ?_) (fun cdv A0 outer s H vs Q E gi hr h => ?_)
  · obtain ⟨a, ns, rfl, _⟩ := h
    rfl
  · obtain ⟨a, ns, rfl, hS, hl, k⟩ := h
    have gi2 : (A0.deeper (envOfC "law" (defScope sLaw) s.heap.objs.size D.f cdv)).guards = some [] := gi
    refine ⟨_, pss_one (ps_ret (pe_callB (cr_all rfl) (by rfl) B.all (by decide +kernel) (pa_cons (pe_lc (own := [("_law_k", 1)]) (g := gName 1) (tt := tYes) (te := tCall spRight [] E0 (tCons (tCall (spPot K) [] E0 (tCons (tVar 0) (tCons (tVar 1) tNil))) tNil)) (by rfl) sc60.nd
        (pi_range1 (by rfl) B.range (pa_cons (pe_callB (call_max2 rfl) (by rfl) B.max (by decide +kernel) (pa_cons pe_int (pa_cons (pe_callB (call_min2 rfl) (by rfl) B.min (by decide +kernel) (pa_cons (pe_callB call_len_seq (by rfl) B.len PySem.boot_len (pa_cons (pv 0) pa_nil)) (pa_cons pe_int pa_nil))) pa_nil))) pa_nil))
        (blkOk_by (own := [("_law_k", 1)]) (N := ["_law_script", "_law_k"]) (sc := defScope sLaw) (by decide +kernel))
        (fun _ _ _ _ _ => pg_name (i := 1) sc60.nd rfl (Or.inl rfl)) (fun _ _ _ _ _ => pts_nil) (fun _ _ _ _ _ => pe_callG G1 gi2 hr (by rfl) D1.g D1.F.kp D1.b pass0 (pa_cons (pe_call G0 (hr.mono (by decide)) (by rfl) D0.g D0.F.kp D0.b .nil pass0 (pa_cons (pv 0) (pa_cons (pv 1) pa_nil))) pa_nil))) pa_nil))), ?_⟩
    refine ⟨_, rfl, a, _, rfl, .inl hS, _, _, rfl, _, _, rfl, ?_⟩
    obtain ⟨m, hm, m0, m2⟩ : ∃ m : Int, (if (if (2 : Int) < ((ns.map V.int).length : Int) then (2 : Int) else ((ns.map V.int).length : Int)) > 1 then (if (2 : Int) < ((ns.map V.int).length : Int) then (2 : Int) else ((ns.map V.int).length : Int)) else 1) = m ∧ 0 ≤ m ∧ m ≤ 2 := by
      refine ⟨_, rfl, ?_, ?_⟩
      · split
        · split <;> omega
        · omega
      · split
        · split <;> omega
        · omega
    rw [hm]
    refine ⟨m, rfl, by omega, by omega, fun D hD => ?_⟩
    refine lc_it (n := m.toNat) (LcF (fun _ => .bl true) H D) (LcF.zero hD) (fun i H' hi p => hi) (fun H' p => Nat.le_refl _) (fun i H' x H2 hi p y => ?_) fun H' p => ?_
    · obtain ⟨rfl, rfl⟩ := y
      refine ⟨rfl, yes ?_⟩
      rw [show (0 : Int) + (i : Int) = (i : Int) by omega]
      refine ⟨_, rfl, _, rfl, a, ns, i, rfl, Same.seq p.1 hS, by omega, fun H3 q s3 hq hpot => ⟨q, rfl, hpot, fun H4 s4 => ?_⟩⟩
      have s24 : Same H2 H4 := fun c o e => s4 c o (fun z => by rw [z, hq] at e; cases e) (s3 _ _ e)
      exact p.step hD (small1000 (by omega)) s24 rfl
    · refine ⟨D, (List.range m.toNat).map fun _ => true, rfl, SqL.of (by rw [p.2, List.map_map]; rfl), ?_⟩
      rw [List.all_eq_true.mpr (by simp)]
      exact k _
end
end WW


set_option maxHeartbeats 8000000

/-! all defs together -/
namespace WW
open PySem PySem.Spec PyProof.Rows L2
theorem all_mk {l : PySem.W.OpenLaw} {w : World} {K : PySem.W.Frag} {h : Heap} {mg : Str → Option Value} {fa C f1 f2 f3 f4 f5 f6 f7 f8 f9 f10 f11 f12 f13 f14 f15 f16 f17 f18 f19 f20 f21 f22 f23 f24 f25 f26 f27 f28 f29 f30 f31 f32 f33 f34 f35 f36 f37 f38 f39 f40 f41 f42 f43 f44 f45 f46 f47 f48 f49 f50 f51 : Addr} {tkW tkP : Tok}
    {od1 an1 od2 an2 od3 an3 od4 an4 od5 an5 od6 an6 od7 an7 od8 an8 od9 an9 od10 an10 od11 an11 od12 an12 od13 an13 od14 an14 od15 an15 od16 an16 od17 an17 od18 an18 od19 an19 od20 an20 od21 an21 od22 an22 od23 an23 od24 an24 od25 an25 od26 an26 od27 an27 od28 an28 od29 an29 od30 an30 od31 an31 od32 an32 od33 an33 od34 an34 od35 an35 od36 an36 od37 an37 od38 an38 od39 an39 od40 an40 od41 an41 od42 an42 od43 an43 od44 an44 od45 an45 od46 an46 od47 an47 od48 an48 od49 an49 od50 an50 od51 an51 : Option Addr} {sl1 sl2 sl3 sl4 sl5 sl6 sl7 sl8 sl9 sl10 sl11 sl12 sl13 sl14 sl15 sl16 sl17 sl18 sl19 sl20 sl21 sl22 sl23 sl24 sl25 sl26 sl27 sl28 sl29 sl30 sl31 sl32 sl33 sl34 sl35 sl36 sl37 sl38 sl39 sl40 sl41 sl42 sl43 sl44 sl45 sl46 sl47 sl48 sl49 sl50 sl51 : Array (Option Value)}
    {oc1 kV1 dc1 pm1 cd1 ct1 oc2 kV2 dc2 pm2 cd2 ct2 oc3 kV3 dc3 pm3 cd3 ct3 oc4 kV4 dc4 pm4 cd4 ct4 oc5 kV5 dc5 pm5 cd5 ct5 oc6 kV6 dc6 pm6 cd6 ct6 oc7 kV7 dc7 pm7 cd7 ct7 oc8 kV8 dc8 pm8 cd8 ct8 oc9 kV9 dc9 pm9 cd9 ct9 oc10 kV10 dc10 pm10 cd10 ct10 oc11 kV11 dc11 pm11 cd11 ct11 oc12 kV12 dc12 pm12 cd12 ct12 oc13 kV13 dc13 pm13 cd13 ct13 oc14 kV14 dc14 pm14 cd14 ct14 oc15 kV15 dc15 pm15 cd15 ct15 oc16 kV16 dc16 pm16 cd16 ct16 oc17 kV17 dc17 pm17 cd17 ct17 oc18 kV18 dc18 pm18 cd18 ct18 oc19 kV19 dc19 pm19 cd19 ct19 oc20 kV20 dc20 pm20 cd20 ct20 oc21 kV21 dc21 pm21 cd21 ct21 oc22 kV22 dc22 pm22 cd22 ct22 oc23 kV23 dc23 pm23 cd23 ct23 oc24 kV24 dc24 pm24 cd24 ct24 oc25 kV25 dc25 pm25 cd25 ct25 oc26 kV26 dc26 pm26 cd26 ct26 oc27 kV27 dc27 pm27 cd27 ct27 oc28 kV28 dc28 pm28 cd28 ct28 oc29 kV29 dc29 pm29 cd29 ct29 oc30 kV30 dc30 pm30 cd30 ct30 oc31 kV31 dc31 pm31 cd31 ct31 oc32 kV32 dc32 pm32 cd32 ct32 oc33 kV33 dc33 pm33 cd33 ct33 oc34 kV34 dc34 pm34 cd34 ct34 oc35 kV35 dc35 pm35 cd35 ct35 oc36 kV36 dc36 pm36 cd36 ct36 oc37 kV37 dc37 pm37 cd37 ct37 oc38 kV38 dc38 pm38 cd38 ct38 oc39 kV39 dc39 pm39 cd39 ct39 oc40 kV40 dc40 pm40 cd40 ct40 oc41 kV41 dc41 pm41 cd41 ct41 oc42 kV42 dc42 pm42 cd42 ct42 oc43 kV43 dc43 pm43 cd43 ct43 oc44 kV44 dc44 pm44 cd44 ct44 oc45 kV45 dc45 pm45 cd45 ct45 oc46 kV46 dc46 pm46 cd46 ct46 oc47 kV47 dc47 pm47 cd47 ct47 oc48 kV48 dc48 pm48 cd48 ct48 oc49 kV49 dc49 pm49 cd49 ct49 oc50 kV50 dc50 pm50 cd50 ct50 oc51 kV51 dc51 pm51 cd51 ct51 : Value}
    (X : K.In h) (G : h.Ns mainGlobals mg) (hfa : mg "law" = some (.ref fa))
    (aC : PySem.W.nsIn K mainGlobals "Pattern" = some (some (.ref C)))
    (mW : PySem.W.nsIn K mainGlobals "WIDEST_PATTERN" = some (some (.int 4 tkW)))
    (mP : PySem.W.nsIn K mainGlobals "MOST_PLACES" = some (some (.int 60 tkP)))
    (pg : PySem.W.plainGet K C Str.empty = true)
    (hd : PySem.W.hasDictIn K C = true)
    (po : PySem.W.plainOver K C = true)
    (sa : PySem.W.findIn K (.ref C) "__setattr__" = some (some (.builtin "object.__setattr__")))
    (nW : PySem.W.findIn K (.ref C) "own_width" = some none)
    (nG : PySem.W.findIn K (.ref C) "own_goes" = some none)
    (hmk : PySem.W.makesIn K C = true)
    (hkp : PySem.W.keepIn K (.ref C) = true)
    (hsf : PySem.W.selfFirst K C = true)
    (ha : PySem.W.findIn K (.ref C) "__class__" = some (some (.builtin "object.__class__")))
    (hn : PySem.W.specialIn K (.builtin "object.__class__") "__get__" = some (some (.builtin "getset_descriptor.__get__")))
    (ht : PySem.W.takesIn K (.builtin "object.__class__") = some true)
    (hm : PySem.W.mroIn K C (.type "object") = some true)
    (a1 : PySem.W.nsIn K mainGlobals "_law_alone" = some (some (.ref f1)))
    (l1 : K.lookup f1 = some ⟨oc1, od1, .func (PySem.W.fnOf "_law_alone" "_law_alone" (defArgs sAlone) (defBody sAlone) (defScope sAlone) .none kV1 dc1 pm1 an1 cd1 ct1), sl1⟩) (c1 : PySem.W.codeIn K cd1 "_law_alone" = true) (k1 : PySem.W.keepIn K (.ref f1) = true)
    (a2 : PySem.W.nsIn K mainGlobals "_law_bent" = some (some (.ref f2)))
    (l2 : K.lookup f2 = some ⟨oc2, od2, .func (PySem.W.fnOf "_law_bent" "_law_bent" (defArgs sBent) (defBody sBent) (defScope sBent) .none kV2 dc2 pm2 an2 cd2 ct2), sl2⟩) (c2 : PySem.W.codeIn K cd2 "_law_bent" = true) (k2 : PySem.W.keepIn K (.ref f2) = true)
    (a3 : PySem.W.nsIn K mainGlobals "_law_between_right" = some (some (.ref f3)))
    (l3 : K.lookup f3 = some ⟨oc3, od3, .func (PySem.W.fnOf "_law_between_right" "_law_between_right" (defArgs sBet) (defBody sBet) (defScope sBet) .none kV3 dc3 pm3 an3 cd3 ct3), sl3⟩) (c3 : PySem.W.codeIn K cd3 "_law_between_right" = true) (k3 : PySem.W.keepIn K (.ref f3) = true)
    (a4 : PySem.W.nsIn K mainGlobals "_law_draw" = some (some (.ref f4)))
    (l4 : K.lookup f4 = some ⟨oc4, od4, .func (PySem.W.fnOf "_law_draw" "_law_draw" (defArgs sDraw) (defBody sDraw) (defScope sDraw) .none kV4 dc4 pm4 an4 cd4 ct4), sl4⟩) (c4 : PySem.W.codeIn K cd4 "_law_draw" = true) (k4 : PySem.W.keepIn K (.ref f4) = true)
    (a5 : PySem.W.nsIn K mainGlobals "_law_goes" = some (some (.ref f5)))
    (l5 : K.lookup f5 = some ⟨oc5, od5, .func (PySem.W.fnOf "_law_goes" "_law_goes" (defArgs sLGoes) (defBody sLGoes) (defScope sLGoes) .none kV5 dc5 pm5 an5 cd5 ct5), sl5⟩) (c5 : PySem.W.codeIn K cd5 "_law_goes" = true) (k5 : PySem.W.keepIn K (.ref f5) = true)
    (a6 : PySem.W.nsIn K mainGlobals "_law_is_pair" = some (some (.ref f6)))
    (l6 : K.lookup f6 = some ⟨oc6, od6, .func (PySem.W.fnOf "_law_is_pair" "_law_is_pair" (defArgs sLPair) (defBody sLPair) (defScope sLPair) .none kV6 dc6 pm6 an6 cd6 ct6), sl6⟩) (c6 : PySem.W.codeIn K cd6 "_law_is_pair" = true) (k6 : PySem.W.keepIn K (.ref f6) = true)
    (a7 : PySem.W.nsIn K mainGlobals "_law_is_place" = some (some (.ref f7)))
    (l7 : K.lookup f7 = some ⟨oc7, od7, .func (PySem.W.fnOf "_law_is_place" "_law_is_place" (defArgs sLPlace) (defBody sLPlace) (defScope sLPlace) .none kV7 dc7 pm7 an7 cd7 ct7), sl7⟩) (c7 : PySem.W.codeIn K cd7 "_law_is_place" = true) (k7 : PySem.W.keepIn K (.ref f7) = true)
    (a8 : PySem.W.nsIn K mainGlobals "_law_is_table" = some (some (.ref f8)))
    (l8 : K.lookup f8 = some ⟨oc8, od8, .func (PySem.W.fnOf "_law_is_table" "_law_is_table" (defArgs sLTab) (defBody sLTab) (defScope sLTab) .none kV8 dc8 pm8 an8 cd8 ct8), sl8⟩) (c8 : PySem.W.codeIn K cd8 "_law_is_table" = true) (k8 : PySem.W.keepIn K (.ref f8) = true)
    (a9 : PySem.W.nsIn K mainGlobals "_law_led" = some (some (.ref f9)))
    (l9 : K.lookup f9 = some ⟨oc9, od9, .func (PySem.W.fnOf "_law_led" "_law_led" (defArgs sLLed) (defBody sLLed) (defScope sLLed) .none kV9 dc9 pm9 an9 cd9 ct9), sl9⟩) (c9 : PySem.W.codeIn K cd9 "_law_led" = true) (k9 : PySem.W.keepIn K (.ref f9) = true)
    (a10 : PySem.W.nsIn K mainGlobals "_law_letters" = some (some (.ref f10)))
    (l10 : K.lookup f10 = some ⟨oc10, od10, .func (PySem.W.fnOf "_law_letters" "_law_letters" (defArgs sLetters) (defBody sLetters) (defScope sLetters) .none kV10 dc10 pm10 an10 cd10 ct10), sl10⟩) (c10 : PySem.W.codeIn K cd10 "_law_letters" = true) (k10 : PySem.W.keepIn K (.ref f10) = true)
    (a11 : PySem.W.nsIn K mainGlobals "_law_pairs" = some (some (.ref f11)))
    (l11 : K.lookup f11 = some ⟨oc11, od11, .func (PySem.W.fnOf "_law_pairs" "_law_pairs" (defArgs sLPairs) (defBody sLPairs) (defScope sLPairs) .none kV11 dc11 pm11 an11 cd11 ct11), sl11⟩) (c11 : PySem.W.codeIn K cd11 "_law_pairs" = true) (k11 : PySem.W.keepIn K (.ref f11) = true)
    (a12 : PySem.W.nsIn K mainGlobals "_law_pick" = some (some (.ref f12)))
    (l12 : K.lookup f12 = some ⟨oc12, od12, .func (PySem.W.fnOf "_law_pick" "_law_pick" (defArgs sPick) (defBody sPick) (defScope sPick) .none kV12 dc12 pm12 an12 cd12 ct12), sl12⟩) (c12 : PySem.W.codeIn K cd12 "_law_pick" = true) (k12 : PySem.W.keepIn K (.ref f12) = true)
    (a13 : PySem.W.nsIn K mainGlobals "_law_pot" = some (some (.ref f13)))
    (l13 : K.lookup f13 = some ⟨oc13, od13, .func (PySem.W.fnOf "_law_pot" "_law_pot" (defArgs sPot) (defBody sPot) (defScope sPot) .none kV13 dc13 pm13 an13 cd13 ct13), sl13⟩) (c13 : PySem.W.codeIn K cd13 "_law_pot" = true) (k13 : PySem.W.keepIn K (.ref f13) = true)
    (a14 : PySem.W.nsIn K mainGlobals "_law_right" = some (some (.ref f14)))
    (l14 : K.lookup f14 = some ⟨oc14, od14, .func (PySem.W.fnOf "_law_right" "_law_right" (defArgs sRight) (defBody sRight) (defScope sRight) .none kV14 dc14 pm14 an14 cd14 ct14), sl14⟩) (c14 : PySem.W.codeIn K cd14 "_law_right" = true) (k14 : PySem.W.keepIn K (.ref f14) = true)
    (a15 : PySem.W.nsIn K mainGlobals "_law_two_right" = some (some (.ref f15)))
    (l15 : K.lookup f15 = some ⟨oc15, od15, .func (PySem.W.fnOf "_law_two_right" "_law_two_right" (defArgs sTwo) (defBody sTwo) (defScope sTwo) .none kV15 dc15 pm15 an15 cd15 ct15), sl15⟩) (c15 : PySem.W.codeIn K cd15 "_law_two_right" = true) (k15 : PySem.W.keepIn K (.ref f15) = true)
    (a16 : PySem.W.nsIn K mainGlobals "_law_words" = some (some (.ref f16)))
    (l16 : K.lookup f16 = some ⟨oc16, od16, .func (PySem.W.fnOf "_law_words" "_law_words" (defArgs sLWords) (defBody sLWords) (defScope sLWords) .none kV16 dc16 pm16 an16 cd16 ct16), sl16⟩) (c16 : PySem.W.codeIn K cd16 "_law_words" = true) (k16 : PySem.W.keepIn K (.ref f16) = true)
    (a17 : PySem.W.nsIn K mainGlobals "are_unlike" = some (some (.ref f17)))
    (l17 : K.lookup f17 = some ⟨oc17, od17, .func (PySem.W.fnOf "are_unlike" "are_unlike" (defArgs sUnlike) (defBody sUnlike) (defScope sUnlike) .none kV17 dc17 pm17 an17 cd17 ct17), sl17⟩) (c17 : PySem.W.codeIn K cd17 "are_unlike" = true) (k17 : PySem.W.keepIn K (.ref f17) = true)
    (a18 : PySem.W.nsIn K mainGlobals "classes_by" = some (some (.ref f18)))
    (l18 : K.lookup f18 = some ⟨oc18, od18, .func (PySem.W.fnOf "classes_by" "classes_by" (defArgs sClasses) (defBody sClasses) (defScope sClasses) .none kV18 dc18 pm18 an18 cd18 ct18), sl18⟩) (c18 : PySem.W.codeIn K cd18 "classes_by" = true) (k18 : PySem.W.keepIn K (.ref f18) = true)
    (a19 : PySem.W.nsIn K mainGlobals "fit_alike" = some (some (.ref f19)))
    (l19 : K.lookup f19 = some ⟨oc19, od19, .func (PySem.W.fnOf "fit_alike" "fit_alike" (defArgs sFit) (defBody sFit) (defScope sFit) .none kV19 dc19 pm19 an19 cd19 ct19), sl19⟩) (c19 : PySem.W.codeIn K cd19 "fit_alike" = true) (k19 : PySem.W.keepIn K (.ref f19) = true)
    (a20 : PySem.W.nsIn K mainGlobals "fit_classes" = some (some (.ref f20)))
    (l20 : K.lookup f20 = some ⟨oc20, od20, .func (PySem.W.fnOf "fit_classes" "fit_classes" (defArgs sFitC) (defBody sFitC) (defScope sFitC) .none kV20 dc20 pm20 an20 cd20 ct20), sl20⟩) (c20 : PySem.W.codeIn K cd20 "fit_classes" = true) (k20 : PySem.W.keepIn K (.ref f20) = true)
    (a21 : PySem.W.nsIn K mainGlobals "goes_within" = some (some (.ref f21)))
    (l21 : K.lookup f21 = some ⟨oc21, od21, .func (PySem.W.fnOf "goes_within" "goes_within" (defArgs sGW) (defBody sGW) (defScope sGW) .none kV21 dc21 pm21 an21 cd21 ct21), sl21⟩) (c21 : PySem.W.codeIn K cd21 "goes_within" = true) (k21 : PySem.W.keepIn K (.ref f21) = true)
    (a22 : PySem.W.nsIn K mainGlobals "is_bit" = some (some (.ref f22)))
    (l22 : K.lookup f22 = some ⟨oc22, od22, .func (PySem.W.fnOf "is_bit" "is_bit" (defArgs sIsBit) (defBody sIsBit) (defScope sIsBit) .none kV22 dc22 pm22 an22 cd22 ct22), sl22⟩) (c22 : PySem.W.codeIn K cd22 "is_bit" = true) (k22 : PySem.W.keepIn K (.ref f22) = true)
    (a23 : PySem.W.nsIn K mainGlobals "is_count" = some (some (.ref f23)))
    (l23 : K.lookup f23 = some ⟨oc23, od23, .func (PySem.W.fnOf "is_count" "is_count" (defArgs sIsCount) (defBody sIsCount) (defScope sIsCount) .none kV23 dc23 pm23 an23 cd23 ct23), sl23⟩) (c23 : PySem.W.codeIn K cd23 "is_count" = true) (k23 : PySem.W.keepIn K (.ref f23) = true)
    (a24 : PySem.W.nsIn K mainGlobals "is_integer" = some (some (.ref f24)))
    (l24 : K.lookup f24 = some ⟨oc24, od24, .func (PySem.W.fnOf "is_integer" "is_integer" (defArgs sIsInt) (defBody sIsInt) (defScope sIsInt) .none kV24 dc24 pm24 an24 cd24 ct24), sl24⟩) (c24 : PySem.W.codeIn K cd24 "is_integer" = true) (k24 : PySem.W.keepIn K (.ref f24) = true)
    (a25 : PySem.W.nsIn K mainGlobals "is_letter" = some (some (.ref f25)))
    (l25 : K.lookup f25 = some ⟨oc25, od25, .func (PySem.W.fnOf "is_letter" "is_letter" (defArgs sIsLetter) (defBody sIsLetter) (defScope sIsLetter) .none kV25 dc25 pm25 an25 cd25 ct25), sl25⟩) (c25 : PySem.W.codeIn K cd25 "is_letter" = true) (k25 : PySem.W.keepIn K (.ref f25) = true)
    (a26 : PySem.W.nsIn K mainGlobals "is_list" = some (some (.ref f26)))
    (l26 : K.lookup f26 = some ⟨oc26, od26, .func (PySem.W.fnOf "is_list" "is_list" (defArgs sIsList) (defBody sIsList) (defScope sIsList) .none kV26 dc26 pm26 an26 cd26 ct26), sl26⟩) (c26 : PySem.W.codeIn K cd26 "is_list" = true) (k26 : PySem.W.keepIn K (.ref f26) = true)
    (a27 : PySem.W.nsIn K mainGlobals "is_pair" = some (some (.ref f27)))
    (l27 : K.lookup f27 = some ⟨oc27, od27, .func (PySem.W.fnOf "is_pair" "is_pair" (defArgs sIsPair) (defBody sIsPair) (defScope sIsPair) .none kV27 dc27 pm27 an27 cd27 ct27), sl27⟩) (c27 : PySem.W.codeIn K cd27 "is_pair" = true) (k27 : PySem.W.keepIn K (.ref f27) = true)
    (a28 : PySem.W.nsIn K mainGlobals "is_place" = some (some (.ref f28)))
    (l28 : K.lookup f28 = some ⟨oc28, od28, .func (PySem.W.fnOf "is_place" "is_place" (defArgs sIsPlace) (defBody sIsPlace) (defScope sIsPlace) .none kV28 dc28 pm28 an28 cd28 ct28), sl28⟩) (c28 : PySem.W.codeIn K cd28 "is_place" = true) (k28 : PySem.W.keepIn K (.ref f28) = true)
    (a29 : PySem.W.nsIn K mainGlobals "is_row" = some (some (.ref f29)))
    (l29 : K.lookup f29 = some ⟨oc29, od29, .func (PySem.W.fnOf "is_row" "is_row" (defArgs sIsRow) (defBody sIsRow) (defScope sIsRow) .none kV29 dc29 pm29 an29 cd29 ct29), sl29⟩) (c29 : PySem.W.codeIn K cd29 "is_row" = true) (k29 : PySem.W.keepIn K (.ref f29) = true)
    (a30 : PySem.W.nsIn K mainGlobals "is_within_table" = some (some (.ref f30)))
    (l30 : K.lookup f30 = some ⟨oc30, od30, .func (PySem.W.fnOf "is_within_table" "is_within_table" (defArgs sIWT) (defBody sIWT) (defScope sIWT) .none kV30 dc30 pm30 an30 cd30 ct30), sl30⟩) (c30 : PySem.W.codeIn K cd30 "is_within_table" = true) (k30 : PySem.W.keepIn K (.ref f30) = true)
    (a31 : PySem.W.nsIn K mainGlobals "is_word" = some (some (.ref f31)))
    (l31 : K.lookup f31 = some ⟨oc31, od31, .func (PySem.W.fnOf "is_word" "is_word" (defArgs sIsWord) (defBody sIsWord) (defScope sIsWord) .none kV31 dc31 pm31 an31 cd31 ct31), sl31⟩) (c31 : PySem.W.codeIn K cd31 "is_word" = true) (k31 : PySem.W.keepIn K (.ref f31) = true)
    (a32 : PySem.W.nsIn K mainGlobals "law" = some (some (.ref f32)))
    (l32 : K.lookup f32 = some ⟨oc32, od32, .func (PySem.W.fnOf "law" "law" (defArgs sLaw) (defBody sLaw) (defScope sLaw) .none kV32 dc32 pm32 an32 cd32 ct32), sl32⟩) (c32 : PySem.W.codeIn K cd32 "law" = true) (k32 : PySem.W.keepIn K (.ref f32) = true)
    (a33 : PySem.W.nsIn K mainGlobals "least_by" = some (some (.ref f33)))
    (l33 : K.lookup f33 = some ⟨oc33, od33, .func (PySem.W.fnOf "least_by" "least_by" (defArgs sLeast) (defBody sLeast) (defScope sLeast) .none kV33 dc33 pm33 an33 cd33 ct33), sl33⟩) (c33 : PySem.W.codeIn K cd33 "least_by" = true) (k33 : PySem.W.keepIn K (.ref f33) = true)
    (a34 : PySem.W.nsIn K mainGlobals "led" = some (some (.ref f34)))
    (l34 : K.lookup f34 = some ⟨oc34, od34, .func (PySem.W.fnOf "led" "led" (defArgs sLed) (defBody sLed) (defScope sLed) .none kV34 dc34 pm34 an34 cd34 ct34), sl34⟩) (c34 : PySem.W.codeIn K cd34 "led" = true) (k34 : PySem.W.keepIn K (.ref f34) = true)
    (a35 : PySem.W.nsIn K mainGlobals "lies_within" = some (some (.ref f35)))
    (l35 : K.lookup f35 = some ⟨oc35, od35, .func (PySem.W.fnOf "lies_within" "lies_within" (defArgs sLies) (defBody sLies) (defScope sLies) .none kV35 dc35 pm35 an35 cd35 ct35), sl35⟩) (c35 : PySem.W.codeIn K cd35 "lies_within" = true) (k35 : PySem.W.keepIn K (.ref f35) = true)
    (a36 : PySem.W.nsIn K mainGlobals "met_pairs" = some (some (.ref f36)))
    (l36 : K.lookup f36 = some ⟨oc36, od36, .func (PySem.W.fnOf "met_pairs" "met_pairs" (defArgs sMet) (defBody sMet) (defScope sMet) .none kV36 dc36 pm36 an36 cd36 ct36), sl36⟩) (c36 : PySem.W.codeIn K cd36 "met_pairs" = true) (k36 : PySem.W.keepIn K (.ref f36) = true)
    (a37 : PySem.W.nsIn K mainGlobals "pair_row" = some (some (.ref f37)))
    (l37 : K.lookup f37 = some ⟨oc37, od37, .func (PySem.W.fnOf "pair_row" "pair_row" (defArgs sPairRow) (defBody sPairRow) (defScope sPairRow) .none kV37 dc37 pm37 an37 cd37 ct37), sl37⟩) (c37 : PySem.W.codeIn K cd37 "pair_row" = true) (k37 : PySem.W.keepIn K (.ref f37) = true)
    (a38 : PySem.W.nsIn K mainGlobals "want_goes" = some (some (.ref f38)))
    (l38 : K.lookup f38 = some ⟨oc38, od38, .func (PySem.W.fnOf "want_goes" "want_goes" (defArgs sWantGoes) (defBody sWantGoes) (defScope sWantGoes) .none kV38 dc38 pm38 an38 cd38 ct38), sl38⟩) (c38 : PySem.W.codeIn K cd38 "want_goes" = true) (k38 : PySem.W.keepIn K (.ref f38) = true)
    (a39 : PySem.W.nsIn K mainGlobals "want_narrow" = some (some (.ref f39)))
    (l39 : K.lookup f39 = some ⟨oc39, od39, .func (PySem.W.fnOf "want_narrow" "want_narrow" (defArgs sNarrow) (defBody sNarrow) (defScope sNarrow) .none kV39 dc39 pm39 an39 cd39 ct39), sl39⟩) (c39 : PySem.W.codeIn K cd39 "want_narrow" = true) (k39 : PySem.W.keepIn K (.ref f39) = true)
    (a40 : PySem.W.nsIn K mainGlobals "want_pattern" = some (some (.ref f40)))
    (l40 : K.lookup f40 = some ⟨oc40, od40, .func (PySem.W.fnOf "want_pattern" "want_pattern" (defArgs sWantP) (defBody sWantP) (defScope sWantP) .none kV40 dc40 pm40 an40 cd40 ct40), sl40⟩) (c40 : PySem.W.codeIn K cd40 "want_pattern" = true) (k40 : PySem.W.keepIn K (.ref f40) = true)
    (a41 : PySem.W.nsIn K mainGlobals "want_same_width" = some (some (.ref f41)))
    (l41 : K.lookup f41 = some ⟨oc41, od41, .func (PySem.W.fnOf "want_same_width" "want_same_width" (defArgs sSameW) (defBody sSameW) (defScope sSameW) .none kV41 dc41 pm41 an41 cd41 ct41), sl41⟩) (c41 : PySem.W.codeIn K cd41 "want_same_width" = true) (k41 : PySem.W.keepIn K (.ref f41) = true)
    (a42 : PySem.W.nsIn K mainGlobals "within_table" = some (some (.ref f42)))
    (l42 : K.lookup f42 = some ⟨oc42, od42, .func (PySem.W.fnOf "within_table" "within_table" (defArgs sWT) (defBody sWT) (defScope sWT) .none kV42 dc42 pm42 an42 cd42 ct42), sl42⟩) (c42 : PySem.W.codeIn K cd42 "within_table" = true) (k42 : PySem.W.keepIn K (.ref f42) = true)
    (a43 : PySem.W.nsIn K mainGlobals "word_alone" = some (some (.ref f43)))
    (l43 : K.lookup f43 = some ⟨oc43, od43, .func (PySem.W.fnOf "word_alone" "word_alone" (defArgs sWAl) (defBody sWAl) (defScope sWAl) .none kV43 dc43 pm43 an43 cd43 ct43), sl43⟩) (c43 : PySem.W.codeIn K cd43 "word_alone" = true) (k43 : PySem.W.keepIn K (.ref f43) = true)
    (a44 : PySem.W.nsIn K mainGlobals "words_to_pairs" = some (some (.ref f44)))
    (l44 : K.lookup f44 = some ⟨oc44, od44, .func (PySem.W.fnOf "words_to_pairs" "words_to_pairs" (defArgs sW2P) (defBody sW2P) (defScope sW2P) .none kV44 dc44 pm44 an44 cd44 ct44), sl44⟩) (c44 : PySem.W.codeIn K cd44 "words_to_pairs" = true) (k44 : PySem.W.keepIn K (.ref f44) = true)
    (a45 : PySem.W.findIn K (.ref C) "__and__" = some (some (.ref f45))) (i45 : PySem.W.isFn K (.ref f45) = true)
    (l45 : K.lookup f45 = some ⟨oc45, od45, .func (PySem.W.fnOf "__and__" "Pattern.__and__" (defArgs sPAnd) (defBody sPAnd) (defScope sPAnd) .none kV45 dc45 pm45 an45 cd45 ct45), sl45⟩) (c45 : PySem.W.codeIn K cd45 "Pattern.__and__" = true) (k45 : PySem.W.keepIn K (.ref f45) = true)
    (a46 : PySem.W.findIn K (.ref C) "__contains__" = some (some (.ref f46))) (i46 : PySem.W.isFn K (.ref f46) = true)
    (l46 : K.lookup f46 = some ⟨oc46, od46, .func (PySem.W.fnOf "__contains__" "Pattern.__contains__" (defArgs sPCont) (defBody sPCont) (defScope sPCont) .none kV46 dc46 pm46 an46 cd46 ct46), sl46⟩) (c46 : PySem.W.codeIn K cd46 "Pattern.__contains__" = true) (k46 : PySem.W.keepIn K (.ref f46) = true)
    (a47 : PySem.W.findIn K (.ref C) "__eq__" = some (some (.ref f47))) (i47 : PySem.W.isFn K (.ref f47) = true)
    (l47 : K.lookup f47 = some ⟨oc47, od47, .func (PySem.W.fnOf "__eq__" "Pattern.__eq__" (defArgs sPEq) (defBody sPEq) (defScope sPEq) .none kV47 dc47 pm47 an47 cd47 ct47), sl47⟩) (c47 : PySem.W.codeIn K cd47 "Pattern.__eq__" = true) (k47 : PySem.W.keepIn K (.ref f47) = true)
    (a48 : PySem.W.findIn K (.ref C) "__init__" = some (some (.ref f48))) (i48 : PySem.W.isFn K (.ref f48) = true)
    (l48 : K.lookup f48 = some ⟨oc48, od48, .func (PySem.W.fnOf "__init__" "Pattern.__init__" (defArgs sPInit) (defBody sPInit) (defScope sPInit) .none kV48 dc48 pm48 an48 cd48 ct48), sl48⟩) (c48 : PySem.W.codeIn K cd48 "Pattern.__init__" = true) (k48 : PySem.W.keepIn K (.ref f48) = true)
    (a49 : PySem.W.findIn K (.ref C) "__or__" = some (some (.ref f49))) (i49 : PySem.W.isFn K (.ref f49) = true)
    (l49 : K.lookup f49 = some ⟨oc49, od49, .func (PySem.W.fnOf "__or__" "Pattern.__or__" (defArgs sPOr) (defBody sPOr) (defScope sPOr) .none kV49 dc49 pm49 an49 cd49 ct49), sl49⟩) (c49 : PySem.W.codeIn K cd49 "Pattern.__or__" = true) (k49 : PySem.W.keepIn K (.ref f49) = true)
    (a50 : PySem.W.findIn K (.ref C) "__repr__" = some (some (.ref f50))) (i50 : PySem.W.isFn K (.ref f50) = true)
    (l50 : K.lookup f50 = some ⟨oc50, od50, .func (PySem.W.fnOf "__repr__" "Pattern.__repr__" (defArgs sPRepr) (defBody sPRepr) (defScope sPRepr) .none kV50 dc50 pm50 an50 cd50 ct50), sl50⟩) (c50 : PySem.W.codeIn K cd50 "Pattern.__repr__" = true) (k50 : PySem.W.keepIn K (.ref f50) = true)
    (a51 : PySem.W.findIn K (.ref C) "least" = some (some (.ref f51))) (i51 : PySem.W.isFn K (.ref f51) = true)
    (l51 : K.lookup f51 = some ⟨oc51, od51, .func (PySem.W.fnOf "least" "Pattern.least" (defArgs sPLeast) (defBody sPLeast) (defScope sPLeast) .none kV51 dc51 pm51 an51 cd51 ct51), sl51⟩) (c51 : PySem.W.codeIn K cd51 "Pattern.least" = true) (k51 : PySem.W.keepIn K (.ref f51) = true)
    (z0 : PySem.W.nsIn K mainGlobals "isinstance" = some none) (z1 : PySem.W.nsIn K mainGlobals "int" = some none) (z2 : PySem.W.nsIn K mainGlobals "bool" = some none) (z3 : PySem.W.nsIn K mainGlobals "list" = some none) (z4 : PySem.W.nsIn K mainGlobals "tuple" = some none) (z5 : PySem.W.nsIn K mainGlobals "dict" = some none) (z6 : PySem.W.nsIn K mainGlobals "len" = some none) (z7 : PySem.W.nsIn K mainGlobals "all" = some none) (z8 : PySem.W.nsIn K mainGlobals "any" = some none) (z9 : PySem.W.nsIn K mainGlobals "sorted" = some none) (z10 : PySem.W.nsIn K mainGlobals "enumerate" = some none) (z11 : PySem.W.nsIn K mainGlobals "set" = some none) (z12 : PySem.W.nsIn K mainGlobals "range" = some none) (z13 : PySem.W.nsIn K mainGlobals "abs" = some none) (z14 : PySem.W.nsIn K mainGlobals "max" = some none) (z15 : PySem.W.nsIn K mainGlobals "min" = some none) (z16 : PySem.W.nsIn K mainGlobals "divmod" = some none) (z17 : PySem.W.nsIn K mainGlobals "repr" = some none) :
    ∃ fd : FuncData, (∀ (s : Shared) (v : Value), BindsTo s fd ⟨[v], []⟩ [("_law_script", v)]) ∧ ∀ base : Heap, K.In base → base.Ns mainGlobals mg → SysOk base → GnOk Idle l.prog w K mg base 12 fa fd ["_law_script"] (spLaw K) := by
  have e := hfa.symm.trans (PySem.W.mg_of X G a32)
  have e2 : fa = f32 := by cases e; rfl
  rw [e2]
  have B : Blt mg := ⟨PySem.W.mg_none_of X G z0, PySem.W.mg_none_of X G z1, PySem.W.mg_none_of X G z2, PySem.W.mg_none_of X G z3, PySem.W.mg_none_of X G z4, PySem.W.mg_none_of X G z5, PySem.W.mg_none_of X G z6, PySem.W.mg_none_of X G z7, PySem.W.mg_none_of X G z8, PySem.W.mg_none_of X G z9, PySem.W.mg_none_of X G z10, PySem.W.mg_none_of X G z11, PySem.W.mg_none_of X G z12, PySem.W.mg_none_of X G z13, PySem.W.mg_none_of X G z14, PySem.W.mg_none_of X G z15, PySem.W.mg_none_of X G z16, PySem.W.mg_none_of X G z17⟩
  have T : PatC K mg C := ⟨⟨pg, hd, po, sa⟩, nW, nG, PySem.W.mg_of X G aC⟩
  have kit : PySem.W.kitOne K (.ref C) (.ref C) = some true := by unfold PySem.W.kitOne; simp
  have I : PatI K C := ⟨ha, hn, ht, hm, kit⟩
  have oW := PySem.W.mg_of X G mW
  have oP := PySem.W.mg_of X G mP
  obtain ⟨DL, eL⟩ : ∃ D : Dn K mg "law" sLaw ["_law_script"], D.f = f32 ∧ D.fd = PySem.W.fnOf "law" "law" (defArgs sLaw) (defBody sLaw) (defScope sLaw) .none kV32 dc32 pm32 an32 cd32 ct32 := ⟨⟨f32, _, fun_mk (st := sLaw) l32 c32 k32, (fun_mk (st := sLaw) l32 c32 k32).binds (ps := ["_law_script"]) (fun _ _ _ _ _ _ us hl => match us, hl with | [_], _ => rfl), PySem.W.mg_of X G a32⟩, rfl, rfl⟩
  have D10 : Dn K mg "_law_letters" sLetters ["_law_width"] := ⟨f10, _, fun_mk (st := sLetters) l10 c10 k10, (fun_mk (st := sLetters) l10 c10 k10).binds (ps := ["_law_width"]) (fun _ _ _ _ _ _ us hl => match us, hl with | [_], _ => rfl), PySem.W.mg_of X G a10⟩
  have D1 : Dn K mg "_law_alone" sAlone ["_law_mine", "_law_its", "_law_width"] := ⟨f1, _, fun_mk (st := sAlone) l1 c1 k1, (fun_mk (st := sAlone) l1 c1 k1).binds (ps := ["_law_mine", "_law_its", "_law_width"]) (fun _ _ _ _ _ _ us hl => match us, hl with | [_, _, _], _ => rfl), PySem.W.mg_of X G a1⟩
  have D4 : Dn K mg "_law_draw" sDraw ["_law_pot_here", "_law_size"] := ⟨f4, _, fun_mk (st := sDraw) l4 c4 k4, (fun_mk (st := sDraw) l4 c4 k4).binds (ps := ["_law_pot_here", "_law_size"]) (fun _ _ _ _ _ _ us hl => match us, hl with | [_, _], _ => rfl), PySem.W.mg_of X G a4⟩
  have D11 : Dn K mg "_law_pairs" sLPairs ["_law_mine", "_law_its"] := ⟨f11, _, fun_mk (st := sLPairs) l11 c11 k11, (fun_mk (st := sLPairs) l11 c11 k11).binds (ps := ["_law_mine", "_law_its"]) (fun _ _ _ _ _ _ us hl => match us, hl with | [_, _], _ => rfl), PySem.W.mg_of X G a11⟩
  have D2 : Dn K mg "_law_bent" sBent ["_law_pot_here", "_law_mine", "_law_its"] := ⟨f2, _, fun_mk (st := sBent) l2 c2 k2, (fun_mk (st := sBent) l2 c2 k2).binds (ps := ["_law_pot_here", "_law_mine", "_law_its"]) (fun _ _ _ _ _ _ us hl => match us, hl with | [_, _, _], _ => rfl), PySem.W.mg_of X G a2⟩
  have D24 : Dn K mg "is_integer" sIsInt ["value"] := ⟨f24, _, fun_mk (st := sIsInt) l24 c24 k24, (fun_mk (st := sIsInt) l24 c24 k24).binds (ps := ["value"]) (fun _ _ _ _ _ _ us hl => match us, hl with | [_], _ => rfl), PySem.W.mg_of X G a24⟩
  have D23 : Dn K mg "is_count" sIsCount ["value"] := ⟨f23, _, fun_mk (st := sIsCount) l23 c23 k23, (fun_mk (st := sIsCount) l23 c23 k23).binds (ps := ["value"]) (fun _ _ _ _ _ _ us hl => match us, hl with | [_], _ => rfl), PySem.W.mg_of X G a23⟩
  have D39 : Dn K mg "want_narrow" sNarrow ["width"] := ⟨f39, _, fun_mk (st := sNarrow) l39 c39 k39, (fun_mk (st := sNarrow) l39 c39 k39).binds (ps := ["width"]) (fun _ _ _ _ _ _ us hl => match us, hl with | [_], _ => rfl), PySem.W.mg_of X G a39⟩
  have D26 : Dn K mg "is_list" sIsList ["value"] := ⟨f26, _, fun_mk (st := sIsList) l26 c26 k26, (fun_mk (st := sIsList) l26 c26 k26).binds (ps := ["value"]) (fun _ _ _ _ _ _ us hl => match us, hl with | [_], _ => rfl), PySem.W.mg_of X G a26⟩
  have D22 : Dn K mg "is_bit" sIsBit ["value"] := ⟨f22, _, fun_mk (st := sIsBit) l22 c22 k22, (fun_mk (st := sIsBit) l22 c22 k22).binds (ps := ["value"]) (fun _ _ _ _ _ _ us hl => match us, hl with | [_], _ => rfl), PySem.W.mg_of X G a22⟩
  have D25 : Dn K mg "is_letter" sIsLetter ["value", "width"] := ⟨f25, _, fun_mk (st := sIsLetter) l25 c25 k25, (fun_mk (st := sIsLetter) l25 c25 k25).binds (ps := ["value", "width"]) (fun _ _ _ _ _ _ us hl => match us, hl with | [_, _], _ => rfl), PySem.W.mg_of X G a25⟩
  have D29 : Dn K mg "is_row" sIsRow ["value", "width", "size"] := ⟨f29, _, fun_mk (st := sIsRow) l29 c29 k29, (fun_mk (st := sIsRow) l29 c29 k29).binds (ps := ["value", "width", "size"]) (fun _ _ _ _ _ _ us hl => match us, hl with | [_, _, _], _ => rfl), PySem.W.mg_of X G a29⟩
  have D38 : Dn K mg "want_goes" sWantGoes ["width", "goes"] := ⟨f38, _, fun_mk (st := sWantGoes) l38 c38 k38, (fun_mk (st := sWantGoes) l38 c38 k38).binds (ps := ["width", "goes"]) (fun _ _ _ _ _ _ us hl => match us, hl with | [_, _], _ => rfl), PySem.W.mg_of X G a38⟩
  have D48 : Md K C "__init__" "Pattern.__init__" sPInit ["self", "width", "goes"] := ⟨f48, _, fun_mk (st := sPInit) l48 c48 k48, (fun_mk (st := sPInit) l48 c48 k48).binds (ps := ["self", "width", "goes"]) (fun _ _ _ _ _ _ us hl => match us, hl with | [_, _, _], _ => rfl), a48, i48⟩
  have D18 : Dn K mg "classes_by" sClasses ["goes", "names"] := ⟨f18, _, fun_mk (st := sClasses) l18 c18 k18, (fun_mk (st := sClasses) l18 c18 k18).binds (ps := ["goes", "names"]) (fun _ _ _ _ _ _ us hl => match us, hl with | [_, _], _ => rfl), PySem.W.mg_of X G a18⟩
  have D20 : Dn K mg "fit_classes" sFitC ["goes"] := ⟨f20, _, fun_mk (st := sFitC) l20 c20 k20, (fun_mk (st := sFitC) l20 c20 k20).binds (ps := ["goes"]) (fun _ _ _ _ _ _ us hl => match us, hl with | [_], _ => rfl), PySem.W.mg_of X G a20⟩
  have D33 : Dn K mg "least_by" sLeast ["width", "first", "goes"] := ⟨f33, _, fun_mk (st := sLeast) l33 c33 k33, (fun_mk (st := sLeast) l33 c33 k33).binds (ps := ["width", "first", "goes"]) (fun _ _ _ _ _ _ us hl => match us, hl with | [_, _, _], _ => rfl), PySem.W.mg_of X G a33⟩
  have D41 : Dn K mg "want_same_width" sSameW ["one", "other"] := ⟨f41, _, fun_mk (st := sSameW) l41 c41 k41, (fun_mk (st := sSameW) l41 c41 k41).binds (ps := ["one", "other"]) (fun _ _ _ _ _ _ us hl => match us, hl with | [_, _], _ => rfl), PySem.W.mg_of X G a41⟩
  have D40 : Dn K mg "want_pattern" sWantP ["one", "other"] := ⟨f40, _, fun_mk (st := sWantP) l40 c40 k40, (fun_mk (st := sWantP) l40 c40 k40).binds (ps := ["one", "other"]) (fun _ _ _ _ _ _ us hl => match us, hl with | [_, _], _ => rfl), PySem.W.mg_of X G a40⟩
  have D37 : Dn K mg "pair_row" sPairRow ["one", "other", "pair", "is_both"] := ⟨f37, _, fun_mk (st := sPairRow) l37 c37 k37, (fun_mk (st := sPairRow) l37 c37 k37).binds (ps := ["one", "other", "pair", "is_both"]) (fun _ _ _ _ _ _ us hl => match us, hl with | [_, _, _, _], _ => rfl), PySem.W.mg_of X G a37⟩
  have D36 : Dn K mg "met_pairs" sMet ["one", "other", "is_both"] := ⟨f36, _, fun_mk (st := sMet) l36 c36 k36, (fun_mk (st := sMet) l36 c36 k36).binds (ps := ["one", "other", "is_both"]) (fun _ _ _ _ _ _ us hl => match us, hl with | [_, _, _], _ => rfl), PySem.W.mg_of X G a36⟩
  have D45 : Md K C "__and__" "Pattern.__and__" sPAnd ["self", "other"] := ⟨f45, _, fun_mk (st := sPAnd) l45 c45 k45, (fun_mk (st := sPAnd) l45 c45 k45).binds (ps := ["self", "other"]) (fun _ _ _ _ _ _ us hl => match us, hl with | [_, _], _ => rfl), a45, i45⟩
  have D49 : Md K C "__or__" "Pattern.__or__" sPOr ["self", "other"] := ⟨f49, _, fun_mk (st := sPOr) l49 c49 k49, (fun_mk (st := sPOr) l49 c49 k49).binds (ps := ["self", "other"]) (fun _ _ _ _ _ _ us hl => match us, hl with | [_, _], _ => rfl), a49, i49⟩
  have D44 : Dn K mg "words_to_pairs" sW2P ["one", "other"] := ⟨f44, _, fun_mk (st := sW2P) l44 c44 k44, (fun_mk (st := sW2P) l44 c44 k44).binds (ps := ["one", "other"]) (fun _ _ _ _ _ _ us hl => match us, hl with | [_, _], _ => rfl), PySem.W.mg_of X G a44⟩
  have D35 : Dn K mg "lies_within" sLies ["one", "other"] := ⟨f35, _, fun_mk (st := sLies) l35 c35 k35, (fun_mk (st := sLies) l35 c35 k35).binds (ps := ["one", "other"]) (fun _ _ _ _ _ _ us hl => match us, hl with | [_, _], _ => rfl), PySem.W.mg_of X G a35⟩
  have D51 : Md K C "least" "Pattern.least" sPLeast ["self"] := ⟨f51, _, fun_mk (st := sPLeast) l51 c51 k51, (fun_mk (st := sPLeast) l51 c51 k51).binds (ps := ["self"]) (fun _ _ _ _ _ _ us hl => match us, hl with | [_], _ => rfl), a51, i51⟩
  have D47 : Md K C "__eq__" "Pattern.__eq__" sPEq ["self", "other"] := ⟨f47, _, fun_mk (st := sPEq) l47 c47 k47, (fun_mk (st := sPEq) l47 c47 k47).binds (ps := ["self", "other"]) (fun _ _ _ _ _ _ us hl => match us, hl with | [_, _], _ => rfl), a47, i47⟩
  have D16 : Dn K mg "_law_words" sLWords ["_law_width", "_law_most"] := ⟨f16, _, fun_mk (st := sLWords) l16 c16 k16, (fun_mk (st := sLWords) l16 c16 k16).binds (ps := ["_law_width", "_law_most"]) (fun _ _ _ _ _ _ us hl => match us, hl with | [_, _], _ => rfl), PySem.W.mg_of X G a16⟩
  have D9 : Dn K mg "_law_led" sLLed ["_law_goes_here", "_law_place", "_law_word"] := ⟨f9, _, fun_mk (st := sLLed) l9 c9 k9, (fun_mk (st := sLLed) l9 c9 k9).binds (ps := ["_law_goes_here", "_law_place", "_law_word"]) (fun _ _ _ _ _ _ us hl => match us, hl with | [_, _, _], _ => rfl), PySem.W.mg_of X G a9⟩
  have D31 : Dn K mg "is_word" sIsWord ["value", "width"] := ⟨f31, _, fun_mk (st := sIsWord) l31 c31 k31, (fun_mk (st := sIsWord) l31 c31 k31).binds (ps := ["value", "width"]) (fun _ _ _ _ _ _ us hl => match us, hl with | [_, _], _ => rfl), PySem.W.mg_of X G a31⟩
  have D34 : Dn K mg "led" sLed ["pattern", "word"] := ⟨f34, _, fun_mk (st := sLed) l34 c34 k34, (fun_mk (st := sLed) l34 c34 k34).binds (ps := ["pattern", "word"]) (fun _ _ _ _ _ _ us hl => match us, hl with | [_, _], _ => rfl), PySem.W.mg_of X G a34⟩
  have D46 : Md K C "__contains__" "Pattern.__contains__" sPCont ["self", "value"] := ⟨f46, _, fun_mk (st := sPCont) l46 c46 k46, (fun_mk (st := sPCont) l46 c46 k46).binds (ps := ["self", "value"]) (fun _ _ _ _ _ _ us hl => match us, hl with | [_, _], _ => rfl), a46, i46⟩
  have D3 : Dn K mg "_law_between_right" sBet pBet := ⟨f3, _, fun_mk (st := sBet) l3 c3 k3, (fun_mk (st := sBet) l3 c3 k3).binds (ps := pBet) (fun _ _ _ _ _ _ us hl => match us, hl with | [_, _, _, _], _ => rfl), PySem.W.mg_of X G a3⟩
  have D5 : Dn K mg "_law_goes" sLGoes ["_law_pot_here", "_law_width", "_law_most", "_law_often"] := ⟨f5, _, fun_mk (st := sLGoes) l5 c5 k5, (fun_mk (st := sLGoes) l5 c5 k5).binds (ps := ["_law_pot_here", "_law_width", "_law_most", "_law_often"]) (fun _ _ _ _ _ _ us hl => match us, hl with | [_, _, _, _], _ => rfl), PySem.W.mg_of X G a5⟩
  have D7 : Dn K mg "_law_is_place" sLPlace ["_law_thing", "_law_many"] := ⟨f7, _, fun_mk (st := sLPlace) l7 c7 k7, (fun_mk (st := sLPlace) l7 c7 k7).binds (ps := ["_law_thing", "_law_many"]) (fun _ _ _ _ _ _ us hl => match us, hl with | [_, _], _ => rfl), PySem.W.mg_of X G a7⟩
  have D6 : Dn K mg "_law_is_pair" sLPair ["_law_thing", "_law_mine", "_law_its"] := ⟨f6, _, fun_mk (st := sLPair) l6 c6 k6, (fun_mk (st := sLPair) l6 c6 k6).binds (ps := ["_law_thing", "_law_mine", "_law_its"]) (fun _ _ _ _ _ _ us hl => match us, hl with | [_, _, _], _ => rfl), PySem.W.mg_of X G a6⟩
  have D8 : Dn K mg "_law_is_table" sLTab ["_law_mine", "_law_its", "_law_thing"] := ⟨f8, _, fun_mk (st := sLTab) l8 c8 k8, (fun_mk (st := sLTab) l8 c8 k8).binds (ps := ["_law_mine", "_law_its", "_law_thing"]) (fun _ _ _ _ _ _ us hl => match us, hl with | [_, _, _], _ => rfl), PySem.W.mg_of X G a8⟩
  have D12 : Dn K mg "_law_pick" sPick ["_law_pot_here", "_law_some"] := ⟨f12, _, fun_mk (st := sPick) l12 c12 k12, (fun_mk (st := sPick) l12 c12 k12).binds (ps := ["_law_pot_here", "_law_some"]) (fun _ _ _ _ _ _ us hl => match us, hl with | [_, _], _ => rfl), PySem.W.mg_of X G a12⟩
  have D13 : Dn K mg "_law_pot" sPot ["_law_script", "_law_k"] := ⟨f13, _, fun_mk (st := sPot) l13 c13 k13, (fun_mk (st := sPot) l13 c13 k13).binds (ps := ["_law_script", "_law_k"]) (fun _ _ _ _ _ _ us hl => match us, hl with | [_, _], _ => rfl), PySem.W.mg_of X G a13⟩
  have D50 : Md K C "__repr__" "Pattern.__repr__" sPRepr ["self"] := ⟨f50, _, fun_mk (st := sPRepr) l50 c50 k50, (fun_mk (st := sPRepr) l50 c50 k50).binds (ps := ["self"]) (fun _ _ _ _ _ _ us hl => match us, hl with | [_], _ => rfl), a50, i50⟩
  have D42 : Dn K mg "within_table" sWT ["one", "other"] := ⟨f42, _, fun_mk (st := sWT) l42 c42 k42, (fun_mk (st := sWT) l42 c42 k42).binds (ps := ["one", "other"]) (fun _ _ _ _ _ _ us hl => match us, hl with | [_, _], _ => rfl), PySem.W.mg_of X G a42⟩
  have D43 : Dn K mg "word_alone" sWAl ["one", "other"] := ⟨f43, _, fun_mk (st := sWAl) l43 c43 k43, (fun_mk (st := sWAl) l43 c43 k43).binds (ps := ["one", "other"]) (fun _ _ _ _ _ _ us hl => match us, hl with | [_, _], _ => rfl), PySem.W.mg_of X G a43⟩
  have D19 : Dn K mg "fit_alike" sFit ["one", "other"] := ⟨f19, _, fun_mk (st := sFit) l19 c19 k19, (fun_mk (st := sFit) l19 c19 k19).binds (ps := ["one", "other"]) (fun _ _ _ _ _ _ us hl => match us, hl with | [_, _], _ => rfl), PySem.W.mg_of X G a19⟩
  have D28 : Dn K mg "is_place" sIsPlace ["pattern", "value"] := ⟨f28, _, fun_mk (st := sIsPlace) l28 c28 k28, (fun_mk (st := sIsPlace) l28 c28 k28).binds (ps := ["pattern", "value"]) (fun _ _ _ _ _ _ us hl => match us, hl with | [_, _], _ => rfl), PySem.W.mg_of X G a28⟩
  have D27 : Dn K mg "is_pair" sIsPair ["one", "other", "value"] := ⟨f27, _, fun_mk (st := sIsPair) l27 c27 k27, (fun_mk (st := sIsPair) l27 c27 k27).binds (ps := ["one", "other", "value"]) (fun _ _ _ _ _ _ us hl => match us, hl with | [_, _, _], _ => rfl), PySem.W.mg_of X G a27⟩
  have D17 : Dn K mg "are_unlike" sUnlike ["value"] := ⟨f17, _, fun_mk (st := sUnlike) l17 c17 k17, (fun_mk (st := sUnlike) l17 c17 k17).binds (ps := ["value"]) (fun _ _ _ _ _ _ us hl => match us, hl with | [_], _ => rfl), PySem.W.mg_of X G a17⟩
  have D21 : Dn K mg "goes_within" sGW ["one", "other", "pair", "some"] := ⟨f21, _, fun_mk (st := sGW) l21 c21 k21, (fun_mk (st := sGW) l21 c21 k21).binds (ps := ["one", "other", "pair", "some"]) (fun _ _ _ _ _ _ us hl => match us, hl with | [_, _, _, _], _ => rfl), PySem.W.mg_of X G a21⟩
  have D30 : Dn K mg "is_within_table" sIWT ["one", "other", "value"] := ⟨f30, _, fun_mk (st := sIWT) l30 c30 k30, (fun_mk (st := sIWT) l30 c30 k30).binds (ps := ["one", "other", "value"]) (fun _ _ _ _ _ _ us hl => match us, hl with | [_, _, _], _ => rfl), PySem.W.mg_of X G a30⟩
  have D15 : Dn K mg "_law_two_right" sTwo pTwo := ⟨f15, _, fun_mk (st := sTwo) l15 c15 k15, (fun_mk (st := sTwo) l15 c15 k15).binds (ps := pTwo) (fun _ _ _ _ _ _ us hl => match us, hl with | [_, _, _, _], _ => rfl), PySem.W.mg_of X G a15⟩
  have D14 : Dn K mg "_law_right" sRight ["_law_pot_here"] := ⟨f14, _, fun_mk (st := sRight) l14 c14 k14, (fun_mk (st := sRight) l14 c14 k14).binds (ps := ["_law_pot_here"]) (fun _ _ _ _ _ _ us hl => match us, hl with | [_], _ => rfl), PySem.W.mg_of X G a14⟩
  refine ⟨PySem.W.fnOf "law" "law" (defArgs sLaw) (defBody sLaw) (defScope sLaw) .none kV32 dc32 pm32 an32 cd32 ct32, fun s v => .of_eq rfl, fun base _ _ hb => ?_⟩
  have G10 := ok_letters (P := l.prog) (w := w) (K := K) (mg := mg) (base := base) B D10
  have G1 := ok_alone (P := l.prog) (w := w) (K := K) (mg := mg) (base := base) B D10 G10 D1
  have G4 := ok_draw (P := l.prog) (w := w) (K := K) (mg := mg) (base := base) B D4
  have G11 := ok_lpairs (P := l.prog) (w := w) (K := K) (mg := mg) (base := base) B D11
  have G2 := ok_bent (P := l.prog) (w := w) (K := K) (mg := mg) (base := base) B D4 G4 D11 G11 D2
  have G24 := ok_isInt (P := l.prog) (w := w) (K := K) (mg := mg) (base := base) B D24
  have G23 := ok_isCount (P := l.prog) (w := w) (K := K) (mg := mg) (base := base) D24 G24 D23
  have G39 := ok_narrow (P := l.prog) (w := w) (K := K) (mg := mg) (base := base) oW D23 G23 D39
  have G26 := ok_isList (P := l.prog) (w := w) (K := K) (mg := mg) (base := base) B D26
  have G22 := ok_isBit (P := l.prog) (w := w) (K := K) (mg := mg) (base := base) D24 G24 D22
  have G25 := ok_isLetter (P := l.prog) (w := w) (K := K) (mg := mg) (base := base) B D22 G22 D25
  have G29 := ok_isRow (P := l.prog) (w := w) (K := K) (mg := mg) (base := base) B D25 G25 D23 G23 D29
  have G38 := ok_wantGoes (P := l.prog) (w := w) (K := K) (mg := mg) (base := base) B oP D26 G26 D29 G29 D38
  have G48 := ok_pinit (P := l.prog) (w := w) (K := K) (mg := mg) (base := base) B T D39 G39 D38 G38 D48
  have G18 := ok_classes (P := l.prog) (w := w) (K := K) (mg := mg) (base := base) B D18
  have G20 := ok_fitC (P := l.prog) (w := w) (K := K) (mg := mg) (base := base) B D18 G18 D20
  have G33 := ok_least (P := l.prog) (w := w) (K := K) (mg := mg) (base := base) B T hmk hkp D20 G20 D48 G48 D33
  have G41 := ok_sameW (P := l.prog) (w := w) (K := K) (mg := mg) (base := base) T D41
  have G40 := ok_wantP (P := l.prog) (w := w) (K := K) (mg := mg) (base := base) B T I D41 G41 D40
  have G37 := ok_pairRow (P := l.prog) (w := w) (K := K) (mg := mg) (base := base) B T D37
  have G36 := ok_met (P := l.prog) (w := w) (K := K) (mg := mg) (base := base) B T D37 G37 D36
  have G45 := ok_pand (P := l.prog) (w := w) (K := K) (mg := mg) (base := base) B T D33 G33 D40 G40 D36 G36 D45
  have G49 := ok_por (P := l.prog) (w := w) (K := K) (mg := mg) (base := base) B T D33 G33 D40 G40 D36 G36 D49
  have G44 := ok_w2p (P := l.prog) (w := w) (K := K) (mg := mg) (base := base) B T D44
  have G35 := ok_lies (P := l.prog) (w := w) (K := K) (mg := mg) (base := base) B D41 G41 D44 G44 D35
  have G51 := ok_pleast (P := l.prog) (w := w) (K := K) (mg := mg) (base := base) B T D33 G33 D51
  have G47 := ok_peq (P := l.prog) (w := w) (K := K) (mg := mg) (base := base) B T I D47
  have G16 := ok_lwords (P := l.prog) (w := w) (K := K) (mg := mg) (base := base) B D10 G10 D16
  have G9 := ok_lled (P := l.prog) (w := w) (K := K) (mg := mg) (base := base) D9
  have G31 := ok_isWord (P := l.prog) (w := w) (K := K) (mg := mg) (base := base) B D26 G26 D25 G25 D31
  have G34 := ok_led (P := l.prog) (w := w) (K := K) (mg := mg) (base := base) B T D34
  have G46 := ok_pcont (P := l.prog) (w := w) (K := K) (mg := mg) (base := base) T D31 G31 D34 G34 D46
  have G3 := ok_bet (P := l.prog) (w := w) (K := K) (mg := mg) (base := base) B T hmk hkp hsf D48 G48 D45 G45 D49 G49 D35 G35 D51 G51 D47 G47 D16 G16 D9 G9 D46 G46 D3
  have G5 := ok_lgoes (P := l.prog) (w := w) (K := K) (mg := mg) (base := base) B D4 G4 D10 G10 D5
  have G7 := ok_lplace (P := l.prog) (w := w) (K := K) (mg := mg) (base := base) B D7
  have G6 := ok_lpair (P := l.prog) (w := w) (K := K) (mg := mg) (base := base) B D7 G7 D6
  have G8 := ok_ltab (P := l.prog) (w := w) (K := K) (mg := mg) (base := base) B D6 G6 D8
  have G12 := ok_pick (P := l.prog) (w := w) (K := K) (mg := mg) (base := base) B D4 G4 D12
  have G13 := ok_pot (P := l.prog) (w := w) (K := K) (mg := mg) (base := base) B D13
  have G50 := ok_prepr (P := l.prog) (w := w) (K := K) (mg := mg) (base := base) T hb D50
  have G42 := ok_wT (P := l.prog) (w := w) (K := K) (mg := mg) (base := base) B D41 G41 D44 G44 D42
  have G43 := ok_wAl (P := l.prog) (w := w) (K := K) (mg := mg) (base := base) B D41 G41 D44 G44 D43
  have G19 := ok_fit (P := l.prog) (w := w) (K := K) (mg := mg) (base := base) B D41 G41 D44 G44 D19
  have G28 := ok_isPlace (P := l.prog) (w := w) (K := K) (mg := mg) (base := base) B T D23 G23 D28
  have G27 := ok_isPair (P := l.prog) (w := w) (K := K) (mg := mg) (base := base) B T D28 G28 D27
  have G17 := ok_unlike (P := l.prog) (w := w) (K := K) (mg := mg) (base := base) B D26 G26 D17
  have G21 := ok_gw (P := l.prog) (w := w) (K := K) (mg := mg) (base := base) T D21
  have G30 := ok_iwt (P := l.prog) (w := w) (K := K) (mg := mg) (base := base) B T D41 G41 D26 G26 D27 G27 D17 G17 D21 G21 D30
  have G15 := ok_two (P := l.prog) (w := w) (K := K) (mg := mg) (base := base) B T hb hmk hkp D48 G48 D50 G50 D42 G42 D43 G43 D35 G35 D19 G19 D30 G30 D11 G11 D1 G1 D8 G8 D2 G2 D15
  have G14 := ok_right (P := l.prog) (w := w) (K := K) (mg := mg) (base := base) B D4 G4 D10 G10 D12 G12 D5 G5 D15 G15 D3 G3 D14
  have G32 := ok_law (P := l.prog) (w := w) (K := K) (mg := mg) (base := base) B D13 G13 D14 G14 DL
  rw [eL.1, eL.2] at G32
  exact G32
theorem walk {l : PySem.W.OpenLaw} {q : Program} {loose : List Str} {XP : (Str → Option Value) → Heap → Prop} {YP : World → Heap → Prop} {d : DefRec} {K : Params → PySem.W.Frag} (hn : l.most = some 63) (hdf : d.params.defaults = []) (hq : importsNone q = true)
    (hY : ∀ (w : World) (h : Heap), YP w h → (K w.params).In h)
    (F : ∀ (w : World) (mg : Str → Option Value) (fa : Addr) (h : Heap), (K w.params).In h → h.Ns mainGlobals mg → mg d.name = some (.ref fa) →
      ∃ fd : FuncData, (∀ (s : Shared) (u : Value), BindsTo s fd ⟨[u], []⟩ [("_law_script", u)]) ∧ ∀ base : Heap, (K w.params).In base → base.Ns mainGlobals mg → SysOk base → GnOk Idle l.prog w (K w.params) mg base 12 fa fd ["_law_script"] (spLaw (K w.params))) :
    PySem.W.WalkO q loose XP YP l.row.toRowW d [] (fun f vs => PySem.call f vs) :=
  walkG (n := 63) (k := 12) (x := "_law_script") (sp := fun w => spLaw (K w.params)) hn (by decide) hdf ⟨rfl, by decide, by decide⟩ hq hY F (fun _ _ a ns hl _ hS => ⟨a, ns, rfl, hS, hl, fun _ => rfl⟩)
end WW


open PySem PySem.W PyProof.Rows in
set_option maxRecDepth 100000 in
set_option maxHeartbeats 0 in
theorem PySem.Challenge.cw_wirewords_k52_whole_one_pattern_within_a_holds : PySem.Challenge.rw_wirewords_k52_whole_one_pattern_within_a.Holds := by
  w_on; o_law; k_head; (case hw => w_witness2)
  k_fill
  refine WW.walk (l := PySem.Challenge.rw_wirewords_k52_whole_one_pattern_within_a) rfl rfl ?Q (fun w h Y => PySem.W.kIn_of Y) ?F
  case Q => decide +kernel
  case F =>
    intro w mg fa h KX G hmg
    refine' WW.all_mk KX G hmg ?aC ?mW ?mP ?pg ?hd ?po ?sa ?nW ?nG ?hmk ?hkp ?hsf ?ha ?hn ?ht ?hm ?a1 ?l1 ?c1 ?k1 ?a2 ?l2 ?c2 ?k2 ?a3 ?l3 ?c3 ?k3 ?a4 ?l4 ?c4 ?k4 ?a5 ?l5 ?c5 ?k5 ?a6 ?l6 ?c6 ?k6 ?a7 ?l7 ?c7 ?k7 ?a8 ?l8 ?c8 ?k8 ?a9 ?l9 ?c9 ?k9 ?a10 ?l10 ?c10 ?k10 ?a11 ?l11 ?c11 ?k11 ?a12 ?l12 ?c12 ?k12 ?a13 ?l13 ?c13 ?k13 ?a14 ?l14 ?c14 ?k14 ?a15 ?l15 ?c15 ?k15 ?a16 ?l16 ?c16 ?k16 ?a17 ?l17 ?c17 ?k17 ?a18 ?l18 ?c18 ?k18 ?a19 ?l19 ?c19 ?k19 ?a20 ?l20 ?c20 ?k20 ?a21 ?l21 ?c21 ?k21 ?a22 ?l22 ?c22 ?k22 ?a23 ?l23 ?c23 ?k23 ?a24 ?l24 ?c24 ?k24 ?a25 ?l25 ?c25 ?k25 ?a26 ?l26 ?c26 ?k26 ?a27 ?l27 ?c27 ?k27 ?a28 ?l28 ?c28 ?k28 ?a29 ?l29 ?c29 ?k29 ?a30 ?l30 ?c30 ?k30 ?a31 ?l31 ?c31 ?k31 ?a32 ?l32 ?c32 ?k32 ?a33 ?l33 ?c33 ?k33 ?a34 ?l34 ?c34 ?k34 ?a35 ?l35 ?c35 ?k35 ?a36 ?l36 ?c36 ?k36 ?a37 ?l37 ?c37 ?k37 ?a38 ?l38 ?c38 ?k38 ?a39 ?l39 ?c39 ?k39 ?a40 ?l40 ?c40 ?k40 ?a41 ?l41 ?c41 ?k41 ?a42 ?l42 ?c42 ?k42 ?a43 ?l43 ?c43 ?k43 ?a44 ?l44 ?c44 ?k44 ?a45 ?i45 ?l45 ?c45 ?k45 ?a46 ?i46 ?l46 ?c46 ?k46 ?a47 ?i47 ?l47 ?c47 ?k47 ?a48 ?i48 ?l48 ?c48 ?k48 ?a49 ?i49 ?l49 ?c49 ?k49 ?a50 ?i50 ?l50 ?c50 ?k50 ?a51 ?i51 ?l51 ?c51 ?k51 ?z0 ?z1 ?z2 ?z3 ?z4 ?z5 ?z6 ?z7 ?z8 ?z9 ?z10 ?z11 ?z12 ?z13 ?z14 ?z15 ?z16 ?z17
    (case aC => k_is); (case mW => k_is); (case mP => k_is); (case pg => k_is); (case hd => k_is); (case po => k_is)
    (case sa => k_is); (case nW => k_is); (case nG => k_is); (case hmk => k_is); (case hkp => k_is); (case hsf => k_is)
    (case ha => k_is); (case hn => k_is); (case ht => k_is); (case hm => k_is); (case a1 => k_is); (case l1 => k_is)
    (case c1 => k_is); (case k1 => k_is); (case a2 => k_is); (case l2 => k_is); (case c2 => k_is); (case k2 => k_is)
    (case a3 => k_is); (case l3 => k_is); (case c3 => k_is); (case k3 => k_is); (case a4 => k_is); (case l4 => k_is)
    (case c4 => k_is); (case k4 => k_is); (case a5 => k_is); (case l5 => k_is); (case c5 => k_is); (case k5 => k_is)
    (case a6 => k_is); (case l6 => k_is); (case c6 => k_is); (case k6 => k_is); (case a7 => k_is); (case l7 => k_is)
    (case c7 => k_is); (case k7 => k_is); (case a8 => k_is); (case l8 => k_is); (case c8 => k_is); (case k8 => k_is)
    (case a9 => k_is); (case l9 => k_is); (case c9 => k_is); (case k9 => k_is); (case a10 => k_is); (case l10 => k_is)
    (case c10 => k_is); (case k10 => k_is); (case a11 => k_is); (case l11 => k_is); (case c11 => k_is); (case k11 => k_is)
    (case a12 => k_is); (case l12 => k_is); (case c12 => k_is); (case k12 => k_is); (case a13 => k_is); (case l13 => k_is)
    (case c13 => k_is); (case k13 => k_is); (case a14 => k_is); (case l14 => k_is); (case c14 => k_is); (case k14 => k_is)
    (case a15 => k_is); (case l15 => k_is); (case c15 => k_is); (case k15 => k_is); (case a16 => k_is); (case l16 => k_is)
    (case c16 => k_is); (case k16 => k_is); (case a17 => k_is); (case l17 => k_is); (case c17 => k_is); (case k17 => k_is)
    (case a18 => k_is); (case l18 => k_is); (case c18 => k_is); (case k18 => k_is); (case a19 => k_is); (case l19 => k_is)
    (case c19 => k_is); (case k19 => k_is); (case a20 => k_is); (case l20 => k_is); (case c20 => k_is); (case k20 => k_is)
    (case a21 => k_is); (case l21 => k_is); (case c21 => k_is); (case k21 => k_is); (case a22 => k_is); (case l22 => k_is)
    (case c22 => k_is); (case k22 => k_is); (case a23 => k_is); (case l23 => k_is); (case c23 => k_is); (case k23 => k_is)
    (case a24 => k_is); (case l24 => k_is); (case c24 => k_is); (case k24 => k_is); (case a25 => k_is); (case l25 => k_is)
    (case c25 => k_is); (case k25 => k_is); (case a26 => k_is); (case l26 => k_is); (case c26 => k_is); (case k26 => k_is)
    (case a27 => k_is); (case l27 => k_is); (case c27 => k_is); (case k27 => k_is); (case a28 => k_is); (case l28 => k_is)
    (case c28 => k_is); (case k28 => k_is); (case a29 => k_is); (case l29 => k_is); (case c29 => k_is); (case k29 => k_is)
    (case a30 => k_is); (case l30 => k_is); (case c30 => k_is); (case k30 => k_is); (case a31 => k_is); (case l31 => k_is)
    (case c31 => k_is); (case k31 => k_is); (case a32 => k_is); (case l32 => k_is); (case c32 => k_is); (case k32 => k_is)
    (case a33 => k_is); (case l33 => k_is); (case c33 => k_is); (case k33 => k_is); (case a34 => k_is); (case l34 => k_is)
    (case c34 => k_is); (case k34 => k_is); (case a35 => k_is); (case l35 => k_is); (case c35 => k_is); (case k35 => k_is)
    (case a36 => k_is); (case l36 => k_is); (case c36 => k_is); (case k36 => k_is); (case a37 => k_is); (case l37 => k_is)
    (case c37 => k_is); (case k37 => k_is); (case a38 => k_is); (case l38 => k_is); (case c38 => k_is); (case k38 => k_is)
    (case a39 => k_is); (case l39 => k_is); (case c39 => k_is); (case k39 => k_is); (case a40 => k_is); (case l40 => k_is)
    (case c40 => k_is); (case k40 => k_is); (case a41 => k_is); (case l41 => k_is); (case c41 => k_is); (case k41 => k_is)
    (case a42 => k_is); (case l42 => k_is); (case c42 => k_is); (case k42 => k_is); (case a43 => k_is); (case l43 => k_is)
    (case c43 => k_is); (case k43 => k_is); (case a44 => k_is); (case l44 => k_is); (case c44 => k_is); (case k44 => k_is)
    (case a45 => k_is); (case i45 => k_is); (case l45 => k_is); (case c45 => k_is); (case k45 => k_is); (case a46 => k_is)
    (case i46 => k_is); (case l46 => k_is); (case c46 => k_is); (case k46 => k_is); (case a47 => k_is); (case i47 => k_is)
    (case l47 => k_is); (case c47 => k_is); (case k47 => k_is); (case a48 => k_is); (case i48 => k_is); (case l48 => k_is)
    (case c48 => k_is); (case k48 => k_is); (case a49 => k_is); (case i49 => k_is); (case l49 => k_is); (case c49 => k_is)
    (case k49 => k_is); (case a50 => k_is); (case i50 => k_is); (case l50 => k_is); (case c50 => k_is); (case k50 => k_is)
    (case a51 => k_is); (case i51 => k_is); (case l51 => k_is); (case c51 => k_is); (case k51 => k_is); (case z0 => k_is)
    (case z1 => k_is); (case z2 => k_is); (case z3 => k_is); (case z4 => k_is); (case z5 => k_is); (case z6 => k_is)
    (case z7 => k_is); (case z8 => k_is); (case z9 => k_is); (case z10 => k_is); (case z11 => k_is); (case z12 => k_is)
    (case z13 => k_is); (case z14 => k_is); (case z15 => k_is); (case z16 => k_is); (case z17 => k_is)

import PyProof.Rows.All
import Wide.All
import OpenK.AllK
import Wide.FinOn
import HandS.ForMost
import HandS.Deep
import HandS.TupAny
import HandS.TupMul
import HandS.IsInst
import HandS.SortInts
import HandS.Wide
import HandS.More
import KE.GoesMore
import KE.GoesZip
import KE.GoesEnum
import KE.KDictKeyed
import KE.KeyNested
import HandS.Strs
import HandS.SetFor
import HandS.Conv
import HandS.Style
import HandS.EndBits
import HandS.Zip
import PyProof.P3In
import KE.KDictDisplayH
import KE.DataCmp
import KE.SortData
import KE.DataMinMax
import HandS.CallLocal
import HandS.SetBool
import KE.KDictWalk
import PySem.Challenge.RW_anyvalues_k96_numbers_of_small_logs
set_option Elab.async false
set_option linter.all false
set_option maxRecDepth 100000
set_option maxHeartbeats 4000000
/-! Dicts whose keys are numbers and None, or tuples of such, nested: as things of the abstract heap. -/
namespace DPK
open PySem PySem.Spec PyProof.Rows L2
mutual
/-- no texts in it -/
def tf : NestedKey → Bool
  | .none => true
  | .num _ => true
  | .text _ => false
  | .tup ks => tfs ks
def tfs : List NestedKey → Bool
  | [] => true
  | k :: ks => tf k && tfs ks
end
mutual
/-- its hash, which no World tells -/
def h0 : NestedKey → Int
  | .none => reduceHash 0xFCA86420
  | .num i => hashInt i
  | .text _ => 0
  | .tup ks => reduceHash (Builtin.Tuple.tupleHashOf (h0s ks))
def h0s : List NestedKey → List Int
  | [] => []
  | k :: ks => h0 k :: h0s ks
end
mutual
theorem h0_ok (w : World) : ∀ k : NestedKey, tf k = true → k.hash w = h0 k
  | .none, _ => rfl
  | .num _, _ => rfl
  | .text _, h => by simp [tf] at h
  | .tup ks, h => by
    simp only [tf] at h
    simp only [NestedKey.hash, h0, h0s_ok w ks h]
theorem h0s_ok (w : World) : ∀ ks : List NestedKey, tfs ks = true → NestedKey.hashes w ks = h0s ks
  | [], _ => rfl
  | k :: ks, h => by
    simp only [tfs, Bool.and_eq_true] at h
    simp only [NestedKey.hashes, h0s, h0_ok w k h.1, h0s_ok w ks h.2]
end
mutual
def keyN : PyData → Option NestedKey
  | .none => some .none
  | .int i => some (.num i)
  | .tuple xs => (keyNs xs).map .tup
  | _ => none
def keyNs : List PyData → Option (List NestedKey)
  | [] => some []
  | x :: xs => match keyN x, keyNs xs with
    | some k, some ks => some (k :: ks)
    | _, _ => none
end
mutual
theorem keyN_tf : ∀ (d : PyData) (k : NestedKey), keyN d = some k → tf k = true
  | .none, _, h => by simp [keyN] at h; subst h; rfl
  | .int i, _, h => by simp [keyN] at h; subst h; rfl
  | .tuple xs, _, h => by
    simp only [keyN, Option.map_eq_some_iff] at h
    obtain ⟨ks, h1, rfl⟩ := h
    exact keyNs_tf xs ks h1
  | .bool _, _, h => by simp [keyN] at h
  | .str _, _, h => by simp [keyN] at h
  | .list _, _, h => by simp [keyN] at h
  | .dict _, _, h => by simp [keyN] at h
theorem keyNs_tf : ∀ (xs : List PyData) (ks : List NestedKey), keyNs xs = some ks → tfs ks = true
  | [], _, h => by simp [keyNs] at h; subst h; rfl
  | x :: xs, _, h => by
    simp only [keyNs] at h
    split at h
    · rename_i k ks h1 h2
      cases h
      simp only [tfs, keyN_tf x k h1, keyNs_tf xs ks h2, Bool.and_self]
    · cases h
end
section
variable {X : Cx} {pins : List (Addr × Obj)} {σ : L2.St} {H : Hp} {s : Shared}
mutual
/-- a value that stands for such data is such a key -/
theorem nested_of (I : Inv X pins σ H s) : ∀ (d : PyData) (k : NestedKey) (v : V) (u : Value), keyN d = some k → Dp X.K H v d → RelV v u → NestedIs s.heap k u
  | .none, _, v, u, h, hd, r => by
    simp only [keyN, Option.some.injEq] at h
    subst h
    cases hd
    cases (show u = Value.none from r)
    exact .none
  | .int i, _, v, u, h, hd, r => by
    simp only [keyN, Option.some.injEq] at h
    subst h
    cases hd
    obtain ⟨t, rfl⟩ := (show ∃ t, u = Value.int i t from r)
    exact .int i t
  | .tuple xs, _, v, u, h, hd, r => by
    simp only [keyN, Option.map_eq_some_iff] at h
    obtain ⟨ks, h1, rfl⟩ := h
    cases hd with
    | tup hs ha =>
      rename_i a vs
      cases (show u = Value.ref a from r)
      obtain ⟨its, rv, ⟨⟨cls, dd, data, sl⟩, ho, hc, n, hdt⟩, hz⟩ := I.tuple hs
      simp only at hc hdt
      exact .tup ho hc hdt (nested_ofs I xs ks vs its h1 ha rv)
  | .bool _, _, _, _, h, _, _ => by simp [keyN] at h
  | .str _, _, _, _, h, _, _ => by simp [keyN] at h
  | .list _, _, _, _, h, _, _ => by simp [keyN] at h
  | .dict _, _, _, _, h, _, _ => by simp [keyN] at h
theorem nested_ofs (I : Inv X pins σ H s) : ∀ (xs : List PyData) (ks : List NestedKey) (vs : List V) (us : List Value), keyNs xs = some ks → DpAll X.K H vs xs → Vals vs us → NestedAll s.heap ks us
  | [], _, vs, us, h, ha, r => by
    simp only [keyNs, Option.some.injEq] at h
    subst h
    cases ha
    cases r
    exact .nil
  | x :: xs, _, vs, us, h, ha, r => by
    simp only [keyNs] at h
    split at h
    · rename_i k ks h1 h2
      cases h
      cases ha with
      | cons a1 a2 =>
        cases r with
        | cons r1 r2 => exact .cons (nested_of I x k _ _ h1 a1 r1) (nested_ofs I xs ks _ _ h2 a2 r2)
    · cases h
end
end
/-- an entry: the key, its value, the value -/
abbrev En := NestedKey × V × V
/-- a key that is no tuple -/
def leafOf : NestedKey → Leaf
  | .num i => .num i
  | .text x => .text x
  | _ => .none
def isT : NestedKey → Bool
  | .tup _ => true
  | _ => false
def EntR (x : En) (e : DictEntry) : Prop := e.hash = h0 x.1 ∧ (isT x.1 = true → RelV x.2.1 e.key) ∧ (isT x.1 = false → Leaf.isOf (leafOf x.1) e.key = true) ∧ RelV x.2.2 e.val
def dOk (a : Addr) (xs : List En) (h : Heap) : Prop := xs.length ≤ sizeLine ∧ (a == sysModules) = false ∧ ∃ o es ep, h.get? a = some o ∧ o.ExactDict ∧ o.data = .dict es ep ∧ Paired EntR xs es.toList
/-- such a dict -/
def dO (a : Addr) (xs : List En) : HO := .ext (dOk a xs)
theorem dO_mut {a : Addr} {xs : List En} : Mut (some (dO a xs)) := trivial
section
variable {P : Program} {w : World} {H : Hp} {h : Heap} {a : Addr} {xs : List En}
theorem dO_of (ok : HOk P w H h) (e : Rd H a (dO a xs)) : dOk a xs h := (show ObjOk P w H h a (.ext (dOk a xs)) from e.ok ok).1
theorem dO_new {H' : Hp} (x : dOk a xs h) : ObjOk P w H' h a (dO a xs) := by
  refine ⟨x, ?_, fun h1 h2 x1 k => ?_⟩
  · obtain ⟨_, _, o, _, _, e, _⟩ := x
    exact ⟨o, e⟩
  · obtain ⟨z, y, o, es, ep, e, r⟩ := x1
    exact ⟨z, y, o, es, ep, k o e, r⟩
/-- what stands for a key: a number, None; a tuple of the kind -/
def KeyV (K : PySem.W.Frag) (H : Hp) (k : NestedKey) (v : V) : Prop := ∃ d, keyN d = some k ∧ Dp K H v d
theorem KeyV.tf {K : PySem.W.Frag} {k : NestedKey} {v : V} (x : KeyV K H k v) : DPK.tf k = true := let ⟨d, e, _⟩ := x; keyN_tf d k e
theorem KeyV.ref {K : PySem.W.Frag} {k : NestedKey} {v : V} (x : KeyV K H k v) (t : isT k = true) : ∃ b, v = .ref b := by
  obtain ⟨d, e, hd⟩ := x
  cases hd with
  | non => simp [keyN] at e; subst e; simp [isT] at t
  | bl b => simp [keyN] at e
  | int i => simp [keyN] at e; subst e; simp [isT] at t
  | str x => simp [keyN] at e
  | lst _ _ => simp [keyN] at e
  | tup _ _ => exact ⟨_, rfl⟩
theorem leaf_key {k : NestedKey} (h : isT k = false) : (leafOf k).key = k := by cases k <;> first | rfl | simp [isT] at h
theorem KeyV.leaf {K : PySem.W.Frag} {k : NestedKey} {v : V} {u : Value} (x : KeyV K H k v) (t : isT k = false) (r : RelV v u) : Leaf.isOf (leafOf k) u = true := by
  obtain ⟨d, e, hd⟩ := x
  cases hd with
  | non =>
    simp [keyN] at e; subst e
    cases (show u = Value.none from r)
    rfl
  | bl b => simp [keyN] at e
  | int i =>
    simp [keyN] at e; subst e
    obtain ⟨t, rfl⟩ := (show ∃ t, u = Value.int i t from r)
    exact decide_eq_true rfl
  | str x => simp [keyN] at e
  | lst _ _ => simp [keyN] at e
  | tup _ _ =>
    simp only [keyN, Option.map_eq_some_iff] at e
    obtain ⟨ks, _, rfl⟩ := e
    simp [isT] at t
end
/-! the same on data -/
def isTD : PyData → Bool
  | .tuple _ => true
  | _ => false
def keyK (d : PyData) : Option NestedKey := match keyN d with
  | some k => if k.depth ≤ 8 then some k else none
  | none => none
def dfind (kvs : List (PyData × PyData)) (k : NestedKey) : Option PyData := (kvs.find? fun p => decide (keyN p.1 = some k)).map (·.2)
def dput (kvs : List (PyData × PyData)) (k : NestedKey) (kd vd : PyData) : List (PyData × PyData) :=
  if (dfind kvs k).isSome then kvs.map fun p => if keyN p.1 = some k then (p.1, vd) else p else kvs ++ [(kd, vd)]
def kinds (b : Bool) (kvs : List (PyData × PyData)) : Bool := kvs.all fun p => decide (isTD p.1 = b)
/-- looking up, where the kind of the key is that of the keys -/
def dlook (kvs : List (PyData × PyData)) (y : PyData) : Option (Option PyData) := match keyK y with
  | some k => if kinds (isTD y) kvs then some (dfind kvs k) else none
  | none => none
def dstore (kvs : List (PyData × PyData)) (y v : PyData) : Option (List (PyData × PyData)) := match keyK y with
  | some k => if kinds (isTD y) kvs && decide (kvs.length < 16777216) then some (dput kvs k y v) else none
  | none => none
structure KdOk (kvs : List (PyData × PyData)) : Prop where
  ok : ∀ p ∈ kvs, ∃ k, keyK p.1 = some k
  nd : (kvs.map fun p => keyN p.1).Nodup
theorem keyK_inv {d : PyData} {k : NestedKey} (h : keyK d = some k) : keyN d = some k ∧ k.depth ≤ 8 := by
  unfold keyK at h
  split at h
  · rename_i q e
    split at h
    · rename_i hd
      cases h
      exact ⟨e, hd⟩
    · cases h
  · cases h
theorem keyN_isT {d : PyData} {k : NestedKey} (h : keyN d = some k) : isT k = isTD d := by
  cases d <;> simp only [keyN, Option.some.injEq, reduceCtorEq, Option.map_eq_some_iff] at h
  · subst h; rfl
  · subst h; rfl
  · obtain ⟨_, _, rfl⟩ := h; rfl
mutual
theorem keyN_lay : ∀ (d : PyData) (k : NestedKey), keyN d = some k → d.canLay0 = true
  | .none, _, _ => rfl
  | .int i, _, _ => rfl
  | .tuple xs, _, h => by
    simp only [keyN, Option.map_eq_some_iff] at h
    obtain ⟨ks, h1, _⟩ := h
    simp only [PyData.canLay0]
    exact keyNs_lay xs ks h1
  | .bool _, _, h => by simp [keyN] at h
  | .str _, _, h => by simp [keyN] at h
  | .list _, _, h => by simp [keyN] at h
  | .dict _, _, h => by simp [keyN] at h
theorem keyNs_lay : ∀ (xs : List PyData) (ks : List NestedKey), keyNs xs = some ks → PyData.canLayAll0 xs = true
  | [], _, _ => rfl
  | x :: xs, _, h => by
    simp only [keyNs] at h
    split at h
    · rename_i k ks h1 h2
      simp only [PyData.canLayAll0, keyN_lay x k h1, keyNs_lay xs ks h2, Bool.and_self]
    · cases h
end
mutual
theorem keyN_inj : ∀ (d d' : PyData) (k : NestedKey), keyN d = some k → keyN d' = some k → d = d'
  | .none, d', _, h, h' => by
    simp only [keyN, Option.some.injEq] at h
    subst h
    cases d' <;> simp [keyN] at h'
    rfl
  | .int i, d', _, h, h' => by
    simp only [keyN, Option.some.injEq] at h
    subst h
    cases d' <;> simp [keyN] at h'
    rw [h']
  | .tuple xs, d', _, h, h' => by
    simp only [keyN, Option.map_eq_some_iff] at h
    obtain ⟨ks, h1, rfl⟩ := h
    cases d' <;> simp [keyN] at h'
    rename_i ys
    rw [keyNs_inj xs ys ks h1 h']
  | .bool _, _, _, h, _ => by simp [keyN] at h
  | .str _, _, _, h, _ => by simp [keyN] at h
  | .list _, _, _, h, _ => by simp [keyN] at h
  | .dict _, _, _, h, _ => by simp [keyN] at h
theorem keyNs_inj : ∀ (xs ys : List PyData) (ks : List NestedKey), keyNs xs = some ks → keyNs ys = some ks → xs = ys
  | [], ys, _, h, h' => by
    simp only [keyNs, Option.some.injEq] at h
    subst h
    cases ys with
    | nil => rfl
    | cons y ys =>
      simp only [keyNs] at h'
      split at h' <;> simp at h'
  | x :: xs, ys, _, h, h' => by
    simp only [keyNs] at h
    split at h
    · rename_i k ks h1 h2
      cases h
      cases ys with
      | nil => simp [keyNs] at h'
      | cons y ys =>
        simp only [keyNs] at h'
        split at h'
        · rename_i k' ks' h3 h4
          simp only [Option.some.injEq, List.cons.injEq] at h'
          obtain ⟨rfl, rfl⟩ := h'
          rw [keyN_inj x y _ h1 h3, keyNs_inj xs ys _ h2 h4]
        · cases h'
    · cases h
end
theorem dput_len (kvs : List (PyData × PyData)) (k : NestedKey) (kd vd : PyData) : (dput kvs k kd vd).length ≤ kvs.length + 1 := by
  unfold dput
  split
  · rw [List.length_map]; omega
  · simp
theorem KdOk.put {kvs : List (PyData × PyData)} {k : NestedKey} {kd vd : PyData} (h : KdOk kvs) (hk : keyK kd = some k) : KdOk (dput kvs k kd vd) := by
  unfold dput
  split
  · refine ⟨fun p hp => ?_, ?_⟩
    · obtain ⟨q, hq, rfl⟩ := List.mem_map.mp hp
      obtain ⟨j, hj⟩ := h.ok q hq
      refine ⟨j, ?_⟩
      split <;> exact hj
    · have : ((kvs.map fun p => if keyN p.1 = some k then (p.1, vd) else p).map fun p => keyN p.1) = kvs.map fun p => keyN p.1 := by
        rw [List.map_map]
        refine List.map_congr_left fun x _ => ?_
        show keyN (if keyN x.1 = some k then (x.1, vd) else x).1 = keyN x.1
        split <;> rfl
      rw [this]
      exact h.nd
  · rename_i hn
    refine ⟨fun p hp => ?_, ?_⟩
    · rcases List.mem_append.mp hp with hp | hp
      · exact h.ok p hp
      · cases List.mem_singleton.mp hp
        exact ⟨k, hk⟩
    · rw [List.map_append, List.map_cons, List.map_nil]
      refine List.nodup_append.mpr ⟨h.nd, by simp, fun y hy z hz => ?_⟩
      cases List.mem_singleton.mp hz
      rintro rfl
      obtain ⟨x, hx, e⟩ := List.mem_map.mp hy
      apply hn
      unfold dfind
      rw [Option.isSome_map]
      exact List.find?_isSome.mpr ⟨x, hx, decide_eq_true (e.trans (keyK_inv hk).1)⟩
theorem KdOk.nil : KdOk [] := ⟨fun _ h => (nomatch h), List.nodup_nil⟩
/-! looking up and storing -/
def xfind (xs : List En) (k : NestedKey) : Option V := (xs.find? fun x => decide (x.1 = k)).map (·.2.2)
def xput (xs : List En) (k : NestedKey) (kv v : V) : List En := if (xfind xs k).isSome then xs.map fun x => if x.1 = k then (x.1, x.2.1, v) else x else xs ++ [(k, kv, v)]
theorem xput_len (xs : List En) (k : NestedKey) (kv v : V) : (xput xs k kv v).length ≤ xs.length + 1 := by
  unfold xput
  split
  · rw [List.length_map]; omega
  · simp
theorem xput_keys (xs : List En) (k : NestedKey) (kv v : V) (n : (xs.map (·.1)).Nodup) : ((xput xs k kv v).map (·.1)).Nodup := by
  unfold xput
  split
  · have : (xs.map fun x => if x.1 = k then (x.1, x.2.1, v) else x).map (·.1) = xs.map (·.1) := by
      rw [List.map_map]
      refine List.map_congr_left fun x _ => ?_
      show (if x.1 = k then (x.1, x.2.1, v) else x).1 = x.1
      split <;> rfl
    rw [this]
    exact n
  · rename_i h
    rw [List.map_append, List.map_cons, List.map_nil]
    refine List.nodup_append.mpr ⟨n, by simp, fun y hy z hz => ?_⟩
    cases List.mem_singleton.mp hz
    rintro rfl
    obtain ⟨x, hx, e⟩ := List.mem_map.mp hy
    apply h
    unfold xfind
    rw [Option.isSome_map]
    exact List.find?_isSome.mpr ⟨x, hx, decide_eq_true e⟩
/-- all keys of the one kind -/
structure Keys (K : PySem.W.Frag) (H : Hp) (b : Bool) (xs : List En) : Prop where
  nd : (xs.map (·.1)).Nodup
  ok : ∀ x ∈ xs, KeyV K H x.1 x.2.1 ∧ x.1.depth ≤ 8 ∧ isT x.1 = b
section
variable {X : Cx} {pins : List (Addr × Obj)} {σ : L2.St} {H : Hp} {s : Shared} {a : Addr} {xs : List En}
def EnH (x : En) (y : NestedKey × Addr × Value) : Prop := x.1 = y.1 ∧ x.2.1 = .ref y.2.1 ∧ RelV x.2.2 y.2.2
def EnL (x : En) (y : Leaf × Value) : Prop := x.1 = y.1.key ∧ RelV x.2.2 y.2
theorem toH_aux (I : Inv X pins σ H s) : ∀ {xs : List En} {es : List DictEntry}, Paired EntR xs es → (∀ x ∈ xs, KeyV X.K H x.1 x.2.1 ∧ x.1.depth ≤ 8 ∧ isT x.1 = true) →
    ∃ ys : List (NestedKey × Addr × Value), es = ys.map (entryOfKey (nestedKind X.prog X.w)) ∧ (∀ y ∈ ys, (nestedKind X.prog X.w).is s.heap y.1 y.2.1) ∧ Paired EnH xs ys
  | _, _, .nil, _ => ⟨[], rfl, (fun _ h => nomatch h), .nil⟩
  | _, _, .cons (a := x) (b := e) r t, hk => by
    obtain ⟨ys, h1, h2, h3⟩ := toH_aux I t fun y hy => hk y (List.mem_cons_of_mem _ hy)
    obtain ⟨k1, k2, k3⟩ := hk _ List.mem_cons_self
    obtain ⟨b, eb⟩ := k1.ref k3
    obtain ⟨r1, r2, _, r3⟩ := r
    have ek : e.key = .ref b := by have r2 := r2 k3; rw [eb] at r2; exact r2
    have htf := k1.tf
    obtain ⟨d, ed, hd⟩ := k1
    refine ⟨(x.1, b, e.val) :: ys, ?_, fun y hy => ?_, .cons ⟨rfl, eb, r3⟩ h3⟩
    · rw [List.map_cons, ← h1]
      congr 1
      show e = ⟨x.1.hash X.w, .ref b, e.val⟩
      rw [h0_ok X.w x.1 htf, ← r1, ← ek]
    · rcases List.mem_cons.mp hy with rfl | hy
      · exact ⟨nested_of I d x.1 x.2.1 (.ref b) ed hd (by rw [eb]; rfl), k2⟩
      · exact h2 y hy
theorem EnH.keys : ∀ {xs : List En} {ys : List (NestedKey × Addr × Value)}, Paired EnH xs ys → xs.map (·.1) = ys.map (·.1)
  | _, _, .nil => rfl
  | _, _, .cons r t => by rw [List.map_cons, List.map_cons, r.1, EnH.keys t]
theorem toH (I : Inv X pins σ H s) (e : Rd H a (dO a xs)) (hk : Keys X.K H true xs) : ∃ ys, s.heap.DictOfH (nestedKind X.prog X.w) a ys ∧ Paired EnH xs ys := by
  obtain ⟨z, y, o, es, ep, e1, e2, e3, e4⟩ := dO_of I.hok e
  obtain ⟨ys, h1, h2, h3⟩ := toH_aux I e4 hk.ok
  exact ⟨ys, ⟨o, es, ep, e1, e2, e3, h1, h2, by rw [← EnH.keys h3]; exact hk.nd⟩, h3⟩
theorem toL_aux : ∀ {xs : List En} {es : List DictEntry}, Paired EntR xs es → (∀ x ∈ xs, KeyV X.K H x.1 x.2.1 ∧ x.1.depth ≤ 8 ∧ isT x.1 = false) →
    ∃ ys : List (Leaf × Value), Pairs (leafKind X.prog X.w) es ys ∧ (∀ e ∈ es, ∃ k, (leafKind X.prog X.w).is k e.key = true ∧ e.hash = (leafKind X.prog X.w).hash k) ∧ Paired EnL xs ys
  | _, _, .nil, _ => ⟨[], .nil, fun _ h => (nomatch h), .nil⟩
  | _, _, .cons (a := x) (b := e) r t, hk => by
    obtain ⟨ys, h1, h2, h3⟩ := toL_aux t fun y hy => hk y (List.mem_cons_of_mem _ hy)
    obtain ⟨k1, k2, k3⟩ := hk _ List.mem_cons_self
    obtain ⟨r1, _, r2, r3⟩ := r
    have hl := r2 k3
    refine ⟨(leafOf x.1, e.val) :: ys, .cons hl rfl h1, fun y hy => ?_, .cons ⟨(leaf_key k3).symm, r3⟩ h3⟩
    rcases List.mem_cons.mp hy with rfl | hy
    · refine ⟨leafOf x.1, hl, ?_⟩
      show _ = (leafOf x.1).key.hash X.w
      rw [leaf_key k3, h0_ok X.w x.1 k1.tf, r1]
    · exact h2 y hy
theorem EnL.keys : ∀ {xs : List En} {ys : List (Leaf × Value)}, Paired EnL xs ys → xs.map (·.1) = ys.map fun y => y.1.key
  | _, _, .nil => rfl
  | _, _, .cons r t => by rw [List.map_cons, List.map_cons, r.1, EnL.keys t]
theorem toL (I : Inv X pins σ H s) (e : Rd H a (dO a xs)) (hk : Keys X.K H false xs) : ∃ ys, s.heap.DictOf (leafKind X.prog X.w) a ys ∧ Paired EnL xs ys := by
  obtain ⟨z, y, o, es, ep, e1, e2, e3, e4⟩ := dO_of I.hok e
  obtain ⟨ys, h1, h2, h3⟩ := toL_aux (X := X) e4 hk.ok
  refine ⟨ys, ⟨o, es, ep, e1, e2, e3, fun x hx => h2 x (Array.mem_toList_iff.mpr hx), h1, ?_⟩, h3⟩
  have n := hk.nd
  rw [EnL.keys h3] at n
  have : ys.map (fun y => y.1.key) = (ys.map (·.1)).map Leaf.key := by rw [List.map_map]; rfl
  rw [this] at n
  exact (List.pairwise_map.mp n).imp fun h e => h (congrArg Leaf.key e)
theorem find_H {k : NestedKey} : ∀ {xs : List En} {ys : List (NestedKey × Addr × Value)}, Paired EnH xs ys → RelO (xfind xs k) ((atKey ys k).map (·.2))
  | _, _, .nil => trivial
  | _, _, .cons (a := x) (b := y) r t => by
    have ih := find_H (k := k) t
    unfold xfind atKey at ih ⊢
    rw [List.find?_cons, List.find?_cons]
    have e : decide (x.1 = k) = decide (y.1 = k) := by rw [r.1]
    rw [e]
    cases decide (y.1 = k) with
    | true => exact r.2.2
    | false => exact ih
theorem find_L {k : Leaf} : ∀ {xs : List En} {ys : List (Leaf × Value)}, Paired EnL xs ys → RelO (xfind xs k.key) (valueAt ys k)
  | _, _, .nil => trivial
  | _, _, .cons (a := x) (b := y) r t => by
    have ih := find_L (k := k) t
    unfold xfind valueAt at ih ⊢
    rw [List.find?_cons, List.find?_cons]
    have e : decide (x.1 = k.key) = decide (y.1 = k) := by
      rw [r.1]
      by_cases q : y.1 = k
      · rw [decide_eq_true q, decide_eq_true (congrArg Leaf.key q)]
      · rw [decide_eq_false q, decide_eq_false fun z => q (Leaf.key_inj z)]
    rw [e]
    cases decide (y.1 = k) with
    | true => exact r.2
    | false => exact ih
end

section
variable {X : Cx} {pins : List (Addr × Obj)} {σ : L2.St} {H : Hp} {s : Shared} {a : Addr} {xs : List En} {A : Around} {E : Value → Shared → Prop} {b : Bool} {k : NestedKey} {y v : V} {u r : Value}
theorem room1 {A : Around} (hu : A.units + 60 < cLine) {P : Program} {w : World} : (nestedKind P w).room A.in1 := by
  show A.units + 1 + 8 < cLine
  omega
theorem key_H (I : Inv X pins σ H s) (hk : KeyV X.K H k y) (hd : k.depth ≤ 8) (t : isT k = true) (r : RelV y u) : ∃ c, u = .ref c ∧ (nestedKind X.prog X.w).is s.heap k c := by
  obtain ⟨c, ec⟩ := hk.ref t
  subst ec
  cases (show u = Value.ref c from r)
  obtain ⟨d, ed, hdp⟩ := hk
  exact ⟨c, rfl, nested_of I d k _ _ ed hdp rfl, hd⟩
/-- y in d -/
theorem d_in {Q : Value → Shared → Prop} (hu : A.units + 60 < cLine) (I : Inv X pins σ H s) (e : Rd H a (dO a xs)) (hK : Keys X.K H b xs) (hk : KeyV X.K H k y) (hd : k.depth ≤ 8) (t : isT k = b) (ry : RelV y u) (h : ∀ s', Inv X pins σ H s' → Q (.bool (xfind xs k).isSome) s') :
    wpAny (model X.prog X.w) A (compareOp .In u (.ref a)) Q E s := by
  have hsm := (dO_of I.hok e).2.1
  cases b with
  | true =>
    obtain ⟨c, rfl, hc⟩ := key_H I hk hd t ry
    obtain ⟨ys, dd, rel⟩ := toH I e hK
    refine wpAny_in_heap (room1 hu) hc hsm dd ?_
    have q := (find_H (k := k) rel).isSome_eq
    rw [Option.isSome_map] at q
    rw [← q]
    exact h _ (I.tok _)
  | false =>
    obtain ⟨ys, dd, rel⟩ := toL I e hK
    refine wpAny_in_of (hk.leaf t ry) hsm dd.mapOf ?_
    have q := (find_L (k := leafOf k) rel).isSome_eq
    rw [leaf_key t] at q
    rw [← q]
    exact h _ (I.tok _)
theorem d_notIn {Q : Value → Shared → Prop} (hu : A.units + 60 < cLine) (I : Inv X pins σ H s) (e : Rd H a (dO a xs)) (hK : Keys X.K H b xs) (hk : KeyV X.K H k y) (hd : k.depth ≤ 8) (t : isT k = b) (ry : RelV y u) (h : ∀ s', Inv X pins σ H s' → Q (.bool (!(xfind xs k).isSome)) s') :
    wpAny (model X.prog X.w) A (compareOp .NotIn u (.ref a)) Q E s := by
  have hsm := (dO_of I.hok e).2.1
  cases b with
  | true =>
    obtain ⟨c, rfl, hc⟩ := key_H I hk hd t ry
    obtain ⟨ys, dd, rel⟩ := toH I e hK
    refine wpAny_notIn_heap (room1 hu) hc hsm dd ?_
    have q := (find_H (k := k) rel).isSome_eq
    rw [Option.isSome_map] at q
    rw [← q]
    exact h _ (I.tok _)
  | false =>
    obtain ⟨ys, dd, rel⟩ := toL I e hK
    refine wpAny_notIn_of (hk.leaf t ry) hsm dd.mapOf ?_
    have q := (find_L (k := leafOf k) rel).isSome_eq
    rw [leaf_key t] at q
    rw [← q]
    exact h _ (I.tok _)
/-- d[y], there -/
theorem d_getItem {Q : Value → Shared → Prop} (hu : A.units + 60 < cLine) (I : Inv X pins σ H s) (e : Rd H a (dO a xs)) (hK : Keys X.K H b xs) (hk : KeyV X.K H k y) (hd : k.depth ≤ 8) (t : isT k = b) (ry : RelV y u) (hv : xfind xs k = some v) (h : ∀ w' s', Inv X pins σ H s' → RelV v w' → Q w' s') :
    wpAny (model X.prog X.w) A (getItem (.ref a) u) Q E s := by
  cases b with
  | true =>
    obtain ⟨c, rfl, hc⟩ := key_H I hk hd t ry
    obtain ⟨ys, dd, rel⟩ := toH I e hK
    obtain ⟨w', hw, rw'⟩ := RelO.some_of (v := v) (o := (atKey ys k).map (·.2)) (by rw [← hv]; exact find_H rel)
    obtain ⟨p, hp, hp2⟩ := Option.map_eq_some_iff.mp hw
    refine wpAny_getItem_heap (room1 hu) hc dd hp ?_
    rw [hp2]
    exact h w' _ (I.tok _) rw'
  | false =>
    obtain ⟨ys, dd, rel⟩ := toL I e hK
    obtain ⟨w', hw, rw'⟩ := RelO.some_of (v := v) (o := valueAt ys (leafOf k)) (by rw [← hv]; have := find_L (k := leafOf k) rel; rw [leaf_key t] at this; exact this)
    exact wpAny_getItem_of (hk.leaf t ry) dd.mapOf hw (h w' _ (I.tok _) rw')
theorem Paired.map2 {α β γ δ : Type} {R : α → β → Prop} {R' : γ → δ → Prop} {f : α → γ} {g : β → δ} (hf : ∀ x y, R x y → R' (f x) (g y)) : ∀ {xs : List α} {ys : List β}, Paired R xs ys → Paired R' (xs.map f) (ys.map g)
  | _, _, .nil => .nil
  | _, _, .cons r t => .cons (hf _ _ r) (Paired.map2 hf t)
theorem put_H {c : Addr} {v : V} {r : Value} (rv : RelV v r) {xs : List En} {ys : List (NestedKey × Addr × Value)} (rel : Paired EnH xs ys) : Paired EnH (xput xs k (.ref c) v) (storedH ys k c r) := by
  have e : (xfind xs k).isSome = (atKey ys k).isSome := by
    have q := (find_H (k := k) rel).isSome_eq
    rwa [Option.isSome_map] at q
  unfold xput storedH
  rw [e]
  split
  · refine Paired.map2 (fun x y r0 => ?_) rel
    unfold putAt
    by_cases q : x.1 = k
    · rw [if_pos q, if_pos (by rw [← r0.1]; exact q)]
      exact ⟨r0.1, r0.2.1, rv⟩
    · rw [if_neg q, if_neg (by rw [← r0.1]; exact q)]
      exact r0
  · exact Paired.snoc rel ⟨rfl, rfl, rv⟩
theorem put_L {l : Leaf} {kv v : V} {r : Value} (rv : RelV v r) {xs : List En} {ys : List (Leaf × Value)} (rel : Paired EnL xs ys) : Paired EnL (xput xs l.key kv v) (stored ys l r) := by
  have e : (xfind xs l.key).isSome = ys.any (fun y => decide (y.1 = l)) := by
    have q := (find_L (k := l) rel).isSome_eq
    rw [q]
    unfold valueAt
    rw [Option.isSome_map]
    exact List.isSome_find?
  unfold xput stored
  rw [e]
  split
  · refine Paired.map2 (fun x y r0 => ?_) rel
    by_cases q : y.1 = l
    · rw [if_pos (by rw [r0.1, q]), if_pos q]
      exact ⟨r0.1, rv⟩
    · rw [if_neg (by rw [r0.1]; exact fun z => q (Leaf.key_inj z)), if_neg q]
      exact r0
  · exact Paired.snoc rel ⟨rfl, rv⟩
theorem raw_H : ∀ {xs : List En} {ys : List (NestedKey × Addr × Value)}, Paired EnH xs ys → (∀ x ∈ xs, tf x.1 = true ∧ isT x.1 = true) → Paired EntR xs (ys.map (entryOfKey (nestedKind X.prog X.w)))
  | _, _, .nil, _ => .nil
  | _, _, .cons (a := x) (b := y) r t, h => by
    refine .cons ⟨?_, fun _ => ?_, fun z => ?_, r.2.2⟩ (raw_H t fun z hz => h z (List.mem_cons_of_mem _ hz))
    · show y.1.hash X.w = h0 x.1
      rw [← r.1, h0_ok X.w x.1 (h x List.mem_cons_self).1]
    · show RelV x.2.1 (.ref y.2.1)
      rw [r.2.1]
      rfl
    · rw [(h x List.mem_cons_self).2] at z
      cases z
theorem xput_mem {x : En} {kv : V} (h : x ∈ xput xs k kv v) : (∃ z ∈ xs, x.1 = z.1 ∧ x.2.1 = z.2.1) ∨ (x.1 = k ∧ x.2.1 = kv) := by
  unfold xput at h
  split at h
  · obtain ⟨z, hz, rfl⟩ := List.mem_map.mp h
    refine .inl ⟨z, hz, ?_⟩
    split <;> exact ⟨rfl, rfl⟩
  · rcases List.mem_append.mp h with h | h
    · exact .inl ⟨x, h, rfl, rfl⟩
    · cases List.mem_singleton.mp h
      exact .inr ⟨rfl, rfl⟩
theorem raw_L : ∀ {xs : List En} {es : List DictEntry} {ys : List (Leaf × Value)}, Paired EnL xs ys → Pairs (leafKind X.prog X.w) es ys → (∀ e ∈ es, ∃ k, (leafKind X.prog X.w).is k e.key = true ∧ e.hash = (leafKind X.prog X.w).hash k) → (∀ x ∈ xs, tf x.1 = true ∧ isT x.1 = false) → Paired EntR xs es
  | _, _, _, .nil, .nil, _, _ => .nil
  | _, _, _, .cons (a := x) (b := y) r t, .cons (e := e) p1 p2 p3, hk, h => by
    refine .cons ⟨?_, fun z => ?_, fun z => ?_, by rw [p2]; exact r.2⟩ (raw_L t p3 (fun e he => hk e (List.mem_cons_of_mem _ he)) fun z hz => h z (List.mem_cons_of_mem _ hz))
    · obtain ⟨k', q1, q2⟩ := hk _ List.mem_cons_self
      have : k' = y.1 := (leafKind X.prog X.w).inj _ _ _ q1 p1
      rw [q2, this]
      show y.1.key.hash X.w = h0 x.1
      rw [← r.1, h0_ok X.w x.1 (h x List.mem_cons_self).1]
    · rw [(h x List.mem_cons_self).2] at z
      cases z
    · have : leafOf x.1 = y.1 := Leaf.key_inj (by rw [leaf_key z, r.1])
      rw [this]
      exact p1
theorem xput_all {kv : V} (hK : Keys X.K H b xs) (hk : KeyV X.K H k kv) (hd : k.depth ≤ 8) (t : isT k = b) : ∀ x ∈ xput xs k kv v, tf x.1 = true ∧ isT x.1 = b := fun x hx => by
  rcases xput_mem hx with ⟨z, hz, e1, _⟩ | ⟨e1, _⟩
  · obtain ⟨q1, _, q3⟩ := hK.ok z hz
    rw [e1]
    exact ⟨q1.tf, q3⟩
  · rw [e1]
    exact ⟨hk.tf, t⟩
/-- d[y] = v -/
theorem d_setItem {Q : Unit → Shared → Prop} (hu : A.units + 60 < cLine) (I : Inv X pins σ H s) (e : H a = some (dO a xs)) (hK : Keys X.K H b xs) (hk : KeyV X.K H k y) (hd : k.depth ≤ 8) (t : isT k = b) (ry : RelV y u) (rv : RelV v r) (hz : xs.length < sizeLine) (h : ∀ s', Inv X pins σ (upd H a (dO a (xput xs k y v))) s' → Q () s') :
    wpAny (model X.prog X.w) A (setItem (.ref a) u r) Q E s := by
  have hsm := (dO_of I.hok (.inl e)).2.1
  have hl : (xput xs k y v).length ≤ sizeLine := by have := xput_len xs k y v; omega
  have hall := xput_all (v := v) hK hk hd t
  cases b with
  | true =>
    obtain ⟨c, rfl, hc⟩ := key_H I hk hd t ry
    have ey : y = .ref c := by
      obtain ⟨b', eb⟩ := hk.ref t
      rw [eb] at ry ⊢
      cases (show Value.ref c = Value.ref b' from ry)
      rfl
    obtain ⟨ys, dd, rel⟩ := toH I (.inl e) hK
    have hlen : ys.length = xs.length := (Paired.length rel).symm
    refine wpAny_setItem_heap (hsz := by omega) (room1 hu) hc dd fun h' dd' hs => h _ ?_
    obtain ⟨q, es, ep, hq, h2, h3, h4, _, h5⟩ := dd'
    refine d_write I (by rw [e]; exact dO_mut) hs ⟨q, hq⟩ (dO_new ⟨hl, hsm, q, es, ep, hq, h2, h3, ?_⟩)
    rw [h4]
    have rel' := put_H (k := k) (c := c) rv rel
    rw [← ey] at rel'
    exact raw_H rel' hall
  | false =>
    obtain ⟨ys, dd, rel⟩ := toL I (.inl e) hK
    have hlen : ys.length = xs.length := (Paired.length rel).symm
    refine wpAny_setItem_pairs (hsz := by omega) (hk.leaf t ry) dd fun h' dd' hs => h _ ?_
    obtain ⟨q, es, ep, hq, h2, h3, h4, h5, h6⟩ := dd'
    refine d_write I (by rw [e]; exact dO_mut) hs ⟨q, hq⟩ (dO_new ⟨hl, hsm, q, es, ep, hq, h2, h3, ?_⟩)
    have rel' := put_L (l := leafOf k) (kv := y) rv rel
    rw [leaf_key t] at rel'
    exact raw_L rel' h5 (fun e he => h4 e (Array.mem_toList_iff.mp he)) hall
/-- d.get(y) -/
theorem d_get1 {Q : Value → Shared → Prop} (hu : A.units + 60 < cLine) (I : Inv X pins σ H s) (e : Rd H a (dO a xs)) (hK : Keys X.K H b xs) (hk : KeyV X.K H k y) (hd : k.depth ≤ 8) (t : isT k = b) (ry : RelV y u) (h : ∀ w' s', Inv X pins σ H s' → RelV ((xfind xs k).getD .non) w' → Q w' s') :
    wpAny (model X.prog X.w) A (call (.builtin "dict.get") [.ref a, u]) Q E s := by
  have hsm := (dO_of I.hok e).2.1
  cases b with
  | true =>
    obtain ⟨c, rfl, hc⟩ := key_H I hk hd t ry
    obtain ⟨ys, dd, rel⟩ := toH I e hK
    refine call_meetsIn PySem.F.slot_dict_get dd.typeIs PySem.F.entry_dict_get (PySem.F.args_dict_get_2 _ _) (meetsH_dict_get (nestedKind X.prog X.w) a c hsm) ⟨room1 hu, k, ys, hc, dd, h _ _ (I.tok _) ?_⟩
    exact (find_H rel).getD rfl
  | false =>
    obtain ⟨ys, dd, rel⟩ := toL I e hK
    refine call_meetsIn PySem.F.slot_dict_get dd.typeIs PySem.F.entry_dict_get (PySem.F.args_dict_get_2 _ _) (meets_dict_get (leafKind X.prog X.w) a (hk.leaf t ry) hsm) ⟨_, dd.mapOf, h _ _ (I.tok _) ?_⟩
    have := find_L (k := leafOf k) rel
    rw [leaf_key t] at this
    exact this.getD rfl
/-- d.get(y, z) -/
theorem d_get2 {z : V} {rz : Value} {Q : Value → Shared → Prop} (hu : A.units + 60 < cLine) (I : Inv X pins σ H s) (e : Rd H a (dO a xs)) (hK : Keys X.K H b xs) (hk : KeyV X.K H k y) (hd : k.depth ≤ 8) (t : isT k = b) (ry : RelV y u) (hr : RelV z rz) (h : ∀ w' s', Inv X pins σ H s' → RelV ((xfind xs k).getD z) w' → Q w' s') :
    wpAny (model X.prog X.w) A (call (.builtin "dict.get") [.ref a, u, rz]) Q E s := by
  have hsm := (dO_of I.hok e).2.1
  cases b with
  | true =>
    obtain ⟨c, rfl, hc⟩ := key_H I hk hd t ry
    obtain ⟨ys, dd, rel⟩ := toH I e hK
    refine call_meetsIn PySem.F.slot_dict_get dd.typeIs PySem.F.entry_dict_get (PySem.F.args_dict_get_3 _ _ _) (meetsH_dict_get_default (nestedKind X.prog X.w) a c hsm rz) ⟨room1 hu, k, ys, hc, dd, h _ _ (I.tok _) ?_⟩
    exact (find_H rel).getD hr
  | false =>
    obtain ⟨ys, dd, rel⟩ := toL I e hK
    refine call_meetsIn PySem.F.slot_dict_get dd.typeIs PySem.F.entry_dict_get (PySem.F.args_dict_get_3 _ _ _) (meets_dict_get_default (leafKind X.prog X.w) a (hk.leaf t ry) hsm rz) ⟨_, dd.mapOf, h _ _ (I.tok _) ?_⟩
    have := find_L (k := leafOf k) rel
    rw [leaf_key t] at this
    exact this.getD hr
theorem dO_typeIs (I : Inv X pins σ H s) (e : Rd H a (dO a xs)) : s.TypeIs (.ref a) "dict" ∧ (∀ b, Value.ref a = .ref b → ∃ ob, s.heap.get? b = some ob ∧ ob.dict = none) := by
  obtain ⟨z, y, o, es, ep, e1, e2, e3, e4⟩ := dO_of I.hok e
  refine ⟨⟨o, e1, e2.1⟩, fun b q => ?_⟩
  cases q
  exact ⟨o, e1, e2.2.1⟩
/-- {} -/
def tNew : TE := fun _ H Q => ∀ p, H p = none → Q (.ref p) (upd H p (dO p []))
theorem dO_empty {P : Program} {w : World} {H : Hp} (h : Heap) (hb : sysModules < h.objs.size) : ObjOk P w H (h.push { cls := .type "dict", data := .dict #[] }) h.objs.size (dO h.objs.size []) :=
  dO_new ⟨Nat.zero_le _, beq_eq_false_iff_ne.mpr (Ne.symm (Nat.ne_of_lt hb)), _, #[], 0, Heap.get?_push_size _ rfl, ⟨rfl, rfl, rfl⟩, rfl, .nil⟩
theorem pe_new {pos : Pos} : PE X (.Dict [] [] pos) tNew := ⟨fun pins s σ H Q I h =>
  wpAny_Dict_empty ⟨.ref s.heap.objs.size, _, I.laid (a := s.heap.objs.size) (o := dO s.heap.objs.size []) (t' := s.toks) (fun _ _ q => Heap.get?_push_of_some _ q) (Nat.le_refl _) (dO_empty s.heap I.big), rfl, h _ (I.hok.fresh (Nat.le_refl _))⟩⟩
end
/-! rules by values -/
section
variable {X : Cx} {pins : List (Addr × Obj)} {σ : L2.St} {H : Hp} {s : Shared} {a : Addr} {xs : List En} {b : Bool} {k : NestedKey} {y v : V} {u : Value}
theorem ixd {value slice : Expr} {Q : VK} (hu : X.A.units + 60 < cLine) (I : Inv X pins σ H s) (e : Rd H a (dO a xs)) (hK : Keys X.K H b xs) (hk : KeyV X.K H k y) (hd : k.depth ≤ 8) (t : isT k = b) (ry : RelV y u) (hv : xfind xs k = some v) (q : Q v H)
    (hs : subscripted slice false (.ref a) u = operate [.ref a, u] (getItem (.ref a) u)) : wpAny (model X.prog X.w) X.A (subscriptTail value slice (.ref a) u) (EP X pins σ Q) X.xe s := by
  have hT := (dO_typeIs I e).1
  unfold subscriptTail
  refine wpAny_bind ?_
  rw [getitemInPython_of_ne hT.not_modules]
  refine wpAny_bind (wpAny_specialOf hT PySem.F.slot_dict_getitem.lookup ?_)
  have fin : wpAny (model X.prog X.w) X.A (subscripted slice false (.ref a) u >>= fun r => letTemporaryGo value (.ref a) r >>= fun _ => pure r) (EP X pins σ Q) X.xe s := by
    refine wpAny_bind ?_
    rw [hs]
    exact wpAny_operating (d_getItem hu I e hK hk hd t ry hv fun w' s' I' rw' => wpAny_bind (wpAny_letTemporaryGo (wpAny_pure ⟨v, H, I', rw', q⟩)))
  first
    | exact wpAny_pure fin
    | exact wpAny_bind (wpAny_pure fin)
    | exact fin
def rSetD (K : PySem.W.Frag) : TSet := fun o i v H Q => ∃ a xs b k, o = .ref a ∧ H a = some (dO a xs) ∧ Keys K H b xs ∧ KeyV K H k i ∧ k.depth ≤ 8 ∧ isT k = b ∧ xs.length < sizeLine ∧ Q (upd H a (dO a (xput xs k i v)))
theorem set_dict (hu : X.A.units + 60 < cLine) : PSet X (rSetD X.K) := by
  intro pins s σ H o i v ov iv u Q I ro ri rv h
  obtain ⟨a, xs, b, k, rfl, e, hK, hk, hd, t, hz, q⟩ := h
  cases ro
  exact d_setItem hu I e hK hk hd t ri rv hz fun s' I' => ⟨_, I', q⟩
def tG1 (K : PySem.W.Frag) (td ty : TE) : TE := fun σ H Q => td σ H fun x H1 => ∃ a xs, x = .ref a ∧ Rd H1 a (dO a xs) ∧ ty σ H1 fun y H2 => ∃ xs b k, Rd H2 a (dO a xs) ∧ Keys K H2 b xs ∧ KeyV K H2 k y ∧ k.depth ≤ 8 ∧ isT k = b ∧ Q ((xfind xs k).getD .non) H2
def tG2 (K : PySem.W.Frag) (td ty tx : TE) : TE := fun σ H Q => td σ H fun x H1 => ∃ a xs, x = .ref a ∧ Rd H1 a (dO a xs) ∧ ty σ H1 fun y H2 => tx σ H2 fun z H3 => ∃ xs b k, Rd H3 a (dO a xs) ∧ Keys K H3 b xs ∧ KeyV K H3 k y ∧ k.depth ≤ 8 ∧ isT k = b ∧ Q ((xfind xs k).getD z) H3
variable {o e f : Expr} {apos cpos : Pos} {td ty tx : TE}
theorem pe_get1 (hu : X.A.units + 60 < cLine) (ho : PE X o td) (he : PE X e ty) (m : M1 X o "get" apos e cpos) : PE X (.Call (.Attribute o "get" apos) [e] [] cpos) (tG1 X.K td ty) := by
  refine ⟨fun pins s σ H Q I h => ?_⟩
  refine wpAny_Call_method m.base m.few m.line PySem.F.plainAttrs_dict PySem.F.slot_dict_get PySem.F.type_dict_get (thn (ho.run pins s σ H _ I h) fun u s1 ⟨x, H1, I1, rx, a, xs, ex, ed, q1⟩ => ?_)
  subst ex
  obtain rfl : u = Value.ref a := rx
  obtain ⟨t1, t2⟩ := dO_typeIs I1 ed
  refine ⟨t1, t2, ?_⟩
  rw [m.trees]
  refine Calls.callWith_builtin rfl (Calls.evalArgs_plain (Calls.spliced_cons (thn (he.run pins s1 σ H1 _ I1 q1) fun iv s2 ⟨y, H2, I2, ry, xs2, b, k, e2, hK, hk, hd, t, q2⟩ => Calls.spliced_nil ?_)))
  exact d_get1 hu I2 e2 hK hk hd t ry fun w' s3 I3 rw' => ⟨_, H2, I3, rw', q2⟩
theorem pe_get2 (hu : X.A.units + 60 < cLine) (ho : PE X o td) (he : PE X e ty) (hf : PE X f tx) (m : M2 X o "get" apos e f cpos) : PE X (.Call (.Attribute o "get" apos) [e, f] [] cpos) (tG2 X.K td ty tx) := by
  refine ⟨fun pins s σ H Q I h => ?_⟩
  refine wpAny_Call_method m.base m.few m.line PySem.F.plainAttrs_dict PySem.F.slot_dict_get PySem.F.type_dict_get (thn (ho.run pins s σ H _ I h) fun u s1 ⟨x, H1, I1, rx, a, xs, ex, ed, q1⟩ => ?_)
  subst ex
  obtain rfl : u = Value.ref a := rx
  obtain ⟨t1, t2⟩ := dO_typeIs I1 ed
  refine ⟨t1, t2, ?_⟩
  rw [m.trees]
  refine Calls.callWith_builtin rfl (Calls.evalArgs_plain (Calls.spliced_cons (thn (he.run pins s1 σ H1 _ I1 q1) fun iv s2 ⟨y, H2, I2, ry, q2⟩ =>
    Calls.spliced_cons (thn (hf.run pins s2 σ H2 _ I2 q2) fun fv s3 ⟨z, H3, I3, rz, xs2, b, k, e2, hK, hk, hd, t, q3⟩ => Calls.spliced_nil ?_))))
  exact d_get2 hu I3 e2 hK hk hd t ry rz fun w' s4 I4 rw' => ⟨_, H3, I4, rw', q3⟩
end
/-! displays -/
def xfill (xs zs : List En) : List En := zs.foldl (fun acc z => xput acc z.1 z.2.1 z.2.2) xs
theorem xfill_len : ∀ (zs xs : List En), (xfill xs zs).length ≤ xs.length + zs.length
  | [], xs => Nat.le_refl _
  | z :: zs, xs => by
    have h1 := xfill_len zs (xput xs z.1 z.2.1 z.2.2)
    have h2 := xput_len xs z.1 z.2.1 z.2.2
    show (xfill (xput xs z.1 z.2.1 z.2.2) zs).length ≤ _
    rw [List.length_cons]; omega
section
variable {X : Cx} {pins : List (Addr × Obj)} {σ : L2.St} {H : Hp} {s : Shared} {b : Bool}
def ZOk (K : PySem.W.Frag) (H : Hp) (b : Bool) (zs : List En) : Prop := ∀ z ∈ zs, KeyV K H z.1 z.2.1 ∧ z.1.depth ≤ 8 ∧ isT z.1 = b
theorem carH (I : Inv X pins σ H s) : ∀ {zs : List En} {ws : List (Value × Value)}, VV (zs.map fun z => (z.2.1, z.2.2)) ws → ZOk X.K H true zs →
    ∃ ys, CarriesH (nestedKind X.prog X.w) s.heap ws ys ∧ Paired EnH zs ys
  | [], _, r, _ => by cases r; exact ⟨[], trivial, .nil⟩
  | z :: zs, _, r, h => by
    rw [List.map_cons] at r
    cases r with
    | @cons p q ps qs hr t =>
      obtain ⟨ys, c, p2⟩ := carH I t fun y hy => h y (List.mem_cons_of_mem _ hy)
      obtain ⟨k1, k2, k3⟩ := h z List.mem_cons_self
      obtain ⟨cc, e1, e2⟩ := key_H I k1 k2 k3 hr.1
      obtain ⟨q1, q2⟩ := q
      have e1 : q1 = .ref cc := e1
      subst e1
      obtain ⟨bb, eb⟩ := k1.ref k3
      have : RelV z.2.1 (.ref cc) := hr.1
      rw [eb] at this
      cases (show Value.ref cc = Value.ref bb from this)
      exact ⟨(z.1, cc, q2) :: ys, ⟨rfl, rfl, e2, c⟩, .cons ⟨rfl, eb, hr.2⟩ p2⟩
theorem fillH : ∀ {zs : List En} {ys : List (NestedKey × Addr × Value)} {xs : List En} {as : List (NestedKey × Addr × Value)}, Paired EnH zs ys → Paired EnH xs as → Paired EnH (xfill xs zs) (storedAllH as ys)
  | _, _, _, _, .nil, h => h
  | _, _, _, _, .cons (a := z) (b := y) r t, h => by
    have h1 := put_H (k := z.1) (c := y.2.1) r.2.2 h
    rw [← r.2.1] at h1
    rw [r.1] at h1
    have h2 := fillH t h1
    rw [← r.1] at h2
    exact (by
      show Paired EnH (xfill (xput _ z.1 z.2.1 z.2.2) _) (storedAllH (storedH _ y.1 y.2.1 y.2.2) _)
      rw [← r.1]
      exact h2)
theorem carL (P : Program) (w : World) : ∀ {zs : List En} {ws : List (Value × Value)}, VV (zs.map fun z => (z.2.1, z.2.2)) ws → ZOk X.K H false zs →
    ∃ ys : List (Leaf × Value), Carries (leafKind P w) ws ys ∧ Paired EnL zs ys
  | [], _, r, _ => by cases r; exact ⟨[], trivial, .nil⟩
  | z :: zs, _, r, h => by
    rw [List.map_cons] at r
    cases r with
    | @cons p q ps qs hr t =>
      obtain ⟨ys, c, p2⟩ := carL P w t fun y hy => h y (List.mem_cons_of_mem _ hy)
      obtain ⟨k1, k2, k3⟩ := h z List.mem_cons_self
      obtain ⟨q1, q2⟩ := q
      exact ⟨(leafOf z.1, q2) :: ys, ⟨k1.leaf k3 hr.1, rfl, c⟩, .cons ⟨(leaf_key k3).symm, hr.2⟩ p2⟩
theorem fillL : ∀ {zs : List En} {ys : List (Leaf × Value)} {xs : List En} {as : List (Leaf × Value)}, Paired EnL zs ys → Paired EnL xs as → Paired EnL (xfill xs zs) (merged as ys)
  | _, _, _, _, .nil, h => h
  | _, _, _, _, .cons (a := z) (b := y) r t, h => by
    have h1 := put_L (l := y.1) (kv := z.2.1) r.2 h
    have h2 := fillL t h1
    rw [← r.1] at h2
    exact h2
theorem xfill_all : ∀ {zs xs : List En}, (∀ x ∈ xs, tf x.1 = true ∧ isT x.1 = b) → ZOk X.K H b zs → ∀ x ∈ xfill xs zs, tf x.1 = true ∧ isT x.1 = b
  | [], _, h, _ => h
  | z :: zs, xs, h, hz => xfill_all (zs := zs) (fun x hx => by
      rcases xput_mem hx with ⟨q, hq, e1, _⟩ | ⟨e1, _⟩
      · rw [e1]; exact h q hq
      · obtain ⟨k1, _, k3⟩ := hz z List.mem_cons_self
        rw [e1]; exact ⟨k1.tf, k3⟩) fun y hy => hz y (List.mem_cons_of_mem _ hy)
/-- {k: v, ..}; the new dict stands empty while the pairs are made -/
def tDsp (K : PySem.W.Frag) (trs : List (TE × TE)) : TE := fun σ H Q => ∃ b : Bool, ∀ p, H p = none → tPairs trs σ (upd H p (dO p [])) fun ps H2 => H2 p = some (dO p []) ∧ ∃ zs : List En, ps = zs.map (fun z => (z.2.1, z.2.2)) ∧ ZOk K H2 b zs ∧ zs.length ≤ 15 ∧ Q (.ref p) (upd H2 p (dO p (xfill [] zs)))
theorem pe_dsp {pos : Pos} {keys : List (Option Expr)} {values : List Expr} {trs : List (TE × TE)} (hu : X.A.units + 60 < cLine) (h : PPs X pos keys values trs) (hall : keys.all (·.isSome) = true) (hl : keys.length = values.length) (h0 : keys ≠ [])
    (h15 : keys.length ≤ 15) : PE X (.Dict keys values pos) (tDsp X.K trs) := by
  refine ⟨fun pins s σ H Q I q => ?_⟩
  have hn := I.hok.fresh (Nat.le_refl s.heap.objs.size)
  have I1 := I.laid (a := s.heap.objs.size) (o := dO s.heap.objs.size []) (h' := s.heap.push { cls := .type "dict", data := .dict #[] }) (t' := s.toks) (fun _ _ q => Heap.get?_push_of_some _ q) (Nat.le_refl _) (dO_empty s.heap I.big)
  have hp := pairTrees_length keys values X.env pos hall hl
  have hne : pairTrees keys values X.env pos ≠ [] := fun e => by rw [e] at hp; exact h0 (List.length_eq_zero_iff.mp hp.symm)
  obtain ⟨b, q⟩ := q
  have hw := h.run pins { s with heap := s.heap.push { cls := .type "dict", data := .dict #[] } } σ _ _ I1 (q _ hn)
  cases b with
  | true =>
    rw [arm_eval_Dict, zip_pairTrees keys values X.env pos hall hl, dictDisplay_pairs _ hne (by omega)]
    refine wpAny_bind (wpAny_standAt (wpAny_bind (wpAny_subDictH (knd := nestedKind X.prog X.w) (Q := fun d s' => wpAny (model X.prog X.w) X.A (pure (Value.ref d)) (EP X pins σ Q) X.xe s') (show X.A.units + 8 < cLine by omega) (by omega) ?_)))
    refine thn hw fun ws s2 ⟨ps, H2, I2, rel, e, zs, ep, hz, lz, q2⟩ => ?_
    subst ep
    obtain ⟨ys, c, pe⟩ := carH I2 rel hz
    obtain ⟨_, hd, o, es, e0, e1, e2, e3, e4⟩ := dO_of I2.hok (.inl e)
    cases hes : es.toList with
    | cons x r => rw [hes] at e4; cases e4
    | nil =>
      refine ⟨ys, c, ⟨o, es, e0, e1, e2, e3, by rw [hes]; rfl, fun _ hx => (nomatch hx), List.nodup_nil⟩, fun h' tk dd' hs => wpAny_pure ⟨.ref s.heap.objs.size, _, ?_, rfl, q2⟩⟩
      obtain ⟨qq, es', ep', hq, h2, h3, h4, _, h5⟩ := dd'
      have hlen := xfill_len zs []
      rw [List.length_nil] at hlen
      refine d_write I2 (by rw [e]; exact dO_mut) hs ⟨qq, hq⟩ (dO_new ⟨by rw [sizeLine_eq]; omega, hd, qq, es', ep', hq, h2, h3, ?_⟩)
      rw [h4]
      exact raw_H (fillH pe .nil) (xfill_all (b := true) (fun _ hx => (nomatch hx)) hz)
  | false =>
    refine wpAny_Dict_walk (knd := leafKind X.prog X.w) hall hl h0 h15 (thn hw fun ws s2 ⟨ps, H2, I2, rel, e, zs, ep, hz, lz, q2⟩ => ?_)
    subst ep
    obtain ⟨ys, c, pe⟩ := carL X.prog X.w rel hz
    obtain ⟨_, hd, o, es, e0, e1, e2, e3, e4⟩ := dO_of I2.hok (.inl e)
    cases hes : es.toList with
    | cons x r => rw [hes] at e4; cases e4
    | nil =>
      refine ⟨ys, c, ⟨o, es, e0, e1, e2, e3, (fun x (hx : x ∈ es) => (by rw [← Array.mem_toList_iff, hes] at hx; cases hx)), by rw [hes]; exact .nil, List.nodup_nil⟩, fun h' dd' hs => ⟨.ref s.heap.objs.size, _, ?_, rfl, q2⟩⟩
      obtain ⟨qq, es', ep', hq, h2, h3, h4, h5, h6⟩ := dd'
      have hlen := xfill_len zs []
      rw [List.length_nil] at hlen
      refine d_write I2 (by rw [e]; exact dO_mut) hs ⟨qq, hq⟩ (dO_new ⟨by rw [sizeLine_eq]; omega, hd, qq, es', ep', hq, h2, h3, ?_⟩)
      exact raw_L (fillL pe .nil) h5 (fun e he => h4 e (Array.mem_toList_iff.mp he)) (xfill_all (b := false) (fun _ hx => (nomatch hx)) hz)
end
end DPK
/-! The pure layer, part A: a small syntax and its evaluator. -/
namespace DP
open PySem

abbrev D := PyData
/-- what an owned (mutable) object holds -/
inductive OB where
  | l (xs : List D)
  | d (kvs : List (D × D))
/-- .. as data -/
def obD : OB → D
  | .l xs => .list xs
  | .d kvs => .dict kvs
/-- a slot of the frame: unset, a value that nobody changes any more, an object owned by this name -/
inductive Slot where
  | un
  | v (d : D)
  | o (b : OB)
abbrev PEnv := List Slot
/-- a def of the text as a value: such data is no dict that a lookup takes -/
def fnD (f : Str) : D := .dict [(.tuple [], .none), (.str f, .none)]
def fnN : D → Option Str
  | .dict [(.tuple [], .none), (.str f, .none)] => some f
  | _ => none
theorem fnN_fnD (f : Str) : fnN (fnD f) = some f := rfl
/-- a result: a value, a fresh object, a look at the object that slot i owns -/
inductive R where
  | v (d : D)
  | fr (b : OB)
  | pk (i : Nat)
/-- an argument of a call -/
inductive AV where
  | v (d : D)
  | r (b : OB)

inductive BO where
  | add | sub | mul | fdiv | mod | pow
  deriving DecidableEq
inductive CO where
  | lt | le | gt | ge | eq | ne | isN | notN | inn | nin
  deriving DecidableEq
inductive Ty where
  | bool | int | str | list | tuple | dict
  deriving DecidableEq
inductive BI where
  | len | sum | abs | int | tuple | list | sorted | all | any | max | min | max2 | min2
  | sortedset | lenset
  | isI (t : Ty)
  | rangelist1 | rangelist2 | rangetup1 | rangetup2
  | enumtup
  | sortedD
  deriving DecidableEq
/-- methods with one argument that only look -/
inductive MX where
  | index | count
  deriving DecidableEq
/-- methods of an owned list, as statements and as expressions -/
inductive MT where
  | append | reverse | insert | pop | pop0
  deriving DecidableEq

mutual
inductive T where
  | nm (i : Nat)
  | tp (ts : Ts)
inductive Ts where
  | nil
  | cons (t : T) (ts : Ts)
end

mutual
inductive E where
  | var (i : Nat)
  | mov (i : Nat)
  | pk (i : Nat)
  | int (n : Int)
  | str (s : Str)
  | bl (b : Bool)
  | non
  | glob (x : Str)
  | bin (op : BO) (a b : E)
  | neg (a : E)
  | cmp (op : CO) (a b : E)
  | chain (o1 o2 : CO) (a b c : E)
  | and2 (a b : E)
  | or2 (a b : E)
  | not (a : E)
  | ife (c a b : E)
  | tup (es : Es)
  | lst (es : Es)
  | idx (a b : E)
  | slc (a : E) (lo hi : Part)
  | call (f : Str) (as : As)
  | callv (i : Nat) (as : As)
  | calll (f : Str) (as : As)
  | bi (b : BI) (as : Es)
  | meth (m : MT) (i : Nat) (as : Es)
  | lc (t : T) (it : It) (c : Part) (own : List Nat) (e : E)
  | lc2 (t : T) (it : It) (c : Part) (t1 : T) (it1 : It) (c1 : Part) (own own1 : List Nat) (e : E)
  | mx (m : MX) (a b : E)
  | rev (a : E)
  | dnew
  | dsp (es : Es)
  | dget (a b : E) (c : Part)
  | lsc (t : T) (it : It) (c : Part) (own : List Nat) (e : E)
inductive Es where
  | nil
  | cons (e : E) (es : Es)
inductive As where
  | nil
  | cons (e : E) (es : As)
  | ref (i : Nat) (es : As)
  | lend (i : Nat) (es : As)
inductive Part where
  | none
  | some (e : E)
inductive It where
  | tup (a : E)
  | seq (a : E)
  | lst (a : E)
  | r1 (a : E)
  | r2 (a b : E)
  | rd (a b c : E)
  | enum (a : E)
  | zip (a b : E)
end

mutual
inductive S where
  | asg (t : T) (e : E)
  | own (i : Nat) (e : E)
  | aug (i : Nat) (op : BO) (e : E)
  | seti (i : Nat) (k e : E)
  | setd (i : Nat) (k e : E)
  | ex (e : E)
  | ret (e : E)
  | retN
  | ite (c : E) (a b : Ss)
  | for (t : T) (it : It) (b : Ss)
  | whl (c : E) (b : Ss)
  | fit (t : T) (i : Nat) (b : Ss)
  | brk
  | cnt
  | pass
  | never
inductive Ss where
  | nil
  | cons (s : S) (r : Ss)
end

/-! ### operations on data -/
def toV : R → Option D
  | .v d => some d
  | .fr b => some (obD b)
  | .pk _ => none
/-- a result that is only read -/
def toC (ρ : PEnv) : R → Option D
  | .v d => some d
  | .fr b => some (obD b)
  | .pk i => match ρ[i]? with
    | some (.o b) => some (obD b)
    | _ => none

def sizeL : Nat := 16777216
def small64 (i : Int) : Bool := decide (-(18446744073709551616) < i) && decide (i < 18446744073709551616)
def mulW (i j : Int) : Bool := decide (i.natAbs.log2 + j.natAbs.log2 < 100000000)
def bo : BO → D → D → Option R
  | .add, .int i, .int j => some (.v (.int (i + j)))
  | .add, .str x, .str y => if x.length + y.length ≤ sizeL then some (.v (.str (x ++ y))) else none
  | .add, .tuple xs, .tuple ys => if xs.length + ys.length ≤ sizeL then some (.v (.tuple (xs ++ ys))) else none
  | .add, .list xs, .list ys => if xs.length + ys.length ≤ sizeL then some (.fr (.l (xs ++ ys))) else none
  | .sub, .int i, .int j => some (.v (.int (i - j)))
  | .mul, .int i, .int j => if small64 i || small64 j || mulW i j then some (.v (.int (i * j))) else none
  | .mul, .list xs, .int k => if decide (-(9223372036854775808) ≤ k) && decide (k < 9223372036854775808) && decide (xs.length * k.toNat ≤ sizeL) then some (.fr (.l (List.replicate k.toNat xs).flatten)) else none
  | .mul, .tuple xs, .int k => if decide (-(9223372036854775808) ≤ k) && decide (k ≤ 1000) && decide (xs.length ≤ 1000) then some (.v (.tuple (List.replicate k.toNat xs).flatten)) else none
  | .fdiv, .int i, .int j => if decide (0 < j) && decide (j < 1073741824) then some (.v (.int (i / j))) else none
  | .mod, .int i, .int j => if 0 < j then some (.v (.int (i % j))) else none
  | .pow, .int i, .int j => if decide (0 ≤ j) && decide (j ≤ 1000000) && decide (i.natAbs < 18446744073709551616) then some (.v (.int (i ^ j.toNat))) else none
  | _, _, _ => none

def isNon : D → Bool
  | .none => true
  | _ => false
def co : CO → D → D → Option Bool
  | .lt, .int i, .int j => some (decide (i < j))
  | .le, .int i, .int j => some (decide (i ≤ j))
  | .gt, .int i, .int j => some (decide (j < i))
  | .ge, .int i, .int j => some (decide (j ≤ i))
  | .lt, .tuple xs, .tuple ys => if SeqAt.shaped (.tuple xs) && SeqAt.shaped (.tuple ys) && PySem.W.alike (.tuple xs) (.tuple ys) then some (PySem.W.dataLt (.tuple xs) (.tuple ys)) else none
  | .gt, .tuple xs, .tuple ys => if SeqAt.shaped (.tuple xs) && SeqAt.shaped (.tuple ys) && PySem.W.alike (.tuple xs) (.tuple ys) then some (PySem.W.dataLt (.tuple ys) (.tuple xs)) else none
  | .le, .tuple xs, .tuple ys => if SeqAt.shaped (.tuple xs) && SeqAt.shaped (.tuple ys) && PySem.W.alike (.tuple xs) (.tuple ys) then some (!PySem.W.dataLt (.tuple ys) (.tuple xs)) else none
  | .ge, .tuple xs, .tuple ys => if SeqAt.shaped (.tuple xs) && SeqAt.shaped (.tuple ys) && PySem.W.alike (.tuple xs) (.tuple ys) then some (!PySem.W.dataLt (.tuple xs) (.tuple ys)) else none
  | .eq, a, b => if SeqAt.shaped a && SeqAt.shaped b then some (PyData.eqv a b) else none
  | .ne, a, b => if SeqAt.shaped a && SeqAt.shaped b then some (!PyData.eqv a b) else none
  | .isN, a, .none => some (isNon a)
  | .notN, a, .none => some (!isNon a)
  | .inn, a, .list xs => if SeqAt.shaped a && SeqAt.shaped (.list xs) then some (xs.any fun z => PyData.eqv z a) else none
  | .nin, a, .list xs => if SeqAt.shaped a && SeqAt.shaped (.list xs) then some (!xs.any fun z => PyData.eqv z a) else none
  | .inn, a, .tuple xs => if SeqAt.shaped a && SeqAt.shaped (.tuple xs) then some (xs.any fun z => PyData.eqv z a) else none
  | .nin, a, .tuple xs => if SeqAt.shaped a && SeqAt.shaped (.tuple xs) then some (!xs.any fun z => PyData.eqv z a) else none
  | .inn, a, .dict kvs => (DPK.dlook kvs a).map fun o => o.isSome
  | .nin, a, .dict kvs => (DPK.dlook kvs a).map fun o => !o.isSome
  | _, _, _ => none

def toInts : List D → Option (List Int)
  | [] => some []
  | .int i :: r => (toInts r).map (i :: ·)
  | _ => none
def toBools : List D → Option (List Bool)
  | [] => some []
  | .bool i :: r => (toBools r).map (i :: ·)
  | _ => none
/-- insertion sort (the sorted list is one) -/
def ins (x : Int) : List Int → List Int
  | [] => [x]
  | y :: r => if x ≤ y then x :: y :: r else y :: ins x r
def isort : List Int → List Int
  | [] => []
  | x :: r => ins x (isort r)
/-- a sorted list of the different numbers -/
def insU (x : Int) : List Int → List Int
  | [] => [x]
  | y :: r => if x < y then x :: y :: r else if x = y then y :: r else y :: insU x r
def usort : List Int → List Int
  | [] => []
  | x :: r => insU x (usort r)
def maxL : Int → List Int → Int
  | m, [] => m
  | m, x :: r => maxL (if m < x then x else m) r
def minL : Int → List Int → Int
  | m, [] => m
  | m, x :: r => minL (if x < m then x else m) r
def irange (lo : Int) (n : Nat) : List D := (List.range n).map fun (i : Nat) => .int (lo + i)
def isI : Ty → D → Bool
  | .bool, .bool _ => true
  | .int, .int _ => true
  | .int, .bool _ => true
  | .str, .str _ => true
  | .list, .list _ => true
  | .tuple, .tuple _ => true
  | .dict, .dict _ => true
  | _, _ => false
def seqOf : D → Option (List D)
  | .list xs => some xs
  | .tuple xs => some xs
  | _ => none
def enumD : Nat → List D → List D
  | _, [] => []
  | i, x :: r => .tuple [.int (i : Nat), x] :: enumD (i + 1) r
def rgOk (a b : Int) : Bool := decide (-4611686018427387904 ≤ a) && decide (a < 4611686018427387904) && decide (-4611686018427387904 ≤ b) && decide (b < 4611686018427387904) && decide ((b - a).toNat ≤ 16777216)
def mxo : MX → D → D → Option D
  | .index, .list xs, y => if SeqAt.shaped y && SeqAt.shaped (.list xs) then (xs.findIdx? fun z => PyData.eqv z y).map fun j => .int (j : Nat) else none
  | .count, .list xs, y => if SeqAt.shaped y && SeqAt.shaped (.list xs) then some (.int (xs.countP fun z => PyData.eqv z y : Nat)) else none
  | _, _, _ => none
/-- a tuple with an item at least / neither a tuple nor None -/
def neT : D → Bool
  | .tuple (_ :: _) => true
  | _ => false
def noT : D → Bool
  | .tuple _ => false
  | .none => false
  | _ => true
/-- sorting data -/
def sortD (xs : List D) : Option (List D) :=
  if xs.length ≤ 1 then some xs else if (xs.all fun x => xs.all fun y => PySem.W.alike x y) && (xs.all neT || xs.all noT) && SeqAt.shaped (.list xs) then some (xs.mergeSort (PySem.W.dataLe false id)) else none

def bi : BI → List D → Option R
  | .len, [.list xs] => some (.v (.int xs.length))
  | .len, [.tuple xs] => some (.v (.int xs.length))
  | .sum, [.list xs] => (toInts xs).map fun ns => .v (.int ns.sum)
  | .abs, [.int i] => some (.v (.int (if i < 0 then -i else i)))
  | .int, [.int i] => some (.v (.int i))
  | .int, [.bool b] => some (.v (.int (if b then 1 else 0)))
  | .tuple, [.list xs] => some (.v (.tuple xs))
  | .tuple, [.tuple xs] => some (.v (.tuple xs))
  | .list, [.list xs] => some (.fr (.l xs))
  | .list, [.tuple xs] => some (.fr (.l xs))
  | .sorted, [.list xs] => (toInts xs).map fun ns => .fr (.l ((isort ns).map .int))
  | .all, [.list xs] => (toBools xs).map fun bs => .v (.bool (bs.all id))
  | .any, [.list xs] => (toBools xs).map fun bs => .v (.bool (bs.any id))
  | .max, [.list xs] => match toInts xs with | some (n :: ns) => some (.v (.int (maxL n ns))) | _ => none
  | .min, [.list xs] => match toInts xs with | some (n :: ns) => some (.v (.int (minL n ns))) | _ => none
  | .max, [.tuple xs] => match toInts xs with | some (n :: ns) => some (.v (.int (maxL n ns))) | _ => none
  | .min, [.tuple xs] => match toInts xs with | some (n :: ns) => some (.v (.int (minL n ns))) | _ => none
  | .max2, [.int i, .int j] => some (.v (.int (if j > i then j else i)))
  | .min2, [.int i, .int j] => some (.v (.int (if j < i then j else i)))
  | .isI _, [.dict _] => none
  | .isI t, [d] => some (.v (.bool (isI t d)))
  | .sortedset, [d] => match seqOf d with
    | some xs => match toInts xs with
      | some ns => if (usort ns).length < 4000 && ns.length < 4000 then some (.fr (.l ((usort ns).map .int))) else none
      | none => none
    | none => none
  | .lenset, [d] => match seqOf d with
    | some xs => match toInts xs with
      | some ns => if ns.length < 4000 then some (.v (.int ((usort ns).length : Nat))) else none
      | none => none
    | none => none
  | .enumtup, [.list xs] => if xs.length ≤ sizeL then some (.v (.tuple (enumD 0 xs))) else none
  | .sortedD, [.list xs] => (sortD xs).map fun ds => .fr (.l ds)
  | .rangelist1, [.int j] => if rgOk 0 j then some (.fr (.l (irange 0 j.toNat))) else none
  | .rangelist2, [.int i, .int j] => if rgOk i j then some (.fr (.l (irange i (j - i).toNat))) else none
  | .rangetup1, [.int j] => if rgOk 0 j then some (.v (.tuple (irange 0 j.toNat))) else none
  | .rangetup2, [.int i, .int j] => if rgOk i j then some (.v (.tuple (irange i (j - i).toNat))) else none
  | _, _ => none

/-- Python's index -/
def pidx (n : Nat) (i : Int) : Option Nat := L2.ixN n i
def atD (xs : List D) (i : Int) : Option D := L2.atI xs i
def ix : D → D → Option D
  | .list xs, .int i => atD xs i
  | .tuple xs, .int i => atD xs i
  | .dict kvs, y => (DPK.dlook kvs y).join
  | _, _ => none
def dfill : List D → List (D × D) → Option (List (D × D))
  | [], kvs => some kvs
  | [_], _ => none
  | k :: v :: r, kvs => match DPK.dstore kvs k v with
    | some kvs' => dfill r kvs'
    | none => none
def dfl : Option R → Option D
  | none => some .none
  | some r => toV r
def cut (xs : List D) (lo hi : Option Int) : List D := (xs.drop (HT.sIx xs.length 0 lo)).take (HT.sIx xs.length xs.length hi - HT.sIx xs.length 0 lo)

def optI (ρ : PEnv) : Option R → Option (Option Int)
  | none => some none
  | some r => match toC ρ r with
    | some (.int i) => some (some i)
    | _ => none
def slice (d : D) (lo hi : Option Int) : Option R :=
  match d with
  | .list xs => some (.fr (.l (cut xs lo hi)))
  | .tuple xs => some (.v (.tuple (cut xs lo hi)))
  | _ => none
def truth : R → Option Bool
  | .v (.bool b) => some b
  | _ => none

/-! ### targets -/
mutual
def asT : T → D → PEnv → Option PEnv
  | .nm i, d, ρ => some (ρ.set i (.v d))
  | .tp ts, .tuple ds, ρ => asTs ts ds ρ
  | .tp _, _, _ => none
def asTs : Ts → List D → PEnv → Option PEnv
  | .nil, [], ρ => some ρ
  | .cons t ts, d :: ds, ρ => match asT t d ρ with
    | some ρ' => asTs ts ds ρ'
    | none => none
  | _, _, _ => none
end

/-! ### methods of an owned list -/
def meth : MT → List D → List D → Option (D × List D)
  | .append, xs, [d] => if xs.length < sizeL then some (.none, xs ++ [d]) else none
  | .reverse, xs, [] => some (.none, xs.reverse)
  | .insert, xs, [.int i, d] => if xs.length < sizeL && decide (0 ≤ i) && decide (i < 9223372036854775808) then some (.none, xs.take i.toNat ++ [d] ++ xs.drop i.toNat) else none
  | .pop, xs, [] => match xs[xs.length - 1]? with
    | some y => some (y, xs.dropLast)
    | none => none
  | .pop0, xs, [.int i] => if decide (0 ≤ i) && decide (i < xs.length) && decide (xs.length ≤ sizeL) then match xs[i.toNat]? with
    | some y => some (y, xs.eraseIdx i.toNat)
    | none => none
    else none
  | _, _, _ => none

/-! ### blocks' names -/
def wipe (ρ : PEnv) : List Nat → PEnv
  | [] => ρ
  | i :: is => (wipe ρ is).set i .un
def back (ρ ρ' : PEnv) : List Nat → PEnv
  | [] => ρ'
  | i :: is => (back ρ ρ' is).set i (ρ.getD i .un)
def free (ρ : PEnv) (own : List Nat) : Bool := own.all fun i => match ρ[i]? with
  | some (.o _) => false
  | _ => true

def zipD : List D → List D → List D
  | x :: xs, y :: ys => .tuple [x, y] :: zipD xs ys
  | _, _ => []
def small62 (i : Int) : Bool := decide (-(4611686018427387904) ≤ i) && decide (i < 4611686018427387904)

/-! ### loops -/
inductive Out where
  | nx (ρ : PEnv)
  | rt (r : R) (ρ : PEnv)
  | bk (ρ : PEnv)
  | ct (ρ : PEnv)
def forL (f : D → PEnv → Option Out) : List D → PEnv → Option Out
  | [], ρ => some (.nx ρ)
  | d :: ds, ρ => match f d ρ with
    | some (.nx ρ') => forL f ds ρ'
    | some (.ct ρ') => forL f ds ρ'
    | some (.bk ρ') => some (.nx ρ')
    | some (.rt r ρ') => some (.rt r ρ')
    | none => none
def whlL (c : PEnv → Option (Bool × PEnv)) (f : PEnv → Option Out) : Nat → PEnv → Option Out
  | 0, _ => none
  | n + 1, ρ => match c ρ with
    | some (true, ρ1) => match f ρ1 with
      | some (.nx ρ') => whlL c f n ρ'
      | some (.ct ρ') => whlL c f n ρ'
      | some (.bk ρ') => some (.nx ρ')
      | some (.rt r ρ') => some (.rt r ρ')
      | none => none
    | some (false, ρ1) => some (.nx ρ1)
    | none => none
def lcL (own : List Nat) (f : D → PEnv → Option (List D × PEnv)) : List D → PEnv → Option (List D × PEnv)
  | [], ρ => some ([], ρ)
  | d :: ds, ρ => match f d (wipe ρ own) with
    | some (ys, ρ') => match lcL own f ds ρ' with
      | some (zs, ρ'') => some (ys ++ zs, ρ'')
      | none => none
    | none => none

abbrev Sems := Str → List AV → Option (R × Option OB)
inductive AH where
  | v (d : D)
  | r (i : Nat)
  | l (i : Nat)
def argsOf (ρ : PEnv) : List AH → Option (List AV)
  | [] => some []
  | .v d :: r => (argsOf ρ r).map (.v d :: ·)
  | .r i :: r => match ρ[i]? with
    | some (.o b) => (argsOf ρ r).map (.r b :: ·)
    | _ => none
  | .l _ :: _ => none
/-- arguments of which some are lent: owned things that the called def only reads -/
def argsL (ρ : PEnv) : List AH → Option (List AV)
  | [] => some []
  | .v d :: r => (argsL ρ r).map (.v d :: ·)
  | .l i :: r => match ρ[i]? with
    | some (.o b) => (argsL ρ r).map (.v (obD b) :: ·)
    | _ => none
  | .r _ :: _ => none
/-- data in which nothing lent can be -/
def flatD : D → Bool
  | .none => true
  | .bool _ => true
  | .int _ => true
  | .str _ => true
  | _ => false
def flatR : R × Option OB → Option D
  | (.v d, none) => if flatD d then some d else none
  | _ => none
def irangeD (lo : Int) (n : Nat) : List D := (List.range n).map fun (i : Nat) => .int (lo + i * (-1))
def refs : List AH → List Nat
  | [] => []
  | .v _ :: r => refs r
  | .r i :: r => i :: refs r
  | .l _ :: r => refs r
def callE (Γ : Sems) (f : Str) (as : List AH) (ρ : PEnv) : Option (R × PEnv) :=
  match argsOf ρ as with
  | none => none
  | some vs => match Γ f vs, refs as with
    | some (r, none), [] => some (r, ρ)
    | some (r, some b), [i] => some (r, ρ.set i (.o b))
    | _, _ => none

def whlFuel : Nat := 100000

section
variable (Γ : Sems) (G : Str → Option D)
mutual
def ev : E → PEnv → Option (R × PEnv)
  | .var i, ρ => match ρ[i]? with
    | some (.v d) => some (.v d, ρ)
    | some (.o b) => some (.v (obD b), ρ.set i (.v (obD b)))
    | _ => none
  | .mov i, ρ => match ρ[i]? with
    | some (.v d) => some (.v d, ρ)
    | some (.o b) => some (.fr b, ρ.set i .un)
    | _ => none
  | .pk i, ρ => match ρ[i]? with
    | some (.v d) => some (.v d, ρ)
    | some (.o _) => some (.pk i, ρ)
    | _ => none
  | .int n, ρ => some (.v (.int n), ρ)
  | .str s, ρ => some (.v (.str s), ρ)
  | .bl b, ρ => some (.v (.bool b), ρ)
  | .non, ρ => some (.v .none, ρ)
  | .glob x, ρ => match G x with
    | some d => some (.v d, ρ)
    | none => none
  | .bin op a b, ρ => match ev a ρ with
    | some (ra, ρ1) => match ev b ρ1 with
      | some (rb, ρ2) => match toC ρ2 ra, toC ρ2 rb with
        | some x, some y => match bo op x y with
          | some r => some (r, ρ2)
          | none => none
        | _, _ => none
      | none => none
    | none => none
  | .neg a, ρ => match ev a ρ with
    | some (.v (.int i), ρ1) => some (.v (.int (-i)), ρ1)
    | _ => none
  | .cmp op a b, ρ => match ev a ρ with
    | some (ra, ρ1) => match ev b ρ1 with
      | some (rb, ρ2) => match toC ρ2 ra, toC ρ2 rb with
        | some x, some y => match co op x y with
          | some r => some (.v (.bool r), ρ2)
          | none => none
        | _, _ => none
      | none => none
    | none => none
  | .chain o1 o2 a b c, ρ => match ev a ρ with
    | some (.v x, ρ1) => match ev b ρ1 with
      | some (.v y, ρ2) => match co o1 x y with
        | some true => match ev c ρ2 with
          | some (.v z, ρ3) => match co o2 y z with
            | some r => some (.v (.bool r), ρ3)
            | none => none
          | _ => none
        | some false => some (.v (.bool false), ρ2)
        | none => none
      | _ => none
    | _ => none
  | .and2 a b, ρ => match ev a ρ with
    | some (.v (.bool true), ρ1) => ev b ρ1
    | some (.v (.bool false), ρ1) => some (.v (.bool false), ρ1)
    | _ => none
  | .or2 a b, ρ => match ev a ρ with
    | some (.v (.bool false), ρ1) => ev b ρ1
    | some (.v (.bool true), ρ1) => some (.v (.bool true), ρ1)
    | _ => none
  | .not a, ρ => match ev a ρ with
    | some (.v (.bool b), ρ1) => some (.v (.bool (!b)), ρ1)
    | _ => none
  | .ife c a b, ρ => match ev c ρ with
    | some (.v (.bool true), ρ1) => ev a ρ1
    | some (.v (.bool false), ρ1) => ev b ρ1
    | _ => none
  | .tup es, ρ => match evs es ρ with
    | some (ds, ρ1) => some (.v (.tuple ds), ρ1)
    | none => none
  | .lst es, ρ => match evs es ρ with
    | some (ds, ρ1) => some (.fr (.l ds), ρ1)
    | none => none
  | .idx a b, ρ => match ev a ρ with
    | some (ra, ρ1) => match ev b ρ1 with
      | some (rb, ρ2) => match toC ρ2 ra, toC ρ2 rb with
        | some x, some y => match ix x y with
          | some d => some (.v d, ρ2)
          | none => none
        | _, _ => none
      | none => none
    | none => none
  | .slc a lo hi, ρ => match ev a ρ with
    | some (ra, ρ1) => match evp lo ρ1 with
      | some (rl, ρ2) => match evp hi ρ2 with
        | some (rh, ρ3) => match toC ρ3 ra, optI ρ3 rl, optI ρ3 rh with
          | some x, some l, some h => match slice x l h with
            | some r => some (r, ρ3)
            | none => none
          | _, _, _ => none
        | none => none
      | none => none
    | none => none
  | .call f as, ρ => match eva as ρ with
    | some (hs, ρ1) => callE Γ f hs ρ1
    | none => none
  | .callv i as, ρ => match ρ[i]? with
    | some (.v d) => match fnN d with
      | some f => match eva as ρ with
        | some (hs, ρ1) => callE Γ f hs ρ1
        | none => none
      | none => none
    | _ => none
  | .calll f as, ρ => match eva as ρ with
    | some (hs, ρ1) => match argsL ρ1 hs with
      | some vs => match Γ f vs with
        | some p => match flatR p with
          | some d => some (.v d, ρ1)
          | none => none
        | none => none
      | none => none
    | none => none
  | .bi b as, ρ => match evc as ρ with
    | some (rs, ρ1) => match rs.mapM (toC ρ1) with
      | some ds => match bi b ds with
        | some r => some (r, ρ1)
        | none => none
      | none => none
    | none => none
  | .meth m i as, ρ => match ρ[i]? with
    | some (.o (.l _)) => match evs as ρ with
      | some (ds, ρ1) => match ρ1[i]? with
        | some (.o (.l xs)) => match meth m xs ds with
          | some (d, ys) => some (.v d, ρ1.set i (.o (.l ys)))
          | none => none
        | _ => none
      | none => none
    | _ => none
  | .lc t it c own e, ρ => match evi it ρ with
    | some (ds, ρ1) => if ds.length ≤ sizeL && free ρ1 own then
        match lcL own (fun d ρ => match asT t d ρ with
          | some ρ' => match evp c ρ' with
            | some (none, ρ'') => match ev e ρ'' with
              | some (r, ρ3) => match toV r with
                | some y => some ([y], ρ3)
                | none => none
              | none => none
            | some (some (.v (.bool true)), ρ'') => match ev e ρ'' with
              | some (r, ρ3) => match toV r with
                | some y => some ([y], ρ3)
                | none => none
              | none => none
            | some (some (.v (.bool false)), ρ'') => some ([], ρ'')
            | _ => none
          | none => none) ds ρ1 with
        | some (ys, ρe) => some (.fr (.l ys), back ρ1 ρe own)
        | none => none
      else none
    | none => none
  | .lc2 t it c t1 it1 c1 own own1 e, ρ => match evi it ρ with
    | some (ds, ρ1) => if free ρ1 own then
        match lcL own (fun d ρ => match asT t d ρ with
          | some ρ' => match evp c ρ' with
            | some (none, ρ2) => match evi it1 ρ2 with
              | some (ds1, ρ3) => lcL own1 (fun d ρ => match asT t1 d ρ with
                | some ρ' => match evp c1 ρ' with
                  | some (none, ρ'') => match ev e ρ'' with
                    | some (r, ρ3) => match toV r with
                      | some y => some ([y], ρ3)
                      | none => none
                    | none => none
                  | some (some (.v (.bool true)), ρ'') => match ev e ρ'' with
                    | some (r, ρ3) => match toV r with
                      | some y => some ([y], ρ3)
                      | none => none
                    | none => none
                  | some (some (.v (.bool false)), ρ'') => some ([], ρ'')
                  | _ => none
                | none => none) ds1 ρ3
              | none => none
            | some (some (.v (.bool true)), ρ2) => match evi it1 ρ2 with
              | some (ds1, ρ3) => lcL own1 (fun d ρ => match asT t1 d ρ with
                | some ρ' => match evp c1 ρ' with
                  | some (none, ρ'') => match ev e ρ'' with
                    | some (r, ρ3) => match toV r with
                      | some y => some ([y], ρ3)
                      | none => none
                    | none => none
                  | some (some (.v (.bool true)), ρ'') => match ev e ρ'' with
                    | some (r, ρ3) => match toV r with
                      | some y => some ([y], ρ3)
                      | none => none
                    | none => none
                  | some (some (.v (.bool false)), ρ'') => some ([], ρ'')
                  | _ => none
                | none => none) ds1 ρ3
              | none => none
            | some (some (.v (.bool false)), ρ2) => some ([], ρ2)
            | _ => none
          | none => none) ds ρ1 with
        | some (ys, ρe) => if ys.length ≤ sizeL then some (.fr (.l ys), back ρ1 ρe own) else none
        | none => none
      else none
    | none => none
  | .mx m a b, ρ => match ev a ρ with
    | some (ra, ρ1) => match toC ρ1 ra with
      | some (.list _) => match ev b ρ1 with
        | some (rb, ρ2) => match toC ρ2 ra, toC ρ2 rb with
          | some x, some y => match mxo m x y with
            | some r => some (.v r, ρ2)
            | none => none
          | _, _ => none
        | none => none
      | _ => none
    | none => none
  | .rev a, ρ => match ev a ρ with
    | some (r, ρ1) => match toC ρ1 r with
      | some (.list xs) => some (.fr (.l xs.reverse), ρ1)
      | _ => none
    | none => none
  | .lsc t it c own e, ρ => match evi it ρ with
    | some (ds, ρ1) => if decide (ds.length < 4000) && free ρ1 own then
        match lcL own (fun d ρ => match asT t d ρ with
          | some ρ' => match evp c ρ' with
            | some (none, ρ'') => match ev e ρ'' with
              | some (r, ρ3) => match toV r with
                | some y => some ([y], ρ3)
                | none => none
              | none => none
            | some (some (.v (.bool true)), ρ'') => match ev e ρ'' with
              | some (r, ρ3) => match toV r with
                | some y => some ([y], ρ3)
                | none => none
              | none => none
            | some (some (.v (.bool false)), ρ'') => some ([], ρ'')
            | _ => none
          | none => none) ds ρ1 with
        | some (ys, ρe) => match toInts ys with
          | some ns => some (.v (.int ((usort ns).length : Nat)), back ρ1 ρe own)
          | none => none
        | none => none
      else none
    | none => none
  | .dnew, ρ => some (.fr (.d []), ρ)
  | .dsp es, ρ => match evs es ρ with
    | some (ds, ρ1) => match dfill ds [] with
      | some kvs => some (.fr (.d kvs), ρ1)
      | none => none
    | none => none
  | .dget a b c, ρ => match ev a ρ with
    | some (ra, ρ1) => match toC ρ1 ra with
      | some (.dict _) => match ev b ρ1 with
        | some (rb, ρ2) => match evp c ρ2 with
          | some (rc, ρ3) => match toC ρ3 ra, toV rb, dfl rc with
            | some (.dict kvs), some y, some z => match DPK.dlook kvs y with
              | some o => some (.v (o.getD z), ρ3)
              | none => none
            | _, _, _ => none
          | none => none
        | none => none
      | _ => none
    | none => none
def evs : Es → PEnv → Option (List D × PEnv)
  | .nil, ρ => some ([], ρ)
  | .cons e es, ρ => match ev e ρ with
    | some (r, ρ1) => match toV r with
      | some d => match evs es ρ1 with
        | some (ds, ρ2) => some (d :: ds, ρ2)
        | none => none
      | none => none
    | none => none
def evc : Es → PEnv → Option (List R × PEnv)
  | .nil, ρ => some ([], ρ)
  | .cons e es, ρ => match ev e ρ with
    | some (r, ρ1) => match evc es ρ1 with
      | some (rs, ρ2) => some (r :: rs, ρ2)
      | none => none
    | none => none
def eva : As → PEnv → Option (List AH × PEnv)
  | .nil, ρ => some ([], ρ)
  | .cons e es, ρ => match ev e ρ with
    | some (r, ρ1) => match toV r with
      | some d => match eva es ρ1 with
        | some (ds, ρ2) => some (.v d :: ds, ρ2)
        | none => none
      | none => none
    | none => none
  | .ref i es, ρ => match ρ[i]? with
    | some (.o _) => match eva es ρ with
      | some (ds, ρ2) => some (.r i :: ds, ρ2)
      | none => none
    | _ => none
  | .lend i es, ρ => match ρ[i]? with
    | some (.o _) => match eva es ρ with
      | some (ds, ρ2) => some (.l i :: ds, ρ2)
      | none => none
    | _ => none
def evp : Part → PEnv → Option (Option R × PEnv)
  | .none, ρ => some (none, ρ)
  | .some e, ρ => match ev e ρ with
    | some (r, ρ1) => some (some r, ρ1)
    | none => none
def evi : It → PEnv → Option (List D × PEnv)
  | .seq a, ρ => match ev a ρ with
    | some (r, ρ1) => match toV r with
      | some d => match seqOf d with
        | some xs => some (xs, ρ1)
        | none => none
      | none => none
    | none => none
  | .tup a, ρ => match ev a ρ with
    | some (.v (.tuple xs), ρ1) => some (xs, ρ1)
    | _ => none
  | .lst a, ρ => match ev a ρ with
    | some (.v (.list xs), ρ1) => some (xs, ρ1)
    | some (.fr (.l xs), ρ1) => some (xs, ρ1)
    | _ => none
  | .r1 a, ρ => match ev a ρ with
    | some (.v (.int j), ρ1) => if small62 j then some (irange 0 j.toNat, ρ1) else none
    | _ => none
  | .r2 a b, ρ => match ev a ρ with
    | some (.v (.int i), ρ1) => match ev b ρ1 with
      | some (.v (.int j), ρ2) => if small62 i && small62 j then some (irange i (j - i).toNat, ρ2) else none
      | _ => none
    | _ => none
  | .rd a b c, ρ => match ev a ρ with
    | some (.v (.int i), ρ1) => match ev b ρ1 with
      | some (.v (.int j), ρ2) => match ev c ρ2 with
        | some (.v (.int k), ρ3) => if small62 i && small62 j && decide (k = -1) then some (irangeD i (i - j).toNat, ρ3) else none
        | _ => none
      | _ => none
    | _ => none
  | .enum a, ρ => match ev a ρ with
    | some (r, ρ1) => match toV r with
      | some d => match seqOf d with
        | some xs => some (enumD 0 xs, ρ1)
        | none => none
      | none => none
    | none => none
  | .zip a b, ρ => match ev a ρ with
    | some (r, ρ1) => match ev b ρ1 with
      | some (r', ρ2) => match toV r, toV r' with
        | some d, some d' => match seqOf d, seqOf d' with
          | some xs, some ys => some (zipD xs ys, ρ2)
          | _, _ => none
        | _, _ => none
      | none => none
    | none => none
end

mutual
def ex : S → PEnv → Option Out
  | .asg t e, ρ => match ev Γ G e ρ with
    | some (r, ρ1) => match toV r with
      | some d => match asT t d ρ1 with
        | some ρ2 => some (.nx ρ2)
        | none => none
      | none => none
    | none => none
  | .own i e, ρ => match ev Γ G e ρ with
    | some (.fr b, ρ1) => some (.nx (ρ1.set i (.o b)))
    | _ => none
  | .aug i op e, ρ => match ρ[i]? with
    | some (.v x) => match ev Γ G e ρ with
      | some (.v y, ρ1) => match op, x, y with
        | .add, .int a, .int b => some (.nx (ρ1.set i (.v (.int (a + b)))))
        | .sub, .int a, .int b => some (.nx (ρ1.set i (.v (.int (a - b)))))
        | _, _, _ => none
      | _ => none
    | _ => none
  | .seti i k e, ρ => match ρ[i]? with
    | some (.o (.l _)) => match ev Γ G e ρ with
      | some (r, ρ1) => match toV r with
        | some d => match ev Γ G k ρ1 with
          | some (.v (.int j), ρ2) => match ρ2[i]? with
            | some (.o (.l xs)) => match L2.ixN xs.length j with
              | some n => some (.nx (ρ2.set i (.o (.l (xs.set n d)))))
              | none => none
            | _ => none
          | _ => none
        | none => none
      | none => none
    | _ => none
  | .setd i k e, ρ => match ρ[i]? with
    | some (.o (.d _)) => match ev Γ G e ρ with
      | some (r, ρ1) => match toV r with
        | some d => match ev Γ G k ρ1 with
          | some (rk, ρ2) => match toV rk with
            | some y => match ρ2[i]? with
              | some (.o (.d kvs)) => match DPK.dstore kvs y d with
                | some kvs' => some (.nx (ρ2.set i (.o (.d kvs'))))
                | none => none
              | _ => none
            | none => none
          | none => none
        | none => none
      | none => none
    | _ => none
  | .ex e, ρ => match ev Γ G e ρ with
    | some (_, ρ1) => some (.nx ρ1)
    | none => none
  | .ret e, ρ => match ev Γ G e ρ with
    | some (.pk _, _) => none
    | some (r, ρ1) => some (.rt r ρ1)
    | none => none
  | .retN, ρ => some (.rt (.v .none) ρ)
  | .ite c a b, ρ => match ev Γ G c ρ with
    | some (.v (.bool true), ρ1) => exs a ρ1
    | some (.v (.bool false), ρ1) => exs b ρ1
    | _ => none
  | .for t it b, ρ => match evi Γ G it ρ with
    | some (ds, ρ1) => forL (fun d ρ => match asT t d ρ with
      | some ρ' => exs b ρ'
      | none => none) ds ρ1
    | none => none
  | .whl c b, ρ => whlL (fun ρ => match ev Γ G c ρ with
      | some (.v (.bool x), ρ1) => some (x, ρ1)
      | _ => none) (fun ρ => exs b ρ) whlFuel ρ
  | .fit t i b, ρ => match ρ[i]? with
    | some (.v (.dict kvs)) => if DPK.kinds true kvs then forL (fun d ρ => match asT t d ρ with
      | some ρ' => exs b ρ'
      | none => none) (kvs.map fun p => .tuple [p.1, p.2]) ρ else none
    | _ => none
  | .brk, ρ => some (.bk ρ)
  | .cnt, ρ => some (.ct ρ)
  | .pass, ρ => some (.nx ρ)
  | .never, _ => none
def exs : Ss → PEnv → Option Out
  | .nil, ρ => some (.nx ρ)
  | .cons s r, ρ => match ex s ρ with
    | some (.nx ρ') => exs r ρ'
    | o => o
end
end

/-! ### a def, a text of defs -/
structure Fn where
  /-- its parameters' number; the place of the one that is owned by reference -/
  np : Nat
  rf : Option Nat
  /-- the number of its names -/
  nn : Nat
  body : Ss
def slotOf : AV → Slot
  | .v d => .v d
  | .r b => .o b
def shape (as : List AV) (np : Nat) (rf : Option Nat) : Bool :=
  decide (as.length = np) && (List.range np).all fun i => match as[i]? with
    | some (.r _) => decide (rf = some i)
    | _ => decide (rf ≠ some i)
def outOf (rf : Option Nat) (r : R) (ρ : PEnv) : Option (R × Option OB) :=
  match rf with
  | none => some (r, none)
  | some i => match ρ[i]? with
    | some (.o b) => some (r, some b)
    | _ => none
def run (Γ : Sems) (G : Str → Option D) (f : Fn) (as : List AV) : Option (R × Option OB) :=
  if shape as f.np f.rf then
    match exs Γ G f.body (as.map slotOf ++ List.replicate (f.nn - f.np) .un) with
    | some (.nx ρ) => outOf f.rf (.v .none) ρ
    | some (.rt (.pk _) _) => none
    | some (.rt r ρ) => outOf f.rf r ρ
    | _ => none
  else none
/-- what the text's defs say, to the depth n of calls -/
def sem (P : Str → Option Fn) (G : Str → Option D) : Nat → Sems
  | 0 => fun _ _ => none
  | n + 1 => fun f as => match P f with
    | some d => run (sem P G n) G d as
    | none => none
end DP
/-! The pure layer, part B: how the syntax stands against the text's own. -/
namespace DP
open PySem PySem.Spec PyProof.Rows L2

def asName : Expr → Option Str
  | .Name x _ => some x
  | _ => none
def notStar : Expr → Bool
  | .Starred .. => false
  | _ => true
def isName : Expr → Bool
  | .Name .. => true
  | _ => false
def asBi2 : Expr → Option (Str × Str × List Expr)
  | .Call (.Name x _) [.Call (.Name y _) as' [] _] [] _ => some (x, y, as')
  | _ => none
def asMx : Expr → Option (Expr × Str × Expr × Bool)
  | .Call (.Attribute a' y ap) [b'] [] cp => some (a', y, b', decide (ap.endLine = cp.line))
  | _ => none
def asRev : Expr → Option Expr
  | .Subscript a' (.Slice none none (some (.UnaryOp .USub (.Constant (.int n) _ _) _)) _) _ => if n = 1 then some a' else none
  | _ => none
def oneIf : List Expr → Option (Option Expr)
  | [] => some none
  | [i] => some (some i)
  | _ => none
/-- elt, scope, the first clause, the second one -/
def asLc2 : Expr → Option (Expr × Scope × Expr × Expr × Option Expr × Expr × Expr × Option Expr)
  | .ListComp elt [⟨tg, iter, ifs, asy⟩, ⟨tg1, iter1, ifs1, asy1⟩] scope _ => match oneIf ifs, oneIf ifs1 with
    | some i, some i1 => if asy = 0 ∧ asy1 = 0 then some (elt, scope, tg, iter, i, tg1, iter1, i1) else none
    | _, _ => none
  | _ => none
theorem asBi2_inv {py : Expr} {x y : Str} {as : List Expr} (h : asBi2 py = some (x, y, as)) : ∃ p p2 q2 q, py = .Call (.Name x p) [.Call (.Name y p2) as [] q2] [] q := by
  unfold asBi2 at h
  split at h
  · cases h; exact ⟨_, _, _, _, rfl⟩
  · cases h
theorem asMx_inv {py a b : Expr} {y : Str} {k : Bool} (h : asMx py = some (a, y, b, k)) : ∃ ap cp, py = .Call (.Attribute a y ap) [b] [] cp ∧ k = decide (ap.endLine = cp.line) := by
  unfold asMx at h
  split at h
  · cases h; exact ⟨_, _, rfl, rfl⟩
  · cases h
theorem asRev_inv {py a : Expr} (h : asRev py = some a) : ∃ k p1 p2 p3 q, py = .Subscript a (.Slice none none (some (.UnaryOp .USub (.Constant (.int 1) k p1) p2)) p3) q := by
  unfold asRev at h
  split at h
  · split at h
    · rename_i e; subst e; cases h; exact ⟨_, _, _, _, _, rfl⟩
    · cases h
  · cases h
theorem oneIf_inv {l : List Expr} {o : Option Expr} (h : oneIf l = some o) : l = o.toList := by
  unfold oneIf at h
  split at h
  · cases h; rfl
  · cases h; rfl
  · cases h
theorem asLc2_inv {py elt tg iter tg1 iter1 : Expr} {scope : Scope} {i i1 : Option Expr} (h : asLc2 py = some (elt, scope, tg, iter, i, tg1, iter1, i1)) : ∃ q, py = .ListComp elt [⟨tg, iter, i.toList, 0⟩, ⟨tg1, iter1, i1.toList, 0⟩] scope q := by
  unfold asLc2 at h
  split at h
  · split at h
    · rename_i h1 h2
      split at h
      · rename_i hz
        obtain ⟨rfl, rfl⟩ := hz
        cases h
        rw [oneIf_inv h1, oneIf_inv h2]
        exact ⟨_, rfl⟩
      · cases h
    · cases h
  · cases h
/-- {k: v, ..}: the keys and values in a row -/
def dispL : List (Option Expr) → List Expr → Option (List Expr)
  | [], [] => some []
  | some k :: ks, v :: vs => (dispL ks vs).map fun l => k :: v :: l
  | _, _ => none
def asDisp : Expr → Option (List Expr)
  | .Dict ks vs _ => dispL ks vs
  | _ => none
theorem asDisp_inv {py : Expr} {l : List Expr} (h : asDisp py = some l) : ∃ ks vs p, py = .Dict ks vs p ∧ dispL ks vs = some l := by
  unfold asDisp at h
  split at h
  · exact ⟨_, _, _, rfl, h⟩
  · cases h
/-- d.get(k), d.get(k, x) -/
def asGet : Expr → Option (Expr × Expr × Option Expr × Bool)
  | .Call (.Attribute o y ap) [k] [] cp => if y = "get" then some (o, k, none, decide (ap.endLine = cp.line)) else none
  | .Call (.Attribute o y ap) [k, z] [] cp => if y = "get" then some (o, k, some z, decide (ap.endLine = cp.line)) else none
  | _ => none
theorem asGet_inv {py o k : Expr} {z : Option Expr} {b : Bool} (h : asGet py = some (o, k, z, b)) : ∃ ap cp, py = .Call (.Attribute o "get" ap) (k :: z.toList) [] cp ∧ b = decide (ap.endLine = cp.line) := by
  unfold asGet at h
  split at h
  · split at h
    · rename_i hy
      subst hy
      cases h
      exact ⟨_, _, rfl, rfl⟩
    · cases h
  · split at h
    · rename_i hy
      subst hy
      cases h
      exact ⟨_, _, rfl, rfl⟩
    · cases h
  · cases h
/-- len({elt for tg in iter if i}): the name, elt, scope, tg, iter, i -/
def asLsc : Expr → Option (Str × Expr × Scope × Expr × Expr × Option Expr)
  | .Call (.Name x _) [.SetComp elt [⟨tg, iter, ifs, asy⟩] scope _] [] _ => match oneIf ifs with
    | some i => if asy = 0 then some (x, elt, scope, tg, iter, i) else none
    | none => none
  | _ => none
theorem asLsc_inv {py elt tg iter : Expr} {x : Str} {scope : Scope} {i : Option Expr} (h : asLsc py = some (x, elt, scope, tg, iter, i)) : ∃ p q r, py = .Call (.Name x p) [.SetComp elt [⟨tg, iter, i.toList, 0⟩] scope q] [] r := by
  unfold asLsc at h
  split at h
  · split at h
    · rename_i h1
      split at h
      · rename_i hz
        subst hz
        cases h
        rw [oneIf_inv h1]
        exact ⟨_, _, _, rfl⟩
      · cases h
    · cases h
  · cases h
def notSet : Expr → Bool
  | .Set .. => false
  | _ => true
def notSlice : Expr → Bool
  | .Slice .. => false
  | _ => true
def notTuple : Expr → Bool
  | .Tuple .. => false
  | _ => true
def notComp : Expr → Bool
  | .ListComp .. => false
  | .SetComp .. => false
  | .DictComp .. => false
  | _ => true
def opPy : BO → Operator
  | .add => .Add | .sub => .Sub | .mul => .Mult | .fdiv => .FloorDiv | .mod => .Mod | .pow => .Pow
def coPy : CO → CmpOp
  | .lt => .Lt | .le => .LtE | .gt => .Gt | .ge => .GtE | .eq => .Eq | .ne => .NotEq | .isN => .Is | .notN => .IsNot | .inn => .In | .nin => .NotIn
def tyName : Ty → String
  | .bool => "bool" | .int => "int" | .str => "str" | .list => "list" | .tuple => "tuple" | .dict => "dict"
def biName : BI → Str
  | .len => "len" | .sum => "sum" | .abs => "abs" | .int => "int" | .tuple => "tuple" | .list => "list" | .sorted => "sorted" | .all => "all" | .any => "any" | .max => "max" | .min => "min"
  | .max2 => "max" | .min2 => "min" | .sortedset => "sorted" | .lenset => "len" | .isI _ => "isinstance" | .rangelist1 => "list" | .rangelist2 => "list" | .rangetup1 => "tuple" | .rangetup2 => "tuple" | .enumtup => "tuple" | .sortedD => "sorted"
def mxName : MX → Str
  | .index => "index" | .count => "count"
def mtArity : MT → Nat
  | .append => 1 | .reverse => 0 | .insert => 2 | .pop => 0 | .pop0 => 1
def biPlain : BI → Bool
  | .sortedset => false | .lenset => false | .isI _ => false | .rangelist1 => false | .rangelist2 => false | .rangetup1 => false | .rangetup2 => false | .enumtup => false
  | _ => true
/-- the inner call of f(g(..)) that counts as one -/
def biSub : BI → Option Str
  | .sortedset => some "set" | .lenset => some "set" | .rangelist1 => some "range" | .rangelist2 => some "range" | .rangetup1 => some "range" | .rangetup2 => some "range" | .enumtup => some "enumerate"
  | _ => none
def mtName : MT → Str
  | .append => "append" | .reverse => "reverse" | .insert => "insert" | .pop => "pop" | .pop0 => "pop"
def glC (sc : Scope) (x : Str) : Bool := decide (sc.names.lookup x = some .globalImplicit)
def visC (sc : Scope) (x : Str) : Bool := decide (sc.names.lookup x = some .local) || decide (sc.names.lookup x = some .cell) || decide (sc.names.lookup x = some .free)
def storC (sc : Scope) (x : Str) : Bool := decide (sc.names.lookup x = some .local) || decide (sc.names.lookup x = some .cell)
def nmC (N : List Str) (sc : Scope) (i : Nat) (x : Str) : Bool := decide (N[i]? = some x) && visC sc x && !(x == ("__debug__" : Str)) && !(x == ("__classdict__" : Str))
def gnC (sc : Scope) (x : Str) : Bool := glC sc x && !(x == ("__debug__" : Str))

mutual
/-- a target; scs: the scope that tells what may be stored -/
def chkT (N : List Str) (scs : Scope) : T → Expr → Bool
  | .nm i, py => match py with
    | .Name x _ => decide (N[i]? = some x) && storC scs x
    | _ => false
  | .tp ts, py => match py with
    | .Tuple es _ _ => chkTs N scs ts es
    | _ => false
def chkTs (N : List Str) (scs : Scope) : Ts → List Expr → Bool
  | .nil, es => es.isEmpty
  | .cons t ts, es => match es with
    | e :: r => chkT N scs t e && chkTs N scs ts r
    | [] => false
end
mutual
def slotsT : T → List Nat
  | .nm i => [i]
  | .tp ts => slotsTs ts
def slotsTs : Ts → List Nat
  | .nil => []
  | .cons t ts => slotsT t ++ slotsTs ts
end

mutual
def chkE (N : List Str) : E → Scope → Expr → Bool
  | .var i, sc, py => match py with
    | .Name x _ => nmC N sc i x
    | _ => false
  | .mov i, sc, py => match py with
    | .Name x _ => nmC N sc i x
    | _ => false
  | .pk i, sc, py => match py with
    | .Name x _ => nmC N sc i x
    | _ => false
  | .int n, _, py => match py with
    | .Constant (.int m) _ _ => decide (n = m)
    | .UnaryOp .USub (.Constant (.int m) _ _) _ => decide (n = -m)
    | _ => false
  | .str s, _, py => match py with
    | .Constant (.str m) _ _ => decide (s = m)
    | _ => false
  | .bl s, _, py => match py with
    | .Constant (.bool m) _ _ => decide (s = m)
    | _ => false
  | .non, _, py => match py with
    | .Constant .none _ _ => true
    | _ => false
  | .glob y, sc, py => match py with
    | .Name x _ => decide (y = x) && gnC sc x
    | _ => false
  | .bin op a b, sc, py => match py with
    | .BinOp a' op' b' _ => decide (op' = opPy op) && chkE N a sc a' && chkE N b sc b'
    | _ => false
  | .neg a, sc, py => match py with
    | .UnaryOp .USub a' _ => chkE N a sc a'
    | _ => false
  | .cmp op a b, sc, py => match py with
    | .Compare a' [op'] [b'] _ => decide (op' = coPy op) && notSet b' && chkE N a sc a' && chkE N b sc b'
    | _ => false
  | .chain o1 o2 a b c, sc, py => match py with
    | .Compare a' [op1, op2] [b', c'] _ => decide (op1 = coPy o1) && decide (op2 = coPy o2) && notSet b' && notSet c' && chkE N a sc a' && chkE N b sc b' && chkE N c sc c'
    | _ => false
  | .and2 a b, sc, py => match py with
    | .BoolOp .And [a', b'] _ => chkE N a sc a' && chkE N b sc b'
    | .BoolOp .And (a' :: b' :: c' :: r) p => chkE N a sc a' && chkE N b sc (.BoolOp .And (b' :: c' :: r) p)
    | _ => false
  | .or2 a b, sc, py => match py with
    | .BoolOp .Or [a', b'] _ => chkE N a sc a' && chkE N b sc b'
    | .BoolOp .Or (a' :: b' :: c' :: r) p => chkE N a sc a' && chkE N b sc (.BoolOp .Or (b' :: c' :: r) p)
    | _ => false
  | .not a, sc, py => match py with
    | .UnaryOp .Not a' _ => chkE N a sc a'
    | _ => false
  | .ife c a b, sc, py => match py with
    | .IfExp c' a' b' _ => chkE N c sc c' && chkE N a sc a' && chkE N b sc b'
    | _ => false
  | .tup es, sc, py => match py with
    | .Tuple es' _ _ => chkEs N es sc es' && decide (es'.length ≤ 1000)
    | _ => false
  | .lst es, sc, py => match py with
    | .List es' _ => chkEs N es sc es' && decide (es'.length ≤ 1000)
    | _ => false
  | .idx a b, sc, py => match py with
    | .Subscript a' b' _ => notSlice b' && chkE N a sc a' && chkE N b sc b'
    | _ => false
  | .slc a lo hi, sc, py => match py with
    | .Subscript a' (.Slice lo' hi' none _) _ => chkE N a sc a' && chkP N lo sc lo' && chkP N hi sc hi'
    | _ => false
  | .call f as, sc, py => match py with
    | .Call (.Name x _) as' [] _ => decide (f = x) && gnC sc x && chkAs N as sc as'
    | _ => false
  | .calll f as, sc, py => match py with
    | .Call (.Name x _) as' [] _ => decide (f = x) && gnC sc x && chkAs N as sc as'
    | _ => false
  | .callv i as, sc, py => match py with
    | .Call (.Name x _) (a' :: as') [] _ => nmC N sc i x && chkAs N as sc (a' :: as')
    | _ => false
  | .bi (.isI t) as, sc, py => match as, py with
    | .cons a .nil, .Call (.Name x _) [a', .Name y _] [] _ => decide (x = "isinstance") && gnC sc x && decide (y = PySem.Str.ofString (tyName t)) && gnC sc y && notStar a' && chkE N a sc a'
    | _, _ => false
  | .bi b as, sc, py => match biSub b with
    | none => match py with
      | .Call (.Name x _) as' [] _ => biPlain b && decide (x = biName b) && gnC sc x && chkEs N as sc as'
      | _ => false
    | some z => match asBi2 py with
      | some c => decide (c.1 = biName b) && gnC sc c.1 && decide (c.2.1 = z) && gnC sc c.2.1 && chkEs N as sc c.2.2
      | none => false
  | .meth m i as, sc, py => match py with
    | .Call (.Attribute (.Name x _) y ap) as' [] cp => decide (y = mtName m) && nmC N sc i x && chkEs N as sc as' && decide (ap.endLine = cp.line) && decide (as'.length = mtArity m)
    | _ => false
  | .lc t it c own e, sc, py => match py with
    | .ListComp elt [⟨tg, iter, ifs, asy⟩] scope _ => decide (asy = 0) && notSet iter && blkC N sc scope (own.map fun i => (N.getD i ⟨#[]⟩, i)) && chkI N it sc tg iter && chkT N scope t tg && (slotsT t).all (fun i => own.contains i)
        && (match ifs with
          | [] => chkP N c (relS scope sc) none
          | [i] => chkP N c (relS scope sc) (some i)
          | _ => false) && chkE N e (relS scope sc) elt
    | _ => false
  | .lc2 t it c t1 it1 c1 own own1 e, sc, py => match asLc2 py with
    | some g => notSet g.2.2.2.1 && notSet g.2.2.2.2.2.2.1 && blkC N sc g.2.1 (own.map fun i => (N.getD i ⟨#[]⟩, i)) && chkI N it sc g.2.2.1 g.2.2.2.1 && chkT N g.2.1 t g.2.2.1 && (slotsT t).all (fun i => own.contains i)
        && chkP N c (relS g.2.1 sc) g.2.2.2.2.1 && chkI N it1 (relS g.2.1 sc) g.2.2.2.2.2.1 g.2.2.2.2.2.2.1 && chkT N g.2.1 t1 g.2.2.2.2.2.1 && (slotsT t1).all (fun i => own1.contains i) && own1.all (fun i => own.contains i)
        && chkP N c1 (relS g.2.1 sc) g.2.2.2.2.2.2.2 && chkE N e (relS g.2.1 sc) g.1
    | none => false
  | .mx m a b, sc, py => match asMx py with
    | some c => decide (c.2.1 = mxName m) && chkE N a sc c.1 && chkE N b sc c.2.2.1 && notStar c.2.2.1 && c.2.2.2 && isName c.1
    | none => false
  | .rev a, sc, py => match asRev py with
    | some a' => chkE N a sc a'
    | none => false
  | .lsc t it c own e, sc, py => match asLsc py with
    | some g => decide (g.1 = "len") && gnC sc g.1 && notSet g.2.2.2.2.1 && blkC N sc g.2.2.1 (own.map fun i => (N.getD i ⟨#[]⟩, i)) && chkI N it sc g.2.2.2.1 g.2.2.2.2.1 && chkT N g.2.2.1 t g.2.2.2.1 && (slotsT t).all (fun i => own.contains i)
        && chkP N c (relS g.2.2.1 sc) g.2.2.2.2.2 && chkE N e (relS g.2.2.1 sc) g.2.1
    | none => false
  | .dnew, _, py => match py with
    | .Dict [] [] _ => true
    | _ => false
  | .dsp es, sc, py => match asDisp py with
    | some l => chkEs N es sc l && decide (l ≠ []) && decide (l.length ≤ 30)
    | none => false
  | .dget a b c, sc, py => match asGet py with
    | some g => isName g.1 && chkE N a sc g.1 && notStar g.2.1 && chkE N b sc g.2.1 && (match g.2.2.1 with | none => true | some z => notStar z) && chkP N c sc g.2.2.1 && g.2.2.2
    | none => false
def chkEs (N : List Str) : Es → Scope → List Expr → Bool
  | .nil, _, es => es.isEmpty
  | .cons e r, sc, es => match es with
    | e' :: r' => notStar e' && chkE N e sc e' && chkEs N r sc r'
    | [] => false
def chkAs (N : List Str) : As → Scope → List Expr → Bool
  | .nil, _, es => es.isEmpty
  | .cons e r, sc, es => match es with
    | e' :: r' => notStar e' && chkE N e sc e' && chkAs N r sc r'
    | [] => false
  | .ref i r, sc, es => match es with
    | .Name x _ :: r' => nmC N sc i x && chkAs N r sc r'
    | _ => false
  | .lend i r, sc, es => match es with
    | .Name x _ :: r' => nmC N sc i x && chkAs N r sc r'
    | _ => false
def chkP (N : List Str) : Part → Scope → Option Expr → Bool
  | .none, _, o => o.isNone
  | .some e, sc, o => match o with
    | some e' => chkE N e sc e'
    | none => false
def chkI (N : List Str) : It → Scope → Expr → Expr → Bool
  | .tup a, sc, _, py => chkE N a sc py
  | .seq a, sc, _, py => chkE N a sc py
  | .lst a, sc, _, py => chkE N a sc py
  | .r1 a, sc, _, py => match py with
    | .Call (.Name x _) [a'] [] _ => decide (x = "range") && gnC sc x && notStar a' && chkE N a sc a'
    | _ => false
  | .r2 a b, sc, _, py => match py with
    | .Call (.Name x _) [a', b'] [] _ => decide (x = "range") && gnC sc x && notStar a' && notStar b' && chkE N a sc a' && chkE N b sc b'
    | _ => false
  | .rd a b c, sc, _, py => match py with
    | .Call (.Name x _) [a', b', c'] [] _ => decide (x = "range") && gnC sc x && notStar a' && notStar b' && notStar c' && chkE N a sc a' && chkE N b sc b' && chkE N c sc c'
    | _ => false
  | .enum a, sc, tg, py => match tg, py with
    | .Tuple _ _ _, .Call (.Name x _) [a'] [] _ => decide (x = "enumerate") && gnC sc x && notStar a' && chkE N a sc a'
    | _, _ => false
  | .zip a b, sc, tg, py => match tg, py with
    | .Tuple _ _ _, .Call (.Name x _) [a', b'] [] _ => decide (x = "zip") && gnC sc x && notStar a' && notStar b' && chkE N a sc a' && chkE N b sc b'
    | _, _ => false
end

def offP (pin : Option Nat) (is : List Nat) : Bool := match pin with
  | none => true
  | some i => !is.contains i
mutual
def chkS (N : List Str) (sc : Scope) (pin : Option Nat) : S → Stmt → Bool
  | .asg t e, py => match py with
    | .Assign [tg] v _ => chkT N sc t tg && offP pin (slotsT t) && chkE N e sc v && (match t with | .nm _ => true | .tp _ => notTuple v && notComp v)
    | _ => false
  | .own i e, py => match py with
    | .Assign [.Name x _] v _ => offP pin [i] && decide (N[i]? = some x) && storC sc x && chkE N e sc v
    | _ => false
  | .aug i op e, py => match py with
    | .AugAssign (.Name x _) op' v _ => offP pin [i] && decide (N[i]? = some x) && storC sc x && decide (op' = opPy op) && (decide (op = .add) || decide (op = .sub)) && chkE N e sc v
    | _ => false
  | .seti i k e, py => match py with
    | .Assign [.Subscript (.Name x _) k' _] v _ => nmC N sc i x && chkE N k sc k' && notSlice k' && notComp v && chkE N e sc v
    | _ => false
  | .setd i k e, py => match py with
    | .Assign [.Subscript (.Name x _) k' _] v _ => nmC N sc i x && chkE N k sc k' && notSlice k' && notComp v && chkE N e sc v
    | _ => false
  | .ex e, py => match py with
    | .Expr v _ => notComp v && chkE N e sc v
    | _ => false
  | .ret e, py => match py with
    | .Return (some v) _ => chkE N e sc v
    | _ => false
  | .retN, py => match py with
    | .Return none _ => true
    | _ => false
  | .ite c a b, py => match py with
    | .If c' a' b' _ => chkE N c sc c' && chkSs N sc pin a a' && chkSs N sc pin b b'
    | _ => false
  | .for t it b, py => match py with
    | .For tg iter b' [] _ => chkT N sc t tg && offP pin (slotsT t) && chkI N it sc tg iter && notSet iter && chkSs N sc pin b b'
    | _ => false
  | .whl c b, py => match py with
    | .While c' b' [] _ => chkE N c sc c' && chkSs N sc pin b b'
    | _ => false
  | .fit t i b, py => match py with
    | .For (.Tuple es kk tp) (.Call (.Attribute (.Name x p1) m ap) [] [] cp) b' [] _ => chkT N sc t (.Tuple es kk tp) && offP pin (slotsT t) && decide (m = "items") && decide (ap.endLine = cp.line) && nmC N sc i x && chkSs N sc pin b b'
    | _ => false
  | .brk, py => match py with
    | .Break _ => true
    | _ => false
  | .cnt, py => match py with
    | .Continue _ => true
    | _ => false
  | .pass, py => match py with
    | .Pass _ => true
    | _ => false
  | .never, _ => true
def chkSs (N : List Str) (sc : Scope) (pin : Option Nat) : Ss → List Stmt → Bool
  | .nil, py => py.isEmpty
  | .cons s r, py => match py with
    | s' :: r' => chkS N sc pin s s' && chkSs N sc pin r r'
    | [] => false
end
end DP
/-! The pure layer, part C: what a value stands for in the abstract heap; frames. -/
namespace DP
open PySem PySem.Spec PyProof.Rows L2
open DPK (En dO keyN KdOk)

/-! v stands for d in H; no list within is at an address of Z (those may be changed) -/
abbrev Sg := L2.St
mutual
inductive Rp (K : PySem.W.Frag) (Z : Addr → Prop) (H : Hp) : V → D → Prop
  | non : Rp K Z H .non .none
  | bl (b : Bool) : Rp K Z H (.bl b) (.bool b)
  | int (i : Int) : Rp K Z H (.int i) (.int i)
  | str (x : Str) : Rp K Z H (.str x) (.str x)
  | lst {a : Addr} {xs : List V} {ds : List D} : ¬ Z a → SqL K H a xs → RpAll K Z H xs ds → Rp K Z H (.ref a) (.list ds)
  | tup {a : Addr} {xs : List V} {ds : List D} : SqT K H a xs → RpAll K Z H xs ds → Rp K Z H (.ref a) (.tuple ds)
  | dct {a : Addr} {xs : List En} {kvs : List (D × D)} : ¬ Z a → Rd H a (dO a xs) → KdOk kvs → RpEn K Z H xs kvs → Rp K Z H (.ref a) (.dict kvs)
  | fn {f : Str} {a : Addr} : PySem.W.nsIn K mainGlobals f = some (some (.ref a)) → Rp K Z H (.ref a) (.dict [(.tuple [], .none), (.str f, .none)])
inductive RpAll (K : PySem.W.Frag) (Z : Addr → Prop) (H : Hp) : List V → List D → Prop
  | nil : RpAll K Z H [] []
  | cons {v : V} {vs : List V} {d : D} {ds : List D} : Rp K Z H v d → RpAll K Z H vs ds → RpAll K Z H (v :: vs) (d :: ds)
inductive RpEn (K : PySem.W.Frag) (Z : Addr → Prop) (H : Hp) : List En → List (D × D) → Prop
  | nil : RpEn K Z H [] []
  | cons {k : NestedKey} {kv vv : V} {kd vd : D} {xs : List En} {kvs : List (D × D)} : keyN kd = some k → Rp K Z H kv kd → Rp K Z H vv vd → RpEn K Z H xs kvs → RpEn K Z H ((k, kv, vv) :: xs) ((kd, vd) :: kvs)
end
variable {K : PySem.W.Frag} {Z Z' : Addr → Prop} {H H' : Hp}

mutual
theorem Rp.dp : ∀ {d : D} {v : V}, Rp K Z H v d → d.canLay0 = true → Dp K H v d
  | .none, _, h, _ => by cases h; exact .non
  | .bool b, _, h, _ => by cases h; exact .bl b
  | .int b, _, h, _ => by cases h; exact .int b
  | .str b, _, h, _ => by cases h; exact .str b
  | .list ds, _, h, l => by
    simp only [PyData.canLay0] at l
    cases h with | lst _ s a => exact .lst s (RpAll.dp a l)
  | .tuple ds, _, h, l => by
    simp only [PyData.canLay0] at l
    cases h with | tup s a => exact .tup s (RpAll.dp a l)
  | .dict _, _, h, l => by simp [PyData.canLay0] at l
theorem RpAll.dp : ∀ {ds : List D} {vs : List V}, RpAll K Z H vs ds → PyData.canLayAll0 ds = true → DpAll K H vs ds
  | [], _, h, _ => by cases h; exact .nil
  | d :: ds, _, h, l => by
    simp only [PyData.canLayAll0, Bool.and_eq_true] at l
    cases h with | cons h t => exact .cons (Rp.dp h l.1) (RpAll.dp t l.2)
end
/-- what may be read goes on to be read where nothing but mutable things at Z changes -/
structure Keep (Z : Addr → Prop) (H H' : Hp) : Prop where
  k : ∀ a o, H a = some o → ¬ Z a → H' a = some o
/-- Z speaks of mutable things alone -/
def Muts (Z : Addr → Prop) (H : Hp) : Prop := ∀ a, Z a → Mut (H a)
theorem SqT.keep {a : Addr} {xs : List V} (s : SqT K H a xs) (m : Muts Z H) (k : Keep Z H H') : SqT K H' a xs := by
  rcases s with (h | ⟨o, h⟩) | h
  · exact .inl (.inl (k.k _ _ h fun z => by have := m _ z; rw [h] at this; exact this))
  · exact .inl (.inr ⟨o, k.k _ _ h fun z => by have := m _ z; rw [h] at this; exact this⟩)
  · exact .inr h
theorem SqL.keep {a : Addr} {xs : List V} (s : SqL K H a xs) (n : ¬ Z a) (k : Keep Z H H') : SqL K H' a xs := by
  rcases s with (h | ⟨o, h⟩) | h
  · exact .inl (.inl (k.k _ _ h n))
  · exact .inl (.inr ⟨o, k.k _ _ h n⟩)
  · exact .inr h
/-- Z' is wider by new things alone -/
def Grow (Z Z' : Addr → Prop) (H : Hp) : Prop := ∀ a, Z' a → Z a ∨ H a = none
/-- what is written in the text's own part is not tracked -/
def Off (K : PySem.W.Frag) (Z : Addr → Prop) : Prop := ∀ a o, K.lookup a = some o → ¬ Z a
theorem SqL.notNew {a : Addr} {xs : List V} (s : SqL K H a xs) (hk : Off K Z') (g : Grow Z Z' H) (n : ¬ Z a) : ¬ Z' a := fun z => by
  rcases s with (h | ⟨o, h⟩) | ⟨o, _, _, h, _⟩
  · rcases g a z with q | q
    · exact n q
    · rw [h] at q; cases q
  · rcases g a z with q | q
    · exact n q
    · rw [h] at q; cases q
  · exact hk a o h z
theorem notNewD {a : Addr} {o : HO} (s : H a = some o) (g : Grow Z Z' H) (n : ¬ Z a) : ¬ Z' a := fun z => by
  rcases g a z with q | q
  · exact n q
  · rw [s] at q; cases q
theorem Rd_notNew {a : Addr} {u : HO} (s : Rd H a u) (g : Grow Z Z' H) (n : ¬ Z a) : ¬ Z' a := by
  rcases s with s | ⟨o, s⟩
  · exact notNewD s g n
  · exact notNewD s g n
theorem Rd_keep {a : Addr} {u : HO} (s : Rd H a u) (k : Keep Z H H') (n : ¬ Z a) : Rd H' a u := by
  rcases s with s | ⟨o, s⟩
  · exact .inl (k.k _ _ s n)
  · exact .inr ⟨o, k.k _ _ s n⟩
mutual
theorem Rp.keep (m : Muts Z H) (k : Keep Z H H') (g : Grow Z Z' H) (hk : Off K Z') : ∀ {d : D} {v : V}, Rp K Z H v d → Rp K Z' H' v d
  | .none, _, h => by cases h; exact .non
  | .bool b, _, h => by cases h; exact .bl b
  | .int b, _, h => by cases h; exact .int b
  | .str b, _, h => by cases h; exact .str b
  | .list ds, _, h => by cases h with | lst n s a => exact .lst (SqL.notNew s hk g n) (SqL.keep s n k) (RpAll.keep m k g hk a)
  | .tuple ds, _, h => by cases h with | tup s a => exact .tup (SqT.keep s m k) (RpAll.keep m k g hk a)
  | .dict kvs, _, h => by
    cases h with
    | dct n s o a => exact .dct (Rd_notNew s g n) (Rd_keep s k n) o (RpEn.keep m k g hk a)
    | fn e => exact .fn e
theorem RpAll.keep (m : Muts Z H) (k : Keep Z H H') (g : Grow Z Z' H) (hk : Off K Z') : ∀ {ds : List D} {vs : List V}, RpAll K Z H vs ds → RpAll K Z' H' vs ds
  | [], _, h => by cases h; exact .nil
  | d :: ds, _, h => by cases h with | cons h t => exact .cons (Rp.keep m k g hk h) (RpAll.keep m k g hk t)
theorem RpEn.keep (m : Muts Z H) (k : Keep Z H H') (g : Grow Z Z' H) (hk : Off K Z') : ∀ {kvs : List (D × D)} {xs : List En}, RpEn K Z H xs kvs → RpEn K Z' H' xs kvs
  | [], _, h => by cases h; exact .nil
  | (_, _) :: _, _, h => by cases h with | cons e h1 h2 t => exact .cons e (Rp.keep m k g hk h1) (Rp.keep m k g hk h2) (RpEn.keep m k g hk t)
end
theorem Keep.refl : Keep Z H H := ⟨fun _ _ h _ => h⟩
theorem Keep.mono (k : Keep Z H H') (h : ∀ a, Z a → Z' a) : Keep Z' H H' := ⟨fun a o e n => k.k a o e fun z => n (h a z)⟩
theorem Keep.new {p : Addr} {o : HO} (h : H p = none) : Keep Z H (upd H p o) := ⟨fun a u e _ => by rw [upd_ne (ne_of_none e h)]; exact e⟩
theorem Rp.less (hs : ∀ a, Z' a → Z a) {d : D} {v : V} (h : Rp K Z H v d) (m : Muts Z H) (hk : Off K Z) : Rp K Z' H v d :=
  Rp.keep m .refl (fun a z => .inl (hs a z)) (fun a o e z => hk a o e (hs a z)) h
theorem RpAll.less (hs : ∀ a, Z' a → Z a) {d : List D} {v : List V} (h : RpAll K Z H v d) (m : Muts Z H) (hk : Off K Z) : RpAll K Z' H v d :=
  RpAll.keep m .refl (fun a z => .inl (hs a z)) (fun a o e z => hk a o e (hs a z)) h
theorem RpEn.less (hs : ∀ a, Z' a → Z a) {d : List (D × D)} {v : List En} (h : RpEn K Z H v d) (m : Muts Z H) (hk : Off K Z) : RpEn K Z' H v d :=
  RpEn.keep m .refl (fun a z => .inl (hs a z)) (fun a o e z => hk a o e (hs a z)) h
theorem RpAll.length : ∀ {vs : List V} {ds : List D}, RpAll K Z H vs ds → vs.length = ds.length
  | _, _, .nil => rfl
  | _, _, .cons _ t => by simp [RpAll.length t]
theorem RpAll.append : ∀ {vs us : List V} {ds es : List D}, RpAll K Z H vs ds → RpAll K Z H us es → RpAll K Z H (vs ++ us) (ds ++ es)
  | _, _, _, _, .nil, h => h
  | _, _, _, _, .cons a t, h => .cons a (t.append h)
theorem RpAll.get : ∀ {vs : List V} {ds : List D} {i : Nat} {d : D}, RpAll K Z H vs ds → ds[i]? = some d → ∃ v, vs[i]? = some v ∧ Rp K Z H v d
  | _, _, _, _, .nil, e => by simp at e
  | _, _, 0, _, .cons a _, e => by simp at e; subst e; exact ⟨_, rfl, a⟩
  | _, _, i + 1, d, .cons _ t, e => by
    obtain ⟨v, h1, h2⟩ := RpAll.get (i := i) (d := d) t (by simpa using e)
    exact ⟨v, by simpa using h1, h2⟩
theorem RpAll.at_ {vs : List V} {ds : List D} {i : Nat} {v : V} (h : RpAll K Z H vs ds) (e : vs[i]? = some v) : ∃ d, ds[i]? = some d ∧ Rp K Z H v d := by
  have hl := h.length
  obtain ⟨hi, _⟩ := List.getElem?_eq_some_iff.mp e
  have : ds[i]? = some (ds[i]'(by omega)) := List.getElem?_eq_getElem _
  obtain ⟨w, h1, h2⟩ := h.get this
  rw [e] at h1
  cases h1
  exact ⟨_, this, h2⟩
theorem RpAll.take : ∀ {vs : List V} {ds : List D} (n : Nat), RpAll K Z H vs ds → RpAll K Z H (vs.take n) (ds.take n)
  | _, _, 0, _ => .nil
  | _, _, _ + 1, .nil => .nil
  | _, _, n + 1, .cons a t => .cons a (t.take n)
theorem RpAll.drop : ∀ {vs : List V} {ds : List D} (n : Nat), RpAll K Z H vs ds → RpAll K Z H (vs.drop n) (ds.drop n)
  | _, _, 0, h => h
  | _, _, _ + 1, .nil => .nil
  | _, _, n + 1, .cons _ t => t.drop n
theorem RpAll.set : ∀ {vs : List V} {ds : List D} (n : Nat) {v : V} {d : D}, RpAll K Z H vs ds → Rp K Z H v d → RpAll K Z H (vs.set n v) (ds.set n d)
  | _, _, _, _, _, .nil, _ => .nil
  | _, _, 0, _, _, .cons _ t, h => .cons h t
  | _, _, n + 1, _, _, .cons a t, h => .cons a (t.set n h)
theorem RpAll.reverse : ∀ {vs : List V} {ds : List D}, RpAll K Z H vs ds → RpAll K Z H vs.reverse ds.reverse
  | _, _, .nil => .nil
  | _, _, .cons a t => by simp only [List.reverse_cons]; exact t.reverse.append (.cons a .nil)
theorem RpAll.dropLast {vs : List V} {ds : List D} (h : RpAll K Z H vs ds) : RpAll K Z H vs.dropLast ds.dropLast := by
  rw [List.dropLast_eq_take, List.dropLast_eq_take, h.length]
  exact h.take _
theorem RpAll.eraseIdx : ∀ {vs : List V} {ds : List D} (n : Nat), RpAll K Z H vs ds → RpAll K Z H (vs.eraseIdx n) (ds.eraseIdx n)
  | _, _, _, .nil => .nil
  | _, _, 0, .cons _ t => t
  | _, _, n + 1, .cons a t => .cons a (t.eraseIdx n)
theorem RpAll.rep {vs : List V} {ds : List D} (h : RpAll K Z H vs ds) : ∀ n : Nat, RpAll K Z H (List.replicate n vs).flatten (List.replicate n ds).flatten
  | 0 => .nil
  | n + 1 => by simp only [List.replicate_succ, List.flatten_cons]; exact h.append (h.rep n)
theorem RpAll.ints : ∀ {vs : List V} {ds : List D} {ns : List Int}, RpAll K Z H vs ds → toInts ds = some ns → vs = ns.map V.int
  | _, _, _, .nil, e => by simp [toInts] at e; subst e; rfl
  | _, _, _, .cons (d := d) a t, e => by
    cases a <;> simp [toInts] at e
    obtain ⟨ms, e1, rfl⟩ := e
    rw [t.ints e1]; rfl
theorem RpAll.bools : ∀ {vs : List V} {ds : List D} {ns : List Bool}, RpAll K Z H vs ds → toBools ds = some ns → vs = ns.map V.bl
  | _, _, _, .nil, e => by simp [toBools] at e; subst e; rfl
  | _, _, _, .cons (d := d) a t, e => by
    cases a <;> simp [toBools] at e
    obtain ⟨ms, e1, rfl⟩ := e
    rw [t.bools e1]; rfl
theorem RpAll.ofInts : ∀ (ns : List Int), RpAll K Z H (ns.map V.int) (ns.map PyData.int)
  | [] => .nil
  | n :: r => .cons (.int n) (RpAll.ofInts r)
theorem Rp.isN {v : V} {d : D} (h : Rp K Z H v d) : decide (v = .non) = isNon d := by cases h <;> simp [isNon]
theorem Rp.new {p : Addr} {vs : List V} {ds : List D} (h : RpAll K Z H vs ds) (n : H p = none) (m : Muts Z H) (hk : Off K Z) : Rp K Z (upd H p (.tup vs)) (.ref p) (.tuple ds) :=
  .tup (.inl (.inl upd_same)) (RpAll.keep m (.new n) (fun _ z => .inl z) hk h)

/-- the content o is b -/
def ObN (K : PySem.W.Frag) (Z : Addr → Prop) (H : Hp) (a : Addr) (o : HO) : OB → Prop
  | .l ds => ∃ vs, o = .lst vs ∧ RpAll K Z H vs ds
  | .d kvs => ∃ xs, o = dO a xs ∧ KdOk kvs ∧ RpEn K Z H xs kvs
theorem ObN.keep {a : Addr} {o : HO} {b : OB} (m : Muts Z H) (k : Keep Z H H') (g : Grow Z Z' H) (hk : Off K Z') (h : ObN K Z H a o b) : ObN K Z' H' a o b := by
  cases b with
  | l ds => obtain ⟨vs, e, h⟩ := h; exact ⟨vs, e, RpAll.keep m k g hk h⟩
  | d kvs => obtain ⟨vs, e, o, h⟩ := h; exact ⟨vs, e, o, RpEn.keep m k g hk h⟩
theorem ObN.less (hs : ∀ a, Z' a → Z a) {a : Addr} {o : HO} {b : OB} (h : ObN K Z H a o b) (m : Muts Z H) (hk : Off K Z) : ObN K Z' H a o b :=
  ObN.keep m .refl (fun a z => .inl (hs a z)) (fun a o e z => hk a o e (hs a z)) h
theorem ObN.mut {a : Addr} {o : HO} {b : OB} (h : ObN K Z H a o b) : Mut (some o) := by
  cases b with
  | l ds => obtain ⟨vs, e, _⟩ := h; rw [e]; trivial
  | d kvs => obtain ⟨vs, e, _⟩ := h; rw [e]; trivial
/-- the object at a holds b -/
def Ob (K : PySem.W.Frag) (Z : Addr → Prop) (H : Hp) (a : Addr) (b : OB) : Prop := ∃ o, H a = some o ∧ ObN K Z H a o b
theorem Ob.mut {a : Addr} {b : OB} (h : Ob K Z H a b) : Mut (H a) := by
  obtain ⟨o, e, h⟩ := h
  rw [e]
  exact h.mut

/-- what the text has written is not tracked -/
def KOff (K : PySem.W.Frag) (H : Hp) : Prop := ∀ a o, K.lookup a = some o → H a = none
theorem KOff.off (k : KOff K H) (m : Muts Z H) : Off K Z := fun a o e z => by
  have := m a z
  rw [k a o e] at this
  exact this
/-- both sets -/
abbrev Or2 (F O : Addr → Prop) : Addr → Prop := fun a => F a ∨ O a
/-- a frame: F what is mutable and not this frame's, O what this frame owns; σ the names' values, ρ what they stand for -/
structure EI (K : PySem.W.Frag) (F O : Addr → Prop) (σ : Sg) (H : Hp) (ρ : PEnv) : Prop where
  mf : Muts (Or2 F O) H
  dis : ∀ a, F a → ¬ O a
  len : ρ.length = σ.length
  val : ∀ (i : Nat) d, ρ[i]? = some (.v d) → ∃ v, σ[i]? = some (some v) ∧ Rp K (Or2 F O) H v d
  own : ∀ (i : Nat) b, ρ[i]? = some (.o b) → ∃ a, σ[i]? = some (some (V.ref a)) ∧ O a ∧ Ob K (Or2 F O) H a b
  inj : ∀ (i j : Nat) b c a, ρ[i]? = some (.o b) → ρ[j]? = some (.o c) → σ[i]? = some (some (V.ref a)) → σ[j]? = some (some (V.ref a)) → i = j
/-- a result stands: a value; a fresh object, nobody else's; a look at slot i's -/
def RR (K : PySem.W.Frag) (F O : Addr → Prop) (σ : Sg) (H : Hp) (ρ : PEnv) (v : V) : R → Prop
  | .v d => Rp K (Or2 F O) H v d
  | .fr b => ∃ p, v = .ref p ∧ O p ∧ Ob K (Or2 F O) H p b ∧ ∀ (i : Nat) c, ρ[i]? = some (.o c) → σ[i]? ≠ some (some (V.ref p))
  | .pk i => σ[i]? = some (some v)
/-- .. as it is held while others are evaluated -/
def HR (K : PySem.W.Frag) (F O : Addr → Prop) (σ : Sg) (H : Hp) (v : V) : R → Prop
  | .v d => Rp K (Or2 F O) H v d
  | .fr b => Rp K (Or2 F O) H v (obD b)
  | .pk i => σ[i]? = some (some v)

/-- from one state of the frame to a later one -/
structure Step (O O' : Addr → Prop) (H H' : Hp) : Prop where
  keep : Keep O H H'
  grow : Grow O O' H
theorem Step.refl {O : Addr → Prop} : Step O O H H := ⟨.refl, fun _ z => .inl z⟩
theorem Step.trans {O O1 O2 : Addr → Prop} {H1 H2 : Hp} (a : Step O O1 H H1) (b : Step O1 O2 H1 H2) : Step O O2 H H2 where
  keep := ⟨fun c o e n => b.keep.k c o (a.keep.k c o e n) fun z => by
    rcases a.grow c z with q | q
    · exact n q
    · rw [e] at q; cases q⟩
  grow := fun c z => by
    rcases b.grow c z with q | q
    · exact a.grow c q
    · by_cases h : O c
      · exact .inl h
      · cases e : H c with
        | none => exact .inr rfl
        | some o => rw [a.keep.k c o e h] at q; cases q
section
variable {F O O' : Addr → Prop} {σ : Sg} {ρ ρ' : PEnv}
theorem Rp.step (I : EI K F O σ H ρ) (s : Step O O' H H') (off : Off K (Or2 F O')) {v : V} {d : D} (h : Rp K (Or2 F O) H v d) : Rp K (Or2 F O') H' v d :=
  Rp.keep I.mf (s.keep.mono fun _ z => .inr z) (fun a z => by
    rcases z with z | z
    · exact .inl (.inl z)
    · rcases s.grow a z with q | q
      · exact .inl (.inr q)
      · exact .inr q) off h
theorem RpAll.step (I : EI K F O σ H ρ) (s : Step O O' H H') (off : Off K (Or2 F O')) {v : List V} {d : List D} (h : RpAll K (Or2 F O) H v d) : RpAll K (Or2 F O') H' v d :=
  RpAll.keep I.mf (s.keep.mono fun _ z => .inr z) (fun a z => by
    rcases z with z | z
    · exact .inl (.inl z)
    · rcases s.grow a z with q | q
      · exact .inl (.inr q)
      · exact .inr q) off h
theorem HR.step (I : EI K F O σ H ρ) (s : Step O O' H H') (off : Off K (Or2 F O')) {v : V} {r : R} (h : HR K F O σ H v r) : HR K F O' σ H' v r := by
  cases r with
  | v d => exact Rp.step I s off h
  | fr b => exact Rp.step I s off h
  | pk i => exact h
/-- a new tuple, a new object that is nobody's yet: the frame stays -/
theorem EI.newO {p : Addr} {o : HO} (I : EI K F O σ H ρ) (kf : Off K (Or2 F O)) (n : H p = none) : EI K F O σ (upd H p o) ρ where
  mf := fun a z => by
    have := I.mf a z
    by_cases e : a = p
    · subst e; rw [n] at this; exact this.elim
    · rw [upd_ne e]; exact this
  dis := I.dis
  len := I.len
  val := fun i d e => let ⟨v, e1, h⟩ := I.val i d e; ⟨v, e1, Rp.keep I.mf (.new n) (fun _ z => .inl z) kf h⟩
  own := fun i b e => by
    obtain ⟨a, e1, z, h⟩ := I.own i b e
    obtain ⟨u, h1, h2⟩ := h
    exact ⟨a, e1, z, u, by rw [upd_ne (ne_of_none h1 n)]; exact h1, ObN.keep I.mf (.new n) (fun _ z => .inl z) kf h2⟩
  inj := I.inj
theorem EI.new {p : Addr} {o : HO} (I : EI K F O σ H ρ) (kf : KOff K H) (n : H p = none) : EI K F O σ (upd H p o) ρ := I.newO (kf.off I.mf) n
theorem Step.new {p : Addr} {o : HO} (n : H p = none) : Step O O H (upd H p o) := ⟨.new n, fun _ z => .inl z⟩
end
/-! dicts -/
def RpO (K : PySem.W.Frag) (Z : Addr → Prop) (H : Hp) : Option V → Option D → Prop
  | none, none => True
  | some v, some d => Rp K Z H v d
  | _, _ => False
theorem RpO.isSome {o : Option V} {u : Option D} (h : RpO K Z H o u) : o.isSome = u.isSome := by
  cases o <;> cases u <;> first | rfl | exact h.elim
theorem RpO.getD {o : Option V} {u : Option D} {v : V} {d : D} (h : RpO K Z H o u) (h2 : Rp K Z H v d) : Rp K Z H (o.getD v) (u.getD d) := by
  cases o <;> cases u <;> first | exact h2 | exact h.elim | exact h
theorem RpEn.find {k : NestedKey} : ∀ {xs : List En} {kvs : List (D × D)}, RpEn K Z H xs kvs → RpO K Z H (DPK.xfind xs k) (DPK.dfind kvs k)
  | _, _, .nil => trivial
  | _, _, .cons (k := k') (vv := vv) (kd := kd) (vd := vd) e h1 h2 t => by
    have ih := RpEn.find (k := k) t
    unfold DPK.xfind DPK.dfind at ih ⊢
    rw [List.find?_cons, List.find?_cons]
    have e2 : decide (k' = k) = decide (keyN kd = some k) := by
      rw [e]
      by_cases q : k' = k
      · rw [q, decide_eq_true rfl, decide_eq_true rfl]
      · rw [decide_eq_false q, decide_eq_false fun z => q (Option.some.inj z)]
    show RpO K Z H (Option.map _ (match decide (k' = k) with | true => _ | false => _)) (Option.map _ (match decide (keyN kd = some k) with | true => _ | false => _))
    rw [e2]
    cases decide (keyN kd = some k) with
    | true => exact h2
    | false => exact ih
theorem RpEn.mp {k : NestedKey} {v : V} {d : D} (hv : Rp K Z H v d) : ∀ {xs : List En} {kvs : List (D × D)}, RpEn K Z H xs kvs →
    RpEn K Z H (xs.map fun x => if x.1 = k then (x.1, x.2.1, v) else x) (kvs.map fun p => if keyN p.1 = some k then (p.1, d) else p)
  | _, _, .nil => .nil
  | _, _, .cons (k := k') (kd := kd) e h1 h2 t => by
    rw [List.map_cons, List.map_cons]
    by_cases q : k' = k
    · rw [if_pos q, if_pos (show keyN kd = some k by rw [e, q])]
      exact .cons e h1 hv (RpEn.mp hv t)
    · rw [if_neg q, if_neg (show ¬ keyN kd = some k by rw [e]; exact fun z => q (Option.some.inj z))]
      exact .cons e h1 h2 (RpEn.mp hv t)
theorem RpEn.app {k : NestedKey} {kv v : V} {kd d : D} (e : keyN kd = some k) (hk : Rp K Z H kv kd) (hv : Rp K Z H v d) : ∀ {xs : List En} {kvs : List (D × D)}, RpEn K Z H xs kvs → RpEn K Z H (xs ++ [(k, kv, v)]) (kvs ++ [(kd, d)])
  | _, _, .nil => .cons e hk hv .nil
  | _, _, .cons e' h1 h2 t => .cons e' h1 h2 (RpEn.app e hk hv t)
theorem RpEn.put {k : NestedKey} {kv v : V} {kd d : D} {xs : List En} {kvs : List (D × D)} (h : RpEn K Z H xs kvs) (e : keyN kd = some k) (hk : Rp K Z H kv kd) (hv : Rp K Z H v d) : RpEn K Z H (DPK.xput xs k kv v) (DPK.dput kvs k kd d) := by
  unfold DPK.xput DPK.dput
  rw [(h.find (k := k)).isSome]
  split
  · exact h.mp hv
  · exact h.app e hk hv
theorem RpEn.length : ∀ {xs : List En} {kvs : List (D × D)}, RpEn K Z H xs kvs → xs.length = kvs.length
  | _, _, .nil => rfl
  | _, _, .cons _ _ _ t => by simp [RpEn.length t]
theorem RpEn.keyv : ∀ {xs : List En} {kvs : List (D × D)}, RpEn K Z H xs kvs → ∀ x ∈ xs, ∃ p ∈ kvs, keyN p.1 = some x.1 ∧ Rp K Z H x.2.1 p.1
  | _, _, .nil, _, h => nomatch h
  | _, _, .cons e h1 h2 t, x, h => by
    rcases List.mem_cons.mp h with rfl | h
    · exact ⟨_, List.mem_cons_self, e, h1⟩
    · obtain ⟨p, hp, r⟩ := t.keyv x h
      exact ⟨p, List.mem_cons_of_mem _ hp, r⟩
theorem RpEn.ks : ∀ {xs : List En} {kvs : List (D × D)}, RpEn K Z H xs kvs → kvs.map (fun p => keyN p.1) = xs.map fun x => some x.1
  | _, _, .nil => rfl
  | _, _, .cons e h1 h2 t => by rw [List.map_cons, List.map_cons, t.ks]; exact congrArg (· :: _) e
theorem RpEn.keys {b : Bool} {xs : List En} {kvs : List (D × D)} (h : RpEn K Z H xs kvs) (o : KdOk kvs) (hb : DPK.kinds b kvs = true) : DPK.Keys K H b xs where
  nd := by
    have n := o.nd
    rw [h.ks] at n
    have n2 : ((xs.map (·.1)).map some).Nodup := by rw [List.map_map]; exact n
    exact (List.pairwise_map.mp n2).imp fun h e => h (congrArg some e)
  ok := fun x hx => by
    obtain ⟨p, hp, e, r⟩ := h.keyv x hx
    obtain ⟨k, hk⟩ := o.ok p hp
    obtain ⟨k1, k2⟩ := DPK.keyK_inv hk
    rw [e] at k1
    cases k1
    refine ⟨⟨p.1, e, r.dp (DPK.keyN_lay _ _ e)⟩, k2, ?_⟩
    rw [DPK.keyN_isT e]
    exact of_decide_eq_true (List.all_eq_true.mp hb p hp)
theorem RpEn.keyV {k : NestedKey} {v : V} {d : D} (e : keyN d = some k) (r : Rp K Z H v d) : DPK.KeyV K H k v := ⟨d, e, r.dp (DPK.keyN_lay _ _ e)⟩
theorem ObN.frz {p : Addr} {o : HO} {b : OB} (h1 : H p = some o) (h : ObN K Z H p o b) (n : ¬ Z' p) (hs : ∀ a, Z' a → Z a) (m : Muts Z H) (hk : Off K Z) : Rp K Z' H (.ref p) (obD b) := by
  cases b with
  | l ds =>
    obtain ⟨vs, rfl, h2⟩ := h
    exact .lst n (.of h1) (RpAll.less hs h2 m hk)
  | d kvs =>
    obtain ⟨xs, rfl, o, h2⟩ := h
    exact .dct n (.inl h1) o (RpEn.less hs h2 m hk)
end DP
/-! The pure layer, part D: the judgements, and the operations by values. -/
namespace DP
open PySem PySem.Spec PyProof.Rows L2
open DPK (En dO keyN KdOk)

theorem koff_of {X : Cx} {pins : List (Addr × Obj)} {σ : Sg} {H : Hp} {s : Shared} (I : Inv X pins σ H s) : KOff X.K H := fun a o e => (I.bs a o (I.mod.kin a o e)).2

/-! ### the judgements' readings -/
def pE (K : PySem.W.Frag) (ev : PEnv → Option (R × PEnv)) : TE := fun σ H Q => KOff K H → ∃ F O ρ r ρ', EI K F O σ H ρ ∧ ev ρ = some (r, ρ') ∧
  ∀ v H' O', KOff K H' → Step O O' H H' → EI K F O' σ H' ρ' → RR K F O' σ H' ρ' v r → Q v H'
def pT (K : PySem.W.Frag) (ev : PEnv → Option (R × PEnv)) : TT := fun σ H Q => KOff K H → ∃ F O ρ b ρ', EI K F O σ H ρ ∧ ev ρ = some (.v (.bool b), ρ') ∧
  ∀ H' O', KOff K H' → Step O O' H H' → EI K F O' σ H' ρ' → Q b H'
section
variable {X : Cx} {py : Expr} {t : TE} {tt : TT} {ev : PEnv → Option (R × PEnv)}
theorem PE.of (h : PE X py t) (imp : ∀ (σ : Sg) (H : Hp) (Q : VK) F O ρ r ρ', KOff X.K H → EI X.K F O σ H ρ → ev ρ = some (r, ρ') →
    (∀ v H' O', KOff X.K H' → Step O O' H H' → EI X.K F O' σ H' ρ' → RR X.K F O' σ H' ρ' v r → Q v H') → t σ H fun v H' => KOff X.K H' → Q v H') : PE X py (pE X.K ev) := by
  refine ⟨fun pins s σ H Q I h0 => ?_⟩
  obtain ⟨F, O, ρ, r, ρ', I1, e, q⟩ := h0 (koff_of I)
  refine thn (h.run pins s σ H _ I (imp σ H Q F O ρ r ρ' (koff_of I) I1 e q)) fun u s1 ⟨v, H1, J, rv, q1⟩ => ⟨v, H1, J, rv, q1 (koff_of J)⟩
theorem PT.of (h : PT X py tt) (imp : ∀ (σ : Sg) (H : Hp) (Q : Bool → Hp → Prop) F O ρ b ρ', KOff X.K H → EI X.K F O σ H ρ → ev ρ = some (.v (.bool b), ρ') →
    (∀ H' O', KOff X.K H' → Step O O' H H' → EI X.K F O' σ H' ρ' → Q b H') → tt σ H fun v H' => KOff X.K H' → Q v H') : PT X py (pT X.K ev) := by
  refine ⟨fun pins s σ H Q I h0 => ?_⟩
  obtain ⟨F, O, ρ, r, ρ', I1, e, q⟩ := h0 (koff_of I)
  refine thn (h.run pins s σ H _ I (imp σ H Q F O ρ r ρ' (koff_of I) I1 e q)) fun u s1 ⟨H1, J, q1⟩ => ⟨H1, J, q1 (koff_of J)⟩
theorem PW.of (h : PW X py tt) (imp : ∀ (σ : Sg) (H : Hp) (Q : Bool → Hp → Prop) F O ρ b ρ', KOff X.K H → EI X.K F O σ H ρ → ev ρ = some (.v (.bool b), ρ') →
    (∀ H' O', KOff X.K H' → Step O O' H H' → EI X.K F O' σ H' ρ' → Q b H') → tt σ H fun v H' => KOff X.K H' → Q v H') : PW X py (pT X.K ev) := by
  refine ⟨fun wh pins s σ H Q I h0 => ?_⟩
  obtain ⟨F, O, ρ, r, ρ', I1, e, q⟩ := h0 (koff_of I)
  refine thn (h.run wh pins s σ H _ I (imp σ H Q F O ρ r ρ' (koff_of I) I1 e q)) fun u s1 ⟨H1, J, q1⟩ => ⟨H1, J, q1 (koff_of J)⟩
/-- a value that is a bool, as a test -/
theorem PT.val (h : PE X py (pE X.K ev)) (he : ∀ whole, isTrue py X.env whole = (do let v ← whole; standAt py.pos; holding [v] (truthy v))) : PT X py (pT X.K ev) :=
  PT.of (pt_val h he) fun σ H Q F O ρ b ρ' kf I e q => fun _ => ⟨F, O, ρ, _, ρ', I, e, fun v H' O' k' s I' h => by
    cases h
    exact ⟨b, rfl, fun _ => q H' O' k' s I'⟩⟩
end

section
variable {K : PySem.W.Frag} {F O O' : Addr → Prop} {σ : Sg} {H H' : Hp} {ρ ρ' : PEnv} {v : V} {r : R} {Z : Addr → Prop}
/-- the frame owns less -/
theorem EI.less (I : EI K F O σ H ρ) (kf : KOff K H) (l : ∀ a, O' a → O a) (own : ∀ (i : Nat) b a, ρ[i]? = some (.o b) → σ[i]? = some (some (V.ref a)) → O' a) : EI K F O' σ H ρ where
  mf := fun a z => I.mf a (z.imp id (l a))
  dis := fun a z z' => I.dis a z (l a z')
  len := I.len
  val := fun i d e => let ⟨v, e1, h⟩ := I.val i d e; ⟨v, e1, Rp.less (fun a z => z.imp id (l a)) h I.mf (kf.off I.mf)⟩
  own := fun i b e => by
    obtain ⟨a, e1, z, h⟩ := I.own i b e
    obtain ⟨u, h1, h2⟩ := h
    exact ⟨a, e1, own i b a e e1, u, h1, ObN.less (fun a z => z.imp id (l a)) h2 I.mf (kf.off I.mf)⟩
  inj := I.inj
/-- a result, held while others are evaluated -/
theorem EI.hold (I : EI K F O σ H ρ) (kf : KOff K H) (h : RR K F O σ H ρ v r) : ∃ O2, (∀ a, O2 a → O a) ∧ EI K F O2 σ H ρ ∧ HR K F O2 σ H v r := by
  cases r with
  | v d => exact ⟨O, fun _ z => z, I, h⟩
  | pk i => exact ⟨O, fun _ z => z, I, h⟩
  | fr b =>
    obtain ⟨p, rfl, op, ob, ne⟩ := h
    refine ⟨fun a => O a ∧ a ≠ p, fun a z => z.1, I.less kf (fun a z => z.1) (fun i b a e1 e2 => ?_), ?_⟩
    · obtain ⟨a', e3, z, _⟩ := I.own i b e1
      rw [e2] at e3
      cases e3
      exact ⟨z, fun e => ne i b e1 (by rw [e2, e])⟩
    · have nz : ¬ Or2 F (fun a => O a ∧ a ≠ p) p := fun z => by
        rcases z with z | z
        · exact I.dis p z op
        · exact z.2 rfl
      cases b with
      | l ds =>
        obtain ⟨_, h1, vs, rfl, h2⟩ := ob
        exact .lst nz (.of h1) (RpAll.less (fun a z => z.imp id (·.1)) h2 I.mf (kf.off I.mf))
      | d kvs =>
        obtain ⟨_, h1, xs, rfl, o, h2⟩ := ob
        exact .dct nz (.inl h1) o (RpEn.less (fun a z => z.imp id (·.1)) h2 I.mf (kf.off I.mf))
theorem Step.less (l : ∀ a, O' a → O a) : Step O O' H H := ⟨.refl, fun a z => .inl (l a z)⟩
/-- a value in the widest sense: what it is, if it is only read -/
def CR (K : PySem.W.Frag) (Z : Addr → Prop) (H : Hp) (v : V) : D → Prop
  | .list ds => ∃ a vs, v = .ref a ∧ SqL K H a vs ∧ RpAll K Z H vs ds
  | .dict kvs => (∃ a xs, v = .ref a ∧ Rd H a (dO a xs) ∧ KdOk kvs ∧ RpEn K Z H xs kvs) ∨ ((fnN (.dict kvs)).isSome = true ∧ ∃ a, v = .ref a)
  | d => Rp K Z H v d
theorem Rp.cr {d : D} (h : Rp K Z H v d) : CR K Z H v d := by
  cases d with
  | list ds => cases h with | lst _ s a => exact ⟨_, _, rfl, s, a⟩
  | dict kvs =>
    cases h with
    | dct _ s o a => exact .inl ⟨_, _, rfl, s, o, a⟩
    | fn e => exact .inr ⟨rfl, _, rfl⟩
  | _ => exact h
theorem CR.dp {d : D} (h : CR K Z H v d) (l : SeqAt.shaped d = true) : Dp K H v d := by
  have l := SeqAt.canLay_of_shaped l
  cases d with
  | list ds =>
    simp only [PyData.canLay0] at l
    obtain ⟨a, vs, rfl, s, h⟩ := h
    exact .lst s (h.dp l)
  | dict kvs => simp [PyData.canLay0] at l
  | _ => exact Rp.dp h l
theorem CR.tup {ds : List D} (h : CR K Z H v (.tuple ds)) : ∃ a vs, v = .ref a ∧ SqT K H a vs ∧ RpAll K Z H vs ds := by
  cases h with | tup s a => exact ⟨_, _, rfl, s, a⟩
theorem CR.int {i : Int} (h : CR K Z H v (.int i)) : v = .int i := by cases h; rfl
theorem CR.str {i : Str} (h : CR K Z H v (.str i)) : v = .str i := by cases h; rfl
theorem CR.bool {i : Bool} (h : CR K Z H v (.bool i)) : v = .bl i := by cases h; rfl
theorem CR.none (h : CR K Z H v .none) : v = .non := by cases h; rfl
theorem CR.isN {d : D} (h : CR K Z H v d) : decide (v = .non) = isNon d := by
  cases d with
  | list ds => obtain ⟨a, vs, rfl, s, h⟩ := h; rfl
  | dict kvs => rcases h with ⟨a, vs, rfl, s, h⟩ | ⟨_, a, rfl⟩ <;> rfl
  | _ => exact Rp.isN h
theorem HR.toC (I : EI K F O σ H ρ) (h : HR K F O σ H v r) {d : D} (e : toC ρ r = some d) : CR K (Or2 F O) H v d := by
  cases r with
  | v d' => cases e; exact Rp.cr h
  | fr b => cases e; exact Rp.cr h
  | pk i =>
    simp only [DP.toC] at e
    split at e
    · rename_i b hx
      cases e
      obtain ⟨a, e1, z, _, h1, h2⟩ := I.own i _ hx
      have : σ[i]? = some (some v) := h
      rw [e1] at this
      cases this
      cases b with
      | l xs =>
        obtain ⟨vs, rfl, h2⟩ := h2
        exact ⟨a, vs, rfl, .of h1, h2⟩
      | d kvs =>
        obtain ⟨xs, rfl, o, h2⟩ := h2
        exact .inl ⟨a, xs, rfl, (.inl h1), o, h2⟩
    · cases e
theorem HR.toV (h : HR K F O σ H v r) {d : D} (e : toV r = some d) : Rp K (Or2 F O) H v d := by
  cases r with
  | v d' => cases e; exact h
  | fr b => cases e; exact h
  | pk i => cases e

/-- what an operation leaves: the heap, or one new thing in it -/
def Res (K : PySem.W.Frag) (Z : Addr → Prop) (H H' : Hp) (v : V) : R → Prop
  | .v d => (H' = H ∨ ∃ p o, H p = none ∧ H' = upd H p o ∧ ¬ Mut (some o)) ∧ Rp K Z H' v d
  | .fr b => ∃ p o, v = .ref p ∧ H p = none ∧ H' = upd H p o ∧ ObN K Z H p o b
  | .pk _ => False
theorem EI.fin (I : EI K F O σ H ρ) (kf : KOff K H) (kf' : KOff K H') (h : Res K (Or2 F O) H H' v r) : ∃ O', Step O O' H H' ∧ EI K F O' σ H' ρ ∧ RR K F O' σ H' ρ v r := by
  cases r with
  | v d =>
    obtain ⟨e, h⟩ := h
    rcases e with rfl | ⟨p, o, n, rfl, _⟩
    · exact ⟨O, .refl, I, h⟩
    · exact ⟨O, .new n, I.new kf n, h⟩
  | pk i => exact h.elim
  | fr b =>
    obtain ⟨p, o, rfl, n, rfl, ob⟩ := h
    have I' := I.new kf n (o := o)
    have np : ∀ a, (Or2 F O) a → a ≠ p := fun a z e => by
      have := I.mf a z
      rw [e, n] at this
      exact this
    have m2 : Muts (Or2 F fun a => O a ∨ a = p) (upd H p o) := fun a z => by
      rcases z with z | z | z
      · exact I'.mf a (.inl z)
      · exact I'.mf a (.inr z)
      · rw [z, upd_same]; exact ob.mut
    have off2 := kf'.off m2
    have g : Grow (Or2 F O) (Or2 F fun a => O a ∨ a = p) H := fun a z => by
      rcases z with z | z | z
      · exact .inl (.inl z)
      · exact .inl (.inr z)
      · exact .inr (by rw [z]; exact n)
    have ownNe : ∀ (i : Nat) b a, ρ[i]? = some (.o b) → σ[i]? = some (some (V.ref a)) → a ≠ p := fun i b a e1 e2 => by
      obtain ⟨a', e3, z, _⟩ := I.own i b e1
      rw [e2] at e3
      cases e3
      exact np a (.inr z)
    refine ⟨fun a => O a ∨ a = p, ⟨.new n, fun a z => z.imp id fun e => by rw [e]; exact n⟩, ⟨m2, fun a z z' => ?_, I.len, fun i d e => ?_, fun i b e => ?_, I.inj⟩, p, rfl, .inr rfl, ?_, fun i c e1 e2 => ownNe i c p e1 e2 rfl⟩
    · rcases z' with z' | z'
      · exact I.dis a z z'
      · exact np a (.inl z) z'
    · obtain ⟨v, e1, h⟩ := I.val i d e
      exact ⟨v, e1, Rp.keep I.mf (.new n) g off2 h⟩
    · obtain ⟨a, e1, z, h⟩ := I.own i b e
      obtain ⟨u, h1, h2⟩ := h
      exact ⟨a, e1, .inl z, u, by rw [upd_ne (np a (.inr z))]; exact h1, ObN.keep I.mf (.new n) g off2 h2⟩
    · exact ⟨o, upd_same, ObN.keep I.mf (.new n) g off2 ob⟩
end
end DP
/-! Extra rules: lists and tuples, however they are known. -/
namespace DPX
open PySem PySem.Spec PyProof.Rows L2
theorem int_rmul_listW (a : Int) (t : Tok) (l : Addr) (items : Array Value) (n : Nat) (dd : Option Addr) (sl : Array (Option Value)) :
    Meets (Builtin.«int.__rmul__» ⟨[.int a t, .ref l], []⟩) (fun _ R s => s.heap.get? l = some { cls := .type "list", dict := dd, data := .seq items n, slots := sl } ∧ R (.ok (.ret Value.notImplemented)) s) :=
  .of_wp fun prog w A R s h => by obtain ⟨hp, g, d, tk, os⟩ := s; obtain ⟨hl, h⟩ := h; wp_walk using wpAny_loadPart' hl; exact ⟨_, rfl, h⟩
theorem list_mulW (l : Addr) (items : Array Value) (n : Nat) (dd : Option Addr) (sl : Array (Option Value)) (x : Int) (u : Tok) (hc0 : ¬(!Builtin.List.listFitsIndex x) = true) (hc1 : ¬items.size * x.toNat > (2 ^ 63 - 1) / 8) (hc2 : ¬Builtin.List.listTooLong (items.size * x.toNat) = true) :
    Meets (Builtin.«list.__mul__» ⟨[.ref l, .int x u], []⟩) (fun _ R s => s.heap.get? l = some { cls := .type "list", dict := dd, data := .seq items n, slots := sl } ∧ R (.ok (.ret (Value.ref s.heap.objs.size))) { s with heap := s.heap.push { cls := Value.type "list", data := Data.seq (List.foldl (fun x1 x2 => x1 ++ x2) #[] (List.replicate (if items.isEmpty = true then 0 else x.toNat) items)) }, toks := s.toks }) :=
  .of_wp fun prog w A R s h => by
    obtain ⟨hp, g, d, tk, os⟩ := s; obtain ⟨hl, h⟩ := h
    have hsz := AutoListH.joined_fits hc2
    have f1 := AutoSeq1.idx_int
    wp_walk using wpAny_loadPart' hl; refine wpAny_ite_false (decide_eq_false (Nat.not_lt.mpr hsz)) ?_; wp_walk using wpAny_loadPart' hl; exact ⟨_, rfl, h⟩
/-- t * 1, () * n: t itself -/
theorem tuple_mulS (l : Addr) (items : Array Value) (n : Nat) (dd : Option Addr) (sl : Array (Option Value)) (x : Int) (u : Tok) (c0 : (decide (x < -(2 ^ 63)) || decide (x ≥ 2 ^ 63)) = false) (c1 : (items.isEmpty || x == 1) = true) :
    Meets (Builtin.«tuple.__mul__» ⟨[.ref l, .int x u], []⟩) (fun _ R s => s.heap.get? l = some { cls := .type "tuple", dict := dd, data := .seq items n, slots := sl } ∧
      R (.ok (.ret (Value.ref l))) s) :=
  .of_wp fun prog w A R s h => by
    obtain ⟨hp, g, d, tk, os⟩ := s
    obtain ⟨hl, h⟩ := h
    have f1 := AutoSeq1.idx_int
    wp_walk using wpAny_loadPart' hl
    refine wpAny_ite_false (decide_eq_false (by rw [c0]; exact Bool.false_ne_true)) ?_; wp_walk using wpAny_loadPart' hl
    exact ⟨_, rfl, h⟩
theorem tuple_mul0 (l : Addr) (items : Array Value) (n : Nat) (dd : Option Addr) (sl : Array (Option Value)) (x : Int) (u : Tok) (c0 : (decide (x < -(2 ^ 63)) || decide (x ≥ 2 ^ 63)) = false) (c1 : (items.isEmpty || x == 1) = false) (c2 : (decide (x ≤ 0) || items.isEmpty) = true) :
    Meets (Builtin.«tuple.__mul__» ⟨[.ref l, .int x u], []⟩) (fun _ R s => s.heap.get? l = some { cls := .type "tuple", dict := dd, data := .seq items n, slots := sl } ∧
      R (.ok (.ret (Value.ref s.heap.objs.size))) { s with heap := s.heap.push { cls := Value.type "tuple", data := Data.seq #[] }, toks := s.toks }) :=
  .of_wp fun prog w A R s h => by
    obtain ⟨hp, g, d, tk, os⟩ := s
    obtain ⟨hl, h⟩ := h
    have f1 := AutoSeq1.idx_int
    wp_walk using wpAny_loadPart' hl
    repeat (first
      | (refine wpAny_ite_false (decide_eq_false (by rw [c0]; exact Bool.false_ne_true)) ?_; wp_walk using wpAny_loadPart' hl)
      | (refine wpAny_ite_false (decide_eq_false (by rw [c1]; exact Bool.false_ne_true)) ?_; wp_walk using wpAny_loadPart' hl))
    exact ⟨_, rfl, h⟩
section
variable {X : Cx} {pins : List (Addr × Obj)} {σ : L2.St} {H : Hp} {s : Shared}
/-- list + list, however they are known -/
def rCatS (K : PySem.W.Frag) : R2 := fun x y H Q => ∃ a b xs zs, x = .ref a ∧ y = .ref b ∧ SqL K H a xs ∧ SqL K H b zs ∧ xs.length + zs.length ≤ sizeLine ∧ ∀ p, H p = none → Q (.ref p) (upd H p (.lst (xs ++ zs)))
theorem op_catS : OpR X (binaryOp .Add) (rCatS X.K) := by
  intro pins s σ H x y v u Q I rx ry h
  obtain ⟨l, b, xs, zs, rfl, rfl, hH, hB, hz, q⟩ := h
  cases rx
  cases ry
  obtain ⟨its, r, ⟨⟨cls, dd, data, sl⟩, n, ho, hc, hdd, hd⟩, z⟩ := I.list hH
  obtain ⟨its2, r2, ⟨⟨cls2, dd2, data2, sl2⟩, n2, ho2, hc2, hdd2, hd2⟩, z2⟩ := I.list hB
  simp only at hc hd hc2 hd2
  subst hc hd hc2 hd2
  have h1 := r.length
  have h2 := r2.length
  refine concat_meets ⟨_, ho, rfl⟩ ⟨_, ho2, rfl⟩ noFill_list_add seq_list_add PySem.F.slot_list_add PySem.F.entry_list_add (PySem.F.args_list_add_2 _ _) (list_addW l b its.toArray its2.toArray n n2 dd dd2 sl sl2 (by simp; omega)) ⟨ho, ho2, ?_⟩
  have ea : its.toArray ++ its2.toArray = (its ++ its2).toArray := by simp
  rw [ea]
  exact ⟨.ref _, _, I.lnew (t' := s.toks) (r.append r2) (by rw [List.length_append]; omega), rfl, q _ I.fresh⟩
/-- list * int -/
def rRepS (K : PySem.W.Frag) : R2 := fun x y H Q => ∃ l k xs, x = .ref l ∧ y = .int k ∧ SqL K H l xs ∧ -(2 ^ 63) ≤ k ∧ k < 2 ^ 63 ∧ xs.length * k.toNat ≤ sizeLine ∧
  ∀ p, H p = none → Q (.ref p) (upd H p (.lst (List.replicate k.toNat xs).flatten))
theorem op_repS : OpR X (binaryOp .Mult) (rRepS X.K) := by
  intro pins s σ H x y v u Q I rx ry h
  obtain ⟨l, k, xs, rfl, rfl, hH, h1, h2, hz, q⟩ := h
  cases rx
  obtain ⟨t, rfl⟩ := ry
  obtain ⟨its, r, ⟨⟨cls, dd, data, sl⟩, n, e, hc, hdd, hd⟩, z⟩ := I.list hH
  simp only at hc hd
  subst hc hd
  have hl := r.length
  have hlen : its.toArray.size * k.toNat ≤ sizeLine := by rw [List.size_toArray, ← hl]; exact hz
  have hcap : ¬ its.toArray.size * k.toNat > (2 ^ 63 - 1) / 8 := by
    have : (sizeLine : Nat) ≤ (2 ^ 63 - 1) / 8 := by decide
    omega
  have hfit : ¬ (!Builtin.List.listFitsIndex k) = true := by
    rw [fitsIndex_both h1 h2]
    exact Bool.false_ne_true
  have hlong : ¬ Builtin.List.listTooLong (its.toArray.size * k.toNat) = true := by
    rw [notLongL hlen]
    exact Bool.false_ne_true
  have hnew : List.foldl (fun x1 x2 => x1 ++ x2) #[] (List.replicate (if its.toArray.isEmpty = true then 0 else k.toNat) its.toArray) = (List.replicate k.toNat its).flatten.toArray := by
    have f0 : ∀ m : Nat, List.foldl (fun x1 x2 => x1 ++ x2) #[] (List.replicate m its.toArray) = (List.replicate m its).flatten.toArray := fun m => by
      have := foldl_rep its m []
      rw [List.nil_append] at this
      exact this
    rw [f0]
    cases its with
    | nil => simp
    | cons a r' => rw [if_neg (by simp)]
  refine wpAny_binaryOp_repeat_ref (T := "list") (U := "int") (by decide) ⟨_, e, rfl⟩ (fun s' => typeIs_int s' k t) noFill_list_mul F.fills_int_mul F.slot_int_rmul repeat_list F.slot_int_index.lookup
    (call_meets F.slot_int_rmul (typeIs_int s k t) F.entry_int_rmul (F.args_int_rmul_2 _ _) (int_rmul_listW k t l its.toArray n dd sl)
      ⟨e, rfl, ⟨_, e, rfl⟩, call_meets F.slot_list_mul ⟨_, e, rfl⟩ F.entry_list_mul (F.args_list_mul_2 _ _) (list_mulW l its.toArray n dd sl k t hfit hcap hlong) ⟨e, ?_⟩⟩)
  rw [hnew]
  exact ⟨.ref _, _, I.lnew (t' := s.toks) (r.rep k.toNat) (by rw [PyProof.Rows.lm_len_rep_flat, Nat.mul_comm]; exact hz), rfl, q _ I.fresh⟩
/-- tuple * int: the same tuple, or a new one -/
def rRepTA (K : PySem.W.Frag) : R2 := fun x y H Q => ∃ l k xs, x = .ref l ∧ y = .int k ∧ SqT K H l xs ∧ -(2 ^ 63) ≤ k ∧ k ≤ 1000 ∧ xs.length ≤ 1000 ∧ ((List.replicate k.toNat xs).flatten = xs → Q (.ref l) H) ∧ ∀ p, H p = none → Q (.ref p) (upd H p (.tup (List.replicate k.toNat xs).flatten))
theorem op_repTA : OpR X (binaryOp .Mult) (rRepTA X.K) := by
  intro pins s σ H x y v u Q I rx ry h
  obtain ⟨l, k, xs, rfl, rfl, hT, h1, h2, hz, q1, q⟩ := h
  by_cases hk : xs ≠ [] ∧ 2 ≤ k
  · exact op_repT pins s σ H _ _ v u Q I rx ry ⟨l, k, xs, rfl, rfl, hT, hk.1, hk.2, h2, hz, q⟩
  cases rx
  obtain ⟨t, rfl⟩ := ry
  obtain ⟨its, r, ⟨⟨cls, dd, data, sl⟩, ho, hc, n, hd⟩, hs⟩ := I.tuple hT
  simp only at hc hd
  subst hc hd
  have hle : its.length = xs.length := r.length.symm
  have c0 : (decide (k < -(2 ^ 63)) || decide (k ≥ 2 ^ 63)) = false := by
    rw [decide_eq_false (by omega), decide_eq_false (by omega)] <;> rfl
  have he : its.toArray.isEmpty = xs.isEmpty := by
    cases its with
    | nil => cases xs with | nil => rfl | cons _ _ => simp at hle
    | cons _ _ => cases xs with | nil => simp at hle | cons _ _ => rfl
  by_cases hs1 : (its.toArray.isEmpty || k == 1) = true
  · have hfix : (List.replicate k.toNat xs).flatten = xs := by
      rw [he] at hs1
      cases xs with
      | nil => simp
      | cons a b =>
        have : k = 1 := by simpa using hs1
        subst this
        simp
    refine wpAny_binaryOp_repeat_ref (T := "tuple") (U := "int") (by decide) ⟨_, ho, rfl⟩ (fun s' => typeIs_int s' k t) noFill_tuple_mul F.fills_int_mul F.slot_int_rmul repeat_tuple F.slot_int_index.lookup
      (call_meets F.slot_int_rmul (typeIs_int s k t) F.entry_int_rmul (F.args_int_rmul_2 _ _) (int_rmul_tuple k t l its.toArray n dd sl)
        ⟨ho, rfl, ⟨_, ho, rfl⟩, call_meets F.slot_tuple_mul ⟨_, ho, rfl⟩ F.entry_tuple_mul (F.args_tuple_mul_2 _ _) (tuple_mulS l its.toArray n dd sl k t c0 hs1) ⟨ho, ?_⟩⟩)
    exact ⟨.ref l, H, I, rfl, q1 hfix⟩
  · have hs0 : (its.toArray.isEmpty || k == 1) = false := by simpa using hs1
    have hx : xs ≠ [] := fun e => by rw [he, e] at hs0; simp at hs0
    have hk0 : k ≤ 0 := by
      have : ¬ 2 ≤ k := fun z => hk ⟨hx, z⟩
      have h3 : k ≠ 1 := fun e => by subst e; simp at hs0
      omega
    have c2 : (decide (k ≤ 0) || its.toArray.isEmpty) = true := by rw [decide_eq_true hk0]; rfl
    refine wpAny_binaryOp_repeat_ref (T := "tuple") (U := "int") (by decide) ⟨_, ho, rfl⟩ (fun s' => typeIs_int s' k t) noFill_tuple_mul F.fills_int_mul F.slot_int_rmul repeat_tuple F.slot_int_index.lookup
      (call_meets F.slot_int_rmul (typeIs_int s k t) F.entry_int_rmul (F.args_int_rmul_2 _ _) (int_rmul_tuple k t l its.toArray n dd sl)
        ⟨ho, rfl, ⟨_, ho, rfl⟩, call_meets F.slot_tuple_mul ⟨_, ho, rfl⟩ F.entry_tuple_mul (F.args_tuple_mul_2 _ _) (tuple_mul0 l its.toArray n dd sl k t c0 hs0 c2) ⟨ho, ?_⟩⟩)
    have e0 : (List.replicate k.toNat xs).flatten = [] := by rw [show k.toNat = 0 by omega]; rfl
    rw [e0] at q
    refine ⟨.ref s.heap.objs.size, _, I.laid (t' := s.toks) (o := .tup []) (fun b ob q => Heap.get?_push_of_some _ q) (Nat.le_refl _) ?_, rfl, q _ (I.hok.fresh (Nat.le_refl _))⟩
    exact ⟨Nat.zero_le _, [], .nil, IsTup.new _ _⟩
end
section
variable {X : Cx}
/-- a product of together less than 2 ^ 26 bits or so -/
def CMulB (i j : Int) : Prop := i.natAbs.log2 + j.natAbs.log2 < 100000000
theorem cMulB_of {i j : Int} (h : DP.mulW i j = true) : CMulB i j := of_decide_eq_true (p := i.natAbs.log2 + j.natAbs.log2 < 100000000) h
theorem cMulB_ok {i j : Int} (hb : CMulB i j) : IntMulOk i j := by
  have one : ∀ y : Int, Builtin.Int.intBits y ≤ y.natAbs.log2 + 1 := by
    intro y
    unfold Builtin.Int.intBits
    split <;> omega
  have o1 := one i
  have o2 := one j
  have hb2 : i.natAbs.log2 + j.natAbs.log2 < 100000000 := hb
  have line : bitsLine = 134217728 := by decide
  intro hz
  rw [Bool.and_eq_true] at hz
  obtain ⟨_, hz2⟩ := hz
  unfold Builtin.Int.intTooBig at hz2
  have hz3 := of_decide_eq_true hz2
  rw [line] at hz3
  omega
theorem op_mulB : OpR X (binaryOp .Mult) (rI CMulB fun i j => .int (i * j)) := opI fun i j _ _ _ _ _ hb hq => mul_int hq (cMulB_ok hb)
/-- d in a tuple -/
def rInT (K : PySem.W.Frag) (neg : Bool) : R2 := fun x y H Q => ∃ d ds, Dp K H x d ∧ Dp K H y (.tuple ds) ∧ SeqAt.shaped d = true ∧ SeqAt.shaped (.tuple ds) = true ∧ Q (.bl (if neg then !ds.any (fun z => PyData.eqv z d) else ds.any (fun z => PyData.eqv z d))) H
theorem op_inT (hu : X.A.units + 65 < cLine) : OpR X (compareOp .In) (rInT X.K false) := by
  intro pins s σ H x y v u Q I rx ry h
  obtain ⟨d, ds, hd, he, sd, se, q⟩ := h
  obtain ⟨l1, r1⟩ := Dp.reads I d x v hd rx
  obtain ⟨l2, r2⟩ := Dp.reads I (.tuple ds) y u he ry
  exact SeqAt.in_tuple_reads r2 r1 (SeqAt.canLay_of_shaped se) (SeqAt.canLay_of_shaped sd) (room_in_shaped (xs := ds) sd hu) ⟨.bl _, H, I, rfl, q⟩
theorem op_ninT (hu : X.A.units + 65 < cLine) : OpR X (compareOp .NotIn) (rInT X.K true) := by
  intro pins s σ H x y v u Q I rx ry h
  obtain ⟨d, ds, hd, he, sd, se, q⟩ := h
  obtain ⟨l1, r1⟩ := Dp.reads I d x v hd rx
  obtain ⟨l2, r2⟩ := Dp.reads I (.tuple ds) y u he ry
  exact SeqAt.notIn_tuple_reads r2 r1 (SeqAt.canLay_of_shaped se) (SeqAt.canLay_of_shaped sd) (room_in_shaped (xs := ds) sd hu) ⟨.bl _, H, I, rfl, q⟩
/-- how often d stands in a list -/
def rCountD (K : PySem.W.Frag) : V → List V → Hp → VK → Prop := fun x xs H Q => ∃ (a : Addr) (y : V) (d : PyData) (ds : List PyData), x = V.ref a ∧ xs = [y] ∧ Dp K H (V.ref a) (.list ds) ∧ Dp K H y d ∧
  SeqAt.shaped (.list ds) = true ∧ SeqAt.shaped d = true ∧ Q (.int (ds.countP (fun z => PyData.eqv z d) : Nat)) H
theorem mt_countD (hu : X.A.units + 65 < cLine) : MtR X "list.count" (rCountD X.K) := by
  intro pins s σ H x xs v us Q I rx rxs h
  obtain ⟨a, y, d, ds, rfl, rfl, hl, hy, sl, sd, q⟩ := h
  cases rx
  cases rxs with
  | cons ry rt =>
    rename_i uy ut
    cases rt
    obtain ⟨bs, r1⟩ := Dp.reads I d y uy hy ry
    have lay : PyData.canLayAll0 ds = true := SeqAt.canLay_of_shaped sl
    have room : X.A.units + 1 + min (PyData.depthAll ds) d.depth < cLine := room_in_shaped sd hu
    cases hl with
    | lst hs ha =>
      obtain ⟨its, rv, ⟨⟨cls, dd, data, sls⟩, n, ho, hc, hdn, hdt⟩, hlen⟩ := I.list hs
      simp only at hc hdt
      subst hc hdt
      obtain ⟨as, h4⟩ := Dp.readsAll I ds _ its ha rv
      have hmap : its.map (SeqAt.readOf s.heap) = ds := SeqAt.readsAll_map ds its as lay h4
      refine call_meets PySem.F.slot_list_count ⟨_, ho, rfl⟩ PySem.F.entry_list_count (PySem.F.args_list_count_2 _ _)
        (SeqAt.list_countAt a its.toArray n dd sls uy (fun z => PyData.eqv (SeqAt.readOf s.heap z) d)) ⟨ho, SeqAt.items_eqAt (vs := its.toArray) (show ReadsAll s.heap its.toArray.toList ds as from h4) r1 lay (SeqAt.canLay_of_shaped sd) room, ?_⟩
      refine ⟨.int (ds.countP (fun z => PyData.eqv z d) : Nat), H, I.tok _, ⟨s.toks, ?_⟩, q⟩
      have e1 : its.countP (fun z => PyData.eqv (SeqAt.readOf s.heap z) d) = ds.countP (fun z => PyData.eqv z d) := by
        rw [← hmap, List.countP_map]
        rfl
      show Value.int ((its.toArray.toList.countP (fun z => PyData.eqv (SeqAt.readOf s.heap z) d) : Nat) : Int) s.toks = Value.int _ s.toks
      rw [List.toList_toArray, e1]
end
end DPX
/-! Extra rules: a set of the numbers of a list, its length. -/
namespace DPX
open PySem PySem.Spec PyProof.Rows L2
abbrev emptySet (w : World) : Obj := { cls := .type "set", dict := none, data := .set #[] 0 (.fresh 0 0 (!w.params.followText "set-order")) }
section
variable {P : Program} {w : World} {A : Around} {E : Value → Shared → Prop} {s : Shared}
set_option maxHeartbeats 3200000 in
/-- set(l) of a list of numbers -/
theorem call_set_listI {l : Addr} {items : Array Value} (ns : List Int) {Q : Value → Shared → Prop} (quiet : A.handled = none) (isl : s.heap.IsList l items) (numz : IntsAre items.toList ns) (few : ns.length + 1 < scanBound)
    (fin : ∀ (g : Heap) (tk c : Nat), SetR w g s.heap.objs.size (fun j => decide (j ∈ ns)) c → c ≤ ns.length → (∀ b o, s.heap.get? b = some o → g.get? b = some o) → Q (.ref s.heap.objs.size) { s with heap := g, toks := tk }) :
    wpAny (model P w) A (call (.type "set") [.ref l]) Q E s := by
  have many : items.size = ns.length := by
    have z := IntsAre.length numz
    rwa [Array.length_toList] at z
  obtain ⟨c0, tl0, mro0⟩ := F.called_set.mro
  have made0 := F.called_set.made
  have sub0 := F.called_set.sub
  have nty := F.called_set.notType
  have can := F.called_set.canCreate
  have tcall := F.typeCall_set_1 (.ref l)
  refine wpAny_call (codeAny_of_tree ?_)
  show wpAny _ _ (callAny (.type "set") _) _ _ _
  refine wpAny_pure ⟨Code.quiet_builtin _ (by decide +kernel), codeAny_builtin F.entry_type_call ?_⟩
  rw [Around.under_plain (weight_type_call_type "set" [.ref l] []) rfl]
  repeat (any_goals (first | assumption | wp_step))
  refine codeAny_mono (code_set_led1 (.ref l) (E := E) (Q₁ := fun ob z => ob = .ref s.heap.objs.size ∧ z = { s with heap := s.heap.push (emptySet w) }) ⟨rfl, rfl⟩) fun r z hr => ?_
  cases r with
  | error e => exact hr
  | ok fl =>
    cases fl with
    | ret ob =>
      obtain ⟨rfl, rfl⟩ := hr
      have there : (s.heap.push (emptySet w)).get? s.heap.objs.size = some (emptySet w) := Heap.get?_push_size _ rfl
      have ty : Shared.TypeIs { s with heap := s.heap.push (emptySet w) } (.ref s.heap.objs.size) "set" := ⟨_, there, rfl⟩
      have look := F.called_set.init.lookup
      have bnd := F.called_set.init.bind (.ref s.heap.objs.size)
      repeat (any_goals (first | assumption | wp_step))
      refine codeAny_mono (codeAny_call_builtin (R := wants (fun r z => r = .none ∧ ∃ g tk c, z = { s with heap := g, toks := tk } ∧ SetR w g s.heap.objs.size (fun j => decide (j ∈ ns)) c ∧ c ≤ ns.length ∧
          (∀ b o, s.heap.get? b = some o → g.get? b = some o)) E) F.called_set.init.plain F.entry_set_init (check_set_init_1 ty ?_)) fun r2 z2 hr2 => ?_
      · obtain ⟨ol, gl, cl, nl, dl⟩ := isl
        obtain ⟨ocls, odict, odata, oslots⟩ := ol
        simp only at cl dl
        subst cl; subst dl
        have gl' : (s.heap.push (emptySet w)).get? l = some { cls := .type "list", dict := odict, data := .seq items nl, slots := oslots } := Heap.get?_push_of_some _ gl
        have no1 := F.sub_list_set
        have no2 := F.sub_list_frozenset
        have no3 : (Value.type "list" == Value.type "dict") = false := by decide
        have isl1 : (s.heap.push (emptySet w)).IsList l items := ⟨_, gl', rfl, nl, rfl⟩
        unfold Builtin.«set.__init__» noKeywords Builtin.Frozenset.updateFrom
        generalize hPI : pyIter = PI
        wp_walk
        subst hPI
        refine wpAny_pyIter_list isl1 ?_
        refine wpAny_bind (wpAny_runValue ?_)
        have lS : l < s.heap.objs.size := Heap.lt_size gl
        have q3 : A.in1.in1.in1.handled = none := by simp [quiet]
        have sz1 : (s.heap.push (emptySet w)).objs.size = s.heap.objs.size + 1 := Heap.size_push ..
        have lI : l ≠ (s.heap.push (emptySet w)).objs.size := by
          rw [sz1]
          exact Nat.ne_of_lt (Nat.lt_succ_of_lt lS)
        have Sf : s.heap.objs.size ∉ [(s.heap.push (emptySet w)).objs.size, l] := by
          rw [sz1]
          simp only [List.mem_cons, List.not_mem_nil, or_false, not_or]
          exact ⟨Nat.ne_of_lt (Nat.lt_succ_self _), Nat.ne_of_gt lS⟩
        have vals : ∀ (i : Nat) (v : Value), items[i]? = some v → ∃ k t, ns[i]? = some k ∧ v = .int k t := fun i v hv => by
          have hi : i < ns.length := by rw [← many]; exact (Array.getElem?_eq_some_iff.mp hv).1
          obtain ⟨t, e⟩ := PyProof.Rows.IntsAre.int_at numz i v (by rw [Array.getElem?_toList]; exact hv)
          have e2 : ns[i]? = some ns[i] := List.getElem?_eq_getElem hi
          exact ⟨ns[i], t, e2, by rw [e, List.getD_eq_getElem?_getD, e2]; rfl⟩
        refine set_update_ints ((Walks.list q3 _ l lI items).toS) s.heap.objs.size Sf ns many few vals (items.size - 0) 0 _ (by omega) (Nat.zero_le _) ⟨⟨_, Heap.get?_push_size _ rfl, rfl, rfl⟩, (isl1.push _)⟩ ⟨0, Nat.le_refl 0, setR_new_at (Heap.get?_push_of_some _ there)⟩ fun z c mv hc hS => ?_
        obtain ⟨g, g2, d2, tk2, os2⟩ := z
        have eg : g2 = s.gens := mv.gens
        have ed : d2 = s.drawn := mv.drawn
        have eo : os2 = s.os := mv.os
        subst eg; subst ed; subst eo
        show wpAny _ _ _ _ _ _
        refine wpAny_pure ?_
        show wpAny _ _ (ret Value.none) _ _ _
        rw [many] at hc
        refine wpAny_pure ⟨rfl, g, tk2, c, rfl, hS, hc, fun b o e => ?_⟩
        have lb : b < s.heap.objs.size := Heap.lt_size e
        refine mv.heap b o ?_ (Heap.get?_push_of_some _ (Heap.get?_push_of_some _ e))
        rw [sz1]
        simp only [List.mem_cons, List.not_mem_nil, or_false, not_or]
        exact ⟨Nat.ne_of_lt lb, Nat.ne_of_lt (Nat.lt_succ_of_lt lb)⟩
      · cases r2 with
        | error e => exact hr2
        | ok fl2 =>
          cases fl2 with
          | ret r =>
            obtain ⟨rfl, g, tk, c, rfl, hS, hc, hk⟩ := hr2
            repeat (any_goals (first | assumption | wp_step))
            exact fin _ _ _ hS hc hk
          | _ => exact hr2.elim
    | _ => exact hr.elim
end
/-- the numbers that stand in a sorted list are the set's -/
theorem usort_mem (x : Int) : ∀ l : List Int, x ∈ DP.usort l ↔ x ∈ l := by
  have one : ∀ (y : Int) (l : List Int), x ∈ DP.insU y l ↔ x = y ∨ x ∈ l := by
    intro y l
    induction l with
    | nil => simp [DP.insU]
    | cons z r ih =>
      unfold DP.insU
      split
      · simp
      · split
        · rename_i h1 h2
          subst h2
          simp
        · simp only [List.mem_cons, ih]
          constructor
          · rintro (h | h | h)
            · exact .inr (.inl h)
            · exact .inl h
            · exact .inr (.inr h)
          · rintro (h | h | h)
            · exact .inr (.inl h)
            · exact .inl h
            · exact .inr (.inr h)
  intro l
  induction l with
  | nil => simp [DP.usort]
  | cons y r ih => rw [DP.usort, one, ih, List.mem_cons]
theorem usort_lt : ∀ l : List Int, (DP.usort l).Pairwise (· < ·) := by
  have one : ∀ (y : Int) (l : List Int), l.Pairwise (· < ·) → (DP.insU y l).Pairwise (· < ·) := by
    intro y l
    induction l with
    | nil => intro _; simp [DP.insU]
    | cons z r ih =>
      intro h
      unfold DP.insU
      have h2 := List.pairwise_cons.mp h
      split
      · rename_i hy
        exact List.pairwise_cons.mpr ⟨fun u hu => by
          rcases List.mem_cons.mp hu with rfl | hu
          · exact hy
          · exact Int.lt_trans hy (h2.1 u hu), h⟩
      · split
        · exact h
        · rename_i h3 h4
          refine List.pairwise_cons.mpr ⟨fun u hu => ?_, ih h2.2⟩
          have mem : u = y ∨ u ∈ r := by
            have : ∀ (l : List Int), u ∈ DP.insU y l → u = y ∨ u ∈ l := by
              intro l
              induction l with
              | nil => intro h; simp [DP.insU] at h; exact .inl h
              | cons a b ihb =>
                unfold DP.insU
                split
                · intro h
                  rcases List.mem_cons.mp h with e | e
                  · exact .inl e
                  · exact .inr e
                · split
                  · exact fun h => .inr h
                  · intro h
                    rcases List.mem_cons.mp h with e | e
                    · exact .inr (by rw [e]; exact List.mem_cons_self)
                    · rcases ihb e with q | q
                      · exact .inl q
                      · exact .inr (List.mem_cons_of_mem _ q)
            exact this r hu
          rcases mem with rfl | hm
          · omega
          · exact h2.1 u hm
  intro l
  induction l with
  | nil => simp [DP.usort]
  | cons y r ih => exact one y _ ih
/-- rising lists of the same members are the same -/
theorem rise_same : ∀ (l m : List Int), l.Pairwise (· < ·) → m.Pairwise (· < ·) → (∀ x, x ∈ l ↔ x ∈ m) → l = m
  | [], [], _, _, _ => rfl
  | [], y :: m, _, _, h => absurd ((h y).mpr List.mem_cons_self) (by simp)
  | x :: l, [], _, _, h => absurd ((h x).mp List.mem_cons_self) (by simp)
  | x :: l, y :: m, hl, hm, h => by
    have h1 := List.pairwise_cons.mp hl
    have h2 := List.pairwise_cons.mp hm
    have e : x = y := by
      rcases List.mem_cons.mp ((h x).mp List.mem_cons_self) with e | e
      · exact e
      · rcases List.mem_cons.mp ((h y).mpr List.mem_cons_self) with e' | e'
        · exact e'.symm
        · have := h1.1 y e'
          have := h2.1 x e
          omega
    subst e
    congr 1
    refine rise_same l m h1.2 h2.2 fun z => ⟨fun hz => ?_, fun hz => ?_⟩
    · rcases List.mem_cons.mp ((h z).mp (List.mem_cons_of_mem _ hz)) with e | e
      · have := h1.1 z hz; omega
      · exact e
    · rcases List.mem_cons.mp ((h z).mpr (List.mem_cons_of_mem _ hz)) with e | e
      · have := h2.1 z hz; omega
      · exact e
theorem usort_the {l m : List Int} (hl : l.Pairwise (· < ·)) (h : ∀ x, x ∈ l ↔ x ∈ m) : l = DP.usort m := rise_same _ _ hl (usort_lt m) fun x => (h x).trans (usort_mem x m).symm
/-- a set of numbers has as many members as the sorted list -/
theorem setR_count {w : World} {h : Heap} {a : Addr} {ns : List Int} {c : Nat} (R : SetR w h a (fun j => decide (j ∈ ns)) c) : c = (DP.usort ns).length := by
  obtain ⟨o, es, ep, t, _, _, _, _, nd, mem, _, _, hn, _⟩ := R
  have p : (es.toList.map keyOf).Perm (DP.usort ns) := by
    refine (List.perm_ext_iff_of_nodup nd ((usort_lt ns).imp fun h => Int.ne_of_lt h)).mpr fun x => ?_
    rw [usort_mem, ← mem x]
    exact decide_eq_true_iff
  have := p.length_eq
  rw [List.length_map, Array.length_toList] at this
  omega
section
variable {X : Cx}
/-- set(x) of a list, of a tuple of numbers -/
def rSetI (w : World) (K : PySem.W.Frag) : List V → Hp → VK → Prop := fun vs H Q => ∃ (a : Addr) (ns : List Int), vs = [V.ref a] ∧ (SqL K H a (ns.map V.int) ∨ SqT K H a (ns.map V.int)) ∧ ns.length < 4000 ∧
  ∀ p, H p = none → Q (.ref p) (upd H p (SetO w p (fun j => decide (j ∈ ns)) (DP.usort ns).length))
theorem cr_setI (hc : X.calm = true) : CallR X (.type "set") (rSetI X.w X.K) := by
  intro pins s σ H vs us Q I r h
  obtain ⟨a, ns, rfl, hq, hl, q⟩ := h
  rw [Vals.ref1 r]
  have room : ns.length + 1 < scanBound := by unfold scanBound; omega
  have fin : ∀ (g : Heap) (tk c : Nat), SetR X.w g s.heap.objs.size (fun j => decide (j ∈ ns)) c → c ≤ ns.length → (∀ b o, s.heap.get? b = some o → g.get? b = some o) → EP X pins σ Q (.ref s.heap.objs.size) { s with heap := g, toks := tk } := fun g tk c hS hcl hk => by
    have e := setR_count hS
    subst e
    exact ⟨.ref s.heap.objs.size, _, I.laid hk (Nat.le_refl _) (setO_new hS), rfl, q _ (I.hok.fresh (Nat.le_refl _))⟩
  rcases hq with hq | hq
  · obtain ⟨its, rv, pl, _⟩ := I.list hq
    exact call_set_listI ns (I.ok.hd hc) pl.isList (by simpa using ints_of_vals rv) room fin
  · obtain ⟨its, rv, pl, _⟩ := I.tuple hq
    exact call_set_tupI ns (I.ok.hd hc) (show s.heap.IsTuple a its.toArray from pl) (by simpa using ints_of_vals rv) room fin
/-- len(s) of such -/
def rLenSet (w : World) : List V → Hp → VK → Prop := fun vs H Q => ∃ (a : Addr) (S : Int → Bool) (n : Nat), vs = [V.ref a] ∧ H a = some (SetO w a S n) ∧ n < 4000 ∧ Q (.int (n : Nat)) H
theorem cr_lenSet : CallR X (.builtin "len") (rLenSet X.w) := by
  intro pins s σ H vs us Q I r h
  obtain ⟨a, S, n, rfl, ha, hn, q⟩ := h
  rw [Vals.ref1 r]
  obtain ⟨o, es, ep, t, ho, hex, hd, _, _, _, _, hf, hz, _⟩ := setO_get I ha
  refine call_len_set ho hex hd hf (by omega) ?_
  exact ⟨.int (n : Nat), H, I.tok _, ⟨_, by rw [hz]⟩, q⟩
theorem sorted_setW {prog : Program} {w : World} {A : Around} {E : Value → Shared → Prop} {s : Shared} {a : Addr} {S : Int → Bool} {n : Nat} {Q : Value → Shared → Prop} (R : SetR w s.heap a S n) (hh : A.handled = none) (h64 : n < 4000)
    (hQ : ∀ s' p (out : Array Value) (c : Nat) (ns : List Int), (∀ b o, s.heap.get? b = some o → s'.heap.get? b = some o) → s'.gens = s.gens → s'.os = s.os → s.heap.objs.size ≤ p →
      s'.heap.get? p = some (seqObj "list" out c) → IntsAre out.toList ns → ns.Pairwise (· < ·) → (∀ k, k ∈ ns ↔ S k = true) → ns.length = n → Q (.ref p) s') :
    wpAny (model prog w) A (call (.builtin "sorted") [.ref a]) Q E s := by
  obtain ⟨o, es, ep, t, ho, hex, hd, g, nd, hm, hb, hf, hn, hr, hl⟩ := R
  refine Calls.call_function_entry kind_sorted plain_sorted entry_sorted (args_sorted1 _) ?_
  unfold Builtin.«sorted»
  refine wpAny_bind (m := checkCount "sorted" 1 1 _) (wpAny_pure ?_)
  refine wpAny_bind (collect_set (A := A.in1) hh ⟨o, ho, hex.1, hd⟩ hf hb hr hl fun s1 vs k1 hz g1 o1 pm => ?_)
  have hvl : vs.length = n := by rw [pm.length_eq, List.length_map, Array.length_toList]; exact hn
  have hI : IntsAre vs (vs.map Builtin.Re.reRawOf) := ints_of vs fun v hv => by
    obtain ⟨e, he, q⟩ := List.mem_map.mp (pm.mem_iff.mp hv)
    obtain ⟨k, tk, h1, _⟩ := g e he
    exact ⟨k, tk, by rw [← q]; exact h1⟩
  have pk : (vs.map Builtin.Re.reRawOf).Perm (es.toList.map keyOf) := by
    have q := pm.map Builtin.Re.reRawOf
    rw [List.map_map] at q
    exact q
  refine wpAny_bind (wpAny_newList ?_ (by rw [hvl, sizeLine_eq]; omega))
  have hoL : (s1.heap.push (seqObj "list" vs.toArray 0)).get? s1.heap.objs.size = some (seqObj "list" vs.toArray 0) := Heap.get?_push_size _ rfl
  refine wpAny_bind (wpAny_holding (wpAny_call_entry slot_list_sort ⟨_, hoL, rfl⟩ entry_list_sort (SrtO.list_sort_ord SrtO.swo_int hoL (by rw [hvl, sizeLine_eq]; omega) (fun h2 => SrtO.ints_sortable hI h2) fun out h1 h2 => ⟨_, rfl, ?_⟩) (args_list_sort _)))
  obtain ⟨a1, a2, a3⟩ := SrtO.ints_out hI h1 h2
  obtain ⟨c, hc⟩ := sortedHeap_at (vs := vs) (out := out.toArray) hoL
  have pn : (out.map SrtO.iv).Perm (es.toList.map keyOf) := a2.trans pk
  refine wpAny_pure ⟨_, rfl, hQ _ s1.heap.objs.size out.toArray c (out.map SrtO.iv) (fun b u e => ?_) g1 o1 hz hc a1 (lt_of_le_nodup _ a3 (pn.nodup_iff.mpr nd)) (fun k => by rw [pn.mem_iff, ← hm k]) ?_⟩
  · have q := k1 b u e
    have hlt := Heap.lt_size q
    show (sortedHeap (s1.heap.push (seqObj "list" vs.toArray 0)) s1.heap.objs.size vs out.toArray).get? b = some u
    rw [sortedHeap_old (Nat.ne_of_lt hlt) (by rw [size_push']; exact Nat.lt_succ_of_lt hlt)]
    exact Heap.get?_push_of_some _ q
  · rw [pn.length_eq, List.length_map, Array.length_toList]; exact hn
/-- sorted(found), fewer than 4000 members -/
def rSortedSetW (w : World) : List V → Hp → VK → Prop := fun vs H Q => ∃ (a : Addr) (S : Int → Bool) (n : Nat), vs = [V.ref a] ∧ H a = some (SetO w a S n) ∧ n < 4000 ∧
  ∀ (ns : List Int) (p : Addr), ns.Pairwise (· < ·) → (∀ k : Int, k ∈ ns ↔ S k = true) → ns.length = n → H p = none → Q (.ref p) (upd H p (.lst (ns.map V.int)))
theorem cr_sortedSetW (hc : X.calm = true) : CallR X (.builtin "sorted") (rSortedSetW X.w) := by
  intro pins s σ H vs us Q I r h
  obtain ⟨a, S, n, rfl, ha, h64, q⟩ := h
  have R := setO_get I ha
  rw [Vals.ref1 r]
  refine sorted_setW R (I.ok.hd hc) h64 fun s' p out c ns k g o hp hg hi hs hm hl => ?_
  have hlen : (ns.map V.int).length ≤ sizeLine := by rw [List.length_map, hl, sizeLine_eq]; omega
  have hn : H p = none := I.hok.fresh hp
  have J : Inv X pins σ (upd H p (.lst (ns.map V.int))) { s with heap := s'.heap, gens := s'.gens, drawn := s'.drawn, toks := s'.toks } :=
    I.call (ch := []) (Un.laid k hp hn) (I.hok.laid k hp ⟨hlen, out.toList, c, vals_of_ints hi, hg⟩) (by rw [g]; exact I.bare) (fun _ z => nomatch z)
  have e : s' = { s with heap := s'.heap, gens := s'.gens, drawn := s'.drawn, toks := s'.toks } := by
    cases s'
    cases s
    cases o
    rfl
  rw [e]
  exact ⟨.ref p, _, J, rfl, q ns p hs hm hl hn⟩
end
end DPX
/-! Extra rules: max and min of a tuple of numbers. -/
namespace DPX
open PySem PySem.Spec PySem.W PyProof.Rows L2
theorem fold_max : ∀ (xs : List Int) (m : Int), xs.foldl max m = DP.maxL m xs
  | [], _ => rfl
  | x :: r, m => by
    unfold DP.maxL
    rw [List.foldl_cons, fold_max r]
    congr 1
    rw [Int.max_def]
    split <;> split <;> omega
theorem fold_min : ∀ (xs : List Int) (m : Int), xs.foldl min m = DP.minL m xs
  | [], _ => rfl
  | x :: r, m => by
    unfold DP.minL
    rw [List.foldl_cons, fold_min r]
    congr 1
    rw [Int.min_def]
    split <;> split <;> omega
theorem alike_ints (ns : List Int) : AlikeAll (ns.map PyData.int) := by
  refine ⟨fun x hx y hy => ?_, fun x hx => ?_⟩
  · obtain ⟨a, _, rfl⟩ := List.mem_map.mp hx
    obtain ⟨b, _, rfl⟩ := List.mem_map.mp hy
    rfl
  · obtain ⟨a, _, rfl⟩ := List.mem_map.mp hx
    exact fun h => by cases h
theorem depth_ints (ns : List Int) : PyData.depthAll (ns.map PyData.int) = 0 := by
  induction ns with
  | nil => rfl
  | cons b r ih => simp [PyData.depthAll, PyData.depth, ih]
section
variable {X : Cx}
def rMaxT (K : PySem.W.Frag) : List V → Hp → VK → Prop := fun vs H Q => ∃ (a : Addr) (n : Int) (ns : List Int), vs = [V.ref a] ∧ SqT K H a ((n :: ns).map V.int) ∧ Q (.int (DP.maxL n ns)) H
def rMinT (K : PySem.W.Frag) : List V → Hp → VK → Prop := fun vs H Q => ∃ (a : Addr) (n : Int) (ns : List Int), vs = [V.ref a] ∧ SqT K H a ((n :: ns).map V.int) ∧ Q (.int (DP.minL n ns)) H
theorem cr_maxT (hc : X.calm = true) (hr : X.A.units + 200 < cLine) : CallR X (.builtin "max") (rMaxT X.K) := by
  intro pins s σ H vs us Q I r h
  obtain ⟨a, n, ns, rfl, hs, q⟩ := h
  obtain ⟨its, rv, pl, _⟩ := I.tuple hs
  rw [Vals.ref1 r]
  have hi : IntsAre its (n :: ns) := ints_of_vals rv
  refine max_tuple_data (x := .int n) (xs := ns.map .int) (as := []) (I.ok.hd hc) (show s.heap.IsTuple a its.toArray from pl) (by simpa using ints_readAll s.heap hi) (alike_ints (n :: ns)) (by have := depth_ints (n :: ns); rw [List.map_cons] at this; omega) fun i v h' tk bs hv hrd hk => ?_
  rw [maxD_ints, fold_max] at hrd
  cases hrd
  exact ⟨.int _, H, I.kept hk, ⟨_, rfl⟩, q⟩
theorem cr_minT (hc : X.calm = true) (hr : X.A.units + 200 < cLine) : CallR X (.builtin "min") (rMinT X.K) := by
  intro pins s σ H vs us Q I r h
  obtain ⟨a, n, ns, rfl, hs, q⟩ := h
  obtain ⟨its, rv, pl, _⟩ := I.tuple hs
  rw [Vals.ref1 r]
  have hi : IntsAre its (n :: ns) := ints_of_vals rv
  refine min_tuple_data (x := .int n) (xs := ns.map .int) (as := []) (I.ok.hd hc) (show s.heap.IsTuple a its.toArray from pl) (by simpa using ints_readAll s.heap hi) (alike_ints (n :: ns)) (by have := depth_ints (n :: ns); rw [List.map_cons] at this; omega) fun i v h' tk bs hv hrd hk => ?_
  rw [minD_ints, fold_min] at hrd
  cases hrd
  exact ⟨.int _, H, I.kept hk, ⟨_, rfl⟩, q⟩
end
end DPX
/-! The pure layer, part E: operations by values. -/
namespace DP
open PySem PySem.Spec PyProof.Rows L2
open DPK (En dO keyN KdOk)

theorem sizeL_eq : sizeL = sizeLine := rfl
/-- a two-place operation on data -/
def rOp (K : PySem.W.Frag) (f : D → D → Option R) : R2 := fun x y H Q => ∃ Z dx dy r, Muts Z H ∧ KOff K H ∧ CR K Z H x dx ∧ CR K Z H y dy ∧ f dx dy = some r ∧ ∀ v H', Res K Z H H' v r → Q v H'
section
variable {X : Cx}
theorem bo_ok (op : BO) : OpR X (binaryOp (opPy op)) (rOp X.K (bo op)) := by
  intro pins s σ H x y v u Q I rx ry ⟨Z, dx, dy, r, m, kf, hx, hy, e, q⟩
  have sc : ∀ {z : V} {d : D}, r = .v d → (∀ H, Rp X.K Z H z d) → Q z H := fun er h => q _ H (by rw [er]; exact ⟨.inl rfl, h H⟩)
  cases op with
  | add =>
    cases dx <;> cases dy <;> simp only [bo, Option.some.injEq, reduceCtorEq] at e
    · have ex := hx.int; have ey := hy.int; subst ex ey
      exact op_add pins s σ H _ _ v u Q I rx ry ⟨_, _, rfl, rfl, sc e.symm fun _ => .int _⟩
    · have ex := hx.str; have ey := hy.str; subst ex ey
      split at e
      · rename_i hl
        simp only [Option.some.injEq] at e
        exact op_add_str pins s σ H _ _ v u Q I rx ry ⟨_, _, rfl, rfl, hl, sc e.symm fun _ => .str _⟩
      · cases e
    · obtain ⟨a, vs, rfl, s1, h1⟩ := hx
      obtain ⟨b, us, rfl, s2, h2⟩ := hy
      split at e
      · rename_i hl
        simp only [Option.some.injEq] at e
        refine DPX.op_catS pins s σ H _ _ v u Q I rx ry ⟨a, b, vs, us, rfl, rfl, s1, s2, by rw [h1.length, h2.length]; exact hl, fun p n => q _ _ ?_⟩
        rw [← e]
        exact ⟨p, _, rfl, n, rfl, _, rfl, h1.append h2⟩
      · cases e
    · obtain ⟨a, vs, rfl, s1, h1⟩ := hx.tup
      obtain ⟨b, us, rfl, s2, h2⟩ := hy.tup
      split at e
      · rename_i hl
        simp only [Option.some.injEq] at e
        have l1 := h1.length
        have l2 := h2.length
        refine op_catA pins s σ H _ _ v u Q I rx ry ⟨a, b, vs, us, rfl, rfl, s1, s2, by rw [h1.length, h2.length]; exact hl, fun z => ?_, fun z z' => ?_, fun z z' p n => ?_⟩
        · subst z
          have z2 := List.eq_nil_of_length_eq_zero l1.symm
          subst z2
          exact q _ H (by rw [← e]; exact ⟨.inl rfl, hy⟩)
        · subst z'
          have z2 := List.eq_nil_of_length_eq_zero l2.symm
          subst z2
          exact q _ H (by rw [← e, List.append_nil]; exact ⟨.inl rfl, hx⟩)
        · exact q _ _ (by rw [← e]; exact ⟨.inr ⟨p, _, n, rfl, fun z => z⟩, Rp.new (h1.append h2) n m (kf.off m)⟩)
      · cases e
  | sub =>
    cases dx <;> cases dy <;> simp only [bo, Option.some.injEq, reduceCtorEq] at e
    have ex := hx.int; have ey := hy.int; subst ex ey
    exact op_sub pins s σ H _ _ v u Q I rx ry ⟨_, _, rfl, rfl, sc e.symm fun _ => .int _⟩
  | mul =>
    cases dx <;> cases dy <;> simp only [bo, Option.some.injEq, reduceCtorEq] at e
    · have ex := hx.int; have ey := hy.int; subst ex ey
      split at e
      · rename_i hl
        simp only [Option.some.injEq] at e
        rw [Bool.or_eq_true] at hl
        rcases hl with hl | hl
        · simp only [small64, Bool.or_eq_true, Bool.and_eq_true, decide_eq_true_eq] at hl
          exact op_mul pins s σ H _ _ v u Q I rx ry ⟨_, _, rfl, rfl, hl, sc e.symm fun _ => .int _⟩
        · exact DPX.op_mulB pins s σ H _ _ v u Q I rx ry ⟨_, _, rfl, rfl, DPX.cMulB_of hl, sc e.symm fun _ => .int _⟩
      · cases e
    · obtain ⟨a, vs, rfl, s1, h1⟩ := hx
      have ey := hy.int; subst ey
      split at e
      · rename_i hl
        simp only [Option.some.injEq] at e
        simp only [Bool.and_eq_true, decide_eq_true_eq] at hl
        refine DPX.op_repS pins s σ H _ _ v u Q I rx ry ⟨a, _, vs, rfl, rfl, s1, hl.1.1, hl.1.2, by rw [h1.length]; exact hl.2, fun p n => q _ _ ?_⟩
        rw [← e]
        exact ⟨p, _, rfl, n, rfl, _, rfl, h1.rep _⟩
      · cases e
    · obtain ⟨a, vs, rfl, s1, h1⟩ := hx.tup
      have ey := hy.int; subst ey
      split at e
      · rename_i hl
        simp only [Option.some.injEq] at e
        simp only [Bool.and_eq_true, decide_eq_true_eq] at hl
        refine DPX.op_repTA pins s σ H _ _ v u Q I rx ry ⟨a, _, vs, rfl, rfl, s1, hl.1.1, hl.1.2, by rw [h1.length]; exact hl.2, fun z => q _ _ ?_, fun p n => q _ _ ?_⟩
        · rw [← e]
          have h2 := h1.rep (Int.toNat ‹Int›)
          rw [z] at h2
          exact ⟨.inl rfl, .tup s1 h2⟩
        · rw [← e]
          exact ⟨.inr ⟨p, _, n, rfl, fun z => z⟩, Rp.new (h1.rep _) n m (kf.off m)⟩
      · cases e
  | fdiv =>
    cases dx <;> cases dy <;> simp only [bo, Option.some.injEq, reduceCtorEq] at e
    have ex := hx.int; have ey := hy.int; subst ex ey
    split at e
    · rename_i hl
      simp only [Option.some.injEq] at e
      simp only [Bool.and_eq_true, decide_eq_true_eq] at hl
      exact op_fdiv pins s σ H _ _ v u Q I rx ry ⟨_, _, rfl, rfl, hl, sc e.symm fun _ => .int _⟩
    · cases e
  | mod =>
    cases dx <;> cases dy <;> simp only [bo, Option.some.injEq, reduceCtorEq] at e
    have ex := hx.int; have ey := hy.int; subst ex ey
    split at e
    · rename_i hl
      simp only [Option.some.injEq] at e
      exact op_mod pins s σ H _ _ v u Q I rx ry ⟨_, _, rfl, rfl, hl, sc e.symm fun _ => .int _⟩
    · cases e
  | pow =>
    cases dx <;> cases dy <;> simp only [bo, Option.some.injEq, reduceCtorEq] at e
    have ex := hx.int; have ey := hy.int; subst ex ey
    split at e
    · rename_i hl
      simp only [Option.some.injEq] at e
      simp only [Bool.and_eq_true, decide_eq_true_eq] at hl
      exact op_pow pins s σ H _ _ v u Q I rx ry ⟨_, _, rfl, rfl, ⟨hl.1.1, hl.1.2, hl.2⟩, sc e.symm fun _ => .int _⟩
    · cases e

theorem dlook_inv {kvs : List (D × D)} {y : D} {o : Option D} (e : DPK.dlook kvs y = some o) : ∃ k, DPK.keyK y = some k ∧ DPK.kinds (DPK.isTD y) kvs = true ∧ o = DPK.dfind kvs k := by
  unfold DPK.dlook at e
  split at e
  · rename_i k hk
    split at e
    · rename_i hb
      exact ⟨k, hk, hb, (Option.some.inj e).symm⟩
    · cases e
  · cases e
/-- what looking up in a dict asks of the heap -/
theorem CR.keyV {K : PySem.W.Frag} {Z : Addr → Prop} {H : Hp} {x : V} {dx : D} {k : NestedKey} (hx : CR K Z H x dx) (e : keyN dx = some k) : DPK.KeyV K H k x := by
  cases dx with
  | list ds => simp [keyN] at e
  | dict kvs => simp [keyN] at e
  | _ => exact RpEn.keyV e hx
/-- what a lookup takes is a dict indeed -/
theorem notFn {K : PySem.W.Frag} {Z : Addr → Prop} {H : Hp} {y : V} {kvs : List (D × D)} {b : Bool} (hy : CR K Z H y (.dict kvs)) (hb : DPK.kinds b kvs = true) : ∃ a xs, y = .ref a ∧ Rd H a (dO a xs) ∧ KdOk kvs ∧ RpEn K Z H xs kvs := by
  rcases hy with h | ⟨h, _⟩
  · exact h
  · unfold fnN at h
    split at h
    · rename_i e
      cases e
      cases b <;> cases hb
    · cases h
theorem dlook_ok {K : PySem.W.Frag} {Z : Addr → Prop} {H : Hp} {x y : V} {dx : D} {kvs : List (D × D)} {o : Option D} (hx : CR K Z H x dx) (hy : CR K Z H y (.dict kvs)) (e : DPK.dlook kvs dx = some o) :
    ∃ a xs k b, y = .ref a ∧ Rd H a (dO a xs) ∧ DPK.Keys K H b xs ∧ DPK.KeyV K H k x ∧ k.depth ≤ 8 ∧ DPK.isT k = b ∧ RpO K Z H (DPK.xfind xs k) o := by
  obtain ⟨k, hk, hb, rfl⟩ := dlook_inv e
  obtain ⟨a, xs, rfl, h1, h2, h3⟩ := notFn hy hb
  obtain ⟨k1, k2⟩ := DPK.keyK_inv hk
  exact ⟨a, xs, k, _, rfl, h1, h3.keys h2 hb, hx.keyV k1, k2, DPK.keyN_isT k1, h3.find⟩
def coR (op : CO) (x y : D) : Option R := (co op x y).map fun b => .v (.bool b)
theorem co_ok (hu : X.A.units + 200 < cLine) (op : CO) : OpR X (compareOp (coPy op)) (rOp X.K (coR op)) := by
  intro pins s σ H x y v u Q I rx ry ⟨Z, dx, dy, r, m, kf, hx, hy, e, q⟩
  simp only [coR, Option.map_eq_some_iff] at e
  obtain ⟨b, e, rfl⟩ := e
  have sc : Q (.bl b) H := q _ H ⟨.inl rfl, .bl _⟩
  have hu1 : X.A.units + 64 < cLine := by omega
  have hu2 : X.A.units + 65 < cLine := by omega
  cases op with
  | lt =>
    cases dx <;> cases dy <;> simp only [co, Option.some.injEq, reduceCtorEq] at e
    · have ex := hx.int; have ey := hy.int; subst ex ey e
      exact op_lt pins s σ H _ _ v u Q I rx ry ⟨_, _, rfl, rfl, sc⟩
    · split at e
      · rename_i hl
        simp only [Option.some.injEq] at e
        simp only [Bool.and_eq_true] at hl
        subst e
        obtain ⟨as, r1⟩ := Dp.reads I _ x v (hx.dp hl.1.1) rx
        obtain ⟨bs, r2⟩ := Dp.reads I _ y u (hy.dp hl.1.2) ry
        exact PySem.W.lt_data r1 r2 hl.2 (fun z => PyData.noConfusion z) (SeqAt.room_of_shaped hl.1.1 hu1) ⟨.bl _, H, I, rfl, sc⟩
      · cases e
  | le =>
    cases dx <;> cases dy <;> simp only [co, Option.some.injEq, reduceCtorEq] at e
    · have ex := hx.int; have ey := hy.int; subst ex ey e
      exact op_le pins s σ H _ _ v u Q I rx ry ⟨_, _, rfl, rfl, sc⟩
    · split at e
      · rename_i hl
        simp only [Option.some.injEq] at e
        simp only [Bool.and_eq_true] at hl
        subst e
        obtain ⟨as, r1⟩ := Dp.reads I _ x v (hx.dp hl.1.1) rx
        obtain ⟨bs, r2⟩ := Dp.reads I _ y u (hy.dp hl.1.2) ry
        exact PySem.W.le_data r1 r2 hl.2 (fun z => PyData.noConfusion z) (SeqAt.room_of_shaped hl.1.1 hu1) ⟨.bl _, H, I, rfl, sc⟩
      · cases e
  | gt =>
    cases dx <;> cases dy <;> simp only [co, Option.some.injEq, reduceCtorEq] at e
    · have ex := hx.int; have ey := hy.int; subst ex ey e
      exact op_gt pins s σ H _ _ v u Q I rx ry ⟨_, _, rfl, rfl, sc⟩
    · split at e
      · rename_i hl
        simp only [Option.some.injEq] at e
        simp only [Bool.and_eq_true] at hl
        subst e
        obtain ⟨as, r1⟩ := Dp.reads I _ x v (hx.dp hl.1.1) rx
        obtain ⟨bs, r2⟩ := Dp.reads I _ y u (hy.dp hl.1.2) ry
        exact PySem.W.gt_data r1 r2 hl.2 (fun z => PyData.noConfusion z) (SeqAt.room_of_shaped hl.1.1 hu1) ⟨.bl _, H, I, rfl, sc⟩
      · cases e
  | ge =>
    cases dx <;> cases dy <;> simp only [co, Option.some.injEq, reduceCtorEq] at e
    · have ex := hx.int; have ey := hy.int; subst ex ey e
      exact op_ge pins s σ H _ _ v u Q I rx ry ⟨_, _, rfl, rfl, sc⟩
    · split at e
      · rename_i hl
        simp only [Option.some.injEq] at e
        simp only [Bool.and_eq_true] at hl
        subst e
        obtain ⟨as, r1⟩ := Dp.reads I _ x v (hx.dp hl.1.1) rx
        obtain ⟨bs, r2⟩ := Dp.reads I _ y u (hy.dp hl.1.2) ry
        exact PySem.W.ge_data r1 r2 hl.2 (fun z => PyData.noConfusion z) (SeqAt.room_of_shaped hl.1.1 hu1) ⟨.bl _, H, I, rfl, sc⟩
      · cases e
  | eq =>
    simp only [co] at e
    split at e
    · rename_i hl
      simp only [Option.some.injEq] at e
      simp only [Bool.and_eq_true] at hl
      subst e
      exact op_eqD hu1 pins s σ H _ _ v u Q I rx ry ⟨_, _, hx.dp hl.1, hy.dp hl.2, hl.1, hl.2, sc⟩
    · cases e
  | ne =>
    simp only [co] at e
    split at e
    · rename_i hl
      simp only [Option.some.injEq] at e
      simp only [Bool.and_eq_true] at hl
      subst e
      exact op_neD hu1 pins s σ H _ _ v u Q I rx ry ⟨_, _, hx.dp hl.1, hy.dp hl.2, hl.1, hl.2, sc⟩
    · cases e
  | isN =>
    cases dy <;> simp only [co, Option.some.injEq, reduceCtorEq] at e
    have ey := hy.none; subst ey e
    exact op_isN pins s σ H _ _ v u Q I rx ry ⟨rfl, by rw [hx.isN]; exact sc⟩
  | notN =>
    cases dy <;> simp only [co, Option.some.injEq, reduceCtorEq] at e
    have ey := hy.none; subst ey e
    exact op_notN pins s σ H _ _ v u Q I rx ry ⟨rfl, by rw [hx.isN]; exact sc⟩
  | inn =>
    cases dy <;> simp only [co, Option.some.injEq, reduceCtorEq] at e
    · split at e
      · rename_i hl
        simp only [Option.some.injEq] at e
        simp only [Bool.and_eq_true] at hl
        subst e
        exact op_inD hu2 pins s σ H _ _ v u Q I rx ry ⟨_, _, hx.dp hl.1, hy.dp hl.2, hl.1, hl.2, sc⟩
      · cases e
    · split at e
      · rename_i hl
        simp only [Option.some.injEq] at e
        simp only [Bool.and_eq_true] at hl
        subst e
        exact DPX.op_inT hu2 pins s σ H _ _ v u Q I rx ry ⟨_, _, hx.dp hl.1, hy.dp hl.2, hl.1, hl.2, sc⟩
      · cases e
    · rw [Option.map_eq_some_iff] at e
      obtain ⟨o, e, rfl⟩ := e
      obtain ⟨a, xs, k, b, rfl, h1, h2, h3, h4, h5, h6⟩ := dlook_ok hx hy e
      cases ry
      refine DPK.d_in (by omega) I h1 h2 h3 h4 h5 rx fun s' I' => ⟨.bl (DPK.xfind xs k).isSome, H, I', rfl, ?_⟩
      rw [h6.isSome]
      exact sc
  | nin =>
    cases dy <;> simp only [co, Option.some.injEq, reduceCtorEq] at e
    · split at e
      · rename_i hl
        simp only [Option.some.injEq] at e
        simp only [Bool.and_eq_true] at hl
        subst e
        exact op_notInD hu2 pins s σ H _ _ v u Q I rx ry ⟨_, _, hx.dp hl.1, hy.dp hl.2, hl.1, hl.2, sc⟩
      · cases e
    · split at e
      · rename_i hl
        simp only [Option.some.injEq] at e
        simp only [Bool.and_eq_true] at hl
        subst e
        exact DPX.op_ninT hu2 pins s σ H _ _ v u Q I rx ry ⟨_, _, hx.dp hl.1, hy.dp hl.2, hl.1, hl.2, sc⟩
      · cases e
    · rw [Option.map_eq_some_iff] at e
      obtain ⟨o, e, rfl⟩ := e
      obtain ⟨a, xs, k, b, rfl, h1, h2, h3, h4, h5, h6⟩ := dlook_ok hx hy e
      cases ry
      refine DPK.d_notIn (by omega) I h1 h2 h3 h4 h5 rx fun s' I' => ⟨.bl (!(DPK.xfind xs k).isSome), H, I', rfl, ?_⟩
      rw [h6.isSome]
      exact sc

theorem atI_rp {K : PySem.W.Frag} {Z : Addr → Prop} {H : Hp} {vs : List V} {ds : List D} {i : Int} {d : D} (h : RpAll K Z H vs ds) (e : atD ds i = some d) : ∃ v, atI vs i = some v ∧ Rp K Z H v d := by
  unfold atD atI at e
  unfold atI
  rw [h.length]
  cases hj : ixN ds.length i with
  | none => rw [hj] at e; cases e
  | some j =>
    rw [hj] at e
    obtain ⟨v, h1, h2⟩ := h.get (show ds[j]? = some d from e)
    exact ⟨v, h1, h2⟩
def ixR (x y : D) : Option R := (ix x y).map .v
theorem ix_ok (hu : X.A.units + 200 < cLine) : IxR X (rOp X.K ixR) := by
  intro value slice pins s σ H x y v u Q I rx ry h hs
  obtain ⟨Z, dx, dy, r, m, kf, hx, hy, e, q⟩ := h
  simp only [ixR, Option.map_eq_some_iff] at e
  obtain ⟨d, e, rfl⟩ := e
  cases dx with
  | dict kvs =>
    simp only [ix] at e
    have e2 : DPK.dlook kvs dy = some (some d) := by
      cases h0 : DPK.dlook kvs dy with
      | none => rw [h0] at e; cases e
      | some o => rw [h0] at e; cases o with
        | none => cases e
        | some d' => cases e; rfl
    obtain ⟨a, xs, k, b, rfl, h1, h2, h3, h4, h5, h6⟩ := dlook_ok hy hx e2
    cases rx
    cases hf : DPK.xfind xs k with
    | none => rw [hf] at h6; exact h6.elim
    | some w =>
      rw [hf] at h6
      exact DPK.ixd (by omega) I h1 h2 h3 h4 h5 ry hf (q w H ⟨.inl rfl, h6⟩) hs
  | list _ =>
    cases dy <;> simp only [ix, reduceCtorEq] at e
    obtain ⟨a, vs, rfl, s1, h1⟩ := hx
    have ey := hy.int; subst ey
    obtain ⟨w, h2, h3⟩ := atI_rp h1 e
    exact ix_list value slice pins s σ H _ _ v u Q I rx ry ⟨a, vs, _, w, rfl, rfl, s1, h2, q w H ⟨.inl rfl, h3⟩⟩ hs
  | tuple _ =>
    cases dy <;> simp only [ix, reduceCtorEq] at e
    obtain ⟨a, vs, rfl, s1, h1⟩ := hx.tup
    have ey := hy.int; subst ey
    obtain ⟨w, h2, h3⟩ := atI_rp h1 e
    exact ix_tup value slice pins s σ H _ _ v u Q I rx ry ⟨a, vs, _, w, rfl, rfl, s1, h2, q w H ⟨.inl rfl, h3⟩⟩ hs
  | _ => simp only [ix, reduceCtorEq] at e

theorem cut_rp {K : PySem.W.Frag} {Z : Addr → Prop} {H : Hp} {vs : List V} {ds : List D} {lo hi : Option Int} (h : RpAll K Z H vs ds) : RpAll K Z H (cutV vs lo hi) (cut ds lo hi) := by
  unfold cutV cut
  rw [h.length]
  exact (h.drop _).take _
def rSli (K : PySem.W.Frag) : V → Option Int → Option Int → Hp → VK → Prop := fun x lo hi H Q => ∃ Z dx r, Muts Z H ∧ KOff K H ∧ CR K Z H x dx ∧ slice dx lo hi = some r ∧ ∀ v H', Res K Z H H' v r → Q v H'
theorem sli_ok : SlR X (rSli X.K) := by
  intro pins s σ H x v vl vu lo hi sl Q I rx hs pl pu h
  obtain ⟨Z, dx, r, m, kf, hx, e, q⟩ := h
  cases dx <;> simp only [slice, Option.some.injEq, reduceCtorEq] at e
  · obtain ⟨a, vs, rfl, s1, h1⟩ := hx
    refine sl_list pins s σ H _ v vl vu lo hi sl Q I rx hs pl pu ⟨a, vs, rfl, s1, fun p n => q _ _ ?_⟩
    rw [← e]
    exact ⟨p, _, rfl, n, rfl, _, rfl, cut_rp h1⟩
  · obtain ⟨a, vs, rfl, s1, h1⟩ := hx.tup
    refine sl_tupA pins s σ H _ v vl vu lo hi sl Q I rx hs pl pu ⟨a, vs, rfl, s1, fun z => q _ _ ?_, fun z p n => q _ _ ?_⟩
    · rw [← e]
      have h2 := cut_rp (lo := lo) (hi := hi) h1
      have e2 : cutV vs lo hi = vs := by
        unfold cutV
        rw [z.1, z.2]
        simp
      rw [e2] at h2
      exact ⟨.inl rfl, .tup s1 h2⟩
    · rw [← e]
      exact ⟨.inr ⟨p, _, n, rfl, fun z => z⟩, Rp.new (cut_rp h1) n m (kf.off m)⟩
end
end DP
/-! The pure layer, part F: built-in functions by values. -/
namespace DP
open PySem PySem.Spec PyProof.Rows L2

/-! ### what the built-ins' answers are -/
theorem ins_perm (x : Int) : ∀ l : List Int, (ins x l).Perm (x :: l)
  | [] => .refl _
  | y :: r => by
    unfold ins
    split
    · exact .refl _
    · exact ((ins_perm x r).cons y).trans (.swap x y r)
theorem isort_perm : ∀ l : List Int, (isort l).Perm l
  | [] => .refl _
  | x :: r => (ins_perm x _).trans ((isort_perm r).cons x)
theorem ins_sorted (x : Int) : ∀ l : List Int, l.Pairwise (· ≤ ·) → (ins x l).Pairwise (· ≤ ·)
  | [], _ => by simp [ins]
  | y :: r, h => by
    unfold ins
    rw [List.pairwise_cons] at h
    split
    · rename_i hx
      refine List.pairwise_cons.mpr ⟨fun z hz => ?_, List.pairwise_cons.mpr h⟩
      rcases List.mem_cons.mp hz with rfl | hz
      · exact hx
      · exact Int.le_trans hx (h.1 z hz)
    · rename_i hx
      refine List.pairwise_cons.mpr ⟨fun z hz => ?_, ins_sorted x r h.2⟩
      rcases List.mem_cons.mp ((ins_perm x r).mem_iff.mp hz) with rfl | hz
      · omega
      · exact h.1 z hz
theorem isort_sorted : ∀ l : List Int, (isort l).Pairwise (· ≤ ·)
  | [] => by simp [isort]
  | x :: r => ins_sorted x _ (isort_sorted r)
theorem isort_the {l l' : List Int} (p : l'.Perm l) (s : l'.Pairwise (· ≤ ·)) : l' = isort l :=
  PySem.W.ksm_same (p.trans (isort_perm l).symm) s (isort_sorted l)
theorem maxL_spec : ∀ (l : List Int) (m : Int), (maxL m l = m ∨ maxL m l ∈ l) ∧ m ≤ maxL m l ∧ ∀ y ∈ l, y ≤ maxL m l
  | [], m => ⟨.inl rfl, Int.le_refl _, fun _ h => nomatch h⟩
  | x :: r, m => by
    unfold maxL
    split
    · rename_i h
      obtain ⟨h1, h2, h3⟩ := maxL_spec r x
      refine ⟨.inr ?_, by omega, fun y hy => ?_⟩
      · rcases h1 with h1 | h1
        · rw [h1]; exact List.mem_cons_self
        · exact List.mem_cons_of_mem _ h1
      · rcases List.mem_cons.mp hy with rfl | hy
        · exact h2
        · exact h3 y hy
    · rename_i h
      obtain ⟨h1, h2, h3⟩ := maxL_spec r m
      refine ⟨h1.imp id (List.mem_cons_of_mem _), h2, fun y hy => ?_⟩
      rcases List.mem_cons.mp hy with rfl | hy
      · omega
      · exact h3 y hy
theorem minL_spec : ∀ (l : List Int) (m : Int), (minL m l = m ∨ minL m l ∈ l) ∧ minL m l ≤ m ∧ ∀ y ∈ l, minL m l ≤ y
  | [], m => ⟨.inl rfl, Int.le_refl _, fun _ h => nomatch h⟩
  | x :: r, m => by
    unfold minL
    split
    · rename_i h
      obtain ⟨h1, h2, h3⟩ := minL_spec r x
      refine ⟨.inr ?_, by omega, fun y hy => ?_⟩
      · rcases h1 with h1 | h1
        · rw [h1]; exact List.mem_cons_self
        · exact List.mem_cons_of_mem _ h1
      · rcases List.mem_cons.mp hy with rfl | hy
        · exact h2
        · exact h3 y hy
    · rename_i h
      obtain ⟨h1, h2, h3⟩ := minL_spec r m
      refine ⟨h1.imp id (List.mem_cons_of_mem _), h2, fun y hy => ?_⟩
      rcases List.mem_cons.mp hy with rfl | hy
      · omega
      · exact h3 y hy
theorem maxL_the {n : Int} {l : List Int} {m : Int} (h : m ∈ n :: l) (u : ∀ y ∈ n :: l, y ≤ m) : m = maxL n l := by
  obtain ⟨h1, h2, h3⟩ := maxL_spec l n
  have a : m ≤ maxL n l := by
    rcases List.mem_cons.mp h with rfl | h
    · exact h2
    · exact h3 m h
  have b : maxL n l ≤ m := by
    rcases h1 with h1 | h1
    · rw [h1]; exact u n List.mem_cons_self
    · exact u _ (List.mem_cons_of_mem _ h1)
  omega
theorem minL_the {n : Int} {l : List Int} {m : Int} (h : m ∈ n :: l) (u : ∀ y ∈ n :: l, m ≤ y) : m = minL n l := by
  obtain ⟨h1, h2, h3⟩ := minL_spec l n
  have a : minL n l ≤ m := by
    rcases List.mem_cons.mp h with rfl | h
    · exact h2
    · exact h3 m h
  have b : m ≤ minL n l := by
    rcases h1 with h1 | h1
    · rw [h1]; exact u n List.mem_cons_self
    · exact u _ (List.mem_cons_of_mem _ h1)
  omega

theorem each_in {K : PySem.W.Frag} {Z : Addr → Prop} {H : Hp} : ∀ {us : List Value} {vs : List V} {ds : List D}, RpAll K Z H vs ds → Vals vs us →
    PySem.W.EachIs (fun u (p : V × D) => RelV p.1 u ∧ Rp K Z H p.1 p.2) us (vs.zip ds)
  | _, _, _, .nil, .nil => .nil
  | _, _, _, .cons h t, .cons r rs => .cons ⟨r, h⟩ (each_in t rs)
theorem each_out {K : PySem.W.Frag} {Z : Addr → Prop} {H : Hp} : ∀ {us : List Value} {ps : List (V × D)}, PySem.W.EachIs (fun u (p : V × D) => RelV p.1 u ∧ Rp K Z H p.1 p.2) us ps →
    RpAll K Z H (ps.map (·.1)) (ps.map (·.2)) ∧ Vals (ps.map (·.1)) us
  | _, _, .nil => ⟨.nil, .nil⟩
  | _, _, .cons h t => ⟨.cons h.2 (each_out t).1, .cons h.1 (each_out t).2⟩
theorem each_reads {X : Cx} {pins : List (Addr × Obj)} {σ : L2.St} {H : Hp} {s : Shared} {Z : Addr → Prop} (I : Inv X pins σ H s) : ∀ {us : List Value} {vs : List V} {ds : List D}, RpAll X.K Z H vs ds → Vals vs us → PyData.canLayAll0 ds = true →
    PySem.W.EachIs (fun u (p : V × D) => ∃ as, Reads s.heap u p.2 as) us (vs.zip ds)
  | _, _, _, .nil, .nil, _ => .nil
  | _, _, _, .cons h t, .cons r rs, hc => by
    simp only [PyData.canLayAll0, Bool.and_eq_true] at hc
    exact .cons (Dp.reads I _ _ _ (h.dp hc.1) r) (each_reads I t rs hc.2)
theorem zip_snd {α β : Type} : ∀ {xs : List α} {ys : List β}, xs.length = ys.length → (xs.zip ys).map (·.2) = ys
  | [], [], _ => rfl
  | x :: xs, y :: ys, h => by simp only [List.zip_cons_cons, List.map_cons, zip_snd (Nat.succ.inj h)]
def rSortedD (K : PySem.W.Frag) : List V → Hp → VK → Prop := fun vs H Q => ∃ Z a xs ds ds', vs = [.ref a] ∧ SqL K H a xs ∧ RpAll K Z H xs ds ∧ sortD ds = some ds' ∧
  ∀ vs' p, RpAll K Z H vs' ds' → H p = none → Q (.ref p) (upd H p (.lst vs'))
theorem depth_mem : ∀ {xs : List D} {x : D}, x ∈ xs → x.depth ≤ PyData.depthAll xs
  | y :: ys, x, h => by
    rw [PyData.depthAll]
    rcases List.mem_cons.mp h with rfl | h
    · omega
    · have := depth_mem h
      omega
theorem cr_sortedD {X : Cx} (hr : X.A.units + 200 < cLine) : CallR X (.builtin "sorted") (rSortedD X.K) := by
  intro pins s σ H vs us Q I r h
  obtain ⟨Z, a, xs, ds, ds', rfl, hs, ha, e, q⟩ := h
  obtain ⟨its, rv, hl, hz⟩ := I.list hs
  rw [Vals.ref1 r]
  have fin : ∀ (out : List Value) (ps : List (V × D)), out.length = its.length → PySem.W.EachIs (fun u (p : V × D) => RelV p.1 u ∧ Rp X.K Z H p.1 p.2) out ps → ps.map (·.2) = ds' →
      EP X pins σ Q (.ref (s.heap.objs.size + 1)) { s with heap := PyProof.Rows.sortedAll s.heap its out.toArray } := fun out ps ho hp hd => by
    obtain ⟨ep, he'⟩ := PyProof.Rows.sortedAll_at s.heap its out.toArray
    obtain ⟨k1, k2⟩ := each_out hp
    rw [hd] at k1
    have hlen : (ps.map (·.1)).length ≤ sizeLine := by
      have h1 := k2.length
      have h2 := rv.length
      omega
    exact ⟨.ref _, upd H (s.heap.objs.size + 1) (.lst (ps.map (·.1))), I.laid (t' := s.toks) (fun _ _ => PyProof.Rows.sortedAll_old) (Nat.le_succ _) ⟨hlen, out, ep, k2, he'⟩, rfl, q _ _ k1 (I.hok.fresh (Nat.le_succ _))⟩
  have hlv := rv.length
  have hld := ha.length
  unfold sortD at e
  split at e
  · rename_i h1
    cases e
    refine SrtO.sorted_ord (ltv := fun _ _ => false) ⟨fun _ _ h => (by cases h), fun _ _ _ h _ => h⟩ hl.isList (by omega) (fun h2 => absurd h2 (by omega)) fun out h1 h2 => ?_
    have eo : out = its := by
      have := h2.perm
      rcases its with _ | ⟨x, _ | ⟨y, t⟩⟩
      · exact this.eq_nil
      · exact List.perm_singleton.mp this
      · simp only [List.length_cons] at hlv; omega
    subst eo
    exact fin _ _ rfl (each_in ha rv) (zip_snd hld)
  · split at e
    · rename_i hb
      cases e
      simp only [Bool.and_eq_true, Bool.or_eq_true, List.all_eq_true] at hb
      obtain ⟨⟨hal, hso⟩, hsh⟩ := hb
      have hcl : PyData.canLayAll0 ds = true := by
        have := SeqAt.canLay_of_shaped hsh
        simpa only [PyData.canLay0] using this
      have hdp := SeqAt.depth_of_shaped hsh
      simp only [PyData.depth] at hdp
      have zs := zip_snd hld
      have mem2 : ∀ p, p ∈ xs.zip ds → p.2 ∈ ds := fun p hp => by rw [← zs]; exact List.mem_map_of_mem hp
      refine PySem.W.sorted_data (enc := fun p : V × D => p.2) (bs := xs.zip ds) (R := fun u (p : V × D) => RelV p.1 u ∧ Rp X.K Z H p.1 p.2) hl.isList (each_in ha rv) (each_reads I ha rv hcl) ?_ ?_ ?_ ?_ fun out ho hp => ?_
      · show PySem.W.AllAlike ((xs.zip ds).map (·.2))
        rw [zs]
        exact fun d hd d' hd' => hal d hd d' hd'
      · show PySem.W.Sortable ((xs.zip ds).map (·.2))
        rw [zs]
        rcases hso with h | h
        · refine .inl fun d hd => ?_
          have := h d hd
          unfold neT at this
          split at this
          · exact ⟨_, _, rfl⟩
          · cases this
        · refine .inr fun d hd => ?_
          have := h d hd
          refine ⟨?_, ?_⟩
          · intro z; subst z; cases this
          · intro _ z; subst z; cases this
      · rw [List.length_zip]; omega
      · intro b hb
        have := depth_mem (mem2 b hb)
        omega
      · refine fin out _ (by rw [ho, List.length_zip]; omega) hp ?_
        rw [← zs]
        rw [zs, List.map_mergeSort (s := PySem.W.dataLe false id), zs]
        intro x _ y _
        rfl
    · cases e

inductive CRs (K : PySem.W.Frag) (Z : Addr → Prop) (H : Hp) : List V → List D → Prop
  | nil : CRs K Z H [] []
  | cons {v : V} {d : D} {vs : List V} {ds : List D} : CR K Z H v d → CRs K Z H vs ds → CRs K Z H (v :: vs) (d :: ds)
def rBi (K : PySem.W.Frag) (b : BI) : List V → Hp → VK → Prop := fun xs H Q => ∃ Z ds r, Muts Z H ∧ KOff K H ∧ CRs K Z H xs ds ∧ bi b ds = some r ∧ ∀ v H', Res K Z H H' v r → Q v H'
def biVal : BI → Value
  | .len => .builtin "len" | .sum => .builtin "sum" | .abs => .builtin "abs" | .int => .type "int" | .tuple => .type "tuple" | .list => .type "list" | .sorted => .builtin "sorted" | .sortedD => .builtin "sorted"
  | .all => .builtin "all" | .any => .builtin "any" | .max => .builtin "max" | .min => .builtin "min" | .max2 => .builtin "max" | .min2 => .builtin "min" | _ => .none
section
variable {X : Cx}
theorem bi_ok (hc : X.calm = true) (hr : X.A.units + 200 < cLine) (b : BI) (hb : biPlain b = true) : CallR X (biVal b) (rBi X.K b) := by
  intro pins s σ H xs us Q I rs ⟨Z, ds, r, m, kf, hs, e, q⟩
  have sc : ∀ {z : V} {d : D}, r = .v d → (∀ H, Rp X.K Z H z d) → Q z H := fun er h => q _ H (by rw [er]; exact ⟨.inl rfl, h H⟩)
  have one : ∀ {P : Prop}, (∀ x d, xs = [x] → ds = [d] → CR X.K Z H x d → P) → (ds.length = 1 → P) := fun h hl => by
    cases hs with
    | nil => cases hl
    | cons h1 h2 =>
      cases h2 with
      | nil => exact h _ _ rfl rfl h1
      | cons _ _ => simp at hl
  have two : ∀ {P : Prop}, (∀ x y d d', xs = [x, y] → ds = [d, d'] → CR X.K Z H x d → CR X.K Z H y d' → P) → (ds.length = 2 → P) := fun h hl => by
    cases hs with
    | nil => cases hl
    | cons h1 h2 =>
      cases h2 with
      | nil => cases hl
      | cons h3 h4 =>
        cases h4 with
        | nil => exact h _ _ _ _ rfl rfl h1 h3
        | cons _ _ => simp at hl
  cases b with
  | len =>
    have hl : ds.length = 1 := by rcases ds with _ | ⟨d1, _ | ⟨d2, _ | ⟨d3, dr⟩⟩⟩ <;> first | rfl | (simp [bi] at e)
    refine one (fun x d ex ed h => ?_) hl
    subst ex ed
    cases d <;> simp only [bi, Option.some.injEq, reduceCtorEq] at e
    · obtain ⟨a, vs, rfl, s1, h1⟩ := h
      exact call_len_seq pins s σ H _ us Q I rs ⟨a, vs, rfl, .inl s1, by rw [h1.length]; exact sc e.symm fun _ => .int _⟩
    · obtain ⟨a, vs, rfl, s1, h1⟩ := h.tup
      exact call_len_seq pins s σ H _ us Q I rs ⟨a, vs, rfl, .inr s1, by rw [h1.length]; exact sc e.symm fun _ => .int _⟩
  | sum =>
    have hl : ds.length = 1 := by rcases ds with _ | ⟨d1, _ | ⟨d2, _ | ⟨d3, dr⟩⟩⟩ <;> first | rfl | (simp [bi] at e)
    refine one (fun x d ex ed h => ?_) hl
    subst ex ed
    cases d <;> simp only [bi, Option.map_eq_some_iff, reduceCtorEq] at e
    obtain ⟨ns, e1, e2⟩ := e
    obtain ⟨a, vs, rfl, s1, h1⟩ := h
    have := h1.ints e1
    subst this
    exact cr_sum hc pins s σ H _ us Q I rs ⟨a, ns, rfl, s1, sc e2.symm fun _ => .int _⟩
  | abs =>
    have hl : ds.length = 1 := by rcases ds with _ | ⟨d1, _ | ⟨d2, _ | ⟨d3, dr⟩⟩⟩ <;> first | rfl | (simp [bi] at e)
    refine one (fun x d ex ed h => ?_) hl
    subst ex ed
    cases d <;> simp only [bi, Option.some.injEq, reduceCtorEq] at e
    have ex := h.int; subst ex
    exact call_abs pins s σ H _ us Q I rs ⟨_, rfl, sc e.symm fun _ => .int _⟩
  | int =>
    have hl : ds.length = 1 := by rcases ds with _ | ⟨d1, _ | ⟨d2, _ | ⟨d3, dr⟩⟩⟩ <;> first | rfl | (simp [bi] at e)
    refine one (fun x d ex ed h => ?_) hl
    subst ex ed
    cases d <;> simp only [bi, Option.some.injEq, reduceCtorEq] at e
    · have ex := h.bool; subst ex
      exact call_int1 pins s σ H _ us Q I rs (.inr ⟨_, rfl, sc e.symm fun _ => .int _⟩)
    · have ex := h.int; subst ex
      exact call_int1 pins s σ H _ us Q I rs (.inl ⟨_, rfl, sc e.symm fun _ => .int _⟩)
  | tuple =>
    have hl : ds.length = 1 := by rcases ds with _ | ⟨d1, _ | ⟨d2, _ | ⟨d3, dr⟩⟩⟩ <;> first | rfl | (simp [bi] at e)
    refine one (fun x d ex ed h => ?_) hl
    subst ex ed
    cases d <;> simp only [bi, Option.some.injEq, reduceCtorEq] at e
    · obtain ⟨a, vs, rfl, s1, h1⟩ := h
      refine call_tuple_of pins s σ H _ us Q I rs ⟨a, vs, rfl, .inl ⟨s1, fun p n => q _ _ ?_⟩⟩
      rw [← e]
      exact ⟨.inr ⟨p, _, n, rfl, fun z => z⟩, Rp.new h1 n m (kf.off m)⟩
    · obtain ⟨a, vs, rfl, s1, h1⟩ := h.tup
      exact call_tuple_of pins s σ H _ us Q I rs ⟨a, vs, rfl, .inr ⟨s1, q _ H (by rw [← e]; exact ⟨.inl rfl, h⟩)⟩⟩
  | list =>
    have hl : ds.length = 1 := by rcases ds with _ | ⟨d1, _ | ⟨d2, _ | ⟨d3, dr⟩⟩⟩ <;> first | rfl | (simp [bi] at e)
    refine one (fun x d ex ed h => ?_) hl
    subst ex ed
    cases d <;> simp only [bi, Option.some.injEq, reduceCtorEq] at e
    · obtain ⟨a, vs, rfl, s1, h1⟩ := h
      refine call_list_of pins s σ H _ us Q I rs ⟨a, vs, rfl, .inl s1, fun p n => q _ _ ?_⟩
      rw [← e]
      exact ⟨p, _, rfl, n, rfl, _, rfl, h1⟩
    · obtain ⟨a, vs, rfl, s1, h1⟩ := h.tup
      refine call_list_of pins s σ H _ us Q I rs ⟨a, vs, rfl, .inr s1, fun p n => q _ _ ?_⟩
      rw [← e]
      exact ⟨p, _, rfl, n, rfl, _, rfl, h1⟩
  | sortedD =>
    have hl : ds.length = 1 := by rcases ds with _ | ⟨d1, _ | ⟨d2, _ | ⟨d3, dr⟩⟩⟩ <;> first | rfl | (simp [bi] at e)
    refine one (fun x d ex ed h => ?_) hl
    subst ex ed
    cases d <;> simp only [bi, Option.map_eq_some_iff, reduceCtorEq] at e
    obtain ⟨ns, e1, e2⟩ := e
    obtain ⟨a, vs, rfl, s1, h1⟩ := h
    refine cr_sortedD hr pins s σ H _ us Q I rs ⟨Z, a, vs, _, ns, rfl, s1, h1, e1, fun vs' p h n => q _ _ ?_⟩
    rw [← e2]
    exact ⟨p, _, rfl, n, rfl, _, rfl, h⟩
  | sorted =>
    have hl : ds.length = 1 := by rcases ds with _ | ⟨d1, _ | ⟨d2, _ | ⟨d3, dr⟩⟩⟩ <;> first | rfl | (simp [bi] at e)
    refine one (fun x d ex ed h => ?_) hl
    subst ex ed
    cases d <;> simp only [bi, Option.map_eq_some_iff, reduceCtorEq] at e
    obtain ⟨ns, e1, e2⟩ := e
    obtain ⟨a, vs, rfl, s1, h1⟩ := h
    have := h1.ints e1
    subst this
    refine cr_sortedI pins s σ H _ us Q I rs ⟨a, ns, rfl, s1, fun ns' p pe so n => q _ _ ?_⟩
    rw [isort_the pe so, ← e2]
    exact ⟨p, _, rfl, n, rfl, _, rfl, .ofInts _⟩
  | all =>
    have hl : ds.length = 1 := by rcases ds with _ | ⟨d1, _ | ⟨d2, _ | ⟨d3, dr⟩⟩⟩ <;> first | rfl | (simp [bi] at e)
    refine one (fun x d ex ed h => ?_) hl
    subst ex ed
    cases d <;> simp only [bi, Option.map_eq_some_iff, reduceCtorEq] at e
    obtain ⟨ns, e1, e2⟩ := e
    obtain ⟨a, vs, rfl, s1, h1⟩ := h
    have := h1.bools e1
    subst this
    exact cr_all hc pins s σ H _ us Q I rs ⟨a, ns, rfl, s1, sc e2.symm fun _ => .bl _⟩
  | any =>
    have hl : ds.length = 1 := by rcases ds with _ | ⟨d1, _ | ⟨d2, _ | ⟨d3, dr⟩⟩⟩ <;> first | rfl | (simp [bi] at e)
    refine one (fun x d ex ed h => ?_) hl
    subst ex ed
    cases d <;> simp only [bi, Option.map_eq_some_iff, reduceCtorEq] at e
    obtain ⟨ns, e1, e2⟩ := e
    obtain ⟨a, vs, rfl, s1, h1⟩ := h
    have := h1.bools e1
    subst this
    exact cr_any hc pins s σ H _ us Q I rs ⟨a, ns, rfl, s1, sc e2.symm fun _ => .bl _⟩
  | max =>
    have hl : ds.length = 1 := by rcases ds with _ | ⟨d1, _ | ⟨d2, _ | ⟨d3, dr⟩⟩⟩ <;> first | rfl | (simp [bi] at e)
    refine one (fun x d ex ed h => ?_) hl
    subst ex ed
    cases d <;> simp only [bi, reduceCtorEq] at e
    · split at e
      · rename_i n ns e1
        simp only [Option.some.injEq] at e
        obtain ⟨a, vs, rfl, s1, h1⟩ := h
        have := h1.ints e1
        subst this
        exact cr_max hc pins s σ H _ us Q I rs ⟨a, _, rfl, s1, by simp, fun k hk hu => by rw [maxL_the hk hu]; exact sc e.symm fun _ => .int _⟩
      · cases e
    · split at e
      · rename_i n ns e1
        simp only [Option.some.injEq] at e
        obtain ⟨a, vs, rfl, s1, h1⟩ := h.tup
        have := h1.ints e1
        subst this
        exact DPX.cr_maxT hc hr pins s σ H _ us Q I rs ⟨a, n, ns, rfl, s1, sc e.symm fun _ => .int _⟩
      · cases e
  | min =>
    have hl : ds.length = 1 := by rcases ds with _ | ⟨d1, _ | ⟨d2, _ | ⟨d3, dr⟩⟩⟩ <;> first | rfl | (simp [bi] at e)
    refine one (fun x d ex ed h => ?_) hl
    subst ex ed
    cases d <;> simp only [bi, reduceCtorEq] at e
    · split at e
      · rename_i n ns e1
        simp only [Option.some.injEq] at e
        obtain ⟨a, vs, rfl, s1, h1⟩ := h
        have := h1.ints e1
        subst this
        exact cr_min hc pins s σ H _ us Q I rs ⟨a, _, rfl, s1, by simp, fun k hk hu => by rw [minL_the hk hu]; exact sc e.symm fun _ => .int _⟩
      · cases e
    · split at e
      · rename_i n ns e1
        simp only [Option.some.injEq] at e
        obtain ⟨a, vs, rfl, s1, h1⟩ := h.tup
        have := h1.ints e1
        subst this
        exact DPX.cr_minT hc hr pins s σ H _ us Q I rs ⟨a, n, ns, rfl, s1, sc e.symm fun _ => .int _⟩
      · cases e
  | max2 =>
    have hl : ds.length = 2 := by rcases ds with _ | ⟨d1, _ | ⟨d2, _ | ⟨d3, dr⟩⟩⟩ <;> first | rfl | (simp [bi] at e)
    refine two (fun x y d d' ex ed h h' => ?_) hl
    subst ex ed
    cases d <;> cases d' <;> simp only [bi, Option.some.injEq, reduceCtorEq] at e
    have ex := h.int; have ey := h'.int; subst ex ey
    exact call_max2 hc pins s σ H _ us Q I rs ⟨_, _, rfl, sc e.symm fun _ => .int _⟩
  | min2 =>
    have hl : ds.length = 2 := by rcases ds with _ | ⟨d1, _ | ⟨d2, _ | ⟨d3, dr⟩⟩⟩ <;> first | rfl | (simp [bi] at e)
    refine two (fun x y d d' ex ed h h' => ?_) hl
    subst ex ed
    cases d <;> cases d' <;> simp only [bi, Option.some.injEq, reduceCtorEq] at e
    have ex := h.int; have ey := h'.int; subst ex ey
    exact call_min2 hc pins s σ H _ us Q I rs ⟨_, _, rfl, sc e.symm fun _ => .int _⟩
  | _ => cases hb
/-- isinstance(x, T) -/
theorem SqL.tyx {K : PySem.W.Frag} {H : Hp} {a : Addr} {xs : List V} (s : SqL K H a xs) : TyX K H (.ref a) (.type "list") := by
  rcases s with (h | ⟨o, h⟩) | ⟨o, _, _, h, c, _⟩
  · exact .base (.lst h)
  · exact .base (.frz h)
  · exact .kList h c
theorem SqT.tyx {K : PySem.W.Frag} {H : Hp} {a : Addr} {xs : List V} (s : SqT K H a xs) : TyX K H (.ref a) (.type "tuple") := by
  rcases s with (h | ⟨o, h⟩) | ⟨o, _, _, h, c, _⟩
  · exact .base (.tup h)
  · exact .fTuple h
  · exact .kTuple h c
def dTy : D → String
  | .none => "NoneType" | .bool _ => "bool" | .int _ => "int" | .str _ => "str" | .list _ => "list" | .tuple _ => "tuple" | .dict _ => "dict"
theorem CR.tyx {K : PySem.W.Frag} {Z : Addr → Prop} {H : Hp} {v : V} {d : D} (nd : ∀ k, d ≠ .dict k) (h : CR K Z H v d) : TyX K H v (.type (dTy d)) := by
  cases d with
  | list ds => obtain ⟨a, vs, rfl, s, _⟩ := h; exact SqL.tyx s
  | tuple ds => obtain ⟨a, vs, rfl, s, _⟩ := h.tup; exact SqT.tyx s
  | none => have := h.none; subst this; exact .base .non
  | bool b => have := h.bool; subst this; exact .base (.bl _)
  | int b => have := h.int; subst this; exact .base (.int _)
  | str b => have := h.str; subst this; exact .base (.str _)
  | dict kvs => exact absurd rfl (nd kvs)
theorem isI_ok {t : Ty} {d : D} (nd : ∀ k, d ≠ .dict k) : kitB (dTy d) (tyName t) = some (isI t d) := by
  cases t <;> cases d <;> first | (exact absurd rfl (nd _)) | (simp only [isI, dTy, tyName]; decide +kernel)
end
end DP
/-! The pure layer, part G: stores, targets, the context. -/
namespace DP
open PySem PySem.Spec PyProof.Rows L2
section
variable {K : PySem.W.Frag} {F O O' : Addr → Prop} {σ : Sg} {H H' : Hp} {ρ ρ' : PEnv} {v : V} {r : R} {i : Nat} {d : D} {b : OB} {a : Addr}
theorem getSet {α : Type} {l : List α} {i j : Nat} {x y : α} (h : (l.set i x)[j]? = some y) : (i = j ∧ x = y) ∨ (i ≠ j ∧ l[j]? = some y) := by
  by_cases e : i = j
  · subst e
    by_cases hl : i < l.length
    · rw [List.getElem?_set_self hl] at h
      exact .inl ⟨rfl, Option.some.inj h⟩
    · rw [List.getElem?_eq_none (by simpa using hl)] at h; cases h
  · rw [List.getElem?_set_ne e] at h
    exact .inr ⟨e, h⟩
theorem lt_of_get {α : Type} {l : List α} {i : Nat} {x : α} (h : l[i]? = some x) : i < l.length := (List.getElem?_eq_some_iff.mp h).1
/-- the slot's object is given up -/
theorem EI.drop (I : EI K F O σ H ρ) : EI K F O σ H (ρ.set i .un) where
  mf := I.mf
  dis := I.dis
  len := by rw [List.length_set]; exact I.len
  val := fun j d e => by
    rcases getSet e with ⟨_, e⟩ | ⟨_, e⟩
    · cases e
    · exact I.val j d e
  own := fun j b e => by
    rcases getSet e with ⟨_, e⟩ | ⟨_, e⟩
    · cases e
    · exact I.own j b e
  inj := fun j k b c a e1 e2 h1 h2 => by
    rcases getSet e1 with ⟨_, e⟩ | ⟨_, e1⟩
    · cases e
    · rcases getSet e2 with ⟨_, e⟩ | ⟨_, e2⟩
      · cases e
      · exact I.inj j k b c a e1 e2 h1 h2
theorem EI.putv (I : EI K F O σ H ρ) (hi : σ[i]? = some (some v)) (h : Rp K (Or2 F O) H v d) : EI K F O σ H (ρ.set i (.v d)) where
  mf := I.mf
  dis := I.dis
  len := by rw [List.length_set]; exact I.len
  val := fun j d' e => by
    rcases getSet e with ⟨e1, e⟩ | ⟨_, e⟩
    · cases e; subst e1; exact ⟨v, hi, h⟩
    · exact I.val j d' e
  own := fun j b e => by
    rcases getSet e with ⟨_, e⟩ | ⟨_, e⟩
    · cases e
    · exact I.own j b e
  inj := fun j k b c a e1 e2 h1 h2 => by
    rcases getSet e1 with ⟨_, e⟩ | ⟨_, e1⟩
    · cases e
    · rcases getSet e2 with ⟨_, e⟩ | ⟨_, e2⟩
      · cases e
      · exact I.inj j k b c a e1 e2 h1 h2
/-- a value is stored -/
theorem EI.setv (I : EI K F O σ H ρ) (h : Rp K (Or2 F O) H v d) : EI K F O (σ.set i (some v)) H (ρ.set i (.v d)) where
  mf := I.mf
  dis := I.dis
  len := by rw [List.length_set, List.length_set]; exact I.len
  val := fun j d' e => by
    have hj := lt_of_get e
    rw [List.length_set, I.len] at hj
    rcases getSet e with ⟨e1, e⟩ | ⟨e1, e⟩
    · cases e; subst e1; exact ⟨v, List.getElem?_set_self hj, h⟩
    · obtain ⟨w, h1, h2⟩ := I.val j d' e
      exact ⟨w, by rw [List.getElem?_set_ne e1]; exact h1, h2⟩
  own := fun j b e => by
    rcases getSet e with ⟨_, e⟩ | ⟨e1, e⟩
    · cases e
    · obtain ⟨a, h1, h2⟩ := I.own j b e
      exact ⟨a, by rw [List.getElem?_set_ne e1]; exact h1, h2⟩
  inj := fun j k b c a e1 e2 h1 h2 => by
    rcases getSet e1 with ⟨_, e⟩ | ⟨n1, e1⟩
    · cases e
    · rcases getSet e2 with ⟨_, e⟩ | ⟨n2, e2⟩
      · cases e
      · rw [List.getElem?_set_ne n1] at h1
        rw [List.getElem?_set_ne n2] at h2
        exact I.inj j k b c a e1 e2 h1 h2
/-- a fresh object is stored -/
theorem EI.seto (I : EI K F O σ H ρ) (h : RR K F O σ H ρ v (.fr b)) : EI K F O (σ.set i (some v)) H (ρ.set i (.o b)) := by
  obtain ⟨p, rfl, op, ob, ne⟩ := h
  exact {
    mf := I.mf
    dis := I.dis
    len := by rw [List.length_set, List.length_set]; exact I.len
    val := fun j d' e => by
      rcases getSet e with ⟨e1, e⟩ | ⟨e1, e⟩
      · cases e
      · obtain ⟨w, h1, h2⟩ := I.val j d' e
        exact ⟨w, by rw [List.getElem?_set_ne e1]; exact h1, h2⟩
    own := fun j b e => by
      have hj := lt_of_get e
      rw [List.length_set, I.len] at hj
      rcases getSet e with ⟨e1, e⟩ | ⟨e1, e⟩
      · cases e; subst e1; exact ⟨p, List.getElem?_set_self hj, op, ob⟩
      · obtain ⟨a, h1, h2⟩ := I.own j b e
        exact ⟨a, by rw [List.getElem?_set_ne e1]; exact h1, h2⟩
    inj := fun j k b c a e1 e2 h1 h2 => by
      rcases getSet e1 with ⟨n1, e⟩ | ⟨n1, e1⟩
      · subst n1
        rcases getSet e2 with ⟨n2, e⟩ | ⟨n2, e2⟩
        · exact n2
        · rw [List.getElem?_set_ne n2] at h2
          have hl := lt_of_get h1
          rw [List.getElem?_set_self (by simpa using hl)] at h1
          cases h1
          exact (ne k c e2 h2).elim
      · rw [List.getElem?_set_ne n1] at h1
        rcases getSet e2 with ⟨n2, e⟩ | ⟨n2, e2⟩
        · subst n2
          have hl := lt_of_get h2
          rw [List.getElem?_set_self (by simpa using hl)] at h2
          cases h2
          exact (ne j b e1 h1).elim
        · rw [List.getElem?_set_ne n2] at h2
          exact I.inj j k b c a e1 e2 h1 h2 }
/-- an owned object is changed -/
theorem EI.chg {o : HO} {b' : OB} (I : EI K F O σ H ρ) (kf : KOff K H) (hb : ρ[i]? = some (.o b)) (hs : σ[i]? = some (some (V.ref a))) (h : ObN K (Or2 F O) H a o b') : EI K F O σ (upd H a o) (ρ.set i (.o b')) ∧ Step O O H (upd H a o) := by
  obtain ⟨a', e1, z, ob⟩ := I.own i b hb
  rw [hs] at e1
  cases e1
  have k : Keep O H (upd H a o) := ⟨fun c u e n => by rw [upd_ne (fun q => n (by rw [q]; exact z))]; exact e⟩
  have k2 : Keep (Or2 F O) H (upd H a o) := k.mono fun _ z => .inr z
  have off := kf.off I.mf
  refine ⟨⟨fun c z' => ?_, I.dis, by rw [List.length_set]; exact I.len, fun j d' e => ?_, fun j c e => ?_, fun j k b c a e1 e2 h1 h2 => ?_⟩, k, fun c z => .inl z⟩
  · by_cases q : c = a
    · rw [q, upd_same]; exact h.mut
    · rw [upd_ne q]; exact I.mf c z'
  · rcases getSet e with ⟨_, e⟩ | ⟨_, e⟩
    · cases e
    · obtain ⟨w, h1, h2⟩ := I.val j d' e
      exact ⟨w, h1, Rp.keep I.mf k2 (fun _ z => .inl z) off h2⟩
  · rcases getSet e with ⟨e1, e⟩ | ⟨e1, e⟩
    · cases e; subst e1
      exact ⟨a, hs, z, o, upd_same, ObN.keep I.mf k2 (fun _ z => .inl z) off h⟩
    · obtain ⟨c', h1, h2, u, h3, h4⟩ := I.own j c e
      refine ⟨c', h1, h2, u, ?_, ObN.keep I.mf k2 (fun _ z => .inl z) off h4⟩
      rw [upd_ne fun q => e1 (I.inj i j b c a hb e hs (by rw [h1, q]))]
      exact h3
  · rcases getSet e1 with ⟨n1, e1'⟩ | ⟨n1, e1'⟩ <;> rcases getSet e2 with ⟨n2, e2'⟩ | ⟨n2, e2'⟩
    · rw [← n1, ← n2]
    · subst n1; exact I.inj _ _ _ _ a hb e2' h1 h2
    · subst n2; exact I.inj _ _ _ _ a e1' hb h1 h2
    · exact I.inj _ _ _ _ a e1' e2' h1 h2
end

/-! ### the promise of a def -/
/-- the arguments; ra: the address of the one that is owned by reference -/
inductive ARs (K : PySem.W.Frag) (Z : Addr → Prop) (H : Hp) (ra : Option Addr) : List V → List AV → Prop
  | nil : ARs K Z H ra [] []
  | v {v : V} {d : D} {vs : List V} {as : List AV} : Rp K Z H v d → ARs K Z H ra vs as → ARs K Z H ra (v :: vs) (.v d :: as)
  | r {a : Addr} {b : OB} {vs : List V} {as : List AV} : ra = some a → Ob K Z H a b → ARs K Z H ra vs as → ARs K Z H ra (.ref a :: vs) (.r b :: as)
theorem ARs.length {K : PySem.W.Frag} {Z : Addr → Prop} {H : Hp} {ra : Option Addr} : ∀ {vs : List V} {as : List AV}, ARs K Z H ra vs as → vs.length = as.length
  | _, _, .nil => rfl
  | _, _, .v _ t => by simp [ARs.length t]
  | _, _, .r _ _ t => by simp [ARs.length t]
/-- what a call hands back -/
def RF (K : PySem.W.Frag) (F O : Addr → Prop) (H : Hp) (ra : Option Addr) (v : V) : R → Prop
  | .v d => Rp K (Or2 F O) H v d
  | .fr b => ∃ p, v = .ref p ∧ O p ∧ Ob K (Or2 F O) H p b ∧ ra ≠ some p
  | .pk _ => False
def spF (K : PySem.W.Frag) (n : Nat) (f : List AV → Option (R × Option OB)) : Sp := fun vs H Q _ => vs.length = n ∧ (KOff K H → ∃ F ra as r ub, Muts (Or2 F fun a => ra = some a) H ∧ (∀ a, F a → ra ≠ some a) ∧
  ARs K (Or2 F fun a => ra = some a) H ra vs as ∧ (∀ a, ra = some a → ∃ (i : Nat) (b : OB), as[i]? = some (.r b)) ∧ f as = some (r, ub) ∧
  ∀ v H' O', KOff K H' → Step (fun a => ra = some a) O' H H' → Muts (Or2 F O') H' → (∀ a, F a → ¬ O' a) → (∀ b, ub = some b → ∃ a, ra = some a ∧ O' a ∧ Ob K (Or2 F O') H' a b) → RF K F O' H' ra v r → Q v H')

def bltNames : List Str := ["len", "sum", "abs", "int", "tuple", "list", "sorted", "all", "any", "max", "min", "isinstance", "range", "enumerate", "zip", "set", "bool", "str", "dict"]
structure XOk (X : Cx) (N : List Str) (sc scs : Scope) (Γ : Sems) (G : Str → Option D) : Prop where
  hN : X.N = N
  nd : N.Nodup
  hsc : X.env.scope = sc
  calm : X.calm = true
  xe : X.xe = fun _ _ => False
  room : X.A.units + 200 < cLine
  stor : ∀ x, storC scs x = true → Loc X.env.scope x ∧ (X.fn x = true ∨ X.env.scope.names.lookup x = some .local)
  blt : ∀ x ∈ bltNames, X.mg x = none
  fnu : ∀ (f : Str) (fa : Addr), PySem.W.nsIn X.K mainGlobals f = some (some (.ref fa)) → X.mg f = some (.ref fa)
  glo : ∀ x d, G x = some d → ∃ u v, X.mg x = some u ∧ RelV v u ∧ ∀ Z H, Rp X.K Z H v d
  fns : ∀ f, (∃ as r, Γ f as = some r) → ∃ fa fd ps k n, FnOk X.prog X.w X.K X.mg X.base CX0 k fa fd ps (spF X.K n (Γ f)) ∧ Room k X.A ∧ X.mg f = some (.ref fa) ∧ PySem.W.keepIn X.K (.ref fa) = true ∧ Binds X.K fd ps [] ∧ ∀ as r, Γ f as = some r → as.length = n

theorem vis_of {sc : Scope} {x : Str} (h : visC sc x = true) : Vis sc x := by
  simp only [visC, Bool.or_eq_true, decide_eq_true_eq] at h
  rcases h with (h | h) | h
  · exact .inl h
  · exact .inr (.inl h)
  · exact .inr (.inr h)
theorem stor_loc {sc : Scope} {x : Str} (h : storC sc x = true) : Loc sc x := by
  simp only [storC, Bool.or_eq_true, decide_eq_true_eq] at h
  exact h

/-! ### targets -/
def pG (K : PySem.W.Frag) (t : T) : TG := fun v σ H Q => ∃ F O ρ d ρ', EI K F O σ H ρ ∧ Rp K (Or2 F O) H v d ∧ asT t d ρ = some ρ' ∧
  ∀ σ', EI K F O σ' H ρ' → σ'.length = σ.length → (∀ i, i ∉ slotsT t → σ'[i]? = σ[i]?) → Q σ' H
def pGs (K : PySem.W.Frag) (t : Ts) : TGs := fun vs σ H Q => ∃ F O ρ ds ρ', EI K F O σ H ρ ∧ RpAll K (Or2 F O) H vs ds ∧ asTs t ds ρ = some ρ' ∧
  ∀ σ', EI K F O σ' H ρ' → σ'.length = σ.length → (∀ i, i ∉ slotsTs t → σ'[i]? = σ[i]?) → Q σ' H
section
variable {X : Cx}
theorem PG.imp {py : Expr} {t t' : TG} (h : PG X py t) (i : ∀ v σ H Q, t' v σ H Q → t v σ H Q) : PG X py t' := ⟨fun pins s σ H v u Q I r q => h.run pins s σ H v u Q I r (i _ _ _ _ q)⟩
theorem PGs.imp {py : List Expr} {t t' : TGs} (h : PGs X py t) (i : ∀ v σ H Q, t' v σ H Q → t v σ H Q) : PGs X py t' := ⟨fun pins s σ H v u Q I r q => h.run pins s σ H v u Q I r (i _ _ _ _ q)⟩
theorem tg_star {N : List Str} {scs : Scope} {env : Env} {t : T} {py : Expr} (h : chkT N scs t py = true) (r : List Expr) : assignEach (py :: r) env = (false, assign py env) :: assignEach r env := by
  cases t <;> cases py <;> first | rfl | (simp [chkT] at h)
theorem tgs_star {N : List Str} {scs : Scope} {env : Env} : ∀ {ts : Ts} {es : List Expr}, chkTs N scs ts es = true → (assignEach es env).findIdx? (·.1) = none ∧ (assignEach es env).length = es.length
  | .nil, es, h => by
    cases es with
    | nil => exact ⟨rfl, rfl⟩
    | cons _ _ => simp [chkTs] at h
  | .cons t ts, es, h => by
    cases es with
    | nil => simp [chkTs] at h
    | cons e r =>
      simp only [chkTs, Bool.and_eq_true] at h
      obtain ⟨h1, h2⟩ := tgs_star (env := env) h.2
      rw [tg_star h.1]
      refine ⟨?_, by simp [h2]⟩
      rw [List.findIdx?_cons, h1]
      rfl
variable {N : List Str} {sc scs : Scope} {Γ : Sems} {G : Str → Option D}
mutual
theorem sT (ok : XOk X N sc scs Γ G) : ∀ (t : T) (py : Expr), chkT N scs t py = true → PG X py (pG X.K t)
  | .nm i, py, h => by
    cases py <;> simp only [chkT, Bool.and_eq_true, decide_eq_true_eq, reduceCtorEq] at h
    rename_i x pos
    obtain ⟨h1, h2⟩ := h
    obtain ⟨h3, h4⟩ := ok.stor x h2
    refine PG.imp (pg_name (i := i) (by rw [ok.hN]; exact ok.nd) (by rw [ok.hN]; exact h1) h3 h4) fun v σ H Q q => ?_
    obtain ⟨F, O, ρ, d, ρ', I, hv, e, q⟩ := q
    simp only [asT, Option.some.injEq] at e
    subst e
    exact q _ (I.setv hv) (by rw [List.length_set]) fun j hj => List.getElem?_set_ne (fun e => hj (by simp [slotsT, e]))
  | .tp ts, py, h => by
    cases py <;> simp only [chkT, reduceCtorEq] at h
    rename_i es k pos
    obtain ⟨h1, h2⟩ := tgs_star (env := X.env) h
    refine PG.imp (pg_tup ok.calm (sTs ok ts es h) (n := es.length) h2 h1) fun v σ H Q q => ?_
    obtain ⟨F, O, ρ, d, ρ', I, hv, e, q⟩ := q
    cases d <;> simp only [asT, reduceCtorEq] at e
    cases hv with
    | tup s1 hr =>
      refine ⟨_, _, rfl, s1, ?_, F, O, ρ, _, ρ', I, hr, e, fun σ' I' l f => q σ' I' l fun i hi => f i (by simpa [slotsT] using hi)⟩
      have : ∀ (ts : Ts) (es : List Expr) (ds : List D) ρ ρ', chkTs N scs ts es = true → asTs ts ds ρ = some ρ' → ds.length = es.length := by
        intro ts
        induction ts using Ts.rec (motive_1 := fun _ => True) with
        | nm _ => trivial
        | tp _ _ => trivial
        | nil =>
          intro es ds ρ ρ' h e
          cases es with
          | nil => cases ds with
            | nil => rfl
            | cons _ _ => simp [asTs] at e
          | cons _ _ => simp [chkTs] at h
        | cons t ts _ ih =>
          intro es ds ρ ρ' h e
          cases es with
          | nil => simp [chkTs] at h
          | cons e0 r => cases ds with
            | nil => simp [asTs] at e
            | cons d0 dr =>
              simp only [chkTs, Bool.and_eq_true] at h
              simp only [asTs] at e
              split at e
              · simp [ih r dr _ _ h.2 e]
              · cases e
      rw [hr.length]
      exact this ts es _ _ _ h e
theorem sTs (ok : XOk X N sc scs Γ G) : ∀ (ts : Ts) (py : List Expr), chkTs N scs ts py = true → PGs X py (pGs X.K ts)
  | .nil, py, h => by
    cases py with
    | cons _ _ => simp [chkTs] at h
    | nil =>
      refine PGs.imp pgs_nil fun vs σ H Q q => ?_
      obtain ⟨F, O, ρ, ds, ρ', I, hv, e, q⟩ := q
      cases ds with
      | nil =>
        cases hv
        simp only [asTs, Option.some.injEq] at e
        subst e
        exact ⟨rfl, q σ I rfl fun _ _ => rfl⟩
      | cons _ _ => simp [asTs] at e
  | .cons t ts, py, h => by
    cases py with
    | nil => simp [chkTs] at h
    | cons p r =>
      simp only [chkTs, Bool.and_eq_true] at h
      refine PGs.imp (pgs_cons (sT ok t p h.1) (sTs ok ts r h.2) (by rw [tg_star h.1]; rfl)) fun vs σ H Q q => ?_
      obtain ⟨F, O, ρ, ds, ρ', I, hv, e, q⟩ := q
      cases ds with
      | nil => simp [asTs] at e
      | cons d0 dr =>
        simp only [asTs] at e
        split at e
        · rename_i ρ1 e1
          cases hv with
          | cons hv hr =>
            refine ⟨_, _, rfl, F, O, ρ, d0, ρ1, I, hv, e1, fun σ1 I1 l1 f1 => ⟨F, O, ρ1, dr, ρ', I1, hr, e, fun σ2 I2 l2 f2 => q σ2 I2 (l2.trans l1) fun i hi => ?_⟩⟩
            simp only [slotsTs, List.mem_append, not_or] at hi
            rw [f2 i hi.2, f1 i hi.1]
        · cases e
end
end
end DP
/-! The pure layer, part H: expressions, construct by construct. -/
namespace DP
open PySem PySem.Spec PyProof.Rows L2
section
variable {X : Cx} {N : List Str} {sc scs : Scope} {Γ : Sems} {G : Str → Option D} {py pa pb pc : Expr} {a b c : E} {pos : Pos}
theorem names_of {i : Nat} {x : Str} (ok : XOk X N sc scs Γ G) (h : nmC N sc i x = true) : X.N[i]? = some x ∧ Vis X.env.scope x ∧ (x == ("__debug__" : Str)) = false ∧ (x == ("__classdict__" : Str)) = false := by
  simp only [nmC, Bool.and_eq_true, decide_eq_true_eq, Bool.not_eq_true'] at h
  rw [ok.hN, ok.hsc]
  exact ⟨h.1.1.1, vis_of h.1.1.2, h.1.2, h.2⟩
theorem gn_of {x : Str} (ok : XOk X N sc scs Γ G) (h : gnC sc x = true) : Gl X x ∧ (x == ("__debug__" : Str)) = false := by
  simp only [gnC, glC, Bool.and_eq_true, decide_eq_true_eq, Bool.not_eq_true'] at h
  refine ⟨?_, h.2⟩
  show X.env.scope.names.lookup x = _
  rw [ok.hsc]
  exact h.1
theorem e_var {i : Nat} {x : Str} (ok : XOk X N sc scs Γ G) (h : nmC N sc i x = true) : PE X (.Name x pos) (pE X.K (ev Γ G (.var i))) := by
  obtain ⟨h1, h2, h3, h4⟩ := names_of ok h
  refine PE.of (pe_var h1 h2 h3 h4) fun σ H Q F O ρ r ρ' kf I e q => ?_
  simp only [ev] at e
  split at e
  · rename_i d hd
    simp only [Option.some.injEq, Prod.mk.injEq] at e
    obtain ⟨rfl, rfl⟩ := e
    obtain ⟨v, e1, hv⟩ := I.val i d hd
    exact ⟨v, e1, fun _ => q v H O kf .refl I hv⟩
  · rename_i xs hd
    simp only [Option.some.injEq, Prod.mk.injEq] at e
    obtain ⟨rfl, rfl⟩ := e
    obtain ⟨p, e1, z, _, h5, h6⟩ := I.own i _ hd
    have I2 : EI X.K F (fun c => O c ∧ c ≠ p) σ H (ρ.set i .un) := (I.drop).less kf (fun c z => z.1) fun j b c e2 e3 => by
      rcases getSet e2 with ⟨_, e2⟩ | ⟨n, e2⟩
      · cases e2
      · obtain ⟨c', e4, z', _⟩ := I.own j b e2
        rw [e3] at e4
        cases e4
        exact ⟨z', fun e5 => n (I.inj i j _ _ p hd e2 e1 (by rw [e3, e5]))⟩
    have hv : Rp X.K (Or2 F fun c => O c ∧ c ≠ p) H (.ref p) (obD xs) := by
      refine ObN.frz h5 h6 (fun z' => ?_) (fun a z => z.imp id (·.1)) I.mf (kf.off I.mf)
      rcases z' with z' | z'
      · exact I.dis p z' z
      · exact z'.2 rfl
    have I3 := I2.putv (i := i) e1 hv
    rw [List.set_set] at I3
    exact ⟨_, e1, fun _ => q _ H _ kf (Step.less fun c z => z.1) I3 hv⟩
  · cases e
theorem e_mov {i : Nat} {x : Str} (ok : XOk X N sc scs Γ G) (h : nmC N sc i x = true) : PE X (.Name x pos) (pE X.K (ev Γ G (.mov i))) := by
  obtain ⟨h1, h2, h3, h4⟩ := names_of ok h
  refine PE.of (pe_var h1 h2 h3 h4) fun σ H Q F O ρ r ρ' kf I e q => ?_
  simp only [ev] at e
  split at e
  · rename_i d hd
    simp only [Option.some.injEq, Prod.mk.injEq] at e
    obtain ⟨rfl, rfl⟩ := e
    obtain ⟨v, e1, hv⟩ := I.val i d hd
    exact ⟨v, e1, fun _ => q v H O kf .refl I hv⟩
  · rename_i xs hd
    simp only [Option.some.injEq, Prod.mk.injEq] at e
    obtain ⟨rfl, rfl⟩ := e
    obtain ⟨p, e1, z, ob⟩ := I.own i _ hd
    refine ⟨_, e1, fun _ => q _ H O kf .refl I.drop ⟨p, rfl, z, ob, fun j c e2 e3 => ?_⟩⟩
    rcases getSet e2 with ⟨_, e2⟩ | ⟨n, e2⟩
    · cases e2
    · exact n (I.inj i j _ _ p hd e2 e1 e3)
  · cases e
theorem e_pk {i : Nat} {x : Str} (ok : XOk X N sc scs Γ G) (h : nmC N sc i x = true) : PE X (.Name x pos) (pE X.K (ev Γ G (.pk i))) := by
  obtain ⟨h1, h2, h3, h4⟩ := names_of ok h
  refine PE.of (pe_var h1 h2 h3 h4) fun σ H Q F O ρ r ρ' kf I e q => ?_
  simp only [ev] at e
  split at e
  · rename_i d hd
    simp only [Option.some.injEq, Prod.mk.injEq] at e
    obtain ⟨rfl, rfl⟩ := e
    obtain ⟨v, e1, hv⟩ := I.val i d hd
    exact ⟨v, e1, fun _ => q v H O kf .refl I hv⟩
  · rename_i xs hd
    simp only [Option.some.injEq, Prod.mk.injEq] at e
    obtain ⟨rfl, rfl⟩ := e
    obtain ⟨p, e1, z, ob⟩ := I.own i _ hd
    exact ⟨_, e1, fun _ => q _ H O kf .refl I e1⟩
  · cases e
theorem e_const {v : V} {d : D} {e : E} (h : PE X py (tC v)) (he : ∀ ρ, ev Γ G e ρ = some (.v d, ρ)) (hv : ∀ Z H, Rp X.K Z H v d) : PE X py (pE X.K (ev Γ G e)) :=
  PE.of h fun σ H Q F O ρ r ρ' kf I e q => by
    rw [he] at e
    simp only [Option.some.injEq, Prod.mk.injEq] at e
    obtain ⟨rfl, rfl⟩ := e
    exact fun _ => q v H O kf .refl I (hv _ _)
theorem e_glob {x : Str} (ok : XOk X N sc scs Γ G) (h : gnC sc x = true) : PE X (.Name x pos) (pE X.K (ev Γ G (.glob x))) := by
  obtain ⟨h1, h2⟩ := gn_of ok h
  cases hg : G x with
  | none =>
    refine PE.of (t := fun _ _ _ => False) ⟨fun _ _ _ _ _ _ h => h.elim⟩ fun σ H Q F O ρ r ρ' kf I e q => ?_
    simp only [ev, hg] at e
    cases e
  | some d =>
    obtain ⟨u, v, h3, h4, h5⟩ := ok.glo x d hg
    exact e_const (pe_glob h1 h3 h4 h2) (fun ρ => by simp only [ev, hg]) h5
/-- two in a row -/
theorem two_ok {K : PySem.W.Frag} {F O : Addr → Prop} {σ : Sg} {H : Hp} {ρ ρ1 ρ2 : PEnv} {ea eb : PEnv → Option (R × PEnv)} {ra rb : R} (I : EI K F O σ H ρ) (e1 : ea ρ = some (ra, ρ1)) (e2 : eb ρ1 = some (rb, ρ2)) {T : V → V → Hp → Prop}
    (fin : ∀ x y H2 O2, KOff K H2 → Step O O2 H H2 → EI K F O2 σ H2 ρ2 → HR K F O2 σ H2 x ra → HR K F O2 σ H2 y rb → T x y H2) : pE K ea σ H fun x H1 => pE K eb σ H1 fun y H2 => T x y H2 := fun kf => by
  refine ⟨F, O, ρ, ra, ρ1, I, e1, fun x H1 O1 k1 s1 I1 h1 kf1 => ?_⟩
  obtain ⟨O1', l1, I1', hx⟩ := I1.hold k1 h1
  refine ⟨F, O1', ρ1, rb, ρ2, I1', e2, fun y H2 O2 k2 s2 I2 h2 => ?_⟩
  obtain ⟨O2', l2, I2', hy⟩ := I2.hold k2 h2
  have s12 : Step O1' O2' H1 H2 := s2.trans (Step.less l2)
  exact fin x y H2 O2' k2 ((s1.trans (Step.less l1)).trans s12) I2' (hx.step I1' s12 (k2.off I2'.mf)) hy
theorem one_ok {K : PySem.W.Frag} {F O : Addr → Prop} {σ : Sg} {H : Hp} {ρ ρ1 : PEnv} {ea : PEnv → Option (R × PEnv)} {ra : R} (I : EI K F O σ H ρ) (e1 : ea ρ = some (ra, ρ1)) {T : V → Hp → Prop}
    (fin : ∀ x H2 O2, KOff K H2 → Step O O2 H H2 → EI K F O2 σ H2 ρ1 → HR K F O2 σ H2 x ra → T x H2) : pE K ea σ H fun x H1 => T x H1 := fun kf => by
  refine ⟨F, O, ρ, ra, ρ1, I, e1, fun x H1 O1 k1 s1 I1 h1 => ?_⟩
  obtain ⟨O1', l1, I1', hx⟩ := I1.hold k1 h1
  exact fin x H1 O1' k1 (s1.trans (Step.less l1)) I1' hx
/-- an operation on data at the end -/
theorem fin_ok {K : PySem.W.Frag} {F O O2 : Addr → Prop} {σ : Sg} {H H2 : Hp} {ρ2 : PEnv} {r : R} {Q : VK} (k2 : KOff K H2) (s : Step O O2 H H2) (I2 : EI K F O2 σ H2 ρ2)
    (q : ∀ v H' O', KOff K H' → Step O O' H H' → EI K F O' σ H' ρ2 → RR K F O' σ H' ρ2 v r → Q v H') : ∀ v H', Res K (Or2 F O2) H2 H' v r → KOff K H' → Q v H' := fun v H' h k' => by
  obtain ⟨O', s', I', h'⟩ := I2.fin k2 k' h
  exact q v H' O' k' (s.trans s') I' h'
theorem e_bin {op : BO} {op' : Operator} (ho : op' = opPy op) (ha : PE X pa (pE X.K (ev Γ G a))) (hb : PE X pb (pE X.K (ev Γ G b))) : PE X (.BinOp pa op' pb pos) (pE X.K (ev Γ G (.bin op a b))) := by
  subst ho
  refine PE.of (pe_op (bo_ok op) ha hb) fun σ H Q F O ρ r ρ' kf I e q => ?_
  simp only [ev] at e
  split at e
  · rename_i ra ρ1 e1
    split at e
    · rename_i rb ρ2 e2
      split at e
      · rename_i x y ex ey
        split at e
        · rename_i r' er
          simp only [Option.some.injEq, Prod.mk.injEq] at e
          obtain ⟨rfl, rfl⟩ := e
          refine two_ok I e1 e2 fun xv yv H2 O2 k2 s I2 hx hy => ?_
          exact ⟨_, x, y, _, I2.mf, k2, hx.toC I2 ex, hy.toC I2 ey, er, fin_ok k2 s I2 q⟩
        · cases e
      · cases e
    · cases e
  · cases e
theorem cmp_red {op : CO} {σ : Sg} {H : Hp} {F O : Addr → Prop} {ρ ρ' : PEnv} {r : R} {T : V → Hp → Prop} (I : EI X.K F O σ H ρ) (e : ev Γ G (.cmp op a b) ρ = some (r, ρ'))
    (q : ∀ v H' H2 O2 k, KOff X.K H2 → Step O O2 H H2 → EI X.K F O2 σ H2 ρ' → r = .v (.bool k) → Res X.K (Or2 F O2) H2 H' v r → T v H') :
    tOp (rOp X.K (coR op)) (pE X.K (ev Γ G a)) (pE X.K (ev Γ G b)) σ H T := by
  simp only [ev] at e
  split at e
  · rename_i ra ρ1 e1
    split at e
    · rename_i rb ρ2 e2
      split at e
      · rename_i x y ex ey
        split at e
        · rename_i r' er
          simp only [Option.some.injEq, Prod.mk.injEq] at e
          obtain ⟨rfl, rfl⟩ := e
          refine two_ok I e1 e2 fun xv yv H2 O2 k2 s I2 hx hy => ?_
          exact ⟨_, x, y, _, I2.mf, k2, hx.toC I2 ex, hy.toC I2 ey, by simp [coR, er], fun v H' h => q v H' H2 O2 _ k2 s I2 rfl h⟩
        · cases e
      · cases e
    · cases e
  · cases e
theorem Res.bool {K : PySem.W.Frag} {Z : Addr → Prop} {H H' : Hp} {v : V} {k : Bool} (h : Res K Z H H' v (.v (.bool k))) : v = .bl k := by
  cases h.2; rfl
theorem behind_of {op : CmpOp} (h : notSet pb = true) : behindInMarks op pb = false := by
  cases pb <;> first | rfl | (simp [notSet] at h)
theorem e_cmp {op : CO} {op' : CmpOp} (ok : XOk X N sc scs Γ G) (ho : op' = coPy op) (hs : notSet pb = true) (ha : PE X pa (pE X.K (ev Γ G a))) (hb : PE X pb (pE X.K (ev Γ G b))) : PE X (.Compare pa [op'] [pb] pos) (pE X.K (ev Γ G (.cmp op a b))) := by
  subst ho
  exact PE.of (pe_cmpR (co_ok ok.room op) ha hb (behind_of hs)) fun σ H Q F O ρ r ρ' kf I e q => cmp_red I e fun v H' H2 O2 k k2 s I2 er h => fin_ok k2 s I2 q v H' h
theorem t_cmp {op : CO} {op' : CmpOp} (ok : XOk X N sc scs Γ G) (ho : op' = coPy op) (hs : notSet pb = true) (ha : PE X pa (pE X.K (ev Γ G a))) (hb : PE X pb (pE X.K (ev Γ G b))) : PT X (.Compare pa [op'] [pb] pos) (pT X.K (ev Γ G (.cmp op a b))) := by
  subst ho
  refine PT.of (pt_cmpR (co_ok ok.room op) ha hb (behind_of hs)) fun σ H Q F O ρ k ρ' kf I e q => ?_
  refine cmp_red (T := fun v H' => ∃ k, v = .bl k ∧ (KOff X.K H' → Q k H')) I e fun v H' H2 O2 k' k2 s I2 er h => ?_
  cases er
  refine ⟨k, h.bool, fun kk => ?_⟩
  obtain ⟨O', s', I', _⟩ := I2.fin k2 kk h
  exact q H' O' kk (s.trans s') I'
end
end DP
/-! The pure layer, part I: more expressions. -/
namespace DP
open PySem PySem.Spec PyProof.Rows L2
section
variable {X : Cx} {N : List Str} {sc scs : Scope} {Γ : Sems} {G : Str → Option D} {py pa pb pc : Expr} {a b c : E} {pos : Pos}
theorem e_neg (ha : PE X pa (pE X.K (ev Γ G a))) : PE X (.UnaryOp .USub pa pos) (pE X.K (ev Γ G (.neg a))) := by
  refine PE.of (pe_un un_neg ha) fun σ H Q F O ρ r ρ' kf I e q => ?_
  simp only [ev] at e
  split at e
  · rename_i i ρ1 e1
    simp only [Option.some.injEq, Prod.mk.injEq] at e
    obtain ⟨rfl, rfl⟩ := e
    refine fun _ => ⟨F, O, ρ, _, _, I, e1, fun v H' O' k s I' h => ?_⟩
    cases h
    exact ⟨i, rfl, fun _ => q _ H' O' k s I' (.int _)⟩
  · cases e
theorem e_not (ha : PE X pa (pE X.K (ev Γ G a))) : PE X (.UnaryOp .Not pa pos) (pE X.K (ev Γ G (.not a))) := by
  refine PE.of (pe_not ha) fun σ H Q F O ρ r ρ' kf I e q => ?_
  simp only [ev] at e
  split at e
  · rename_i i ρ1 e1
    simp only [Option.some.injEq, Prod.mk.injEq] at e
    obtain ⟨rfl, rfl⟩ := e
    refine fun _ => ⟨F, O, ρ, _, _, I, e1, fun v H' O' k s I' h => ?_⟩
    cases h
    exact ⟨i, rfl, fun _ => q _ H' O' k s I' (.bl _)⟩
  · cases e
theorem t_not (ha : PT X pa (pT X.K (ev Γ G a))) : PT X (.UnaryOp .Not pa pos) (pT X.K (ev Γ G (.not a))) := by
  refine PT.of (pt_not ha) fun σ H Q F O ρ r ρ' kf I e q => ?_
  simp only [ev] at e
  split at e
  · rename_i i ρ1 e1
    simp only [Option.some.injEq, Prod.mk.injEq, R.v.injEq, PyData.bool.injEq] at e
    obtain ⟨rfl, rfl⟩ := e
    exact fun _ => ⟨F, O, ρ, _, _, I, e1, fun H' O' k s I' _ => q H' O' k s I'⟩
  · cases e
/-- the rest of a chain of and, or -/
theorem and_red {σ : Sg} {H : Hp} {Q : VK} {F O : Addr → Prop} {ρ ρ' : PEnv} {r : R} (I : EI X.K F O σ H ρ) (e : ev Γ G (.and2 a b) ρ = some (r, ρ'))
    (q : ∀ v H' O', KOff X.K H' → Step O O' H H' → EI X.K F O' σ H' ρ' → RR X.K F O' σ H' ρ' v r → Q v H') : tAndV (pE X.K (ev Γ G a)) (pE X.K (ev Γ G b)) σ H fun v H' => KOff X.K H' → Q v H' := by
  simp only [ev] at e
  split at e
  · rename_i ρ1 e1
    refine fun _ => ⟨F, O, ρ, _, _, I, e1, fun v H1 O1 k1 s1 I1 h => ?_⟩
    cases h
    refine ⟨true, rfl, ?_⟩
    rw [if_pos rfl]
    exact fun _ => ⟨F, O1, ρ1, r, ρ', I1, e, fun v H' O' k s I' h _ => q v H' O' k (s1.trans s) I' h⟩
  · rename_i ρ1 e1
    simp only [Option.some.injEq, Prod.mk.injEq] at e
    obtain ⟨rfl, rfl⟩ := e
    refine fun _ => ⟨F, O, ρ, _, _, I, e1, fun v H1 O1 k1 s1 I1 h => ?_⟩
    cases h
    refine ⟨false, rfl, ?_⟩
    rw [if_neg Bool.false_ne_true]
    exact fun _ => q _ H1 O1 k1 s1 I1 (.bl _)
  · cases e
theorem or_red {σ : Sg} {H : Hp} {Q : VK} {F O : Addr → Prop} {ρ ρ' : PEnv} {r : R} (I : EI X.K F O σ H ρ) (e : ev Γ G (.or2 a b) ρ = some (r, ρ'))
    (q : ∀ v H' O', KOff X.K H' → Step O O' H H' → EI X.K F O' σ H' ρ' → RR X.K F O' σ H' ρ' v r → Q v H') : tOrV (pE X.K (ev Γ G a)) (pE X.K (ev Γ G b)) σ H fun v H' => KOff X.K H' → Q v H' := by
  simp only [ev] at e
  split at e
  · rename_i ρ1 e1
    refine fun _ => ⟨F, O, ρ, _, _, I, e1, fun v H1 O1 k1 s1 I1 h => ?_⟩
    cases h
    refine ⟨false, rfl, ?_⟩
    rw [if_neg Bool.false_ne_true]
    exact fun _ => ⟨F, O1, ρ1, r, ρ', I1, e, fun v H' O' k s I' h _ => q v H' O' k (s1.trans s) I' h⟩
  · rename_i ρ1 e1
    simp only [Option.some.injEq, Prod.mk.injEq] at e
    obtain ⟨rfl, rfl⟩ := e
    refine fun _ => ⟨F, O, ρ, _, _, I, e1, fun v H1 O1 k1 s1 I1 h => ?_⟩
    cases h
    refine ⟨true, rfl, ?_⟩
    rw [if_pos rfl]
    exact fun _ => q _ H1 O1 k1 s1 I1 (.bl _)
  · cases e
theorem e_and {rest : List Expr} (ha : PE X pa (pE X.K (ev Γ G a))) (hb : PE X (.BoolOp .And (pb :: rest) pos) (pE X.K (ev Γ G b))) : PE X (.BoolOp .And (pa :: pb :: rest) pos) (pE X.K (ev Γ G (.and2 a b))) :=
  PE.of (pe_and ha hb) fun σ H Q F O ρ r ρ' kf I e q => and_red I e q
theorem e_or {rest : List Expr} (ha : PE X pa (pE X.K (ev Γ G a))) (hb : PE X (.BoolOp .Or (pb :: rest) pos) (pE X.K (ev Γ G b))) : PE X (.BoolOp .Or (pa :: pb :: rest) pos) (pE X.K (ev Γ G (.or2 a b))) :=
  PE.of (pe_or ha hb) fun σ H Q F O ρ r ρ' kf I e q => or_red I e q
theorem w_and {rest : List Expr} (ha : PT X pa (pT X.K (ev Γ G a))) (hb : PW X (.BoolOp .And (pb :: rest) pos) (pT X.K (ev Γ G b))) : PW X (.BoolOp .And (pa :: pb :: rest) pos) (pT X.K (ev Γ G (.and2 a b))) :=
  PW.of (pw_and ha hb) fun σ H Q F O ρ k ρ' kf I e q => by
    simp only [ev] at e
    split at e
    · rename_i ρ1 e1
      refine fun _ => ⟨F, O, ρ, _, _, I, e1, fun H1 O1 k1 s1 I1 => ?_⟩
      refine iteT ?_
      exact fun _ => ⟨F, O1, ρ1, k, ρ', I1, e, fun H' O' k s I' _ => q H' O' k (s1.trans s) I'⟩
    · rename_i ρ1 e1
      simp only [Option.some.injEq, Prod.mk.injEq, R.v.injEq, PyData.bool.injEq] at e
      obtain ⟨rfl, rfl⟩ := e
      refine fun _ => ⟨F, O, ρ, _, _, I, e1, fun H1 O1 k1 s1 I1 => ?_⟩
      refine iteF ?_
      exact fun _ => q H1 O1 k1 s1 I1
    · cases e
theorem w_or {rest : List Expr} (ha : PT X pa (pT X.K (ev Γ G a))) (hb : PW X (.BoolOp .Or (pb :: rest) pos) (pT X.K (ev Γ G b))) : PW X (.BoolOp .Or (pa :: pb :: rest) pos) (pT X.K (ev Γ G (.or2 a b))) :=
  PW.of (pw_or ha hb) fun σ H Q F O ρ k ρ' kf I e q => by
    simp only [ev] at e
    split at e
    · rename_i ρ1 e1
      refine fun _ => ⟨F, O, ρ, _, _, I, e1, fun H1 O1 k1 s1 I1 => ?_⟩
      refine iteF ?_
      exact fun _ => ⟨F, O1, ρ1, k, ρ', I1, e, fun H' O' k s I' _ => q H' O' k (s1.trans s) I'⟩
    · rename_i ρ1 e1
      simp only [Option.some.injEq, Prod.mk.injEq, R.v.injEq, PyData.bool.injEq] at e
      obtain ⟨rfl, rfl⟩ := e
      refine fun _ => ⟨F, O, ρ, _, _, I, e1, fun H1 O1 k1 s1 I1 => ?_⟩
      refine iteT ?_
      exact fun _ => q H1 O1 k1 s1 I1
    · cases e
theorem e_ife (hc : PT X pc (pT X.K (ev Γ G c))) (ha : PE X pa (pE X.K (ev Γ G a))) (hb : PE X pb (pE X.K (ev Γ G b))) : PE X (.IfExp pc pa pb pos) (pE X.K (ev Γ G (.ife c a b))) :=
  PE.of (pe_ifExp hc ha hb) fun σ H Q F O ρ r ρ' kf I e q => by
    simp only [ev] at e
    split at e
    · rename_i ρ1 e1
      refine fun _ => ⟨F, O, ρ, _, _, I, e1, fun H1 O1 k1 s1 I1 => ?_⟩
      refine iteT ?_
      exact fun _ => ⟨F, O1, ρ1, r, ρ', I1, e, fun v H' O' k s I' h _ => q v H' O' k (s1.trans s) I' h⟩
    · rename_i ρ1 e1
      refine fun _ => ⟨F, O, ρ, _, _, I, e1, fun H1 O1 k1 s1 I1 => ?_⟩
      refine iteF ?_
      exact fun _ => ⟨F, O1, ρ1, r, ρ', I1, e, fun v H' O' k s I' h _ => q v H' O' k (s1.trans s) I' h⟩
    · cases e
theorem pt_ifExp {tc ta tb : TT} (hc : PT X pc tc) (ha : PT X pa ta) (hb : PT X pb tb) : PT X (.IfExp pc pa pb pos) fun σ H Q => tc σ H fun k H1 => if k = true then ta σ H1 Q else tb σ H1 Q := by
  refine ⟨fun pins s σ H Q I h => ?_⟩
  show wpAny _ _ (do if ← isTrue pc X.env (eval pc X.env) then isTrue pa X.env (eval pa X.env) else isTrue pb X.env (eval pb X.env)) _ _ _
  refine wpAny_bind (thn (hc.run pins s σ H _ I h) fun k s1 ⟨H1, I1, q1⟩ => ?_)
  cases k with
  | true => exact ha.run pins s1 σ H1 Q I1 q1
  | false => exact hb.run pins s1 σ H1 Q I1 q1
theorem t_ife (hc : PT X pc (pT X.K (ev Γ G c))) (ha : PT X pa (pT X.K (ev Γ G a))) (hb : PT X pb (pT X.K (ev Γ G b))) : PT X (.IfExp pc pa pb pos) (pT X.K (ev Γ G (.ife c a b))) :=
  PT.of (pt_ifExp hc ha hb) fun σ H Q F O ρ k ρ' kf I e q => by
    simp only [ev] at e
    split at e
    · rename_i ρ1 e1
      refine fun _ => ⟨F, O, ρ, _, _, I, e1, fun H1 O1 k1 s1 I1 => ?_⟩
      refine iteT ?_
      exact fun _ => ⟨F, O1, ρ1, k, ρ', I1, e, fun H' O' k s I' _ => q H' O' k (s1.trans s) I'⟩
    · rename_i ρ1 e1
      refine fun _ => ⟨F, O, ρ, _, _, I, e1, fun H1 O1 k1 s1 I1 => ?_⟩
      refine iteF ?_
      exact fun _ => ⟨F, O1, ρ1, k, ρ', I1, e, fun H' O' k s I' _ => q H' O' k (s1.trans s) I'⟩
    · cases e
/-- a op1 b op2 c -/
theorem chain_red {o1 o2 : CO} {σ : Sg} {H : Hp} {F O : Addr → Prop} {ρ ρ' : PEnv} {r : R} {T : V → Hp → Prop} (I : EI X.K F O σ H ρ) (e : ev Γ G (.chain o1 o2 a b c) ρ = some (r, ρ'))
    (q : ∀ v H' H2 O2 k, KOff X.K H2 → Step O O2 H H2 → EI X.K F O2 σ H2 ρ' → r = .v (.bool k) → Res X.K (Or2 F O2) H2 H' v r → T v H') :
    tChain (rOp X.K (coR o1)) (rOp X.K (coR o2)) (pE X.K (ev Γ G a)) (pE X.K (ev Γ G b)) (pE X.K (ev Γ G c)) σ H T := by
  simp only [ev] at e
  split at e
  · rename_i x ρ1 e1
    split at e
    · rename_i y ρ2 e2
      refine two_ok I e1 e2 fun xv yv H2 O2 k2 s2 I2 hx hy => ?_
      split at e
      · rename_i ec
        split at e
        · rename_i z ρ3 e3
          split at e
          · rename_i k ek
            simp only [Option.some.injEq, Prod.mk.injEq] at e
            obtain ⟨rfl, rfl⟩ := e
            refine ⟨_, x, y, _, I2.mf, k2, Rp.cr hx, Rp.cr hy, by rw [coR, ec]; rfl, fun v H3 h3 => ⟨true, h3.bool, iteT ?_⟩⟩
            intro k3
            obtain ⟨O3, s3, I3, _⟩ := I2.fin k2 k3 h3
            refine ⟨F, O3, ρ2, _, ρ3, I3, e3, fun w H4 O4 k4 s4 I4 hw => ?_⟩
            have hy4 : HR X.K F O4 σ H4 yv (.v y) := (HR.step I2 s3 (k3.off I3.mf) hy).step I3 s4 (k4.off I4.mf)
            exact ⟨_, y, z, _, I4.mf, k4, Rp.cr hy4, Rp.cr hw, by rw [coR, ek]; rfl, fun v H' h => q v H' H4 O4 k k4 ((s2.trans s3).trans s4) I4 rfl h⟩
          · cases e
        · cases e
      · rename_i ec
        simp only [Option.some.injEq, Prod.mk.injEq] at e
        obtain ⟨rfl, rfl⟩ := e
        exact ⟨_, x, y, _, I2.mf, k2, Rp.cr hx, Rp.cr hy, by rw [coR, ec]; rfl, fun v H3 h3 => ⟨false, h3.bool, iteF (by have := h3.bool; subst this; exact q _ H3 H2 O2 false k2 s2 I2 rfl h3)⟩⟩
      · cases e
    · cases e
  · cases e
theorem marks_of {o1 o2 : CmpOp} (h1 : notSet pb = true) (h2 : notSet pc = true) : lastMarks [o1, o2] [pb, pc] = false := by
  show behindInMarks o2 pc = false
  exact behind_of h2
theorem e_chain {o1 o2 : CO} {p1 p2 : CmpOp} (ok : XOk X N sc scs Γ G) (h1 : p1 = coPy o1) (h2 : p2 = coPy o2) (hb' : notSet pb = true) (hc' : notSet pc = true) (ha : PE X pa (pE X.K (ev Γ G a))) (hb : PE X pb (pE X.K (ev Γ G b))) (hc : PE X pc (pE X.K (ev Γ G c))) :
    PE X (.Compare pa [p1, p2] [pb, pc] pos) (pE X.K (ev Γ G (.chain o1 o2 a b c))) := by
  subst h1 h2
  exact PE.of (pe_chain (co_ok ok.room o1) (co_ok ok.room o2) ha hb hc (marks_of hb' hc')) fun σ H Q F O ρ r ρ' kf I e q => chain_red I e fun v H' H2 O2 k k2 s I2 er h => fin_ok k2 s I2 q v H' h
theorem t_chain {o1 o2 : CO} {p1 p2 : CmpOp} (ok : XOk X N sc scs Γ G) (h1 : p1 = coPy o1) (h2 : p2 = coPy o2) (hb' : notSet pb = true) (hc' : notSet pc = true) (ha : PE X pa (pE X.K (ev Γ G a))) (hb : PE X pb (pE X.K (ev Γ G b))) (hc : PE X pc (pE X.K (ev Γ G c))) :
    PT X (.Compare pa [p1, p2] [pb, pc] pos) (pT X.K (ev Γ G (.chain o1 o2 a b c))) := by
  subst h1 h2
  refine PT.of (pt_chain (co_ok ok.room o1) (co_ok ok.room o2) ha hb hc (marks_of hb' hc')) fun σ H Q F O ρ k ρ' kf I e q => ?_
  refine chain_red (T := fun v H' => ∃ k, v = .bl k ∧ (KOff X.K H' → Q k H')) I e fun v H' H2 O2 k' k2 s I2 er h => ?_
  cases er
  refine ⟨k, h.bool, fun kk => ?_⟩
  obtain ⟨O', s', I', _⟩ := I2.fin k2 kk h
  exact q H' O' kk (s.trans s') I'
theorem plain_of (h : notSlice pb = true) : PlainIx pb := fun o i => by
  cases pb <;> first | rfl | (simp [notSlice] at h)
theorem e_idx (ok : XOk X N sc scs Γ G) (hp : notSlice pb = true) (ha : PE X pa (pE X.K (ev Γ G a))) (hb : PE X pb (pE X.K (ev Γ G b))) : PE X (.Subscript pa pb pos) (pE X.K (ev Γ G (.idx a b))) := by
  refine PE.of (pe_ix (ix_ok ok.room) ha hb (plain_of hp)) fun σ H Q F O ρ r ρ' kf I e q => ?_
  simp only [ev] at e
  split at e
  · rename_i ra ρ1 e1
    split at e
    · rename_i rb ρ2 e2
      split at e
      · rename_i x y ex ey
        split at e
        · rename_i r' er
          simp only [Option.some.injEq, Prod.mk.injEq] at e
          obtain ⟨rfl, rfl⟩ := e
          refine two_ok I e1 e2 fun xv yv H2 O2 k2 s I2 hx hy => ?_
          exact ⟨_, x, y, _, I2.mf, k2, hx.toC I2 ex, hy.toC I2 ey, by simp [ixR, er], fin_ok k2 s I2 q⟩
        · cases e
      · cases e
    · cases e
  · cases e
/-- a part of a slice -/
def pP (K : PySem.W.Frag) (evp : PEnv → Option (Option R × PEnv)) : TO := fun σ H Q => KOff K H → ∃ F O ρ ro ρ', EI K F O σ H ρ ∧ evp ρ = some (ro, ρ') ∧ ((ro = none ∧ ∀ H' O', KOff K H' → Step O O' H H' → EI K F O' σ H' ρ' → Q none H') ∨
  ∃ i, ro = some (.v (.int i)) ∧ ∀ H' O', KOff K H' → Step O O' H H' → EI K F O' σ H' ρ' → Q (some i) H')
theorem PO.imp {py : Option Expr} {t t' : TO} (h : PO X py t) (i : ∀ σ H Q, (∃ pins s, Inv X pins σ H s) → t' σ H Q → t σ H Q) : PO X py t' := ⟨fun pins s σ H Q I q => h.run pins s σ H Q I (i _ _ _ ⟨_, _, I⟩ q)⟩
theorem p_none : PO X none (pP X.K (evp Γ G .none)) := PO.imp po_none fun σ H Q ⟨_, _, I0⟩ q => by
  obtain ⟨F, O, ρ, ro, ρ', I, e, q⟩ := q (koff_of I0)
  simp only [evp, Option.some.injEq, Prod.mk.injEq] at e
  obtain ⟨rfl, rfl⟩ := e
  rcases q with ⟨_, q⟩ | ⟨_, e, _⟩
  · exact q H O (koff_of I0) .refl I
  · cases e
theorem p_some (ha : PE X pa (pE X.K (ev Γ G a))) : PO X (some pa) (pP X.K (evp Γ G (.some a))) := PO.imp (po_some ha) fun σ H Q ⟨_, _, I0⟩ q => by
  obtain ⟨F, O, ρ, ro, ρ', I, e, q⟩ := q (koff_of I0)
  simp only [evp] at e
  split at e
  · rename_i r ρ1 e1
    simp only [Option.some.injEq, Prod.mk.injEq] at e
    obtain ⟨rfl, rfl⟩ := e
    rcases q with ⟨e, _⟩ | ⟨i, e, q⟩
    · cases e
    · cases e
      refine fun _ => ⟨F, O, ρ, _, _, I, e1, fun v H' O' k s I' h => ?_⟩
      cases h
      exact ⟨i, rfl, q H' O' k s I'⟩
  · cases e
theorem optI_of {ρ : PEnv} {ro : Option R} {l : Option Int} (h : optI ρ ro = some l) : (ro = none ∧ l = none) ∨ ∃ i, ro = some (.v (.int i)) ∧ l = some i := by
  cases ro with
  | none => cases h; exact .inl ⟨rfl, rfl⟩
  | some r =>
    cases r with
    | v d => cases d <;> simp [optI, toC] at h; exact .inr ⟨_, rfl, h.symm⟩
    | fr b => cases b <;> simp [optI, toC, obD] at h
    | pk i =>
      simp only [optI, toC] at h
      split at h
      · rename_i e
        split at e
        · rename_i b _
          cases b <;> cases e
        · cases e
      · cases h
end
end DP
/-! The pure layer, part J: argument lists, displays, calls. -/
namespace DP
open PySem PySem.Spec PyProof.Rows L2
section
variable {X : Cx} {N : List Str} {sc scs : Scope} {Γ : Sems} {G : Str → Option D} {py pa pb pc : Expr} {a b c : E} {pos : Pos} {pys : List Expr}
theorem e_slc {lo hi : Part} {plo phi : Option Expr} {p2 : Pos} (ha : PE X pa (pE X.K (ev Γ G a))) (hl : PO X plo (pP X.K (evp Γ G lo))) (hh : PO X phi (pP X.K (evp Γ G hi))) : PE X (.Subscript pa (.Slice plo phi none p2) pos) (pE X.K (ev Γ G (.slc a lo hi))) := by
  refine PE.of (pe_slice sli_ok ha hl hh) fun σ H Q F O ρ r ρ' kf I e q => ?_
  simp only [ev] at e
  split at e
  · rename_i ra ρ1 e1
    split at e
    · rename_i rl ρ2 e2
      split at e
      · rename_i rh ρ3 e3
        split at e
        · rename_i x l h ex el eh
          split at e
          · rename_i r' er
            simp only [Option.some.injEq, Prod.mk.injEq] at e
            obtain ⟨rfl, rfl⟩ := e
            refine one_ok I e1 fun xv H1 O1 k1 s1 I1 hx => ?_
            have fin2 : ∀ H2 O2, KOff X.K H2 → Step O1 O2 H1 H2 → EI X.K F O2 σ H2 ρ2 → pP X.K (evp Γ G hi) σ H2 fun u H3 => rSli X.K xv l u H3 fun v H' => KOff X.K H' → Q v H' := fun H2 O2 k2 s2 I2 _ => by
              have fin3 : ∀ H3 O3, KOff X.K H3 → Step O2 O3 H2 H3 → EI X.K F O3 σ H3 ρ3 → rSli X.K xv l h H3 fun v H' => KOff X.K H' → Q v H' := fun H3 O3 k3 s3 I3 => by
                have hx3 := (hx.step I1 s2 (k2.off I2.mf)).step I2 s3 (k3.off I3.mf)
                exact ⟨_, x, _, I3.mf, k3, hx3.toC I3 ex, er, fin_ok k3 ((s1.trans s2).trans s3) I3 q⟩
              refine ⟨F, O2, ρ2, _, _, I2, e3, ?_⟩
              rcases optI_of eh with ⟨rfl, rfl⟩ | ⟨i, rfl, rfl⟩
              · exact .inl ⟨rfl, fin3⟩
              · exact .inr ⟨i, rfl, fin3⟩
            intro _
            refine ⟨F, O1, ρ1, _, _, I1, e2, ?_⟩
            rcases optI_of el with ⟨rfl, rfl⟩ | ⟨i, rfl, rfl⟩
            · exact .inl ⟨rfl, fin2⟩
            · exact .inr ⟨i, rfl, fin2⟩
          · cases e
        · cases e
      · cases e
    · cases e
  · cases e

/-! ### argument lists -/
def pAs (K : PySem.W.Frag) (ev : PEnv → Option (List D × PEnv)) : TA := fun σ H Q => KOff K H → ∃ F O ρ ds ρ', EI K F O σ H ρ ∧ ev ρ = some (ds, ρ') ∧
  ∀ vs H' O', KOff K H' → Step O O' H H' → EI K F O' σ H' ρ' → RpAll K (Or2 F O') H' vs ds → Q vs H'
inductive HRs (K : PySem.W.Frag) (F O : Addr → Prop) (σ : Sg) (H : Hp) : List V → List R → Prop
  | nil : HRs K F O σ H [] []
  | cons {v : V} {r : R} {vs : List V} {rs : List R} : HR K F O σ H v r → HRs K F O σ H vs rs → HRs K F O σ H (v :: vs) (r :: rs)
def pAc (K : PySem.W.Frag) (ev : PEnv → Option (List R × PEnv)) : TA := fun σ H Q => KOff K H → ∃ F O ρ ds ρ', EI K F O σ H ρ ∧ ev ρ = some (ds, ρ') ∧
  ∀ vs H' O', KOff K H' → Step O O' H H' → EI K F O' σ H' ρ' → HRs K F O' σ H' vs ds → Q vs H'
inductive AHs (K : PySem.W.Frag) (F O : Addr → Prop) (σ : Sg) (H : Hp) : List V → List AH → Prop
  | nil : AHs K F O σ H [] []
  | v {v : V} {d : D} {vs : List V} {rs : List AH} : Rp K (Or2 F O) H v d → AHs K F O σ H vs rs → AHs K F O σ H (v :: vs) (.v d :: rs)
  | r {v : V} {i : Nat} {vs : List V} {rs : List AH} : σ[i]? = some (some v) → AHs K F O σ H vs rs → AHs K F O σ H (v :: vs) (.r i :: rs)
  | l {v : V} {i : Nat} {vs : List V} {rs : List AH} : σ[i]? = some (some v) → AHs K F O σ H vs rs → AHs K F O σ H (v :: vs) (.l i :: rs)
def pAa (K : PySem.W.Frag) (ev : PEnv → Option (List AH × PEnv)) : TA := fun σ H Q => KOff K H → ∃ F O ρ ds ρ', EI K F O σ H ρ ∧ ev ρ = some (ds, ρ') ∧
  ∀ vs H' O', KOff K H' → Step O O' H H' → EI K F O' σ H' ρ' → AHs K F O' σ H' vs ds → Q vs H'
theorem PA.imp {t t' : TA} (h : PA X pys t) (i : ∀ σ H Q, t' σ H Q → (KOff X.K H → t σ H fun v H' => KOff X.K H' → Q v H')) : PA X pys t' := ⟨fun pos pins s σ H Q I q =>
  thn (h.run pos pins s σ H _ I (i _ _ _ q (koff_of I))) fun us s' ⟨vs, H', I', r, q⟩ => ⟨vs, H', I', r, q (koff_of I')⟩⟩
theorem star_of {env : Env} (h : notStar pa = true) (r : List Expr) : starEach (pa :: r) env = (false, eval pa env) :: starEach r env := by
  cases pa <;> first | rfl | (simp [notStar] at h)
theorem as_nil : PA X [] (pAs X.K (evs Γ G .nil)) := PA.imp pa_nil fun σ H Q q kf => by
  obtain ⟨F, O, ρ, ds, ρ', I, e, q⟩ := q kf
  simp only [evs, Option.some.injEq, Prod.mk.injEq] at e
  obtain ⟨rfl, rfl⟩ := e
  exact fun _ => q [] H O kf .refl I .nil
theorem as_cons {es : Es} (hs : notStar pa = true) (ha : PE X pa (pE X.K (ev Γ G a))) (hr : PA X pys (pAs X.K (evs Γ G es))) : PA X (pa :: pys) (pAs X.K (evs Γ G (.cons a es))) := PA.imp (pa_cons ha hr (star_of hs _)) fun σ H Q q kf => by
  obtain ⟨F, O, ρ, ds, ρ', I, e, q⟩ := q kf
  simp only [evs] at e
  split at e
  · rename_i r ρ1 e1
    split at e
    · rename_i d ed
      split at e
      · rename_i ds ρ2 e2
        simp only [Option.some.injEq, Prod.mk.injEq] at e
        obtain ⟨rfl, rfl⟩ := e
        refine one_ok I e1 fun xv H1 O1 k1 s1 I1 hx => ?_
        exact fun _ => ⟨F, O1, ρ1, ds, _, I1, e2, fun vs H2 O2 k2 s2 I2 h2 k' => q (xv :: vs) H2 O2 k2 (s1.trans s2) I2 (.cons (Rp.step I1 s2 (k2.off I2.mf) (hx.toV ed)) h2)⟩
      · cases e
    · cases e
  · cases e
theorem ac_nil : PA X [] (pAc X.K (evc Γ G .nil)) := PA.imp pa_nil fun σ H Q q kf => by
  obtain ⟨F, O, ρ, ds, ρ', I, e, q⟩ := q kf
  simp only [evc, Option.some.injEq, Prod.mk.injEq] at e
  obtain ⟨rfl, rfl⟩ := e
  exact fun _ => q [] H O kf .refl I .nil
theorem ac_cons {es : Es} (hs : notStar pa = true) (ha : PE X pa (pE X.K (ev Γ G a))) (hr : PA X pys (pAc X.K (evc Γ G es))) : PA X (pa :: pys) (pAc X.K (evc Γ G (.cons a es))) := PA.imp (pa_cons ha hr (star_of hs _)) fun σ H Q q kf => by
  obtain ⟨F, O, ρ, ds, ρ', I, e, q⟩ := q kf
  simp only [evc] at e
  split at e
  · rename_i r ρ1 e1
    split at e
    · rename_i ds ρ2 e2
      simp only [Option.some.injEq, Prod.mk.injEq] at e
      obtain ⟨rfl, rfl⟩ := e
      refine one_ok I e1 fun xv H1 O1 k1 s1 I1 hx => ?_
      exact fun _ => ⟨F, O1, ρ1, ds, _, I1, e2, fun vs H2 O2 k2 s2 I2 h2 k' => q (xv :: vs) H2 O2 k2 (s1.trans s2) I2 (.cons (hx.step I1 s2 (k2.off I2.mf)) h2)⟩
    · cases e
  · cases e
theorem aa_nil : PA X [] (pAa X.K (eva Γ G .nil)) := PA.imp pa_nil fun σ H Q q kf => by
  obtain ⟨F, O, ρ, ds, ρ', I, e, q⟩ := q kf
  simp only [eva, Option.some.injEq, Prod.mk.injEq] at e
  obtain ⟨rfl, rfl⟩ := e
  exact fun _ => q [] H O kf .refl I .nil
theorem aa_cons {es : As} (hs : notStar pa = true) (ha : PE X pa (pE X.K (ev Γ G a))) (hr : PA X pys (pAa X.K (eva Γ G es))) : PA X (pa :: pys) (pAa X.K (eva Γ G (.cons a es))) := PA.imp (pa_cons ha hr (star_of hs _)) fun σ H Q q kf => by
  obtain ⟨F, O, ρ, ds, ρ', I, e, q⟩ := q kf
  simp only [eva] at e
  split at e
  · rename_i r ρ1 e1
    split at e
    · rename_i d ed
      split at e
      · rename_i ds ρ2 e2
        simp only [Option.some.injEq, Prod.mk.injEq] at e
        obtain ⟨rfl, rfl⟩ := e
        refine one_ok I e1 fun xv H1 O1 k1 s1 I1 hx => ?_
        exact fun _ => ⟨F, O1, ρ1, ds, _, I1, e2, fun vs H2 O2 k2 s2 I2 h2 k' => q (xv :: vs) H2 O2 k2 (s1.trans s2) I2 (.v (Rp.step I1 s2 (k2.off I2.mf) (hx.toV ed)) h2)⟩
      · cases e
    · cases e
  · cases e
theorem aa_ref {es : As} {i : Nat} {x : Str} (ok : XOk X N sc scs Γ G) (h : nmC N sc i x = true) (hr : PA X pys (pAa X.K (eva Γ G es))) : PA X (.Name x pos :: pys) (pAa X.K (eva Γ G (.ref i es))) := by
  obtain ⟨h1, h2, h3, h4⟩ := names_of ok h
  refine PA.imp (pa_cons (pe_var h1 h2 h3 h4) hr (star_of rfl _)) fun σ H Q q kf => ?_
  obtain ⟨F, O, ρ, ds, ρ', I, e, q⟩ := q kf
  simp only [eva] at e
  split at e
  · rename_i b hb
    split at e
    · rename_i ds ρ2 e2
      simp only [Option.some.injEq, Prod.mk.injEq] at e
      obtain ⟨rfl, rfl⟩ := e
      obtain ⟨p, e1, _⟩ := I.own i b hb
      exact ⟨_, e1, fun _ => ⟨F, O, ρ, ds, _, I, e2, fun vs H2 O2 k2 s2 I2 h2 k' => q (.ref p :: vs) H2 O2 k2 s2 I2 (.r e1 h2)⟩⟩
    · cases e
  · cases e
theorem aa_lend {es : As} {i : Nat} {x : Str} (ok : XOk X N sc scs Γ G) (h : nmC N sc i x = true) (hr : PA X pys (pAa X.K (eva Γ G es))) : PA X (.Name x pos :: pys) (pAa X.K (eva Γ G (.lend i es))) := by
  obtain ⟨h1, h2, h3, h4⟩ := names_of ok h
  refine PA.imp (pa_cons (pe_var h1 h2 h3 h4) hr (star_of rfl _)) fun σ H Q q kf => ?_
  obtain ⟨F, O, ρ, ds, ρ', I, e, q⟩ := q kf
  simp only [eva] at e
  split at e
  · rename_i b hb
    split at e
    · rename_i ds ρ2 e2
      simp only [Option.some.injEq, Prod.mk.injEq] at e
      obtain ⟨rfl, rfl⟩ := e
      obtain ⟨p, e1, _⟩ := I.own i b hb
      exact ⟨_, e1, fun _ => ⟨F, O, ρ, ds, _, I, e2, fun vs H2 O2 k2 s2 I2 h2 k' => q (.ref p :: vs) H2 O2 k2 s2 I2 (.l e1 h2)⟩⟩
    · cases e
  · cases e
def lenEs : Es → Nat
  | .nil => 0
  | .cons _ r => lenEs r + 1
theorem evs_len : ∀ {es : Es} {ρ ρ' : PEnv} {ds : List D}, evs Γ G es ρ = some (ds, ρ') → ds.length = lenEs es
  | .nil, _, _, _, e => by
    simp only [evs, Option.some.injEq, Prod.mk.injEq] at e
    rw [← e.1]; rfl
  | .cons a r, _, _, _, e => by
    simp only [evs] at e
    split at e
    · split at e
      · split at e
        · rename_i e2
          simp only [Option.some.injEq, Prod.mk.injEq] at e
          rw [← e.1, List.length_cons, evs_len e2]; rfl
        · cases e
      · cases e
    · cases e
theorem chk_len : ∀ {es : Es} {sc : Scope} {pys : List Expr}, chkEs N es sc pys = true → pys.length = lenEs es
  | .nil, _, pys, h => by
    cases pys with
    | nil => rfl
    | cons _ _ => simp [chkEs] at h
  | .cons a r, sc, pys, h => by
    cases pys with
    | nil => simp [chkEs] at h
    | cons p ps =>
      simp only [chkEs, Bool.and_eq_true] at h
      rw [List.length_cons, chk_len h.2]; rfl
theorem e_tup {es : Es} {k : Nat} (h : PA X pys (pAs X.K (evs Γ G es))) (hl : pys.length = lenEs es) (h0 : pys.length ≤ 1000) : PE X (.Tuple pys k pos) (pE X.K (ev Γ G (.tup es))) := by
  refine PE.of (pe_tup h) fun σ H Q F O ρ r ρ' kf I e q => ?_
  simp only [ev] at e
  split at e
  · rename_i ds ρ1 e1
    simp only [Option.some.injEq, Prod.mk.injEq] at e
    obtain ⟨rfl, rfl⟩ := e
    refine fun _ => ⟨F, O, ρ, ds, _, I, e1, fun vs H1 O1 k1 s1 I1 h1 => ⟨?_, fun p n => ?_⟩⟩
    · rw [h1.length, evs_len e1, ← hl]
      exact Nat.le_trans h0 (by decide)
    · exact fin_ok k1 s1 I1 q _ _ ⟨.inr ⟨p, _, n, rfl, fun z => z⟩, Rp.new h1 n I1.mf (k1.off I1.mf)⟩
  · cases e
theorem e_lst {es : Es} (h : PA X pys (pAs X.K (evs Γ G es))) (hl : pys.length = lenEs es) (h0 : pys.length ≤ 1000) : PE X (.List pys pos) (pE X.K (ev Γ G (.lst es))) := by
  refine PE.of (pe_lst h) fun σ H Q F O ρ r ρ' kf I e q => ?_
  simp only [ev] at e
  split at e
  · rename_i ds ρ1 e1
    simp only [Option.some.injEq, Prod.mk.injEq] at e
    obtain ⟨rfl, rfl⟩ := e
    refine fun _ => ⟨F, O, ρ, ds, _, I, e1, fun vs H1 O1 k1 s1 I1 h1 => ⟨?_, fun p n => ?_⟩⟩
    · rw [h1.length, evs_len e1, ← hl]
      exact Nat.le_trans h0 (by decide)
    · exact fin_ok k1 s1 I1 q _ _ ⟨p, _, rfl, n, rfl, _, rfl, h1⟩
  · cases e

/-! ### built-ins -/
theorem HRs.toC {K : PySem.W.Frag} {F O : Addr → Prop} {σ : Sg} {H : Hp} {ρ : PEnv} (I : EI K F O σ H ρ) : ∀ {vs : List V} {rs : List R} {ds : List D}, HRs K F O σ H vs rs → rs.mapM (DP.toC ρ) = some ds → CRs K (Or2 F O) H vs ds
  | _, _, ds, .nil, e => by
    rw [List.mapM_nil] at e
    cases e
    exact .nil
  | _, _, ds, .cons (r := r) (rs := rs) h t, e => by
    rw [List.mapM_cons] at e
    cases e1 : DP.toC ρ r with
    | none => rw [e1] at e; cases e
    | some d =>
      cases e2 : rs.mapM (DP.toC ρ) with
      | none => rw [e1, e2] at e; cases e
      | some dr =>
        rw [e1, e2] at e
        cases e
        exact .cons (h.toC I e1) (HRs.toC I t e2)
theorem bi_red {b : BI} {es : Es} {σ : Sg} {H : Hp} {Q : VK} {F O : Addr → Prop} {ρ ρ' : PEnv} {r : R} (I : EI X.K F O σ H ρ) (e : ev Γ G (.bi b es) ρ = some (r, ρ'))
    (q : ∀ v H' O', KOff X.K H' → Step O O' H H' → EI X.K F O' σ H' ρ' → RR X.K F O' σ H' ρ' v r → Q v H') : pAc X.K (evc Γ G es) σ H fun vs H1 => rBi X.K b vs H1 fun v H' => KOff X.K H' → Q v H' := by
  simp only [ev] at e
  split at e
  · rename_i rs ρ1 e1
    split at e
    · rename_i ds e2
      split at e
      · rename_i r' er
        simp only [Option.some.injEq, Prod.mk.injEq] at e
        obtain ⟨rfl, rfl⟩ := e
        exact fun _ => ⟨F, O, ρ, rs, _, I, e1, fun vs H1 O1 k1 s1 I1 h1 => ⟨_, ds, _, I1.mf, k1, h1.toC I1 e2, er, fin_ok k1 s1 I1 q⟩⟩
      · cases e
    · cases e
  · cases e
theorem e_bi {b : BI} {es : Es} {x : Str} {p : Pos} (ok : XOk X N sc scs Γ G) (hb : biPlain b = true) (hx : x = biName b) (hg : gnC sc x = true) (hs : notStar pa = true) (h : PA X (pa :: pys) (pAc X.K (evc Γ G es))) (hpl : ∀ e ∈ pys, notStar e = true) :
    PE X (.Call (.Name x p) (pa :: pys) [] pos) (pE X.K (ev Γ G (.bi b es))) := by
  obtain ⟨g1, g2⟩ := gn_of ok hg
  have hpl' : (backTo pos (starEach pys X.env)).any (·.1) = false := by
    have : ∀ pys : List Expr, (∀ e ∈ pys, notStar e = true) → (backTo pos (starEach pys X.env)).any (·.1) = false := by
      intro pys
      induction pys with
      | nil => intro _; rfl
      | cons e r ih =>
        intro hh
        rw [star_of (hh e List.mem_cons_self)]
        show (false || _) = false
        rw [Bool.false_or]
        exact ih fun z hz => hh z (List.mem_cons_of_mem _ hz)
    exact this pys hpl
  have hc := bi_ok ok.calm ok.room b hb
  subst hx
  have hm : biName b ∈ bltNames := by cases b <;> first | decide +kernel | (cases hb)
  have m := ok.blt _ hm
  have ne : biName b ≠ "__name__" := by cases b <;> first | decide +kernel | (cases hb)
  cases b with
  | int => exact PE.of (pe_callTy (T := "int") hc g1 m (by decide +kernel) h ne g2 (star_of hs _) hpl') fun σ H Q F O ρ r ρ' kf I e q => bi_red I e q
  | tuple => exact PE.of (pe_callTy (T := "tuple") hc g1 m (by decide +kernel) h ne g2 (star_of hs _) hpl') fun σ H Q F O ρ r ρ' kf I e q => bi_red I e q
  | list => exact PE.of (pe_callTy (T := "list") hc g1 m (by decide +kernel) h ne g2 (star_of hs _) hpl') fun σ H Q F O ρ r ρ' kf I e q => bi_red I e q
  | len => exact PE.of (pe_callB (id := "len") hc g1 m (by decide +kernel) h ne g2 (star_of hs _) hpl') fun σ H Q F O ρ r ρ' kf I e q => bi_red I e q
  | sum => exact PE.of (pe_callB (id := "sum") hc g1 m (by decide +kernel) h ne g2 (star_of hs _) hpl') fun σ H Q F O ρ r ρ' kf I e q => bi_red I e q
  | abs => exact PE.of (pe_callB (id := "abs") hc g1 m (by decide +kernel) h ne g2 (star_of hs _) hpl') fun σ H Q F O ρ r ρ' kf I e q => bi_red I e q
  | sorted => exact PE.of (pe_callB (id := "sorted") hc g1 m (by decide +kernel) h ne g2 (star_of hs _) hpl') fun σ H Q F O ρ r ρ' kf I e q => bi_red I e q
  | sortedD => exact PE.of (pe_callB (id := "sorted") hc g1 m (by decide +kernel) h ne g2 (star_of hs _) hpl') fun σ H Q F O ρ r ρ' kf I e q => bi_red I e q
  | all => exact PE.of (pe_callB (id := "all") hc g1 m (by decide +kernel) h ne g2 (star_of hs _) hpl') fun σ H Q F O ρ r ρ' kf I e q => bi_red I e q
  | any => exact PE.of (pe_callB (id := "any") hc g1 m (by decide +kernel) h ne g2 (star_of hs _) hpl') fun σ H Q F O ρ r ρ' kf I e q => bi_red I e q
  | max => exact PE.of (pe_callB (id := "max") hc g1 m (by decide +kernel) h ne g2 (star_of hs _) hpl') fun σ H Q F O ρ r ρ' kf I e q => bi_red I e q
  | min => exact PE.of (pe_callB (id := "min") hc g1 m (by decide +kernel) h ne g2 (star_of hs _) hpl') fun σ H Q F O ρ r ρ' kf I e q => bi_red I e q
  | max2 => exact PE.of (pe_callB (id := "max") hc g1 m (by decide +kernel) h ne g2 (star_of hs _) hpl') fun σ H Q F O ρ r ρ' kf I e q => bi_red I e q
  | min2 => exact PE.of (pe_callB (id := "min") hc g1 m (by decide +kernel) h ne g2 (star_of hs _) hpl') fun σ H Q F O ρ r ρ' kf I e q => bi_red I e q
  | _ => cases hb
/-- isinstance(x, T) -/
theorem e_isI {t : Ty} {p py' : Pos} {y x : Str} (ok : XOk X N sc scs Γ G) (hx : x = "isinstance") (hg : gnC sc x = true) (hy : y = PySem.Str.ofString (tyName t)) (hgy : gnC sc y = true) (hs : notStar pa = true) (ha : PE X pa (pE X.K (ev Γ G a))) :
    PE X (.Call (.Name x p) [pa, .Name y py'] [] pos) (pE X.K (ev Γ G (.bi (.isI t) (.cons a .nil)))) := by
  obtain ⟨g1, g2⟩ := gn_of ok hg
  obtain ⟨g3, g4⟩ := gn_of ok hgy
  subst hx hy
  have m := ok.blt "isinstance" (by decide +kernel)
  have m2 : X.mg (PySem.Str.ofString (tyName t)) = none := ok.blt _ (by cases t <;> decide +kernel)
  have hb : bootBuiltins (PySem.Str.ofString (tyName t)) = some (.type (tyName t)) := by cases t <;> decide +kernel
  have hT : PE X (.Name (PySem.Str.ofString (tyName t)) py') (tC (.ty (tyName t))) := pe_bltn g3 m2 hb rfl (by cases t <;> decide +kernel) g4
  refine PE.of (pe_callB (id := "isinstance") call_isi g1 m (by decide +kernel) (pa_cons ha (pa_cons hT pa_nil (star_of rfl _)) (star_of hs _)) (by decide +kernel) g2 (star_of hs _) (by rfl)) fun σ H Q F O ρ r ρ' kf I e q => ?_
  simp only [ev, evc] at e
  split at e
  · rename_i rs ρ1 e1
    split at e1
    · rename_i ra ρ0 e0
      simp only [Option.some.injEq, Prod.mk.injEq] at e1
      obtain ⟨rfl, rfl⟩ := e1
      rw [List.mapM_cons, List.mapM_nil] at e
      cases ed : toC ρ0 ra with
      | none => rw [ed] at e; cases e
      | some d =>
        rw [ed] at e
        have nd : ∀ k, d ≠ .dict k := fun k z => by subst z; simp [bi] at e
        have hbi : bi (.isI t) [d] = some (.v (.bool (isI t d))) := by cases d <;> first | rfl | exact absurd rfl (nd _)
        simp only [hbi, Option.some.injEq, Prod.mk.injEq, Option.pure_def, Option.bind_eq_bind, Option.bind_some] at e
        obtain ⟨rfl, rfl⟩ := e
        refine one_ok I e0 fun xv H1 O1 k1 s1 I1 hx => ?_
        have hc := hx.toC I1 ed
        exact ⟨xv, .ty (tyName t), .type (dTy d), .type (tyName t), isI t d, rfl, .ty _, hc.tyx nd, kit_ty (isI_ok nd), fun kk => fin_ok k1 s1 I1 q _ _ ⟨.inl rfl, .bl _⟩ kk⟩
    · cases e1
  · cases e
end
end DP
/-! The pure layer, part K: methods, calls of the text's defs. -/
namespace DP
open PySem PySem.Spec PyProof.Rows L2
def mtId : MT → String
  | .append => "list.append" | .reverse => "list.reverse" | .insert => "list.insert" | .pop => "list.pop" | .pop0 => "list.pop"
def rMeth (K : PySem.W.Frag) (m : MT) : V → List V → Hp → VK → Prop := fun x vs H Q => ∃ Z p vx xs ds d ys, x = .ref p ∧ H p = some (.lst vx) ∧ RpAll K Z H vx xs ∧ RpAll K Z H vs ds ∧ DP.meth m xs ds = some (d, ys) ∧
  ∀ v vy, RpAll K Z H vy ys → Rp K Z H v d → Q v (upd H p (.lst vy))
section
variable {X : Cx} {N : List Str} {sc scs : Scope} {Γ : Sems} {G : Str → Option D} {py pa pb pc : Expr} {a b c : E} {pos : Pos} {pys : List Expr}
theorem meth_ok (m : MT) : MtR X (mtId m) (rMeth X.K m) := by
  intro pins s σ H x vs v us Q I rx rv h
  obtain ⟨Z, p, vx, xs, ds, d, ys, rfl, hp, hx, hv, e, q⟩ := h
  cases m with
  | append =>
    cases ds with
    | nil => simp [meth] at e
    | cons d0 dr =>
      cases dr with
      | cons _ _ => simp [meth] at e
      | nil =>
        cases hv with
        | cons h1 h2 =>
          cases h2
          simp only [meth] at e
          split at e
          · rename_i hl
            simp only [Option.some.injEq, Prod.mk.injEq] at e
            obtain ⟨rfl, rfl⟩ := e
            exact mt_append pins s σ H _ _ v us Q I rx rv ⟨p, vx, _, rfl, rfl, hp, by rw [hx.length]; exact hl, q _ _ (hx.append (.cons h1 .nil)) .non⟩
          · cases e
  | reverse =>
    cases ds with
    | cons _ _ => simp [meth] at e
    | nil =>
      cases hv
      simp only [meth, Option.some.injEq, Prod.mk.injEq] at e
      obtain ⟨rfl, rfl⟩ := e
      exact mt_reverse pins s σ H _ _ v us Q I rx rv ⟨p, vx, rfl, rfl, hp, q _ _ hx.reverse .non⟩
  | insert =>
    cases ds with
    | nil => simp [meth] at e
    | cons d0 dr =>
      cases dr with
      | nil => simp [meth] at e
      | cons d1 dr =>
        cases dr with
        | cons _ _ => simp [meth] at e
        | nil =>
          cases hv with
          | cons h1 h2 =>
            cases h2 with
            | cons h3 h4 =>
              cases h4
              cases d0 <;> simp only [meth, reduceCtorEq] at e
              cases h1
              split at e
              · rename_i hl
                simp only [Option.some.injEq, Prod.mk.injEq] at e
                obtain ⟨rfl, rfl⟩ := e
                simp only [Bool.and_eq_true, decide_eq_true_eq] at hl
                exact mt_insert pins s σ H _ _ v us Q I rx rv ⟨p, vx, _, _, rfl, rfl, hp, by rw [hx.length]; exact hl.1.1, hl.1.2, hl.2, q _ _ (((hx.take _).append (.cons h3 .nil)).append (hx.drop _)) .non⟩
              · cases e
  | pop =>
    cases ds with
    | cons _ _ => simp [meth] at e
    | nil =>
      cases hv
      simp only [meth] at e
      split at e
      · rename_i y hy
        simp only [Option.some.injEq, Prod.mk.injEq] at e
        obtain ⟨rfl, rfl⟩ := e
        obtain ⟨w, h1, h2⟩ := hx.get hy
        exact mt_pop pins s σ H _ _ v us Q I rx rv ⟨p, vx, w, rfl, rfl, hp, by rw [hx.length]; exact h1, q _ _ hx.dropLast h2⟩
      · cases e
  | pop0 =>
    cases ds with
    | nil => simp [meth] at e
    | cons d0 dr =>
      cases dr with
      | cons _ _ => simp [meth] at e
      | nil =>
        cases hv with
        | cons h1 h2 =>
          cases h2
          cases d0 <;> simp only [meth, reduceCtorEq] at e
          rename_i i
          cases h1
          split at e
          · rename_i hl
            simp only [Bool.and_eq_true, decide_eq_true_eq] at hl
            split at e
            · rename_i y hy
              simp only [Option.some.injEq, Prod.mk.injEq] at e
              obtain ⟨rfl, rfl⟩ := e
              obtain ⟨w, h1, h2⟩ := hx.get hy
              have hsz : xs.length ≤ 16777216 := hl.2
              have hix : PySem.seqIndex? i vx.length = some i.toNat := by
                rw [hx.length]
                have e0 : (if i < 0 then i + (xs.length : Int) else i) = i := if_neg (by omega)
                show (if (decide (0 ≤ (if i < 0 then i + (xs.length : Int) else i)) && decide ((if i < 0 then i + (xs.length : Int) else i) < (xs.length : Int))) = true then some (if i < 0 then i + (xs.length : Int) else i).toNat else none) = some i.toNat
                rw [e0, decide_eq_true hl.1.1, decide_eq_true hl.1.2]
                rfl
              exact mt_popAt pins s σ H _ _ v us Q I rx rv ⟨p, vx, i, i.toNat, w, rfl, rfl, hp, by omega, by omega, hix, h1, q _ _ (hx.eraseIdx _) h2⟩
            · cases e
          · cases e
theorem e_meth {m : MT} {i : Nat} {es : Es} {x y : Str} {p1 ap cp : Pos} (ok : XOk X N sc scs Γ G) (hx : nmC N sc i x = true) (hy : y = mtName m) (hline : ap.endLine = cp.line) (hf : pys.length = mtArity m) (hes : pys = [] → es = .nil) (hst : ∀ e ∈ pys, notStar e = true) (h : PA X pys (pAs X.K (evs Γ G es))) :
    PE X (.Call (.Attribute (.Name x p1) y ap) pys [] cp) (pE X.K (ev Γ G (.meth m i es))) := by
  obtain ⟨h1, h2, h3, h4⟩ := names_of ok hx
  have hv := pe_var (pos := p1) h1 h2 h3 h4
  have hb : ∀ name, attributeBase (.Name x p1) name X.env (eval (.Name x p1) X.env) = eval (.Name x p1) X.env := fun _ => rfl
  have hl : (ap.endLine == cp.line) = true := by rw [hline]; exact beq_self_eq_true _
  have red : ∀ (σ : Sg) (H : Hp) (Q : VK) F O ρ r ρ', KOff X.K H → EI X.K F O σ H ρ → ev Γ G (.meth m i es) ρ = some (r, ρ') → (∀ v H' O', KOff X.K H' → Step O O' H H' → EI X.K F O' σ H' ρ' → RR X.K F O' σ H' ρ' v r → Q v H') →
      ∃ v, σ[i]? = some (some v) ∧ tyV X.K "list" v H ∧ pAs X.K (evs Γ G es) σ H fun xs H2 => rMeth X.K m v xs H2 fun v H' => KOff X.K H' → Q v H' := fun σ H Q F O ρ r ρ' kf I e q => by
    simp only [ev] at e
    split at e
    · rename_i xs0 hb0
      obtain ⟨p, e0, _, _, e9, vs0, rfl, _⟩ := I.own i _ hb0
      refine ⟨.ref p, e0, .inl ⟨rfl, _, .of e9⟩, ?_⟩
      split at e
      · rename_i ds ρ1 e1
        split at e
        · rename_i xs hb1
          split at e
          · rename_i d ys em
            simp only [Option.some.injEq, Prod.mk.injEq] at e
            obtain ⟨rfl, rfl⟩ := e
            refine fun _ => ⟨F, O, ρ, ds, _, I, e1, fun vs H1 O1 k1 s1 I1 hvs => ?_⟩
            obtain ⟨p', e0', z', _, e9', vx, rfl, hvx⟩ := I1.own i _ hb1
            rw [e0] at e0'
            cases e0'
            refine ⟨_, p, vx, xs, ds, d, ys, rfl, e9', hvx, hvs, em, fun v vy hy hd kk => ?_⟩
            obtain ⟨I2, s2⟩ := I1.chg k1 hb1 e0 (o := .lst vy) (b' := .l ys) ⟨vy, rfl, hy⟩
            exact q v _ O1 kk (s1.trans s2) I2 (Rp.step I1 s2 (kk.off I2.mf) hd)
          · cases e
        · cases e
      · cases e
    · cases e
  cases pys with
  | nil =>
    have hn := hes rfl
    subst hn
    have red0 : ∀ (σ : Sg) (H : Hp) (Q : VK) F O ρ r ρ', KOff X.K H → EI X.K F O σ H ρ → ev Γ G (.meth m i .nil) ρ = some (r, ρ') → (∀ v H' O', KOff X.K H' → Step O O' H H' → EI X.K F O' σ H' ρ' → RR X.K F O' σ H' ρ' v r → Q v H') →
        ∃ v, σ[i]? = some (some v) ∧ tyV X.K "list" v H ∧ rMeth X.K m v [] H fun v H' => KOff X.K H' → Q v H' := fun σ H Q F O ρ r ρ' kf I e q => by
      simp only [ev, evs] at e
      split at e
      · rename_i xs0 hb0
        obtain ⟨p, e0, z, _, e9, vs0, rfl, h9⟩ := I.own i _ hb0
        refine ⟨.ref p, e0, .inl ⟨rfl, _, .of e9⟩, ?_⟩
        simp only [hb0] at e
        split at e
        · rename_i d ys em
          simp only [Option.some.injEq, Prod.mk.injEq] at e
          obtain ⟨rfl, rfl⟩ := e
          refine ⟨_, p, vs0, _, [], d, ys, rfl, e9, h9, .nil, em, fun v vy hy hd kk => ?_⟩
          obtain ⟨I2, s2⟩ := I.chg kf hb0 e0 (o := .lst vy) (b' := .l ys) ⟨vy, rfl, hy⟩
          exact q v _ O kk s2 I2 (Rp.step I s2 (kk.off I2.mf) hd)
        · cases e
      · cases e
    cases m with
    | append | insert | pop0 => simp [mtArity] at hf
    | reverse =>
      subst hy
      exact PE.of (pe_bm0 PySem.F.plainAttrs_list PySem.F.slot_list_reverse PySem.F.type_list_reverse (meth_ok .reverse) hv (hb _) hl) fun σ H Q F O ρ r ρ' kf I e q => red0 σ H Q F O ρ r ρ' kf I e q
    | pop =>
      subst hy
      exact PE.of (pe_bm0 PySem.F.plainAttrs_list PySem.F.slot_list_pop PySem.F.type_list_pop (meth_ok .pop) hv (hb _) hl) fun σ H Q F O ρ r ρ' kf I e q => red0 σ H Q F O ρ r ρ' kf I e q
  | cons pa pr =>
    have hs := hst pa List.mem_cons_self
    have allStar : ∀ pys : List Expr, (∀ e ∈ pys, notStar e = true) → (backTo cp (starEach pys X.env)).any (·.1) = false ∧ (backTo cp (starEach pys X.env)).all (fun x => !x.1) = true := by
      intro pys
      induction pys with
      | nil => intro _; exact ⟨rfl, rfl⟩
      | cons e r ih =>
        intro hh
        rw [star_of (hh e List.mem_cons_self)]
        have := ih fun z hz => hh z (List.mem_cons_of_mem _ hz)
        exact ⟨by show (false || _) = false; rw [Bool.false_or]; exact this.1, by show (true && _) = true; rw [Bool.true_and]; exact this.2⟩
    have hpl := (allStar pr fun z hz => hst z (List.mem_cons_of_mem _ hz)).1
    have hfew : ((backTo cp (starEach (pa :: pr) X.env)).all (fun x => !x.1) && (backToKw cp (keywordEach [] X.env)).all (fun x => x.1.isSome)
      && decide ((pa :: pr).length + ([] : List Keyword).length + (if ([] : List Keyword).isEmpty then 0 else 1) < 30)) = true := by
      rw [(allStar _ hst).2]
      show (true && true && decide _) = true
      simp only [Bool.and_self, Bool.true_and, decide_eq_true_eq]
      have : mtArity m ≤ 2 := by cases m <;> decide
      simp at hf ⊢
      omega
    cases m with
    | append =>
      subst hy
      exact PE.of (pe_bm PySem.F.plainAttrs_list PySem.F.slot_list_append PySem.F.type_list_append (meth_ok .append) hv h (hb _) hfew hl (star_of hs _) hpl) fun σ H Q F O ρ r ρ' kf I e q => red σ H Q F O ρ r ρ' kf I e q
    | insert =>
      subst hy
      exact PE.of (pe_bm PySem.F.plainAttrs_list PySem.F.slot_list_insert PySem.F.type_list_insert (meth_ok .insert) hv h (hb _) hfew hl (star_of hs _) hpl) fun σ H Q F O ρ r ρ' kf I e q => red σ H Q F O ρ r ρ' kf I e q
    | pop0 =>
      subst hy
      exact PE.of (pe_bm PySem.F.plainAttrs_list PySem.F.slot_list_pop PySem.F.type_list_pop (meth_ok .pop0) hv h (hb _) hfew hl (star_of hs _) hpl) fun σ H Q F O ρ r ρ' kf I e q => red σ H Q F O ρ r ρ' kf I e q
    | pop =>
      subst hy
      exact PE.of (pe_bm PySem.F.plainAttrs_list PySem.F.slot_list_pop PySem.F.type_list_pop (meth_ok .pop) hv h (hb _) hfew hl (star_of hs _) hpl) fun σ H Q F O ρ r ρ' kf I e q => red σ H Q F O ρ r ρ' kf I e q
    | reverse =>
      subst hy
      exact PE.of (pe_bm PySem.F.plainAttrs_list PySem.F.slot_list_reverse PySem.F.type_list_reverse (meth_ok .reverse) hv h (hb _) hfew hl (star_of hs _) hpl) fun σ H Q F O ρ r ρ' kf I e q => red σ H Q F O ρ r ρ' kf I e q

/-! ### calls of the text's defs -/
theorem args_ok {K : PySem.W.Frag} {F O Z' : Addr → Prop} {σ : Sg} {H : Hp} {ρ : PEnv} {ra : Option Addr} (I : EI K F O σ H ρ) (kf : KOff K H) (hz : ∀ a, Z' a → Or2 F O a) :
    ∀ {vs : List V} {hs : List AH} {as : List AV}, AHs K F O σ H vs hs → argsOf ρ hs = some as → (∀ i ∈ refs hs, ∀ p, σ[i]? = some (some (V.ref p)) → ra = some p) → ARs K Z' H ra vs as
  | _, _, as, .nil, e, _ => by
    simp only [argsOf, Option.some.injEq] at e
    subst e
    exact .nil
  | _, _, as, .v h t, e, hr => by
    simp only [argsOf, Option.map_eq_some_iff] at e
    obtain ⟨as', e1, rfl⟩ := e
    exact .v (Rp.less hz h I.mf (kf.off I.mf)) (args_ok I kf hz t e1 hr)
  | _, _, as, .r (i := i) h t, e, hr => by
    simp only [argsOf] at e
    split at e
    · rename_i b hb
      simp only [Option.map_eq_some_iff] at e
      obtain ⟨as', e1, rfl⟩ := e
      obtain ⟨p, e2, z, u, h1, h2⟩ := I.own i b hb
      rw [h] at e2
      cases e2
      exact .r (hr i (by simp [refs]) p h) ⟨u, h1, ObN.less hz h2 I.mf (kf.off I.mf)⟩ (args_ok I kf hz t e1 fun j hj => hr j (by simp [refs, hj]))
    · cases e
  | _, _, as, .l _ _, e, _ => by
    simp only [argsOf, reduceCtorEq] at e
/-- the frame behind a call: what the callee was lent is given up -/
theorem EI.called {K : PySem.W.Frag} {F F' O1 O' : Addr → Prop} {σ : Sg} {H1 H' : Hp} {ρ : PEnv} {ra : Option Addr} (I : EI K F O1 σ H1 ρ) (k1 : KOff K H1) (k' : KOff K H')
    (hF : ∀ a, Or2 F O1 a → F' a ∨ ra = some a) (hF' : ∀ a, F' a → Or2 F O1 a) (hra : ∀ a, ra = some a → O1 a ∧ O' a) (s : Step (fun a => ra = some a) O' H1 H') (m : Muts (Or2 F' O') H') (dis : ∀ a, F' a → ¬ O' a)
    (nr : ∀ (j : Nat) b p, ρ[j]? = some (.o b) → σ[j]? = some (some (V.ref p)) → ra ≠ some p) : EI K F (fun a => O1 a ∨ O' a) σ H' ρ ∧ Step O1 (fun a => O1 a ∨ O' a) H1 H' ∧ (∀ a, Or2 F' O' a ↔ Or2 F (fun a => O1 a ∨ O' a) a) := by
  have eqv : ∀ a, Or2 F' O' a ↔ Or2 F (fun a => O1 a ∨ O' a) a := fun a => by
    constructor
    · rintro (z | z)
      · rcases hF' a z with q | q
        · exact .inl q
        · exact .inr (.inl q)
      · exact .inr (.inr z)
    · rintro (z | z | z)
      · rcases hF a (.inl z) with q | q
        · exact .inl q
        · exact .inr (hra a q).2
      · rcases hF a (.inr z) with q | q
        · exact .inl q
        · exact .inr (hra a q).2
      · exact .inr z
  have m2 : Muts (Or2 F fun a => O1 a ∨ O' a) H' := fun a z => m a ((eqv a).mpr z)
  have off := k'.off m2
  have kp : Keep (Or2 F O1) H1 H' := s.keep.mono fun a z => .inr (hra a z).1
  have gr : Grow (Or2 F O1) (Or2 F fun a => O1 a ∨ O' a) H1 := fun a z => by
    rcases z with z | z | z
    · exact .inl (.inl z)
    · exact .inl (.inr z)
    · rcases s.grow a z with q | q
      · exact .inl (.inr (hra a q).1)
      · exact .inr q
  refine ⟨⟨m2, fun a z z' => ?_, I.len, fun i d e => ?_, fun i b e => ?_, I.inj⟩, ⟨s.keep.mono fun a z => (hra a z).1, fun a z => ?_⟩, eqv⟩
  · rcases z' with z' | z'
    · exact I.dis a z z'
    · rcases hF a (.inl z) with q | q
      · exact dis a q z'
      · exact I.dis a z (hra a q).1
  · obtain ⟨v, e1, h⟩ := I.val i d e
    exact ⟨v, e1, Rp.keep I.mf kp gr off h⟩
  · obtain ⟨a, e1, z, u, h1, h2⟩ := I.own i b e
    exact ⟨a, e1, .inl z, u, s.keep.k a u h1 (nr i b a e e1), ObN.keep I.mf kp gr off h2⟩
  · rcases z with z | z
    · exact .inl z
    · rcases s.grow a z with q | q
      · exact .inl (hra a q).1
      · exact .inr q
/-- .. and taken back -/
theorem EI.puto {K : PySem.W.Frag} {F O : Addr → Prop} {σ : Sg} {H : Hp} {ρ : PEnv} {i : Nat} {p : Addr} {b : OB} (I : EI K F O σ H (ρ.set i .un)) (hs : σ[i]? = some (some (V.ref p))) (z : O p) (ob : Ob K (Or2 F O) H p b)
    (nr : ∀ (j : Nat) c, (ρ.set i .un)[j]? = some (.o c) → σ[j]? ≠ some (some (V.ref p))) : EI K F O σ H (ρ.set i (.o b)) := by
  have e : ρ.set i (.o b) = (ρ.set i .un).set i (.o b) := by rw [List.set_set]
  have I2 := EI.seto (i := i) I (v := .ref p) (b := b) ⟨p, rfl, z, ob, fun j c h => nr j c h⟩
  rw [← e] at I2
  have e2 : σ.set i (some (V.ref p)) = σ := by
    apply List.ext_getElem?
    intro j
    by_cases hj : i = j
    · subst hj
      rw [List.getElem?_set_self (lt_of_get hs), hs]
    · rw [List.getElem?_set_ne hj]
  rw [e2] at I2
  exact I2
theorem refs_av {ρ : PEnv} : ∀ {hs : List AH} {as : List AV}, argsOf ρ hs = some as → ∀ i ∈ refs hs, ∃ (j : Nat) (b : OB), as[j]? = some (.r b)
  | [], _, _, _, h => nomatch h
  | .v d :: r, as, e, i, h => by
    simp only [argsOf, Option.map_eq_some_iff] at e
    obtain ⟨as', e1, rfl⟩ := e
    obtain ⟨j, b, h1⟩ := refs_av e1 i h
    exact ⟨j + 1, b, by simpa using h1⟩
  | .r k :: r, as, e, i, h => by
    simp only [argsOf] at e
    split at e
    · rename_i b hb
      simp only [Option.map_eq_some_iff] at e
      obtain ⟨as', e1, rfl⟩ := e
      exact ⟨0, b, rfl⟩
    · cases e
  | .l k :: r, as, e, i, h => by
    simp only [argsOf, reduceCtorEq] at e
theorem call_core {f : Str} {n : Nat} (hn : ∀ as r, Γ f as = some r → as.length = n) {σ : Sg} {H1 : Hp} {Q : VK} {E' : XK} {F O1 : Addr → Prop} {ρ1 ρ' : PEnv} {r : R} {vs : List V} {hs : List AH} (k1 : KOff X.K H1) (I1 : EI X.K F O1 σ H1 ρ1) (h1 : AHs X.K F O1 σ H1 vs hs) (e : callE Γ f hs ρ1 = some (r, ρ'))
    (q : ∀ v H' O', KOff X.K H' → Step O1 O' H1 H' → EI X.K F O' σ H' ρ' → RR X.K F O' σ H' ρ' v r → Q v H') : spF X.K n (Γ f) vs H1 (fun v H' => KOff X.K H' → Q v H') E' := by
  unfold callE at e
  split at e
  · cases e
  · rename_i avs ea
    have key : ∀ (ra : Option Addr) (r' : R) (ub : Option OB), Γ f avs = some (r', ub) → (∀ a, ra = some a → ∃ (i : Nat) (b : OB), avs[i]? = some (.r b)) → (∀ a, ra = some a → O1 a) → (∀ i ∈ refs hs, ∀ p, σ[i]? = some (some (V.ref p)) → ra = some p) →
        (∀ v H' O', KOff X.K H' → Step (fun a => ra = some a) O' H1 H' → Muts (Or2 (fun a => Or2 F O1 a ∧ ra ≠ some a) O') H' → (∀ a, (Or2 F O1 a ∧ ra ≠ some a) → ¬ O' a) → (∀ b, ub = some b → ∃ a, ra = some a ∧ O' a ∧ Ob X.K (Or2 (fun a => Or2 F O1 a ∧ ra ≠ some a) O') H' a b) → RF X.K (fun a => Or2 F O1 a ∧ ra ≠ some a) O' H' ra v r' → KOff X.K H' → Q v H') →
        spF X.K n (Γ f) vs H1 (fun v H' => KOff X.K H' → Q v H') E' := fun ra r' ub eg hx hra hrefs fin => by
      have ar : ARs X.K (Or2 (fun a => Or2 F O1 a ∧ ra ≠ some a) fun a => ra = some a) H1 ra vs avs := args_ok I1 k1 (fun a z => by
        rcases z with z | z
        · exact z.1
        · exact .inr (hra a z)) h1 ea hrefs
      exact ⟨by rw [ar.length]; exact hn _ _ eg, fun _ => ⟨_, ra, avs, r', ub, fun a z => I1.mf a (by
        rcases z with z | z
        · exact z.1
        · exact .inr (hra a z)), fun a z => z.2, ar, hx, eg, fun v H' O' k' s m d u rf => fin v H' O' k' s m d u rf⟩⟩
    split at e
    · rename_i r' eg er
      simp only [Option.some.injEq, Prod.mk.injEq] at e
      obtain ⟨rfl, rfl⟩ := e
      refine key none _ none eg (fun a z => nomatch z) (fun a z => nomatch z) (fun i hi => by rw [er] at hi; cases hi) fun v H' O' k' s m d u rf kk => ?_
      obtain ⟨I2, s2, eqv⟩ := I1.called k1 k' (F' := fun a => Or2 F O1 a ∧ none ≠ some a) (ra := none) (O' := O') (fun a z => .inl ⟨z, fun q => nomatch q⟩) (fun a z => z.1) (fun a z => nomatch z) s m d (fun _ _ _ _ _ q => nomatch q)
      refine q v H' _ k' s2 I2 ?_
      cases r' with
      | v d => exact Rp.less (fun a z => (eqv a).mpr z) rf m (k'.off m)
      | pk _ => exact rf.elim
      | fr b =>
        obtain ⟨p, rfl, z, ⟨u0, h2, h3⟩, _⟩ := rf
        refine ⟨p, rfl, .inr z, ⟨u0, h2, ObN.less (fun a z => (eqv a).mpr z) h3 m (k'.off m)⟩, fun j c e2 e3 => ?_⟩
        obtain ⟨p', e4, z', _⟩ := I1.own j c e2
        rw [e3] at e4
        cases e4
        exact d p ⟨.inr z', fun q => nomatch q⟩ z
    · rename_i r' b i eg er
      simp only [Option.some.injEq, Prod.mk.injEq] at e
      obtain ⟨rfl, rfl⟩ := e
      have hown : ∃ b0, ρ1[i]? = some (.o b0) := by
        have : ∀ (hs : List AH) (avs : List AV), argsOf ρ1 hs = some avs → ∀ i ∈ refs hs, ∃ b0, ρ1[i]? = some (.o b0) := by
          intro hs
          induction hs with
          | nil => intro avs _ i hi; cases hi
          | cons x xs ih =>
            intro avs ea i hi
            cases x with
            | v d =>
              simp only [argsOf, Option.map_eq_some_iff] at ea
              obtain ⟨_, e2, _⟩ := ea
              exact ih _ e2 i hi
            | r j =>
              simp only [argsOf] at ea
              split at ea
              · rename_i b0 hb0
                simp only [Option.map_eq_some_iff] at ea
                obtain ⟨_, e2, _⟩ := ea
                simp only [refs, List.mem_cons] at hi
                rcases hi with rfl | hi
                · exact ⟨b0, hb0⟩
                · exact ih _ e2 i hi
              · cases ea
            | l j => simp only [argsOf, reduceCtorEq] at ea
        exact this hs avs ea i (by rw [er]; exact List.mem_cons_self)
      obtain ⟨b0, hb0⟩ := hown
      obtain ⟨p, e2, z0, _⟩ := I1.own i b0 hb0
      refine key (some p) _ (some b) eg (fun _ _ => refs_av ea i (by rw [er]; exact List.mem_cons_self)) (fun a z => by cases z; exact z0) (fun j hj p' e3 => by
        rw [er] at hj
        have : j = i := by simpa using hj
        subst this
        rw [e2] at e3
        cases e3
        rfl) fun v H' O' k' s m d u rf kk => ?_
      obtain ⟨p', ep, zp, ⟨u0, h2, h3⟩⟩ := u b rfl
      cases ep
      have nr : ∀ (j : Nat) c p', (ρ1.set i .un)[j]? = some (.o c) → σ[j]? = some (some (V.ref p')) → some p ≠ some p' := fun j c p' e4 e5 e6 => by
        cases e6
        rcases getSet e4 with ⟨_, e4⟩ | ⟨n, e4⟩
        · cases e4
        · exact n (I1.inj i j _ _ p hb0 e4 e2 e5)
      obtain ⟨I2, s2, eqv⟩ := (I1.drop (i := i)).called k1 k' (F' := fun a => Or2 F O1 a ∧ some p ≠ some a) (ra := some p) (O' := O') (fun a z => by
        by_cases q : some p = some a
        · exact .inr q
        · exact .inl ⟨z, q⟩) (fun a z => z.1) (fun a z => by cases z; exact ⟨z0, zp⟩) s m d nr
      have I3 := I2.puto (ρ := ρ1) (b := b) e2 (.inl z0) ⟨u0, h2, ObN.less (fun a z => (eqv a).mpr z) h3 m (k'.off m)⟩ (fun j c e4 e5 => nr j c p e4 e5 rfl)
      refine q v H' _ k' s2 I3 ?_
      cases r' with
      | v d => exact Rp.less (fun a z => (eqv a).mpr z) rf m (k'.off m)
      | pk _ => exact rf.elim
      | fr b' =>
        obtain ⟨p2, rfl, z, ⟨u2, h4, h5⟩, np⟩ := rf
        refine ⟨p2, rfl, .inr z, ⟨u2, h4, ObN.less (fun a z => (eqv a).mpr z) h5 m (k'.off m)⟩, fun j c e4 e5 => ?_⟩
        rcases getSet e4 with ⟨n, e4⟩ | ⟨n, e4⟩
        · subst n
          rw [e2] at e5
          cases e5
          exact np rfl
        · obtain ⟨p3, e6, z', _⟩ := I1.own j c e4
          rw [e5] at e6
          cases e6
          exact d p2 ⟨.inr z', np⟩ z
    · cases e
theorem call_red {f : Str} {as : As} {n : Nat} (hn : ∀ as r, Γ f as = some r → as.length = n) {σ : Sg} {H : Hp} {Q : VK} {E' : XK} {F O : Addr → Prop} {ρ ρ' : PEnv} {r : R} (I : EI X.K F O σ H ρ) (e : ev Γ G (.call f as) ρ = some (r, ρ'))
    (q : ∀ v H' O', KOff X.K H' → Step O O' H H' → EI X.K F O' σ H' ρ' → RR X.K F O' σ H' ρ' v r → Q v H') : tCall (spF X.K n (Γ f)) [] E' (pAa X.K (eva Γ G as)) σ H fun v H' => KOff X.K H' → Q v H' := by
  simp only [ev] at e
  split at e
  · rename_i hs ρ1 e1
    refine fun _ => ⟨F, O, ρ, hs, _, I, e1, fun vs H1 O1 k1 s1 I1 h1 => ?_⟩
    show spF X.K n (Γ f) (vs ++ []) H1 _ E'
    rw [List.append_nil]
    exact call_core hn k1 I1 h1 e fun v H' O' k' s' I' h => q v H' O' k' (s1.trans s') I' h
  · cases e
theorem e_call {f x : Str} {as : As} {p : Pos} (ok : XOk X N sc scs Γ G) (hx : f = x) (hg : gnC sc x = true) (hs : ∀ e ∈ pys, notStar e = true) (h : PA X pys (pAa X.K (eva Γ G as))) (h0 : pys = [] → as = .nil) :
    PE X (.Call (.Name x p) pys [] pos) (pE X.K (ev Γ G (.call f as))) := by
  subst hx
  obtain ⟨g1, g2⟩ := gn_of ok hg
  by_cases hf : ∃ as r, Γ f as = some r
  · obtain ⟨fa, fd, ps, k, n, FO, hr, hm, hk, hb, hn⟩ := ok.fns f hf
    cases pys with
    | nil =>
      have := h0 rfl
      subst this
      refine PE.of (pe_call0 FO hr g1 hm hk hb .nil pass0 g2) fun σ H Q F O ρ r ρ' kf I e q => ?_
      simp only [ev, eva] at e
      exact call_core (E' := E0) hn kf I .nil e q
    | cons pa pr =>
      have hpl : ∀ pys : List Expr, (∀ e ∈ pys, notStar e = true) → (backTo pos (starEach pys X.env)).any (·.1) = false := by
        intro pys
        induction pys with
        | nil => intro _; rfl
        | cons e r ih =>
          intro hh
          rw [star_of (hh e List.mem_cons_self)]
          show (false || _) = false
          rw [Bool.false_or]
          exact ih fun z hz => hh z (List.mem_cons_of_mem _ hz)
      exact PE.of (pe_call FO hr g1 hm hk hb .nil pass0 h g2 (star_of (hs pa List.mem_cons_self) _) (hpl pr fun z hz => hs z (List.mem_cons_of_mem _ hz))) fun σ H Q F O ρ r ρ' kf I e q => call_red hn I e q
  · refine PE.of (t := fun _ _ _ => False) ⟨fun _ _ _ _ _ _ h => h.elim⟩ fun σ H Q F O ρ r ρ' kf I e q => ?_
    simp only [ev] at e
    split at e
    · unfold callE at e
      split at e
      · cases e
      · split at e
        · rename_i eg _
          exact (hf ⟨_, _, eg⟩).elim
        · rename_i eg _
          exact (hf ⟨_, _, eg⟩).elim
        · cases e
    · cases e
/-- .. with things lent -/
def Lent (ρ : PEnv) (σ : Sg) (hs : List AH) (a : Addr) : Prop := ∃ (i : Nat) (b : OB), AH.l i ∈ hs ∧ ρ[i]? = some (.o b) ∧ σ[i]? = some (some (V.ref a))
theorem argsL_ok {K : PySem.W.Frag} {F O Z' : Addr → Prop} {σ : Sg} {H : Hp} {ρ : PEnv} (I : EI K F O σ H ρ) (kf : KOff K H) (hz : ∀ a, Z' a → Or2 F O a) :
    ∀ {vs : List V} {hs : List AH} {as : List AV}, AHs K F O σ H vs hs → argsL ρ hs = some as → (∀ a, Lent ρ σ hs a → ¬ Z' a) → ARs K Z' H none vs as
  | _, _, as, .nil, e, _ => by
    simp only [argsL, Option.some.injEq] at e
    subst e
    exact .nil
  | _, _, as, .v h t, e, hr => by
    simp only [argsL, Option.map_eq_some_iff] at e
    obtain ⟨as', e1, rfl⟩ := e
    exact .v (Rp.less hz h I.mf (kf.off I.mf)) (argsL_ok I kf hz t e1 fun a ⟨i, b, h1, h2⟩ => hr a ⟨i, b, List.mem_cons_of_mem _ h1, h2⟩)
  | _, _, as, .l (i := i) h t, e, hr => by
    simp only [argsL] at e
    split at e
    · rename_i b hb
      simp only [Option.map_eq_some_iff] at e
      obtain ⟨as', e1, rfl⟩ := e
      obtain ⟨p, e2, z, u, h1, h2⟩ := I.own i b hb
      rw [h] at e2
      cases e2
      exact .v (ObN.frz h1 h2 (hr p ⟨i, b, List.mem_cons_self, hb, h⟩) hz I.mf (kf.off I.mf)) (argsL_ok I kf hz t e1 fun a ⟨i, b, h1, h2⟩ => hr a ⟨i, b, List.mem_cons_of_mem _ h1, h2⟩)
    · cases e
  | _, _, as, .r _ _, e, _ => by
    simp only [argsL, reduceCtorEq] at e
theorem Rp.flat {K : PySem.W.Frag} {Z Z' : Addr → Prop} {H H' : Hp} {v : V} {d : D} (h : Rp K Z H v d) (f : flatD d = true) : Rp K Z' H' v d := by
  cases h <;> first | exact .non | exact .bl _ | exact .int _ | exact .str _ | cases f
theorem call_lent {f : Str} {n : Nat} (hn : ∀ as r, Γ f as = some r → as.length = n) {σ : Sg} {H1 : Hp} {Q : VK} {E' : XK} {F O1 : Addr → Prop} {ρ1 : PEnv} {d : D} {vs : List V} {hs : List AH} {avs : List AV} (k1 : KOff X.K H1) (I1 : EI X.K F O1 σ H1 ρ1) (h1 : AHs X.K F O1 σ H1 vs hs) (e : argsL ρ1 hs = some avs) (eg : Γ f avs = some (.v d, none)) (fd : flatD d = true)
    (q : ∀ v H' O', KOff X.K H' → Step O1 O' H1 H' → EI X.K F O' σ H' ρ1 → RR X.K F O' σ H' ρ1 v (.v d) → Q v H') : spF X.K n (Γ f) vs H1 (fun v H' => KOff X.K H' → Q v H') E' := by
  have le1 : ∀ a, Lent ρ1 σ hs a → O1 a := fun a ⟨i, b, _, h2, h3⟩ => by
    obtain ⟨p, e2, z, _⟩ := I1.own i b h2
    rw [h3] at e2
    cases e2
    exact z
  have hz : ∀ a, Or2 (fun a => Or2 F O1 a ∧ ¬ Lent ρ1 σ hs a) (fun a => (none : Option Addr) = some a) a → Or2 F O1 a := fun a z => by
    rcases z with z | z
    · exact z.1
    · cases z
  have ar : ARs X.K (Or2 (fun a => Or2 F O1 a ∧ ¬ Lent ρ1 σ hs a) fun a => (none : Option Addr) = some a) H1 none vs avs := argsL_ok I1 k1 hz h1 e fun a l z => by
    rcases z with z | z
    · exact z.2 l
    · cases z
  refine ⟨by rw [ar.length]; exact hn _ _ eg, fun _ => ⟨_, none, avs, .v d, none, fun a z => I1.mf a (hz a z), fun a _ z => (nomatch z), ar, fun a z => (nomatch z), eg, fun v H' O' k' s m dd u rf kk => ?_⟩⟩
  have kp : Keep (Or2 F O1) H1 H' := s.keep.mono fun a z => nomatch z
  have m2 : Muts (Or2 F fun a => O1 a ∨ O' a) H' := fun a z => by
    by_cases l : Lent ρ1 σ hs a
    · have m1 := I1.mf a (.inr (le1 a l))
      cases eh : H1 a with
      | none => rw [eh] at m1; exact m1.elim
      | some o => rw [s.keep.k a o eh fun z => (nomatch z)]; rw [eh] at m1; exact m1
    · rcases z with z | z | z
      · exact m a (.inl ⟨.inl z, l⟩)
      · exact m a (.inl ⟨.inr z, l⟩)
      · exact m a (.inr z)
  have gr : Grow (Or2 F O1) (Or2 F fun a => O1 a ∨ O' a) H1 := fun a z => by
    rcases z with z | z | z
    · exact .inl (.inl z)
    · exact .inl (.inr z)
    · rcases s.grow a z with q | q
      · cases q
      · exact .inr q
  have off := k'.off m2
  refine q v H' (fun a => O1 a ∨ O' a) k' ⟨s.keep.mono fun a z => (nomatch z), fun a z => ?_⟩ ⟨m2, fun a z z' => ?_, I1.len, fun i d e => ?_, fun i b e => ?_, I1.inj⟩ (Rp.flat (show Rp _ _ _ _ _ from rf) fd)
  · rcases z with z | z
    · exact .inl z
    · rcases s.grow a z with q | q
      · cases q
      · exact .inr q
  · rcases z' with z' | z'
    · exact I1.dis a z z'
    · exact dd a ⟨.inl z, fun l => I1.dis a z (le1 a l)⟩ z'
  · obtain ⟨v, e1, h⟩ := I1.val i d e
    exact ⟨v, e1, Rp.keep I1.mf kp gr off h⟩
  · obtain ⟨a, e1, z, u, h1, h2⟩ := I1.own i b e
    exact ⟨a, e1, .inl z, u, s.keep.k a u h1 fun z => (nomatch z), ObN.keep I1.mf kp gr off h2⟩
theorem flatR_inv {p : R × Option OB} {d : D} (h : flatR p = some d) : p = (.v d, none) ∧ flatD d = true := by
  unfold flatR at h
  split at h
  · split at h
    · rename_i hf
      cases h
      exact ⟨rfl, hf⟩
    · cases h
  · cases h
theorem e_calll {f x : Str} {as : As} {p : Pos} (ok : XOk X N sc scs Γ G) (hx : f = x) (hg : gnC sc x = true) (hs : ∀ e ∈ pys, notStar e = true) (h : PA X pys (pAa X.K (eva Γ G as))) (h0 : pys = [] → as = .nil) :
    PE X (.Call (.Name x p) pys [] pos) (pE X.K (ev Γ G (.calll f as))) := by
  subst hx
  obtain ⟨g1, g2⟩ := gn_of ok hg
  by_cases hf : ∃ as r, Γ f as = some r
  · obtain ⟨fa, fd, ps, k, n, FO, hr, hm, hk, hb, hn⟩ := ok.fns f hf
    cases pys with
    | nil =>
      have := h0 rfl
      subst this
      refine PE.of (pe_call0 FO hr g1 hm hk hb .nil pass0 g2) fun σ H Q F O ρ r ρ' kf I e q => ?_
      simp only [ev, eva, argsL] at e
      split at e
      · rename_i p eg
        split at e
        · rename_i d ed
          simp only [Option.some.injEq, Prod.mk.injEq] at e
          obtain ⟨rfl, rfl⟩ := e
          obtain ⟨rfl, fl⟩ := flatR_inv ed
          exact call_lent (E' := E0) hn kf I .nil rfl eg fl q
        · cases e
      · cases e
    | cons pa pr =>
      have hpl : ∀ pys : List Expr, (∀ e ∈ pys, notStar e = true) → (backTo pos (starEach pys X.env)).any (·.1) = false := by
        intro pys
        induction pys with
        | nil => intro _; rfl
        | cons e r ih =>
          intro hh
          rw [star_of (hh e List.mem_cons_self)]
          show (false || _) = false
          rw [Bool.false_or]
          exact ih fun z hz => hh z (List.mem_cons_of_mem _ hz)
      refine PE.of (pe_call FO hr g1 hm hk hb .nil pass0 h g2 (star_of (hs pa List.mem_cons_self) _) (hpl pr fun z hz => hs z (List.mem_cons_of_mem _ hz))) fun σ H Q F O ρ r ρ' kf I e q => ?_
      simp only [ev] at e
      split at e
      · rename_i hs' ρ1 e1
        split at e
        · rename_i avs ea
          split at e
          · rename_i p eg
            split at e
            · rename_i d ed
              simp only [Option.some.injEq, Prod.mk.injEq] at e
              obtain ⟨rfl, rfl⟩ := e
              obtain ⟨rfl, fl⟩ := flatR_inv ed
              refine fun _ => ⟨F, O, ρ, hs', _, I, e1, fun vs H1 O1 k1 s1 I1 h1 => ?_⟩
              show spF X.K n (Γ f) (vs ++ []) H1 _ _
              rw [List.append_nil]
              exact call_lent hn k1 I1 h1 ea eg fl fun v H' O' k' s' I' h => q v H' O' k' (s1.trans s') I' h
            · cases e
          · cases e
        · cases e
      · cases e
  · refine PE.of (t := fun _ _ _ => False) ⟨fun _ _ _ _ _ _ h => h.elim⟩ fun σ H Q F O ρ r ρ' kf I e q => ?_
    simp only [ev] at e
    split at e
    · split at e
      · split at e
        · rename_i eg
          exact (hf ⟨_, _, eg⟩).elim
        · cases e
      · cases e
    · cases e
end
end DP
/-! The pure layer, part Z: looking methods, xs[::-1], ranges as values, sets of numbers. -/
namespace DP
open PySem PySem.Spec PyProof.Rows L2
section
variable {X : Cx} {N : List Str} {sc scs : Scope} {Γ : Sems} {G : Str → Option D} {py pa pb pc : Expr} {a b c : E} {pos : Pos} {pys : List Expr}
def mxId : MX → String
  | .index => "list.index" | .count => "list.count"
def rMx (K : PySem.W.Frag) (m : MX) : V → List V → Hp → VK → Prop := fun x vs H Q => ∃ Z y dx dy r, vs = [y] ∧ CR K Z H x dx ∧ CR K Z H y dy ∧ mxo m dx dy = some r ∧ ∀ v, Rp K Z H v r → Q v H
theorem mx_ok (hu : X.A.units + 200 < cLine) (m : MX) : MtR X (mxId m) (rMx X.K m) := by
  intro pins s σ H x vs v us Q I rx rv h
  obtain ⟨Z, y, dx, dy, r, rfl, hx, hy, e, q⟩ := h
  have hu2 : X.A.units + 65 < cLine := by omega
  cases m with
  | index =>
    cases dx <;> simp only [mxo, reduceCtorEq] at e
    rename_i xs
    split at e
    · rename_i hl
      simp only [Bool.and_eq_true] at hl
      obtain ⟨a, vs, rfl, s1, h1⟩ := id hx
      rw [Option.map_eq_some_iff] at e
      obtain ⟨j, e1, rfl⟩ := e
      rw [List.findIdx?_eq_some_iff_getElem] at e1
      obtain ⟨hj, e2, e3⟩ := e1
      refine mt_indexD hu2 pins s σ H _ _ v us Q I rx rv ⟨a, y, dy, xs, j, xs[j], rfl, rfl, hx.dp hl.2, hy.dp hl.1, hl.2, hl.1, List.getElem?_eq_getElem hj, e2, fun m z hm hz => ?_, q _ (.int _)⟩
      obtain ⟨hm2, rfl⟩ := List.getElem?_eq_some_iff.mp hz
      have := e3 m hm
      simpa using this
    · cases e
  | count =>
    cases dx <;> simp only [mxo, reduceCtorEq] at e
    rename_i xs
    split at e
    · rename_i hl
      simp only [Bool.and_eq_true] at hl
      simp only [Option.some.injEq] at e
      subst e
      obtain ⟨a, vs, rfl, s1, h1⟩ := id hx
      exact DPX.mt_countD hu2 pins s σ H _ _ v us Q I rx rv ⟨a, y, dy, xs, rfl, rfl, hx.dp hl.2, hy.dp hl.1, hl.2, hl.1, q _ (.int _)⟩
    · cases e
theorem CR.tyV {K : PySem.W.Frag} {Z : Addr → Prop} {H : Hp} {v : V} {ds : List D} (h : CR K Z H v (.list ds)) : tyV K "list" v H := by
  obtain ⟨a, vs, rfl, s, _⟩ := h
  exact .inl ⟨rfl, _, s⟩
theorem hfew_of {env : Env} {cp : Pos} (hs : notStar pa = true) : ((backTo cp (starEach [pa] env)).all (fun x => !x.1) && (backToKw cp (keywordEach [] env)).all (fun x => x.1.isSome)
      && decide (([pa] : List Expr).length + ([] : List Keyword).length + (if ([] : List Keyword).isEmpty then 0 else 1) < 30)) = true := by
  rw [star_of hs]
  rfl
theorem e_mx {m : MX} {x y : Str} {p1 ap cp : Pos} (ok : XOk X N sc scs Γ G) (hy : y = mxName m) (ha : PE X (.Name x p1) (pE X.K (ev Γ G a))) (hb : PE X pb (pE X.K (ev Γ G b))) (hs : notStar pb = true) (hline : ap.endLine = cp.line) :
    PE X (.Call (.Attribute (.Name x p1) y ap) [pb] [] cp) (pE X.K (ev Γ G (.mx m a b))) := by
  have hl : (ap.endLine == cp.line) = true := by rw [hline]; exact beq_self_eq_true _
  have hbb : ∀ name, attributeBase (.Name x p1) name X.env (eval (.Name x p1) X.env) = eval (.Name x p1) X.env := fun _ => rfl
  have red : ∀ (σ : Sg) (H : Hp) (Q : VK) F O ρ r ρ', KOff X.K H → EI X.K F O σ H ρ → ev Γ G (.mx m a b) ρ = some (r, ρ') → (∀ v H' O', KOff X.K H' → Step O O' H H' → EI X.K F O' σ H' ρ' → RR X.K F O' σ H' ρ' v r → Q v H') →
      tBM X.K "list" (rMx X.K m) (pE X.K (ev Γ G a)) (tCons (pE X.K (ev Γ G b)) tNil) σ H fun v H' => KOff X.K H' → Q v H' := fun σ H Q F O ρ r ρ' kf I e q => by
    simp only [ev] at e
    split at e
    · rename_i ra ρ1 e1
      split at e
      · rename_i ds0 e0
        split at e
        · rename_i rb ρ2 e2
          split at e
          · rename_i dx dy ex ey
            split at e
            · rename_i r' er
              simp only [Option.some.injEq, Prod.mk.injEq] at e
              obtain ⟨rfl, rfl⟩ := e
              refine one_ok I e1 fun xv H1 O1 k1 s1 I1 hx => ?_
              refine ⟨(hx.toC I1 e0).tyV, fun _ => ⟨F, O1, ρ1, rb, ρ2, I1, e2, fun yv H2 O2 k2 s2 I2 h2 => ?_⟩⟩
              obtain ⟨O3, l3, I3, hy'⟩ := I2.hold k2 h2
              have s13 : Step O1 O3 H1 H2 := s2.trans (Step.less l3)
              have hx3 := hx.step I1 s13 (k2.off I3.mf)
              refine ⟨_, yv, _, dy, _, rfl, hx3.toC I3 ex, hy'.toC I3 ey, er, fun v hv kk => ?_⟩
              exact q v H2 O3 kk (s1.trans s13) I3 hv
            · cases e
          · cases e
        · cases e
      · cases e
    · cases e
  have hpa : PA X [pb] (tCons (pE X.K (ev Γ G b)) tNil) := pa_cons hb pa_nil (star_of hs _)
  cases m with
  | index =>
    subst hy
    exact PE.of (pe_bm PySem.F.plainAttrs_list PySem.F.slot_list_index PySem.F.type_list_index (mx_ok ok.room .index) ha hpa (hbb _) (hfew_of hs) hl (star_of hs _) rfl) red
  | count =>
    subst hy
    exact PE.of (pe_bm PySem.F.plainAttrs_list PySem.F.slot_list_count PySem.F.type_list_count (mx_ok ok.room .count) ha hpa (hbb _) (hfew_of hs) hl (star_of hs _) rfl) red
theorem e_rev {k : Nat} {p1 p2 p3 : Pos} (ha : PE X pa (pE X.K (ev Γ G a))) : PE X (.Subscript pa (.Slice none none (some (.UnaryOp .USub (.Constant (.int 1) k p1) p2)) p3) pos) (pE X.K (ev Γ G (.rev a))) := by
  refine PE.of (pe_revL ha) fun σ H Q F O ρ r ρ' kf I e q => ?_
  simp only [ev] at e
  split at e
  · rename_i ra ρ1 e1
    split at e
    · rename_i xs ex
      simp only [Option.some.injEq, Prod.mk.injEq] at e
      obtain ⟨rfl, rfl⟩ := e
      refine one_ok I e1 fun xv H1 O1 k1 s1 I1 hx => ?_
      obtain ⟨l, vs, rfl, s, h⟩ := hx.toC I1 ex
      exact ⟨l, vs, rfl, s, fun p n => fin_ok k1 s1 I1 q _ _ ⟨p, _, rfl, n, rfl, _, rfl, h.reverse⟩⟩
    · cases e
  · cases e
theorem bi1_inv {f : BI} {ρ ρ' : PEnv} {r : R} (e : ev Γ G (.bi f (.cons a .nil)) ρ = some (r, ρ')) : ∃ ra d, ev Γ G a ρ = some (ra, ρ') ∧ toC ρ' ra = some d ∧ bi f [d] = some r := by
  simp only [ev, evc] at e
  split at e
  · rename_i rs ρ1 e1
    split at e1
    · rename_i ra ρ0 e0
      simp only [Option.some.injEq, Prod.mk.injEq] at e1
      obtain ⟨rfl, rfl⟩ := e1
      rw [List.mapM_cons, List.mapM_nil] at e
      cases ed : toC ρ0 ra with
      | none => rw [ed] at e; cases e
      | some d =>
        rw [ed] at e
        simp only [Option.pure_def, Option.bind_eq_bind, Option.bind_some] at e
        split at e
        · rename_i r' er
          simp only [Option.some.injEq, Prod.mk.injEq] at e
          obtain ⟨rfl, rfl⟩ := e
          exact ⟨ra, d, e0, ed, er⟩
        · cases e
    · cases e1
  · cases e
theorem bi2_inv {f : BI} {ρ ρ' : PEnv} {r : R} (e : ev Γ G (.bi f (.cons a (.cons b .nil))) ρ = some (r, ρ')) : ∃ ra rb ρ1 d d', ev Γ G a ρ = some (ra, ρ1) ∧ ev Γ G b ρ1 = some (rb, ρ') ∧ toC ρ' ra = some d ∧ toC ρ' rb = some d' ∧ bi f [d, d'] = some r := by
  simp only [ev, evc] at e
  split at e
  · rename_i rs ρ1 e1
    split at e1
    · rename_i ra ρa ea
      split at e1
      · rename_i rs2 ρ2 e2
        split at e2
        · rename_i rb ρb eb
          simp only [Option.some.injEq, Prod.mk.injEq] at e2
          obtain ⟨rfl, rfl⟩ := e2
          simp only [Option.some.injEq, Prod.mk.injEq] at e1
          obtain ⟨rfl, rfl⟩ := e1
          rw [List.mapM_cons, List.mapM_cons, List.mapM_nil] at e
          cases ed : toC ρb ra with
          | none => rw [ed] at e; cases e
          | some d =>
            cases ed' : toC ρb rb with
            | none => rw [ed, ed'] at e; cases e
            | some d' =>
              rw [ed, ed'] at e
              simp only [Option.pure_def, Option.bind_eq_bind, Option.bind_some] at e
              split at e
              · rename_i r' er
                simp only [Option.some.injEq, Prod.mk.injEq] at e
                obtain ⟨rfl, rfl⟩ := e
                exact ⟨ra, rb, ρa, d, d', ea, eb, ed, ed', er⟩
              · cases e
        · cases e2
      · cases e1
    · cases e1
  · cases e
theorem seqI_of {K : PySem.W.Frag} {Z : Addr → Prop} {H : Hp} {v : V} {d : D} {xs : List D} {ns : List Int} (h : CR K Z H v d) (e1 : seqOf d = some xs) (e2 : toInts xs = some ns) : ∃ l, v = .ref l ∧ (SqL K H l (ns.map V.int) ∨ SqT K H l (ns.map V.int)) := by
  cases d <;> simp only [seqOf, Option.some.injEq, reduceCtorEq] at e1
  · subst e1
    obtain ⟨l, vs, rfl, s, h1⟩ := h
    rw [h1.ints e2] at s
    exact ⟨l, rfl, .inl s⟩
  · subst e1
    obtain ⟨l, vs, rfl, s, h1⟩ := h.tup
    rw [h1.ints e2] at s
    exact ⟨l, rfl, .inr s⟩
/-- sorted(set(x)), len(set(x)) -/
theorem e_sset {p p2 q2 : Pos} {x y : Str} (ok : XOk X N sc scs Γ G) (hx : x = "sorted") (hg : gnC sc x = true) (hy : y = "set") (hgy : gnC sc y = true) (hs : notStar pa = true) (ha : PE X pa (pE X.K (ev Γ G a))) :
    PE X (.Call (.Name x p) [.Call (.Name y p2) [pa] [] q2] [] pos) (pE X.K (ev Γ G (.bi .sortedset (.cons a .nil)))) := by
  obtain ⟨g1, g2⟩ := gn_of ok hg
  obtain ⟨g3, g4⟩ := gn_of ok hgy
  subst hx hy
  have m1 := ok.blt "sorted" (by decide +kernel)
  have m2 := ok.blt "set" (by decide +kernel)
  have hin := pe_callTy (p := p2) (pos := q2) (T := "set") (DPX.cr_setI ok.calm) g3 m2 (by decide +kernel) (pa_cons ha pa_nil (star_of hs _)) (by decide +kernel) g4 (star_of hs _) rfl
  refine PE.of (pe_callB (id := "sorted") (DPX.cr_sortedSetW ok.calm) g1 m1 (by decide +kernel) (pa_cons hin pa_nil (star_of rfl _)) (by decide +kernel) g2 (star_of rfl _) rfl) fun σ H Q F O ρ r ρ' kf I e q => ?_
  obtain ⟨ra, d, e1, e2, e3⟩ := bi1_inv e
  simp only [bi] at e3
  split at e3
  · rename_i xs ex
    split at e3
    · rename_i ns en
      split at e3
      · rename_i hl
        simp only [Bool.and_eq_true, decide_eq_true_eq] at hl
        simp only [Option.some.injEq] at e3
        subst e3
        refine one_ok I e1 fun xv H1 O1 k1 s1 I1 hx => ?_
        obtain ⟨l, rfl, hq⟩ := seqI_of (hx.toC I1 e2) ex en
        refine ⟨l, ns, rfl, hq, hl.2, fun p n => ⟨p, _, _, rfl, upd_same, hl.1, fun ms p2 h1 h2 h3 n2 kk => ?_⟩⟩
        have off1 := k1.off I1.mf
        have I2 := I1.newO (o := SetO X.w p (fun j => decide (j ∈ ns)) (usort ns).length) off1 n
        have e5 : ms = usort ns := DPX.usort_the h1 fun z => (h2 z).trans decide_eq_true_iff
        subst e5
        have k2 : KOff X.K (upd H1 p (SetO X.w p (fun j => decide (j ∈ ns)) (usort ns).length)) := fun b o hb => by
          have := kk b o hb
          have nb : b ≠ p2 := fun z => by rw [z, upd_same] at this; cases this
          rw [upd_ne nb] at this
          exact this
        exact fin_ok k2 (s1.trans (.new n)) I2 q _ _ ⟨p2, _, rfl, n2, rfl, _, rfl, .ofInts _⟩ kk
      · cases e3
    · cases e3
  · cases e3
theorem e_lset {p p2 q2 : Pos} {x y : Str} (ok : XOk X N sc scs Γ G) (hx : x = "len") (hg : gnC sc x = true) (hy : y = "set") (hgy : gnC sc y = true) (hs : notStar pa = true) (ha : PE X pa (pE X.K (ev Γ G a))) :
    PE X (.Call (.Name x p) [.Call (.Name y p2) [pa] [] q2] [] pos) (pE X.K (ev Γ G (.bi .lenset (.cons a .nil)))) := by
  obtain ⟨g1, g2⟩ := gn_of ok hg
  obtain ⟨g3, g4⟩ := gn_of ok hgy
  subst hx hy
  have m1 := ok.blt "len" (by decide +kernel)
  have m2 := ok.blt "set" (by decide +kernel)
  have hin := pe_callTy (p := p2) (pos := q2) (T := "set") (DPX.cr_setI ok.calm) g3 m2 (by decide +kernel) (pa_cons ha pa_nil (star_of hs _)) (by decide +kernel) g4 (star_of hs _) rfl
  refine PE.of (pe_callB (id := "len") DPX.cr_lenSet g1 m1 (by decide +kernel) (pa_cons hin pa_nil (star_of rfl _)) (by decide +kernel) g2 (star_of rfl _) rfl) fun σ H Q F O ρ r ρ' kf I e q => ?_
  obtain ⟨ra, d, e1, e2, e3⟩ := bi1_inv e
  simp only [bi] at e3
  split at e3
  · rename_i xs ex
    split at e3
    · rename_i ns en
      split at e3
      · rename_i hl
        simp only [Option.some.injEq] at e3
        subst e3
        refine one_ok I e1 fun xv H1 O1 k1 s1 I1 hx => ?_
        obtain ⟨l, rfl, hq⟩ := seqI_of (hx.toC I1 e2) ex en
        have few : (usort ns).length ≤ ns.length := by
          have h1 : ∀ (y : Int) (l : List Int), (insU y l).length ≤ l.length + 1 := by
            intro y l
            induction l with
            | nil => simp [insU]
            | cons z r ih =>
              unfold insU
              split
              · simp
              · split
                · simp
                · simpa using ih
          have h2 : ∀ l : List Int, (usort l).length ≤ l.length := by
            intro l
            induction l with
            | nil => simp [usort]
            | cons y r ih =>
              have := h1 y (usort r)
              simp only [usort, List.length_cons]
              omega
          exact h2 ns
        refine ⟨l, ns, rfl, hq, hl, fun p n => ⟨p, _, _, rfl, upd_same, by omega, fun kk => ?_⟩⟩
        have off1 := k1.off I1.mf
        have I2 := I1.newO (o := SetO X.w p (fun j => decide (j ∈ ns)) (usort ns).length) off1 n
        exact fin_ok kk (s1.trans (.new n)) I2 q _ _ ⟨.inl rfl, .int _⟩ kk
      · cases e3
    · cases e3
  · cases e3
theorem rgOk_of {i j : Int} (h : rgOk i j = true) : RgOk i j := by
  unfold rgOk at h
  simp only [Bool.and_eq_true, decide_eq_true_eq] at h
  obtain ⟨⟨⟨⟨h1, h2⟩, h3⟩, h4⟩, h5⟩ := h
  exact ⟨by omega, by omega, by omega, by omega, by omega⟩
theorem rg_eq {K : PySem.W.Frag} {Z : Addr → Prop} {H : Hp} (i j : Int) : RpAll K Z H (rgV i j) (irange i (j - i).toNat) := by
  unfold rgV irange
  generalize (j - i).toNat = n
  have : ∀ l : List Nat, RpAll K Z H (l.map fun k => V.int (i + (k : Nat))) (l.map fun (k : Nat) => PyData.int (i + k)) := by
    intro l
    induction l with
    | nil => exact .nil
    | cons x r ih => exact .cons (.int _) ih
  exact this _
/-- list(range(..)), tuple(range(..)) -/
theorem rg_res {f : BI} {ds : List D} {r : R} {i j : Int} {mk : List V → HO} (hf : (f = .rangelist1 ∨ f = .rangelist2) ∧ mk = .lst ∨ (f = .rangetup1 ∨ f = .rangetup2) ∧ mk = .tup) (hd : (ds = [.int j] ∧ i = 0 ∧ (f = .rangelist1 ∨ f = .rangetup1)) ∨ (ds = [.int i, .int j] ∧ (f = .rangelist2 ∨ f = .rangetup2))) (e : bi f ds = some r)
    {K : PySem.W.Frag} {Z : Addr → Prop} {H : Hp} (m : Muts Z H) (off : Off K Z) : RgOk i j ∧ ∀ p, H p = none → Res K Z H (upd H p (mk (rgV i j))) (.ref p) r := by
  have h0 := rg_eq (K := K) (Z := Z) (H := H) i j
  rcases hd with ⟨rfl, rfl, hf1⟩ | ⟨rfl, hf1⟩
  · rw [Int.sub_zero] at h0
    rcases hf1 with rfl | rfl
    · simp only [bi] at e
      split at e
      · rename_i hj
        simp only [Option.some.injEq] at e
        subst e
        have : mk = .lst := by rcases hf with ⟨_, h⟩ | ⟨h, _⟩; exact h; rcases h with h | h <;> cases h
        subst this
        exact ⟨rgOk_of hj, fun p n => ⟨p, _, rfl, n, rfl, _, rfl, h0⟩⟩
      · cases e
    · simp only [bi] at e
      split at e
      · rename_i hj
        simp only [Option.some.injEq] at e
        subst e
        have : mk = .tup := by rcases hf with ⟨h, _⟩ | ⟨_, h⟩; rcases h with h | h <;> cases h; exact h
        subst this
        exact ⟨rgOk_of hj, fun p n => ⟨.inr ⟨p, _, n, rfl, fun z => z⟩, Rp.new h0 n m off⟩⟩
      · cases e
  · rcases hf1 with rfl | rfl
    · simp only [bi] at e
      split at e
      · rename_i hj
        simp only [Option.some.injEq] at e
        subst e
        have : mk = .lst := by rcases hf with ⟨_, h⟩ | ⟨h, _⟩; exact h; rcases h with h | h <;> cases h
        subst this
        exact ⟨rgOk_of hj, fun p n => ⟨p, _, rfl, n, rfl, _, rfl, h0⟩⟩
      · cases e
    · simp only [bi] at e
      split at e
      · rename_i hj
        simp only [Option.some.injEq] at e
        subst e
        have : mk = .tup := by rcases hf with ⟨h, _⟩ | ⟨_, h⟩; rcases h with h | h <;> cases h; exact h
        subst this
        exact ⟨rgOk_of hj, fun p n => ⟨.inr ⟨p, _, n, rfl, fun z => z⟩, Rp.new h0 n m off⟩⟩
      · cases e
theorem bi_ints1 {f : BI} {d : D} {r : R} (hf : f = .rangelist1 ∨ f = .rangetup1) (e : bi f [d] = some r) : ∃ j, d = .int j := by
  rcases hf with rfl | rfl <;> cases d <;> first | exact ⟨_, rfl⟩ | (simp [bi] at e)
theorem bi_ints2 {f : BI} {d d' : D} {r : R} (hf : f = .rangelist2 ∨ f = .rangetup2) (e : bi f [d, d'] = some r) : ∃ i j, d = .int i ∧ d' = .int j := by
  rcases hf with rfl | rfl <;> cases d <;> cases d' <;> first | exact ⟨_, _, rfl, rfl⟩ | (simp [bi] at e)
theorem rg1_red {f : BI} {mk : List V → HO} (hf : (f = .rangelist1 ∨ f = .rangelist2) ∧ mk = .lst ∨ (f = .rangetup1 ∨ f = .rangetup2) ∧ mk = .tup) (h1 : f = .rangelist1 ∨ f = .rangetup1) {σ : Sg} {H : Hp} {Q : VK} {F O : Addr → Prop} {ρ ρ' : PEnv} {r : R} (kf : KOff X.K H) (I : EI X.K F O σ H ρ) (e : ev Γ G (.bi f (.cons a .nil)) ρ = some (r, ρ'))
    (q : ∀ v H' O', KOff X.K H' → Step O O' H H' → EI X.K F O' σ H' ρ' → RR X.K F O' σ H' ρ' v r → Q v H') : tRg1 (pE X.K (ev Γ G a)) σ H fun i j H1 => RgOk i j ∧ ∀ p, H1 p = none → KOff X.K (upd H1 p (mk (rgV i j))) → Q (.ref p) (upd H1 p (mk (rgV i j))) := by
  obtain ⟨ra, d, e1, e2, e3⟩ := bi1_inv e
  obtain ⟨j, rfl⟩ := bi_ints1 h1 e3
  refine one_ok I e1 (fun xv H1 O1 k1 s1 I1 hx => ?_)
  obtain ⟨b1, b2⟩ := rg_res (i := 0) hf (.inl ⟨rfl, rfl, h1⟩) e3 I1.mf (k1.off I1.mf)
  exact ⟨j, (hx.toC I1 e2).int, b1, fun p n => fin_ok k1 s1 I1 q _ _ (b2 p n)⟩
theorem rg2_red {f : BI} {mk : List V → HO} (hf : (f = .rangelist1 ∨ f = .rangelist2) ∧ mk = .lst ∨ (f = .rangetup1 ∨ f = .rangetup2) ∧ mk = .tup) (h1 : f = .rangelist2 ∨ f = .rangetup2) {σ : Sg} {H : Hp} {Q : VK} {F O : Addr → Prop} {ρ ρ' : PEnv} {r : R} (kf : KOff X.K H) (I : EI X.K F O σ H ρ) (e : ev Γ G (.bi f (.cons a (.cons b .nil))) ρ = some (r, ρ'))
    (q : ∀ v H' O', KOff X.K H' → Step O O' H H' → EI X.K F O' σ H' ρ' → RR X.K F O' σ H' ρ' v r → Q v H') : tRg2 (pE X.K (ev Γ G a)) (pE X.K (ev Γ G b)) σ H fun i j H1 => RgOk i j ∧ ∀ p, H1 p = none → KOff X.K (upd H1 p (mk (rgV i j))) → Q (.ref p) (upd H1 p (mk (rgV i j))) := by
  obtain ⟨ra, rb, ρ1, d, d', e1, e1', e2, e2', e3⟩ := bi2_inv e
  obtain ⟨i, j, rfl, rfl⟩ := bi_ints2 h1 e3
  refine two_ok I e1 e1' (fun xv yv H1 O1 k1 s1 I1 hx hy => ?_)
  obtain ⟨b1, b2⟩ := rg_res hf (.inr ⟨rfl, h1⟩) e3 I1.mf (k1.off I1.mf)
  exact ⟨i, j, (hx.toC I1 e2).int, (hy.toC I1 e2').int, b1, fun p n => fin_ok k1 s1 I1 q _ _ (b2 p n)⟩
theorem e_rg1 {p p2 q2 : Pos} {x y : Str} (ok : XOk X N sc scs Γ G) (hx : x = "list") (hg : gnC sc x = true) (hy : y = "range") (hgy : gnC sc y = true) (hs : notStar pa = true) (ha : PE X pa (pE X.K (ev Γ G a))) :
    PE X (.Call (.Name x p) [.Call (.Name y p2) [pa] [] q2] [] pos) (pE X.K (ev Γ G (.bi .rangelist1 (.cons a .nil)))) := by
  obtain ⟨g1, g2⟩ := gn_of ok hg
  obtain ⟨g3, g4⟩ := gn_of ok hgy
  subst hx hy
  exact PE.of (pe_listRg ok.calm g1 (ok.blt "list" (by decide +kernel)) (prg_1 g3 (ok.blt "range" (by decide +kernel)) ha (star_of hs _)) (star_of rfl _)) fun σ H Q F O ρ r ρ' kf I e q => rg1_red (.inl ⟨.inl rfl, rfl⟩) (.inl rfl) kf I e q
theorem e_rgt1 {p p2 q2 : Pos} {x y : Str} (ok : XOk X N sc scs Γ G) (hx : x = "tuple") (hg : gnC sc x = true) (hy : y = "range") (hgy : gnC sc y = true) (hs : notStar pa = true) (ha : PE X pa (pE X.K (ev Γ G a))) :
    PE X (.Call (.Name x p) [.Call (.Name y p2) [pa] [] q2] [] pos) (pE X.K (ev Γ G (.bi .rangetup1 (.cons a .nil)))) := by
  obtain ⟨g1, g2⟩ := gn_of ok hg
  obtain ⟨g3, g4⟩ := gn_of ok hgy
  subst hx hy
  exact PE.of (pe_tupRg ok.calm g1 (ok.blt "tuple" (by decide +kernel)) (prg_1 g3 (ok.blt "range" (by decide +kernel)) ha (star_of hs _)) (star_of rfl _)) fun σ H Q F O ρ r ρ' kf I e q => rg1_red (.inr ⟨.inl rfl, rfl⟩) (.inr rfl) kf I e q
theorem e_rg2 {p p2 q2 : Pos} {x y : Str} (ok : XOk X N sc scs Γ G) (hx : x = "list") (hg : gnC sc x = true) (hy : y = "range") (hgy : gnC sc y = true) (hs : notStar pa = true) (hs2 : notStar pb = true) (ha : PE X pa (pE X.K (ev Γ G a))) (hb : PE X pb (pE X.K (ev Γ G b))) :
    PE X (.Call (.Name x p) [.Call (.Name y p2) [pa, pb] [] q2] [] pos) (pE X.K (ev Γ G (.bi .rangelist2 (.cons a (.cons b .nil))))) := by
  obtain ⟨g1, g2⟩ := gn_of ok hg
  obtain ⟨g3, g4⟩ := gn_of ok hgy
  subst hx hy
  exact PE.of (pe_listRg ok.calm g1 (ok.blt "list" (by decide +kernel)) (prg_2 g3 (ok.blt "range" (by decide +kernel)) ha hb (star_of hs _) (star_of hs2 _) (by rw [star_of hs2]; rfl)) (star_of rfl _)) fun σ H Q F O ρ r ρ' kf I e q => rg2_red (.inl ⟨.inr rfl, rfl⟩) (.inl rfl) kf I e q
theorem e_rgt2 {p p2 q2 : Pos} {x y : Str} (ok : XOk X N sc scs Γ G) (hx : x = "tuple") (hg : gnC sc x = true) (hy : y = "range") (hgy : gnC sc y = true) (hs : notStar pa = true) (hs2 : notStar pb = true) (ha : PE X pa (pE X.K (ev Γ G a))) (hb : PE X pb (pE X.K (ev Γ G b))) :
    PE X (.Call (.Name x p) [.Call (.Name y p2) [pa, pb] [] q2] [] pos) (pE X.K (ev Γ G (.bi .rangetup2 (.cons a (.cons b .nil))))) := by
  obtain ⟨g1, g2⟩ := gn_of ok hg
  obtain ⟨g3, g4⟩ := gn_of ok hgy
  subst hx hy
  exact PE.of (pe_tupRg ok.calm g1 (ok.blt "tuple" (by decide +kernel)) (prg_2 g3 (ok.blt "range" (by decide +kernel)) ha hb (star_of hs _) (star_of hs2 _) (by rw [star_of hs2]; rfl)) (star_of rfl _)) fun σ H Q F O ρ r ρ' kf I e q => rg2_red (.inr ⟨.inr rfl, rfl⟩) (.inr rfl) kf I e q
theorem e_no {e : E} (h : ∀ ρ r ρ', ev Γ G e ρ = some (r, ρ') → False) : PE X py (pE X.K (ev Γ G e)) :=
  PE.of (t := fun _ _ _ => False) ⟨fun _ _ _ _ _ _ h => h.elim⟩ fun σ H Q F O ρ r ρ' kf I e q => (h ρ r ρ' e).elim
theorem e_bi0s {f : BI} {z : Str} (hz : biSub f = some z) : PE X py (pE X.K (ev Γ G (.bi f .nil))) := e_no fun ρ r ρ' e => by
  simp only [ev, evc, List.mapM_nil] at e
  cases f <;> first | (simp [bi, pure] at e; done) | (simp [biSub] at hz; done)
theorem e_bi3s {f : BI} {z : Str} {c : E} {r : Es} (hz : biSub f = some z) : PE X py (pE X.K (ev Γ G (.bi f (.cons a (.cons b (.cons c r)))))) := e_no fun ρ rr ρ' e => by
  simp only [ev] at e
  split at e
  · rename_i rs ρ1 e1
    split at e
    · rename_i ds e2
      have l1 : 3 ≤ rs.length := by
        simp only [evc] at e1
        split at e1
        · split at e1
          · rename_i e3
            split at e3
            · split at e3
              · rename_i e4
                split at e4
                · split at e4
                  · simp only [Option.some.injEq, Prod.mk.injEq] at e4 e3 e1
                    rw [← e1.1, ← e3.1, ← e4.1]
                    simp
                  · cases e4
                · cases e4
              · cases e3
            · cases e3
          · cases e1
        · cases e1
      have l2 : ∀ (rs : List R) (ds : List D), rs.mapM (toC ρ1) = some ds → ds.length = rs.length := by
        intro rs
        induction rs with
        | nil => intro ds e; rw [List.mapM_nil] at e; cases e; rfl
        | cons x xs ih =>
          intro ds e
          rw [List.mapM_cons] at e
          cases h1 : toC ρ1 x with
          | none => rw [h1] at e; cases e
          | some d =>
            cases h2 : xs.mapM (toC ρ1) with
            | none => rw [h1, h2] at e; cases e
            | some dr =>
              rw [h1, h2] at e
              cases e
              simp [ih dr h2]
      have l3 := l2 rs ds e2
      rcases ds with _ | ⟨d1, _ | ⟨d2, _ | ⟨d3, dr⟩⟩⟩
      · simp at l3; omega
      · simp at l3; omega
      · simp at l3; omega
      · cases f <;> first | (simp [bi] at e; done) | (simp [biSub] at hz; done)
    · cases e
  · cases e
end
end DP
/-! The pure layer, part Y: enumerate over a list or a tuple. -/
namespace DP
open PySem PySem.Spec PyProof.Rows L2
set_option maxHeartbeats 1000000 in
theorem meets_en1 {v : Value} {cell : Obj} {Hh : Heap → Prop} (B : Begins v cell Hh) :
    Meets (Builtin.«enumerate.__new__» ⟨[.type "enumerate", v], []⟩) (fun _ R z => Hh z.heap ∧
      R (.ok (.ret (.ref (z.heap.push cell).objs.size))) { z with heap := (z.heap.push cell).push { cls := .type "enumerate", data := .fields #[.none, .bool false, .ref z.heap.objs.size, rawInt 0, .none, .none] } }) :=
  .of_wp fun prog w A R z hz => by
    obtain ⟨p0, g0, d0, k0, o0⟩ := z
    obtain ⟨b1, b2⟩ := hz
    have sb := sub_enumerate
    have nx : ∀ {A' : Around} {E Q : Value → Shared → Prop}, Q (.ref p0.objs.size) ⟨p0.push cell, g0, d0, k0, o0⟩ → wpAny (model prog w) A' (pyIter v) Q E ⟨p0, g0, d0, k0, o0⟩ := fun q => B.iter prog w _ _ ⟨p0, g0, d0, k0, o0⟩ _ b1 q
    wp_walk using nx
    refine wpAny_stack_any fun st => wpAny_pure ?_
    split
    · rename_i c _ _ _ _ _
      cases (c == Value.type "enumerate")
      · wp_walk using nx
        exact ⟨_, rfl, b2⟩
      · wp_walk using nx
        exact ⟨_, rfl, b2⟩
    · wp_walk using nx
      exact ⟨_, rfl, b2⟩
theorem call_en1 {prog : Program} {w : World} {A : Around} {E : Value → Shared → Prop} {z : Shared} {v : Value} {cell : Obj} {Hh : Heap → Prop} {Q : Value → Shared → Prop} (B : Begins v cell Hh) (h1 : Hh z.heap)
    (h : ∀ g, IsEnum g (z.heap.objs.size + 1) z.heap.objs.size 0 .none → g.get? z.heap.objs.size = some cell → (∀ b x, z.heap.get? b = some x → g.get? b = some x) → Q (.ref (z.heap.objs.size + 1)) { z with heap := g }) :
    wpAny (model prog w) A (call (.type "enumerate") [v]) Q E z := by
  refine callType_new F.called_enumerate (by decide) (F.typeCall_enumerate_1 _) (F.newCall_enumerate_1 _) (fun obj => F.args_object_init_2 obj _) F.entry_enumerate_new
    (meets_en1 B) ⟨h1, ?_⟩
  have sz1 : (z.heap.push cell).objs.size = z.heap.objs.size + 1 := Heap.size_push ..
  show _ ∧ _
  rw [sz1]
  have he : IsEnum ((z.heap.push cell).push { cls := .type "enumerate", data := .fields #[.none, .bool false, .ref z.heap.objs.size, rawInt 0, .none, .none] }) (z.heap.objs.size + 1) z.heap.objs.size 0 .none := by
    have q := Heap.get?_push_size (z.heap.push cell) (o := { cls := .type "enumerate", data := .fields #[.none, .bool false, .ref z.heap.objs.size, rawInt 0, .none, .none] }) rfl
    rw [sz1] at q
    exact q
  exact ⟨⟨_, he, rfl⟩, h _ he (Heap.get?_push_of_some _ (Heap.get?_push_size _ B.free)) fun b x y => Heap.get?_push_of_some _ (Heap.get?_push_of_some _ y)⟩
/-- the tuple at a, each item in a new pair -/
def Itn (K : PySem.W.Frag) (a : Addr) : L2.It :=
  ⟨fun i H => ∃ (xs : List V) (x : V), SqT K H a xs ∧ xs[i]? = some x,
   fun i H v H' => ∃ T x, v = .ref T ∧ H T = none ∧ H' = upd H T (.tup [.int (i : Nat), x]) ∧ ∀ xs, SqT K H a xs → xs[i]? = some x,
   fun i H => ∃ xs : List V, SqT K H a xs ∧ xs.length ≤ i⟩
theorem turn_enT {P : Program} {w : World} {K : PySem.W.Frag} {elts : List Expr} {kk : Nat} {tpos : Pos} (a e it : Addr) :
    Turn P w K (.Tuple elts kk tpos) (Itn K a) [e, it] e (fun i h => (∃ old, IsEnum h e it ((i : Nat) : Int) old) ∧ h.IsTupleIter it a i ∧ e ≠ it ∧ a ≠ it ∧ a ≠ e) where
  mem := by simp
  obj := fun i h st b hb => by
    obtain ⟨⟨old, he⟩, ⟨o, ho, hc, hd⟩, _⟩ := st
    rcases (show b = e ∨ b = it by simpa using hb) with y | y
    · rw [y]; exact ⟨_, he, fun v q => nomatch q⟩
    · rw [y]; exact ⟨o, ho, fun v q => by rw [hd] at q; cases q⟩
  keep := fun i h h' st k => let ⟨⟨old, he⟩, hi, r⟩ := st; ⟨⟨old, k e (by simp) _ he⟩, hi.at fun o q => k it (by simp) o q, r⟩
  item := by
    intro X hP hw hK hc i pins s σ H E I hf st hg
    subst hP hw hK
    obtain ⟨⟨old, he⟩, hit, ne1, ne2, ne3⟩ := st
    obtain ⟨xs, x, hq, hx⟩ := hg
    obtain ⟨its, rv, p, _⟩ := I.tuple hq
    obtain ⟨u, hu, ru⟩ := rv.get hx
    have lt1 : e < s.heap.objs.size := Heap.lt_size he
    have lt2 : it < s.heap.objs.size := by obtain ⟨_, q, _⟩ := hit; exact Heap.lt_size q
    have tp : s.heap.IsTuple a its.toArray := p
    have dr := Draws.tuple (prog := X.prog) (w := X.w) (A := X.A.in1) (show X.A.in1.handled = none from I.ok.hd hc) it a ne2 its.toArray
    have ll : i < its.toArray.size := by
      rw [List.size_toArray]
      exact (List.getElem?_eq_some_iff.mp hu).1
    refine wpAny_pyNext_enum_itemD dr he ⟨hit, tp⟩ ll ne1 (by simp [ne1, Ne.symm ne3]) fun y g tk hy ho st2 hT _ hk => ?_
    have yu : y = u := by
      have : its[i]? = some y := by simpa using hy
      rw [hu] at this
      exact (Option.some.inj this).symm
    subst yu
    refine ⟨_, rfl, wpAny_letOwnedTupleGo_enum (s := { s with heap := g, toks := tk + 1 }) ho fun g2 he2 sb => ?_⟩
    have hT2 : g2.get? s.heap.objs.size = some { cls := .type "tuple", data := .seq #[.int i tk, y] } := (sb.2 _ (Nat.ne_of_gt lt1)).trans hT
    have new : ObjOk X.prog X.w (upd H s.heap.objs.size (.tup [.int (i : Nat), x])) g2 s.heap.objs.size (.tup [.int (i : Nat), x]) :=
      ⟨by show 2 ≤ sizeLine; decide, [.int i tk, y], .cons ⟨_, rfl⟩ (.cons ru .nil), ⟨_, hT2, rfl, _, rfl⟩⟩
    have J1 : Inv X pins σ (upd H s.heap.objs.size (.tup [.int (i : Nat), x])) { s with heap := g2, toks := tk + 1 } :=
      I.turnedNew (ch := [e, it]) (fun b ob hb q => (sb.2 b (fun y => hb (by simp [y]))).trans (hk b ob (fun y => hb (by simp [y])) (fun y => hb (by simp [y])) q)) hf (Nat.le_refl _) new
    refine ⟨.ref s.heap.objs.size, _, J1, rfl, ⟨_, x, rfl, I.hok.fresh (Nat.le_refl _), rfl, fun ys hy => by rw [I.tuple_inj hy hq]; exact hx⟩, ⟨⟨y, ?_⟩, st2.1.at fun o q => (sb.2 it (Ne.symm ne1)).trans q, ne1, ne2, ne3⟩, fun b hb => ?_⟩
    · rw [show ((i + 1 : Nat) : Int) = (i : Int) + 1 by omega]
      exact he2
    · have lb : b < s.heap.objs.size := by
        rcases (show b = e ∨ b = it by simpa using hb) with y | y
        · rw [y]; exact lt1
        · rw [y]; exact lt2
      rw [upd_ne (Nat.ne_of_lt lb)]
      exact (hf b hb).1
  done := by
    intro X hP hw hK hc i pins s σ H E I hf st hg
    subst hP hw hK
    obtain ⟨⟨old, he⟩, hit, ne1, ne2, ne3⟩ := st
    obtain ⟨xs, hq, hx⟩ := hg
    obtain ⟨its, rv, p, _⟩ := I.tuple hq
    obtain ⟨f0, f1, f2, f3, f4, f5⟩ := hf it (by simp)
    have tp : s.heap.IsTuple a its.toArray := p
    have hl := rv.length
    have hT : s.TypeIs (.ref e) "enumerate" := ⟨_, he, rfl⟩
    have dn : its.toArray[i]? = none := by simp; omega
    unfold pyNext
    refine wpAny_bind (wpAny_attempt (wpAny_callSpecial?_slot (name := Str.ofString "__next__") hT PySem.F.slot_enumerate_next (wpAny_call_entry PySem.F.slot_enumerate_next hT PySem.F.entry_enumerate_next ?_ (PySem.F.args_enumerate_next_1 _))))
    show wpAny _ _ (field (.ref e) 2 >>= _) _ _ _
    refine wpAny_bind (wpAny_field he rfl (x := .ref it) rfl ?_)
    refine wpAny_bind (wpAny_nextOf_tuple_end (show _ = none from I.ok.hd hc) hit tp dn fun g y eb hy => ?_)
    obtain ⟨o, ho, hc⟩ := hy
    refine wpAny_bind (wpAny_isInstance (T := "StopIteration") (b := true) ⟨o, ho, hc⟩ isSubtype_stop ?_)
    exact wpAny_pure ⟨rfl, I.turned (t' := s.toks) (fun b o hb q => eb b o hb q) f0 f1 f3 f4 f5⟩
  self := fun A i s Q E st h => let ⟨⟨_, he⟩, _⟩ := st; wpAny_pyIter_enum he h
def iEnS (K : PySem.W.Frag) (ta : TA) : TI := fun σ H R => ta σ H fun vs H1 => ∃ a, vs = [.ref a] ∧ ((∃ xs, SqL K H1 a xs ∧ R (Ite K a) H1) ∨ (∃ xs, SqT K H1 a xs ∧ R (Itn K a) H1))
theorem pi_enS {X : Cx} {e : Expr} {ta : TA} {p pos tpos : Pos} {elts : List Expr} {kk : Nat} (hg : Gl X "enumerate") (hm : X.mg "enumerate" = none) (ha : PA X [e] ta) (hs : starEach [e] X.env = [(false, eval e X.env)]) :
    PI X (.Tuple elts kk tpos) (.Call (.Name "enumerate" p) [e] [] pos) (iEnS X.K ta) := by
  refine ⟨fun pins z σ H R I h => ?_⟩
  refine Call_ (ld_blt I hg hm boot_enumerate (PyProof.Rows.callWith_type1 (thn (ha.run pos pins z σ H _ I h) fun us z1 ⟨vs, H1, J1, r1, q1⟩ => ?_) hs rfl))
  obtain ⟨a, ex, q⟩ := q1
  subst ex
  cases r1 with
  | cons r rr =>
    cases rr
    cases r
    have up : ∀ b, b = z1.heap.objs.size + 1 ∨ b = z1.heap.objs.size → z1.heap.objs.size ≤ b := fun b y => by rcases y with y | y <;> omega
    rcases q with ⟨xs, hq, q⟩ | ⟨xs, hq, q⟩
    · obtain ⟨its, rv, p', _⟩ := J1.list hq
      refine call_enumerate_list p'.isList fun g he hit _ hk => wpAny_pyIter_enum he ?_
      have J2 : Inv X pins σ H1 { z1 with heap := g } := J1.kept (t' := z1.toks) hk
      refine ⟨_, [z1.heap.objs.size + 1, z1.heap.objs.size], _, _, H1, rfl, J2, turn_enum a _ _, ⟨⟨.none, he⟩, hit, Nat.succ_ne_self _⟩, fun b hb => ?_, q⟩
      have le := up b (by simpa using hb)
      exact J1.fpOk le (J1.hok.fresh le)
    · obtain ⟨its, rv, p', _⟩ := J1.tuple hq
      have tp : z1.heap.IsTuple a its.toArray := p'
      have la : a < z1.heap.objs.size := by obtain ⟨_, y, _⟩ := tp; exact Heap.lt_size y
      refine call_en1 (begins_tuple a its.toArray) tp fun g he hc hk => wpAny_pyIter_enum he ?_
      have J2 : Inv X pins σ H1 { z1 with heap := g } := J1.kept (t' := z1.toks) hk
      refine ⟨_, [z1.heap.objs.size + 1, z1.heap.objs.size], _, _, H1, rfl, J2, turn_enT a _ _, ⟨⟨.none, he⟩, ⟨_, hc, rfl, rfl⟩, Nat.succ_ne_self _, Nat.ne_of_lt la, Nat.ne_of_lt (Nat.lt_succ_of_lt la)⟩, fun b hb => ?_, q⟩
      have le := up b (by simpa using hb)
      exact J1.fpOk le (J1.hok.fresh le)
/-! zip of lists and tuples in any mix -/
def SqS (K : PySem.W.Frag) (t : Bool) (H : Hp) (a : Addr) (xs : List V) : Prop := match t with
  | true => SqT K H a xs
  | false => SqL K H a xs
def ItS (t : Bool) (h : Heap) (it a : Addr) (i : Nat) : Prop := match t with
  | true => h.IsTupleIter it a i
  | false => h.IsListIter it a i
def SeqH (t : Bool) (h : Heap) (a : Addr) (items : Array Value) : Prop := match t with
  | true => h.IsTuple a items
  | false => h.IsList a items
theorem ItS.keep {t : Bool} {h h' : Heap} {it a : Addr} {i : Nat} (x : ItS t h it a i) (k : ∀ o, h.get? it = some o → h'.get? it = some o) : ItS t h' it a i := by
  cases t with
  | true => exact Heap.IsTupleIter.at x k
  | false => exact Heap.IsListIter.at x k
theorem ItS.obj {t : Bool} {h : Heap} {it a : Addr} {i : Nat} (x : ItS t h it a i) : ∃ o, h.get? it = some o ∧ ∀ v, o.data ≠ .cell v := by
  cases t with
  | true => obtain ⟨o, e, _, d⟩ := x; exact ⟨o, e, fun v q => by rw [d] at q; cases q⟩
  | false => obtain ⟨o, e, _, d⟩ := x; exact ⟨o, e, fun v q => by rw [d] at q; cases q⟩
theorem drawsS {prog : Program} {w : World} {A : Around} (t : Bool) (hh : A.handled = none) (it a : Addr) (ne : a ≠ it) (items : Array Value) :
    Draws prog w A it [it, a] items.size (fun i v => items[i]? = some v) (fun i h => ItS t h it a i ∧ SeqH t h a items) := by
  cases t with
  | true => exact Draws.tuple hh it a ne items
  | false => exact Draws.list hh it a ne items
theorem seqS_of {X : Cx} {pins : List (Addr × Obj)} {σ : Sg} {H : Hp} {s : Shared} {t : Bool} {a : Addr} {xs : List V} (I : Inv X pins σ H s) (h : SqS X.K t H a xs) : ∃ its, Vals xs its ∧ SeqH t s.heap a its.toArray ∧ a < s.heap.objs.size ∧ ∀ ys, SqS X.K t H a ys → ys = xs := by
  cases t with
  | true =>
    obtain ⟨its, rv, p, _⟩ := I.tuple h
    have tp : s.heap.IsTuple a its.toArray := p
    exact ⟨its, rv, tp, by obtain ⟨_, y, _⟩ := tp; exact Heap.lt_size y, fun ys hy => I.tuple_inj hy h⟩
  | false =>
    obtain ⟨its, rv, p, _⟩ := I.list h
    exact ⟨its, rv, p.isList, p.lt, fun ys hy => I.list_inj hy h⟩
def ItzS (K : PySem.W.Frag) (t u : Bool) (a b : Addr) : L2.It :=
  ⟨fun i H => ∃ (xs ys : List V) (x y : V), SqS K t H a xs ∧ SqS K u H b ys ∧ xs[i]? = some x ∧ ys[i]? = some y,
   fun i H v H' => ∃ T x y, v = .ref T ∧ H T = none ∧ H' = upd H T (.tup [x, y]) ∧ (∀ xs, SqS K t H a xs → xs[i]? = some x) ∧ ∀ ys, SqS K u H b ys → ys[i]? = some y,
   fun i H => ∃ xs ys : List V, SqS K t H a xs ∧ SqS K u H b ys ∧ i ≤ xs.length ∧ i ≤ ys.length ∧ (i = xs.length ∨ i = ys.length)⟩
theorem turn_zipS {P : Program} {w : World} {K : PySem.W.Frag} {elts : List Expr} {kk : Nat} {tpos : Pos} {t u : Bool} {a b z TI TO i1 i2 : Addr} (S : ZipSep2 z TI TO i1 i2 [i1, a] [i2, b]) (na : a ≠ i1) (nb : b ≠ i2) :
    Turn P w K (.Tuple elts kk tpos) (ItzS K t u a b) [z, TI, TO, i1, i2] z (fun i h => IsZip h z TI TO .none ∧ IsTupOf2 h TI (.ref i1) (.ref i2) ∧ (∃ x y, IsTupOf2 h TO x y) ∧ ItS t h i1 a i ∧ ItS u h i2 b i) where
  mem := by simp
  obj := fun i h st c hc => by
    obtain ⟨hz, hTI, ⟨x, y, hTO⟩, h1, h2⟩ := st
    rcases (show c = z ∨ c = TI ∨ c = TO ∨ c = i1 ∨ c = i2 by simpa using hc) with q | q | q | q | q
    · rw [q]; exact ⟨_, hz, fun v q => nomatch q⟩
    · rw [q]; exact ⟨_, hTI, fun v q => nomatch q⟩
    · rw [q]; exact ⟨_, hTO, fun v q => nomatch q⟩
    · rw [q]; exact h1.obj
    · rw [q]; exact h2.obj
  keep := fun i h h' st k => by
    obtain ⟨hz, hTI, ⟨x, y, hTO⟩, h1, h2⟩ := st
    exact ⟨k z (by simp) _ hz, k TI (by simp) _ hTI, ⟨x, y, k TO (by simp) _ hTO⟩, h1.keep fun o q => k i1 (by simp) o q, h2.keep fun o q => k i2 (by simp) o q⟩
  item := by
    intro X hP hw hK hc i pins s σ H E I hf st hg
    subst hP hw hK
    obtain ⟨hz, hTI, ⟨x0, y0, hTO⟩, h1, h2⟩ := st
    obtain ⟨xs, ys, x, y, hqx, hqy, hx, hy⟩ := hg
    obtain ⟨its, rv, p, la, in1⟩ := seqS_of I hqx
    obtain ⟨its2, rv2, p2, lb, in2⟩ := seqS_of I hqy
    obtain ⟨v1, hv1, rv1⟩ := rv.get hx
    obtain ⟨v2, hv2, rv2'⟩ := rv2.get hy
    have hzl : z < s.heap.objs.size := Heap.lt_size hz
    have l1 : i < its.toArray.size := by rw [List.size_toArray]; exact (List.getElem?_eq_some_iff.mp hv1).1
    have l2 : i < its2.toArray.size := by rw [List.size_toArray]; exact (List.getElem?_eq_some_iff.mp hv2).1
    have D1 := drawsS (prog := X.prog) (w := X.w) (A := X.A.in1) t (show X.A.in1.handled = none from I.ok.hd hc) i1 a na its.toArray
    have D2 := drawsS (prog := X.prog) (w := X.w) (A := X.A.in1) u (show X.A.in1.handled = none from I.ok.hd hc) i2 b nb its2.toArray
    refine wpAny_pyNext_zipD2_item S D1 D2 hz hTI hTO ⟨h1, p⟩ ⟨h2, p2⟩ l1 l2 fun y1 y2 h' tk e1 e2 z' TO' st1 st2 hT hsz hk => ?_
    have ey1 : y1 = v1 := by
      have q : its[i]? = some y1 := by simpa using e1
      rw [hv1] at q
      exact (Option.some.inj q).symm
    have ey2 : y2 = v2 := by
      have q : its2[i]? = some y2 := by simpa using e2
      rw [hv2] at q
      exact (Option.some.inj q).symm
    subst ey1 ey2
    refine ⟨_, rfl, wpAny_letOwnedTupleGo_zip (s := { s with heap := h', toks := tk }) z' fun g z2 sb => ?_⟩
    have hT2 : g.get? s.heap.objs.size = some { cls := .type "tuple", data := .seq #[y1, y2] } := (sb.2 _ (Nat.ne_of_gt hzl)).trans hT
    have new : ObjOk X.prog X.w (upd H s.heap.objs.size (.tup [x, y])) g s.heap.objs.size (.tup [x, y]) :=
      ⟨by show 2 ≤ sizeLine; decide, [y1, y2], .cons rv1 (.cons rv2' .nil), ⟨_, hT2, rfl, _, rfl⟩⟩
    have J1 : Inv X pins σ (upd H s.heap.objs.size (.tup [x, y])) { s with heap := g, toks := tk } :=
      I.turnedNew (ch := [z, TI, TO, i1, i2]) (fun c o hb q => (sb.2 c (fun q' => hb (by simp [q']))).trans (hk c o (fun q' => hb (by simp [q'])) (fun q' => hb (by simp [q'])) (fun q' => hb (by simp [q'])) (fun q' => hb (by simp [q'])) q)) hf (Nat.le_refl _) new
    refine ⟨.ref s.heap.objs.size, _, J1, rfl, ⟨_, x, y, rfl, I.hok.fresh (Nat.le_refl _), rfl, fun l hl => by rw [in1 l hl]; exact hx, fun l hl => by rw [in2 l hl]; exact hy⟩, ⟨z2, ?_, ⟨y1, y2, ?_⟩, ?_, ?_⟩, fun c hcm => ?_⟩
    · exact (sb.2 _ S.TIz).trans (hk _ _ S.TIz S.TITO S.TIi1 S.TIi2 hTI)
    · exact (sb.2 _ S.TOz).trans TO'
    · exact st1.1.keep fun o q => (sb.2 _ (Ne.symm S.zi1)).trans q
    · exact st2.1.keep fun o q => (sb.2 _ (Ne.symm S.zi2)).trans q
    · have hlt : c < s.heap.objs.size := by
        rcases (show c = z ∨ c = TI ∨ c = TO ∨ c = i1 ∨ c = i2 by simpa using hcm) with q | q | q | q | q
        · rw [q]; exact hzl
        · rw [q]; exact Heap.lt_size hTI
        · rw [q]; exact Heap.lt_size hTO
        · rw [q]; obtain ⟨_, e1, _⟩ := h1.obj; exact Heap.lt_size e1
        · rw [q]; obtain ⟨_, e1, _⟩ := h2.obj; exact Heap.lt_size e1
      rw [upd_ne (Nat.ne_of_lt hlt)]
      exact (hf c hcm).1
  done := by
    intro X hP hw hK hc i pins s σ H E I hf st hg
    subst hP hw hK
    obtain ⟨hz, hTI, ⟨x0, y0, hTO⟩, h1, h2⟩ := st
    obtain ⟨xs, ys, hqx, hqy, b1, b2, hend⟩ := hg
    obtain ⟨its, rv, p, la, in1⟩ := seqS_of I hqx
    obtain ⟨its2, rv2, p2, lb, in2⟩ := seqS_of I hqy
    have l1 := rv.length
    have l2 := rv2.length
    have D1 := drawsS (prog := X.prog) (w := X.w) (A := X.A.in1) t (show X.A.in1.handled = none from I.ok.hd hc) i1 a na its.toArray
    have D2 := drawsS (prog := X.prog) (w := X.w) (A := X.A.in1) u (show X.A.in1.handled = none from I.ok.hd hc) i2 b nb its2.toArray
    have s1 : its.toArray.size = xs.length := by rw [List.size_toArray]; exact l1.symm
    have s2 : its2.toArray.size = ys.length := by rw [List.size_toArray]; exact l2.symm
    refine wpAny_pyNext_zipD2_end S D1 D2 hz hTI hTO ⟨h1, p⟩ ⟨h2, p2⟩ (by rw [s1]; exact b1) (by rw [s2]; exact b2) (by rw [s1, s2]; exact hend) fun h' tk hk => ⟨rfl, I.turnedL (t' := tk) (ch := [z, TI, TO, i1, i2]) (fun c o hb q =>
      hk c o (fun q' => hb (by simp [q'])) (fun q' => hb (by simp [q'])) (fun q' => hb (by simp [q'])) (fun q' => hb (by simp [q'])) q) hf⟩
  self := fun A i s Q E st h => wpAny_pyIter_zip st.1 h
def iZipS (K : PySem.W.Frag) (ta : TA) : TI := fun σ H R => ta σ H fun vs H1 => ∃ t u a b xs ys, vs = [.ref a, .ref b] ∧ SqS K t H1 a xs ∧ SqS K u H1 b ys ∧ R (ItzS K t u a b) H1
theorem beginsS {t : Bool} {a : Addr} {items : Array Value} : ∃ cell : Obj, Begins (.ref a) cell (fun h => SeqH t h a items) ∧ ∀ (g : Heap) (it : Addr), g.get? it = some cell → ItS t g it a 0 := by
  cases t with
  | true => exact ⟨_, begins_tuple a items, fun g it h => ⟨_, h, rfl, rfl⟩⟩
  | false => exact ⟨_, begins_list a items, fun g it h => ⟨_, h, rfl, rfl⟩⟩
theorem pi_zipS {X : Cx} {e e2 : Expr} {ta : TA} {p pos tpos : Pos} {elts : List Expr} {kk : Nat} (hg : Gl X "zip") (hm : X.mg "zip" = none) (ha : PA X [e, e2] ta)
    (hs : starEach [e, e2] X.env = (false, eval e X.env) :: starEach [e2] X.env) (hpl : (backTo pos (starEach [e2] X.env)).any (·.1) = false) :
    PI X (.Tuple elts kk tpos) (.Call (.Name "zip" p) [e, e2] [] pos) (iZipS X.K ta) := by
  refine ⟨fun pins s σ H R I h => ?_⟩
  refine Call_ (ld_blt I hg hm PyProof.Rows.boot_zip (PyProof.Rows.callWith_type1 (thn (ha.run pos pins s σ H _ I h) fun us s1 ⟨vs, H1, I1, r1, q1⟩ => ?_) hs hpl))
  obtain ⟨t, u, a, b, xs, ys, ex, hqx, hqy, q⟩ := q1
  subst ex
  cases r1 with
  | cons r rr =>
    cases rr with
    | cons r' rr =>
      cases rr
      cases r
      cases r'
      obtain ⟨its, rv, p1, la, _⟩ := seqS_of I1 hqx
      obtain ⟨its2, rv2, p2, lb, _⟩ := seqS_of I1 hqy
      obtain ⟨c1, B1, k1⟩ := beginsS (t := t) (a := a) (items := its.toArray)
      obtain ⟨c2, B2, k2⟩ := beginsS (t := u) (a := b) (items := its2.toArray)
      refine zip_begins2 B1 B2 p1 p2 fun h' hz hTI hTO h1 h2 hsz hk => wpAny_pyIter_zip hz ?_
      have I2 : Inv X pins σ H1 { s1 with heap := h' } := I1.kept (t' := s1.toks) hk
      have sep : ZipSep2 (s1.heap.objs.size + 4) (s1.heap.objs.size + 2) (s1.heap.objs.size + 3) s1.heap.objs.size (s1.heap.objs.size + 1) [s1.heap.objs.size, a] [s1.heap.objs.size + 1, b] :=
        zip_sep2 (N := s1.heap.objs.size) (fp1 := [a]) (fp2 := [b]) (fun c hc => by rw [List.mem_singleton.mp hc]; exact la) (fun c hc => by rw [List.mem_singleton.mp hc]; exact lb)
      refine ⟨s1.heap.objs.size + 4, [s1.heap.objs.size + 4, s1.heap.objs.size + 2, s1.heap.objs.size + 3, s1.heap.objs.size, s1.heap.objs.size + 1], _, _, H1, rfl, I2, turn_zipS sep (Nat.ne_of_lt la) (Nat.ne_of_lt (Nat.lt_succ_of_lt lb)), ⟨hz, hTI, ⟨_, _, hTO⟩, k1 _ _ h1, k2 _ _ h2⟩, fun c hcm => ?_, q⟩
      have hle : s1.heap.objs.size ≤ c := by
        rcases (show c = s1.heap.objs.size + 4 ∨ c = s1.heap.objs.size + 2 ∨ c = s1.heap.objs.size + 3 ∨ c = s1.heap.objs.size ∨ c = s1.heap.objs.size + 1 by simpa using hcm) with z | z | z | z | z
        · rw [z]; exact Nat.le_add_right _ _
        · rw [z]; exact Nat.le_add_right _ _
        · rw [z]; exact Nat.le_add_right _ _
        · rw [z]; exact Nat.le_refl _
        · rw [z]; exact Nat.le_add_right _ _
      exact I1.fpOk hle (I1.hok.fresh hle)
end DP
/-! The pure layer, part L: what a loop walks; comprehensions. -/
namespace DP
open PySem PySem.Spec PyProof.Rows L2
/-- the items of a walk, as they come at any later time -/
def Wk (K : PySem.W.Frag) (Z O : Addr → Prop) (J : L2.It) (ds : List D) (H : Hp) : Prop := ∀ Z2 H2, Keep Z H H2 → Grow Z Z2 H → Muts Z2 H2 → Off K Z2 → ∀ i : Nat,
  (i < ds.length → J.go i H2 ∧ ∀ x H3, J.yld i H2 x H3 → (H3 = H2 ∨ ∃ T us, H2 T = none ∧ H3 = upd H2 T (.tup us)) ∧ ∃ d, ds[i]? = some d ∧ Rp K Z2 H3 x d) ∧ (i = ds.length → J.stop i H2)
section
variable {K : PySem.W.Frag} {Z O : Addr → Prop} {H : Hp} {ds : List D} {a : Addr}
theorem wk_list (m : Muts Z H) (hO : ∀ a, O a → Z a) (h : Rp K Z H (.ref a) (.list ds)) : Wk K Z O (Itl K a) ds H := fun Z2 H2 k g m2 kf i => by
  have h2 := Rp.keep m k g kf h
  cases h2 with
  | lst n s r =>
    refine ⟨fun hi => ?_, fun hi => ⟨_, s, by rw [r.length]; exact Nat.le_of_eq hi.symm⟩⟩
    obtain ⟨v, h1, h2⟩ := r.get (List.getElem?_eq_getElem hi)
    refine ⟨⟨_, v, s, h1⟩, fun x H3 y => ?_⟩
    obtain ⟨rfl, y⟩ := y
    have := y _ s
    rw [h1] at this
    cases this
    exact ⟨.inl rfl, _, List.getElem?_eq_getElem hi, h2⟩
theorem wk_tup (m : Muts Z H) (hO : ∀ a, O a → Z a) (h : Rp K Z H (.ref a) (.tuple ds)) : Wk K Z O (Itt K a) ds H := fun Z2 H2 k g m2 kf i => by
  have h2 := Rp.keep m k g kf h
  cases h2 with
  | tup s r =>
    refine ⟨fun hi => ?_, fun hi => ⟨_, s, by rw [r.length]; exact Nat.le_of_eq hi.symm⟩⟩
    obtain ⟨v, h1, h2⟩ := r.get (List.getElem?_eq_getElem hi)
    refine ⟨⟨_, v, s, h1⟩, fun x H3 y => ?_⟩
    obtain ⟨rfl, y⟩ := y
    have := y _ s
    rw [h1] at this
    cases this
    exact ⟨.inl rfl, _, List.getElem?_eq_getElem hi, h2⟩
theorem irange_get (lo : Int) (n i : Nat) (h : i < n) : (irange lo n)[i]? = some (.int (lo + i)) := by simp [irange, h]
theorem wk_range (lo : Int) (n : Nat) : Wk K Z O (Itr lo n) (irange lo n) H := fun Z2 H2 k g m2 kf i => by
  have hl : (irange lo n).length = n := by simp [irange]
  rw [hl]
  refine ⟨fun hi => ⟨hi, fun x H3 y => ?_⟩, fun hi => Nat.le_of_eq hi.symm⟩
  obtain ⟨rfl, rfl⟩ := y
  exact ⟨.inl rfl, _, irange_get lo n i hi, .int _⟩
theorem irangeD_get (lo : Int) (n i : Nat) (h : i < n) : (irangeD lo n)[i]? = some (.int (lo + i * (-1))) := by simp [irangeD, h]
theorem wk_rangeD (lo : Int) (n : Nat) : Wk K Z O (Itc lo (-1) n) (irangeD lo n) H := fun Z2 H2 k g m2 kf i => by
  have hl : (irangeD lo n).length = n := by simp [irangeD]
  rw [hl]
  refine ⟨fun hi => ⟨hi, fun x H3 y => ?_⟩, fun hi => Nat.le_of_eq hi.symm⟩
  obtain ⟨rfl, rfl⟩ := y
  exact ⟨.inl rfl, _, irangeD_get lo n i hi, .int _⟩
theorem enumD_get : ∀ (ds : List D) (j i : Nat) (d : D), ds[i]? = some d → (enumD j ds)[i]? = some (.tuple [.int ((j + i : Nat) : Int), d])
  | [], _, _, _, h => by simp at h
  | x :: r, j, 0, d, h => by simp at h; subst h; simp [enumD]
  | x :: r, j, i + 1, d, h => by
    have := enumD_get r (j + 1) i d (by simpa using h)
    simp only [enumD, List.getElem?_cons_succ]
    rw [this, show j + 1 + i = j + (i + 1) by omega]
theorem enumD_len : ∀ (ds : List D) (j : Nat), (enumD j ds).length = ds.length
  | [], _ => rfl
  | _ :: r, j => by simp [enumD, enumD_len r (j + 1)]
theorem wk_enum (m : Muts Z H) (hO : ∀ a, O a → Z a) (h : Rp K Z H (.ref a) (.list ds)) : Wk K Z O (Ite K a) (enumD 0 ds) H := fun Z2 H2 k g m2 kf i => by
  have h2 := Rp.keep m k g kf h
  rw [enumD_len]
  cases h2 with
  | lst n s r =>
    refine ⟨fun hi => ?_, fun hi => ⟨_, s, by rw [r.length]; exact Nat.le_of_eq hi.symm⟩⟩
    obtain ⟨v, h1, h2⟩ := r.get (List.getElem?_eq_getElem hi)
    refine ⟨⟨_, v, s, h1⟩, fun x H3 y => ?_⟩
    obtain ⟨T, w, rfl, nT, rfl, y⟩ := y
    have := y _ s
    rw [h1] at this
    cases this
    refine ⟨.inr ⟨T, _, nT, rfl⟩, _, enumD_get ds 0 i _ (List.getElem?_eq_getElem hi), ?_⟩
    rw [Nat.zero_add]
    exact Rp.new (.cons (.int _) (.cons h2 .nil)) nT m2 kf
theorem wk_enumT (m : Muts Z H) (hO : ∀ a, O a → Z a) (h : Rp K Z H (.ref a) (.tuple ds)) : Wk K Z O (Itn K a) (enumD 0 ds) H := fun Z2 H2 k g m2 kf i => by
  have h2 := Rp.keep m k g kf h
  rw [enumD_len]
  cases h2 with
  | tup s r =>
    refine ⟨fun hi => ?_, fun hi => ⟨_, s, by rw [r.length]; exact Nat.le_of_eq hi.symm⟩⟩
    obtain ⟨v, h1, h2⟩ := r.get (List.getElem?_eq_getElem hi)
    refine ⟨⟨_, v, s, h1⟩, fun x H3 y => ?_⟩
    obtain ⟨T, w, rfl, nT, rfl, y⟩ := y
    have := y _ s
    rw [h1] at this
    cases this
    refine ⟨.inr ⟨T, _, nT, rfl⟩, _, enumD_get ds 0 i _ (List.getElem?_eq_getElem hi), ?_⟩
    rw [Nat.zero_add]
    exact Rp.new (.cons (.int _) (.cons h2 .nil)) nT m2 kf
theorem zipD_get : ∀ (xs ys : List D) (i : Nat) (x y : D), xs[i]? = some x → ys[i]? = some y → (zipD xs ys)[i]? = some (.tuple [x, y])
  | [], _, _, _, _, h, _ => by simp at h
  | _ :: _, [], _, _, _, _, h => by simp at h
  | a :: r, b :: t, 0, x, y, h, h' => by simp at h h'; subst h h'; simp [zipD]
  | a :: r, b :: t, i + 1, x, y, h, h' => by
    simp only [zipD, List.getElem?_cons_succ]
    exact zipD_get r t i x y (by simpa using h) (by simpa using h')
theorem zipD_len : ∀ (xs ys : List D), (zipD xs ys).length = min xs.length ys.length
  | [], _ => by simp [zipD]
  | _ :: _, [] => by simp [zipD]
  | _ :: r, _ :: t => by simp [zipD, zipD_len r t, Nat.succ_min_succ]
theorem RpS {v : V} {d : D} {xs : List D} (h : Rp K Z H v d) (e : seqOf d = some xs) : ∃ (a : Addr) (t : Bool) (vs : List V), v = .ref a ∧ SqS K t H a vs ∧ RpAll K Z H vs xs := by
  cases d <;> simp only [seqOf, Option.some.injEq, reduceCtorEq] at e
  · subst e
    cases h with
    | lst n s r => exact ⟨_, false, _, rfl, s, r⟩
  · subst e
    cases h with
    | tup s r => exact ⟨_, true, _, rfl, s, r⟩
theorem wk_zip {a b : Addr} {d d' : D} {xs ys : List D} {t u : Bool} (hd : seqOf d = some xs) (hd' : seqOf d' = some ys) (ht : ∀ Z H, Rp K Z H (.ref a) d → ∃ vs, SqS K t H a vs ∧ RpAll K Z H vs xs) (hu : ∀ Z H, Rp K Z H (.ref b) d' → ∃ vs, SqS K u H b vs ∧ RpAll K Z H vs ys)
    (m : Muts Z H) (hO : ∀ a, O a → Z a) (h : Rp K Z H (.ref a) d) (h' : Rp K Z H (.ref b) d') : Wk K Z O (ItzS K t u a b) (zipD xs ys) H := fun Z2 H2 k g m2 kf i => by
  obtain ⟨vs, s, r⟩ := ht _ _ (Rp.keep m k g kf h)
  obtain ⟨ws, s', r'⟩ := hu _ _ (Rp.keep m k g kf h')
  rw [zipD_len]
  have l1 := r.length
  have l2 := r'.length
  refine ⟨fun hi => ?_, fun hi => ⟨_, _, s, s', by omega, by omega, by omega⟩⟩
  have i1 : i < xs.length := by omega
  have i2 : i < ys.length := by omega
  obtain ⟨v, h1, h2⟩ := r.get (List.getElem?_eq_getElem i1)
  obtain ⟨v', h1', h2'⟩ := r'.get (List.getElem?_eq_getElem i2)
  refine ⟨⟨_, _, v, v', s, s', h1, h1'⟩, fun x H3 y => ?_⟩
  obtain ⟨T, w, w', rfl, nT, rfl, y, y'⟩ := y
  have e1 := y _ s
  rw [h1] at e1
  cases e1
  have e2 := y' _ s'
  rw [h1'] at e2
  cases e2
  exact ⟨.inr ⟨T, _, nT, rfl⟩, _, zipD_get xs ys i _ _ (List.getElem?_eq_getElem i1) (List.getElem?_eq_getElem i2), Rp.new (.cons h2 (.cons h2' .nil)) nT m2 kf⟩
end
def pI (K : PySem.W.Frag) (ev : PEnv → Option (List D × PEnv)) : TI := fun σ H R => KOff K H → ∃ F O ρ ds ρ', EI K F O σ H ρ ∧ ev ρ = some (ds, ρ') ∧
  ∀ J H' O', KOff K H' → Step O O' H H' → EI K F O' σ H' ρ' → Wk K (Or2 F O') O' J ds H' → R J H'
section
variable {X : Cx} {N : List Str} {sc scs : Scope} {Γ : Sems} {G : Str → Option D} {py pa pb pc tg : Expr} {a b c : E} {pos : Pos} {pys : List Expr}
theorem PI.imp {t t' : TI} (h : PI X tg py t) (i : ∀ σ H R, t' σ H R → (KOff X.K H → t σ H fun J H' => KOff X.K H' → R J H')) : PI X tg py t' := ⟨fun pins s σ H R I q =>
  thn (h.run pins s σ H _ I (i _ _ _ q (koff_of I))) fun v s1 h1 => thn h1 fun itv s2 ⟨it, fp, tn, J, H', e, I', T, st, f, q⟩ => ⟨it, fp, tn, J, H', e, I', T, st, f, q (koff_of I')⟩⟩
theorem i_lst (ha : PE X pa (pE X.K (ev Γ G a))) : PI X tg pa (pI X.K (evi Γ G (.lst a))) := PI.imp (pi_list ha) fun σ H R q kf => by
  obtain ⟨F, O, ρ, ds, ρ', I, e, q⟩ := q kf
  have fin : ∀ r, ev Γ G a ρ = some (r, ρ') → (∀ F O v H, HR X.K F O σ H v r → Rp X.K (Or2 F O) H v (.list ds)) → iList X.K (pE X.K (ev Γ G a)) σ H fun J H' => KOff X.K H' → R J H' := fun r e1 hr => by
    refine one_ok I e1 fun x H1 O1 k1 s1 I1 hx => ?_
    have h1 := hr F O1 x H1 hx
    cases h1 with
    | lst n s r => exact ⟨_, rfl, ⟨_, s⟩, fun kk => q _ H1 O1 kk s1 I1 (wk_list I1.mf (fun _ z => .inr z) (.lst n s r))⟩
  simp only [evi] at e
  split at e
  · rename_i xs ρ1 e1
    simp only [Option.some.injEq, Prod.mk.injEq] at e
    obtain ⟨rfl, rfl⟩ := e
    exact fin _ e1 fun F O v H h => h
  · rename_i xs ρ1 e1
    simp only [Option.some.injEq, Prod.mk.injEq] at e
    obtain ⟨rfl, rfl⟩ := e
    exact fin _ e1 fun F O v H h => h
  · cases e
theorem i_tup (ha : PE X pa (pE X.K (ev Γ G a))) : PI X tg pa (pI X.K (evi Γ G (.tup a))) := PI.imp (pi_tup ha) fun σ H R q kf => by
  obtain ⟨F, O, ρ, ds, ρ', I, e, q⟩ := q kf
  simp only [evi] at e
  split at e
  · rename_i xs ρ1 e1
    simp only [Option.some.injEq, Prod.mk.injEq] at e
    obtain ⟨rfl, rfl⟩ := e
    refine one_ok I e1 fun x H1 O1 k1 s1 I1 hx => ?_
    have hx : Rp X.K (Or2 F O1) H1 x (.tuple xs) := hx
    cases hx with
    | tup s r => exact ⟨_, rfl, ⟨_, s⟩, fun kk => q _ H1 O1 kk s1 I1 (wk_tup I1.mf (fun _ z => .inr z) (.tup s r))⟩
  · cases e
def iSeq (K : PySem.W.Frag) (tl : TE) : TI := fun σ H R => tl σ H fun x H1 => ∃ a, x = .ref a ∧ (((∃ xs, SqL K H1 a xs) ∧ R (Itl K a) H1) ∨ ((∃ xs, SqT K H1 a xs) ∧ R (Itt K a) H1))
theorem pi_seq {l : Expr} {tl : TE} (hl : PE X l tl) : PI X tg l (iSeq X.K tl) := by
  refine ⟨fun pins s σ H R I h => ?_⟩
  refine thn (hl.run pins s σ H _ I h) fun v s1 ⟨x, H1, I1, r1, q1⟩ => ?_
  obtain ⟨a, e, q⟩ := q1
  subst e
  cases r1
  rcases q with ⟨⟨xs, hq⟩, q⟩ | ⟨⟨xs, hq⟩, q⟩
  · obtain ⟨its, rv, p, hz⟩ := I1.list hq
    refine wpAny_pyIter_list p.isList ?_
    refine ⟨s1.heap.objs.size, [s1.heap.objs.size], _, _, H1, rfl, I1.kept (t' := s1.toks) fun b o e => Heap.get?_push_of_some _ e, turn_list a _, ⟨_, Heap.get?_push_size _ rfl, rfl, rfl⟩, fun b hb => ?_, q⟩
    have e : b = s1.heap.objs.size := by simpa using hb
    subst e
    exact I1.fpOk (Nat.le_refl _) (I1.hok.fresh (Nat.le_refl _))
  · obtain ⟨its, rv, p, hz⟩ := I1.tuple hq
    refine wpAny_pyIter_tuple (show s1.heap.IsTuple a its.toArray from p) ?_
    refine ⟨s1.heap.objs.size, [s1.heap.objs.size], _, _, H1, rfl, I1.kept (t' := s1.toks) fun b o e => Heap.get?_push_of_some _ e, turn_tuple a _, ⟨_, Heap.get?_push_size _ rfl, rfl, rfl⟩, fun b hb => ?_, q⟩
    have e : b = s1.heap.objs.size := by simpa using hb
    subst e
    exact I1.fpOk (Nat.le_refl _) (I1.hok.fresh (Nat.le_refl _))
theorem i_seq (ha : PE X pa (pE X.K (ev Γ G a))) : PI X tg pa (pI X.K (evi Γ G (.seq a))) := PI.imp (pi_seq ha) fun σ H R q kf => by
  obtain ⟨F, O, ρ, ds, ρ', I, e, q⟩ := q kf
  have fin : ∀ r d, ev Γ G a ρ = some (r, ρ') → seqOf d = some ds → (∀ F O v H, HR X.K F O σ H v r → Rp X.K (Or2 F O) H v d) → iSeq X.K (pE X.K (ev Γ G a)) σ H fun J H' => KOff X.K H' → R J H' := fun r d e1 hd hr => by
    refine one_ok I e1 fun x H1 O1 k1 s1 I1 hx => ?_
    have h1 := hr F O1 x H1 hx
    cases d with
    | list xs =>
      simp only [seqOf, Option.some.injEq] at hd
      subst hd
      cases h1 with
      | lst n s r => exact ⟨_, rfl, .inl ⟨⟨_, s⟩, fun kk => q _ H1 O1 kk s1 I1 (wk_list I1.mf (fun _ z => .inr z) (.lst n s r))⟩⟩
    | tuple xs =>
      simp only [seqOf, Option.some.injEq] at hd
      subst hd
      cases h1 with
      | tup s r => exact ⟨_, rfl, .inr ⟨⟨_, s⟩, fun kk => q _ H1 O1 kk s1 I1 (wk_tup I1.mf (fun _ z => .inr z) (.tup s r))⟩⟩
    | _ => cases hd
  simp only [evi] at e
  split at e
  · rename_i r ρ1 e1
    split at e
    · rename_i d e2
      split at e
      · rename_i xs e3
        simp only [Option.some.injEq, Prod.mk.injEq] at e
        obtain ⟨rfl, rfl⟩ := e
        cases r with
        | v d' => simp only [toV, Option.some.injEq] at e2; subst e2; exact fin _ _ e1 e3 fun F O v H h => h
        | fr b => simp only [toV, Option.some.injEq] at e2; subst e2; exact fin _ _ e1 e3 fun F O v H h => h
        | pk i => cases e2
      · cases e
    · cases e
  · cases e
theorem small62_of {i : Int} (h : small62 i = true) : -(2 ^ 62) ≤ i ∧ i < 2 ^ 62 := by
  simp only [small62, Bool.and_eq_true, decide_eq_true_eq] at h
  omega
theorem i_r1 {x : Str} {p : Pos} (ok : XOk X N sc scs Γ G) (hx : x = "range") (hg : gnC sc x = true) (hs : notStar pa = true) (ha : PE X pa (pE X.K (ev Γ G a))) : PI X tg (.Call (.Name x p) [pa] [] pos) (pI X.K (evi Γ G (.r1 a))) := by
  subst hx
  obtain ⟨g1, g2⟩ := gn_of ok hg
  have m := ok.blt "range" (by decide +kernel)
  refine PI.imp (pi_range1 g1 m (pa_cons ha pa_nil (star_of hs _)) (star_of hs _)) fun σ H R q kf => ?_
  obtain ⟨F, O, ρ, ds, ρ', I, e, q⟩ := q kf
  simp only [evi] at e
  split at e
  · rename_i j ρ1 e1
    split at e
    · rename_i hj
      simp only [Option.some.injEq, Prod.mk.injEq] at e
      obtain ⟨rfl, rfl⟩ := e
      obtain ⟨b1, b2⟩ := small62_of hj
      refine one_ok I e1 fun x H1 O1 k1 s1 I1 hx => ?_
      have hx : Rp X.K (Or2 F O1) H1 x (.int j) := hx
      cases hx
      exact ⟨j, rfl, b1, b2, fun kk => q _ H1 O1 kk s1 I1 (wk_range 0 j.toNat)⟩
    · cases e
  · cases e
theorem i_r2 {x : Str} {p : Pos} (ok : XOk X N sc scs Γ G) (hx : x = "range") (hg : gnC sc x = true) (hs : notStar pa = true) (hs2 : notStar pb = true) (ha : PE X pa (pE X.K (ev Γ G a))) (hb : PE X pb (pE X.K (ev Γ G b))) : PI X tg (.Call (.Name x p) [pa, pb] [] pos) (pI X.K (evi Γ G (.r2 a b))) := by
  subst hx
  obtain ⟨g1, g2⟩ := gn_of ok hg
  have m := ok.blt "range" (by decide +kernel)
  refine PI.imp (pi_range2 g1 m (pa_cons ha (pa_cons hb pa_nil (star_of hs2 _)) (star_of hs _)) (by rw [star_of hs, star_of hs2]; rfl) (by rw [star_of hs2]; rfl)) fun σ H R q kf => ?_
  obtain ⟨F, O, ρ, ds, ρ', I, e, q⟩ := q kf
  simp only [evi] at e
  split at e
  · rename_i i ρ1 e1
    split at e
    · rename_i j ρ2 e2
      split at e
      · rename_i hj
        simp only [Option.some.injEq, Prod.mk.injEq] at e
        obtain ⟨rfl, rfl⟩ := e
        simp only [Bool.and_eq_true] at hj
        obtain ⟨b1, b2⟩ := small62_of hj.1
        obtain ⟨b3, b4⟩ := small62_of hj.2
        refine two_ok I e1 e2 fun x y H1 O1 k1 s1 I1 hx hy => ?_
        have hx : Rp X.K (Or2 F O1) H1 x (.int i) := hx
        have hy : Rp X.K (Or2 F O1) H1 y (.int j) := hy
        cases hx
        cases hy
        exact ⟨i, j, rfl, ⟨b1, b2, b3, b4⟩, fun kk => q _ H1 O1 kk s1 I1 (wk_range i _)⟩
      · cases e
    · cases e
  · cases e
theorem i_rd {pc : Expr} {c : E} {x : Str} {p : Pos} (ok : XOk X N sc scs Γ G) (hx : x = "range") (hg : gnC sc x = true) (hs : notStar pa = true) (hs2 : notStar pb = true) (hs3 : notStar pc = true) (ha : PE X pa (pE X.K (ev Γ G a))) (hb : PE X pb (pE X.K (ev Γ G b))) (hc : PE X pc (pE X.K (ev Γ G c))) : PI X tg (.Call (.Name x p) [pa, pb, pc] [] pos) (pI X.K (evi Γ G (.rd a b c))) := by
  subst hx
  obtain ⟨g1, g2⟩ := gn_of ok hg
  have m := ok.blt "range" (by decide +kernel)
  refine PI.imp (pi_range3 g1 m (pa_cons ha (pa_cons hb (pa_cons hc pa_nil (star_of hs3 _)) (star_of hs2 _)) (star_of hs _)) (by rw [star_of hs, star_of hs2, star_of hs3]) (by rw [star_of hs2, star_of hs3]; rfl)) fun σ H R q kf => ?_
  obtain ⟨F, O, ρ, ds, ρ', I, e, q⟩ := q kf
  simp only [evi] at e
  split at e
  · rename_i i ρ1 e1
    split at e
    · rename_i j ρ2 e2
      split at e
      · rename_i k ρ3 e3
        split at e
        · rename_i hj
          simp only [Option.some.injEq, Prod.mk.injEq] at e
          obtain ⟨rfl, rfl⟩ := e
          simp only [Bool.and_eq_true, decide_eq_true_eq] at hj
          obtain ⟨⟨j1, j2⟩, rfl⟩ := hj
          obtain ⟨b1, b2⟩ := small62_of j1
          obtain ⟨b3, b4⟩ := small62_of j2
          refine two_ok I e1 e2 fun x y H1 O1 k1 s1 I1 hx hy => ?_
          have hx : Rp X.K (Or2 F O1) H1 x (.int i) := hx
          have hy : Rp X.K (Or2 F O1) H1 y (.int j) := hy
          cases hx
          cases hy
          refine one_ok I1 e3 fun z H2 O2 k2 s2 I2 hz => ?_
          have hz : Rp X.K (Or2 F O2) H2 z (.int (-1)) := hz
          cases hz
          exact ⟨i, j, -1, _, rfl, RgC.neg b1 b2 b3 b4, fun kk => q _ H2 O2 kk (s1.trans s2) I2 (wk_rangeD i _)⟩
        · cases e
      · cases e
    · cases e
  · cases e
theorem i_enum {x : Str} {p tpos : Pos} {elts : List Expr} {kk : Nat} (ok : XOk X N sc scs Γ G) (hx : x = "enumerate") (hg : gnC sc x = true) (hs : notStar pa = true) (ha : PE X pa (pE X.K (ev Γ G a))) : PI X (.Tuple elts kk tpos) (.Call (.Name x p) [pa] [] pos) (pI X.K (evi Γ G (.enum a))) := by
  subst hx
  obtain ⟨g1, g2⟩ := gn_of ok hg
  have m := ok.blt "enumerate" (by decide +kernel)
  refine PI.imp (pi_enS g1 m (pa_cons ha pa_nil (star_of hs _)) (star_of hs _)) fun σ H R q kf => ?_
  obtain ⟨F, O, ρ, ds, ρ', I, e, q⟩ := q kf
  simp only [evi] at e
  split at e
  · rename_i r ρ1 e1
    split at e
    · rename_i d er
      split at e
      · rename_i xs ed
        simp only [Option.some.injEq, Prod.mk.injEq] at e
        obtain ⟨rfl, rfl⟩ := e
        refine one_ok I e1 fun x H1 O1 k1 s1 I1 hx => ?_
        have h1 := hx.toV er
        cases d with
        | list ys =>
          simp only [seqOf, Option.some.injEq] at ed
          subst ed
          cases h1 with
          | lst n s r => exact ⟨_, rfl, .inl ⟨_, s, fun kk => q _ H1 O1 kk s1 I1 (wk_enum I1.mf (fun _ z => .inr z) (.lst n s r))⟩⟩
        | tuple ys =>
          simp only [seqOf, Option.some.injEq] at ed
          subst ed
          cases h1 with
          | tup s r => exact ⟨_, rfl, .inr ⟨_, s, fun kk => q _ H1 O1 kk s1 I1 (wk_enumT I1.mf (fun _ z => .inr z) (.tup s r))⟩⟩
        | _ => cases ed
      · cases e
    · cases e
  · cases e
theorem i_zip {x : Str} {p tpos : Pos} {elts : List Expr} {kk : Nat} (ok : XOk X N sc scs Γ G) (hx : x = "zip") (hg : gnC sc x = true) (hs : notStar pa = true) (hs2 : notStar pb = true) (ha : PE X pa (pE X.K (ev Γ G a))) (hb : PE X pb (pE X.K (ev Γ G b))) : PI X (.Tuple elts kk tpos) (.Call (.Name x p) [pa, pb] [] pos) (pI X.K (evi Γ G (.zip a b))) := by
  subst hx
  obtain ⟨g1, g2⟩ := gn_of ok hg
  have m := ok.blt "zip" (by decide +kernel)
  refine PI.imp (pi_zipS g1 m (pa_cons ha (pa_cons hb pa_nil (star_of hs2 _)) (star_of hs _)) (star_of hs _) (by rw [star_of hs2]; rfl)) fun σ H R q kf => ?_
  obtain ⟨F, O, ρ, ds, ρ', I, e, q⟩ := q kf
  simp only [evi] at e
  split at e
  · rename_i r ρ1 e1
    split at e
    · rename_i r' ρ2 e2
      split at e
      · rename_i d d' er er'
        split at e
        · rename_i xs ys ex ey
          simp only [Option.some.injEq, Prod.mk.injEq] at e
          obtain ⟨rfl, rfl⟩ := e
          refine two_ok I e1 e2 fun x y H1 O1 k1 s1 I1 hx hy => ?_
          have h1 := hx.toV er
          have h2 := hy.toV er'
          have kind : ∀ {d : D} {xs : List D}, seqOf d = some xs → ∃ t, ∀ (a : Addr) Z H, Rp X.K Z H (.ref a) d → ∃ vs, SqS X.K t H a vs ∧ RpAll X.K Z H vs xs := fun {d xs} e => by
            cases d <;> simp only [seqOf, Option.some.injEq, reduceCtorEq] at e
            · subst e
              exact ⟨false, fun a Z H h => by cases h with | lst n s r => exact ⟨_, s, r⟩⟩
            · subst e
              exact ⟨true, fun a Z H h => by cases h with | tup s r => exact ⟨_, s, r⟩⟩
          obtain ⟨t, ht⟩ := kind ex
          obtain ⟨u, hu⟩ := kind ey
          obtain ⟨a, _, _, rfl, _, _⟩ := RpS h1 ex
          obtain ⟨b, _, _, rfl, _, _⟩ := RpS h2 ey
          obtain ⟨vs, sv, _⟩ := ht a _ _ h1
          obtain ⟨ws, sw, _⟩ := hu b _ _ h2
          exact ⟨t, u, a, b, vs, ws, rfl, sv, sw, fun kk => q _ H1 O1 kk s1 I1 (wk_zip ex ey (ht a) (hu b) I1.mf (fun _ z => .inr z) h1 h2)⟩
        · cases e
      · cases e
    · cases e
  · cases e
end
end DP
/-! The pure layer, part 4: tuple(enumerate(a list)). -/
namespace DP
open PySem PySem.Spec PyProof.Rows L2
theorem nolen_en : typeLookup (.type "enumerate") "__len__" = pure none := by rw [typeLookup_type, builtinLookup_eq_fast]; kernel_rfl
theorem nohint_en : typeLookup (.type "enumerate") "__length_hint__" = pure none := by rw [typeLookup_type, builtinLookup_eq_fast]; kernel_rfl
theorem fpUpd {X : Cx} {pins : List (Addr × Obj)} {H : Hp} {b T : Addr} {o : HO} (h : FpOk X pins H b) (ne : b ≠ T) : FpOk X pins (upd H T o) b := ⟨by rw [upd_ne ne]; exact h.1, h.2⟩
/-- an enumerate behind i items: new, or the tuple that it gave first is still there -/
def EnS (h : Heap) (e it : Addr) (i : Nat) : Prop := (i = 0 ∧ ∃ old, IsEnum h e it 0 old) ∨ ∃ T old f oT, IsEnumHeld h e it i old T f ∧ h.get? T = some oT ∧ T ≠ e ∧ T ≠ it
theorem EnS.type {h : Heap} {e it : Addr} {i : Nat} (x : EnS h e it i) : ∃ o, h.get? e = some o ∧ o.cls = .type "enumerate" ∧ e < h.objs.size := by
  rcases x with ⟨_, old, y⟩ | ⟨T, old, f, oT, y, _⟩
  · exact ⟨_, y, rfl, Heap.lt_size y⟩
  · exact ⟨_, y, rfl, Heap.lt_size y⟩
section
variable {prog : Program} {w : World} {A : Around} {E : Value → Shared → Prop}
theorem en_item {s : Shared} {e it l : Addr} {i : Nat} {items : Array Value} {u : Value} {Q : Option Value → Shared → Prop} (st : EnS s.heap e it i) (hit : s.heap.IsListIter it l i) (hl : s.heap.IsList l items) (hx : items[i]? = some u) (hne : e ≠ it)
    (hQ : ∀ h' tk, EnS h' e it (i + 1) → h'.IsListIter it l (i + 1) → h'.get? s.heap.objs.size = some { cls := .type "tuple", data := .seq #[.int i tk, u] } → h'.objs.size = s.heap.objs.size + 1 →
      (∀ b o, b ≠ e → b ≠ it → s.heap.get? b = some o → h'.get? b = some o) → Q (some (.ref s.heap.objs.size)) { s with heap := h', toks := tk + 1 }) :
    wpAny (model prog w) A (pyNext (.ref e)) Q E s := by
  have hil : it < s.heap.objs.size := by obtain ⟨_, q, _⟩ := hit; exact Heap.lt_size q
  rcases st with ⟨rfl, old, he⟩ | ⟨T, old, f, oT, he, hT, n1, n2⟩
  · refine wpAny_pyNext_enum_item (i := 0) he hit hl hx hne fun h' a1 a2 a3 a4 a5 => hQ h' s.toks (.inr ⟨_, _, _, _, a1, a3, Nat.ne_of_gt (Heap.lt_size he), Nat.ne_of_gt hil⟩) a2 a3 a4 a5
  · refine wpAny_pyNext_enum_item_held he hT n1 n2 hit hl hx hne fun h' a1 a2 a3 a4 a5 => hQ h' s.toks (.inr ⟨T, old, true, oT, ?_, a5 T oT n1 n2 hT, n1, n2⟩) a2 a3 a4 a5
    exact a1
theorem en_end {s : Shared} {e it l : Addr} {i : Nat} {items : Array Value} {Q : Option Value → Shared → Prop} (hh : A.handled = none) (st : EnS s.heap e it i) (hit : s.heap.IsListIter it l i) (hl : s.heap.IsList l items) (hx : items[i]? = none) (hne : e ≠ it) (hnl : l ≠ it)
    (hQ : ∀ h', Heap.ExtBut it s.heap h' → Q none { s with heap := h' }) : wpAny (model prog w) A (pyNext (.ref e)) Q E s := by
  rcases st with ⟨rfl, old, he⟩ | ⟨T, old, f, oT, he, hT, n1, n2⟩
  · exact wpAny_pyNext_enum_endD (Draws.list (A := A.in1) hh it l hnl items) (i := 0) he ⟨by
      have : items.size = 0 := by
        have := Array.getElem?_eq_none_iff.mp hx
        omega
      rw [this]; exact hit, hl⟩ hQ
  · exact wpAny_pyNext_enum_end_held hh he hit hl hx hQ
end
/-- list.extend over the enumerate -/
theorem loop_en {X : Cx} {pins : List (Addr × Obj)} {σ : Sg} {A : Around} {R : Result → Shared → Prop} {e it S l : Addr} {res : Value} {xs : List V} {P : Nat → Hp → List Addr → Prop}
    (hh : A.handled = none) (n1 : e ≠ it) (n2 : S ≠ e) (n3 : S ≠ it) (n4 : l ≠ it) (hlen : xs.length ≤ sizeLine)
    (hP : ∀ i H Ts x T, P i H Ts → xs[i]? = some x → H T = none → P (i + 1) (upd H T (.tup [.int (i : Nat), x])) (Ts ++ [T])) (hq : ∀ i H Ts, P i H Ts → SqL X.K H l xs) :
    ∀ (k i : Nat) (s : Shared) (H : Hp) (Ts : List Addr) (acc : Array Value) (c : Nat), xs.length - i = k → i ≤ xs.length → Inv X pins σ H s → (∀ b ∈ [S, e, it], FpOk X pins H b) → P i H Ts → Ts.length = i → EnS s.heap e it i → s.heap.IsListIter it l i →
      s.heap.get? S = some { cls := .type "list", dict := none, data := .seq acc c, slots := #[] } → acc.toList = Ts.map Value.ref →
      (∀ s' H' Ts' acc' c', Inv X pins σ H' s' → P xs.length H' Ts' → Ts'.length = xs.length → s'.heap.get? S = some { cls := .type "list", dict := none, data := .seq acc' c', slots := #[] } → acc'.toList = Ts'.map Value.ref → R (.ok (.ret res)) s') →
      codeAny (model X.prog X.w) A (.builtin "list.extend.loop" ⟨[.ref S, .ref e, res], []⟩) R s := by
  intro k
  induction k with
  | zero =>
    intro i s H Ts acc c hk hi I hf hp hT st hit hS hacc hR
    have hin : i = xs.length := by omega
    subst hin
    obtain ⟨its, rv, pl, hz⟩ := I.list (hq _ _ _ hp)
    refine codeAny_builtin F.entry_extend_loop ?_
    rw [Around.under_plainId F.plain_extend_loop _]
    show wpAny _ A.in1 (pyNext (.ref e) >>= _) _ _ s
    have hl := rv.length
    refine wpAny_bind (en_end (show A.in1.handled = none from hh) st hit pl.isList (by simp; omega) n1 n4 fun h' ex => ?_)
    obtain ⟨f0, f1, f2, f3, f4, f5⟩ := hf it (by simp)
    have I1 : Inv X pins σ H { s with heap := h' } := I.turned (t' := s.toks) (fun b o hb q => ex b o hb q) f0 f1 f3 f4 f5
    exact wpAny_pure (hR _ H Ts acc c I1 hp hT (ex S _ n3 hS) hacc)
  | succ k ih =>
    intro i s H Ts acc c hk hi I hf hp hT st hit hS hacc hR
    have hlt : i < xs.length := by omega
    obtain ⟨its, rv, pl, hz⟩ := I.list (hq _ _ _ hp)
    have hx : xs[i]? = some xs[i] := List.getElem?_eq_getElem hlt
    obtain ⟨u, hu, ru⟩ := rv.get hx
    refine codeAny_builtin F.entry_extend_loop ?_
    rw [Around.under_plainId F.plain_extend_loop _]
    show wpAny _ A.in1 (pyNext (.ref e) >>= _) _ _ s
    have lS : S < s.heap.objs.size := Heap.lt_size hS
    have le : e < s.heap.objs.size := st.type.choose_spec.2.2
    have li : it < s.heap.objs.size := by obtain ⟨_, q, _⟩ := hit; exact Heap.lt_size q
    refine wpAny_bind (en_item st hit pl.isList (u := u) (by simpa using hu) n1 fun h' tk a1 a2 a3 a4 a5 => ?_)
    have hS' : h'.get? S = some { cls := .type "list", dict := none, data := .seq acc c, slots := #[] } := a5 S _ n2 n3 hS
    have asz : acc.size = i := by rw [← Array.length_toList, hacc, List.length_map, hT]
    show wpAny _ A.in1 (updateSeq S (·.push (.ref s.heap.objs.size)) >>= _) _ _ _
    refine wpAny_bind ?_
    have oth : ∀ b o, b ≠ S → h'.get? b = some o → (h'.update S (Obj.mapSeq (·.push (.ref s.heap.objs.size)))).get? b = some o := fun b o hb q => (Heap.get?_update_other _ _ (Ne.symm hb)).trans q
    have hT2 := oth _ _ (Nat.ne_of_gt lS) a3
    have hlo : ∀ b ∈ [S, e, it], b < s.heap.objs.size := fun b hb => by
      rcases (show b = S ∨ b = e ∨ b = it by simpa using hb) with y | y | y <;> rw [y] <;> assumption
    have new : ObjOk X.prog X.w (upd H s.heap.objs.size (.tup [.int (i : Nat), xs[i]])) (h'.update S (Obj.mapSeq (·.push (.ref s.heap.objs.size)))) s.heap.objs.size (.tup [.int (i : Nat), xs[i]]) :=
      ⟨by show 2 ≤ sizeLine; decide, [.int i tk, u], .cons ⟨_, rfl⟩ (.cons ru .nil), ⟨_, hT2, rfl, _, rfl⟩⟩
    have I1 : Inv X pins σ (upd H s.heap.objs.size (.tup [.int (i : Nat), xs[i]])) { s with heap := h'.update S (Obj.mapSeq (·.push (.ref s.heap.objs.size))), toks := tk + 1 } :=
      I.turnedNew (ch := [S, e, it]) (fun b o hb q => oth b o (fun y => hb (by simp [y])) (a5 b o (fun y => hb (by simp [y])) (fun y => hb (by simp [y])) q)) hf (Nat.le_refl _) new
    refine wpAny_updateSeq hS' rfl (wpAny_pure ⟨plainId_quiet F.plain_extend_loop _, ih (i + 1) _ (upd H s.heap.objs.size (.tup [.int (i : Nat), xs[i]])) (Ts ++ [s.heap.objs.size]) (acc.push (.ref s.heap.objs.size)) _ (by omega) hlt I1 (fun b hb => fpUpd (hf b hb) (Nat.ne_of_lt (hlo b hb)))
      (hP i H Ts _ _ hp hx (I.hok.fresh (Nat.le_refl _))) (by simp [hT]) ?_ ?_ (Heap.get?_update_self _ hS' rfl) (by simp [hacc]) hR⟩)
      (by rw [asz]; omega) (by show (acc.push (Value.ref s.heap.objs.size)).size ≤ sizeLine + 1; rw [Array.size_push, asz]; omega)
    · rcases a1 with ⟨y, old, z⟩ | ⟨T, old, f, oT, z, z2, z3, z4⟩
      · exact .inl ⟨y, old, oth _ _ (Ne.symm n2) z⟩
      · by_cases hTS : T = S
        · exact .inr ⟨T, old, f, _, oth _ _ (Ne.symm n2) z, by rw [hTS]; exact Heap.get?_update_self _ hS' rfl, z3, z4⟩
        · exact .inr ⟨T, old, f, oT, oth _ _ (Ne.symm n2) z, oth _ _ hTS z2, z3, z4⟩
    · exact a2.at fun o q => oth it o (Ne.symm n3) q
/-- what the enumerate gives, as a list of values -/
theorem collect_en {X : Cx} {pins : List (Addr × Obj)} {σ : Sg} {A : Around} {E : Value → Shared → Prop} {e it l : Addr} {xs : List V} {P : Nat → Hp → List Addr → Prop} {s : Shared} {H : Hp} {Q : List Value → Shared → Prop}
    (hh : A.handled = none) (n1 : e ≠ it) (n4 : l ≠ it) (hlen : xs.length ≤ sizeLine)
    (hP : ∀ i H Ts x T, P i H Ts → xs[i]? = some x → H T = none → P (i + 1) (upd H T (.tup [.int (i : Nat), x])) (Ts ++ [T])) (hq : ∀ i H Ts, P i H Ts → SqL X.K H l xs)
    (I : Inv X pins σ H s) (hf : ∀ b ∈ [e, it], FpOk X pins H b) (hp : P 0 H []) (st : IsEnum s.heap e it 0 .none) (hit : s.heap.IsListIter it l 0)
    (hQ : ∀ s' H' Ts, Inv X pins σ H' s' → P xs.length H' Ts → Q (Ts.map Value.ref) s') : wpAny (model X.prog X.w) A (collect (.ref e)) Q E s := by
  have le : e < s.heap.objs.size := Heap.lt_size st
  have li : it < s.heap.objs.size := by obtain ⟨_, q, _⟩ := hit; exact Heap.lt_size q
  have hSe : s.heap.objs.size ≠ e := Nat.ne_of_gt le
  have hSi : s.heap.objs.size ≠ it := Nat.ne_of_gt li
  unfold collect
  refine wpAny_bind (wpAny_runValue (codeAny_builtin F.entry_proto_collect ?_))
  rw [Around.under_plainId F.plain_proto_collect _]
  show wpAny _ A.in1 (newList [] >>= fun l => again (.builtin "list.__iadd__" ⟨[l, .ref e], []⟩)) _ _ s
  refine wpAny_bind (wpAny_newObj_type ?_)
  refine wpAny_pure ⟨plainId_quiet F.plain_list_iadd _, codeAny_builtin F.entry_list_iadd ?_⟩
  rw [Around.under_plainId F.plain_list_iadd _]
  have st1 : IsEnum (s.heap.push { cls := .type "list", data := .seq ([] : List Value).toArray }) e it 0 .none := Heap.get?_push_of_some _ st
  have hT1 : ({ s with heap := s.heap.push { cls := .type "list", data := .seq ([] : List Value).toArray } } : Shared).TypeIs (.ref e) "enumerate" := ⟨_, st1, rfl⟩
  show wpAny _ A.in1 (Builtin.List.listExtendWith (.ref s.heap.objs.size) (.ref e) (.ref s.heap.objs.size)) _ _ _
  unfold Builtin.List.listExtendWith
  refine wpAny_bind (wpAny_typeOf hT1 ?_)
  have h1 : Builtin.List.listSameRef (.ref s.heap.objs.size) (.ref e) = false := by simp [Builtin.List.listSameRef, hSe]
  have h2 : (Value.type "enumerate" == Value.type "list") = false := by decide
  have h3 : (Value.type "enumerate" == Value.type "tuple") = false := by decide
  simp only [h1, h2, h3, Bool.or_false, Bool.false_eq_true, if_false]
  refine wpAny_bind (wpAny_pyIter_enum st1 ?_)
  refine wpAny_bind (wpAny_holding ?_)
  unfold Builtin.List.listLengthHint
  refine wpAny_bind (wpAny_specialOf hT1 nolen_en ?_)
  show wpAny _ A.in1 (specialOf (Value.ref e) (Str.ofString "__length_hint__") >>= _) _ _ _
  refine wpAny_bind (wpAny_specialOf hT1 nohint_en ?_)
  refine wpAny_pure ?_
  show wpAny _ A.in1 (rule "list.extend.makes-room" >>= fun _ => Builtin.List.listTouch (.ref s.heap.objs.size) >>= fun _ =>
    again (.builtin "list.extend.loop" ⟨[.ref s.heap.objs.size, .ref e, .ref s.heap.objs.size], []⟩)) _ _ _
  refine wpAny_bind (wpAny_rule ?_)
  have hS₁ : (s.heap.push { cls := .type "list", data := .seq ([] : List Value).toArray }).get? s.heap.objs.size = some { cls := .type "list", data := .seq ([] : List Value).toArray } := Heap.get?_push_size _ rfl
  refine wpAny_bind ?_
  show wpAny _ A.in1 (updateSeq s.heap.objs.size (·.push .none) >>= fun _ => updateSeq s.heap.objs.size (·.pop)) _ _ _
  refine wpAny_bind (wpAny_updateSeq hS₁ rfl ?_)
  have hS₂ := Heap.get?_update_self (Obj.mapSeq (·.push Value.none)) hS₁ rfl
  refine wpAny_updateSeq hS₂ rfl ?_
  have hS₃ := Heap.get?_update_self (Obj.mapSeq (·.pop)) hS₂ rfl
  have oth : ∀ b o, s.heap.get? b = some o →
      (((s.heap.push { cls := .type "list", data := .seq ([] : List Value).toArray }).update s.heap.objs.size (Obj.mapSeq (·.push Value.none))).update s.heap.objs.size (Obj.mapSeq (·.pop))).get? b = some o :=
    fun b o q => (Heap.get?_update_other _ _ (Nat.ne_of_gt (Heap.lt_size q))).trans ((Heap.get?_update_other _ _ (Nat.ne_of_gt (Heap.lt_size q))).trans (Heap.get?_push_of_some _ q))
  have I1 : Inv X pins σ H { s with heap := ((s.heap.push { cls := .type "list", data := .seq ([] : List Value).toArray }).update s.heap.objs.size (Obj.mapSeq (·.push Value.none))).update s.heap.objs.size (Obj.mapSeq (·.pop)) } := I.kept (t' := s.toks) oth
  refine wpAny_pure ⟨plainId_quiet F.plain_extend_loop _, loop_en (e := e) (it := it) (S := s.heap.objs.size) (l := l) (xs := xs) (P := P) hh n1 hSe hSi n4 hlen hP hq xs.length 0 _ H [] #[] _ (by omega) (Nat.zero_le _) I1 (fun b hb => ?_) hp rfl (.inl ⟨rfl, _, oth _ _ st⟩) (hit.at fun o q => oth it o q) hS₃ rfl fun s' H' Ts acc c' I' p' l' hS' ha => ?_⟩
  · rcases (show b = s.heap.objs.size ∨ b = e ∨ b = it by simpa using hb) with y | y | y
    · rw [y]; exact I.fpOk (Nat.le_refl _) (I.hok.fresh (Nat.le_refl _))
    · rw [y]; exact hf e (by simp)
    · rw [y]; exact hf it (by simp)
  · show wpAny _ A (load s.heap.objs.size >>= _) _ _ s'
    refine wpAny_bind (wpAny_load hS' ?_)
    refine wpAny_pure ?_
    show Q acc.toList s'
    rw [ha]
    exact hQ s' H' Ts I' p'
theorem code_tuple_en {X : Cx} {pins : List (Addr × Obj)} {σ : Sg} {A : Around} {E : Value → Shared → Prop} {e it l : Addr} {xs : List V} {P : Nat → Hp → List Addr → Prop} {s : Shared} {H : Hp} {Q₁ : Value → Shared → Prop}
    (hh : A.handled = none) (n1 : e ≠ it) (n4 : l ≠ it) (hlen : xs.length ≤ sizeLine)
    (hP : ∀ i H Ts x T, P i H Ts → xs[i]? = some x → H T = none → P (i + 1) (upd H T (.tup [.int (i : Nat), x])) (Ts ++ [T])) (hq : ∀ i H Ts, P i H Ts → SqL X.K H l xs) (hl : ∀ i H Ts, P i H Ts → Ts.length = i)
    (I : Inv X pins σ H s) (hf : ∀ b ∈ [e, it], FpOk X pins H b) (hp : P 0 H []) (st : IsEnum s.heap e it 0 .none) (hit : s.heap.IsListIter it l 0)
    (h : ∀ s' H' Ts, Inv X pins σ H' s' → P xs.length H' Ts → Q₁ (.ref s'.heap.objs.size) { s' with heap := s'.heap.push { cls := .type "tuple", data := .seq (Ts.map Value.ref).toArray } }) :
    codeAny (model X.prog X.w) A (.call (.builtin "tuple.__new__") ⟨[.type "tuple", .ref e], []⟩) (wants Q₁ E) s := by
  refine codeAny_of_tree ?_
  show wpAny _ A.in1 (do checkBuiltinCall "tuple.__new__" ⟨[.type "tuple", .ref e], []⟩; again (.builtin "tuple.__new__" ⟨[.type "tuple", .ref e], []⟩)) _ _ s
  refine wpAny_bind (wpAny_of_eq (F.newCall_tuple_1 _) (wpAny_pure ⟨plainId_quiet F.plain_tuple_new _, codeAny_builtin F.entry_tuple_new ?_⟩))
  rw [Around.under_plainId F.plain_tuple_new _]
  have hsub := sub_tuple_self
  have hinit := init_tuple_lookup
  have hmh := madeHere_tuple
  have hTI : s.TypeIs (.ref e) "enumerate" := ⟨_, st, rfl⟩
  have hh1 : A.in1.handled = none := hh
  have hc : ∀ {Q : List Value → Shared → Prop} {E' : Value → Shared → Prop}, (∀ s' H' Ts, Inv X pins σ H' s' → P xs.length H' Ts → Q (Ts.map Value.ref) s') → wpAny (model X.prog X.w) A.in1 (collect (.ref e)) Q E' s := fun q =>
    collect_en (A := A.in1) hh1 n1 n4 hlen hP hq I hf hp st hit q
  wp_walk using wpAny_typeOf hTI, hc
  intro s' H' Ts I' hp'
  have hT := hl _ _ _ hp'
  show wpAny _ _ (Builtin.Tuple.tupleExact (Ts.map Value.ref).toArray >>= fun v => ret v) _ _ _
  unfold Builtin.Tuple.tupleExact
  refine wpAny_bind (wpAny_newObj_type ?_ (by show (Ts.map Value.ref).toArray.size ≤ sizeLine; rw [List.size_toArray, List.length_map, hT]; exact hlen))
  refine wpAny_pure ?_
  exact h s' H' Ts I' hp'
theorem call_tuple_en {X : Cx} {pins : List (Addr × Obj)} {σ : Sg} {A : Around} {E : Value → Shared → Prop} {e it l : Addr} {xs : List V} {P : Nat → Hp → List Addr → Prop} {s : Shared} {H : Hp} {Q : Value → Shared → Prop}
    (hh : A.handled = none) (n1 : e ≠ it) (n4 : l ≠ it) (hlen : xs.length ≤ sizeLine)
    (hP : ∀ i H Ts x T, P i H Ts → xs[i]? = some x → H T = none → P (i + 1) (upd H T (.tup [.int (i : Nat), x])) (Ts ++ [T])) (hq : ∀ i H Ts, P i H Ts → SqL X.K H l xs) (hl : ∀ i H Ts, P i H Ts → Ts.length = i)
    (I : Inv X pins σ H s) (hf : ∀ b ∈ [e, it], FpOk X pins H b) (hp : P 0 H []) (st : IsEnum s.heap e it 0 .none) (hit : s.heap.IsListIter it l 0)
    (h : ∀ s' H' Ts, Inv X pins σ H' s' → P xs.length H' Ts → Q (.ref s'.heap.objs.size) { s' with heap := s'.heap.push { cls := .type "tuple", data := .seq (Ts.map Value.ref).toArray } }) :
    wpAny (model X.prog X.w) A (call (.type "tuple") [.ref e]) Q E s := by
  refine callType_codes (Q₁ := fun obj s₁ => s₁.TypeIs obj "tuple" ∧ Q obj s₁) F.called_tuple (F.typeCall_tuple_1 _) F.entry_object_init
    (code_tuple_en (A := A.in1) hh n1 n4 hlen hP hq hl I hf hp st hit fun s' H' Ts I' hp' => ⟨⟨_, Heap.get?_push_size _ rfl, rfl⟩, h s' H' Ts I' hp'⟩) fun obj s₁ h₁ => ?_
  exact ⟨h₁.1, F.args_object_init_2 obj _, object_init_meets F.called_tuple.init.lookup F.called_tuple.made (by decide) X.prog X.w A.in1 _ s₁ ⟨h₁.1, rfl, h₁.2⟩⟩
/-- tuple(enumerate(l)) -/
def tTupEn (K : PySem.W.Frag) (ta : TE) : TE := fun σ H Q => ta σ H fun x H1 => ∃ a xs, x = .ref a ∧ SqL K H1 a xs ∧ xs.length ≤ sizeLine ∧ ∃ P : Nat → Hp → List Addr → Prop, P 0 H1 [] ∧
  (∀ i H Ts x T, P i H Ts → xs[i]? = some x → H T = none → P (i + 1) (upd H T (.tup [.int (i : Nat), x])) (Ts ++ [T])) ∧ (∀ i H Ts, P i H Ts → SqL K H a xs ∧ Ts.length = i) ∧
  ∀ H Ts q, P xs.length H Ts → H q = none → Q (.ref q) (upd H q (.tup (Ts.map V.ref)))
theorem vals_refs : ∀ Ts : List Addr, Vals (Ts.map V.ref) (Ts.map Value.ref)
  | [] => .nil
  | t :: r => .cons rfl (vals_refs r)
theorem pe_tupEn {X : Cx} {a : Expr} {ta : TE} {p p2 pos q2 : Pos} (hc : X.calm = true) (hg : Gl X "tuple") (hm : X.mg "tuple" = none) (hg2 : Gl X "enumerate") (hm2 : X.mg "enumerate" = none) (ha : PE X a ta)
    (na : starEach [a] X.env = (false, eval a X.env) :: starEach [] X.env) (nb : starEach [.Call (.Name "enumerate" p2) [a] [] q2] X.env = (false, eval (.Call (.Name "enumerate" p2) [a] [] q2) X.env) :: starEach [] X.env) :
    PE X (.Call (.Name "tuple" p) [.Call (.Name "enumerate" p2) [a] [] q2] [] pos) (tTupEn X.K ta) := by
  refine ⟨fun pins s σ H Q I h => ?_⟩
  refine Call_ (ld_blt I hg hm boot_tuple (PyProof.Rows.callWith_type1 (args_cons (wpAny_mono (Q := fun x s1 => ∃ (e it a : Addr) (xs : List V) (H1 : Hp) (P : Nat → Hp → List Addr → Prop), x = .ref e ∧ Inv X pins σ H1 s1 ∧ SqL X.K H1 a xs ∧ xs.length ≤ sizeLine ∧ IsEnum s1.heap e it 0 .none ∧ s1.heap.IsListIter it a 0 ∧ e ≠ it ∧ a ≠ it ∧ (∀ b ∈ [e, it], FpOk X pins H1 b) ∧ P 0 H1 [] ∧
      (∀ i H Ts x T, P i H Ts → xs[i]? = some x → H T = none → P (i + 1) (upd H T (.tup [.int (i : Nat), x])) (Ts ++ [T])) ∧ (∀ i H Ts, P i H Ts → SqL X.K H a xs ∧ Ts.length = i) ∧ ∀ H Ts q, P xs.length H Ts → H q = none → Q (.ref q) (upd H q (.tup (Ts.map V.ref)))) ?_ (fun x s1 h1 => args_nil ?_) fun _ _ z => z) nb) nb))
  · refine Call_ (ld_blt I hg2 hm2 boot_enumerate (PyProof.Rows.callWith_type1 (one_arg ha I h (fun v s2 x H2 I2 r q => ?_) na) na))
    obtain ⟨l, xs, rfl, hq, hl, P, hp, hP, hPq, q⟩ := q
    obtain rfl : v = .ref l := r
    obtain ⟨its, rv, pl, hz⟩ := I2.list hq
    have ll : l < s2.heap.objs.size := by obtain ⟨_, y, _⟩ := pl.isList; exact Heap.lt_size y
    refine call_enumerate_list pl.isList fun h' he hit hsz hk => ?_
    exact ⟨_, _, l, xs, H2, P, rfl, I2.kept (t' := s2.toks) hk, hq, hl, he, hit, Nat.succ_ne_self _, Nat.ne_of_lt ll, fun b hb => by
      have le : s2.heap.objs.size ≤ b := by
        rcases (show b = s2.heap.objs.size + 1 ∨ b = s2.heap.objs.size by simpa using hb) with y | y
        · rw [y]; exact Nat.le_succ _
        · rw [y]; exact Nat.le_refl _
      exact I2.fpOk le (I2.hok.fresh le), hp, hP, hPq, q⟩
  · obtain ⟨e, it, l, xs, H1, P, rfl, I1, hq, hl, he, hit, n1, n4, hf, hp, hP, hPq, q⟩ := h1
    refine call_tuple_en (I1.ok.hd hc) n1 n4 hl hP (fun i H Ts z => (hPq i H Ts z).1) (fun i H Ts z => (hPq i H Ts z).2) I1 hf hp he hit fun s' H' Ts I' hp' => ?_
    have hT := (hPq _ _ _ hp').2
    exact ⟨.ref s'.heap.objs.size, upd H' s'.heap.objs.size (.tup (Ts.map V.ref)), I'.laid (t' := s'.toks) (fun c o e => Heap.get?_push_of_some _ e) (Nat.le_refl _) (show ObjOk X.prog X.w _ _ _ (.tup (Ts.map V.ref)) from ⟨by rw [List.length_map, hT]; exact hl, _, vals_refs Ts, IsTup.new _ _⟩), rfl, q _ _ _ hp' (I'.hok.fresh (Nat.le_refl _))⟩
theorem sqL_new {K : PySem.W.Frag} {H : Hp} {a T : Addr} {o : HO} {xs : List V} (s : SqL K H a xs) (n : H T = none) : SqL K (upd H T o) a xs := by
  rcases s with (s | ⟨u, s⟩) | s
  · exact .inl (.inl (by rw [upd_ne fun z => by rw [z, n] at s; cases s]; exact s))
  · exact .inl (.inr ⟨u, by rw [upd_ne fun z => by rw [z, n] at s; cases s]; exact s⟩)
  · exact .inr s
theorem e_entup {N : List Str} {sc scs : Scope} {X : Cx} {Γ : Sems} {G : Str → Option D} {pa : Expr} {a : E} {p p2 q2 pos : Pos} {x y : Str} (ok : XOk X N sc scs Γ G) (hx : x = "tuple") (hg : gnC sc x = true) (hy : y = "enumerate") (hgy : gnC sc y = true) (hs : notStar pa = true) (ha : PE X pa (pE X.K (ev Γ G a))) :
    PE X (.Call (.Name x p) [.Call (.Name y p2) [pa] [] q2] [] pos) (pE X.K (ev Γ G (.bi .enumtup (.cons a .nil)))) := by
  obtain ⟨g1, g2⟩ := gn_of ok hg
  obtain ⟨g3, g4⟩ := gn_of ok hgy
  subst hx hy
  refine PE.of (pe_tupEn ok.calm g1 (ok.blt "tuple" (by decide +kernel)) g3 (ok.blt "enumerate" (by decide +kernel)) ha (star_of hs _) (star_of rfl _)) fun σ H Q F O ρ r ρ' kf I e q => ?_
  obtain ⟨ra, d, e1, e2, e3⟩ := bi1_inv e
  cases d with
  | list ds =>
    simp only [bi] at e3
    split at e3
    · rename_i hlen
      simp only [Option.some.injEq] at e3
      subst e3
      refine one_ok I e1 fun xv H1 O1 k1 s1 I1 hx => ?_
      obtain ⟨l, vs, rfl, sq, rp⟩ := hx.toC I1 e2
      have hvl := rp.length
      refine ⟨l, vs, rfl, sq, by rw [hvl]; exact hlen, fun i H2 Ts => Ts.length = i ∧ SqL X.K H2 l vs ∧ EI X.K F O1 σ H2 ρ' ∧ Step O1 O1 H1 H2 ∧ Off X.K (Or2 F O1) ∧ RpAll X.K (Or2 F O1) H2 vs ds ∧ RpAll X.K (Or2 F O1) H2 (Ts.map V.ref) ((enumD 0 ds).take i), ⟨rfl, sq, I1, .refl, k1.off I1.mf, rp, .nil⟩, ?_, fun i H2 Ts hh => ⟨hh.2.1, hh.1⟩, ?_⟩
      · rintro i H2 Ts x T ⟨t1, t2, t3, t4, t5, t6, t7⟩ hx hn
        have I3 := t3.newO (o := .tup [.int (i : Nat), x]) t5 hn
        have st := Step.new (O := O1) (o := .tup [.int (i : Nat), x]) hn
        have t7' := RpAll.step t3 st t5 t7
        obtain ⟨dx, hd, hr⟩ := t6.at_ hx
        have hnew : Rp X.K (Or2 F O1) (upd H2 T (.tup [.int (i : Nat), x])) (.ref T) (.tuple [.int (i : Nat), dx]) := Rp.new (.cons (.int _) (.cons hr .nil)) hn t3.mf t5
        refine ⟨by rw [List.length_append, t1]; rfl, sqL_new t2 hn, I3, t4.trans st, t5, RpAll.step t3 st t5 t6, ?_⟩
        have he : (enumD 0 ds)[i]? = some (.tuple [.int (i : Nat), dx]) := by
          have := enumD_get ds 0 i dx hd
          rw [Nat.zero_add] at this
          exact this
        have hi := (List.getElem?_eq_some_iff.mp he).1
        rw [List.map_append, List.take_succ, he]
        exact t7'.append (.cons hnew .nil)
      · rintro H2 Ts p ⟨t1, t2, t3, t4, t5, t6, t7⟩ hn kk
        rw [List.take_of_length_le (by rw [enumD_len]; omega)] at t7
        have k2 : KOff X.K H2 := fun b o hb => by
          have := kk b o hb
          have nb : b ≠ p := fun z => by rw [z, upd_same] at this; cases this
          rw [upd_ne nb] at this
          exact this
        exact fin_ok k2 (s1.trans t4) t3 q _ _ ⟨.inr ⟨p, _, hn, rfl, fun z => z⟩, Rp.new t7 hn t3.mf t5⟩ kk
    · cases e3
  | _ => simp [bi] at e3
section
variable {X : Cx} {N : List Str} {sc scs : Scope} {Γ : Sems} {G : Str → Option D} {py pa pb pc : Expr} {a b c : E} {pos : Pos} {pys : List Expr}
theorem e_bi1s {f : BI} {z x : Str} {p p2 q2 : Pos} (ok : XOk X N sc scs Γ G) (hz : biSub f = some z) (hx : x = biName f) (hg : gnC sc x = true) (hgy : gnC sc z = true) (hs : notStar pa = true) (ha : PE X pa (pE X.K (ev Γ G a))) :
    PE X (.Call (.Name x p) [.Call (.Name z p2) [pa] [] q2] [] pos) (pE X.K (ev Γ G (.bi f (.cons a .nil)))) := by
  cases f <;> simp only [biSub, Option.some.injEq, reduceCtorEq] at hz
  · exact e_sset ok hx hg hz.symm hgy hs ha
  · exact e_lset ok hx hg hz.symm hgy hs ha
  · exact e_rg1 ok hx hg hz.symm hgy hs ha
  · exact e_no fun ρ r ρ' e => by
      obtain ⟨ra, d, _, _, e3⟩ := bi1_inv e
      cases d <;> simp [bi] at e3
  · exact e_rgt1 ok hx hg hz.symm hgy hs ha
  · exact e_no fun ρ r ρ' e => by
      obtain ⟨ra, d, _, _, e3⟩ := bi1_inv e
      cases d <;> simp [bi] at e3
  · exact e_entup ok hx hg hz.symm hgy hs ha
theorem e_bi2s {f : BI} {z x : Str} {p p2 q2 : Pos} (ok : XOk X N sc scs Γ G) (hz : biSub f = some z) (hx : x = biName f) (hg : gnC sc x = true) (hgy : gnC sc z = true) (hs : notStar pa = true) (hs2 : notStar pb = true) (ha : PE X pa (pE X.K (ev Γ G a))) (hb : PE X pb (pE X.K (ev Γ G b))) :
    PE X (.Call (.Name x p) [.Call (.Name z p2) [pa, pb] [] q2] [] pos) (pE X.K (ev Γ G (.bi f (.cons a (.cons b .nil))))) := by
  cases f <;> simp only [biSub, Option.some.injEq, reduceCtorEq] at hz
  · exact e_no fun ρ r ρ' e => by
      obtain ⟨ra, rb, ρ1, d, d', _, _, _, _, e3⟩ := bi2_inv e
      simp [bi] at e3
  · exact e_no fun ρ r ρ' e => by
      obtain ⟨ra, rb, ρ1, d, d', _, _, _, _, e3⟩ := bi2_inv e
      simp [bi] at e3
  · exact e_no fun ρ r ρ' e => by
      obtain ⟨ra, rb, ρ1, d, d', _, _, _, _, e3⟩ := bi2_inv e
      simp [bi] at e3
  · exact e_rg2 ok hx hg hz.symm hgy hs hs2 ha hb
  · exact e_no fun ρ r ρ' e => by
      obtain ⟨ra, rb, ρ1, d, d', _, _, _, _, e3⟩ := bi2_inv e
      simp [bi] at e3
  · exact e_rgt2 ok hx hg hz.symm hgy hs hs2 ha hb
  · exact e_no fun ρ r ρ' e => by
      obtain ⟨ra, rb, ρ1, d, d', _, _, _, _, e3⟩ := bi2_inv e
      simp [bi] at e3
end
end DP
/-! The pure layer, part M: list comprehensions. -/
namespace DP
open PySem PySem.Spec PyProof.Rows L2
theorem wipe_len (ρ : PEnv) : ∀ own : List Nat, (wipe ρ own).length = ρ.length
  | [] => rfl
  | i :: r => by simp [wipe, wipe_len ρ r]
theorem wipe_get {ρ : PEnv} {j : Nat} : ∀ {own : List Nat}, j ∉ own → (wipe ρ own)[j]? = ρ[j]?
  | [], _ => rfl
  | i :: r, h => by
    simp only [List.mem_cons, not_or] at h
    simp only [wipe]
    rw [List.getElem?_set_ne (Ne.symm h.1), wipe_get h.2]
theorem wipe_in {ρ : PEnv} {j : Nat} : ∀ {own : List Nat}, j ∈ own → ∀ s, (wipe ρ own)[j]? = some s → s = .un
  | i :: r, h, s, e => by
    simp only [wipe] at e
    rcases getSet e with ⟨_, e⟩ | ⟨n, e⟩
    · exact e.symm
    · rcases List.mem_cons.mp h with q | q
      · exact (n q.symm).elim
      · exact wipe_in q s e
theorem back_len (ρ ρ' : PEnv) : ∀ own : List Nat, (back ρ ρ' own).length = ρ'.length
  | [] => rfl
  | i :: r => by simp [back, back_len ρ ρ' r]
theorem back_get {ρ ρ' : PEnv} {j : Nat} : ∀ {own : List Nat}, j ∉ own → (back ρ ρ' own)[j]? = ρ'[j]?
  | [], _ => rfl
  | i :: r, h => by
    simp only [List.mem_cons, not_or] at h
    simp only [back]
    rw [List.getElem?_set_ne (Ne.symm h.1), back_get h.2]
theorem back_in {ρ ρ' : PEnv} {j : Nat} : ∀ {own : List Nat}, j ∈ own → ∀ s, (back ρ ρ' own)[j]? = some s → s = ρ.getD j .un
  | i :: r, h, s, e => by
    simp only [back] at e
    rcases getSet e with ⟨q, e⟩ | ⟨n, e⟩
    · rw [← q]; exact e.symm
    · rcases List.mem_cons.mp h with q | q
      · exact (n q.symm).elim
      · exact back_in q s e
section
variable {K : PySem.W.Frag} {F O : Addr → Prop} {σ : Sg} {H : Hp} {ρ : PEnv}
theorem EI.wiped (I : EI K F O σ H ρ) (own : List Nat) : EI K F O (L2.wipe σ own) H (wipe ρ own) where
  mf := I.mf
  dis := I.dis
  len := by rw [wipe_len, L2.wipe_length]; exact I.len
  val := fun j d e => by
    by_cases h : j ∈ own
    · cases wipe_in h _ e
    · rw [wipe_get h] at e
      rw [L2.wipe_out h]
      exact I.val j d e
  own := fun j b e => by
    by_cases h : j ∈ own
    · cases wipe_in h _ e
    · rw [wipe_get h] at e
      rw [L2.wipe_out h]
      exact I.own j b e
  inj := fun j k b c a e1 e2 h1 h2 => by
    by_cases h : j ∈ own
    · cases wipe_in h _ e1
    · by_cases h' : k ∈ own
      · cases wipe_in h' _ e2
      · rw [wipe_get h] at e1
        rw [wipe_get h'] at e2
        rw [L2.wipe_out h] at h1
        rw [L2.wipe_out h'] at h2
        exact I.inj j k b c a e1 e2 h1 h2
/-- something that is not this frame's is changed -/
theorem EI.mutF {p : Addr} {o : HO} (I : EI K F O σ H ρ) (off : Off K (Or2 F O)) (hp : F p) (m : Mut (some o)) : EI K F O σ (upd H p o) ρ := by
  have k : Keep (Or2 F O) H (upd H p o) := ⟨fun c u e n => by rw [upd_ne (fun q => n (by rw [q]; exact .inl hp))]; exact e⟩
  refine ⟨fun c z => ?_, I.dis, I.len, fun j d e => ?_, fun j b e => ?_, I.inj⟩
  · by_cases q : c = p
    · rw [q, upd_same]; exact m
    · rw [upd_ne q]; exact I.mf c z
  · obtain ⟨v, h1, h2⟩ := I.val j d e
    exact ⟨v, h1, Rp.keep I.mf k (fun _ z => .inl z) off h2⟩
  · obtain ⟨a, h1, h2, u, h3, h4⟩ := I.own j b e
    exact ⟨a, h1, h2, u, by rw [upd_ne (fun q => I.dis p hp (by rw [← q]; exact h2))]; exact h3, ObN.keep I.mf k (fun _ z => .inl z) off h4⟩
end
/-- a clause's test -/
def pTs (K : PySem.W.Frag) (evp : PEnv → Option (Option R × PEnv)) : TT := fun σ H Q => KOff K H → ∃ F O ρ b ρ', EI K F O σ H ρ ∧ ((b = true ∧ evp ρ = some (none, ρ')) ∨ evp ρ = some (some (.v (.bool b)), ρ')) ∧
  ∀ H' O', KOff K H' → Step O O' H H' → EI K F O' σ H' ρ' → Q b H'
section
variable {X : Cx} {N : List Str} {sc scs : Scope} {Γ : Sems} {G : Str → Option D} {py pa pb pc tg : Expr} {a b c : E} {pos : Pos} {pys : List Expr}
theorem PTs.imp {t t' : TT} (h : PTs X pys t) (i : ∀ σ H Q, t' σ H Q → (KOff X.K H → t σ H fun b H' => KOff X.K H' → Q b H')) : PTs X pys t' := ⟨fun pins s σ H Q I q =>
  thn (h.run pins s σ H _ I (i _ _ _ q (koff_of I))) fun b s' ⟨H', I', q⟩ => ⟨H', I', q (koff_of I')⟩⟩
theorem ts_none : PTs X [] (pTs X.K (evp Γ G .none)) := PTs.imp pts_nil fun σ H Q q kf => by
  obtain ⟨F, O, ρ, b, ρ', I, e, q⟩ := q kf
  simp only [evp, Option.some.injEq, Prod.mk.injEq] at e
  rcases e with ⟨rfl, _, rfl⟩ | ⟨e, _⟩
  · exact fun kk => q H O kk .refl I
  · cases e
theorem ts_some (h : PT X pa (pT X.K (ev Γ G a))) : PTs X [pa] (pTs X.K (evp Γ G (.some a))) := PTs.imp (pts_one h) fun σ H Q q kf => by
  obtain ⟨F, O, ρ, b, ρ', I, e, q⟩ := q kf
  simp only [evp] at e
  split at e
  · rename_i r ρ1 e1
    simp only [Option.some.injEq, Prod.mk.injEq, reduceCtorEq, false_and, and_false, false_or] at e
    obtain ⟨rfl, rfl⟩ := e
    exact fun _ => ⟨F, O, ρ, b, _, I, e1, fun H' O' k s I' kk => q H' O' kk s I'⟩
  · rcases e with ⟨_, e⟩ | e <;> cases e
theorem blk_ok (ok : XOk X N sc scs Γ G) (s : Shared) (H : Hp) (scope : Scope) (C : Addr) (cl : List (Str × Addr)) (fp : List Addr) : XOk (X.blk s H scope (compEnvC scope cl C X.env) fp) N (relS scope sc) scope Γ G where
  hN := ok.hN
  nd := ok.nd
  hsc := by rw [← ok.hsc]; rfl
  calm := ok.calm
  xe := rfl
  room := ok.room
  stor := fun x h => by
    have hl := stor_loc h
    have keep : ∀ k, k ≠ NameKind.free → scope.names.lookup x = some k → (relS scope X.env.scope).names.lookup x = some k := fun k hk e => lookup_relS_keep hk e
    have he : (X.blk s H scope (compEnvC scope cl C X.env) fp).env.scope = relS scope X.env.scope := rfl
    rw [he]
    rcases hl with e | e
    · exact ⟨.inl (keep _ (by decide) e), .inr (keep _ (by decide) e)⟩
    · exact ⟨.inr (keep _ (by decide) e), .inl (by show (scope.names.lookup x == some NameKind.cell) = true; rw [e]; rfl)⟩
  blt := ok.blt
  fnu := ok.fnu
  glo := ok.glo
  fns := ok.fns
theorem fold_of {env : Env} (h : notSet py = true) : ∀ x, foldedSetIterable py env x = pure x := fun x => by
  cases py <;> first | rfl | (simp [notSet] at h)
/-- the turn of a comprehension -/
def lcF (Γ : Sems) (G : Str → Option D) (t : T) (c : Part) (e : E) : D → PEnv → Option (List D × PEnv) := fun d ρ => match asT t d ρ with
  | some ρ' => match evp Γ G c ρ' with
    | some (none, ρ'') => match ev Γ G e ρ'' with
      | some (r, ρ3) => match toV r with
        | some y => some ([y], ρ3)
        | none => none
      | none => none
    | some (some (.v (.bool true)), ρ'') => match ev Γ G e ρ'' with
      | some (r, ρ3) => match toV r with
        | some y => some ([y], ρ3)
        | none => none
      | none => none
    | some (some (.v (.bool false)), ρ'') => some ([], ρ'')
    | _ => none
  | none => none
theorem lcF_inv {t : T} {c : Part} {e : E} {d : D} {ρ ρ' : PEnv} {ys : List D} (h : lcF Γ G t c e d ρ = some (ys, ρ')) : ∃ ρ1 ρ2 b, asT t d ρ = some ρ1 ∧ ((b = true ∧ evp Γ G c ρ1 = some (none, ρ2)) ∨ evp Γ G c ρ1 = some (some (.v (.bool b)), ρ2)) ∧
    (if b = true then ∃ r y, ev Γ G e ρ2 = some (r, ρ') ∧ toV r = some y ∧ ys = [y] else ys = [] ∧ ρ' = ρ2) := by
  simp only [lcF] at h
  split at h
  · rename_i ρ1 e1
    split at h
    · rename_i ρ2 e2
      split at h
      · rename_i r ρ3 e3
        split at h
        · rename_i y e4
          simp only [Option.some.injEq, Prod.mk.injEq] at h
          obtain ⟨rfl, rfl⟩ := h
          exact ⟨ρ1, ρ2, true, e1, .inl ⟨rfl, e2⟩, iteT ⟨r, y, e3, e4, rfl⟩⟩
        · cases h
      · cases h
    · rename_i ρ2 e2
      split at h
      · rename_i r ρ3 e3
        split at h
        · rename_i y e4
          simp only [Option.some.injEq, Prod.mk.injEq] at h
          obtain ⟨rfl, rfl⟩ := h
          exact ⟨ρ1, ρ2, true, e1, .inr e2, iteT ⟨r, y, e3, e4, rfl⟩⟩
        · cases h
      · cases h
    · rename_i ρ2 e2
      simp only [Option.some.injEq, Prod.mk.injEq] at h
      obtain ⟨rfl, rfl⟩ := h
      exact ⟨ρ1, ρ2, false, e1, .inr e2, iteF ⟨rfl, rfl⟩⟩
    · cases h
  · cases h
/-- the state ahead of turn i: zs is still to come -/
structure LcW (K : PySem.W.Frag) (F O1 : Addr → Prop) (H1 : Hp) (σ : Sg) (own : List Nat) (D0 : Addr) (f : D → PEnv → Option (List D × PEnv)) (ds : List D) (ys : List D) (ρe : PEnv) (i : Nat) (Hx : Hp) : Prop where
  le : i ≤ ds.length
  ex : ∃ ρx Ox vacc ysx zs, KOff K Hx ∧ Step O1 Ox H1 Hx ∧ EI K (fun a => F a ∨ a = D0) Ox (L2.wipe σ own) Hx (wipe ρx own) ∧ Hx D0 = some (.lst vacc) ∧ RpAll K (Or2 (fun a => F a ∨ a = D0) Ox) Hx vacc ysx ∧
    lcL own f (ds.drop i) ρx = some (zs, ρe) ∧ ys = ysx ++ zs ∧ ysx.length ≤ i
theorem wipe_eq {σ σ2 : Sg} {own : List Nat} (l : σ2.length = (L2.wipe σ own).length) (h : ∀ i, i ∉ own → σ2[i]? = (L2.wipe σ own)[i]?) : L2.wipe σ2 own = L2.wipe σ own := by
  apply List.ext_getElem?
  intro j
  by_cases hj : j ∈ own
  · have key : ∀ τ : Sg, τ.length = σ.length → ∀ own : List Nat, j ∈ own → (L2.wipe τ own)[j]? = if j < σ.length then some none else none := by
      intro τ hτ own
      induction own with
      | nil => intro h; cases h
      | cons a r ih =>
        intro h
        unfold L2.wipe
        by_cases e : a = j
        · subst e
          by_cases hl : a < σ.length
          · rw [if_pos hl, List.getElem?_set_self (by rw [L2.wipe_length, hτ]; exact hl)]
          · rw [if_neg hl, List.getElem?_eq_none (by rw [List.length_set, L2.wipe_length, hτ]; omega)]
        · rw [List.getElem?_set_ne e]
          rcases List.mem_cons.mp h with q | q
          · exact (e q.symm).elim
          · exact ih q
    rw [key σ2 (by rw [l, L2.wipe_length]) own hj, key σ rfl own hj]
  · rw [L2.wipe_out hj, h j hj]
theorem lc_red {t : T} {it : It} {cnd : Part} {own : List Nat} {e : E} (hown : ∀ i ∈ slotsT t, i ∈ own) {σ : Sg} {H : Hp} {Q : VK} {F O : Addr → Prop} {ρ : PEnv} {r : R} {ρ' : PEnv} (kf : KOff X.K H) (I : EI X.K F O σ H ρ) (ee : ev Γ G (.lc t it cnd own e) ρ = some (r, ρ'))
    (q : ∀ v H' O', KOff X.K H' → Step O O' H H' → EI X.K F O' σ H' ρ' → RR X.K F O' σ H' ρ' v r → Q v H') : tLc (pI X.K (evi Γ G it)) (pG X.K t) (pTs X.K (evp Γ G cnd)) (pE X.K (ev Γ G e)) own σ H fun v H' => KOff X.K H' → Q v H' := by
  simp only [ev] at ee
  split at ee
  · rename_i ds ρ1 e1
    split at ee
    · rename_i hc
      simp only [Bool.and_eq_true, decide_eq_true_eq] at hc
      obtain ⟨hlen, hfree⟩ := hc
      split at ee
      · rename_i ys ρe e2
        have e2 : lcL own (lcF Γ G t cnd e) ds ρ1 = some (ys, ρe) := e2
        simp only [Option.some.injEq, Prod.mk.injEq] at ee
        obtain ⟨rfl, rfl⟩ := ee
        refine fun _ => ⟨F, O, ρ, ds, ρ1, I, e1, fun J H1 O1 k1 s1 I1 wk D0 nD => ?_⟩
        have off1 := k1.off I1.mf
        have ID := I1.newO (o := .lst []) off1 nD
        by_cases hK : ∃ o, X.K.lookup D0 = some o
        · -- such a new thing never comes
          obtain ⟨o, hK⟩ := hK
          have bad : ∀ {Hx : Hp} {u : HO}, Hx D0 = some u → ¬ KOff X.K Hx := fun h k => by have := k D0 o hK; rw [h] at this; cases this
          refine ⟨fun i m Hx => m = 0 ∧ i = 0 ∧ Hx = upd H1 D0 (.lst []), ⟨0, rfl, rfl, rfl⟩, ?_⟩
          rintro i m Hx ⟨rfl, rfl, rfl⟩
          obtain ⟨w1, w2⟩ := wk (Or2 F O1) (upd H1 D0 (.lst [])) (.new nD) (fun _ z => .inl z) ID.mf off1 0
          by_cases hd : 0 < ds.length
          · obtain ⟨go, yl⟩ := w1 hd
            refine .inr ⟨go, fun _ => False, fun _ z => z.elim, fun x H3 y => ?_⟩
            obtain ⟨h3, d, hd0, hx⟩ := yl x H3 y
            have hD3 : ∃ u, H3 D0 = some u := by
              rcases h3 with rfl | ⟨T, us, nT, rfl⟩
              · exact ⟨_, upd_same⟩
              · exact ⟨_, by rw [upd_ne (ne_of_none upd_same nT)]; exact upd_same⟩
            have I3 : EI X.K F O1 σ H3 ρ1 := by
              rcases h3 with rfl | ⟨T, us, nT, rfl⟩
              · exact ID
              · exact ID.newO off1 nT
            have I3w := I3.wiped own
            obtain ⟨u, hu⟩ := hD3
            have e3 : ∃ ys' ρ'', lcF Γ G t cnd e d (wipe ρ1 own) = some (ys', ρ'') := by
              cases ds with
              | nil => simp at hd
              | cons d' dr =>
                simp at hd0
                subst hd0
                simp only [lcL] at e2
                split at e2
                · rename_i e3; exact ⟨_, _, e3⟩
                · cases e2
            obtain ⟨ys', ρ'', e3⟩ := e3
            obtain ⟨ρt, ρ2, b, a1, a2, a3⟩ := lcF_inv e3
            refine ⟨F, O1, _, d, ρt, I3w, hx, a1, fun σ2 I2 l2 f2 => ⟨wipe_eq l2 fun i hi => f2 i fun z => hi (hown i z), fun kk => ?_⟩⟩
            exact (bad hu kk).elim
          · exact .inl ⟨w2 (by omega), fun kk => (bad upd_same kk).elim⟩
        · -- F': what is mutable and not ours, the new list with it
          have kD : ∀ {Hx : Hp} {u : HO}, KOff X.K Hx → KOff X.K (upd Hx D0 u) := fun {Hx u} k a o h => by
            rw [upd_ne (fun z => hK ⟨o, by rw [← z]; exact h⟩)]
            exact k a o h
          have nD1 : ∀ a, Or2 F O1 a → a ≠ D0 := fun a z q => by
            have := I1.mf a z
            rw [q, nD] at this
            exact this
          have mF : Muts (Or2 (fun a => F a ∨ a = D0) O1) (upd H1 D0 (.lst [])) := fun a z => by
            rcases z with (z | z) | z
            · exact ID.mf a (.inl z)
            · rw [z, upd_same]; trivial
            · exact ID.mf a (.inr z)
          have offF := (kD k1 (u := .lst [])).off mF
          have gF : ∀ Hy : Hp, Hy D0 = none → Grow (Or2 F O1) (Or2 (fun a => F a ∨ a = D0) O1) Hy := fun Hy n a z => by
            rcases z with (z | z) | z
            · exact .inl (.inl z)
            · exact .inr (by rw [z]; exact n)
            · exact .inl (.inr z)
          have I0 : EI X.K (fun a => F a ∨ a = D0) O1 σ (upd H1 D0 (.lst [])) ρ1 := ⟨mF, fun a z z' => by
              rcases z with z | z
              · exact I1.dis a z z'
              · exact nD1 a (.inr z') z, I1.len, fun j d e => by
              obtain ⟨v, h1, h2⟩ := I1.val j d e
              exact ⟨v, h1, Rp.keep I1.mf (.new nD) (gF H1 nD) offF h2⟩, fun j b e => by
              obtain ⟨a, h1, h2, u, h3, h4⟩ := I1.own j b e
              exact ⟨a, h1, h2, u, by rw [upd_ne (nD1 a (.inr h2))]; exact h3, ObN.keep I1.mf (.new nD) (gF H1 nD) offF h4⟩, I1.inj⟩
          refine ⟨fun i m Hx => m = ds.length - i ∧ LcW X.K F O1 H1 σ own D0 (lcF Γ G t cnd e) ds ys ρe i Hx, ⟨_, rfl, ⟨Nat.zero_le _, ρ1, O1, [], [], ys, kD k1, .new nD, I0.wiped own, upd_same, .nil, e2, rfl, Nat.le_refl _⟩⟩, ?_⟩
          rintro i m Hx ⟨rfl, ⟨hle, ρx, Ox, vacc, ysx, zs, kx, sx, Ix, hD, hacc, el, ey, hyl⟩⟩
          have offx := kx.off Ix.mf
          obtain ⟨w1, w2⟩ := wk (Or2 (fun a => F a ∨ a = D0) Ox) Hx (sx.keep.mono fun _ z => .inr z) (fun a z => by
            rcases z with (z | z) | z
            · exact .inl (.inl z)
            · exact .inr (by rw [z]; exact nD)
            · rcases sx.grow a z with q | q
              · exact .inl (.inr q)
              · exact .inr q) Ix.mf offx i
          by_cases hlt : i < ds.length
          · obtain ⟨go, yl⟩ := w1 hlt
            refine .inr ⟨go, LcW X.K F O1 H1 σ own D0 (lcF Γ G t cnd e) ds ys ρe (i + 1), fun H' w => ⟨_, by omega, rfl, w⟩, fun x H3 y => ?_⟩
            obtain ⟨h3, d, hd0, hx⟩ := yl x H3 y
            have hdrop : ds.drop i = d :: ds.drop (i + 1) := by
              rw [List.drop_eq_getElem_cons hlt]
              rw [List.getElem?_eq_getElem hlt] at hd0
              rw [Option.some.inj hd0]
            rw [hdrop] at el
            simp only [lcL] at el
            split at el
            · rename_i ys' ρ'' e3
              split at el
              · rename_i zs' ρ3 e4
                simp only [Option.some.injEq, Prod.mk.injEq] at el
                obtain ⟨rfl, rfl⟩ := el
                have s3 : Step Ox Ox Hx H3 := by
                  rcases h3 with rfl | ⟨T, us, nT, rfl⟩
                  · exact .refl
                  · exact .new nT
                have I3 : EI X.K (fun a => F a ∨ a = D0) Ox (L2.wipe σ own) H3 (wipe ρx own) := by
                  rcases h3 with rfl | ⟨T, us, nT, rfl⟩
                  · exact Ix
                  · exact Ix.newO offx nT
                have nDO : ∀ {O5 : Addr → Prop} {H5 : Hp} {σ5 : Sg} {ρ5 : PEnv}, EI X.K (fun a => F a ∨ a = D0) O5 σ5 H5 ρ5 → ¬ O5 D0 := fun J => J.dis D0 (.inr rfl)
                obtain ⟨ρt, ρ2, b, a1, a2, a3⟩ := lcF_inv e3
                refine ⟨_, Ox, _, d, ρt, I3, hx, a1, fun σ2 I2 l2 f2 => ?_⟩
                have hw := wipe_eq l2 fun i hi => f2 i fun z => hi (hown i z)
                refine ⟨hw, fun k3 => ⟨_, Ox, ρt, b, ρ2, I2, a2, fun H4 O4 k4 s4 I4 => ?_⟩⟩
                have s14 := (sx.trans s3).trans s4
                have d4 : H4 D0 = some (.lst vacc) := (s3.trans s4).keep.k D0 _ hD (nDO Ix)
                have acc4 : RpAll X.K (Or2 (fun a => F a ∨ a = D0) O4) H4 vacc ysx := RpAll.step Ix (s3.trans s4) (k4.off I4.mf) hacc
                cases b with
                | false =>
                  obtain ⟨rfl, rfl⟩ := a3
                  refine iteF ⟨hlt, ρ'', O4, vacc, ysx, zs', k4, s14, ?_, d4, acc4, e4, by simpa using ey, by omega⟩
                  have := I4.wiped own
                  rw [hw] at this
                  exact this
                | true =>
                  obtain ⟨r5, y5, a4, a5, rfl⟩ := a3
                  refine iteT fun _ => ⟨_, O4, ρ2, r5, ρ'', I4, a4, fun yv H5 O5 k5 s5 I5 h5 => ?_⟩
                  obtain ⟨O6, l6, I6, h6⟩ := I5.hold k5 h5
                  have hy := h6.toV a5
                  have s46 : Step O4 O6 H4 H5 := s5.trans (Step.less l6)
                  have d5 : H5 D0 = some (.lst vacc) := s46.keep.k D0 _ d4 (nDO I4)
                  have off6 := k5.off I6.mf
                  have acc5 : RpAll X.K (Or2 (fun a => F a ∨ a = D0) O6) H5 vacc ysx := RpAll.step I4 s46 off6 acc4
                  have hl5 : vacc.length < sizeLine := by
                    rw [acc5.length]
                    have : sizeL = sizeLine := rfl
                    omega
                  refine ⟨vacc, d5, hl5, ⟨hlt, ρ'', O6, vacc ++ [yv], ysx ++ [y5], zs', kD k5, ?_, ?_, upd_same, ?_, e4, by rw [ey]; simp, by simp; omega⟩⟩
                  · have s16 := s14.trans s46
                    refine ⟨⟨fun a o h n => ?_⟩, s16.grow⟩
                    rw [upd_ne (ne_of_none h nD)]
                    exact s16.keep.k a o h n
                  · have := (I6.wiped own).mutF off6 (p := D0) (o := .lst (vacc ++ [yv])) (.inr rfl) trivial
                    rw [hw] at this
                    exact this
                  · have kk : Keep (Or2 (fun a => F a ∨ a = D0) O6) H5 (upd H5 D0 (.lst (vacc ++ [yv]))) := ⟨fun c u e n => by rw [upd_ne (fun q => n (.inl (.inr q)))]; exact e⟩
                    exact RpAll.keep I6.mf kk (fun _ z => .inl z) off6 (acc5.append (.cons hy .nil))
              · cases el
            · cases el
          · have hi : i = ds.length := by omega
            refine .inl ⟨w2 (by omega), fun kk => ?_⟩
            rw [List.drop_eq_nil_of_le (by omega)] at el
            simp only [lcL, Option.some.injEq, Prod.mk.injEq] at el
            obtain ⟨rfl, rfl⟩ := el
            rw [List.append_nil] at ey
            subst ey
            have eqv : ∀ a, Or2 F (fun a => Ox a ∨ a = D0) a ↔ Or2 (fun a => F a ∨ a = D0) Ox a := fun a => by
              constructor
              · rintro (z | z | z)
                · exact .inl (.inl z)
                · exact .inr z
                · exact .inl (.inr z)
              · rintro ((z | z) | z)
                · exact .inl z
                · exact .inr (.inr z)
                · exact .inr (.inl z)
            have sF : Step O1 (fun a => Ox a ∨ a = D0) H1 Hx := ⟨sx.keep, fun a z => by
              rcases z with z | z
              · exact sx.grow a z
              · exact .inr (by rw [z]; exact nD)⟩
            have mE : Muts (Or2 F fun a => Ox a ∨ a = D0) Hx := fun a z => Ix.mf a ((eqv a).mp z)
            have offE := kx.off mE
            refine q (.ref D0) Hx _ kk (s1.trans sF) ⟨mE, fun a z z' => ?_, ?_, fun j d ed => ?_, fun j b ed => ?_, fun j k b c a e1 e2 h1 h2 => ?_⟩ ⟨D0, rfl, .inr rfl, ⟨_, hD, vacc, rfl, RpAll.less (fun a z => (eqv a).mp z) hacc Ix.mf offx⟩, fun j c ed es => ?_⟩
            · rcases z' with z' | z'
              · exact Ix.dis a (.inl z) z'
              · exact nD1 a (.inl z) z'
            · rw [back_len]
              have := Ix.len
              rw [wipe_len, L2.wipe_length] at this
              exact this
            · by_cases hj : j ∈ own
              · have := back_in hj _ ed
                have h1 : ρ1[j]? = some (.v d) := by
                  rw [List.getD_eq_getElem?_getD] at this
                  cases hh : ρ1[j]? with
                  | none => rw [hh] at this; cases this
                  | some s => rw [hh] at this; rw [this]; rfl
                obtain ⟨v, h2, h3⟩ := I1.val j d h1
                exact ⟨v, h2, Rp.step I1 sF offE h3⟩
              · rw [back_get hj, ← wipe_get hj] at ed
                obtain ⟨v, h2, h3⟩ := Ix.val j d ed
                rw [L2.wipe_out hj] at h2
                exact ⟨v, h2, Rp.less (fun a z => (eqv a).mp z) h3 Ix.mf offx⟩
            · by_cases hj : j ∈ own
              · have := back_in hj _ ed
                have h1 : ρ1[j]? = some (.o b) := by
                  rw [List.getD_eq_getElem?_getD] at this
                  cases hh : ρ1[j]? with
                  | none => rw [hh] at this; cases this
                  | some s => rw [hh] at this; rw [this]; rfl
                have := List.all_eq_true.mp hfree j hj
                rw [h1] at this
                cases this
              · rw [back_get hj, ← wipe_get hj] at ed
                obtain ⟨a, h2, h3, u, h4, h5⟩ := Ix.own j b ed
                rw [L2.wipe_out hj] at h2
                exact ⟨a, h2, .inl h3, u, h4, ObN.less (fun a z => (eqv a).mp z) h5 Ix.mf offx⟩
            · have nin : ∀ {j : Nat} {b : OB}, (back ρ1 ρx own)[j]? = some (.o b) → j ∉ own := fun {j b} ed hj => by
                have := back_in hj _ ed
                have h1 : ρ1[j]? = some (.o b) := by
                  rw [List.getD_eq_getElem?_getD] at this
                  cases hh : ρ1[j]? with
                  | none => rw [hh] at this; cases this
                  | some s => rw [hh] at this; rw [this]; rfl
                have := List.all_eq_true.mp hfree j hj
                rw [h1] at this
                cases this
              have n1 := nin e1
              have n2 := nin e2
              rw [back_get n1, ← wipe_get n1] at e1
              rw [back_get n2, ← wipe_get n2] at e2
              rw [← L2.wipe_out n1] at h1
              rw [← L2.wipe_out n2] at h2
              exact Ix.inj j k b c a e1 e2 h1 h2
            · have nj : j ∉ own := fun hj => by
                have := back_in hj _ ed
                have h1 : ρ1[j]? = some (.o c) := by
                  rw [List.getD_eq_getElem?_getD] at this
                  cases hh : ρ1[j]? with
                  | none => rw [hh] at this; cases this
                  | some s => rw [hh] at this; rw [this]; rfl
                have := List.all_eq_true.mp hfree j hj
                rw [h1] at this
                cases this
              rw [back_get nj, ← wipe_get nj] at ed
              obtain ⟨a, h2, h3, _⟩ := Ix.own j c ed
              rw [L2.wipe_out nj, es] at h2
              cases h2
              exact Ix.dis D0 (.inr rfl) h3
      · cases ee
    · cases ee
  · cases ee
theorem e_lc {t : T} {it : It} {cnd : Part} {own : List Nat} {e : E} {elt iter : Expr} {ifs : List Expr} {scope : Scope} (ok : XOk X N sc scs Γ G) (hset : notSet iter = true)
    (hblk : blkC N sc scope (own.map fun i => (N.getD i ⟨#[]⟩, i)) = true) (hi : PI X tg iter (pI X.K (evi Γ G it))) (hown : ∀ i ∈ slotsT t, i ∈ own)
    (hg : ∀ (X' : Cx), XOk X' N (relS scope sc) scope Γ G → PG X' tg (pG X'.K t)) (ht : ∀ (X' : Cx), XOk X' N (relS scope sc) scope Γ G → PTs X' ifs (pTs X'.K (evp Γ G cnd))) (he : ∀ (X' : Cx), XOk X' N (relS scope sc) scope Γ G → PE X' elt (pE X'.K (ev Γ G e))) :
    PE X (.ListComp elt [⟨tg, iter, ifs, 0⟩] scope pos) (pE X.K (ev Γ G (.lc t it cnd own e))) := by
  have hov : ((own.map fun i => (N.getD i (⟨#[]⟩ : Str), i)).map (·.2)) = own := by simp [List.map_map, Function.comp_def]
  have base := pe_lc (pos := pos) (wi := pI X.K (evi Γ G it)) (g := pG X.K t) (tt := pTs X.K (evp Γ G cnd)) (te := pE X.K (ev Γ G e)) (elt := elt) (own := own.map fun i => (N.getD i ⟨#[]⟩, i)) ok.calm (by rw [ok.hN]; exact ok.nd) hi (by rw [ok.hN, ok.hsc]; exact blkOk_by hblk)
    (fun s H C cl fp => hg _ (blk_ok ok s H scope C cl fp)) (fun s H C cl fp => ht _ (blk_ok ok s H scope C cl fp)) (fun s H C cl fp => he _ (blk_ok ok s H scope C cl fp)) (fold_of hset)
  rw [hov] at base
  exact PE.of base fun σ H Q F O ρ r ρ' kf I ee q => lc_red hown kf I ee q
end
end DP
/-! The pure layer, part W: list comprehensions with two clauses. -/
namespace DP
open PySem PySem.Spec PyProof.Rows L2
theorem wipe_wipe {ρ : PEnv} {own own1 : List Nat} (h : ∀ i ∈ own1, i ∈ own) : wipe (wipe ρ own1) own = wipe ρ own := by
  have key : ∀ (ρ : PEnv) (own : List Nat) (j : Nat), j ∈ own → (wipe ρ own)[j]? = if j < ρ.length then some .un else none := by
    intro ρ own j hj
    by_cases hl : j < ρ.length
    · rw [if_pos hl]
      have hl2 : j < (wipe ρ own).length := by rw [wipe_len]; exact hl
      rw [List.getElem?_eq_getElem hl2, wipe_in hj _ (List.getElem?_eq_getElem hl2)]
    · rw [if_neg hl, List.getElem?_eq_none (by rw [wipe_len]; omega)]
  apply List.ext_getElem?
  intro j
  by_cases hj : j ∈ own
  · rw [key _ own j hj, key _ own j hj, wipe_len]
  · rw [wipe_get hj, wipe_get hj, wipe_get fun z => hj (h j z)]
theorem wipe_wipeS {σ : Sg} {own own1 : List Nat} (h : ∀ i ∈ own1, i ∈ own) : L2.wipe (L2.wipe σ own1) own = L2.wipe σ own :=
  wipe_eq (by rw [L2.wipe_length, L2.wipe_length]) fun i hi => by rw [L2.wipe_out hi, L2.wipe_out fun z => hi (h i z)]
section
variable {X : Cx} {N : List Str} {sc scs : Scope} {Γ : Sems} {G : Str → Option D} {py pa pb pc tg : Expr} {a b c : E} {pos : Pos} {pys : List Expr}
/-- the outer turn of a comprehension with two clauses -/
def lcF2 (Γ : Sems) (G : Str → Option D) (t : T) (c : Part) (it1 : It) (own1 : List Nat) (f1 : D → PEnv → Option (List D × PEnv)) : D → PEnv → Option (List D × PEnv) := fun d ρ => match asT t d ρ with
  | some ρ' => match evp Γ G c ρ' with
    | some (none, ρ2) => match evi Γ G it1 ρ2 with
      | some (ds1, ρ3) => lcL own1 f1 ds1 ρ3
      | none => none
    | some (some (.v (.bool true)), ρ2) => match evi Γ G it1 ρ2 with
      | some (ds1, ρ3) => lcL own1 f1 ds1 ρ3
      | none => none
    | some (some (.v (.bool false)), ρ2) => some ([], ρ2)
    | _ => none
  | none => none
theorem lcF2_inv {t : T} {c : Part} {it1 : It} {own1 : List Nat} {f1 : D → PEnv → Option (List D × PEnv)} {d : D} {ρ ρ' : PEnv} {ys : List D} (h : lcF2 Γ G t c it1 own1 f1 d ρ = some (ys, ρ')) : ∃ ρ1 ρ2 b, asT t d ρ = some ρ1 ∧ ((b = true ∧ evp Γ G c ρ1 = some (none, ρ2)) ∨ evp Γ G c ρ1 = some (some (.v (.bool b)), ρ2)) ∧
    (if b = true then ∃ ds1 ρ3, evi Γ G it1 ρ2 = some (ds1, ρ3) ∧ lcL own1 f1 ds1 ρ3 = some (ys, ρ') else ys = [] ∧ ρ' = ρ2) := by
  simp only [lcF2] at h
  split at h
  · rename_i ρ1 e1
    split at h
    · rename_i ρ2 e2
      split at h
      · rename_i ds1 ρ3 e3
        exact ⟨ρ1, ρ2, true, e1, .inl ⟨rfl, e2⟩, iteT ⟨ds1, ρ3, e3, h⟩⟩
      · cases h
    · rename_i ρ2 e2
      split at h
      · rename_i ds1 ρ3 e3
        exact ⟨ρ1, ρ2, true, e1, .inr e2, iteT ⟨ds1, ρ3, e3, h⟩⟩
      · cases h
    · rename_i ρ2 e2
      simp only [Option.some.injEq, Prod.mk.injEq] at h
      obtain ⟨rfl, rfl⟩ := h
      exact ⟨ρ1, ρ2, false, e1, .inr e2, iteF ⟨rfl, rfl⟩⟩
    · cases h
  · cases h
/-- the state ahead of turn i: zs, then zr is still to come -/
structure LdW (K : PySem.W.Frag) (F O1 : Addr → Prop) (H1 : Hp) (σ : Sg) (own : List Nat) (D0 : Addr) (f : D → PEnv → Option (List D × PEnv)) (ds : List D) (ys zr : List D) (ρe : PEnv) (i : Nat) (Hx : Hp) : Prop where
  le : i ≤ ds.length
  ex : ∃ ρx Ox vacc ysx zs, KOff K Hx ∧ Step O1 Ox H1 Hx ∧ EI K (fun a => F a ∨ a = D0) Ox (L2.wipe σ own) Hx (wipe ρx own) ∧ Hx D0 = some (.lst vacc) ∧ RpAll K (Or2 (fun a => F a ∨ a = D0) Ox) Hx vacc ysx ∧
    lcL own f (ds.drop i) ρx = some (zs, ρe) ∧ ys = ysx ++ (zs ++ zr)
structure LeW (K : PySem.W.Frag) (F O1 : Addr → Prop) (H1 : Hp) (σ : Sg) (own : List Nat) (D0 : Addr) (f : D → PEnv → Option (List D × PEnv)) (ds : List D) (ys zr : List D) (ρe : PEnv) (O5 : Addr → Prop) (H5 : Hp) (i : Nat) (Hx : Hp) : Prop where
  le : i ≤ ds.length
  ex : ∃ ρx Ox vacc ysx zs, KOff K Hx ∧ Step O1 Ox H1 Hx ∧ EI K (fun a => F a ∨ a = D0) Ox (L2.wipe σ own) Hx (wipe ρx own) ∧ Hx D0 = some (.lst vacc) ∧ RpAll K (Or2 (fun a => F a ∨ a = D0) Ox) Hx vacc ysx ∧
    lcL own f (ds.drop i) ρx = some (zs, ρe) ∧ ys = ysx ++ (zs ++ zr) ∧ Keep (Or2 (fun a => F a ∨ a = D0) O5) H5 Hx ∧ Grow (Or2 (fun a => F a ∨ a = D0) O5) (Or2 (fun a => F a ∨ a = D0) Ox) H5
theorem kg_step {F' O5 Oy O8 : Addr → Prop} {H5 Hy H8 : Hp} (k : Keep (Or2 F' O5) H5 Hy) (g : Grow (Or2 F' O5) (Or2 F' Oy) H5) (s : Step Oy O8 Hy H8) : Keep (Or2 F' O5) H5 H8 ∧ Grow (Or2 F' O5) (Or2 F' O8) H5 := by
  have no : ∀ a o, H5 a = some o → ¬ Or2 F' O5 a → ¬ Oy a := fun a o h n z => by
    rcases g a (.inr z) with q | q
    · exact n q
    · rw [h] at q; cases q
  refine ⟨⟨fun a o h n => s.keep.k a o (k.k a o h n) (no a o h n)⟩, fun a z => ?_⟩
  rcases z with z | z
  · exact .inl (.inl z)
  · rcases s.grow a z with q | q
    · exact g a (.inr q)
    · by_cases n : Or2 F' O5 a
      · exact .inl n
      · cases h : H5 a with
        | none => exact .inr rfl
        | some o => rw [k.k a o h n] at q; cases q
theorem lc2_red {t t1 : T} {it it1 : It} {cnd cnd1 : Part} {own own1 : List Nat} {e : E} (hown : ∀ i ∈ slotsT t, i ∈ own) (hown1 : ∀ i ∈ slotsT t1, i ∈ own1) (hsub : ∀ i ∈ own1, i ∈ own) {σ : Sg} {H : Hp} {Q : VK} {F O : Addr → Prop} {ρ : PEnv} {r : R} {ρ' : PEnv} (kf : KOff X.K H) (I : EI X.K F O σ H ρ) (ee : ev Γ G (.lc2 t it cnd t1 it1 cnd1 own own1 e) ρ = some (r, ρ'))
    (q : ∀ v H' O', KOff X.K H' → Step O O' H H' → EI X.K F O' σ H' ρ' → RR X.K F O' σ H' ρ' v r → Q v H') : tLc2 (pI X.K (evi Γ G it)) (pG X.K t) (pTs X.K (evp Γ G cnd)) (pI X.K (evi Γ G it1)) (pG X.K t1) (pTs X.K (evp Γ G cnd1)) (pE X.K (ev Γ G e)) own own1 σ H fun v H' => KOff X.K H' → Q v H' := by
  simp only [ev] at ee
  split at ee
  · rename_i ds ρ1 e1
    split at ee
    · rename_i hfree
      split at ee
      · rename_i ys ρe e2
        have e2 : lcL own (lcF2 Γ G t cnd it1 own1 (lcF Γ G t1 cnd1 e)) ds ρ1 = some (ys, ρe) := e2
        split at ee
        · rename_i hlen
          simp only [Option.some.injEq, Prod.mk.injEq] at ee
          obtain ⟨rfl, rfl⟩ := ee
          refine fun _ => ⟨F, O, ρ, ds, ρ1, I, e1, fun J H1 O1 k1 s1 I1 wk D0 nD => ?_⟩
          have off1 := k1.off I1.mf
          have ID := I1.newO (o := .lst []) off1 nD
          by_cases hK : ∃ o, X.K.lookup D0 = some o
          · -- such a new thing never comes
            obtain ⟨o, hK⟩ := hK
            have bad : ∀ {Hx : Hp} {u : HO}, Hx D0 = some u → ¬ KOff X.K Hx := fun h k => by have := k D0 o hK; rw [h] at this; cases this
            refine ⟨fun i m Hx => m = 0 ∧ i = 0 ∧ Hx = upd H1 D0 (.lst []), ⟨0, rfl, rfl, rfl⟩, ?_⟩
            rintro i m Hx ⟨rfl, rfl, rfl⟩
            obtain ⟨w1, w2⟩ := wk (Or2 F O1) (upd H1 D0 (.lst [])) (.new nD) (fun _ z => .inl z) ID.mf off1 0
            by_cases hd : 0 < ds.length
            · obtain ⟨go, yl⟩ := w1 hd
              refine .inr ⟨go, fun _ => False, fun _ z => z.elim, fun x H3 y => ?_⟩
              obtain ⟨h3, d, hd0, hx⟩ := yl x H3 y
              have hD3 : ∃ u, H3 D0 = some u := by
                rcases h3 with rfl | ⟨T, us, nT, rfl⟩
                · exact ⟨_, upd_same⟩
                · exact ⟨_, by rw [upd_ne (ne_of_none upd_same nT)]; exact upd_same⟩
              have I3 : EI X.K F O1 σ H3 ρ1 := by
                rcases h3 with rfl | ⟨T, us, nT, rfl⟩
                · exact ID
                · exact ID.newO off1 nT
              have I3w := I3.wiped own
              obtain ⟨u, hu⟩ := hD3
              have e3 : ∃ ys' ρ'', lcF2 Γ G t cnd it1 own1 (lcF Γ G t1 cnd1 e) d (wipe ρ1 own) = some (ys', ρ'') := by
                cases ds with
                | nil => simp at hd
                | cons d' dr =>
                  simp at hd0
                  subst hd0
                  simp only [lcL] at e2
                  split at e2
                  · rename_i e3; exact ⟨_, _, e3⟩
                  · cases e2
              obtain ⟨ys', ρ'', e3⟩ := e3
              obtain ⟨ρt, ρ2, b, a1, a2, a3⟩ := lcF2_inv e3
              refine ⟨F, O1, _, d, ρt, I3w, hx, a1, fun σ2 I2 l2 f2 => ⟨wipe_eq l2 fun i hi => f2 i fun z => hi (hown i z), fun kk => ?_⟩⟩
              exact (bad hu kk).elim
            · exact .inl ⟨w2 (by omega), fun kk => (bad upd_same kk).elim⟩
          · -- F': what is mutable and not ours, the new list with it
            have kD : ∀ {Hx : Hp} {u : HO}, KOff X.K Hx → KOff X.K (upd Hx D0 u) := fun {Hx u} k a o h => by
              rw [upd_ne (fun z => hK ⟨o, by rw [← z]; exact h⟩)]
              exact k a o h
            have nD1 : ∀ a, Or2 F O1 a → a ≠ D0 := fun a z q => by
              have := I1.mf a z
              rw [q, nD] at this
              exact this
            have mF : Muts (Or2 (fun a => F a ∨ a = D0) O1) (upd H1 D0 (.lst [])) := fun a z => by
              rcases z with (z | z) | z
              · exact ID.mf a (.inl z)
              · rw [z, upd_same]; trivial
              · exact ID.mf a (.inr z)
            have offF := (kD k1 (u := .lst [])).off mF
            have gF : ∀ Hy : Hp, Hy D0 = none → Grow (Or2 F O1) (Or2 (fun a => F a ∨ a = D0) O1) Hy := fun Hy n a z => by
              rcases z with (z | z) | z
              · exact .inl (.inl z)
              · exact .inr (by rw [z]; exact n)
              · exact .inl (.inr z)
            have I0 : EI X.K (fun a => F a ∨ a = D0) O1 σ (upd H1 D0 (.lst [])) ρ1 := ⟨mF, fun a z z' => by
                rcases z with z | z
                · exact I1.dis a z z'
                · exact nD1 a (.inr z') z, I1.len, fun j d e => by
                obtain ⟨v, h1, h2⟩ := I1.val j d e
                exact ⟨v, h1, Rp.keep I1.mf (.new nD) (gF H1 nD) offF h2⟩, fun j b e => by
                obtain ⟨a, h1, h2, u, h3, h4⟩ := I1.own j b e
                exact ⟨a, h1, h2, u, by rw [upd_ne (nD1 a (.inr h2))]; exact h3, ObN.keep I1.mf (.new nD) (gF H1 nD) offF h4⟩, I1.inj⟩
            refine ⟨fun i m Hx => m = ds.length - i ∧ LdW X.K F O1 H1 σ own D0 (lcF2 Γ G t cnd it1 own1 (lcF Γ G t1 cnd1 e)) ds ys [] ρe i Hx, ⟨_, rfl, ⟨Nat.zero_le _, ρ1, O1, [], [], ys, kD k1, .new nD, I0.wiped own, upd_same, .nil, e2, by simp⟩⟩, ?_⟩
            rintro i m Hx ⟨rfl, ⟨hle, ρx, Ox, vacc, ysx, zs, kx, sx, Ix, hD, hacc, el, ey⟩⟩
            have offx := kx.off Ix.mf
            obtain ⟨w1, w2⟩ := wk (Or2 (fun a => F a ∨ a = D0) Ox) Hx (sx.keep.mono fun _ z => .inr z) (fun a z => by
              rcases z with (z | z) | z
              · exact .inl (.inl z)
              · exact .inr (by rw [z]; exact nD)
              · rcases sx.grow a z with q | q
                · exact .inl (.inr q)
                · exact .inr q) Ix.mf offx i
            have nDO : ∀ {O5 : Addr → Prop} {H5 : Hp} {σ5 : Sg} {ρ5 : PEnv}, EI X.K (fun a => F a ∨ a = D0) O5 σ5 H5 ρ5 → ¬ O5 D0 := fun J => J.dis D0 (.inr rfl)
            by_cases hlt : i < ds.length
            · obtain ⟨go, yl⟩ := w1 hlt
              refine .inr ⟨go, LdW X.K F O1 H1 σ own D0 (lcF2 Γ G t cnd it1 own1 (lcF Γ G t1 cnd1 e)) ds ys [] ρe (i + 1), fun H' w => ⟨_, by omega, rfl, w⟩, fun x H3 y => ?_⟩
              obtain ⟨h3, d, hd0, hx⟩ := yl x H3 y
              have hdrop : ds.drop i = d :: ds.drop (i + 1) := by
                rw [List.drop_eq_getElem_cons hlt]
                rw [List.getElem?_eq_getElem hlt] at hd0
                rw [Option.some.inj hd0]
              rw [hdrop] at el
              simp only [lcL] at el
              split at el
              · rename_i ys' ρ'' e3
                split at el
                · rename_i zs' ρ3 e4
                  simp only [Option.some.injEq, Prod.mk.injEq] at el
                  obtain ⟨rfl, rfl⟩ := el
                  have s3 : Step Ox Ox Hx H3 := by
                    rcases h3 with rfl | ⟨T, us, nT, rfl⟩
                    · exact .refl
                    · exact .new nT
                  have I3 : EI X.K (fun a => F a ∨ a = D0) Ox (L2.wipe σ own) H3 (wipe ρx own) := by
                    rcases h3 with rfl | ⟨T, us, nT, rfl⟩
                    · exact Ix
                    · exact Ix.newO offx nT
                  obtain ⟨ρt, ρ2, b, a1, a2, a3⟩ := lcF2_inv e3
                  refine ⟨_, Ox, _, d, ρt, I3, hx, a1, fun σ2 I2 l2 f2 => ?_⟩
                  have hw := wipe_eq l2 fun i hi => f2 i fun z => hi (hown i z)
                  refine ⟨hw, fun k3 => ⟨_, Ox, ρt, b, ρ2, I2, a2, fun H4 O4 k4 s4 I4 => ?_⟩⟩
                  have s14 := (sx.trans s3).trans s4
                  have d4 : H4 D0 = some (.lst vacc) := (s3.trans s4).keep.k D0 _ hD (nDO Ix)
                  have acc4 : RpAll X.K (Or2 (fun a => F a ∨ a = D0) O4) H4 vacc ysx := RpAll.step Ix (s3.trans s4) (k4.off I4.mf) hacc
                  cases b with
                  | false =>
                    obtain ⟨rfl, rfl⟩ := a3
                    refine iteF ⟨hlt, ρ'', O4, vacc, ysx, zs', k4, s14, ?_, d4, acc4, e4, by simpa using ey⟩
                    have := I4.wiped own
                    rw [hw] at this
                    exact this
                  | true =>
                    obtain ⟨ds1, ρ3', b1, b2⟩ := a3
                    refine iteT fun _ => ⟨_, O4, ρ2, ds1, ρ3', I4, b1, fun J1 H5 O5 k5 s5 I5 wk1 => ?_⟩
                    have s15 := s14.trans s5
                    have d5 : H5 D0 = some (.lst vacc) := s5.keep.k D0 _ d4 (nDO I4)
                    have acc5 : RpAll X.K (Or2 (fun a => F a ∨ a = D0) O5) H5 vacc ysx := RpAll.step I4 s5 (k5.off I5.mf) acc4
                    refine ⟨fun j k Hy => k = ds1.length - j ∧ LeW X.K F O1 H1 σ2 own1 D0 (lcF Γ G t1 cnd1 e) ds1 ys zs' ρ'' O5 H5 j Hy,
                      ⟨_, rfl, ⟨Nat.zero_le _, ρ3', O5, vacc, ysx, ys', k5, s15, I5.wiped own1, d5, acc5, b2, by simpa using ey, .refl, fun _ z => .inl z⟩⟩, ?_⟩
                    rintro j k Hy ⟨rfl, ⟨hlej, ρy, Oy, vy, yy, zy, ky, sy, Iy, hDy, haccy, ely, eyy, keepy, growy⟩⟩
                    have offy := ky.off Iy.mf
                    obtain ⟨v1, v2⟩ := wk1 (Or2 (fun a => F a ∨ a = D0) Oy) Hy keepy growy Iy.mf offy j
                    by_cases hlt1 : j < ds1.length
                    · obtain ⟨go1, yl1⟩ := v1 hlt1
                      refine .inr ⟨go1, LeW X.K F O1 H1 σ2 own1 D0 (lcF Γ G t1 cnd1 e) ds1 ys zs' ρ'' O5 H5 (j + 1), fun H' w => ⟨_, by omega, rfl, w⟩, fun x1 H6 y1 => ?_⟩
                      obtain ⟨h6, d1, hd1, hx1⟩ := yl1 x1 H6 y1
                      have hdrop1 : ds1.drop j = d1 :: ds1.drop (j + 1) := by
                        rw [List.drop_eq_getElem_cons hlt1]
                        rw [List.getElem?_eq_getElem hlt1] at hd1
                        rw [Option.some.inj hd1]
                      rw [hdrop1] at ely
                      simp only [lcL] at ely
                      split at ely
                      · rename_i ya ρa f3
                        split at ely
                        · rename_i yb ρb f4
                          simp only [Option.some.injEq, Prod.mk.injEq] at ely
                          obtain ⟨rfl, rfl⟩ := ely
                          have s6 : Step Oy Oy Hy H6 := by
                            rcases h6 with rfl | ⟨T, us, nT, rfl⟩
                            · exact .refl
                            · exact .new nT
                          have I6 : EI X.K (fun a => F a ∨ a = D0) Oy (L2.wipe σ2 own1) H6 (wipe ρy own1) := by
                            rcases h6 with rfl | ⟨T, us, nT, rfl⟩
                            · exact Iy
                            · exact Iy.newO offy nT
                          obtain ⟨ρt1, ρ21, c1, g1, g2, g3⟩ := lcF_inv f3
                          refine ⟨_, Oy, _, d1, ρt1, I6, hx1, g1, fun σ3 I7 l7 f7 => ?_⟩
                          have hw1 := wipe_eq l7 fun i hi => f7 i fun z => hi (hown1 i z)
                          refine ⟨hw1, fun k7 => ⟨_, Oy, ρt1, c1, ρ21, I7, g2, fun H8 O8 k8 s8 I8 => ?_⟩⟩
                          have s18 := (sy.trans s6).trans s8
                          have d8 : H8 D0 = some (.lst vy) := (s6.trans s8).keep.k D0 _ hDy (nDO Iy)
                          have acc8 : RpAll X.K (Or2 (fun a => F a ∨ a = D0) O8) H8 vy yy := RpAll.step Iy (s6.trans s8) (k8.off I8.mf) haccy
                          cases c1 with
                          | false =>
                            obtain ⟨rfl, rfl⟩ := g3
                            obtain ⟨ka, ga⟩ := kg_step keepy growy (s6.trans s8)
                            refine iteF ⟨hlt1, ρa, O8, vy, yy, yb, k8, s18, ?_, d8, acc8, f4, by simpa using eyy, ka, ga⟩
                            have := I8.wiped own1
                            rw [hw1] at this
                            exact this
                          | true =>
                            obtain ⟨r9, y9, g4, g5, rfl⟩ := g3
                            refine iteT fun _ => ⟨_, O8, ρ21, r9, ρa, I8, g4, fun yv H9 O9 k9 s9 I9 h9 => ?_⟩
                            obtain ⟨Oa, la, Ia, ha⟩ := I9.hold k9 h9
                            have hyv := ha.toV g5
                            have s8a : Step O8 Oa H8 H9 := s9.trans (Step.less la)
                            have d9 : H9 D0 = some (.lst vy) := s8a.keep.k D0 _ d8 (nDO I8)
                            have offa := k9.off Ia.mf
                            have acc9 : RpAll X.K (Or2 (fun a => F a ∨ a = D0) Oa) H9 vy yy := RpAll.step I8 s8a offa acc8
                            have hl9 : vy.length < sizeLine := by
                              rw [acc9.length]
                              have : sizeL = sizeLine := rfl
                              have e9 := congrArg List.length eyy
                              simp only [List.length_append, List.length_cons, List.length_nil] at e9
                              omega
                            obtain ⟨ka, ga⟩ := kg_step keepy growy ((s6.trans s8).trans s8a)
                            refine ⟨vy, d9, hl9, ⟨hlt1, ρa, Oa, vy ++ [yv], yy ++ [y9], yb, kD k9, ?_, ?_, upd_same, ?_, f4, by rw [eyy]; simp, ?_, ga⟩⟩
                            · have s19 := s18.trans s8a
                              refine ⟨⟨fun a o h n => ?_⟩, s19.grow⟩
                              rw [upd_ne (ne_of_none h nD)]
                              exact s19.keep.k a o h n
                            · have := (Ia.wiped own1).mutF offa (p := D0) (o := .lst (vy ++ [yv])) (.inr rfl) trivial
                              rw [hw1] at this
                              exact this
                            · have kk : Keep (Or2 (fun a => F a ∨ a = D0) Oa) H9 (upd H9 D0 (.lst (vy ++ [yv]))) := ⟨fun c u e n => by rw [upd_ne (fun q => n (.inl (.inr q)))]; exact e⟩
                              exact RpAll.keep Ia.mf kk (fun _ z => .inl z) offa (acc9.append (.cons hyv .nil))
                            · exact ⟨fun a o h n => by rw [upd_ne (fun q => n (.inl (.inr q)))]; exact ka.k a o h n⟩
                        · cases ely
                      · cases ely
                    · have hj : j = ds1.length := by omega
                      refine .inl ⟨v2 hj, hlt, ρ'', Oy, vy, yy, zs', ky, sy, ?_, hDy, haccy, e4, ?_⟩
                      · rw [List.drop_eq_nil_of_le (by omega)] at ely
                        simp only [lcL, Option.some.injEq, Prod.mk.injEq] at ely
                        obtain ⟨_, rfl⟩ := ely
                        have := Iy.wiped own
                        rw [wipe_wipe hsub, wipe_wipeS hsub, hw] at this
                        exact this
                      · rw [List.drop_eq_nil_of_le (by omega)] at ely
                        simp only [lcL, Option.some.injEq, Prod.mk.injEq] at ely
                        obtain ⟨rfl, _⟩ := ely
                        simpa using eyy
                · cases el
              · cases el
            · have hi : i = ds.length := by omega
              refine .inl ⟨w2 (by omega), fun kk => ?_⟩
              rw [List.drop_eq_nil_of_le (by omega)] at el
              simp only [lcL, Option.some.injEq, Prod.mk.injEq] at el
              obtain ⟨rfl, rfl⟩ := el
              simp only [List.append_nil] at ey
              subst ey
              have eqv : ∀ a, Or2 F (fun a => Ox a ∨ a = D0) a ↔ Or2 (fun a => F a ∨ a = D0) Ox a := fun a => by
                constructor
                · rintro (z | z | z)
                  · exact .inl (.inl z)
                  · exact .inr z
                  · exact .inl (.inr z)
                · rintro ((z | z) | z)
                  · exact .inl z
                  · exact .inr (.inr z)
                  · exact .inr (.inl z)
              have sF : Step O1 (fun a => Ox a ∨ a = D0) H1 Hx := ⟨sx.keep, fun a z => by
                rcases z with z | z
                · exact sx.grow a z
                · exact .inr (by rw [z]; exact nD)⟩
              have mE : Muts (Or2 F fun a => Ox a ∨ a = D0) Hx := fun a z => Ix.mf a ((eqv a).mp z)
              have offE := kx.off mE
              refine q (.ref D0) Hx _ kk (s1.trans sF) ⟨mE, fun a z z' => ?_, ?_, fun j d ed => ?_, fun j b ed => ?_, fun j k b c a e1 e2 h1 h2 => ?_⟩ ⟨D0, rfl, .inr rfl, ⟨_, hD, vacc, rfl, RpAll.less (fun a z => (eqv a).mp z) hacc Ix.mf offx⟩, fun j c ed es => ?_⟩
              · rcases z' with z' | z'
                · exact Ix.dis a (.inl z) z'
                · exact nD1 a (.inl z) z'
              · rw [back_len]
                have := Ix.len
                rw [wipe_len, L2.wipe_length] at this
                exact this
              · by_cases hj : j ∈ own
                · have := back_in hj _ ed
                  have h1 : ρ1[j]? = some (.v d) := by
                    rw [List.getD_eq_getElem?_getD] at this
                    cases hh : ρ1[j]? with
                    | none => rw [hh] at this; cases this
                    | some s => rw [hh] at this; rw [this]; rfl
                  obtain ⟨v, h2, h3⟩ := I1.val j d h1
                  exact ⟨v, h2, Rp.step I1 sF offE h3⟩
                · rw [back_get hj, ← wipe_get hj] at ed
                  obtain ⟨v, h2, h3⟩ := Ix.val j d ed
                  rw [L2.wipe_out hj] at h2
                  exact ⟨v, h2, Rp.less (fun a z => (eqv a).mp z) h3 Ix.mf offx⟩
              · by_cases hj : j ∈ own
                · have := back_in hj _ ed
                  have h1 : ρ1[j]? = some (.o b) := by
                    rw [List.getD_eq_getElem?_getD] at this
                    cases hh : ρ1[j]? with
                    | none => rw [hh] at this; cases this
                    | some s => rw [hh] at this; rw [this]; rfl
                  have := List.all_eq_true.mp hfree j hj
                  rw [h1] at this
                  cases this
                · rw [back_get hj, ← wipe_get hj] at ed
                  obtain ⟨a, h2, h3, u, h4, h5⟩ := Ix.own j b ed
                  rw [L2.wipe_out hj] at h2
                  exact ⟨a, h2, .inl h3, u, h4, ObN.less (fun a z => (eqv a).mp z) h5 Ix.mf offx⟩
              · have nin : ∀ {j : Nat} {b : OB}, (back ρ1 ρx own)[j]? = some (.o b) → j ∉ own := fun {j b} ed hj => by
                  have := back_in hj _ ed
                  have h1 : ρ1[j]? = some (.o b) := by
                    rw [List.getD_eq_getElem?_getD] at this
                    cases hh : ρ1[j]? with
                    | none => rw [hh] at this; cases this
                    | some s => rw [hh] at this; rw [this]; rfl
                  have := List.all_eq_true.mp hfree j hj
                  rw [h1] at this
                  cases this
                have n1 := nin e1
                have n2 := nin e2
                rw [back_get n1, ← wipe_get n1] at e1
                rw [back_get n2, ← wipe_get n2] at e2
                rw [← L2.wipe_out n1] at h1
                rw [← L2.wipe_out n2] at h2
                exact Ix.inj j k b c a e1 e2 h1 h2
              · have nj : j ∉ own := fun hj => by
                  have := back_in hj _ ed
                  have h1 : ρ1[j]? = some (.o c) := by
                    rw [List.getD_eq_getElem?_getD] at this
                    cases hh : ρ1[j]? with
                    | none => rw [hh] at this; cases this
                    | some s => rw [hh] at this; rw [this]; rfl
                  have := List.all_eq_true.mp hfree j hj
                  rw [h1] at this
                  cases this
                rw [back_get nj, ← wipe_get nj] at ed
                obtain ⟨a, h2, h3, _⟩ := Ix.own j c ed
                rw [L2.wipe_out nj, es] at h2
                cases h2
                exact Ix.dis D0 (.inr rfl) h3
        · cases ee
      · cases ee
    · cases ee
  · cases ee
theorem e_lc2 {t t1 : T} {it it1 : It} {cnd cnd1 : Part} {own own1 : List Nat} {e : E} {elt iter iter1 tg1 : Expr} {ifs ifs1 : List Expr} {scope : Scope} (ok : XOk X N sc scs Γ G) (hset : notSet iter = true) (hset1 : notSet iter1 = true)
    (hblk : blkC N sc scope (own.map fun i => (N.getD i ⟨#[]⟩, i)) = true) (hi : PI X tg iter (pI X.K (evi Γ G it))) (hown : ∀ i ∈ slotsT t, i ∈ own) (hown1 : ∀ i ∈ slotsT t1, i ∈ own1) (hsub : ∀ i ∈ own1, i ∈ own)
    (hg : ∀ (X' : Cx), XOk X' N (relS scope sc) scope Γ G → PG X' tg (pG X'.K t)) (ht : ∀ (X' : Cx), XOk X' N (relS scope sc) scope Γ G → PTs X' ifs (pTs X'.K (evp Γ G cnd))) (hi1 : ∀ (X' : Cx), XOk X' N (relS scope sc) scope Γ G → PI X' tg1 iter1 (pI X'.K (evi Γ G it1)))
    (hg1 : ∀ (X' : Cx), XOk X' N (relS scope sc) scope Γ G → PG X' tg1 (pG X'.K t1)) (ht1 : ∀ (X' : Cx), XOk X' N (relS scope sc) scope Γ G → PTs X' ifs1 (pTs X'.K (evp Γ G cnd1))) (he : ∀ (X' : Cx), XOk X' N (relS scope sc) scope Γ G → PE X' elt (pE X'.K (ev Γ G e))) :
    PE X (.ListComp elt [⟨tg, iter, ifs, 0⟩, ⟨tg1, iter1, ifs1, 0⟩] scope pos) (pE X.K (ev Γ G (.lc2 t it cnd t1 it1 cnd1 own own1 e))) := by
  have hov : ((own.map fun i => (N.getD i (⟨#[]⟩ : Str), i)).map (·.2)) = own := by simp [List.map_map, Function.comp_def]
  have base := pe_lc2 (pos := pos) (wi := pI X.K (evi Γ G it)) (g := pG X.K t) (tt := pTs X.K (evp Γ G cnd)) (wi1 := pI X.K (evi Γ G it1)) (g1 := pG X.K t1) (tt1 := pTs X.K (evp Γ G cnd1)) (te := pE X.K (ev Γ G e)) (elt := elt) (own := own.map fun i => (N.getD i ⟨#[]⟩, i)) (vs1 := own1) ok.calm (by rw [ok.hN]; exact ok.nd) hi (by rw [ok.hN, ok.hsc]; exact blkOk_by hblk) (by rw [hov]; exact hsub)
    (fun s H C cl fp => hg _ (blk_ok ok s H scope C cl fp)) (fun s H C cl fp => ht _ (blk_ok ok s H scope C cl fp)) (fun s H C cl fp => hi1 _ (blk_ok ok s H scope C cl fp)) (fun s H C cl fp => hg1 _ (blk_ok ok s H scope C cl fp)) (fun s H C cl fp => ht1 _ (blk_ok ok s H scope C cl fp)) (fun s H C cl fp => he _ (blk_ok ok s H scope C cl fp)) (fold_of hset) (fun _ => fold_of hset1)
  rw [hov] at base
  exact PE.of base fun σ H Q F O ρ r ρ' kf I ee q => lc2_red hown hown1 hsub kf I ee q
end
end DP
/-! The pure layer: dicts. -/
namespace DP
open PySem PySem.Spec PyProof.Rows L2
open DPK (En dO keyN KdOk)
section
variable {K : PySem.W.Frag} {F O : Addr → Prop} {σ : Sg} {H : Hp} {ρ : PEnv} {p : Addr} {o : HO} {b : OB}
/-- a new thing that nobody owns yet, and that nothing may stand on -/
theorem EI.foreign (I : EI K F O σ H ρ) (n : H p = none) (m : Mut (some o)) (off : Off K (Or2 (fun a => F a ∨ a = p) O)) : EI K (fun a => F a ∨ a = p) O σ (upd H p o) ρ := by
  have np : ∀ a, Or2 F O a → a ≠ p := fun a z q => by
    have := I.mf a z
    rw [q, n] at this
    exact this
  have g : Grow (Or2 F O) (Or2 (fun a => F a ∨ a = p) O) H := fun a z => by
    rcases z with (z | z) | z
    · exact .inl (.inl z)
    · exact .inr (by rw [z]; exact n)
    · exact .inl (.inr z)
  refine ⟨fun a z => ?_, fun a z z' => ?_, I.len, fun j d e => ?_, fun j b e => ?_, I.inj⟩
  · rcases z with (z | z) | z
    · rw [upd_ne (np a (.inl z))]; exact I.mf a (.inl z)
    · rw [z, upd_same]; exact m
    · rw [upd_ne (np a (.inr z))]; exact I.mf a (.inr z)
  · rcases z with z | z
    · exact I.dis a z z'
    · exact np a (.inr z') z
  · obtain ⟨v, h1, h2⟩ := I.val j d e
    exact ⟨v, h1, Rp.keep I.mf (.new n) g off h2⟩
  · obtain ⟨a, h1, h2, u, h3, h4⟩ := I.own j b e
    exact ⟨a, h1, h2, u, by rw [upd_ne (np a (.inr h2))]; exact h3, ObN.keep I.mf (.new n) g off h4⟩
theorem EI.adopt (I : EI K (fun a => F a ∨ a = p) O σ H ρ) (kf : KOff K H) (kf' : KOff K (upd H p o)) (nF : ¬ F p) (ob : ObN K (Or2 (fun a => F a ∨ a = p) O) H p o b) :
    EI K F (fun a => O a ∨ a = p) σ (upd H p o) ρ ∧ RR K F (fun a => O a ∨ a = p) σ (upd H p o) ρ (.ref p) (.fr b) := by
  have eqv : ∀ a, Or2 F (fun a => O a ∨ a = p) a ↔ Or2 (fun a => F a ∨ a = p) O a := fun a =>
    ⟨fun z => by rcases z with z | z | z; exact .inl (.inl z); exact .inr z; exact .inl (.inr z), fun z => by rcases z with (z | z) | z; exact .inl z; exact .inr (.inr z); exact .inr (.inl z)⟩
  have off := kf.off I.mf
  have I' := I.mutF (o := o) off (.inr rfl) ob.mut
  have off' := kf'.off I'.mf
  have kp : Keep (Or2 (fun a => F a ∨ a = p) O) H (upd H p o) := ⟨fun c u e n => by rw [upd_ne (fun q => n (.inl (.inr q)))]; exact e⟩
  have ob' : ObN K (Or2 F (fun a => O a ∨ a = p)) (upd H p o) p o b := ObN.less (fun a z => (eqv a).mp z) (ObN.keep I.mf kp (fun _ z => .inl z) off ob) I'.mf off'
  refine ⟨⟨fun a z => I'.mf a ((eqv a).mp z), fun a z z' => ?_, I'.len, fun j d e => ?_, fun j b e => ?_, I'.inj⟩, p, rfl, .inr rfl, ⟨o, upd_same, ob'⟩, fun j c e es => ?_⟩
  · rcases z' with z' | z'
    · exact I'.dis a (.inl z) z'
    · exact nF (by rw [← z']; exact z)
  · obtain ⟨v, h1, h2⟩ := I'.val j d e
    exact ⟨v, h1, Rp.less (fun a z => (eqv a).mp z) h2 I'.mf off'⟩
  · obtain ⟨a, h1, h2, u, h3, h4⟩ := I'.own j b e
    exact ⟨a, h1, .inl h2, u, h3, ObN.less (fun a z => (eqv a).mp z) h4 I'.mf off'⟩
  · obtain ⟨a, h1, h2, _⟩ := I'.own j c e
    rw [es] at h1
    cases h1
    exact I'.dis p (.inr rfl) h2
end
section
variable {X : Cx} {N : List Str} {sc scs : Scope} {Γ : Sems} {G : Str → Option D} {py pa pb pc : Expr} {a b c : E} {pos : Pos} {pys : List Expr}
theorem e_dnew : PE X (.Dict [] [] pos) (pE X.K (ev Γ G .dnew)) := by
  refine PE.of DPK.pe_new fun σ H Q F O ρ r ρ' kf I e q => ?_
  simp only [ev, Option.some.injEq, Prod.mk.injEq] at e
  obtain ⟨rfl, rfl⟩ := e
  exact fun p n => fin_ok kf .refl I q _ _ ⟨p, _, rfl, n, rfl, _, rfl, KdOk.nil, .nil⟩
/-! displays -/
def trsOf (K : PySem.W.Frag) (Γ : Sems) (G : Str → Option D) : Es → List (TE × TE)
  | .cons a (.cons b r) => (pE K (ev Γ G a), pE K (ev Γ G b)) :: trsOf K Γ G r
  | _ => []
def evenEs : Es → Bool
  | .nil => true
  | .cons _ .nil => false
  | .cons _ (.cons _ r) => evenEs r
inductive RpPs (K : PySem.W.Frag) (Z : Addr → Prop) (H : Hp) : List (V × V) → List D → Prop
  | nil : RpPs K Z H [] []
  | cons {k v : V} {kd vd : D} {ps : List (V × V)} {ds : List D} : Rp K Z H k kd → Rp K Z H v vd → RpPs K Z H ps ds → RpPs K Z H ((k, v) :: ps) (kd :: vd :: ds)
theorem prs_red {F : Addr → Prop} {σ : Sg} : ∀ (es : Es) {O : Addr → Prop} {H : Hp} {ρ ρ' : PEnv} {ds : List D} {Q : List (V × V) → Hp → Prop}, evenEs es = true → KOff X.K H → EI X.K F O σ H ρ → evs Γ G es ρ = some (ds, ρ') →
    (∀ ps H' O', KOff X.K H' → Step O O' H H' → EI X.K F O' σ H' ρ' → RpPs X.K (Or2 F O') H' ps ds → Q ps H') → tPairs (trsOf X.K Γ G es) σ H Q
  | .nil, O, H, ρ, ρ', ds, Q, _, kf, I, e, q => by
    simp only [evs, Option.some.injEq, Prod.mk.injEq] at e
    obtain ⟨rfl, rfl⟩ := e
    exact q [] H O kf .refl I .nil
  | .cons _ .nil, O, H, ρ, ρ', ds, Q, h, _, _, _, _ => by simp [evenEs] at h
  | .cons a (.cons b r), O, H, ρ, ρ', ds, Q, h, kf, I, e, q => by
    simp only [evenEs] at h
    simp only [evs] at e
    split at e
    · rename_i ra ρ1 e1
      split at e
      · rename_i da ea
        split at e
        · rename_i ds1 ρ2' e2
          split at e2
          · rename_i rb ρ2 e3
            split at e2
            · rename_i db eb
              split at e2
              · rename_i ds2 ρ3 e4
                simp only [Option.some.injEq, Prod.mk.injEq] at e2 e
                obtain ⟨rfl, rfl⟩ := e2
                obtain ⟨rfl, rfl⟩ := e
                refine one_ok I e1 fun xv H1 O1 k1 s1 I1 hx => ?_
                refine one_ok I1 e3 fun yv H2 O2 k2 s2 I2 hy => ?_
                refine prs_red r h k2 I2 e4 fun ps H3 O3 k3 s3 I3 hp => ?_
                have hx3 := Rp.step I2 s3 (k3.off I3.mf) (Rp.step I1 s2 (k2.off I2.mf) (hx.toV ea))
                have hy3 := Rp.step I2 s3 (k3.off I3.mf) (hy.toV eb)
                exact q _ H3 O3 k3 ((s1.trans s2).trans s3) I3 (.cons hx3 hy3 hp)
              · cases e2
            · cases e2
          · cases e2
        · cases e
      · cases e
    · cases e
theorem dstore_inv {kvs kvs' : List (D × D)} {y v : D} (e : DPK.dstore kvs y v = some kvs') : ∃ k, DPK.keyK y = some k ∧ DPK.kinds (DPK.isTD y) kvs = true ∧ kvs.length < sizeL ∧ kvs' = DPK.dput kvs k y v := by
  unfold DPK.dstore at e
  split at e
  · rename_i k hk
    split at e
    · rename_i hb
      simp only [Bool.and_eq_true, decide_eq_true_eq] at hb
      exact ⟨k, hk, hb.1, hb.2, (Option.some.inj e).symm⟩
    · cases e
  · cases e
theorem kinds_put {b : Bool} {kvs : List (D × D)} {k : NestedKey} {kd vd : D} (h : DPK.kinds b kvs = true) (hk : DPK.isTD kd = b) : DPK.kinds b (DPK.dput kvs k kd vd) = true := by
  unfold DPK.kinds DPK.dput at *
  rw [List.all_eq_true] at h ⊢
  intro x hx
  split at hx
  · obtain ⟨q, hq, rfl⟩ := List.mem_map.mp hx
    have := h q hq
    split <;> exact this
  · rcases List.mem_append.mp hx with hx | hx
    · exact h x hx
    · cases List.mem_singleton.mp hx
      exact decide_eq_true hk
theorem RpPs.fill {K : PySem.W.Frag} {Z : Addr → Prop} {H : Hp} {b : Bool} : ∀ {ps : List (V × V)} {ds : List D} {kvs kvs' : List (D × D)} {xs : List En}, RpPs K Z H ps ds → dfill ds kvs = some kvs' → RpEn K Z H xs kvs → KdOk kvs → DPK.kinds b kvs = true → (∀ k r, ds = k :: r → kvs = [] → DPK.isTD k = b) → (kvs = [] ∨ True) →
    ∃ zs : List En, ps = zs.map (fun z => (z.2.1, z.2.2)) ∧ DPK.ZOk K H b zs ∧ zs.length = ps.length ∧ KdOk kvs' ∧ RpEn K Z H (DPK.xfill xs zs) kvs'
  | _, _, kvs, kvs', xs, .nil, e, hx, ho, hb, _, _ => by
    simp only [dfill, Option.some.injEq] at e
    subst e
    exact ⟨[], rfl, fun _ h => (nomatch h), rfl, ho, hx⟩
  | _, _, kvs, kvs', xs, .cons (k := kv) (v := vv) (kd := kd) (vd := vd) h1 h2 t, e, hx, ho, hb, hf, _ => by
    simp only [dfill] at e
    split at e
    · rename_i kvs1 e1
      obtain ⟨k, hk, hkb, hl, rfl⟩ := dstore_inv e1
      obtain ⟨k1, k2⟩ := DPK.keyK_inv hk
      have hT : DPK.isTD kd = b := by
        cases kvs with
        | nil => exact hf _ _ rfl rfl
        | cons p r =>
          have a1 := List.all_eq_true.mp hb p List.mem_cons_self
          have a2 := List.all_eq_true.mp hkb p List.mem_cons_self
          rw [← of_decide_eq_true a1, of_decide_eq_true a2]
      obtain ⟨zs, z1, z2, z3, z4, z5⟩ := RpPs.fill (b := b) t e (hx.put k1 h1 h2) (ho.put hk) (kinds_put hb hT) (fun k' r' _ hn => by
        unfold DPK.dput at hn
        split at hn
        · rename_i hs
          have : kvs = [] := by simpa using hn
          subst this
          simp [DPK.dfind] at hs
        · simp at hn) (.inr trivial)
      refine ⟨(k, kv, vv) :: zs, by rw [List.map_cons, ← z1], fun z hz => ?_, by simp [z3], z4, z5⟩
      rcases List.mem_cons.mp hz with rfl | hz
      · exact ⟨RpEn.keyV k1 h1, k2, by rw [DPK.keyN_isT k1]; exact hT⟩
      · exact z2 z hz
    · cases e
theorem RpPs.len {K : PySem.W.Frag} {Z : Addr → Prop} {H : Hp} : ∀ {ps : List (V × V)} {ds : List D}, RpPs K Z H ps ds → ds.length = 2 * ps.length
  | _, _, .nil => rfl
  | _, _, .cons _ _ t => by simp [RpPs.len t]; omega
theorem dispL_len : ∀ {ks : List (Option Expr)} {vs l : List Expr}, dispL ks vs = some l → ks.all (·.isSome) = true ∧ ks.length = vs.length ∧ l.length = 2 * ks.length
  | [], [], l, e => by simp [dispL] at e; subst e; exact ⟨rfl, rfl, rfl⟩
  | [], _ :: _, l, e => by simp [dispL] at e
  | some k :: ks, [], l, e => by simp [dispL] at e
  | none :: ks, _, l, e => by simp [dispL] at e
  | some k :: ks, v :: vs, l, e => by
    simp only [dispL, Option.map_eq_some_iff] at e
    obtain ⟨l', e, rfl⟩ := e
    obtain ⟨h1, h2, h3⟩ := dispL_len e
    exact ⟨by simp [h1], by simp [h2], by simp [h3]; omega⟩
theorem e_dsp {es : Es} {ks : List (Option Expr)} {vs l : List Expr} (ok : XOk X N sc scs Γ G) (hl : dispL ks vs = some l) (h0 : l ≠ []) (h30 : l.length ≤ 30) (hv : evenEs es = true) (hle : lenEs es = l.length) (h : PPs X pos ks vs (trsOf X.K Γ G es)) : PE X (.Dict ks vs pos) (pE X.K (ev Γ G (.dsp es))) := by
  obtain ⟨d1, d2, d3⟩ := dispL_len hl
  have hk0 : ks ≠ [] := fun z => by subst z; cases vs <;> simp [dispL] at hl; exact h0 hl
  have hroom := ok.room
  refine PE.of (DPK.pe_dsp (by omega) h d1 d2 hk0 (by omega)) fun σ H Q F O ρ r ρ' kf I e q => ?_
  simp only [ev] at e
  split at e
  · rename_i ds ρ1 e1
    split at e
    · rename_i kvs ek
      simp only [Option.some.injEq, Prod.mk.injEq] at e
      obtain ⟨rfl, rfl⟩ := e
      have hds := evs_len e1
      have hne : ∃ k r, ds = k :: r := by
        cases ds with
        | nil => rw [hle] at hds; simp at hds; exact (h0 (List.eq_nil_of_length_eq_zero hds.symm)).elim
        | cons k r => exact ⟨k, r, rfl⟩
      obtain ⟨kd0, dr0, rfl⟩ := hne
      refine ⟨DPK.isTD kd0, fun p n => ?_⟩
      by_cases hK : ∃ o, X.K.lookup p = some o
      · obtain ⟨o, hK⟩ := hK
        cases es with
        | nil => simp [lenEs] at hle; exact (h0 (List.eq_nil_of_length_eq_zero hle.symm)).elim
        | cons a r => cases r with
          | nil => simp [evenEs] at hv
          | cons b r => exact fun k => by have := k p o hK; rw [upd_same] at this; cases this
      · have kD : ∀ {Hx : Hp} {u : HO}, KOff X.K Hx → KOff X.K (upd Hx p u) := fun {Hx u} k a o h => by
          rw [upd_ne (fun z => hK ⟨o, by rw [← z]; exact h⟩)]
          exact k a o h
        have nF : ¬ F p := fun z => by have := I.mf p (.inl z); rw [n] at this; exact this
        have nO : ¬ O p := fun z => by have := I.mf p (.inr z); rw [n] at this; exact this
        have mF : Muts (Or2 (fun a => F a ∨ a = p) O) (upd H p (dO p [])) := fun a z => by
          by_cases hap : a = p
          · rw [hap, upd_same]; trivial
          · rw [upd_ne hap]
            rcases z with (z | z) | z
            · exact I.mf a (.inl z)
            · exact (hap z).elim
            · exact I.mf a (.inr z)
        have I1 := I.foreign (o := dO p []) n trivial ((kD kf).off mF)
        refine prs_red es hv (kD kf) I1 e1 fun ps H2 O2 k2 s2 I2 hp => ?_
        have hp2 : H2 p = some (dO p []) := s2.keep.k p _ upd_same nO
        obtain ⟨zs, z1, z2, z3, z4, z5⟩ := hp.fill (b := DPK.isTD kd0) (xs := []) ek .nil KdOk.nil rfl (fun k r hh _ => by cases hh; rfl) (.inl rfl)
        have hlen := hp.len
        refine ⟨hp2, zs, z1, z2, by omega, fun kk => ?_⟩
        obtain ⟨I3, hr⟩ := I2.adopt (o := dO p (DPK.xfill [] zs)) (b := .d kvs) k2 kk nF ⟨_, rfl, z4, z5⟩
        refine q _ _ _ kk ⟨⟨fun a o ha na => ?_⟩, fun a z => ?_⟩ I3 hr
        · have hap : a ≠ p := fun z => by rw [z, n] at ha; cases ha
          rw [upd_ne hap]
          exact s2.keep.k a o (by rw [upd_ne hap]; exact ha) na
        · rcases z with z | z
          · rcases s2.grow a z with z' | z'
            · exact .inl z'
            · by_cases hap : a = p
              · exact .inr (by rw [hap]; exact n)
              · rw [upd_ne hap] at z'; exact .inr z'
          · exact .inr (by rw [z]; exact n)
    · cases e
  · cases e
/-! d.get(k), d.get(k, x) -/
theorem m1_of {x : Str} {p1 ap cp : Pos} (hs : notStar pb = true) (hline : ap.endLine = cp.line) : M1 X (.Name x p1) "get" ap pb cp where
  base := rfl
  few := hfew_of hs
  line := by rw [hline]; exact beq_self_eq_true _
  trees := by rw [star_of hs]; rfl
theorem m2_of {x : Str} {p1 ap cp : Pos} (hs : notStar pb = true) (hs2 : notStar pc = true) (hline : ap.endLine = cp.line) : M2 X (.Name x p1) "get" ap pb pc cp where
  base := rfl
  few := by rw [star_of hs, star_of hs2]; rfl
  line := by rw [hline]; exact beq_self_eq_true _
  trees := by rw [star_of hs, star_of hs2]; rfl
theorem dget_at {F O : Addr → Prop} {σ : Sg} {H : Hp} {ρ ρ3 : PEnv} {x : V} {ra : R} {kv0 kvs : List (D × D)} {y : D} {o : Option D} (I : EI X.K F O σ H ρ) (hx : HR X.K F O σ H x ra) (e0 : toC ρ ra = some (.dict kv0)) (e3 : toC ρ3 ra = some (.dict kvs)) (eo : DPK.dlook kvs y = some o) :
    ∃ a xs, x = .ref a ∧ Rd H a (dO a xs) := by
  obtain ⟨k, _, hb, _⟩ := dlook_inv eo
  have fin : ∀ kv, CR X.K (Or2 F O) H x (.dict kv) → kv = kvs → ∃ a xs, x = .ref a ∧ Rd H a (dO a xs) := fun kv h e => by
    subst e
    obtain ⟨a, xs, h1, h2, _⟩ := notFn h hb
    exact ⟨a, xs, h1, h2⟩
  cases ra with
  | v d => cases e0; cases e3; exact fin _ (Rp.cr hx) rfl
  | fr b =>
    have : obD b = .dict kv0 := Option.some.inj e0
    have h3 : obD b = .dict kvs := Option.some.inj e3
    rw [this] at h3
    cases h3
    have hx : Rp X.K (Or2 F O) H x (obD b) := hx
    rw [this] at hx
    exact fin _ (Rp.cr hx) rfl
  | pk i =>
    simp only [toC] at e0
    split at e0
    · rename_i b hb0
      obtain ⟨a, e1, z, _, h1, h2⟩ := I.own i _ hb0
      have : σ[i]? = some (some x) := hx
      rw [e1] at this
      cases this
      cases b with
      | l xs => cases e0
      | d kvs' =>
        obtain ⟨xs, rfl, _⟩ := h2
        exact ⟨a, xs, rfl, .inl h1⟩
    · cases e0
theorem e_dget {x : Str} {p1 ap cp : Pos} {z : Option Expr} {c : Part} (ok : XOk X N sc scs Γ G) (hs : notStar pb = true) (hline : ap.endLine = cp.line) (ha : PE X (.Name x p1) (pE X.K (ev Γ G a))) (hb : PE X pb (pE X.K (ev Γ G b)))
    (hc : match c, z with | .none, none => True | .some e, some pz => notStar pz = true ∧ PE X pz (pE X.K (ev Γ G e)) | _, _ => False) :
    PE X (.Call (.Attribute (.Name x p1) "get" ap) (pb :: z.toList) [] cp) (pE X.K (ev Γ G (.dget a b c))) := by
  have hroom := ok.room
  have kinds : ∀ {H : Hp} {Z : Addr → Prop} {x y : V} {kvs : List (D × D)} {dy : D} {o : Option D}, CR X.K Z H x (.dict kvs) → Rp X.K Z H y dy → DPK.dlook kvs dy = some o →
      ∃ a xs k b, x = .ref a ∧ Rd H a (dO a xs) ∧ DPK.Keys X.K H b xs ∧ DPK.KeyV X.K H k y ∧ k.depth ≤ 8 ∧ DPK.isT k = b ∧ RpO X.K Z H (DPK.xfind xs k) o := fun hx hy e => dlook_ok (Rp.cr hy) hx e
  cases c with
  | none => cases z with
    | some _ => exact hc.elim
    | none =>
      refine PE.of (DPK.pe_get1 (by omega) ha hb (m1_of hs hline)) fun σ H Q F O ρ r ρ' kf I e q => ?_
      simp only [ev, evp] at e
      split at e
      · rename_i ra ρ1 e1
        split at e
        · rename_i kv0 e0
          split at e
          · rename_i rb ρ2 e2
            split at e
            · rename_i kvs y zz g1 g2 g3
              split at e
              · rename_i o eo
                simp only [dfl, Option.some.injEq] at g3
                subst g3
                simp only [Option.some.injEq, Prod.mk.injEq] at e
                obtain ⟨rfl, rfl⟩ := e
                refine one_ok I e1 fun xv H1 O1 k1 s1 I1 hx => ?_
                obtain ⟨a0, xs0, rfl, h0⟩ := dget_at I1 hx e0 g1 eo
                refine ⟨a0, xs0, rfl, h0, one_ok I1 e2 fun yv H2 O2 k2 s2 I2 hy => ?_⟩
                have hx2 := hx.step I1 s2 (k2.off I2.mf)
                obtain ⟨a1, xs, k, b, hh, w1, w2, w3, w4, w5, w6⟩ := kinds (hx2.toC I2 g1) (hy.toV g2) eo
                cases hh
                refine ⟨xs, b, k, w1, w2, w3, w4, w5, fun kk => q _ H2 O2 kk (s1.trans s2) I2 (w6.getD .non)⟩
              · cases e
            · cases e
          · cases e
        · cases e
      · cases e
  | some ec => cases z with
    | none => exact hc.elim
    | some pz =>
      refine PE.of (DPK.pe_get2 (by omega) ha hb hc.2 (m2_of hs hc.1 hline)) fun σ H Q F O ρ r ρ' kf I e q => ?_
      simp only [ev, evp] at e
      split at e
      · rename_i ra ρ1 e1
        split at e
        · rename_i kv0 e0
          split at e
          · rename_i rb ρ2 e2
            split at e
            · rename_i rc ρ3 e3
              split at e
              · rename_i kvs y zz g1 g2 g3
                split at e
                · rename_i o eo
                  split at e3
                  · rename_i rz ρz ez
                    simp only [Option.some.injEq, Prod.mk.injEq] at e3
                    obtain ⟨rfl, rfl⟩ := e3
                    simp only [dfl] at g3
                    simp only [Option.some.injEq, Prod.mk.injEq] at e
                    obtain ⟨rfl, rfl⟩ := e
                    refine one_ok I e1 fun xv H1 O1 k1 s1 I1 hx => ?_
                    obtain ⟨a0, xs0, rfl, h0⟩ := dget_at I1 hx e0 g1 eo
                    refine ⟨a0, xs0, rfl, h0, one_ok I1 e2 fun yv H2 O2 k2 s2 I2 hy => one_ok I2 ez fun zv H3 O3 k3 s3 I3 hz => ?_⟩
                    have hx3 := (hx.step I1 s2 (k2.off I2.mf)).step I2 s3 (k3.off I3.mf)
                    have hy3 := Rp.step I2 s3 (k3.off I3.mf) (hy.toV g2)
                    obtain ⟨a1, xs, k, b, hh, w1, w2, w3, w4, w5, w6⟩ := kinds (hx3.toC I3 g1) hy3 eo
                    cases hh
                    refine ⟨xs, b, k, w1, w2, w3, w4, w5, fun kk => q _ H3 O3 kk ((s1.trans s2).trans s3) I3 (w6.getD (hz.toV g3))⟩
                  · cases e3
                · cases e
              · cases e
            · cases e
          · cases e
        · cases e
      · cases e
/-! a call of a name that holds a def -/
theorem fnN_inv {d : D} {f : Str} (h : fnN d = some f) : d = .dict [(.tuple [], .none), (.str f, .none)] := by
  unfold fnN at h
  split at h
  · cases h; rfl
  · cases h
theorem e_callv {i : Nat} {as : As} {x : Str} {p : Pos} (ok : XOk X N sc scs Γ G) (hx : nmC N sc i x = true) (hs : ∀ e ∈ pa :: pys, notStar e = true) (h : PA X (pa :: pys) (pAa X.K (eva Γ G as))) :
    PE X (.Call (.Name x p) (pa :: pys) [] pos) (pE X.K (ev Γ G (.callv i as))) := by
  obtain ⟨h1, h2, h3, h4⟩ := names_of ok hx
  have hpl : ∀ pys : List Expr, (∀ e ∈ pys, notStar e = true) → (backTo pos (starEach pys X.env)).any (·.1) = false := by
    intro pys
    induction pys with
    | nil => intro _; rfl
    | cons e r ih =>
      intro hh
      rw [star_of (hh e List.mem_cons_self)]
      show (false || _) = false
      rw [Bool.false_or]
      exact ih fun z hz => hh z (List.mem_cons_of_mem _ hz)
  refine ⟨fun pins s σ H Q I h0 => ?_⟩
  obtain ⟨F, O, ρ, r, ρ', I1, e, q⟩ := h0 (koff_of I)
  simp only [ev] at e
  split at e
  · rename_i d hd
    split at e
    · rename_i f hf
      split at e
      · rename_i hs' ρ1 e2
        have hg : ∃ as r, Γ f as = some r := by
          unfold callE at e
          split at e
          · cases e
          · split at e
            · rename_i eg _; exact ⟨_, _, eg⟩
            · rename_i eg _; exact ⟨_, _, eg⟩
            · cases e
        obtain ⟨v, e1, hv⟩ := I1.val i d hd
        have hfn : ∃ fa, v = .ref fa ∧ PySem.W.nsIn X.K mainGlobals f = some (some (.ref fa)) := by
          rw [fnN_inv hf] at hv
          cases hv with
          | dct _ _ o _ =>
            obtain ⟨k, hk⟩ := o.ok (.str f, .none) (by simp)
            simp [DPK.keyK, DPK.keyN] at hk
          | fn en => exact ⟨_, rfl, en⟩
        obtain ⟨fa, rfl, en⟩ := hfn
        obtain ⟨fa', fd, ps, k, n, FO, hr, hm, hk, hb, hn⟩ := ok.fns f hg
        have hfa := ok.fnu f fa en
        rw [hm] at hfa
        cases hfa
        have e' : ev Γ G (.call f as) ρ = some (r, ρ') := by simp only [ev, e2]; exact e
        have P := pe_callL (p := p) (pos := pos) FO hr h1 h2 hk hb .nil pass0 h h3 h4 (star_of (hs pa List.mem_cons_self) _) (hpl pys fun z hz => hs z (List.mem_cons_of_mem _ hz))
        refine thn (P.run pins s σ H (fun v H' => KOff X.K H' → Q v H') I ⟨e1, ?_⟩) fun u s1 ⟨v, H1, J, rv, q1⟩ => ⟨v, H1, J, rv, q1 (koff_of J)⟩
        exact call_red hn I1 e' q
      · cases e
    · cases e
  · cases e
end
end DP
/-! The pure layer: how many different numbers a comprehension makes. -/
namespace DPX
open PySem PySem.Spec PyProof.Rows L2
section
variable {X : Cx}
theorem addI_ok {pins : List (Addr × Obj)} {σ : L2.St} {H : Hp} {s : Shared} {E : Value → Shared → Prop} {p : Addr} {S : Int → Bool} {n : Nat} {k : Int} {t : Tok} {Q : Value → Shared → Prop} (I : Inv X pins σ H s) (hp : H p = some (SetO X.w p S n)) (room : n + 1 < scanBound)
    (h : ∀ s', Inv X pins σ (upd H p (SetO X.w p (fun j => S j || decide (j = k)) (if S k = true then n else n + 1))) s' → Q .none s') : wpAny (model X.prog X.w) X.A (call (.builtin "set.add") [.ref p, .int k t]) Q E s :=
  setR_add (setO_get I hp) room fun h' same new => h _ (I.write (e := p) (t' := s.toks + 1) (by rw [hp]; trivial) (.inl rfl) (fun b u hb hu => (same.2 b hb).trans hu) (by have ⟨o, _, _, _, ho, _⟩ := new; exact ⟨o, ho⟩) (setO_new new))
/-- {elt for target in iter if ..} of numbers; D: the new set -/
def tSi (w : World) (wi : TI) (g : TG) (tt : TT) (te : TE) (vs : List Nat) : TE := fun σ H Q => wi σ H fun J H1 => ∀ D, H1 D = none → ∃ W : Nat → Nat → Hp → Prop, (∃ m, W 0 m (upd H1 D (SetO w D (fun _ => false) 0))) ∧ ∀ i m H, W i m H →
  (J.stop i H ∧ Q (.ref D) H) ∨ (J.go i H ∧ ∃ Nx : Hp → Prop, (∀ H', Nx H' → ∃ m', m' < m ∧ W (i + 1) m' H') ∧ ∀ x H', J.yld i H x H' → g x (L2.wipe σ vs) H' fun σ2 H2 => L2.wipe σ2 vs = L2.wipe σ vs ∧ tt σ2 H2 fun b H3 =>
    if b = true then te σ2 H3 fun y H4 => ∃ (c : Int) (S : Int → Bool) (n : Nat), y = .int c ∧ H4 D = some (SetO w D S n) ∧ n + 1 < scanBound ∧ Nx (upd H4 D (SetO w D (fun j => S j || decide (j = c)) (if S c = true then n else n + 1))) else Nx H3)
theorem pe_si {elt tg iter : Expr} {ifs : List Expr} {scope : Scope} {own : List (PySem.Str × Nat)} {pos : Pos} {wi : TI} {g : TG} {tt : TT} {te : TE} (hc : X.calm = true) (hN : X.N.Nodup) (hi : PI X tg iter wi) (ok : BlkOk X.N X.env.scope scope own)
    (hg : ∀ (s : Shared) (H : Hp) (C : Addr) (cl : List (PySem.Str × Addr)) (fp : List Addr), PG (X.blk s H scope (compEnvC scope cl C X.env) fp) tg g) (ht : ∀ (s : Shared) (H : Hp) (C : Addr) (cl : List (PySem.Str × Addr)) (fp : List Addr), PTs (X.blk s H scope (compEnvC scope cl C X.env) fp) ifs tt)
    (he : ∀ (s : Shared) (H : Hp) (C : Addr) (cl : List (PySem.Str × Addr)) (fp : List Addr), PE (X.blk s H scope (compEnvC scope cl C X.env) fp) elt te) (hs : ∀ x, foldedSetIterable iter X.env x = pure x) :
    PE X (.SetComp elt [⟨tg, iter, ifs, 0⟩] scope pos) (tSi X.w wi g tt te (own.map (·.2))) := by
  refine ⟨fun pins s σ H Q I h => ?_⟩
  rw [PpSet.eval_SetComp]
  have free : ∀ y ∈ scope.names, y.2 = .free → ∃ c, X.env.cells.lookup y.1 = some c := fun y hy e => (ok.free y hy e).elim (fun k => I.ok.has _ (.inl k)) fun k => I.ok.has _ (.inr k)
  refine wpAny_comprehension_free (use := none) rfl hs (closure_ok free) ok.kind (fun y hy e => by rw [ok.uniq y hy, e]) (thn (hi.run pins s σ H _ I h) fun _ _ hx => thn hx fun _ s2 h2 => ?_)
  obtain ⟨it, fp, tn, J, H2, rfl, I2, T, st2, f2, q⟩ := h2
  refine PpSet.newSet_ok (newEnv_comp ?_)
  obtain ⟨D, hD⟩ : ∃ D, s2.heap.objs.size = D := ⟨_, rfl⟩
  rw [hD]
  have hDn : H2 D = none := I2.hok.fresh (Nat.le_of_eq hD)
  obtain ⟨W, ⟨m0, w0⟩, turn⟩ := q D hDn
  obtain ⟨s3, hs3⟩ : ∃ s3 : Shared, ({ s2 with heap := s2.heap.push { cls := .type "set", dict := none, data := .set #[] 0 (.fresh 0 0 (!X.w.params.followText "set-order")) } } : Shared) = s3 := ⟨_, rfl⟩
  rw [hs3]
  have h3 : s3.heap = s2.heap.push { cls := .type "set", dict := none, data := .set #[] 0 (.fresh 0 0 (!X.w.params.followText "set-order")) } := by rw [← hs3]
  have grow : ∀ b o, s2.heap.get? b = some o → s3.heap.get? b = some o := fun b o e => by rw [h3]; exact Heap.get?_push_of_some _ e
  have I3 : Inv X pins σ (upd H2 D (SetO X.w D (fun _ => false) 0)) s3 := by
    have new := setR_new_at (w := X.w) (ns := []) (show (s2.heap.push { cls := .type "set", dict := none, data := .set #[] 0 (.fresh 0 0 (!X.w.params.followText "set-order")) }).get? D = _ by rw [← hD]; exact Heap.get?_push_size _ rfl)
    have e0 : (fun j : Int => decide (j ∈ ([] : List Int).take 0)) = fun _ => false := by funext j; simp
    rw [e0] at new
    rw [← hs3]
    exact I2.laid (t' := s2.toks) (fun b o e => Heap.get?_push_of_some _ e) (Nat.le_of_eq hD) (setO_new new)
  have f3 : ∀ b ∈ fp, FpOk X pins (upd H2 D (SetO X.w D (fun _ => false) 0)) b ∧ b < s3.heap.objs.size := fun b hb => by
    obtain ⟨o, e, _⟩ := T.obj _ _ st2 b hb
    have lt : b < s2.heap.objs.size := Heap.lt_size e
    exact ⟨⟨by rw [upd_ne (by rw [← hD]; exact Nat.ne_of_lt lt)]; exact (f2 b hb).1, (f2 b hb).2⟩, by rw [h3, Heap.size_push]; exact Nat.lt_succ_of_lt lt⟩
  have st3 : tn 0 s3.heap := T.keep _ _ _ st2 fun b _ o e => grow b o e
  have I4 := block_start I3 ok hN f3
  have pg := hg s3 (upd H2 D (SetO X.w D (fun _ => false) 0)) s3.heap.objs.size (cellsFrom (s3.heap.objs.size + 1) scope.names (cloFrom X.env.cells scope.names [])) fp
  have pt := ht s3 (upd H2 D (SetO X.w D (fun _ => false) 0)) s3.heap.objs.size (cellsFrom (s3.heap.objs.size + 1) scope.names (cloFrom X.env.cells scope.names [])) fp
  have pe := he s3 (upd H2 D (SetO X.w D (fun _ => false) 0)) s3.heap.objs.size (cellsFrom (s3.heap.objs.size + 1) scope.names (cloFrom X.env.cells scope.names [])) fp
  show codeAny _ _ (.compStart (.SetComp elt [⟨tg, iter, ifs, 0⟩] scope pos) 0 (.ref it) (.ref D) (compEnvC scope (cellsFrom (s3.heap.objs.size + 1) scope.names (cloFrom X.env.cells scope.names [])) s3.heap.objs.size X.env)) (compPost (model X.prog X.w) X.A X.xe none (EP X pins σ Q) (.ref D) s3.heap.objs.size) { s3 with heap := pushCells (s3.heap.push { cls := .type "dict", data := .dict #[] }) scope.names }
  have nfp : ∀ b ∈ fp, (upd H2 D (SetO X.w D (fun _ => false) 0)) b = none := fun b hb => (f3 b hb).1.1
  generalize hce : compEnvC scope (cellsFrom (s3.heap.objs.size + 1) scope.names (cloFrom X.env.cells scope.names [])) s3.heap.objs.size X.env = ce at I4 pg pt pe ⊢
  have cL : ce.locals = s3.heap.objs.size := by rw [← hce]; rfl
  generalize hH3 : upd H2 D (SetO X.w D (fun _ => false) 0) = H3 at I3 I4 pg pt pe w0 nfp f3
  generalize hs4 : ({ s3 with heap := pushCells (s3.heap.push { cls := .type "dict", data := .dict #[] }) scope.names } : Shared) = s4 at I4 ⊢
  have st4 : tn 0 s4.heap := T.keep _ _ _ st3 fun b _ o e => by rw [← hs4]; exact pushCells_keeps _ _ _ _ (Heap.get?_push_of_some _ e)
  have stat : ∀ {σ' : L2.St} {H' : Hp} {s' : Shared}, Inv (X.blk s3 H3 scope ce fp) [] σ' H' s' → (∀ b ∈ fp, H' b = none) → ∀ b ∈ fp, FpOk (X.blk s3 H3 scope ce fp) [] H' b := fun I' hn b hb =>
    ⟨hn b hb, (I'.ok.exf b hb).1, I'.ok.exfs b hb, .inl hb, fun x c e => (I'.ok.exf b hb).2 x c e, fun p hp => absurd (show p ∈ ([] : List (Addr × Obj)) ++ [] from hp) (by simp)⟩
  -- what stands ahead of turn i
  let Ahead : Nat → Shared → Prop := fun n s' => ∃ i H', Inv (X.blk s3 H3 scope ce fp) [] (L2.wipe σ (own.map (·.2))) H' s' ∧ tn i s'.heap ∧ (∀ b ∈ fp, H' b = none) ∧ W i n H'
  have loop : codeAny (model X.prog X.w) X.A (.compLoop (.SetComp elt [⟨tg, iter, ifs, 0⟩] scope pos) 0 (.ref it) (.ref D) ce) (compPost (model X.prog X.w) X.A X.xe none (EP X pins σ Q) (.ref D) s3.heap.objs.size) s4 := by
    refine PpSet.compLoopS_any Ahead ?_ m0 ⟨0, H3, I4, st4, nfp, w0⟩
    rintro n s5 ⟨i, H5, I5, st5, n5, w5⟩
    rcases turn i n H5 w5 with ⟨stop, last⟩ | ⟨go, Nx, more, step⟩
    · refine thnF (T.done (X.blk s3 H3 scope ce fp) rfl rfl rfl hc i [] s5 _ H5 (fun _ _ => False) I5 (stat I5 n5) st5 stop) fun r s6 ⟨hr, I6⟩ => ?_
      subst hr
      have I7 : Inv X pins σ H5 s6 := I3.call' (ch := fp) I6.os I6.base I6.hok I6.bare fun b hb => ⟨(f3 b hb).1.2.2.2.1, (f3 b hb).1.2.1, (f3 b hb).1.2.2.2.2.1, (f3 b hb).1.2.2.2.2.2⟩
      have nC : H5 s3.heap.objs.size = none := by
        have z : H5 ce.locals = none := I6.free
        rwa [cL] at z
      obtain ⟨m, hn, _⟩ := I6.loc
      have hn : s6.heap.Ns ce.locals m := hn
      rw [cL] at hn
      obtain ⟨f0, f1, _, f3', f4, f5⟩ := I3.fpOk (Nat.le_refl _) nC
      exact ⟨m, hn, fun h'' sb => ⟨.ref D, H5, I7.turned (t' := s6.toks) (fun b o hb e => (sb.2 b hb).trans e) f0 f1 f3' f4 f5, rfl, last⟩⟩
    · refine thnF (T.item (X.blk s3 H3 scope ce fp) rfl rfl rfl hc i [] s5 _ H5 (fun _ _ => False) I5 (stat I5 n5) st5 go) fun r s6 ⟨u, hr, h6⟩ => ?_
      subst hr
      refine thnF h6 fun _ s7 ⟨x, H7, I7, r7, y7, st7, n7⟩ => ?_
      refine thnF (pg.run _ s7 _ H7 x u _ (I7.pinned (stat I7 n7) (T.obj _ _ st7)) r7 (step x H7 y7)) fun _ s8 ⟨σ8, H8, I8, hw8, q8⟩ => ?_
      refine thnF (pt.run _ s8 σ8 H8 _ I8 q8) fun b s9 ⟨H9, I9, q9⟩ => ?_
      have fin : ∀ {s' : Shared} {H' : Hp}, Inv (X.blk s3 H3 scope ce fp) ([] ++ pinsAt fp s7.heap) σ8 H' s' → Nx H' → ∃ m, m < n ∧ Ahead m s' := fun {s' H'} I' nx => by
        obtain ⟨m', hm, w'⟩ := more H' nx
        have pin' : ∀ b ∈ fp, ∀ o, s7.heap.get? b = some o → s'.heap.get? b = some o ∧ H' b = none := fun b hb o e =>
          let z := I'.pin (b, o) (List.mem_append_right _ (List.mem_append_right _ (mem_pinsAt hb e)))
          ⟨z.1, z.2.1⟩
        have hl : (L2.wipe σ (own.map (·.2))).length = σ8.length := by rw [← hw8, L2.wipe_length]
        refine ⟨m', hm, i + 1, H', (I'.unpinned (pins := [])).weak hl (fun j v e => ?_), T.keep _ _ _ st7 fun b hb o e => (pin' b hb o e).1, fun b hb => ?_, w'⟩
        · rw [← hw8] at e
          exact (wipe_some e).1
        · obtain ⟨o, e, _⟩ := T.obj _ _ st7 b hb
          exact (pin' b hb o e).2
      cases b with
      | false =>
        simp only [Bool.false_eq_true, if_false] at q9 ⊢
        exact fin I9 q9
      | true =>
        simp only [if_true] at q9 ⊢
        refine thnF (pe.run _ s9 σ8 H9 _ I9 q9) fun z s10 ⟨yv, H10, I10, r10, c, S0, n0, ey, hD10, hz10, nx⟩ => ?_
        subst ey
        obtain ⟨tk, rfl⟩ := (show ∃ t, z = Value.int c t from r10)
        exact addI_ok (X := X.blk s3 H3 scope ce fp) I10 hD10 hz10 fun s11 I11 => fin I11 nx
  exact PpSet.codeAny_compStart_set loop (T.self X.A 0 _ _ _ st4 loop)
end
end DPX
namespace DP
open PySem PySem.Spec PyProof.Rows L2
theorem toInts_app : ∀ (a b : List D) (l : List Int), toInts (a ++ b) = some l → ∃ x y, toInts a = some x ∧ toInts b = some y ∧ l = x ++ y
  | [], b, l, h => ⟨[], l, rfl, h, rfl⟩
  | d :: a, b, l, h => by
    cases d <;> simp only [List.cons_append, toInts, Option.map_eq_some_iff, reduceCtorEq] at h
    obtain ⟨l', h, rfl⟩ := h
    obtain ⟨x, y, h1, h2, rfl⟩ := toInts_app a b l' h
    exact ⟨_ :: x, y, by simp [toInts, h1], h2, rfl⟩
theorem usort_le : ∀ l : List Int, (DP.usort l).length ≤ l.length
  | [] => by simp [DP.usort]
  | y :: r => by
    have h1 : ∀ (y : Int) (l : List Int), (DP.insU y l).length ≤ l.length + 1 := by
      intro y l
      induction l with
      | nil => simp [DP.insU]
      | cons z r ih =>
        unfold DP.insU
        split
        · simp
        · split
          · simp
          · simpa using ih
    have := h1 y (DP.usort r)
    have := usort_le r
    simp only [DP.usort, List.length_cons]
    omega
theorem usort_snoc (l : List Int) (c : Int) : (DP.usort (l ++ [c])).length = if c ∈ l then (DP.usort l).length else (DP.usort l).length + 1 := by
  have nd : ∀ l : List Int, (DP.usort l).Nodup := fun l => (DPX.usort_lt l).imp fun h => Int.ne_of_lt h
  split
  · rename_i h
    rw [← DPX.usort_the (l := DP.usort l) (m := l ++ [c]) (DPX.usort_lt l) fun x => by
      rw [DPX.usort_mem]
      simp only [List.mem_append, List.mem_singleton]
      exact ⟨.inl, fun z => z.elim id fun e => by rw [e]; exact h⟩]
  · rename_i h
    have p : (DP.usort (l ++ [c])).Perm (c :: DP.usort l) := by
      refine (List.perm_ext_iff_of_nodup (nd _) (List.nodup_cons.mpr ⟨by rw [DPX.usort_mem]; exact h, nd l⟩)).mpr fun x => ?_
      rw [DPX.usort_mem, List.mem_cons, DPX.usort_mem]
      simp only [List.mem_append, List.mem_singleton]
      exact Or.comm
    rw [p.length_eq, List.length_cons]
section
variable {X : Cx} {N : List Str} {sc scs : Scope} {Γ : Sems} {G : Str → Option D} {py pa pb pc tg : Expr} {a b c : E} {pos : Pos} {pys : List Expr}
/-- the state ahead of turn i: zs is still to come -/
structure LsW (w : World) (K : PySem.W.Frag) (F O1 : Addr → Prop) (H1 : Hp) (σ : Sg) (own : List Nat) (D0 : Addr) (f : D → PEnv → Option (List D × PEnv)) (ds : List D) (ys : List D) (ρe : PEnv) (i : Nat) (Hx : Hp) : Prop where
  le : i ≤ ds.length
  ex : ∃ ρx Ox nsx zs, KOff K Hx ∧ Step O1 Ox H1 Hx ∧ EI K (fun a => F a ∨ a = D0) Ox (L2.wipe σ own) Hx (wipe ρx own) ∧ Hx D0 = some (SetO w D0 (fun j => decide (j ∈ nsx)) (DP.usort nsx).length) ∧
    lcL own f (ds.drop i) ρx = some (zs, ρe) ∧ ys = nsx.map .int ++ zs ∧ nsx.length ≤ i
theorem ls_red {t : T} {it : It} {cnd : Part} {own : List Nat} {e : E} (hown : ∀ i ∈ slotsT t, i ∈ own) {σ : Sg} {H : Hp} {Q : VK} {F O : Addr → Prop} {ρ : PEnv} {r : R} {ρ' : PEnv} (kf : KOff X.K H) (I : EI X.K F O σ H ρ) (ee : ev Γ G (.lsc t it cnd own e) ρ = some (r, ρ'))
    (q : ∀ v H' O', KOff X.K H' → Step O O' H H' → EI X.K F O' σ H' ρ' → RR X.K F O' σ H' ρ' v r → Q v H') : DPX.tSi X.w (pI X.K (evi Γ G it)) (pG X.K t) (pTs X.K (evp Γ G cnd)) (pE X.K (ev Γ G e)) own σ H fun v H' => ∃ (a : Addr) (S : Int → Bool) (n : Nat), [v] = [V.ref a] ∧ H' a = some (SetO X.w a S n) ∧ n < 4000 ∧ (KOff X.K H' → Q (.int (n : Nat)) H') := by
  simp only [ev] at ee
  split at ee
  · rename_i ds ρ1 e1
    split at ee
    · rename_i hc
      simp only [Bool.and_eq_true, decide_eq_true_eq] at hc
      obtain ⟨hlen, hfree⟩ := hc
      split at ee
      · rename_i ys ρe e2
        have e2 : lcL own (lcF Γ G t cnd e) ds ρ1 = some (ys, ρe) := e2
        split at ee
        case h_2 => cases ee
        rename_i nsT eT
        simp only [Option.some.injEq, Prod.mk.injEq] at ee
        obtain ⟨rfl, rfl⟩ := ee
        refine fun _ => ⟨F, O, ρ, ds, ρ1, I, e1, fun J H1 O1 k1 s1 I1 wk D0 nD => ?_⟩
        have off1 := k1.off I1.mf
        have ID := I1.newO (o := SetO X.w D0 (fun _ => false) 0) off1 nD
        by_cases hK : ∃ o, X.K.lookup D0 = some o
        · -- such a new thing never comes
          obtain ⟨o, hK⟩ := hK
          have bad : ∀ {Hx : Hp} {u : HO}, Hx D0 = some u → ¬ KOff X.K Hx := fun h k => by have := k D0 o hK; rw [h] at this; cases this
          refine ⟨fun i m Hx => m = 0 ∧ i = 0 ∧ Hx = upd H1 D0 (SetO X.w D0 (fun _ => false) 0), ⟨0, rfl, rfl, rfl⟩, ?_⟩
          rintro i m Hx ⟨rfl, rfl, rfl⟩
          obtain ⟨w1, w2⟩ := wk (Or2 F O1) (upd H1 D0 (SetO X.w D0 (fun _ => false) 0)) (.new nD) (fun _ z => .inl z) ID.mf off1 0
          by_cases hd : 0 < ds.length
          · obtain ⟨go, yl⟩ := w1 hd
            refine .inr ⟨go, fun _ => False, fun _ z => z.elim, fun x H3 y => ?_⟩
            obtain ⟨h3, d, hd0, hx⟩ := yl x H3 y
            have hD3 : ∃ u, H3 D0 = some u := by
              rcases h3 with rfl | ⟨T, us, nT, rfl⟩
              · exact ⟨_, upd_same⟩
              · exact ⟨_, by rw [upd_ne (ne_of_none upd_same nT)]; exact upd_same⟩
            have I3 : EI X.K F O1 σ H3 ρ1 := by
              rcases h3 with rfl | ⟨T, us, nT, rfl⟩
              · exact ID
              · exact ID.newO off1 nT
            have I3w := I3.wiped own
            obtain ⟨u, hu⟩ := hD3
            have e3 : ∃ ys' ρ'', lcF Γ G t cnd e d (wipe ρ1 own) = some (ys', ρ'') := by
              cases ds with
              | nil => simp at hd
              | cons d' dr =>
                simp at hd0
                subst hd0
                simp only [lcL] at e2
                split at e2
                · rename_i e3; exact ⟨_, _, e3⟩
                · cases e2
            obtain ⟨ys', ρ'', e3⟩ := e3
            obtain ⟨ρt, ρ2, b, a1, a2, a3⟩ := lcF_inv e3
            refine ⟨F, O1, _, d, ρt, I3w, hx, a1, fun σ2 I2 l2 f2 => ⟨wipe_eq l2 fun i hi => f2 i fun z => hi (hown i z), fun kk => ?_⟩⟩
            exact (bad hu kk).elim
          · exact .inl ⟨w2 (by omega), ⟨_, _, _, rfl, upd_same, by omega, fun kk => (bad upd_same kk).elim⟩⟩
        · -- F': what is mutable and not ours, the new list with it
          have kD : ∀ {Hx : Hp} {u : HO}, KOff X.K Hx → KOff X.K (upd Hx D0 u) := fun {Hx u} k a o h => by
            rw [upd_ne (fun z => hK ⟨o, by rw [← z]; exact h⟩)]
            exact k a o h
          have nD1 : ∀ a, Or2 F O1 a → a ≠ D0 := fun a z q => by
            have := I1.mf a z
            rw [q, nD] at this
            exact this
          have mF : Muts (Or2 (fun a => F a ∨ a = D0) O1) (upd H1 D0 (SetO X.w D0 (fun _ => false) 0)) := fun a z => by
            rcases z with (z | z) | z
            · exact ID.mf a (.inl z)
            · rw [z, upd_same]; trivial
            · exact ID.mf a (.inr z)
          have offF := (kD k1 (u := SetO X.w D0 (fun _ => false) 0)).off mF
          have gF : ∀ Hy : Hp, Hy D0 = none → Grow (Or2 F O1) (Or2 (fun a => F a ∨ a = D0) O1) Hy := fun Hy n a z => by
            rcases z with (z | z) | z
            · exact .inl (.inl z)
            · exact .inr (by rw [z]; exact n)
            · exact .inl (.inr z)
          have I0 : EI X.K (fun a => F a ∨ a = D0) O1 σ (upd H1 D0 (SetO X.w D0 (fun _ => false) 0)) ρ1 := ⟨mF, fun a z z' => by
              rcases z with z | z
              · exact I1.dis a z z'
              · exact nD1 a (.inr z') z, I1.len, fun j d e => by
              obtain ⟨v, h1, h2⟩ := I1.val j d e
              exact ⟨v, h1, Rp.keep I1.mf (.new nD) (gF H1 nD) offF h2⟩, fun j b e => by
              obtain ⟨a, h1, h2, u, h3, h4⟩ := I1.own j b e
              exact ⟨a, h1, h2, u, by rw [upd_ne (nD1 a (.inr h2))]; exact h3, ObN.keep I1.mf (.new nD) (gF H1 nD) offF h4⟩, I1.inj⟩
          refine ⟨fun i m Hx => m = ds.length - i ∧ LsW X.w X.K F O1 H1 σ own D0 (lcF Γ G t cnd e) ds ys ρe i Hx, ⟨_, rfl, ⟨Nat.zero_le _, ρ1, O1, [], ys, kD k1, .new nD, I0.wiped own, upd_same.trans (by simp [DP.usort]), e2, rfl, Nat.le_refl _⟩⟩, ?_⟩
          rintro i m Hx ⟨rfl, ⟨hle, ρx, Ox, nsx, zs, kx, sx, Ix, hD, el, ey, hyl⟩⟩
          have offx := kx.off Ix.mf
          obtain ⟨w1, w2⟩ := wk (Or2 (fun a => F a ∨ a = D0) Ox) Hx (sx.keep.mono fun _ z => .inr z) (fun a z => by
            rcases z with (z | z) | z
            · exact .inl (.inl z)
            · exact .inr (by rw [z]; exact nD)
            · rcases sx.grow a z with q | q
              · exact .inl (.inr q)
              · exact .inr q) Ix.mf offx i
          by_cases hlt : i < ds.length
          · obtain ⟨go, yl⟩ := w1 hlt
            refine .inr ⟨go, LsW X.w X.K F O1 H1 σ own D0 (lcF Γ G t cnd e) ds ys ρe (i + 1), fun H' w => ⟨_, by omega, rfl, w⟩, fun x H3 y => ?_⟩
            obtain ⟨h3, d, hd0, hx⟩ := yl x H3 y
            have hdrop : ds.drop i = d :: ds.drop (i + 1) := by
              rw [List.drop_eq_getElem_cons hlt]
              rw [List.getElem?_eq_getElem hlt] at hd0
              rw [Option.some.inj hd0]
            rw [hdrop] at el
            simp only [lcL] at el
            split at el
            · rename_i ys' ρ'' e3
              split at el
              · rename_i zs' ρ3 e4
                simp only [Option.some.injEq, Prod.mk.injEq] at el
                obtain ⟨rfl, rfl⟩ := el
                have s3 : Step Ox Ox Hx H3 := by
                  rcases h3 with rfl | ⟨T, us, nT, rfl⟩
                  · exact .refl
                  · exact .new nT
                have I3 : EI X.K (fun a => F a ∨ a = D0) Ox (L2.wipe σ own) H3 (wipe ρx own) := by
                  rcases h3 with rfl | ⟨T, us, nT, rfl⟩
                  · exact Ix
                  · exact Ix.newO offx nT
                have nDO : ∀ {O5 : Addr → Prop} {H5 : Hp} {σ5 : Sg} {ρ5 : PEnv}, EI X.K (fun a => F a ∨ a = D0) O5 σ5 H5 ρ5 → ¬ O5 D0 := fun J => J.dis D0 (.inr rfl)
                obtain ⟨ρt, ρ2, b, a1, a2, a3⟩ := lcF_inv e3
                refine ⟨_, Ox, _, d, ρt, I3, hx, a1, fun σ2 I2 l2 f2 => ?_⟩
                have hw := wipe_eq l2 fun i hi => f2 i fun z => hi (hown i z)
                refine ⟨hw, fun k3 => ⟨_, Ox, ρt, b, ρ2, I2, a2, fun H4 O4 k4 s4 I4 => ?_⟩⟩
                have s14 := (sx.trans s3).trans s4
                have d4 : H4 D0 = some (SetO X.w D0 (fun j => decide (j ∈ nsx)) (DP.usort nsx).length) := (s3.trans s4).keep.k D0 _ hD (nDO Ix)
                cases b with
                | false =>
                  obtain ⟨rfl, rfl⟩ := a3
                  refine iteF ⟨hlt, ρ'', O4, nsx, zs', k4, s14, ?_, d4, e4, by simpa using ey, by omega⟩
                  have := I4.wiped own
                  rw [hw] at this
                  exact this
                | true =>
                  obtain ⟨r5, y5, a4, a5, rfl⟩ := a3
                  refine iteT fun _ => ⟨_, O4, ρ2, r5, ρ'', I4, a4, fun yv H5 O5 k5 s5 I5 h5 => ?_⟩
                  obtain ⟨O6, l6, I6, h6⟩ := I5.hold k5 h5
                  have hy := h6.toV a5
                  have s46 : Step O4 O6 H4 H5 := s5.trans (Step.less l6)
                  have d5 : H5 D0 = some (SetO X.w D0 (fun j => decide (j ∈ nsx)) (DP.usort nsx).length) := s46.keep.k D0 _ d4 (nDO I4)
                  have off6 := k5.off I6.mf
                  have hint : ∃ c : Int, y5 = .int c := by
                    rw [ey] at eT
                    obtain ⟨_, l2, _, h2, _⟩ := toInts_app _ _ _ eT
                    obtain ⟨l3, _, h3, _, _⟩ := toInts_app _ _ _ h2
                    cases y5 <;> simp [toInts] at h3
                    exact ⟨_, rfl⟩
                  obtain ⟨c, rfl⟩ := hint
                  have hy : Rp X.K (Or2 (fun a => F a ∨ a = D0) O6) H5 yv (.int c) := hy
                  cases hy
                  have hul : (DP.usort nsx).length ≤ nsx.length := usort_le nsx
                  have es : (fun j => decide (j ∈ nsx) || decide (j = c)) = fun j => decide (j ∈ nsx ++ [c]) := by
                    funext j
                    simp [List.mem_append]
                  have ec : (if decide (c ∈ nsx) = true then (DP.usort nsx).length else (DP.usort nsx).length + 1) = (DP.usort (nsx ++ [c])).length := by
                    rw [usort_snoc]
                    by_cases h : c ∈ nsx
                    · rw [if_pos (decide_eq_true h), if_pos h]
                    · rw [if_neg (by simp [h]), if_neg h]
                  have room : (DP.usort nsx).length + 1 < scanBound := by unfold scanBound; omega
                  refine ⟨c, _, _, rfl, d5, room, ?_⟩
                  rw [es]
                  rw [ec]
                  refine ⟨hlt, ρ'', O6, nsx ++ [c], zs', kD k5, ?_, ?_, upd_same, e4, by rw [ey]; simp, by simp; omega⟩
                  · have s16 := s14.trans s46
                    refine ⟨⟨fun a o h n => ?_⟩, s16.grow⟩
                    rw [upd_ne (ne_of_none h nD)]
                    exact s16.keep.k a o h n
                  · have := (I6.wiped own).mutF off6 (p := D0) (o := SetO X.w D0 (fun j => decide (j ∈ nsx ++ [c])) (DP.usort (nsx ++ [c])).length) (.inr rfl) trivial
                    rw [hw] at this
                    exact this
              · cases el
            · cases el
          · have hi : i = ds.length := by omega
            rw [List.drop_eq_nil_of_le (by omega)] at el
            simp only [lcL, Option.some.injEq, Prod.mk.injEq] at el
            obtain ⟨rfl, rfl⟩ := el
            rw [List.append_nil] at ey
            subst ey
            have hns : nsT = nsx := by
              have h0 : ∀ l : List Int, toInts (l.map .int) = some l := fun l => by
                induction l with
                | nil => rfl
                | cons x r ih => simp [toInts, ih]
              rw [h0] at eT
              exact (Option.some.inj eT).symm
            subst hns
            have hul : (DP.usort nsT).length ≤ nsT.length := usort_le nsT
            refine .inl ⟨w2 (by omega), D0, _, _, rfl, hD, by omega, fun kk => ?_⟩
            have eqv : ∀ a, Or2 F (fun a => Ox a ∨ a = D0) a ↔ Or2 (fun a => F a ∨ a = D0) Ox a := fun a => by
              constructor
              · rintro (z | z | z)
                · exact .inl (.inl z)
                · exact .inr z
                · exact .inl (.inr z)
              · rintro ((z | z) | z)
                · exact .inl z
                · exact .inr (.inr z)
                · exact .inr (.inl z)
            have sF : Step O1 (fun a => Ox a ∨ a = D0) H1 Hx := ⟨sx.keep, fun a z => by
              rcases z with z | z
              · exact sx.grow a z
              · exact .inr (by rw [z]; exact nD)⟩
            have mE : Muts (Or2 F fun a => Ox a ∨ a = D0) Hx := fun a z => Ix.mf a ((eqv a).mp z)
            have offE := kx.off mE
            refine q _ Hx _ kk (s1.trans sF) ⟨mE, fun a z z' => ?_, ?_, fun j d ed => ?_, fun j b ed => ?_, fun j k b c a e1 e2 h1 h2 => ?_⟩ (.int _)
            · rcases z' with z' | z'
              · exact Ix.dis a (.inl z) z'
              · exact nD1 a (.inl z) z'
            · rw [back_len]
              have := Ix.len
              rw [wipe_len, L2.wipe_length] at this
              exact this
            · by_cases hj : j ∈ own
              · have := back_in hj _ ed
                have h1 : ρ1[j]? = some (.v d) := by
                  rw [List.getD_eq_getElem?_getD] at this
                  cases hh : ρ1[j]? with
                  | none => rw [hh] at this; cases this
                  | some s => rw [hh] at this; rw [this]; rfl
                obtain ⟨v, h2, h3⟩ := I1.val j d h1
                exact ⟨v, h2, Rp.step I1 sF offE h3⟩
              · rw [back_get hj, ← wipe_get hj] at ed
                obtain ⟨v, h2, h3⟩ := Ix.val j d ed
                rw [L2.wipe_out hj] at h2
                exact ⟨v, h2, Rp.less (fun a z => (eqv a).mp z) h3 Ix.mf offx⟩
            · by_cases hj : j ∈ own
              · have := back_in hj _ ed
                have h1 : ρ1[j]? = some (.o b) := by
                  rw [List.getD_eq_getElem?_getD] at this
                  cases hh : ρ1[j]? with
                  | none => rw [hh] at this; cases this
                  | some s => rw [hh] at this; rw [this]; rfl
                have := List.all_eq_true.mp hfree j hj
                rw [h1] at this
                cases this
              · rw [back_get hj, ← wipe_get hj] at ed
                obtain ⟨a, h2, h3, u, h4, h5⟩ := Ix.own j b ed
                rw [L2.wipe_out hj] at h2
                exact ⟨a, h2, .inl h3, u, h4, ObN.less (fun a z => (eqv a).mp z) h5 Ix.mf offx⟩
            · have nin : ∀ {j : Nat} {b : OB}, (back ρ1 ρx own)[j]? = some (.o b) → j ∉ own := fun {j b} ed hj => by
                have := back_in hj _ ed
                have h1 : ρ1[j]? = some (.o b) := by
                  rw [List.getD_eq_getElem?_getD] at this
                  cases hh : ρ1[j]? with
                  | none => rw [hh] at this; cases this
                  | some s => rw [hh] at this; rw [this]; rfl
                have := List.all_eq_true.mp hfree j hj
                rw [h1] at this
                cases this
              have n1 := nin e1
              have n2 := nin e2
              rw [back_get n1, ← wipe_get n1] at e1
              rw [back_get n2, ← wipe_get n2] at e2
              rw [← L2.wipe_out n1] at h1
              rw [← L2.wipe_out n2] at h2
              exact Ix.inj j k b c a e1 e2 h1 h2
      · cases ee
    · cases ee
  · cases ee
theorem e_lsc {t : T} {it : It} {cnd : Part} {own : List Nat} {e : E} {elt iter : Expr} {ifs : List Expr} {scope : Scope} {p spos : Pos} {x : Str} (ok : XOk X N sc scs Γ G) (hx : x = "len") (hgn : gnC sc x = true) (hset : notSet iter = true)
    (hblk : blkC N sc scope (own.map fun i => (N.getD i ⟨#[]⟩, i)) = true) (hi : PI X tg iter (pI X.K (evi Γ G it))) (hown : ∀ i ∈ slotsT t, i ∈ own)
    (hg : ∀ (X' : Cx), XOk X' N (relS scope sc) scope Γ G → PG X' tg (pG X'.K t)) (ht : ∀ (X' : Cx), XOk X' N (relS scope sc) scope Γ G → PTs X' ifs (pTs X'.K (evp Γ G cnd))) (he : ∀ (X' : Cx), XOk X' N (relS scope sc) scope Γ G → PE X' elt (pE X'.K (ev Γ G e))) :
    PE X (.Call (.Name x p) [.SetComp elt [⟨tg, iter, ifs, 0⟩] scope spos] [] pos) (pE X.K (ev Γ G (.lsc t it cnd own e))) := by
  obtain ⟨g1, g2⟩ := gn_of ok hgn
  subst hx
  have m1 := ok.blt "len" (by decide +kernel)
  have hov : ((own.map fun i => (N.getD i (⟨#[]⟩ : Str), i)).map (·.2)) = own := by simp [List.map_map, Function.comp_def]
  have base := DPX.pe_si (pos := spos) (wi := pI X.K (evi Γ G it)) (g := pG X.K t) (tt := pTs X.K (evp Γ G cnd)) (te := pE X.K (ev Γ G e)) (elt := elt) (own := own.map fun i => (N.getD i ⟨#[]⟩, i)) ok.calm (by rw [ok.hN]; exact ok.nd) hi (by rw [ok.hN, ok.hsc]; exact blkOk_by hblk)
    (fun s H C cl fp => hg _ (blk_ok ok s H scope C cl fp)) (fun s H C cl fp => ht _ (blk_ok ok s H scope C cl fp)) (fun s H C cl fp => he _ (blk_ok ok s H scope C cl fp)) (fold_of hset)
  rw [hov] at base
  refine PE.of (pe_callB (id := "len") DPX.cr_lenSet g1 m1 (by decide +kernel) (pa_cons base pa_nil (star_of rfl _)) (by decide +kernel) g2 (star_of rfl _) rfl) fun σ H Q F O ρ r ρ' kf I ee q => ?_
  exact ls_red hown kf I ee q
end
end DP
/-! The pure layer, part N: every expression that the check takes. -/
namespace DP
open PySem PySem.Spec PyProof.Rows L2
section
variable {N : List Str} {Γ : Sems} {G : Str → Option D}
/-- what is shown of an expression: its value, its truth, as a part of and / or -/
structure Tri (X : Cx) (Γ : Sems) (G : Str → Option D) (py : Expr) (e : E) : Prop where
  pe : PE X py (pE X.K (ev Γ G e))
  pt : PT X py (pT X.K (ev Γ G e))
  pw : ∀ op vs p, py = .BoolOp op vs p → PW X py (pT X.K (ev Γ G e))
theorem Tri.plain {X : Cx} {py : Expr} {e : E} (h : PE X py (pE X.K (ev Γ G e))) (hb : ∀ op vs p, py ≠ .BoolOp op vs p) (hn : ∀ a p, py ≠ .UnaryOp .Not a p) (hi : ∀ a b c p, py ≠ .IfExp a b c p) (hc : ∀ a b c p, py ≠ .Compare a b c p) : Tri X Γ G py e :=
  ⟨h, PT.val h fun whole => by
    cases py with
    | BoolOp op vs p => exact (hb op vs p rfl).elim
    | IfExp a b c p => exact (hi a b c p rfl).elim
    | Compare a b c p => exact (hc a b c p rfl).elim
    | UnaryOp op a p => cases op <;> first | rfl | exact (hn a p rfl).elim
    | _ => rfl, fun op vs p e => (hb op vs p e).elim⟩
theorem stars_of : ∀ {es : Es} {sc : Scope} {pys : List Expr}, chkEs N es sc pys = true → (∀ e ∈ pys, notStar e = true) ∧ (pys = [] → es = .nil)
  | .nil, _, pys, h => by
    cases pys with
    | nil => exact ⟨(fun _ h => nomatch h), fun _ => rfl⟩
    | cons _ _ => simp [chkEs] at h
  | .cons a r, sc, pys, h => by
    cases pys with
    | nil => simp [chkEs] at h
    | cons p ps =>
      simp only [chkEs, Bool.and_eq_true] at h
      exact ⟨fun e he => (List.mem_cons.mp he).elim (fun z => by rw [z]; exact h.1.1) ((stars_of h.2).1 e), fun z => nomatch z⟩
theorem starsA_of : ∀ {es : As} {sc : Scope} {pys : List Expr}, chkAs N es sc pys = true → (∀ e ∈ pys, notStar e = true) ∧ (pys = [] → es = .nil)
  | .nil, _, pys, h => by
    cases pys with
    | nil => exact ⟨(fun _ h => nomatch h), fun _ => rfl⟩
    | cons _ _ => simp [chkAs] at h
  | .cons a r, sc, pys, h => by
    cases pys with
    | nil => simp [chkAs] at h
    | cons p ps =>
      simp only [chkAs, Bool.and_eq_true] at h
      exact ⟨fun e he => (List.mem_cons.mp he).elim (fun z => by rw [z]; exact h.1.1) ((starsA_of h.2).1 e), fun z => nomatch z⟩
  | .ref i r, sc, pys, h => by
    cases pys with
    | nil => simp [chkAs] at h
    | cons p ps =>
      cases p <;> simp only [chkAs, Bool.and_eq_true, reduceCtorEq, Bool.false_eq_true] at h
      exact ⟨fun e he => (List.mem_cons.mp he).elim (fun z => by rw [z]; rfl) ((starsA_of h.2).1 e), fun z => nomatch z⟩
  | .lend i r, sc, pys, h => by
    cases pys with
    | nil => simp [chkAs] at h
    | cons p ps =>
      cases p <;> simp only [chkAs, Bool.and_eq_true, reduceCtorEq, Bool.false_eq_true] at h
      exact ⟨fun e he => (List.mem_cons.mp he).elim (fun z => by rw [z]; rfl) ((starsA_of h.2).1 e), fun z => nomatch z⟩
mutual
theorem sE : ∀ (e : E) {X : Cx} {sc scs : Scope} (_ : XOk X N sc scs Γ G) (py : Expr), chkE N e sc py = true → Tri X Γ G py e
  | .var i, X, sc, scs, ok, py, h => by
    cases py <;> simp only [chkE, reduceCtorEq, Bool.false_eq_true] at h
    exact .plain (e_var ok h) (fun _ _ _ z => nomatch z) (fun _ _ z => nomatch z) (fun _ _ _ _ z => nomatch z) fun _ _ _ _ z => nomatch z
  | .mov i, X, sc, scs, ok, py, h => by
    cases py <;> simp only [chkE, reduceCtorEq, Bool.false_eq_true] at h
    exact .plain (e_mov ok h) (fun _ _ _ z => nomatch z) (fun _ _ z => nomatch z) (fun _ _ _ _ z => nomatch z) fun _ _ _ _ z => nomatch z
  | .pk i, X, sc, scs, ok, py, h => by
    cases py <;> simp only [chkE, reduceCtorEq, Bool.false_eq_true] at h
    exact .plain (e_pk ok h) (fun _ _ _ z => nomatch z) (fun _ _ z => nomatch z) (fun _ _ _ _ z => nomatch z) fun _ _ _ _ z => nomatch z
  | .int n, X, sc, scs, ok, py, h => by
    simp only [chkE] at h
    split at h
    · simp only [decide_eq_true_eq] at h
      subst h
      exact .plain (e_const pe_int (fun _ => rfl) fun _ _ => .int _) (fun _ _ _ z => nomatch z) (fun _ _ z => nomatch z) (fun _ _ _ _ z => nomatch z) fun _ _ _ _ z => nomatch z
    · simp only [decide_eq_true_eq] at h
      subst h
      rename_i m k p1 p2
      have : PE X (.UnaryOp .USub (.Constant (.int m) k p1) p2) (tC (.int (-m))) := ⟨fun pins s σ H Q I q => (pe_un un_neg pe_int).run pins s σ H Q I ⟨m, rfl, q⟩⟩
      exact .plain (e_const this (fun _ => rfl) fun _ _ => .int _) (fun _ _ _ z => nomatch z) (fun _ _ z => nomatch z) (fun _ _ _ _ z => nomatch z) fun _ _ _ _ z => nomatch z
    · cases h
  | .str s, X, sc, scs, ok, py, h => by
    simp only [chkE] at h
    split at h
    · simp only [decide_eq_true_eq] at h
      subst h
      exact .plain (e_const pe_str (fun _ => rfl) fun _ _ => .str _) (fun _ _ _ z => nomatch z) (fun _ _ z => nomatch z) (fun _ _ _ _ z => nomatch z) fun _ _ _ _ z => nomatch z
    · cases h
  | .bl s, X, sc, scs, ok, py, h => by
    simp only [chkE] at h
    split at h
    · simp only [decide_eq_true_eq] at h
      subst h
      exact .plain (e_const pe_bl (fun _ => rfl) fun _ _ => .bl _) (fun _ _ _ z => nomatch z) (fun _ _ z => nomatch z) (fun _ _ _ _ z => nomatch z) fun _ _ _ _ z => nomatch z
    · cases h
  | .non, X, sc, scs, ok, py, h => by
    simp only [chkE] at h
    split at h
    · exact .plain (e_const pe_non (fun _ => rfl) fun _ _ => .non) (fun _ _ _ z => nomatch z) (fun _ _ z => nomatch z) (fun _ _ _ _ z => nomatch z) fun _ _ _ _ z => nomatch z
    · cases h
  | .glob y, X, sc, scs, ok, py, h => by
    cases py <;> simp only [chkE, Bool.and_eq_true, decide_eq_true_eq, reduceCtorEq, Bool.false_eq_true] at h
    obtain ⟨rfl, h⟩ := h
    exact .plain (e_glob ok h) (fun _ _ _ z => nomatch z) (fun _ _ z => nomatch z) (fun _ _ _ _ z => nomatch z) fun _ _ _ _ z => nomatch z
  | .bin op a b, X, sc, scs, ok, py, h => by
    cases py <;> simp only [chkE, Bool.and_eq_true, decide_eq_true_eq, reduceCtorEq, Bool.false_eq_true] at h
    exact .plain (e_bin h.1.1 (sE a ok _ h.1.2).pe (sE b ok _ h.2).pe) (fun _ _ _ z => nomatch z) (fun _ _ z => nomatch z) (fun _ _ _ _ z => nomatch z) fun _ _ _ _ z => nomatch z
  | .neg a, X, sc, scs, ok, py, h => by
    simp only [chkE] at h
    split at h
    · exact .plain (e_neg (sE a ok _ h).pe) (fun _ _ _ z => nomatch z) (fun _ _ z => nomatch z) (fun _ _ _ _ z => nomatch z) fun _ _ _ _ z => nomatch z
    · cases h
  | .cmp op a b, X, sc, scs, ok, py, h => by
    simp only [chkE] at h
    split at h
    · simp only [Bool.and_eq_true, decide_eq_true_eq] at h
      exact ⟨e_cmp ok h.1.1.1 h.1.1.2 (sE a ok _ h.1.2).pe (sE b ok _ h.2).pe, t_cmp ok h.1.1.1 h.1.1.2 (sE a ok _ h.1.2).pe (sE b ok _ h.2).pe, fun _ _ _ z => nomatch z⟩
    · cases h
  | .chain o1 o2 a b c, X, sc, scs, ok, py, h => by
    simp only [chkE] at h
    split at h
    · simp only [Bool.and_eq_true, decide_eq_true_eq] at h
      obtain ⟨⟨⟨⟨⟨⟨h1, h2⟩, h3⟩, h4⟩, h5⟩, h6⟩, h7⟩ := h
      exact ⟨e_chain ok h1 h2 h3 h4 (sE a ok _ h5).pe (sE b ok _ h6).pe (sE c ok _ h7).pe, t_chain ok h1 h2 h3 h4 (sE a ok _ h5).pe (sE b ok _ h6).pe (sE c ok _ h7).pe, fun _ _ _ z => nomatch z⟩
    · cases h
  | .and2 a b, X, sc, scs, ok, py, h => by
    simp only [chkE] at h
    split at h
    · simp only [Bool.and_eq_true] at h
      have ha := sE a ok _ h.1
      have hb := sE b ok _ h.2
      rename_i pos
      have w := w_and (pos := pos) (rest := []) ha.pt (pw_and1 hb.pt)
      exact ⟨e_and ha.pe (pe_one hb.pe), PW.pt w, fun _ _ _ _ => w⟩
    · simp only [Bool.and_eq_true] at h
      have ha := sE a ok _ h.1
      have hb := sE b ok _ h.2
      have w := w_and ha.pt (hb.pw _ _ _ rfl)
      exact ⟨e_and ha.pe hb.pe, PW.pt w, fun _ _ _ _ => w⟩
    · cases h
  | .or2 a b, X, sc, scs, ok, py, h => by
    simp only [chkE] at h
    split at h
    · simp only [Bool.and_eq_true] at h
      have ha := sE a ok _ h.1
      have hb := sE b ok _ h.2
      rename_i pos
      have w := w_or (pos := pos) (rest := []) ha.pt (pw_or1 hb.pt)
      exact ⟨e_or ha.pe (pe_one hb.pe), PW.pt w, fun _ _ _ _ => w⟩
    · simp only [Bool.and_eq_true] at h
      have ha := sE a ok _ h.1
      have hb := sE b ok _ h.2
      have w := w_or ha.pt (hb.pw _ _ _ rfl)
      exact ⟨e_or ha.pe hb.pe, PW.pt w, fun _ _ _ _ => w⟩
    · cases h
  | .not a, X, sc, scs, ok, py, h => by
    simp only [chkE] at h
    split at h
    · have ha := sE a ok _ h
      exact ⟨e_not ha.pe, t_not ha.pt, fun _ _ _ z => nomatch z⟩
    · cases h
  | .ife c a b, X, sc, scs, ok, py, h => by
    simp only [chkE] at h
    split at h
    · simp only [Bool.and_eq_true] at h
      have hc := sE c ok _ h.1.1
      have ha := sE a ok _ h.1.2
      have hb := sE b ok _ h.2
      exact ⟨e_ife hc.pt ha.pe hb.pe, t_ife hc.pt ha.pt hb.pt, fun _ _ _ z => nomatch z⟩
    · cases h
  | .tup es, X, sc, scs, ok, py, h => by
    simp only [chkE] at h
    split at h
    · simp only [Bool.and_eq_true, decide_eq_true_eq] at h
      exact .plain (e_tup (sEs es ok _ h.1) (chk_len h.1) h.2) (fun _ _ _ z => nomatch z) (fun _ _ z => nomatch z) (fun _ _ _ _ z => nomatch z) fun _ _ _ _ z => nomatch z
    · cases h
  | .lst es, X, sc, scs, ok, py, h => by
    simp only [chkE] at h
    split at h
    · simp only [Bool.and_eq_true, decide_eq_true_eq] at h
      exact .plain (e_lst (sEs es ok _ h.1) (chk_len h.1) h.2) (fun _ _ _ z => nomatch z) (fun _ _ z => nomatch z) (fun _ _ _ _ z => nomatch z) fun _ _ _ _ z => nomatch z
    · cases h
  | .idx a b, X, sc, scs, ok, py, h => by
    simp only [chkE] at h
    split at h
    · simp only [Bool.and_eq_true] at h
      exact .plain (e_idx ok h.1.1 (sE a ok _ h.1.2).pe (sE b ok _ h.2).pe) (fun _ _ _ z => nomatch z) (fun _ _ z => nomatch z) (fun _ _ _ _ z => nomatch z) fun _ _ _ _ z => nomatch z
    · cases h
  | .slc a lo hi, X, sc, scs, ok, py, h => by
    simp only [chkE] at h
    split at h
    · simp only [Bool.and_eq_true] at h
      exact .plain (e_slc (sE a ok _ h.1.1).pe (sP lo ok _ h.1.2) (sP hi ok _ h.2)) (fun _ _ _ z => nomatch z) (fun _ _ z => nomatch z) (fun _ _ _ _ z => nomatch z) fun _ _ _ _ z => nomatch z
    · cases h
  | .call f as, X, sc, scs, ok, py, h => by
    simp only [chkE] at h
    split at h
    · simp only [Bool.and_eq_true, decide_eq_true_eq] at h
      obtain ⟨h1, h2⟩ := starsA_of h.2
      exact .plain (e_call ok h.1.1 h.1.2 h1 (sA as ok _ h.2) h2) (fun _ _ _ z => nomatch z) (fun _ _ z => nomatch z) (fun _ _ _ _ z => nomatch z) fun _ _ _ _ z => nomatch z
    · cases h
  | .calll f as, X, sc, scs, ok, py, h => by
    simp only [chkE] at h
    split at h
    · simp only [Bool.and_eq_true, decide_eq_true_eq] at h
      obtain ⟨h1, h2⟩ := starsA_of h.2
      exact .plain (e_calll ok h.1.1 h.1.2 h1 (sA as ok _ h.2) h2) (fun _ _ _ z => nomatch z) (fun _ _ z => nomatch z) (fun _ _ _ _ z => nomatch z) fun _ _ _ _ z => nomatch z
    · cases h
  | .bi b as, X, sc, scs, ok, py, h => by
    have gen : ∀ {b : BI} {x : Str} {p : Pos} {as' : List Expr} {pos : Pos}, (biPlain b && decide (x = biName b) && gnC sc x && chkEs N as sc as') = true → Tri X Γ G (.Call (.Name x p) as' [] pos) (.bi b as) := fun {b x p as' pos} h => by
      simp only [Bool.and_eq_true, decide_eq_true_eq] at h
      obtain ⟨⟨⟨h1, h2⟩, h3⟩, h4⟩ := h
      obtain ⟨h5, h6⟩ := stars_of h4
      cases as' with
      | nil =>
        have := h6 rfl
        subst this
        refine .plain (PE.of (t := fun _ _ _ => False) ⟨fun _ _ _ _ _ _ h => h.elim⟩ fun σ H Q F O ρ r ρ' kf I e q => ?_) (fun _ _ _ z => nomatch z) (fun _ _ z => nomatch z) (fun _ _ _ _ z => nomatch z) fun _ _ _ _ z => nomatch z
        simp only [ev, evc, List.mapM_nil] at e
        cases b <;> simp [bi, pure] at e
      | cons pa pr => exact .plain (e_bi ok h1 h2 h3 (h5 pa List.mem_cons_self) (sEc as ok _ h4) fun e he => h5 e (List.mem_cons_of_mem _ he)) (fun _ _ _ z => nomatch z) (fun _ _ z => nomatch z) (fun _ _ _ _ z => nomatch z) fun _ _ _ _ z => nomatch z
    cases b with
    | isI t =>
      unfold chkE at h
      split at h
      · simp only [Bool.and_eq_true, decide_eq_true_eq] at h
        obtain ⟨⟨⟨⟨⟨h1, h2⟩, h3⟩, h4⟩, h5⟩, h6⟩ := h
        rename_i a _ _ _ _ _ _
        exact .plain (e_isI ok h1 h2 h3 h4 h5 (sE _ ok _ h6).pe) (fun _ _ _ z => nomatch z) (fun _ _ z => nomatch z) (fun _ _ _ _ z => nomatch z) fun _ _ _ _ z => nomatch z
      · cases h
    | _ =>
      simp only [chkE] at h
      split at h
      · split at h
        · exact gen h
        · cases h
      · rename_i z hz
        split at h
        · rename_i g hg
          obtain ⟨x, y, as'⟩ := g
          obtain ⟨p, p2, q2, q, rfl⟩ := asBi2_inv hg
          simp only [Bool.and_eq_true, decide_eq_true_eq] at h
          obtain ⟨⟨⟨⟨h1, h2⟩, h3⟩, h4⟩, h5⟩ := h
          subst h3
          refine .plain ?_ (fun _ _ _ z => nomatch z) (fun _ _ z => nomatch z) (fun _ _ _ _ z => nomatch z) fun _ _ _ _ z => nomatch z
          cases as with
          | nil => exact e_bi0s hz
          | cons a r =>
            cases as' with
            | nil => simp [chkEs] at h5
            | cons pa pr =>
              simp only [chkEs, Bool.and_eq_true] at h5
              cases r with
              | nil =>
                cases pr with
                | cons _ _ => simp [chkEs] at h5
                | nil => exact e_bi1s ok hz h1 h2 h4 h5.1.1 (sE a ok _ h5.1.2).pe
              | cons a2 r2 =>
                cases pr with
                | nil => simp [chkEs] at h5
                | cons pa2 pr2 =>
                  simp only [chkEs, Bool.and_eq_true] at h5
                  cases r2 with
                  | nil =>
                    cases pr2 with
                    | cons _ _ => simp [chkEs] at h5
                    | nil => exact e_bi2s ok hz h1 h2 h4 h5.1.1 h5.2.1.1 (sE a ok _ h5.1.2).pe (sE a2 ok _ h5.2.1.2).pe
                  | cons _ _ => exact e_bi3s hz
        · cases h
  | .callv i as, X, sc, scs, ok, py, h => by
    simp only [chkE] at h
    split at h
    · simp only [Bool.and_eq_true] at h
      exact .plain (e_callv ok h.1 (starsA_of h.2).1 (sA as ok _ h.2)) (fun _ _ _ z => nomatch z) (fun _ _ z => nomatch z) (fun _ _ _ _ z => nomatch z) fun _ _ _ _ z => nomatch z
    · cases h
  | .meth m i as, X, sc, scs, ok, py, h => by
    simp only [chkE] at h
    split at h
    · simp only [Bool.and_eq_true, decide_eq_true_eq] at h
      obtain ⟨⟨⟨⟨h1, h2⟩, h3⟩, h4⟩, h5⟩ := h
      obtain ⟨h6, h7⟩ := stars_of h3
      exact .plain (e_meth ok h2 h1 h4 h5 h7 h6 (sEs as ok _ h3)) (fun _ _ _ z => nomatch z) (fun _ _ z => nomatch z) (fun _ _ _ _ z => nomatch z) fun _ _ _ _ z => nomatch z
    · cases h
  | .lc t it c own e, X, sc, scs, ok, py, h => by
    simp only [chkE] at h
    split at h
    · simp only [Bool.and_eq_true, decide_eq_true_eq] at h
      obtain ⟨⟨⟨⟨⟨⟨⟨h1, h2⟩, h3⟩, h4⟩, h5⟩, h6⟩, h7⟩, h8⟩ := h
      subst h1
      refine .plain (e_lc ok h2 h3 (sI it ok _ _ h4) (fun i hi => by have := List.all_eq_true.mp h6 i hi; simpa using this) (fun X' ok' => sT ok' t _ h5) (fun X' ok' => ?_) fun X' ok' => (sE e ok' _ h8).pe) (fun _ _ _ z => nomatch z) (fun _ _ z => nomatch z) (fun _ _ _ _ z => nomatch z) fun _ _ _ _ z => nomatch z
      split at h7
      · exact sTest c ok' _ h7
      · exact sTest c ok' _ h7
      · cases h7
    · cases h
  | .lc2 t it c t1 it1 c1 own own1 e, X, sc, scs, ok, py, h => by
    simp only [chkE] at h
    split at h
    · rename_i g hg
      obtain ⟨elt, scope, tg, iter, i, tg1, iter1, i1⟩ := g
      obtain ⟨q, rfl⟩ := asLc2_inv hg
      simp only [Bool.and_eq_true, decide_eq_true_eq] at h
      obtain ⟨⟨⟨⟨⟨⟨⟨⟨⟨⟨⟨⟨h3, h4⟩, h5⟩, h6⟩, h7⟩, h8⟩, h9⟩, ha⟩, hb⟩, hc⟩, hd⟩, he⟩, hf⟩ := h
      exact .plain (e_lc2 ok h3 h4 h5 (sI it ok _ _ h6) (fun i hi => by have := List.all_eq_true.mp h8 i hi; simpa using this) (fun i hi => by have := List.all_eq_true.mp hc i hi; simpa using this) (fun i hi => by have := List.all_eq_true.mp hd i hi; simpa using this) (fun X' ok' => sT ok' t _ h7) (fun X' ok' => sTest c ok' _ h9) (fun X' ok' => sI it1 ok' _ _ ha) (fun X' ok' => sT ok' t1 _ hb) (fun X' ok' => sTest c1 ok' _ he) fun X' ok' => (sE e ok' _ hf).pe) (fun _ _ _ z => nomatch z) (fun _ _ z => nomatch z) (fun _ _ _ _ z => nomatch z) fun _ _ _ _ z => nomatch z
    · cases h
  | .mx m a b, X, sc, scs, ok, py, h => by
    simp only [chkE] at h
    split at h
    · rename_i g hg
      obtain ⟨a', y, b', k⟩ := g
      obtain ⟨ap, cp, rfl, rfl⟩ := asMx_inv hg
      simp only [Bool.and_eq_true, decide_eq_true_eq] at h
      obtain ⟨⟨⟨⟨⟨h1, h2⟩, h3⟩, h4⟩, h5⟩, h6⟩ := h
      cases a' <;> simp only [isName, Bool.false_eq_true] at h6
      exact .plain (e_mx ok h1 (sE a ok _ h2).pe (sE b ok _ h3).pe h4 h5) (fun _ _ _ z => nomatch z) (fun _ _ z => nomatch z) (fun _ _ _ _ z => nomatch z) fun _ _ _ _ z => nomatch z
    · cases h
  | .rev a, X, sc, scs, ok, py, h => by
    simp only [chkE] at h
    split at h
    · rename_i g hg
      obtain ⟨k, p1, p2, p3, q, rfl⟩ := asRev_inv hg
      exact .plain (e_rev (sE a ok _ h).pe) (fun _ _ _ z => nomatch z) (fun _ _ z => nomatch z) (fun _ _ _ _ z => nomatch z) fun _ _ _ _ z => nomatch z
    · cases h
  | .lsc t it c own e, X, sc, scs, ok, py, h => by
    simp only [chkE] at h
    split at h
    · rename_i g hg
      obtain ⟨x, elt, scope, tg, iter, i⟩ := g
      obtain ⟨p, q, r, rfl⟩ := asLsc_inv hg
      simp only [Bool.and_eq_true, decide_eq_true_eq] at h
      obtain ⟨⟨⟨⟨⟨⟨⟨⟨h1, h2⟩, h3⟩, h4⟩, h5⟩, h6⟩, h7⟩, h8⟩, h9⟩ := h
      exact .plain (e_lsc ok h1 h2 h3 h4 (sI it ok _ _ h5) (fun i hi => by have := List.all_eq_true.mp h7 i hi; simpa using this) (fun X' ok' => sT ok' t _ h6) (fun X' ok' => sTest c ok' _ h8) fun X' ok' => (sE e ok' _ h9).pe) (fun _ _ _ z => nomatch z) (fun _ _ z => nomatch z) (fun _ _ _ _ z => nomatch z) fun _ _ _ _ z => nomatch z
    · cases h
  | .dnew, X, sc, scs, ok, py, h => by
    simp only [chkE] at h
    split at h
    · exact .plain e_dnew (fun _ _ _ z => nomatch z) (fun _ _ z => nomatch z) (fun _ _ _ _ z => nomatch z) fun _ _ _ _ z => nomatch z
    · cases h
  | .dsp es, X, sc, scs, ok, py, h => by
    simp only [chkE] at h
    split at h
    · rename_i l hl
      obtain ⟨ks, vs, p, rfl, hd⟩ := asDisp_inv hl
      simp only [Bool.and_eq_true, decide_eq_true_eq] at h
      obtain ⟨h1, h2⟩ := sPp es ok ks vs l p hd h.1.1
      exact .plain (e_dsp ok hd h.1.2 h.2 h2 (chk_len h.1.1).symm h1) (fun _ _ _ z => nomatch z) (fun _ _ z => nomatch z) (fun _ _ _ _ z => nomatch z) fun _ _ _ _ z => nomatch z
    · cases h
  | .dget a b c, X, sc, scs, ok, py, h => by
    simp only [chkE] at h
    split at h
    · rename_i g hg
      obtain ⟨a', b', z, k⟩ := g
      obtain ⟨ap, cp, rfl, rfl⟩ := asGet_inv hg
      simp only [Bool.and_eq_true, decide_eq_true_eq] at h
      obtain ⟨⟨⟨⟨⟨⟨h1, h2⟩, h3⟩, h4⟩, h5⟩, h6⟩, h7⟩ := h
      cases a' <;> simp only [isName, Bool.false_eq_true] at h1
      exact .plain (e_dget ok h3 h7 (sE a ok _ h2).pe (sE b ok _ h4).pe (sPd c ok z h6 h5)) (fun _ _ _ z => nomatch z) (fun _ _ z => nomatch z) (fun _ _ _ _ z => nomatch z) fun _ _ _ _ z => nomatch z
    · cases h
theorem sPp : ∀ (es : Es) {X : Cx} {sc scs : Scope} (_ : XOk X N sc scs Γ G) (ks : List (Option Expr)) (vs l : List Expr) (pos : Pos), dispL ks vs = some l → chkEs N es sc l = true → PPs X pos ks vs (trsOf X.K Γ G es) ∧ evenEs es = true
  | .nil, X, sc, scs, ok, ks, vs, l, pos, hd, h => by
    cases l with
    | cons _ _ => simp [chkEs] at h
    | nil =>
      have := (dispL_len hd).2.2
      have hk : ks = [] := List.eq_nil_of_length_eq_zero (by have h0 : (0 : Nat) = 2 * ks.length := this; omega)
      subst hk
      cases vs with
      | nil => exact ⟨pps_nil, rfl⟩
      | cons _ _ => simp [dispL] at hd
  | .cons a .nil, X, sc, scs, ok, ks, vs, l, pos, hd, h => by
    have := (dispL_len hd).2.2
    have := chk_len h
    simp only [lenEs] at this
    omega
  | .cons a (.cons b r), X, sc, scs, ok, ks, vs, l, pos, hd, h => by
    cases ks with
    | nil => cases vs with
      | nil => simp [dispL] at hd; subst hd; simp [chkEs] at h
      | cons _ _ => simp [dispL] at hd
    | cons k ks => cases vs with
      | nil => cases k <;> simp [dispL] at hd
      | cons v vs => cases k with
        | none => simp [dispL] at hd
        | some k =>
          simp only [dispL, Option.map_eq_some_iff] at hd
          obtain ⟨l', hd, rfl⟩ := hd
          simp only [chkEs, Bool.and_eq_true] at h
          obtain ⟨h1, h2⟩ := sPp r ok ks vs l' pos hd h.2.2
          exact ⟨pps_cons (sE a ok _ h.1.2).pe (sE b ok _ h.2.1.2).pe h1, h2⟩
theorem sPd : ∀ (p : Part) {X : Cx} {sc scs : Scope} (_ : XOk X N sc scs Γ G) (z : Option Expr), chkP N p sc z = true → (match z with | none => true | some z => notStar z) = true →
    match p, z with | .none, none => True | .some e, some pz => notStar pz = true ∧ PE X pz (pE X.K (ev Γ G e)) | _, _ => False
  | .none, X, sc, scs, ok, z, h, hs => by
    cases z with
    | none => trivial
    | some _ => simp [chkP] at h
  | .some e, X, sc, scs, ok, z, h, hs => by
    cases z with
    | none => simp [chkP] at h
    | some p =>
      simp only [chkP] at h
      exact ⟨hs, (sE e ok _ h).pe⟩
theorem sEs : ∀ (es : Es) {X : Cx} {sc scs : Scope} (_ : XOk X N sc scs Γ G) (pys : List Expr), chkEs N es sc pys = true → PA X pys (pAs X.K (evs Γ G es))
  | .nil, X, sc, scs, ok, pys, h => by
    cases pys with
    | nil => exact as_nil
    | cons _ _ => simp [chkEs] at h
  | .cons a r, X, sc, scs, ok, pys, h => by
    cases pys with
    | nil => simp [chkEs] at h
    | cons p ps =>
      simp only [chkEs, Bool.and_eq_true] at h
      exact as_cons h.1.1 (sE a ok _ h.1.2).pe (sEs r ok _ h.2)
theorem sEc : ∀ (es : Es) {X : Cx} {sc scs : Scope} (_ : XOk X N sc scs Γ G) (pys : List Expr), chkEs N es sc pys = true → PA X pys (pAc X.K (evc Γ G es))
  | .nil, X, sc, scs, ok, pys, h => by
    cases pys with
    | nil => exact ac_nil
    | cons _ _ => simp [chkEs] at h
  | .cons a r, X, sc, scs, ok, pys, h => by
    cases pys with
    | nil => simp [chkEs] at h
    | cons p ps =>
      simp only [chkEs, Bool.and_eq_true] at h
      exact ac_cons h.1.1 (sE a ok _ h.1.2).pe (sEc r ok _ h.2)
theorem sA : ∀ (es : As) {X : Cx} {sc scs : Scope} (_ : XOk X N sc scs Γ G) (pys : List Expr), chkAs N es sc pys = true → PA X pys (pAa X.K (eva Γ G es))
  | .nil, X, sc, scs, ok, pys, h => by
    cases pys with
    | nil => exact aa_nil
    | cons _ _ => simp [chkAs] at h
  | .cons a r, X, sc, scs, ok, pys, h => by
    cases pys with
    | nil => simp [chkAs] at h
    | cons p ps =>
      simp only [chkAs, Bool.and_eq_true] at h
      exact aa_cons h.1.1 (sE a ok _ h.1.2).pe (sA r ok _ h.2)
  | .ref i r, X, sc, scs, ok, pys, h => by
    cases pys with
    | nil => simp [chkAs] at h
    | cons p ps =>
      cases p <;> simp only [chkAs, Bool.and_eq_true, reduceCtorEq, Bool.false_eq_true] at h
      exact aa_ref ok h.1 (sA r ok _ h.2)
  | .lend i r, X, sc, scs, ok, pys, h => by
    cases pys with
    | nil => simp [chkAs] at h
    | cons p ps =>
      cases p <;> simp only [chkAs, Bool.and_eq_true, reduceCtorEq, Bool.false_eq_true] at h
      exact aa_lend ok h.1 (sA r ok _ h.2)
theorem sP : ∀ (p : Part) {X : Cx} {sc scs : Scope} (_ : XOk X N sc scs Γ G) (py : Option Expr), chkP N p sc py = true → PO X py (pP X.K (evp Γ G p))
  | .none, X, sc, scs, ok, py, h => by
    cases py with
    | none => exact p_none
    | some _ => simp [chkP] at h
  | .some e, X, sc, scs, ok, py, h => by
    cases py with
    | none => simp [chkP] at h
    | some p =>
      simp only [chkP] at h
      exact p_some (sE e ok _ h).pe
theorem sTest : ∀ (p : Part) {X : Cx} {sc scs : Scope} (_ : XOk X N sc scs Γ G) (py : Option Expr), chkP N p sc py = true → PTs X py.toList (pTs X.K (evp Γ G p))
  | .none, X, sc, scs, ok, py, h => by
    cases py with
    | none => exact ts_none
    | some _ => simp [chkP] at h
  | .some e, X, sc, scs, ok, py, h => by
    cases py with
    | none => simp [chkP] at h
    | some p =>
      simp only [chkP] at h
      exact ts_some (sE e ok _ h).pt
theorem sI : ∀ (it : It) {X : Cx} {sc scs : Scope} (_ : XOk X N sc scs Γ G) (tg py : Expr), chkI N it sc tg py = true → PI X tg py (pI X.K (evi Γ G it))
  | .tup a, X, sc, scs, ok, tg, py, h => by
    simp only [chkI] at h
    exact i_tup (sE a ok _ h).pe
  | .seq a, X, sc, scs, ok, tg, py, h => by
    simp only [chkI] at h
    exact i_seq (sE a ok _ h).pe
  | .lst a, X, sc, scs, ok, tg, py, h => by
    simp only [chkI] at h
    exact i_lst (sE a ok _ h).pe
  | .r1 a, X, sc, scs, ok, tg, py, h => by
    simp only [chkI] at h
    split at h
    · simp only [Bool.and_eq_true, decide_eq_true_eq] at h
      exact i_r1 ok h.1.1.1 h.1.1.2 h.1.2 (sE a ok _ h.2).pe
    · cases h
  | .r2 a b, X, sc, scs, ok, tg, py, h => by
    simp only [chkI] at h
    split at h
    · simp only [Bool.and_eq_true, decide_eq_true_eq] at h
      obtain ⟨⟨⟨⟨⟨h1, h2⟩, h3⟩, h4⟩, h5⟩, h6⟩ := h
      exact i_r2 ok h1 h2 h3 h4 (sE a ok _ h5).pe (sE b ok _ h6).pe
    · cases h
  | .rd a b c, X, sc, scs, ok, tg, py, h => by
    simp only [chkI] at h
    split at h
    · simp only [Bool.and_eq_true, decide_eq_true_eq] at h
      obtain ⟨⟨⟨⟨⟨⟨⟨h1, h2⟩, h3⟩, h4⟩, h5⟩, h6⟩, h7⟩, h8⟩ := h
      exact i_rd ok h1 h2 h3 h4 h5 (sE a ok _ h6).pe (sE b ok _ h7).pe (sE c ok _ h8).pe
    · cases h
  | .enum a, X, sc, scs, ok, tg, py, h => by
    simp only [chkI] at h
    split at h
    · simp only [Bool.and_eq_true, decide_eq_true_eq] at h
      exact i_enum ok h.1.1.1 h.1.1.2 h.1.2 (sE a ok _ h.2).pe
    · cases h
  | .zip a b, X, sc, scs, ok, tg, py, h => by
    simp only [chkI] at h
    split at h
    · simp only [Bool.and_eq_true, decide_eq_true_eq] at h
      obtain ⟨⟨⟨⟨⟨h1, h2⟩, h3⟩, h4⟩, h5⟩, h6⟩ := h
      exact i_zip ok h1 h2 h3 h4 (sE a ok _ h5).pe (sE b ok _ h6).pe
    · cases h
end
end
end DP
/-! The pure layer, part O: statements. -/
namespace DP
open PySem PySem.Spec PyProof.Rows L2
/-- what is wanted behind a statement -/
def Wn (K : PySem.W.Frag) (F O : Addr → Prop) (σ : Sg) (H : Hp) (D : Ends) : Out → Prop
  | .nx ρ => EI K F O σ H ρ → D.nx σ H
  | .bk ρ => EI K F O σ H ρ → D.bk σ H
  | .ct ρ => EI K F O σ H ρ → D.ct σ H
  | .rt r ρ => EI K F O σ H ρ → ∀ v, RR K F O σ H ρ v r → D.rt v H
def pS (K : PySem.W.Frag) (pin : Option Nat) (ex : PEnv → Option Out) : TS := fun D σ H => KOff K H → ∃ F O ρ o, EI K F O σ H ρ ∧ ex ρ = some o ∧
  ∀ σ' H' O', KOff K H' → Step O O' H H' → (∀ i, pin = some i → σ'[i]? = σ[i]?) → Wn K F O' σ' H' D o
def kk (K : PySem.W.Frag) (D : Ends) : Ends := ⟨fun σ H => KOff K H → D.nx σ H, fun v H => KOff K H → D.rt v H, fun σ H => KOff K H → D.bk σ H, fun σ H => KOff K H → D.ct σ H⟩
section
variable {X : Cx} {N : List Str} {sc scs : Scope} {Γ : Sems} {G : Str → Option D} {pin : Option Nat}
theorem PS.imp {py : Stmt} {t t' : TS} (h : PS X py t) (i : ∀ D σ H, t' D σ H → KOff X.K H → t (kk X.K D) σ H) : PS X py t' := ⟨fun pins s σ H D I q =>
  thn (h.run pins s σ H _ I (i _ _ _ q (koff_of I))) fun f s' h => by
    cases f with
    | next => obtain ⟨σ', H', I', q⟩ := h; exact ⟨σ', H', I', q (koff_of I')⟩
    | brk => obtain ⟨σ', H', I', q⟩ := h; exact ⟨σ', H', I', q (koff_of I')⟩
    | cont => obtain ⟨σ', H', I', q⟩ := h; exact ⟨σ', H', I', q (koff_of I')⟩
    | ret u => obtain ⟨v, σ', H', I', r, q⟩ := h; exact ⟨v, σ', H', I', r, q (koff_of I')⟩⟩
theorem PSs.imp {py : List Stmt} {t t' : TS} (h : PSs X py t) (i : ∀ D σ H, t' D σ H → KOff X.K H → t (kk X.K D) σ H) : PSs X py t' := ⟨fun pins s σ H D I q =>
  thn (h.run pins s σ H _ I (i _ _ _ q (koff_of I))) fun f s' h => by
    cases f with
    | next => obtain ⟨σ', H', I', q⟩ := h; exact ⟨σ', H', I', q (koff_of I')⟩
    | brk => obtain ⟨σ', H', I', q⟩ := h; exact ⟨σ', H', I', q (koff_of I')⟩
    | cont => obtain ⟨σ', H', I', q⟩ := h; exact ⟨σ', H', I', q (koff_of I')⟩
    | ret u => obtain ⟨v, σ', H', I', r, q⟩ := h; exact ⟨v, σ', H', I', r, q (koff_of I')⟩⟩
theorem sw_false {v : Expr} {t : Option Expr} {l : Nat} {env : Env} (h : notComp v = true) : swapsWith v t l env = pure false := by
  cases v <;> first | rfl | (simp [notComp] at h)
theorem comp_of {e : E} {v : Expr} (h : chkE N e sc v = true) (hn : ∀ t it c own e', e ≠ .lc t it c own e') (hn2 : ∀ t it c t1 it1 c1 own own1 e', e ≠ .lc2 t it c t1 it1 c1 own own1 e') : notComp v = true := by
  cases v with
  | ListComp elt gens scope pos => cases e <;> first | (exact (hn _ _ _ _ _ rfl).elim) | (exact (hn2 _ _ _ _ _ _ _ _ _ rfl).elim) | (simp [chkE, asMx, asRev, asDisp, asGet, asLsc] at h; done) | (rename_i b as; cases b <;> simp [chkE, biSub, asBi2] at h <;> (cases as <;> simp [chkE] at h))
  | SetComp elt gens scope pos => cases e <;> first | (simp [chkE, asMx, asRev, asLc2, asDisp, asGet, asLsc] at h; done) | (rename_i b as; cases b <;> simp [chkE, biSub, asBi2] at h <;> (cases as <;> simp [chkE] at h))
  | DictComp k v gens scope pos => cases e <;> first | (simp [chkE, asMx, asRev, asLc2, asDisp, asGet, asLsc] at h; done) | (rename_i b as; cases b <;> simp [chkE, biSub, asBi2] at h <;> (cases as <;> simp [chkE] at h))
  | _ => rfl
theorem sw_comp {elt : Expr} {gs : List Comprehension} {scope : Scope} {pos py : Pos} {y : Str} {l : Nat} {env : Env} : swapsWith (.ListComp elt gs scope pos) (some (.Name y py)) l env =
    pure (env.blockKind == .function && env.kindOf y == some .local && py.line == pos.line && !(scope.names.any fun (n, k) => n == y && (k == .local || k == .cell))) := rfl
/-- a value given to a name -/
theorem st_name {i : Nat} {x : Str} {e : E} {v : Expr} {p pos : Pos} (ok : XOk X N sc scs Γ G) (hkind : X.env.scope.kind = .function) (hi : N[i]? = some x) (hst : storC scs x = true) (h : chkE N e sc v = true) :
    ∃ t : TE, PS X (.Assign [.Name x p] v pos) (tAsg t (gName i)) ∧ ∀ (σ : Sg) (H : Hp) (Q : VK) F O ρ r ρ', KOff X.K H → EI X.K F O σ H ρ → ev Γ G e ρ = some (r, ρ') →
      (∀ v H' O', KOff X.K H' → Step O O' H H' → EI X.K F O' σ H' ρ' → RR X.K F O' σ H' ρ' v r → Q v H') → t σ H fun v H' => KOff X.K H' → Q v H' := by
  obtain ⟨h3, h4⟩ := ok.stor x hst
  have nd : X.N.Nodup := by rw [ok.hN]; exact ok.nd
  have hiX : X.N[i]? = some x := by rw [ok.hN]; exact hi
  have plain : ∀ hs : swapsWith v (some (.Name x p)) pos.line X.env = pure false, ∃ t : TE, PS X (.Assign [.Name x p] v pos) (tAsg t (gName i)) ∧ ∀ (σ : Sg) (H : Hp) (Q : VK) F O ρ r ρ', KOff X.K H → EI X.K F O σ H ρ → ev Γ G e ρ = some (r, ρ') →
      (∀ v H' O', KOff X.K H' → Step O O' H H' → EI X.K F O' σ H' ρ' → RR X.K F O' σ H' ρ' v r → Q v H') → t σ H fun v H' => KOff X.K H' → Q v H' := fun hs =>
    ⟨pE X.K (ev Γ G e), ps_set nd hiX h3 (sE e ok _ h).pe hs h4, fun σ H Q F O ρ r ρ' kf I ee q _ => ⟨F, O, ρ, r, ρ', I, ee, fun v H' O' k s I' hr _ => q v H' O' k s I' hr⟩⟩
  by_cases hn : notComp v = true
  · exact plain (sw_false hn)
  · cases e with
    | lc t it c own e =>
      simp only [chkE] at h
      split at h
      · rename_i elt tg iter ifs asy scope p0
        rw [sw_comp] at plain
        cases hb : (X.env.blockKind == .function && X.env.kindOf x == some .local && p.line == p0.line && !(scope.names.any fun (n, k) => n == x && (k == .local || k == .cell))) with
        | false => rw [hb] at plain; exact plain rfl
        | true =>
          simp only [Bool.and_eq_true, decide_eq_true_eq] at h
          obtain ⟨⟨⟨⟨⟨⟨⟨h1, h2⟩, h3'⟩, h4'⟩, h5⟩, h6⟩, h7⟩, h8⟩ := h
          subst h1
          have hloc : X.env.scope.names.lookup x = some .local := by
            simp only [Bool.and_eq_true] at hb
            exact of_decide_eq_true (by have := hb.1.1.2; simpa [Env.kindOf] using this)
          have hov : ((own.map fun i => (N.getD i (⟨#[]⟩ : Str), i)).map (·.2)) = own := by simp [List.map_map, Function.comp_def]
          have hown : ∀ i ∈ slotsT t, i ∈ own := fun i hi => by have := List.all_eq_true.mp h6 i hi; simpa using this
          have hts : ∀ X', XOk X' N (relS scope sc) scope Γ G → PTs X' ifs (pTs X'.K (evp Γ G c)) := fun X' ok' => by
            split at h7
            · exact sTest c ok' _ h7
            · exact sTest c ok' _ h7
            · cases h7
          have base := ps_setLc (py := p) (spos := pos) (pos := p0) (wi := pI X.K (evi Γ G it)) (g := pG X.K t) (tt := pTs X.K (evp Γ G c)) (te := pE X.K (ev Γ G e)) (elt := elt) (own := own.map fun i => (N.getD i ⟨#[]⟩, i)) ok.calm nd hiX hloc
            (by rw [sw_comp, hb]) (sI it ok _ _ h4') (by rw [ok.hN, ok.hsc]; exact blkOk_by h3')
            (fun s H C cl fp => sT (blk_ok ok s H scope C cl fp) t _ h5) (fun s H C cl fp => hts _ (blk_ok ok s H scope C cl fp)) (fun s H C cl fp => (sE e (blk_ok ok s H scope C cl fp) _ h8).pe) (fold_of h2)
          rw [hov] at base
          exact ⟨_, base, fun σ H Q F O ρ r ρ' kf I ee q => lc_red hown kf I ee q⟩
      · cases h
    | lc2 t it c t1 it1 c1 own own1 e =>
      simp only [chkE] at h
      split at h
      · rename_i g hg
        obtain ⟨elt, scope, tg, iter, i, tg1, iter1, i1⟩ := g
        obtain ⟨p0, rfl⟩ := asLc2_inv hg
        rw [sw_comp] at plain
        cases hb : (X.env.blockKind == .function && X.env.kindOf x == some .local && p.line == p0.line && !(scope.names.any fun (n, k) => n == x && (k == .local || k == .cell))) with
        | false => rw [hb] at plain; exact plain rfl
        | true =>
          simp only [Bool.and_eq_true, decide_eq_true_eq] at h
          obtain ⟨⟨⟨⟨⟨⟨⟨⟨⟨⟨⟨⟨h3', h4'⟩, h5⟩, h6⟩, h7⟩, h8⟩, h9⟩, ha⟩, hbb⟩, hc⟩, hd⟩, he⟩, hf⟩ := h
          have hloc : X.env.scope.names.lookup x = some .local := by
            simp only [Bool.and_eq_true] at hb
            exact of_decide_eq_true (by have := hb.1.1.2; simpa [Env.kindOf] using this)
          have hov : ((own.map fun i => (N.getD i (⟨#[]⟩ : Str), i)).map (·.2)) = own := by simp [List.map_map, Function.comp_def]
          have hown : ∀ i ∈ slotsT t, i ∈ own := fun i hi => by have := List.all_eq_true.mp h8 i hi; simpa using this
          have hown1 : ∀ i ∈ slotsT t1, i ∈ own1 := fun i hi => by have := List.all_eq_true.mp hc i hi; simpa using this
          have hsub : ∀ i ∈ own1, i ∈ own := fun i hi => by have := List.all_eq_true.mp hd i hi; simpa using this
          have base := ps_setLc2 (py := p) (spos := pos) (pos := p0) (wi := pI X.K (evi Γ G it)) (g := pG X.K t) (tt := pTs X.K (evp Γ G c)) (wi1 := pI X.K (evi Γ G it1)) (g1 := pG X.K t1) (tt1 := pTs X.K (evp Γ G c1)) (te := pE X.K (ev Γ G e)) (elt := elt) (own := own.map fun i => (N.getD i ⟨#[]⟩, i)) (vs1 := own1) ok.calm nd hiX hloc
            (by rw [sw_comp, hb]) (sI it ok _ _ h6) (by rw [ok.hN, ok.hsc]; exact blkOk_by h5) (by rw [hov]; exact hsub)
            (fun s H C cl fp => sT (blk_ok ok s H scope C cl fp) t _ h7) (fun s H C cl fp => sTest c (blk_ok ok s H scope C cl fp) _ h9) (fun s H C cl fp => sI it1 (blk_ok ok s H scope C cl fp) _ _ ha) (fun s H C cl fp => sT (blk_ok ok s H scope C cl fp) t1 _ hbb) (fun s H C cl fp => sTest c1 (blk_ok ok s H scope C cl fp) _ he) (fun s H C cl fp => (sE e (blk_ok ok s H scope C cl fp) _ hf).pe) (fold_of h3') (fun _ => fold_of h4')
          rw [hov] at base
          exact ⟨_, base, fun σ H Q F O ρ r ρ' kf I ee q => lc2_red hown hown1 hsub kf I ee q⟩
      · cases h
    | _ => exact (hn (comp_of h (fun _ _ _ _ _ z => nomatch z) fun _ _ _ _ _ _ _ _ _ z => nomatch z)).elim
theorem pin_set {σ : Sg} {i : Nat} {v : V} (h : offP pin [i] = true) : ∀ j, pin = some j → (σ.set i (some v))[j]? = σ[j]? := fun j hj => by
  subst hj
  simp [offP] at h
  exact List.getElem?_set_ne fun e => h e.symm
theorem s_asgN {i : Nat} {x : Str} {e : E} {v : Expr} {p pos : Pos} (ok : XOk X N sc scs Γ G) (hkind : X.env.scope.kind = .function) (hi : N[i]? = some x) (hst : storC scs x = true) (h : chkE N e sc v = true) (hp : offP pin [i] = true) :
    PS X (.Assign [.Name x p] v pos) (pS X.K pin (ex Γ G (.asg (.nm i) e))) := by
  obtain ⟨t, h1, h2⟩ := st_name (p := p) (pos := pos) ok hkind hi hst h
  refine PS.imp h1 fun D σ H q kf => ?_
  obtain ⟨F, O, ρ, o, I, eo, q⟩ := q kf
  simp only [ex] at eo
  split at eo
  · rename_i r ρ1 e1
    split at eo
    · rename_i d ed
      simp only [asT, Option.some.injEq] at eo
      subst eo
      refine h2 σ H (fun x H1 => D.nx (σ.set i (some x)) H1) F O ρ r ρ1 kf I e1 fun v H' O' k s I' hr => ?_
      obtain ⟨O2, l2, I2, hr2⟩ := I'.hold k hr
      exact q _ H' O2 k (s.trans (Step.less l2)) (pin_set hp) (I2.setv (hr2.toV ed))
    · cases eo
  · cases eo
theorem s_own {i : Nat} {x : Str} {e : E} {v : Expr} {p pos : Pos} (ok : XOk X N sc scs Γ G) (hkind : X.env.scope.kind = .function) (hi : N[i]? = some x) (hst : storC scs x = true) (h : chkE N e sc v = true) (hp : offP pin [i] = true) :
    PS X (.Assign [.Name x p] v pos) (pS X.K pin (ex Γ G (.own i e))) := by
  obtain ⟨t, h1, h2⟩ := st_name (p := p) (pos := pos) ok hkind hi hst h
  refine PS.imp h1 fun D σ H q kf => ?_
  obtain ⟨F, O, ρ, o, I, eo, q⟩ := q kf
  simp only [ex] at eo
  split at eo
  · rename_i b ρ1 e1
    simp only [Option.some.injEq] at eo
    subst eo
    exact h2 σ H (fun x H1 => D.nx (σ.set i (some x)) H1) F O ρ _ ρ1 kf I e1 fun v H' O' k s I' hr => q _ H' O' k s (pin_set hp) (I'.seto hr)
  · cases eo
theorem s_asgT {ts : Ts} {e : E} {tg v : Expr} {pos : Pos} (ok : XOk X N sc scs Γ G) (ht : chkT N scs (.tp ts) tg = true) (h : chkE N e sc v = true) (h1 : notTuple v = true) (h2 : notComp v = true) (hp : offP pin (slotsT (.tp ts)) = true) :
    PS X (.Assign [tg] v pos) (pS X.K pin (ex Γ G (.asg (.tp ts) e))) := by
  have hs : swapsWithSole [tg] v pos.line X.env = pure false := sw_false h2
  have hw : swappedStores [tg] v X.env = pure none := by
    cases tg <;> simp only [chkT, reduceCtorEq, Bool.false_eq_true] at ht
    cases v <;> first | rfl | (simp [notTuple] at h1)
  refine PS.imp (ps_asg (sE e ok _ h).pe (sT ok _ _ ht) hs hw (by rw [tg_star ht]; rfl)) fun D σ H q kf => ?_
  obtain ⟨F, O, ρ, o, I, eo, q⟩ := q kf
  simp only [ex] at eo
  split at eo
  · rename_i r ρ1 e1
    split at eo
    · rename_i d ed
      split at eo
      · rename_i ρ2 e2
        simp only [Option.some.injEq] at eo
        subst eo
        refine fun _ => ⟨F, O, ρ, r, ρ1, I, e1, fun v H' O' k s I' hr => ?_⟩
        obtain ⟨O2, l2, I2, hr2⟩ := I'.hold k hr
        refine ⟨F, O2, ρ1, d, ρ2, I2, hr2.toV ed, e2, fun σ' J l f kk => q σ' H' O2 kk (s.trans (Step.less l2)) (fun i hi => ?_) J⟩
        subst hi
        refine f i fun z => ?_
        simp only [offP, Bool.not_eq_true', List.contains_eq_mem, decide_eq_false_iff_not] at hp
        exact hp z
      · cases eo
    · cases eo
  · cases eo
theorem s_aug {i : Nat} {x : Str} {op : BO} {op' : Operator} {e : E} {v : Expr} {p pos : Pos} (ok : XOk X N sc scs Γ G) (hi : N[i]? = some x) (hst : storC scs x = true) (ho : op' = opPy op) (ho2 : op = .add ∨ op = .sub) (h : chkE N e sc v = true) (hp : offP pin [i] = true) :
    PS X (.AugAssign (.Name x p) op' v pos) (pS X.K pin (ex Γ G (.aug i op e))) := by
  obtain ⟨h3, h4⟩ := ok.stor x hst
  have nd : X.N.Nodup := by rw [ok.hN]; exact ok.nd
  have hiX : X.N[i]? = some x := by rw [ok.hN]; exact hi
  have red : ∀ (g : Int → Int → Int) (D : Ends) (σ : Sg) (H : Hp), (∀ a b, (match op with | .add => a + b | .sub => a - b | _ => 0) = g a b) → pS X.K pin (ex Γ G (.aug i op e)) D σ H → KOff X.K H → tAug i (pE X.K (ev Γ G e)) (ipI g) (kk X.K D) σ H := fun g D σ H hg q kf => by
    obtain ⟨F, O, ρ, o, I, eo, q⟩ := q kf
    simp only [ex] at eo
    split at eo
    · rename_i d hd
      obtain ⟨xv, e0, hx⟩ := I.val i d hd
      split at eo
      · rename_i y ρ1 e1
        refine ⟨xv, e0, fun _ => ⟨F, O, ρ, _, ρ1, I, e1, fun v H' O' k s I' hr => ?_⟩⟩
        have hx' := Rp.step I s (k.off I'.mf) hx
        have hr : Rp X.K (Or2 F O') H' v y := hr
        split at eo
        · simp only [Option.some.injEq] at eo
          subst eo
          cases hx'
          cases hr
          refine ⟨_, _, rfl, rfl, fun k' => q _ H' O' k' s (pin_set hp) ?_⟩
          rw [← hg]
          exact I'.setv (.int _)
        · simp only [Option.some.injEq] at eo
          subst eo
          cases hx'
          cases hr
          refine ⟨_, _, rfl, rfl, fun k' => q _ H' O' k' s (pin_set hp) ?_⟩
          rw [← hg]
          exact I'.setv (.int _)
        · cases eo
      · cases eo
    · cases eo
  subst ho
  rcases ho2 with rfl | rfl
  · exact PS.imp (ps_aug nd hiX h3 (sE e ok _ h).pe ip_add h4) fun D σ H q kf => red _ D σ H (fun _ _ => rfl) q kf
  · exact PS.imp (ps_aug nd hiX h3 (sE e ok _ h).pe ip_sub h4) fun D σ H q kf => red _ D σ H (fun _ _ => rfl) q kf
theorem s_seti {i : Nat} {x : Str} {k e : E} {pk v : Expr} {p p2 pos : Pos} (ok : XOk X N sc scs Γ G) (hx : nmC N sc i x = true) (hk : chkE N k sc pk = true) (hsl : notSlice pk = true) (hn : notComp v = true) (h : chkE N e sc v = true) :
    PS X (.Assign [.Subscript (.Name x p) pk p2] v pos) (pS X.K pin (ex Γ G (.seti i k e))) := by
  obtain ⟨h1, h2, h3, h4⟩ := names_of ok hx
  have ha : ∀ u, assign (.Subscript (.Name x p) pk p2) X.env u = (do
      let ov ← holding [u] (eval (.Name x p) X.env)
      let iv ← holding [u, ov] (eval pk X.env)
      standAt p2
      holding [u, ov, iv] (setItem ov iv u)
      release [u, ov, iv] []) := fun u => by
    cases pk <;> first | rfl | (simp [notSlice] at hsl)
  have hs : swapsWithSole [.Subscript (.Name x p) pk p2] v pos.line X.env = pure false := by
    cases v <;> first | rfl | (simp [notComp] at hn)
  refine PS.imp (ps_asg (sE e ok _ h).pe (pg_sub (pe_var (pos := p) h1 h2 h3 h4) (sE k ok _ hk).pe set_list ha) hs (by cases v <;> rfl) rfl) fun D σ H q kf => ?_
  obtain ⟨F, O, ρ, o, I, eo, q⟩ := q kf
  simp only [ex] at eo
  split at eo
  · rename_i xs0 hx0
    obtain ⟨a, e0, _⟩ := I.own i _ hx0
    split at eo
    · rename_i r ρ1 e1
      split at eo
      · rename_i d ed
        split at eo
        · rename_i j ρ2 e2
          split at eo
          · rename_i xs hxs
            split at eo
            · rename_i n hn
              simp only [Option.some.injEq] at eo
              subst eo
              refine one_ok I e1 fun xv H1 O1 k1 s1 I1 hxv => ?_
              refine ⟨.ref a, e0, fun _ => ⟨F, O1, ρ1, _, ρ2, I1, e2, fun jv H2 O2 k2 s2 I2 hj => ?_⟩⟩
              have hd := Rp.step I1 s2 (k2.off I2.mf) (hxv.toV ed)
              have hj : Rp X.K (Or2 F O2) H2 jv (.int j) := hj
              cases hj
              obtain ⟨a', e0', z, _, h5, vx, rfl, h6⟩ := I2.own i _ hxs
              rw [e0] at e0'
              cases e0'
              refine ⟨a, vx, j, n, rfl, rfl, h5, by rw [h6.length]; exact hn, fun k3 => ?_⟩
              obtain ⟨I3, s3⟩ := I2.chg k2 hxs e0 (o := .lst (vx.set n xv)) (b' := .l (xs.set n d)) ⟨_, rfl, h6.set n hd⟩
              exact q σ _ O2 k3 ((s1.trans s2).trans s3) (fun _ _ => rfl) I3
            · cases eo
          · cases eo
        · cases eo
      · cases eo
    · cases eo
  · cases eo
theorem s_setd {i : Nat} {x : Str} {k e : E} {pk v : Expr} {p p2 pos : Pos} (ok : XOk X N sc scs Γ G) (hx : nmC N sc i x = true) (hk : chkE N k sc pk = true) (hsl : notSlice pk = true) (hn : notComp v = true) (h : chkE N e sc v = true) :
    PS X (.Assign [.Subscript (.Name x p) pk p2] v pos) (pS X.K pin (ex Γ G (.setd i k e))) := by
  obtain ⟨h1, h2, h3, h4⟩ := names_of ok hx
  have hroom := ok.room
  have ha : ∀ u, assign (.Subscript (.Name x p) pk p2) X.env u = (do
      let ov ← holding [u] (eval (.Name x p) X.env)
      let iv ← holding [u, ov] (eval pk X.env)
      standAt p2
      holding [u, ov, iv] (setItem ov iv u)
      release [u, ov, iv] []) := fun u => by
    cases pk <;> first | rfl | (simp [notSlice] at hsl)
  have hs : swapsWithSole [.Subscript (.Name x p) pk p2] v pos.line X.env = pure false := by
    cases v <;> first | rfl | (simp [notComp] at hn)
  refine PS.imp (ps_asg (sE e ok _ h).pe (pg_sub (pe_var (pos := p) h1 h2 h3 h4) (sE k ok _ hk).pe (DPK.set_dict (by omega)) ha) hs (by cases v <;> rfl) rfl) fun D σ H q kf => ?_
  obtain ⟨F, O, ρ, o, I, eo, q⟩ := q kf
  simp only [ex] at eo
  split at eo
  · rename_i xs0 hx0
    obtain ⟨a, e0, _⟩ := I.own i _ hx0
    split at eo
    · rename_i r ρ1 e1
      split at eo
      · rename_i d ed
        split at eo
        · rename_i rk ρ2 e2
          split at eo
          · rename_i y ey
            split at eo
            · rename_i kvs hkv
              split at eo
              · rename_i kvs' hst
                obtain ⟨kk, hkk, hkb, hl, rfl⟩ := dstore_inv hst
                obtain ⟨k1, kd⟩ := DPK.keyK_inv hkk
                simp only [Option.some.injEq] at eo
                subst eo
                refine one_ok I e1 fun xv H1 O1 k1' s1 I1 hxv => ?_
                refine ⟨.ref a, e0, one_ok I1 e2 fun jv H2 O2 k2 s2 I2 hj => ?_⟩
                have hd := Rp.step I1 s2 (k2.off I2.mf) (hxv.toV ed)
                have hj := hj.toV ey
                obtain ⟨a', e0', z, _, h5, xs, rfl, ho, h6⟩ := I2.own i _ hkv
                rw [e0] at e0'
                cases e0'
                refine ⟨a, xs, _, kk, rfl, h5, h6.keys ho hkb, RpEn.keyV k1 hj, kd, DPK.keyN_isT k1, by rw [h6.length]; exact hl, fun k3 => ?_⟩
                obtain ⟨I3, s3⟩ := I2.chg k2 hkv e0 (o := DPK.dO a (DPK.xput xs kk jv xv)) (b' := .d (DPK.dput kvs kk y d)) ⟨_, rfl, ho.put hkk, h6.put k1 hj hd⟩
                exact q σ _ O2 k3 ((s1.trans s2).trans s3) (fun _ _ => rfl) I3
              · cases eo
            · cases eo
          · cases eo
        · cases eo
      · cases eo
    · cases eo
  · cases eo
theorem s_ex {e : E} {v : Expr} {pos : Pos} (ok : XOk X N sc scs Γ G) (hn : notComp v = true) (h : chkE N e sc v = true) : PS X (.Expr v pos) (pS X.K pin (ex Γ G (.ex e))) := by
  refine PS.imp (ps_expr (sE e ok _ h).pe (sw_false hn)) fun D σ H q kf => ?_
  obtain ⟨F, O, ρ, o, I, eo, q⟩ := q kf
  simp only [ex] at eo
  split at eo
  · rename_i r ρ1 e1
    simp only [Option.some.injEq] at eo
    subst eo
    exact one_ok I e1 fun xv H1 O1 k1 s1 I1 hxv => fun kk => q σ H1 O1 kk s1 (fun _ _ => rfl) I1
  · cases eo
theorem s_ret {e : E} {v : Expr} {pos : Pos} (ok : XOk X N sc scs Γ G) (h : chkE N e sc v = true) : PS X (.Return (some v) pos) (pS X.K pin (ex Γ G (.ret e))) := by
  refine PS.imp (ps_ret (sE e ok _ h).pe) fun D σ H q kf => ?_
  obtain ⟨F, O, ρ, o, I, eo, q⟩ := q kf
  simp only [ex] at eo
  split at eo
  · cases eo
  · rename_i r ρ1 _ e1
    simp only [Option.some.injEq] at eo
    subst eo
    exact fun _ => ⟨F, O, ρ, _, ρ1, I, e1, fun v H' O' k s I' hr kk => q σ H' O' kk s (fun _ _ => rfl) I' v hr⟩
  · cases eo
theorem s_retN {pos : Pos} : PS X (.Return none pos) (pS X.K pin (ex Γ G .retN)) := by
  refine PS.imp ps_retN fun D σ H q kf => ?_
  obtain ⟨F, O, ρ, o, I, eo, q⟩ := q kf
  simp only [ex, Option.some.injEq] at eo
  subst eo
  exact fun kk => q σ H O kk .refl (fun _ _ => rfl) I .non .non
theorem s_brk {pos : Pos} : PS X (.Break pos) (pS X.K pin (ex Γ G .brk)) := by
  refine PS.imp ps_break fun D σ H q kf => ?_
  obtain ⟨F, O, ρ, o, I, eo, q⟩ := q kf
  simp only [ex, Option.some.injEq] at eo
  subst eo
  exact fun kk => q σ H O kk .refl (fun _ _ => rfl) I
theorem s_cnt {pos : Pos} : PS X (.Continue pos) (pS X.K pin (ex Γ G .cnt)) := by
  refine PS.imp ps_continue fun D σ H q kf => ?_
  obtain ⟨F, O, ρ, o, I, eo, q⟩ := q kf
  simp only [ex, Option.some.injEq] at eo
  subst eo
  exact fun kk => q σ H O kk .refl (fun _ _ => rfl) I
theorem s_pass {pos : Pos} : PS X (.Pass pos) (pS X.K pin (ex Γ G .pass)) := by
  refine PS.imp ps_pass fun D σ H q kf => ?_
  obtain ⟨F, O, ρ, o, I, eo, q⟩ := q kf
  simp only [ex, Option.some.injEq] at eo
  subst eo
  exact fun kk => q σ H O kk .refl (fun _ _ => rfl) I
theorem s_never {py : Stmt} : PS X py (pS X.K pin (ex Γ G .never)) := by
  refine PS.imp ps_never fun D σ H q kf => ?_
  obtain ⟨F, O, ρ, o, I, eo, q⟩ := q kf
  simp only [ex] at eo
  cases eo
theorem s_ite {c : E} {a b : Ss} {pc : Expr} {pa pb : List Stmt} {pos : Pos} (ok : XOk X N sc scs Γ G) (hc : chkE N c sc pc = true) (ha : PSs X pa (pS X.K pin (exs Γ G a))) (hb : PSs X pb (pS X.K pin (exs Γ G b))) : PS X (.If pc pa pb pos) (pS X.K pin (ex Γ G (.ite c a b))) := by
  refine PS.imp (ps_if (sE c ok _ hc).pt ha hb) fun D σ H q kf => ?_
  obtain ⟨F, O, ρ, o, I, eo, q⟩ := q kf
  have wn : ∀ {F' O' : Addr → Prop} {σ' : Sg} {H' : Hp} {o : Out}, KOff X.K H' → Wn X.K F' O' σ' H' D o → Wn X.K F' O' σ' H' (kk X.K D) o := fun {F' O' σ' H' o} k h => by
    cases o with
    | nx ρ => exact fun J _ => h J
    | bk ρ => exact fun J _ => h J
    | ct ρ => exact fun J _ => h J
    | rt r ρ => exact fun J v hr _ => h J v hr
  simp only [ex] at eo
  split at eo
  · rename_i ρ1 e1
    refine fun _ => ⟨F, O, ρ, _, ρ1, I, e1, fun H1 O1 k1 s1 I1 => iteT fun _ => ⟨F, O1, ρ1, o, I1, eo, fun σ' H' O' k s p => wn k (q σ' H' O' k (s1.trans s) p)⟩⟩
  · rename_i ρ1 e1
    refine fun _ => ⟨F, O, ρ, _, ρ1, I, e1, fun H1 O1 k1 s1 I1 => iteF fun _ => ⟨F, O1, ρ1, o, I1, eo, fun σ' H' O' k s p => wn k (q σ' H' O' k (s1.trans s) p)⟩⟩
  · cases eo
theorem ss_nil : PSs X [] (pS X.K pin (exs Γ G .nil)) := by
  refine PSs.imp pss_nil fun D σ H q kf => ?_
  obtain ⟨F, O, ρ, o, I, eo, q⟩ := q kf
  simp only [exs, Option.some.injEq] at eo
  subst eo
  exact fun kk => q σ H O kk .refl (fun _ _ => rfl) I
theorem ss_cons {s : S} {r : Ss} {ps : Stmt} {pr : List Stmt} (h1 : PS X ps (pS X.K pin (ex Γ G s))) (h2 : PSs X pr (pS X.K pin (exs Γ G r))) : PSs X (ps :: pr) (pS X.K pin (exs Γ G (.cons s r))) := by
  refine PSs.imp (pss_cons h1 h2) fun D σ H q kf => ?_
  obtain ⟨F, O, ρ, o, I, eo, q⟩ := q kf
  simp only [exs] at eo
  split at eo
  · rename_i ρ1 e1
    refine fun _ => ⟨F, O, ρ, _, I, e1, fun σ1 H1 O1 k1 s1 p1 I1 => fun _ => ⟨F, O1, ρ1, o, I1, eo, fun σ' H' O' k s p => ?_⟩⟩
    have := q σ' H' O' k (s1.trans s) fun i hi => (p i hi).trans (p1 i hi)
    cases o with
    | nx ρ => exact fun J _ => this J
    | bk ρ => exact fun J _ => this J
    | ct ρ => exact fun J _ => this J
    | rt r ρ => exact fun J v hr _ => this J v hr
  · rename_i o' hne
    refine fun _ => ⟨F, O, ρ, o, I, eo, fun σ' H' O' k s p => ?_⟩
    have := q σ' H' O' k s p
    cases o with
    | nx ρ => exact (hne ρ eo).elim
    | bk ρ => exact fun J _ => this J
    | ct ρ => exact fun J _ => this J
    | rt r ρ => exact fun J v hr _ => this J v hr
end
end DP
/-! for .. in d.items(), for dicts whose keys are tuples; the dict is locked meanwhile. -/
namespace DPK
open PySem PySem.Spec PyProof.Rows L2
/-- the pairs, each a new tuple -/
def Itx (d : Addr) (o : Obj) (xs : List En) : It :=
  ⟨fun i H => H d = some (.frz o (dO d xs)) ∧ i < xs.length, fun i H x H' => ∃ T e, xs[i]? = some e ∧ x = .ref T ∧ H T = none ∧ H' = upd H T (.tup [e.2.1, e.2.2]), fun i H => H d = some (.frz o (dO d xs)) ∧ xs.length ≤ i⟩
section
variable {X : Cx} {pins : List (Addr × Obj)} {σ : List (Option V)} {H : Hp} {s : Shared}
theorem frz_raw {d : Addr} {o : Obj} {xs : List En} (I : Inv X pins σ H s) (hd : H d = some (.frz o (dO d xs))) : (d == sysModules) = false ∧ ∃ es ep, s.heap.get? d = some o ∧ o.data = .dict es ep ∧ s.heap.DictRaw d es ep ∧ Paired EntR xs es.toList := by
  obtain ⟨eo, ook⟩ := (show ObjOk X.prog X.w H s.heap d (.frz o (dO d xs)) from I.hok d _ hd)
  obtain ⟨z, y, o', es, ep, e1, e2, e3, e4⟩ := (show dOk d xs s.heap from ook.1)
  rw [eo] at e1
  cases e1
  exact ⟨y, es, ep, eo, e3, ⟨o, eo, e2, e3⟩, e4⟩
theorem Paired.at {α β : Type} {R : α → β → Prop} : ∀ {xs : List α} {ys : List β}, Paired R xs ys → ∀ {i : Nat} {x : α} {y : β}, xs[i]? = some x → ys[i]? = some y → R x y
  | _, _, .nil, i, _, _, h, _ => by simp at h
  | _, _, .cons a t, 0, _, _, h, h' => by simp at h h'; subst h; subst h'; exact a
  | _, _, .cons a t, i + 1, _, _, h, h' => Paired.at t (by simpa using h) (by simpa using h')
end
section
variable {P : Program} {w : World} {K : PySem.W.Frag} {d : Addr} {o : Obj} {es : Array DictEntry} {ep : Nat}
theorem turn_itemsX {xs : List En} {elts : List Expr} {kk : Nat} {tpos : Pos} (it : Addr) (hod : o.data = .dict es ep) (ht : ∀ x ∈ xs, isT x.1 = true) :
    Turn P w K (.Tuple elts kk tpos) (Itx d o xs) [it] it (fun i h => ∃ ok ov, IsItemIter h it d i es.size ep ok ov) where
  mem := by simp
  obj := fun i h st b hb => by
    have e : b = it := by simpa using hb
    subst e
    obtain ⟨ok, ov, e⟩ := st
    exact ⟨_, e, fun v z => nomatch z⟩
  keep := fun i h h' st k => let ⟨ok, ov, e⟩ := st; ⟨ok, ov, k it (by simp) _ e⟩
  item := by
    intro X hP hw hK hc i pins s σ H E I hf st hg
    subst hP hw hK
    obtain ⟨hd, hi⟩ := hg
    obtain ⟨hs, es', ep', hgd, hdt, hm, pr⟩ := frz_raw I hd
    obtain ⟨rfl, rfl⟩ := dict_ep hod hdt
    have hl : xs.length = es'.size := by have := Paired.length pr; simpa using this
    have hlt' : i < es'.size := by omega
    have hx : xs[i]? = some xs[i] := List.getElem?_eq_getElem hi
    have hy : es'.toList[i]? = some es'[i] := by simp [hlt']
    obtain ⟨r1, r2, r3, r4⟩ := Paired.at pr hx hy
    have rk := r2 (ht _ (List.getElem_mem hi))
    obtain ⟨ok, ov, he⟩ := st
    have hlt : it < s.heap.objs.size := Heap.lt_size he
    refine wpAny_pyNext_items_item_raw he hm hlt' fun h' ho hT hz hk => ?_
    refine ⟨_, rfl, wpAny_letOwnedTupleGo_items (s := { s with heap := h' }) ho fun h'' he' sb => ?_⟩
    have hT2 : h''.get? s.heap.objs.size = some { cls := .type "tuple", data := .seq #[es'[i].key, es'[i].val] } := (sb.2 _ (Nat.ne_of_gt hlt)).trans hT
    have new : ObjOk X.prog X.w (upd H s.heap.objs.size (.tup [xs[i].2.1, xs[i].2.2])) h'' s.heap.objs.size (.tup [xs[i].2.1, xs[i].2.2]) :=
      ⟨by show 2 ≤ sizeLine; decide, [es'[i].key, es'[i].val], .cons rk (.cons r4 .nil), ⟨_, hT2, rfl, _, rfl⟩⟩
    have I1 : Inv X pins σ (upd H s.heap.objs.size (.tup [xs[i].2.1, xs[i].2.2])) { s with heap := h'' } :=
      I.turnedNew (t' := s.toks) (ch := [it]) (fun b ob hb e => (sb.2 b (by simpa using hb)).trans (hk b ob (by simpa using hb) e)) hf (Nat.le_refl _) new
    refine ⟨.ref s.heap.objs.size, _, I1, rfl, ⟨_, xs[i], hx, rfl, I.hok.fresh (Nat.le_refl _), rfl⟩, ⟨_, _, he'⟩, fun b hb => ?_⟩
    have e : b = it := by simpa using hb
    rw [e, upd_ne (Nat.ne_of_lt hlt)]
    exact (hf it (by simp)).1
  done := by
    intro X hP hw hK hc i pins s σ H E I hf st hg
    subst hP hw hK
    obtain ⟨hd, hi⟩ := hg
    obtain ⟨f0, f1, f2, f3, f4, f5⟩ := hf it (by simp)
    obtain ⟨hs, es', ep', hgd, hdt, hm, pr⟩ := frz_raw I hd
    obtain ⟨rfl, rfl⟩ := dict_ep hod hdt
    have hl : xs.length = es'.size := by have := Paired.length pr; simpa using this
    obtain ⟨ok, ov, he⟩ := st
    exact wpAny_pyNext_items_end_raw (I.ok.hd hc) he hm (by omega) fun h' eb => ⟨rfl, I.turned (t' := s.toks) (fun b ob hb e => eb b ob hb e) f0 f1 f3 f4 f5⟩
  self := fun A i s Q E st h => let ⟨_, _, e⟩ := st; PySem.W.kcp_self e h
end
/-- the dict is locked -/
def iItemsX (td : TE) : TI := fun σ H R => td σ H fun x H1 => ∃ d o xs, x = .ref d ∧ H1 d = some (.frz o (dO d xs)) ∧ (∀ x ∈ xs, isT x.1 = true) ∧ R (Itx d o xs) H1
section
variable {X : Cx} {e : Expr} {td : TE} {apos cpos : Pos}
theorem pi_itemsX {elts : List Expr} {kk : Nat} {tpos : Pos} (he : PE X e td) (hbase : attributeBase e "items" X.env (eval e X.env) = eval e X.env := by rfl) (hline : (apos.endLine == cpos.line) = true := by rfl) :
    PI X (.Tuple elts kk tpos) (.Call (.Attribute e "items" apos) [] [] cpos) (iItemsX td) := by
  refine ⟨fun pins s σ H R I h => ?_⟩
  refine wpAny_Call_method (T := "dict") (id := "dict.items") hbase rfl hline F.plainAttrs_dict F.slot_dict_items F.type_dict_items (thn (he.run pins s σ H _ I h) fun u s1 ⟨x, H1, I1, rx, d, o, xs, ex, hd, ht, q⟩ => ?_)
  subst ex
  obtain rfl : u = Value.ref d := rx
  obtain ⟨hs, es, ep, hgd, hdt, hm, pr⟩ := frz_raw I1 hd
  obtain ⟨t1, t2⟩ := dO_typeIs I1 (.inr ⟨o, hd⟩)
  refine ⟨t1, t2, ?_⟩
  have I2 : Inv X pins σ H1 { s1 with heap := s1.heap.push { cls := .type "dict_items", data := .fields #[.ref d] } } := I1.kept (t' := s1.toks) fun b ob q => Heap.get?_push_of_some _ q
  have fin : wpAny (model X.prog X.w) X.A (pyIter (.ref s1.heap.objs.size)) (PIE X pins σ (.Tuple elts kk tpos) R) X.xe { s1 with heap := s1.heap.push { cls := .type "dict_items", data := .fields #[.ref d] } } := by
    refine wpAny_pyIter_items_raw (d := d) ⟨_, Heap.get?_push_size _ rfl, rfl, rfl⟩ (hm.at fun ob q => Heap.get?_push_of_some _ q) (pi_one (tk := s1.toks) I2 _ (turn_itemsX _ hdt ht) ⟨.none, .none, ?_⟩ q)
    exact Heap.get?_push_size _ rfl
  show wpAny _ _ (callWith cpos (.builtin "dict.items") [.ref d] [] []) _ X.xe s1
  exact method_meetsIn F.slot_dict_items F.entry_dict_items rfl (PySem.evalArgs_none ⟨rfl, t1, F.args_dict_items_1 _, _, meets_dict_items_raw d hs, ⟨es, ep, hm⟩, fin⟩)
end
end DPK
/-! A frame stands while one of its dicts is locked, and after. -/
namespace DP
open PySem PySem.Spec PyProof.Rows L2
open DPK (En dO keyN KdOk)
/-- the same but for a lock on a dict -/
structure Lk (H H' : Hp) (d : Addr) (ys : List En) : Prop where
  ne : ∀ a, a ≠ d → H' a = H a
  r : Rd H d (dO d ys)
  r' : Rd H' d (dO d ys)
theorem Lk.symm {H H' : Hp} {d : Addr} {ys : List En} (l : Lk H H' d ys) : Lk H' H d ys := ⟨fun a h => (l.ne a h).symm, l.r', l.r⟩
theorem Lk.lock {H : Hp} {d : Addr} {ys : List En} {od : Obj} (h : H d = some (dO d ys)) : Lk H (upd H d (.frz od (dO d ys))) d ys := ⟨fun a n => upd_ne n, .inl h, .inr ⟨od, upd_same⟩⟩
theorem Lk.unlock {H : Hp} {d : Addr} {ys : List En} {od : Obj} (h : H d = some (.frz od (dO d ys))) : Lk H (upd H d (dO d ys)) d ys := ⟨fun a n => upd_ne n, .inr ⟨od, h⟩, .inl upd_same⟩
variable {K : PySem.W.Frag} {Z : Addr → Prop} {H H' : Hp} {d : Addr} {ys : List En}
theorem Rd.two {u v : HO} {a : Addr} (h : Rd H a u) (h' : Rd H a v) (hu : ∀ o w, u ≠ .frz o w) (hv : ∀ o w, v ≠ .frz o w) : u = v := by
  rcases h with h | ⟨o, h⟩ <;> rcases h' with h' | ⟨o', h'⟩
  · rw [h] at h'; cases h'; rfl
  · rw [h] at h'; cases h'; exact absurd rfl (hu _ _)
  · rw [h] at h'; cases h'; exact absurd rfl (hv _ _)
  · rw [h] at h'; cases h'; rfl
theorem Lk.rd (l : Lk H H' d ys) {a : Addr} {u : HO} (h : Rd H a u) (hu : ∀ o w, u ≠ .frz o w) : Rd H' a u := by
  by_cases e : a = d
  · subst e
    have := Rd.two h l.r hu (fun _ _ z => nomatch z)
    rw [this]
    exact l.r'
  · rcases h with h | ⟨o, h⟩
    · exact .inl (by rw [l.ne a e]; exact h)
    · exact .inr ⟨o, by rw [l.ne a e]; exact h⟩
mutual
theorem Rp.lk (l : Lk H H' d ys) : ∀ {x : D} {v : V}, Rp K Z H v x → Rp K Z H' v x
  | .none, _, h => by cases h; exact .non
  | .bool b, _, h => by cases h; exact .bl b
  | .int b, _, h => by cases h; exact .int b
  | .str b, _, h => by cases h; exact .str b
  | .list ds, _, h => by
    cases h with | lst n s a => exact .lst n (s.imp (fun r => l.rd r fun _ _ z => nomatch z) id) (RpAll.lk l a)
  | .tuple ds, _, h => by
    cases h with | tup s a => exact .tup (s.imp (fun r => l.rd r fun _ _ z => nomatch z) id) (RpAll.lk l a)
  | .dict kvs, _, h => by
    cases h with
    | dct n s o a => exact .dct n (l.rd s fun _ _ z => nomatch z) o (RpEn.lk l a)
    | fn e => exact .fn e
theorem RpAll.lk (l : Lk H H' d ys) : ∀ {ds : List D} {vs : List V}, RpAll K Z H vs ds → RpAll K Z H' vs ds
  | [], _, h => by cases h; exact .nil
  | x :: ds, _, h => by
    cases h with | cons h t => exact .cons (Rp.lk l h) (RpAll.lk l t)
theorem RpEn.lk (l : Lk H H' d ys) : ∀ {kvs : List (D × D)} {xs : List En}, RpEn K Z H xs kvs → RpEn K Z H' xs kvs
  | [], _, h => by cases h; exact .nil
  | (kd, vd) :: kvs, _, h => by
    cases h with | cons e h1 h2 t => exact .cons e (Rp.lk l h1) (Rp.lk l h2) (RpEn.lk l t)
end
theorem ObN.lk (l : Lk H H' d ys) {a : Addr} {o : HO} {b : OB} (h : ObN K Z H a o b) : ObN K Z H' a o b := by
  cases b with
  | l ds => obtain ⟨vs, e, h⟩ := h; exact ⟨vs, e, RpAll.lk l h⟩
  | d kvs => obtain ⟨vs, e, o, h⟩ := h; exact ⟨vs, e, o, RpEn.lk l h⟩
theorem Ob.lk (l : Lk H H' d ys) {a : Addr} {b : OB} (n : a ≠ d) (h : Ob K Z H a b) : Ob K Z H' a b := by
  obtain ⟨o, e, h⟩ := h
  exact ⟨o, by rw [l.ne a n]; exact e, ObN.lk l h⟩
variable {F O O' : Addr → Prop} {σ : Sg} {ρ : PEnv}
theorem EI.lk (l : Lk H H' d ys) (n : ¬ Or2 F O d) (I : EI K F O σ H ρ) : EI K F O σ H' ρ where
  mf := fun a z => by
    have e : a ≠ d := fun e => n (e ▸ z)
    rw [l.ne a e]
    exact I.mf a z
  dis := I.dis
  len := I.len
  val := fun i x e => let ⟨v, e1, h⟩ := I.val i x e; ⟨v, e1, Rp.lk l h⟩
  own := fun i b e => by
    obtain ⟨a, e1, z, h⟩ := I.own i b e
    exact ⟨a, e1, z, Ob.lk l (fun e => n (e ▸ .inr z)) h⟩
  inj := I.inj
theorem RR.lk (l : Lk H H' d ys) (n : ¬ Or2 F O d) {v : V} {r : R} (h : RR K F O σ H ρ v r) : RR K F O σ H' ρ v r := by
  cases r with
  | v x => exact Rp.lk l h
  | fr b =>
    obtain ⟨p, e, z, h, q⟩ := h
    exact ⟨p, e, z, Ob.lk l (fun e => n (e ▸ .inr z)) h, q⟩
  | pk i => exact h
theorem KOff.lk (l : Lk H H' d ys) (k : KOff K H) : KOff K H' := fun a o e => by
  have := k a o e
  have n : a ≠ d := fun z => by
    subst z
    rcases l.r with q | ⟨_, q⟩ <;> rw [this] at q <;> cases q
  rw [l.ne a n]
  exact this
/-- from unlocked to unlocked, by way of locked -/
theorem Step.lk {od : Obj} {H1 : Hp} (h : H d = some (dO d ys)) (s : Step O O' (upd H d (.frz od (dO d ys))) H1) : Step O O' H (upd H1 d (dO d ys)) where
  keep := ⟨fun a o e n => by
    by_cases z : a = d
    · subst z
      rw [upd_same]
      rw [h] at e
      exact e
    · rw [upd_ne z]
      exact s.keep.k a o (by rw [upd_ne z]; exact e) n⟩
  grow := fun a z => by
    rcases s.grow a z with q | q
    · exact .inl q
    · by_cases e : a = d
      · subst e
        rw [upd_same] at q
        cases q
      · rw [upd_ne e] at q
        exact .inr q
theorem RpEn.at2 : ∀ {xs : List En} {kvs : List (D × D)}, RpEn K Z H xs kvs → ∀ (i : Nat) (e : En) (p : D × D), xs[i]? = some e → kvs[i]? = some p → Rp K Z H e.2.1 p.1 ∧ Rp K Z H e.2.2 p.2
  | _, _, .nil, i, e, p, h, _ => by simp at h
  | _, _, .cons _ h1 h2 t, 0, e, p, he, hp => by
    simp only [List.getElem?_cons_zero, Option.some.injEq] at he hp
    subst he; subst hp
    exact ⟨h1, h2⟩
  | _, _, .cons _ h1 h2 t, i + 1, e, p, he, hp => RpEn.at2 t i e p (by simpa using he) (by simpa using hp)
/-- the items of a dict, as they come at any later time -/
theorem wk_items {a : Addr} {od : Obj} {xs : List En} {kvs : List (D × D)} (hl : H a = some (.frz od (dO a xs))) (n : ¬ Z a) (m : Muts Z H) (h : RpEn K Z H xs kvs) : Wk K Z O (DPK.Itx a od xs) (kvs.map fun p => .tuple [p.1, p.2]) H := fun Z2 H2 k g m2 kf i => by
  have h2 := RpEn.keep m k g kf h
  have e2 := k.k a _ hl n
  have hlen := h2.length
  rw [List.length_map]
  refine ⟨fun hi => ⟨⟨e2, by omega⟩, fun x H3 y => ?_⟩, fun hi => ⟨e2, by omega⟩⟩
  obtain ⟨T, e, he, rfl, nT, rfl⟩ := y
  have hx : kvs[i]? = some kvs[i] := List.getElem?_eq_getElem hi
  obtain ⟨r1, r2⟩ := RpEn.at2 h2 i e _ he hx
  exact ⟨.inr ⟨T, _, nT, rfl⟩, _, by rw [List.getElem?_map, hx]; rfl, Rp.new (.cons r1 (.cons r2 .nil)) nT m2 kf⟩
end DP
/-! The pure layer, part P: loops, blocks, defs, the whole text. -/
namespace DP
open PySem PySem.Spec PyProof.Rows L2
section
variable {X : Cx} {N : List Str} {sc scs : Scope} {Γ : Sems} {G : Str → Option D} {pin : Option Nat}
theorem wn_kk {K : PySem.W.Frag} {D : Ends} {F' O' : Addr → Prop} {σ' : Sg} {H' : Hp} {o : Out} (h : Wn K F' O' σ' H' D o) : Wn K F' O' σ' H' (kk K D) o := by
  cases o with
  | nx ρ => exact fun J _ => h J
  | bk ρ => exact fun J _ => h J
  | ct ρ => exact fun J _ => h J
  | rt r ρ => exact fun J v hr _ => h J v hr
def forF (Γ : Sems) (G : Str → Option D) (t : T) (b : Ss) : D → PEnv → Option Out := fun d ρ => match asT t d ρ with
  | some ρ' => exs Γ G b ρ'
  | none => none
structure ForW (K : PySem.W.Frag) (pin : Option Nat) (F O1 : Addr → Prop) (H1 : Hp) (σ0 : Sg) (f : D → PEnv → Option Out) (ds : List D) (o : Out) (i : Nat) (σx : Sg) (Hx : Hp) : Prop where
  le : i ≤ ds.length
  ex : ∃ Ox ρx, KOff K Hx ∧ Step O1 Ox H1 Hx ∧ (∀ i, pin = some i → σx[i]? = σ0[i]?) ∧ EI K F Ox σx Hx ρx ∧ forL f (ds.drop i) ρx = some o
theorem s_for {t : T} {it : It} {b : Ss} {tg iter : Expr} {pb : List Stmt} {pos : Pos} (ok : XOk X N sc scs Γ G) (hset : notSet iter = true) (hi : PI X tg iter (pI X.K (evi Γ G it))) (hg : PG X tg (pG X.K t)) (hp : offP pin (slotsT t) = true) (hb : PSs X pb (pS X.K pin (exs Γ G b))) :
    PS X (.For tg iter pb [] pos) (pS X.K pin (ex Γ G (.for t it b))) := by
  refine PS.imp (ps_for (by rw [ok.xe]; exact PassesOwn.never) ok.calm hi hg hb (fold_of hset)) fun D σ H q kf => ?_
  obtain ⟨F, O, ρ, o, I, eo, q⟩ := q kf
  simp only [ex] at eo
  split at eo
  · rename_i ds ρ1 e1
    have eo : forL (forF Γ G t b) ds ρ1 = some o := eo
    refine fun _ => ⟨F, O, ρ, ds, ρ1, I, e1, fun J H1 O1 k1 s1 I1 wk => ?_⟩
    refine ⟨fun i m σx Hx => m = ds.length - i ∧ ForW X.K pin F O1 H1 σ (forF Γ G t b) ds o i σx Hx, ⟨_, rfl, ⟨Nat.zero_le _, O1, ρ1, k1, .refl, fun _ _ => rfl, I1, eo⟩⟩, ?_⟩
    rintro i m σx Hx ⟨rfl, ⟨hle, Ox, ρx, kx, sx, px, Ix, el⟩⟩
    have offx := kx.off Ix.mf
    obtain ⟨w1, w2⟩ := wk (Or2 F Ox) Hx (sx.keep.mono fun _ z => .inr z) (fun a z => by
      rcases z with z | z
      · exact .inl (.inl z)
      · rcases sx.grow a z with q | q
        · exact .inl (.inr q)
        · exact .inr q) Ix.mf offx i
    by_cases hlt : i < ds.length
    · obtain ⟨go, yl⟩ := w1 hlt
      refine .inr ⟨go, ForW X.K pin F O1 H1 σ (forF Γ G t b) ds o (i + 1), fun σ' H' w => ⟨_, by omega, rfl, w⟩, fun x H3 y => ?_⟩
      obtain ⟨h3, d, hd0, hx⟩ := yl x H3 y
      have hdrop : ds.drop i = d :: ds.drop (i + 1) := by
        rw [List.drop_eq_getElem_cons hlt]
        rw [List.getElem?_eq_getElem hlt] at hd0
        rw [Option.some.inj hd0]
      rw [hdrop] at el
      have s3 : Step Ox Ox Hx H3 := by
        rcases h3 with rfl | ⟨T, us, nT, rfl⟩
        · exact .refl
        · exact .new nT
      have I3 : EI X.K F Ox σx H3 ρx := by
        rcases h3 with rfl | ⟨T, us, nT, rfl⟩
        · exact Ix
        · exact Ix.newO offx nT
      have hf : ∃ ρt ob, asT t d ρx = some ρt ∧ exs Γ G b ρt = some ob := by
        simp only [forL] at el
        cases ha : forF Γ G t b d ρx with
        | none => rw [ha] at el; cases el
        | some ob =>
          simp only [forF] at ha
          split at ha
          · rename_i ρt et; exact ⟨ρt, ob, et, ha⟩
          · cases ha
      obtain ⟨ρt, ob, a1, a2⟩ := hf
      have hfe : forF Γ G t b d ρx = some ob := by simp only [forF, a1, a2]
      simp only [forL, hfe] at el
      refine ⟨F, Ox, ρx, d, ρt, I3, hx, a1, fun σ2 I2 l2 f2 => fun k3 => ⟨F, Ox, ρt, ob, I2, a2, fun σ' H' O' k' s' p' => ?_⟩⟩
      have s14 := (sx.trans s3).trans s'
      have pp : ∀ i, pin = some i → σ'[i]? = σ[i]? := fun j hj => by
        rw [p' j hj, f2 j ?_, px j hj]
        intro z
        subst hj
        simp only [offP, Bool.not_eq_true', List.contains_eq_mem, decide_eq_false_iff_not] at hp
        exact hp z
      cases ob with
      | nx ρ' => exact fun J => ⟨hlt, O', ρ', k', s14, pp, J, el⟩
      | ct ρ' => exact fun J => ⟨hlt, O', ρ', k', s14, pp, J, el⟩
      | bk ρ' =>
        simp only [Option.some.injEq] at el
        subst el
        exact fun J _ => q σ' H' O' k' (s1.trans s14) pp J
      | rt r ρ' =>
        simp only [Option.some.injEq] at el
        subst el
        exact fun J v hr _ => q σ' H' O' k' (s1.trans s14) pp J v hr
    · refine .inl ⟨w2 (by omega), fun k' => ?_⟩
      rw [List.drop_eq_nil_of_le (by omega)] at el
      simp only [forL, Option.some.injEq] at el
      subst el
      exact q σx Hx Ox k' (s1.trans sx) px Ix
  · cases eo
theorem ps_or {st : Stmt} {t1 t2 : TS} (h1 : PS X st t1) (h2 : PS X st t2) : PS X st (fun D σ H => t1 D σ H ∨ t2 D σ H) := ⟨fun pins s σ H D I q => q.elim (h1.run pins s σ H D I) (h2.run pins s σ H D I)⟩
/-- the loop over a dict's items, the dict being locked -/
theorem fit_core {t : T} {b : Ss} {i0 : Nat} {E : Ends} {σ : Sg} {H : Hp} {F O : Addr → Prop} {ρ : PEnv} {o : Out} {kvs : List (D × D)} {a : Addr} {od : Obj} {xs : List DPK.En} (hp : offP pin (slotsT t) = true)
    (I : EI X.K F O σ H ρ) (eo : forL (forF Γ G t b) (kvs.map fun p => PyData.tuple [p.1, p.2]) ρ = some o) (kf : KOff X.K H) (hs : σ[i0]? = some (some (V.ref a))) (hl : H a = some (.frz od (DPK.dO a xs))) (nz : ¬ Or2 F O a) (hen : RpEn X.K (Or2 F O) H xs kvs) (hk : DPK.kinds true kvs = true)
    (q : ∀ σ' H' O', KOff X.K H' → Step O O' H H' → (∀ i, pin = some i → σ'[i]? = σ[i]?) → Wn X.K F O' σ' H' E o) : tFor (DPK.iItemsX (tVar i0)) (pG X.K t) (pS X.K pin (exs Γ G b)) E σ H := by
  have ht : ∀ x ∈ xs, DPK.isT x.1 = true := fun x hx => by
    obtain ⟨p, hp, e1, _⟩ := hen.keyv x hx
    have := List.all_eq_true.mp hk p hp
    rw [DPK.keyN_isT e1]
    exact of_decide_eq_true this
  have wk := wk_items (O := O) hl nz I.mf hen
  refine ⟨_, hs, a, od, xs, rfl, hl, ht, ?_⟩
  generalize (kvs.map fun p => PyData.tuple [p.1, p.2]) = ds at *
  refine ⟨fun i m σx Hx => m = ds.length - i ∧ ForW X.K pin F O H σ (forF Γ G t b) ds o i σx Hx, ⟨_, rfl, ⟨Nat.zero_le _, O, ρ, kf, .refl, fun _ _ => rfl, I, eo⟩⟩, ?_⟩
  rintro i m σx Hx ⟨rfl, ⟨hle, Ox, ρx, kx, sx, px, Ix, el⟩⟩
  have offx := kx.off Ix.mf
  obtain ⟨w1, w2⟩ := wk (Or2 F Ox) Hx (sx.keep.mono fun _ z => .inr z) (fun a z => by
    rcases z with z | z
    · exact .inl (.inl z)
    · rcases sx.grow a z with q | q
      · exact .inl (.inr q)
      · exact .inr q) Ix.mf offx i
  by_cases hlt : i < ds.length
  · obtain ⟨go, yl⟩ := w1 hlt
    refine .inr ⟨go, ForW X.K pin F O H σ (forF Γ G t b) ds o (i + 1), fun σ' H' w => ⟨_, by omega, rfl, w⟩, fun x H3 y => ?_⟩
    obtain ⟨h3, d, hd0, hx⟩ := yl x H3 y
    have hdrop : ds.drop i = d :: ds.drop (i + 1) := by
      rw [List.drop_eq_getElem_cons hlt]
      rw [List.getElem?_eq_getElem hlt] at hd0
      rw [Option.some.inj hd0]
    rw [hdrop] at el
    have s3 : Step Ox Ox Hx H3 := by
      rcases h3 with rfl | ⟨T, us, nT, rfl⟩
      · exact .refl
      · exact .new nT
    have I3 : EI X.K F Ox σx H3 ρx := by
      rcases h3 with rfl | ⟨T, us, nT, rfl⟩
      · exact Ix
      · exact Ix.newO offx nT
    have hf : ∃ ρt ob, asT t d ρx = some ρt ∧ exs Γ G b ρt = some ob := by
      simp only [forL] at el
      cases ha : forF Γ G t b d ρx with
      | none => rw [ha] at el; cases el
      | some ob =>
        simp only [forF] at ha
        split at ha
        · rename_i ρt et; exact ⟨ρt, ob, et, ha⟩
        · cases ha
    obtain ⟨ρt, ob, a1, a2⟩ := hf
    have hfe : forF Γ G t b d ρx = some ob := by simp only [forF, a1, a2]
    simp only [forL, hfe] at el
    refine ⟨F, Ox, ρx, d, ρt, I3, hx, a1, fun σ2 I2 l2 f2 => fun k3 => ⟨F, Ox, ρt, ob, I2, a2, fun σ' H' O' k' s' p' => ?_⟩⟩
    have s14 := (sx.trans s3).trans s'
    have pp : ∀ i, pin = some i → σ'[i]? = σ[i]? := fun j hj => by
      rw [p' j hj, f2 j ?_, px j hj]
      intro z
      subst hj
      simp only [offP, Bool.not_eq_true', List.contains_eq_mem, decide_eq_false_iff_not] at hp
      exact hp z
    cases ob with
    | nx ρ' => exact fun J => ⟨hlt, O', ρ', k', s14, pp, J, el⟩
    | ct ρ' => exact fun J => ⟨hlt, O', ρ', k', s14, pp, J, el⟩
    | bk ρ' =>
      simp only [Option.some.injEq] at el
      subst el
      exact fun J => q σ' H' O' k' s14 pp J
    | rt r ρ' =>
      simp only [Option.some.injEq] at el
      subst el
      exact fun J v hr => q σ' H' O' k' s14 pp J v hr
  · refine .inl ⟨w2 (by omega), ?_⟩
    rw [List.drop_eq_nil_of_le (by omega)] at el
    simp only [forL, Option.some.injEq] at el
    subst el
    exact q σx Hx Ox kx sx px Ix
theorem s_fit {t : T} {i0 : Nat} {b : Ss} {x : Str} {p1 ap cp tp pos : Pos} {es : List Expr} {kk' : Nat} {pb : List Stmt} (ok : XOk X N sc scs Γ G) (hx : nmC N sc i0 x = true) (hline : ap.endLine = cp.line) (hg : PG X (.Tuple es kk' tp) (pG X.K t)) (hp : offP pin (slotsT t) = true) (hb : PSs X pb (pS X.K pin (exs Γ G b))) :
    PS X (.For (.Tuple es kk' tp) (.Call (.Attribute (.Name x p1) "items" ap) [] [] cp) pb [] pos) (pS X.K pin (ex Γ G (.fit t i0 b))) := by
  obtain ⟨h1, h2, h3, h4⟩ := names_of ok hx
  have base : PS X (.For (.Tuple es kk' tp) (.Call (.Attribute (.Name x p1) "items" ap) [] [] cp) pb [] pos) (tFor (DPK.iItemsX (tVar i0)) (pG X.K t) (pS X.K pin (exs Γ G b))) := ps_for (by rw [ok.xe]; exact PassesOwn.never) ok.calm (DPK.pi_itemsX (pe_var h1 h2 h3 h4) rfl (by rw [hline]; exact beq_self_eq_true _)) hg hb (fold_of rfl)
  refine PS.imp (ps_or base (ps_lock base)) fun D σ H q kf => ?_
  obtain ⟨F, O, ρ, o, I, eo, q⟩ := q kf
  simp only [ex] at eo
  split at eo
  · rename_i kvs hr
    split at eo
    · rename_i hk
      have eo : forL (forF Γ G t b) (kvs.map fun p => PyData.tuple [p.1, p.2]) ρ = some o := eo
      obtain ⟨v, hs, hv⟩ := I.val i0 _ hr
      cases hv with
      | fn e =>
        exfalso
        simp [DPK.kinds, DPK.isTD] at hk
      | @dct a xs _ nz rd ko hen =>
        rcases rd with hd | ⟨od, hl⟩
        · right
          refine ⟨a, _, hd, DPK.dO_mut, fun od => ?_⟩
          have l := Lk.lock (od := od) hd
          refine fit_core hp (I.lk l nz) eo (kf.lk l) hs upd_same nz (RpEn.lk l hen) hk fun σ' H' O' k' s' p' => ?_
          have nz' : ¬ Or2 F O' a := fun z => by
            rcases z with z | z
            · exact nz (.inl z)
            · rcases s'.grow a z with w | w
              · exact nz (.inr w)
              · rw [upd_same] at w; cases w
          have e' : H' a = some (.frz od (DPK.dO a xs)) := s'.keep.k a _ upd_same fun z => nz (.inr z)
          have l' := Lk.unlock e'
          have w := q σ' _ O' (k'.lk l') (Step.lk hd s') p'
          cases o with
          | nx ρ' => exact fun J => ⟨e', fun _ => w (J.lk l' nz')⟩
          | bk ρ' => exact fun J => ⟨e', fun _ => w (J.lk l' nz')⟩
          | ct ρ' => exact fun J => ⟨e', fun _ => w (J.lk l' nz')⟩
          | rt r ρ' => exact fun J v hv => ⟨e', fun _ => w (J.lk l' nz') v (RR.lk l' nz' hv)⟩
        · left
          refine fit_core hp I eo kf hs hl nz hen hk fun σ' H' O' k' s' p' => ?_
          have w := q σ' H' O' k' s' p'
          cases o with
          | nx ρ' => exact fun J _ => w J
          | bk ρ' => exact fun J _ => w J
          | ct ρ' => exact fun J _ => w J
          | rt r ρ' => exact fun J v hv _ => w J v hv
    · cases eo
  · cases eo
def whlC (Γ : Sems) (G : Str → Option D) (c : E) : PEnv → Option (Bool × PEnv) := fun ρ => match ev Γ G c ρ with
  | some (.v (.bool x), ρ1) => some (x, ρ1)
  | _ => none
structure WhlW (K : PySem.W.Frag) (pin : Option Nat) (F O1 : Addr → Prop) (H1 : Hp) (σ0 : Sg) (c : PEnv → Option (Bool × PEnv)) (f : PEnv → Option Out) (o : Out) (m : Nat) (σx : Sg) (Hx : Hp) : Prop where
  ex : ∃ Ox ρx, Step O1 Ox H1 Hx ∧ (∀ i, pin = some i → σx[i]? = σ0[i]?) ∧ EI K F Ox σx Hx ρx ∧ whlL c f m ρx = some o
theorem s_whl {c : E} {b : Ss} {pc : Expr} {pb : List Stmt} {pos : Pos} (ok : XOk X N sc scs Γ G) (hc : PT X pc (pT X.K (ev Γ G c))) (hb : PSs X pb (pS X.K pin (exs Γ G b))) :
    PS X (.While pc pb [] pos) (pS X.K pin (ex Γ G (.whl c b))) := by
  refine PS.imp (ps_while (by rw [ok.xe]; exact PassesOwn.never) hc hb) fun D σ H q kf => ?_
  obtain ⟨F, O, ρ, o, I, eo, q⟩ := q kf
  simp only [ex] at eo
  have eo : whlL (whlC Γ G c) (exs Γ G b) whlFuel ρ = some o := eo
  refine ⟨WhlW X.K pin F O H σ (whlC Γ G c) (exs Γ G b) o, ⟨whlFuel, ⟨O, ρ, .refl, fun _ _ => rfl, I, eo⟩⟩, ?_⟩
  rintro m σx Hx ⟨Ox, ρx, sx, px, Ix, el⟩
  cases m with
  | zero => simp only [whlL] at el; cases el
  | succ m =>
    simp only [whlL] at el
    split at el
    · rename_i ρ1 ec
      have ec' : ev Γ G c ρx = some (.v (.bool true), ρ1) := by
        simp only [whlC] at ec
        split at ec
        · rename_i e0; simp only [Option.some.injEq, Prod.mk.injEq] at ec; obtain ⟨rfl, rfl⟩ := ec; exact e0
        · cases ec
      refine fun _ => ⟨F, Ox, ρx, true, ρ1, Ix, ec', fun H1 O1 k1 s1 I1 => iteT ?_⟩
      refine ⟨WhlW X.K pin F O H σ (whlC Γ G c) (exs Γ G b) o m, fun σ' H' w => ⟨m, Nat.lt_succ_self m, w⟩, fun _ => ?_⟩
      cases eb : exs Γ G b ρ1 with
      | none => rw [eb] at el; cases el
      | some ob =>
        rw [eb] at el
        refine ⟨F, O1, ρ1, ob, I1, eb, fun σ' H' O' k' s' p' => ?_⟩
        have s14 := (sx.trans s1).trans s'
        have pp : ∀ i, pin = some i → σ'[i]? = σ[i]? := fun j hj => (p' j hj).trans (px j hj)
        cases ob with
        | nx ρ' => exact fun J => ⟨O', ρ', s14, pp, J, el⟩
        | ct ρ' => exact fun J => ⟨O', ρ', s14, pp, J, el⟩
        | bk ρ' =>
          simp only [Option.some.injEq] at el
          subst el
          exact fun J _ => q σ' H' O' k' s14 pp J
        | rt r ρ' =>
          simp only [Option.some.injEq] at el
          subst el
          exact fun J v hr _ => q σ' H' O' k' s14 pp J v hr
    · rename_i ρ1 ec
      have ec' : ev Γ G c ρx = some (.v (.bool false), ρ1) := by
        simp only [whlC] at ec
        split at ec
        · rename_i e0; simp only [Option.some.injEq, Prod.mk.injEq] at ec; obtain ⟨rfl, rfl⟩ := ec; exact e0
        · cases ec
      simp only [Option.some.injEq] at el
      subst el
      exact fun _ => ⟨F, Ox, ρx, false, ρ1, Ix, ec', fun H1 O1 k1 s1 I1 => iteF fun k' => q σx H1 O1 k' (sx.trans s1) px I1⟩
    · cases el
mutual
theorem sS (ok : XOk X N sc sc Γ G) (hkind : X.env.scope.kind = .function) : ∀ (s : S) (py : Stmt), chkS N sc pin s py = true → PS X py (pS X.K pin (ex Γ G s))
  | .asg t e, py, h => by
    simp only [chkS] at h
    split at h
    · cases t with
      | nm i =>
        rename_i tg v pos
        cases tg <;> simp only [chkT, Bool.and_eq_true, decide_eq_true_eq, slotsT, reduceCtorEq, Bool.false_eq_true, false_and] at h
        exact s_asgN ok hkind h.1.1.1.1 h.1.1.1.2 h.1.2 h.1.1.2
      | tp ts =>
        simp only [Bool.and_eq_true] at h
        exact s_asgT ok h.1.1.1 h.1.2 h.2.1 h.2.2 h.1.1.2
    · cases h
  | .own i e, py, h => by
    simp only [chkS] at h
    split at h
    · simp only [Bool.and_eq_true, decide_eq_true_eq] at h
      exact s_own ok hkind h.1.1.2 h.1.2 h.2 h.1.1.1
    · cases h
  | .aug i op e, py, h => by
    simp only [chkS] at h
    split at h
    · simp only [Bool.and_eq_true, decide_eq_true_eq, Bool.or_eq_true] at h
      obtain ⟨⟨⟨⟨⟨h1, h2⟩, h3⟩, h4⟩, h5⟩, h6⟩ := h
      exact s_aug ok h2 h3 h4 h5 h6 h1
    · cases h
  | .seti i k e, py, h => by
    simp only [chkS] at h
    split at h
    · simp only [Bool.and_eq_true] at h
      obtain ⟨⟨⟨⟨h1, h2⟩, h3⟩, h4⟩, h5⟩ := h
      exact s_seti ok h1 h2 h3 h4 h5
    · cases h
  | .setd i k e, py, h => by
    simp only [chkS] at h
    split at h
    · simp only [Bool.and_eq_true] at h
      obtain ⟨⟨⟨⟨h1, h2⟩, h3⟩, h4⟩, h5⟩ := h
      exact s_setd ok h1 h2 h3 h4 h5
    · cases h
  | .ex e, py, h => by
    simp only [chkS] at h
    split at h
    · simp only [Bool.and_eq_true] at h
      exact s_ex ok h.1 h.2
    · cases h
  | .ret e, py, h => by
    simp only [chkS] at h
    split at h
    · exact s_ret ok h
    · cases h
  | .retN, py, h => by
    simp only [chkS] at h
    split at h
    · exact s_retN
    · cases h
  | .ite c a b, py, h => by
    simp only [chkS] at h
    split at h
    · simp only [Bool.and_eq_true] at h
      exact s_ite ok h.1.1 (sSs ok hkind a _ h.1.2) (sSs ok hkind b _ h.2)
    · cases h
  | .for t it b, py, h => by
    simp only [chkS] at h
    split at h
    · simp only [Bool.and_eq_true] at h
      obtain ⟨⟨⟨⟨h1, h2⟩, h3⟩, h4⟩, h5⟩ := h
      exact s_for ok h4 (sI it ok _ _ h3) (sT ok t _ h1) h2 (sSs ok hkind b _ h5)
    · cases h
  | .whl c b, py, h => by
    simp only [chkS] at h
    split at h
    · simp only [Bool.and_eq_true] at h
      exact s_whl ok (sE c ok _ h.1).pt (sSs ok hkind b _ h.2)
    · cases h
  | .fit t i b, py, h => by
    simp only [chkS] at h
    split at h
    · simp only [Bool.and_eq_true, decide_eq_true_eq] at h
      obtain ⟨⟨⟨⟨⟨h1, h2⟩, h3⟩, h4⟩, h5⟩, h6⟩ := h
      subst h3
      exact s_fit ok h5 h4 (sT ok t _ h1) h2 (sSs ok hkind b _ h6)
    · cases h
  | .brk, py, h => by
    simp only [chkS] at h
    split at h
    · exact s_brk
    · cases h
  | .cnt, py, h => by
    simp only [chkS] at h
    split at h
    · exact s_cnt
    · cases h
  | .pass, py, h => by
    simp only [chkS] at h
    split at h
    · exact s_pass
    · cases h
  | .never, py, h => s_never
theorem sSs (ok : XOk X N sc sc Γ G) (hkind : X.env.scope.kind = .function) : ∀ (s : Ss) (py : List Stmt), chkSs N sc pin s py = true → PSs X py (pS X.K pin (exs Γ G s))
  | .nil, py, h => by
    cases py with
    | nil => exact ss_nil
    | cons _ _ => simp [chkSs] at h
  | .cons s r, py, h => by
    cases py with
    | nil => simp [chkSs] at h
    | cons p pr =>
      simp only [chkSs, Bool.and_eq_true] at h
      exact ss_cons (sS ok hkind s p h.1) (sSs ok hkind r pr h.2)
end
end
end DP
/-! The pure layer, part Q: defs, the whole text, the law. -/
namespace DP
open PySem PySem.Spec PyProof.Rows L2
/-- a def of the text: its name, its statement, its names by slot, its parameters, what it is in the small syntax -/
structure DefE where
  name : Str
  st : Stmt
  N : List Str
  ps : List Str
  fn : Fn
  /-- its own name, where it stands under another one -/
  iname : Str
def scChk (N P : List Str) (sc : Scope) : Bool :=
  decide (sc.kind = .function) && !sc.isCoroutine && !sc.isGenerator && decide N.Nodup && decide (N.take P.length = P) && P.all (fun x => decide (sc.names.lookup x = some .local) || decide (sc.names.lookup x = some .cell)) && sc.names.all (fun y => !decide (y.2 = .free))
theorem sc_by {N P : List Str} {sc : Scope} (h : scChk N P sc = true) : FnScope N P sc := by
  unfold scChk at h
  simp only [Bool.and_eq_true, Bool.not_eq_true', decide_eq_true_eq, List.all_eq_true, Bool.or_eq_true, decide_eq_false_iff_not] at h
  obtain ⟨⟨⟨⟨⟨⟨h1, h2⟩, h3⟩, h4⟩, h5⟩, h6⟩, h7⟩ := h
  exact ⟨h1, h2, h3, h4, h5, h6, h7⟩
def DefE.chk (e : DefE) : Bool := scChk e.N e.ps (defScope e.st) && decide (e.fn.nn = e.N.length) && decide (e.ps.length = e.fn.np) && decide (e.fn.np ≤ e.N.length) && (match e.fn.rf with | none => true | some i => decide (i < e.fn.np)) && chkSs e.N (defScope e.st) e.fn.rf e.fn.body (defBody e.st)
theorem shape_at {as : List AV} {np : Nat} {rf : Option Nat} (h : shape as np rf = true) : as.length = np ∧ (∀ (i : Nat) b, as[i]? = some (.r b) → rf = some i) ∧ ∀ (i : Nat) d, as[i]? = some (.v d) → rf ≠ some i := by
  simp only [shape, Bool.and_eq_true, decide_eq_true_eq, List.all_eq_true, List.mem_range] at h
  obtain ⟨h1, h2⟩ := h
  refine ⟨h1, fun i b e => ?_, fun i d e => ?_⟩
  · have hi : i < np := by rw [← h1]; exact lt_of_get e
    have := h2 i hi
    rw [e] at this
    simpa using this
  · have hi : i < np := by rw [← h1]; exact lt_of_get e
    have := h2 i hi
    rw [e] at this
    simpa using this
theorem ARs.atv {K : PySem.W.Frag} {Z : Addr → Prop} {H : Hp} {ra : Option Addr} : ∀ {vs : List V} {as : List AV} {i : Nat} {d : D}, ARs K Z H ra vs as → as[i]? = some (.v d) → ∃ v, vs[i]? = some v ∧ Rp K Z H v d
  | _, _, _, _, .nil, e => by simp at e
  | _, _, 0, _, .v h _, e => by simp at e; subst e; exact ⟨_, rfl, h⟩
  | _, _, 0, _, .r _ _ _, e => by simp at e
  | _, _, i + 1, d, .v _ t, e => by
    obtain ⟨v, h1, h2⟩ := ARs.atv (i := i) (d := d) t (by simpa using e)
    exact ⟨v, by simpa using h1, h2⟩
  | _, _, i + 1, d, .r _ _ t, e => by
    obtain ⟨v, h1, h2⟩ := ARs.atv (i := i) (d := d) t (by simpa using e)
    exact ⟨v, by simpa using h1, h2⟩
theorem ARs.atr {K : PySem.W.Frag} {Z : Addr → Prop} {H : Hp} {ra : Option Addr} : ∀ {vs : List V} {as : List AV} {i : Nat} {b : OB}, ARs K Z H ra vs as → as[i]? = some (.r b) → ∃ a, vs[i]? = some (.ref a) ∧ ra = some a ∧ Ob K Z H a b
  | _, _, _, _, .nil, e => by simp at e
  | _, _, 0, _, .v _ _, e => by simp at e
  | _, _, 0, _, .r h o _, e => by simp at e; subst e; exact ⟨_, rfl, h, o⟩
  | _, _, i + 1, d, .v _ t, e => by
    obtain ⟨v, h1, h2⟩ := ARs.atr (i := i) (b := d) t (by simpa using e)
    exact ⟨v, by simpa using h1, h2⟩
  | _, _, i + 1, d, .r _ _ t, e => by
    obtain ⟨v, h1, h2⟩ := ARs.atr (i := i) (b := d) t (by simpa using e)
    exact ⟨v, by simpa using h1, h2⟩
theorem start_at {N : List Str} {vs : List V} {i : Nat} {v : V} (h : vs[i]? = some v) : (L2.start N vs)[i]? = some (some v) := by
  unfold L2.start
  rw [List.getElem?_append_left (by simpa using lt_of_get h), List.getElem?_map, h]
  rfl
theorem start_len {N : List Str} {vs : List V} (h : vs.length ≤ N.length) : (L2.start N vs).length = N.length := by
  unfold L2.start
  rw [List.length_append, List.length_map, List.length_replicate]
  omega
theorem rho_at {as : List AV} {k i : Nat} {s : Slot} (h : (as.map slotOf ++ List.replicate k Slot.un)[i]? = some s) : (∃ a, as[i]? = some a ∧ s = slotOf a) ∨ s = .un := by
  by_cases hi : i < as.length
  · rw [List.getElem?_append_left (by simpa using hi), List.getElem?_map] at h
    cases e : as[i]? with
    | none => rw [e] at h; cases h
    | some a => rw [e] at h; exact .inl ⟨a, rfl, (Option.some.inj h).symm⟩
  · rw [List.getElem?_append_right (by simpa using hi), List.getElem?_replicate] at h
    split at h
    · exact .inr (Option.some.inj h).symm
    · cases h
section
variable {P : Program} {w : World} {K : PySem.W.Frag} {mg : Str → Option Value} {base : Heap}
/-- the entry of a def -/
theorem EI.entry {F : Addr → Prop} {H : Hp} {ra : Option Addr} {vs : List V} {as : List AV} {N : List Str} {np : Nat} {rf : Option Nat} {nn : Nat} (m : Muts (Or2 F fun a => ra = some a) H) (dis : ∀ a, F a → ra ≠ some a) (h : ARs K (Or2 F fun a => ra = some a) H ra vs as)
    (hs : shape as np rf = true) (hn : nn = N.length) (hp : np ≤ N.length) : EI K F (fun a => ra = some a) (L2.start N vs) H (as.map slotOf ++ List.replicate (nn - np) .un) := by
  obtain ⟨s1, s2, s3⟩ := shape_at hs
  refine ⟨m, dis, ?_, fun i d e => ?_, fun i b e => ?_, fun i j b c a e1 e2 _ _ => ?_⟩
  · rw [start_len (by rw [h.length, s1]; exact hp), List.length_append, List.length_map, List.length_replicate, s1]
    omega
  · rcases rho_at e with ⟨x, e1, e2⟩ | e2
    · cases x with
      | v d' =>
        cases e2
        obtain ⟨v, h1, h2⟩ := h.atv e1
        exact ⟨v, start_at h1, h2⟩
      | r b => cases e2
    · cases e2
  · rcases rho_at e with ⟨x, e1, e2⟩ | e2
    · cases x with
      | v d' => cases e2
      | r b =>
        cases e2
        obtain ⟨a, h1, h2, h3⟩ := h.atr e1
        exact ⟨a, start_at h1, h2, h3⟩
    · cases e2
  · have key : ∀ {i : Nat} {b : OB}, (as.map slotOf ++ List.replicate (nn - np) Slot.un)[i]? = some (.o b) → rf = some i := fun {i b} e => by
      rcases rho_at e with ⟨x, e1, e2⟩ | e2
      · cases x with
        | v d' => cases e2
        | r b => exact s2 i b e1
      · cases e2
    have := (key e1).symm.trans (key e2)
    exact Option.some.inj this
theorem def_ok {e : DefE} {f : Addr} {fd : FuncData} {k : Nat} {Γ : Sems} {G : Str → Option D} (F : Fun K e.iname e.iname e.st f fd) (hc : e.chk = true) (blt : ∀ x ∈ bltNames, mg x = none)
    (glo : ∀ x d, G x = some d → ∃ u v, mg x = some u ∧ RelV v u ∧ ∀ Z H, Rp K Z H v d)
    (fnu : ∀ (f : Str) (fa : Addr), PySem.W.nsIn K mainGlobals f = some (some (.ref fa)) → mg f = some (.ref fa))
    (fns : ∀ g, (∃ as r, Γ g as = some r) → ∃ fa fd ps n, FnOk P w K mg base CX0 k fa fd ps (spF K n (Γ g)) ∧ mg g = some (.ref fa) ∧ PySem.W.keepIn K (.ref fa) = true ∧ Binds K fd ps [] ∧ ∀ as r, Γ g as = some r → as.length = n) :
    FnOk P w K mg base CX0 (k + 1) f fd e.ps (spF K e.fn.np (run Γ G e.fn)) := by
  simp only [DefE.chk, Bool.and_eq_true, decide_eq_true_eq] at hc
  obtain ⟨⟨⟨⟨⟨c1, c2⟩, c3⟩, c4⟩, c5⟩, c6⟩ := hc
  have S := sc_by c1
  refine F.ok S (fun vs H Q E h => by rw [c3]; exact h.1) fun cdv A outer s H vs Q E hr h => ?_
  have ok : XOk (cxOf CX0 P w K mg base e.N e.iname (defScope e.st) f cdv A outer s H E).nox e.N (defScope e.st) (defScope e.st) Γ G := {
    hN := rfl
    nd := S.nd
    hsc := rfl
    calm := rfl
    xe := rfl
    room := by have := hr.un; show (A.deeper _).units + 200 < cLine; omega
    stor := fun x hx => ⟨stor_loc hx, .inl rfl⟩
    blt := blt
    glo := glo
    fnu := fnu
    fns := fun g hg => by
      obtain ⟨fa, fd, ps, n, h1, h2, h3, h4, h5⟩ := fns g hg
      exact ⟨fa, fd, ps, k, n, h1, hr, h2, h3, h4, h5⟩ }
  refine ⟨_, sSs (pin := e.fn.rf) ok S.kind e.fn.body _ c6, fun kf => ?_⟩
  obtain ⟨hl, h⟩ := h
  obtain ⟨Fz, ra, as, r, ub, m, dis, ar, hra, er, q⟩ := h kf
  unfold run at er
  split at er
  · rename_i hsh
    obtain ⟨s1, s2, s3⟩ := shape_at hsh
    have IE := EI.entry m dis ar hsh c2 c4
    -- where the lent object stands
    have lent : ∀ i, e.fn.rf = some i → ∃ a b, (L2.start e.N vs)[i]? = some (some (V.ref a)) ∧ ra = some a ∧ as[i]? = some (.r b) := fun i hi => by
      have hi' : i < as.length := by
        rw [s1]
        rw [hi] at c5
        simpa using c5
      cases ha : as[i]? with
      | none => rw [List.getElem?_eq_none_iff] at ha; omega
      | some x =>
        cases x with
        | v d => exact (s3 i d ha hi).elim
        | r b =>
          obtain ⟨a, h1, h2, _⟩ := ar.atr ha
          exact ⟨a, b, start_at h1, h2, rfl⟩
    have fin : ∀ (o : Out) (r' : R) (ρ' : PEnv), exs Γ G e.fn.body (as.map slotOf ++ List.replicate (e.fn.nn - e.fn.np) .un) = some o → outOf e.fn.rf r' ρ' = some (r, ub) →
        ∀ σ' H' O', KOff K H' → Step (fun a => ra = some a) O' H H' → (∀ i, e.fn.rf = some i → σ'[i]? = (L2.start e.N vs)[i]?) → EI K Fz O' σ' H' ρ' → ∀ v, RR K Fz O' σ' H' ρ' v r' → (∀ i, r' ≠ .pk i) → Q v H' := fun o r' ρ' eo eout σ' H' O' k' s' p' J v hv npk => by
      refine q v H' O' k' s' J.mf J.dis (fun b hb => ?_) ?_
      · unfold outOf at eout
        split at eout
        · simp only [Option.some.injEq, Prod.mk.injEq] at eout
          rw [← eout.2] at hb
          cases hb
        · rename_i i hi
          split at eout
          · rename_i b' hb'
            simp only [Option.some.injEq, Prod.mk.injEq] at eout
            rw [← eout.2] at hb
            cases hb
            obtain ⟨a, e1, z, ob⟩ := J.own i _ hb'
            obtain ⟨a', _, e2, e3, _⟩ := lent i hi
            rw [p' i hi, e2] at e1
            cases e1
            exact ⟨a, e3, z, ob⟩
          · cases eout
      · have hr' : r' = r ∧ (∀ i, e.fn.rf = some i → ∃ b, ρ'[i]? = some (.o b)) := by
          unfold outOf at eout
          split at eout
          · rename_i hn
            simp only [Option.some.injEq, Prod.mk.injEq] at eout
            exact ⟨eout.1, fun i hi => by rw [hn] at hi; cases hi⟩
          · rename_i i hi
            split at eout
            · rename_i b' hb'
              simp only [Option.some.injEq, Prod.mk.injEq] at eout
              exact ⟨eout.1, fun j hj => by rw [hi] at hj; cases hj; exact ⟨b', hb'⟩⟩
            · cases eout
        obtain ⟨rfl, hown⟩ := hr'
        cases r' with
        | v d => exact hv
        | pk i => exact (npk i rfl).elim
        | fr b =>
          obtain ⟨p, rfl, z, ob, ne⟩ := hv
          refine ⟨p, rfl, z, ob, fun er => ?_⟩
          obtain ⟨i, b0, hi⟩ := hra p er
          have hrf := s2 i b0 hi
          obtain ⟨b1, hb1⟩ := hown i hrf
          obtain ⟨a', _, e2, e3, _⟩ := lent i hrf
          rw [er] at e3
          cases e3
          exact ne i b1 hb1 (by rw [p' i hrf, e2])
    split at er
    · rename_i ρ' eo
      exact ⟨Fz, _, _, _, IE, eo, fun σ' H' O' k' s' p' J => fin _ (.v .none) ρ' eo er σ' H' O' k' s' p' J .non .non fun _ z => nomatch z⟩
    · cases er
    · rename_i r' ρ' npk eo
      refine ⟨Fz, _, _, _, IE, eo, fun σ' H' O' k' s' p' J v hv => fin _ r' ρ' eo er σ' H' O' k' s' p' J v hv fun i z => ?_⟩
      exact npk i z
    · cases er
  · cases er
/-- what the head tells of a def -/
structure DefAt (K : PySem.W.Frag) (mg : Str → Option Value) (e : DefE) (f : Addr) (fd : FuncData) : Prop where
  fn : Fun K e.iname e.iname e.st f fd
  mgf : mg e.name = some (.ref f)
  binds : Binds K fd e.ps []
theorem sem_len {Pr : Str → Option Fn} {G : Str → Option D} {n : Nat} {g : Str} {d : Fn} (h : Pr g = some d) : ∀ as r, sem Pr G n g as = some r → as.length = d.np := fun as r e => by
  cases n with
  | zero => cases e
  | succ n =>
    simp only [sem, h] at e
    unfold run at e
    split at e
    · rename_i hs
      exact (shape_at hs).1
    · cases e
/-- every def of the text keeps what the evaluator says, to any depth -/
theorem text_ok {L : List DefE} {Pr : Str → Option Fn} {G : Str → Option D} (hP : ∀ g d, Pr g = some d → ∃ e ∈ L, e.name = g ∧ e.fn = d) (hL : ∀ e ∈ L, Pr e.name = some e.fn) (hc : ∀ e ∈ L, e.chk = true) (ha : ∀ e ∈ L, ∃ f fd, DefAt K mg e f fd) (blt : ∀ x ∈ bltNames, mg x = none)
    (glo : ∀ x d, G x = some d → ∃ u v, mg x = some u ∧ RelV v u ∧ ∀ Z H, Rp K Z H v d)
    (fnu : ∀ (f : Str) (fa : Addr), PySem.W.nsIn K mainGlobals f = some (some (.ref fa)) → mg f = some (.ref fa)) : ∀ (n : Nat) (e : DefE), e ∈ L → ∀ f fd, DefAt K mg e f fd → FnOk P w K mg base CX0 (n + 1) f fd e.ps (spF K e.fn.np (sem Pr G (n + 1) e.name))
  | n, e, he, f, fd, A => by
    have hs : sem Pr G (n + 1) e.name = run (sem Pr G n) G e.fn := by
      funext as
      simp only [sem, hL e he]
    rw [hs]
    refine def_ok A.fn (hc e he) blt glo fnu fun g hg => ?_
    cases n with
    | zero =>
      obtain ⟨as, r, hg⟩ := hg
      cases hg
    | succ n =>
      have hd : ∃ d, Pr g = some d := by
        obtain ⟨as, r, hg⟩ := hg
        cases hq : Pr g with
        | none => simp only [sem, hq] at hg; cases hg
        | some d => exact ⟨d, rfl⟩
      obtain ⟨d, hd⟩ := hd
      obtain ⟨e', he', rfl, rfl⟩ := hP g d hd
      obtain ⟨f', fd', A'⟩ := ha e' he'
      exact ⟨f', fd', e'.ps, e'.fn.np, text_ok hP hL hc ha blt glo fnu n e' he' f' fd' A', A'.mgf, A'.fn.kp, A'.binds, sem_len hd⟩
/-- the law's own promise, at a script -/
theorem law_sp {K : PySem.W.Frag} {H : Hp} {a : Addr} {ns : List Int} {f : List AV → Option (R × Option OB)} {E : XK} (hS : SqL K H a (ns.map V.int)) (h : f [.v (.list (ns.map .int))] = some (.v (.bool true), none)) : spF K 1 f [.ref a] H (fun v _ => v = .bl true) E := by
  refine ⟨rfl, fun kf => ⟨fun _ => False, none, _, _, _, fun a z => ?_, fun a z => z.elim, .v (.lst (fun z => ?_) hS (.ofInts ns)) .nil, fun a z => (nomatch z), h, fun v H' O' k' s m d u rf => ?_⟩⟩
  · rcases z with z | z
    · exact z.elim
    · cases z
  · rcases z with z | z
    · exact z.elim
    · cases z
  · have : Rp K (Or2 (fun _ => False) O') H' v (.bool true) := rf
    cases this
    rfl
end
end DP
namespace DP
open PySem PySem.Spec PyProof.Rows L2
def ofL : List DefE → Str → Option Fn
  | [], _ => none
  | e :: r, g => if g = e.name then some e.fn else ofL r g
theorem ofL_mem : ∀ (l : List DefE) (g : Str) (d : Fn), ofL l g = some d → ∃ e ∈ l, e.name = g ∧ e.fn = d
  | [], _, _, h => by cases h
  | e :: r, g, d, h => by
    unfold ofL at h
    split at h
    · rename_i hg
      cases h
      exact ⟨e, List.mem_cons_self, hg.symm, rfl⟩
    · obtain ⟨e', h1, h2⟩ := ofL_mem r g d h
      exact ⟨e', List.mem_cons_of_mem _ h1, h2⟩
end DP
namespace DP
open PySem PySem.Spec PyProof.Rows L2
theorem walk_bits {l : PySem.W.OpenLaw} {n k : Nat} {q : Program} {loose : List Str} {XP : (Str → Option Value) → Heap → Prop} {YP : World → Heap → Prop} {d : DefRec} {K : Params → PySem.W.Frag} {CX : CXT} {sp : PySem.W.Frag → Sp} {x : Str}
    (hn : l.most = some n) (hn2 : n ≤ sizeLine) (hdf : d.params.defaults = []) (hr : Room k callerA) (hY : ∀ (w : World) (h : Heap), YP w h → (K w.params).In h)
    (F : ∀ (w : World) (mg : Str → Option Value) (fa : Addr) (h : Heap), (K w.params).In h → h.Ns mainGlobals mg → mg d.name = some (.ref fa) →
      ∃ fd : FuncData, (∀ (s : Shared) (u : Value), BindsTo s fd ⟨[u], []⟩ [(x, u)]) ∧ ∀ base : Heap, (K w.params).In base → base.Ns mainGlobals mg → FnOk l.prog w (K w.params) mg base CX k fa fd [x] (sp (K w.params)))
    (hsp : ∀ (K : PySem.W.Frag) (H : Hp) (a : Addr) (ns : List Int), ns.length ≤ n → (∀ z ∈ ns, Builtin.Int.intBits z ≤ 1048576) → SqL K H a (ns.map V.int) → sp K [.ref a] H (fun v _ => v = .bl true) fun _ _ _ => False)
    (hCX : ∀ (H : Hp) (s : Shared) (e : Value) (s' : Shared), CX [] H s (fun _ _ _ => False) e s' → False) : PySem.W.WalkO q loose XP YP l.row.toRowW d [] (fun f vs => PySem.call f vs) :=
  walk_ofB (K := K) (CX := fun _ => CX) (sp := fun w => sp (K w.params)) hn hn2 hdf hr hY F (fun w H a ns h1 h2 _ h4 => hsp (K w.params) H a ns h1 h2 h4) fun _ H s e s' => hCX H s e s'
/-- a number of so many bits is below that power of two -/
theorem bits_lt {z : Int} {n : Nat} (h : Builtin.Int.intBits z ≤ n) : z.natAbs < 2 ^ n := by
  by_cases h0 : z = 0
  · subst h0
    exact Nat.two_pow_pos n
  · have e : Builtin.Int.intBits z = z.natAbs.log2 + 1 := by
      unfold Builtin.Int.intBits
      split
      · rename_i h1
        simp at h1
        omega
      · rfl
    rw [e] at h
    exact Nat.lt_of_lt_of_le (Nat.lt_log2_self) (Nat.pow_le_pow_right (by omega) h)
end DP
/-! The pure layer, part R: what must hold ahead, for the evaluator. -/
namespace DP
open PySem
/-- a mark that keeps the rewriter out of what it marks -/
structure Tg {α : Sort _} (a : α) : Type where
  mk ::
def Ov {α : Type} (o : Option α) (K : α → Prop) (_u : Tg K := ⟨⟩) : Prop := ∃ a, o = some a ∧ K a
def Cnd (t : Bool) (A B : Unit → Prop) (_u : Tg A := ⟨⟩) (_w : Tg B := ⟨⟩) : Prop := (t = true → A ()) ∧ (t = false → B ())
def We (Γ : Sems) (G : Str → Option D) (e : E) (ρ : PEnv) (Q : R → PEnv → Prop) (_u : Tg Q := ⟨⟩) (_w : Tg e := ⟨⟩) : Prop := Ov (ev Γ G e ρ) fun p => Q p.1 p.2
def Wes (Γ : Sems) (G : Str → Option D) (e : Es) (ρ : PEnv) (Q : List D → PEnv → Prop) (_u : Tg Q := ⟨⟩) (_w : Tg e := ⟨⟩) : Prop := Ov (evs Γ G e ρ) fun p => Q p.1 p.2
def Wec (Γ : Sems) (G : Str → Option D) (e : Es) (ρ : PEnv) (Q : List R → PEnv → Prop) (_u : Tg Q := ⟨⟩) (_w : Tg e := ⟨⟩) : Prop := Ov (evc Γ G e ρ) fun p => Q p.1 p.2
def Wea (Γ : Sems) (G : Str → Option D) (e : As) (ρ : PEnv) (Q : List AH → PEnv → Prop) (_u : Tg Q := ⟨⟩) (_w : Tg e := ⟨⟩) : Prop := Ov (eva Γ G e ρ) fun p => Q p.1 p.2
def Wep (Γ : Sems) (G : Str → Option D) (e : Part) (ρ : PEnv) (Q : Option R → PEnv → Prop) (_u : Tg Q := ⟨⟩) (_w : Tg e := ⟨⟩) : Prop := Ov (evp Γ G e ρ) fun p => Q p.1 p.2
def Wei (Γ : Sems) (G : Str → Option D) (e : It) (ρ : PEnv) (Q : List D → PEnv → Prop) (_u : Tg Q := ⟨⟩) (_w : Tg e := ⟨⟩) : Prop := Ov (evi Γ G e ρ) fun p => Q p.1 p.2
def Wx (Γ : Sems) (G : Str → Option D) (s : S) (ρ : PEnv) (Q : Out → Prop) (_u : Tg Q := ⟨⟩) (_w : Tg s := ⟨⟩) : Prop := Ov (ex Γ G s ρ) Q
def Wxs (Γ : Sems) (G : Str → Option D) (s : Ss) (ρ : PEnv) (Q : Out → Prop) (_u : Tg Q := ⟨⟩) (_w : Tg s := ⟨⟩) : Prop := Ov (exs Γ G s ρ) Q
def Wc (Γ : Sems) (f : Str) (vs : List AV) (Q : R → Option OB → Prop) (_u : Tg Q := ⟨⟩) : Prop := Ov (Γ f vs) fun p => Q p.1 p.2
def Aft (o : Option OB) (l : List Nat) (ρ : PEnv) (K : PEnv → Prop) (_u : Tg K := ⟨⟩) : Prop := match o, l with
  | none, [] => K ρ
  | some b, [i] => K (ρ.set i (.o b))
  | _, _ => False
def Ofr (r : R) (K : OB → Prop) (_u : Tg K := ⟨⟩) : Prop := match r with
  | .fr b => K b
  | _ => False
def Obo (r : R) (K : Bool → Prop) (_u : Tg K := ⟨⟩) : Prop := match r with
  | .v (.bool b) => K b
  | _ => False
def Oi (r : R) (K : Int → Prop) (_u : Tg K := ⟨⟩) : Prop := match r with
  | .v (.int b) => K b
  | _ => False
def Od (r : R) (K : D → Prop) (_u : Tg K := ⟨⟩) : Prop := match r with
  | .v b => K b
  | _ => False
def Ol (s : Slot) (K : List D → Prop) (_u : Tg K := ⟨⟩) : Prop := match s with
  | .o (.l xs) => K xs
  | _ => False
def Osd (s : Slot) (K : D → Prop) (_u : Tg K := ⟨⟩) : Prop := match s with
  | .v d => K d
  | _ => False
def Ore (r : R) (K : Unit → Prop) (_u : Tg K := ⟨⟩) : Prop := match r with
  | .pk _ => False
  | _ => K ()
def augD : BO → D → D → Option D
  | .add, .int a, .int b => some (.int (a + b))
  | .sub, .int a, .int b => some (.int (a - b))
  | _, _, _ => none
def Sq (o : Out) (K : PEnv → Prop) (Q : Out → Prop) (_u : Tg K := ⟨⟩) (_w : Tg Q := ⟨⟩) : Prop := match o with
  | .nx ρ => K ρ
  | o => Q o
def Lt (r : Option R) (A B : Unit → Prop) (_u : Tg A := ⟨⟩) (_w : Tg B := ⟨⟩) : Prop := match r with
  | none => A ()
  | some (.v (.bool true)) => A ()
  | some (.v (.bool false)) => B ()
  | _ => False
def Fin1 (rf : Option Nat) (r : R) (ρ : PEnv) (Q : R → Option OB → Prop) (_u : Tg Q := ⟨⟩) : Prop := Ov (outOf rf r ρ) fun p => Q p.1 p.2
def Fn1 (rf : Option Nat) (Q : R → Option OB → Prop) (o : Out) (_u : Tg Q := ⟨⟩) : Prop := match o with
  | .nx ρ => Fin1 rf (.v .none) ρ Q
  | .rt (.pk _) _ => False
  | .rt r ρ => Fin1 rf r ρ Q
  | _ => False
def fLoop (Γ : Sems) (G : Str → Option D) (t : T) (b : Ss) (d : D) (ρ : PEnv) : Option Out := match asT t d ρ with
  | some ρ' => exs Γ G b ρ'
  | none => none
def lcf (Γ : Sems) (G : Str → Option D) (t : T) (c : Part) (e : E) (d : D) (ρ : PEnv) : Option (List D × PEnv) := match asT t d ρ with
  | some ρ' => match evp Γ G c ρ' with
    | some (none, ρ'') => match ev Γ G e ρ'' with
      | some (r, ρ3) => match toV r with
        | some y => some ([y], ρ3)
        | none => none
      | none => none
    | some (some (.v (.bool true)), ρ'') => match ev Γ G e ρ'' with
      | some (r, ρ3) => match toV r with
        | some y => some ([y], ρ3)
        | none => none
      | none => none
    | some (some (.v (.bool false)), ρ'') => some ([], ρ'')
    | _ => none
  | none => none
def For (Γ : Sems) (G : Str → Option D) (t : T) (b : Ss) (ds : List D) (ρ : PEnv) (Q : Out → Prop) (_u : Tg Q := ⟨⟩) (_w : Tg b := ⟨⟩) : Prop := Ov (forL (fLoop Γ G t b) ds ρ) Q
def Lc (Γ : Sems) (G : Str → Option D) (t : T) (c : Part) (e : E) (own : List Nat) (ds : List D) (ρ : PEnv) (Q : R → PEnv → Prop) (_u : Tg Q := ⟨⟩) (_w : Tg e := ⟨⟩) : Prop :=
  ds.length ≤ sizeL ∧ free ρ own = true ∧ Ov (lcL own (lcf Γ G t c e) ds ρ) fun p => Q (.fr (.l p.1)) (back ρ p.2 own)

section
variable {α β : Type} {o : Option α} {a : α} {K : α → Prop} {A B : Unit → Prop} {t : Bool}
theorem Ov_some : Ov (some a) K ↔ K a := ⟨fun ⟨_, e, k⟩ => by cases e; exact k, fun k => ⟨_, rfl, k⟩⟩
theorem Ov_none : Ov (none : Option α) K ↔ False := ⟨fun ⟨_, e, _⟩ => (by cases e), False.elim⟩
theorem Ov_if {c : Prop} [Decidable c] : Ov (if c then some a else none) K ↔ c ∧ K a := by
  split
  · rename_i h; simp [Ov_some, h]
  · rename_i h; simp [Ov_none, h]
theorem Ov_map {K : β → Prop} {f : α → β} : Ov (o.map f) K ↔ Ov o fun a => K (f a) := by cases o <;> simp [Ov_some, Ov_none]
theorem Ov_mono {K' : α → Prop} (h : Ov o K) (f : ∀ a, K a → K' a) : Ov o K' := let ⟨a, e, k⟩ := h; ⟨a, e, f a k⟩
theorem Cnd_t : Cnd true A B ↔ A () := ⟨fun h => h.1 rfl, fun h => ⟨fun _ => h, fun z => nomatch z⟩⟩
theorem Cnd_f : Cnd false A B ↔ B () := ⟨fun h => h.2 rfl, fun h => ⟨(fun z => nomatch z), fun _ => h⟩⟩
theorem Cnd_i (h : t = true → A ()) (h' : t = false → B ()) : Cnd t A B := ⟨h, h'⟩
theorem Aft_n {ρ : PEnv} {K : PEnv → Prop} : Aft none [] ρ K ↔ K ρ := .rfl
theorem Aft_s {ρ : PEnv} {K : PEnv → Prop} {b : OB} {i : Nat} : Aft (some b) [i] ρ K ↔ K (ρ.set i (.o b)) := .rfl
theorem Obo_b {b : Bool} {K : Bool → Prop} : Obo (.v (.bool b)) K ↔ K b := .rfl
theorem Oi_b {b : Int} {K : Int → Prop} : Oi (.v (.int b)) K ↔ K b := .rfl
theorem Ofr_b {b : OB} {K : OB → Prop} : Ofr (.fr b) K ↔ K b := .rfl
theorem Od_b {b : D} {K : D → Prop} : Od (.v b) K ↔ K b := .rfl
theorem Ol_b {b : List D} {K : List D → Prop} : Ol (.o (.l b)) K ↔ K b := .rfl
theorem Osd_b {b : D} {K : D → Prop} : Osd (.v b) K ↔ K b := .rfl
theorem Ore_v {b : D} {K : Unit → Prop} : Ore (.v b) K ↔ K () := .rfl
theorem Ore_f {b : OB} {K : Unit → Prop} : Ore (.fr b) K ↔ K () := .rfl
theorem Sq_nx {ρ : PEnv} {K : PEnv → Prop} {Q : Out → Prop} : Sq (.nx ρ) K Q ↔ K ρ := .rfl
theorem Sq_rt {r : R} {ρ : PEnv} {K : PEnv → Prop} {Q : Out → Prop} : Sq (.rt r ρ) K Q ↔ Q (.rt r ρ) := .rfl
theorem Sq_bk {ρ : PEnv} {K : PEnv → Prop} {Q : Out → Prop} : Sq (.bk ρ) K Q ↔ Q (.bk ρ) := .rfl
theorem Sq_ct {ρ : PEnv} {K : PEnv → Prop} {Q : Out → Prop} : Sq (.ct ρ) K Q ↔ Q (.ct ρ) := .rfl
theorem Lt_n : Lt none A B ↔ A () := .rfl
theorem Lt_b {b : Bool} : Lt (some (.v (.bool b))) A B ↔ Cnd b A B := by
  cases b
  · exact Cnd_f.symm
  · exact Cnd_t.symm
theorem Fn1_nx {rf : Option Nat} {Q : R → Option OB → Prop} {ρ : PEnv} : Fn1 rf Q (.nx ρ) ↔ Fin1 rf (.v .none) ρ Q := .rfl
theorem Fn1_rv {rf : Option Nat} {Q : R → Option OB → Prop} {ρ : PEnv} {d : D} : Fn1 rf Q (.rt (.v d) ρ) ↔ Fin1 rf (.v d) ρ Q := .rfl
theorem Fn1_rf {rf : Option Nat} {Q : R → Option OB → Prop} {ρ : PEnv} {d : OB} : Fn1 rf Q (.rt (.fr d) ρ) ↔ Fin1 rf (.fr d) ρ Q := .rfl
theorem Fin1_n {Q : R → Option OB → Prop} {ρ : PEnv} {r : R} : Fin1 none r ρ Q ↔ Q r none := Ov_some
def Osb (s : Slot) (K : OB → Prop) (_u : Tg K := ⟨⟩) : Prop := match s with
  | .o b => K b
  | _ => False
theorem Osb_b {b : OB} {K : OB → Prop} : Osb (.o b) K ↔ K b := .rfl
theorem Fin1_s {Q : R → Option OB → Prop} {ρ : PEnv} {r : R} {i : Nat} : Fin1 (some i) r ρ Q ↔ Ov ρ[i]? fun s => Osb s fun b => Q r (some b) := by
  cases h : ρ[i]? with
  | none => simp [Fin1, outOf, Ov, h]
  | some s => cases s <;> simp [Fin1, outOf, Ov, Osb, h]
end
section
variable {Γ : Sems} {G : Str → Option D} {ρ : PEnv} {Q : R → PEnv → Prop} {a b c e : E} {i : Nat}
theorem We_var : We Γ G (.var i) ρ Q ↔ Ov ρ[i]? fun s => match s with
    | .v d => Q (.v d) ρ
    | .o (.l xs) => Q (.v (.list xs)) (ρ.set i (.v (.list xs)))
    | .o (.d xs) => Q (.v (.dict xs)) (ρ.set i (.v (.dict xs)))
    | .un => False := by
  cases h : ρ[i]? with
  | none => simp [Ov_some, Ov_none, We, ev, h]
  | some s => cases s with
    | un => simp [Ov_some, Ov_none, We, ev, h]
    | v d => simp [Ov_some, Ov_none, We, ev, h]
    | o b => cases b <;> simp [Ov_some, Ov_none, We, ev, h, obD]
theorem We_mov : We Γ G (.mov i) ρ Q ↔ Ov ρ[i]? fun s => match s with
    | .v d => Q (.v d) ρ
    | .o b => Q (.fr b) (ρ.set i .un)
    | .un => False := by
  cases h : ρ[i]? with
  | none => simp [Ov_some, Ov_none, We, ev, h]
  | some s => cases s with
    | un => simp [Ov_some, Ov_none, We, ev, h]
    | v d => simp [Ov_some, Ov_none, We, ev, h]
    | o b => simp [Ov_some, Ov_none, We, ev, h]
theorem We_pk : We Γ G (.pk i) ρ Q ↔ Ov ρ[i]? fun s => match s with
    | .v d => Q (.v d) ρ
    | .o b => Q (.pk i) ρ
    | .un => False := by
  cases h : ρ[i]? with
  | none => simp [Ov_some, Ov_none, We, ev, h]
  | some s => cases s with
    | un => simp [Ov_some, Ov_none, We, ev, h]
    | v d => simp [Ov_some, Ov_none, We, ev, h]
    | o b => simp [Ov_some, Ov_none, We, ev, h]
theorem We_int {n : Int} : We Γ G (.int n) ρ Q ↔ Q (.v (.int n)) ρ := by simp [Ov_some, Ov_none, We, ev]
theorem We_str {n : Str} : We Γ G (.str n) ρ Q ↔ Q (.v (.str n)) ρ := by simp [Ov_some, Ov_none, We, ev]
theorem We_bl {n : Bool} : We Γ G (.bl n) ρ Q ↔ Q (.v (.bool n)) ρ := by simp [Ov_some, Ov_none, We, ev]
theorem We_non : We Γ G .non ρ Q ↔ Q (.v .none) ρ := by simp [Ov_some, Ov_none, We, ev]
theorem We_glob {x : Str} : We Γ G (.glob x) ρ Q ↔ Ov (G x) fun d => Q (.v d) ρ := by
  cases h : G x <;> simp [Ov_some, Ov_none, We, ev, h]
theorem We_bin {op : BO} : We Γ G (.bin op a b) ρ Q ↔ We Γ G a ρ fun ra ρ1 => We Γ G b ρ1 fun rb ρ2 => Ov (toC ρ2 ra) fun x => Ov (toC ρ2 rb) fun y => Ov (bo op x y) fun r => Q r ρ2 := by
  cases h : ev Γ G a ρ with
  | none => simp [Ov_some, Ov_none, We, ev, h]
  | some p =>
    obtain ⟨ra, ρ1⟩ := p
    cases h2 : ev Γ G b ρ1 with
    | none => simp [Ov_some, Ov_none, We, ev, h, h2]
    | some p =>
      obtain ⟨rb, ρ2⟩ := p
      cases h3 : toC ρ2 ra with
      | none => simp [Ov_some, Ov_none, We, ev, h, h2, h3]
      | some x => cases h4 : toC ρ2 rb with
        | none => simp [Ov_some, Ov_none, We, ev, h, h2, h3, h4]
        | some y => cases h5 : bo op x y <;> simp [Ov_some, Ov_none, We, ev, h, h2, h3, h4, h5]
theorem We_cmp {op : CO} : We Γ G (.cmp op a b) ρ Q ↔ We Γ G a ρ fun ra ρ1 => We Γ G b ρ1 fun rb ρ2 => Ov (toC ρ2 ra) fun x => Ov (toC ρ2 rb) fun y => Ov (co op x y) fun r => Q (.v (.bool r)) ρ2 := by
  cases h : ev Γ G a ρ with
  | none => simp [Ov_some, Ov_none, We, ev, h]
  | some p =>
    obtain ⟨ra, ρ1⟩ := p
    cases h2 : ev Γ G b ρ1 with
    | none => simp [Ov_some, Ov_none, We, ev, h, h2]
    | some p =>
      obtain ⟨rb, ρ2⟩ := p
      cases h3 : toC ρ2 ra with
      | none => simp [Ov_some, Ov_none, We, ev, h, h2, h3]
      | some x => cases h4 : toC ρ2 rb with
        | none => simp [Ov_some, Ov_none, We, ev, h, h2, h3, h4]
        | some y => cases h5 : co op x y <;> simp [Ov_some, Ov_none, We, ev, h, h2, h3, h4, h5]
theorem We_idx : We Γ G (.idx a b) ρ Q ↔ We Γ G a ρ fun ra ρ1 => We Γ G b ρ1 fun rb ρ2 => Ov (toC ρ2 ra) fun x => Ov (toC ρ2 rb) fun y => Ov (ix x y) fun r => Q (.v r) ρ2 := by
  cases h : ev Γ G a ρ with
  | none => simp [Ov_some, Ov_none, We, ev, h]
  | some p =>
    obtain ⟨ra, ρ1⟩ := p
    cases h2 : ev Γ G b ρ1 with
    | none => simp [Ov_some, Ov_none, We, ev, h, h2]
    | some p =>
      obtain ⟨rb, ρ2⟩ := p
      cases h3 : toC ρ2 ra with
      | none => simp [Ov_some, Ov_none, We, ev, h, h2, h3]
      | some x => cases h4 : toC ρ2 rb with
        | none => simp [Ov_some, Ov_none, We, ev, h, h2, h3, h4]
        | some y => cases h5 : ix x y <;> simp [Ov_some, Ov_none, We, ev, h, h2, h3, h4, h5]
theorem We_neg : We Γ G (.neg a) ρ Q ↔ We Γ G a ρ fun ra ρ1 => Oi ra fun i => Q (.v (.int (-i))) ρ1 := by
  cases h : ev Γ G a ρ with
  | none => simp [Ov_some, Ov_none, We, ev, h]
  | some p =>
    obtain ⟨ra, ρ1⟩ := p
    cases ra with
    | v d => cases d <;> simp [Ov_some, Ov_none, We, ev, Oi, h]
    | _ => simp [Ov_some, Ov_none, We, ev, Oi, h]
theorem We_not : We Γ G (.not a) ρ Q ↔ We Γ G a ρ fun ra ρ1 => Obo ra fun i => Q (.v (.bool (!i))) ρ1 := by
  cases h : ev Γ G a ρ with
  | none => simp [Ov_some, Ov_none, We, ev, h]
  | some p =>
    obtain ⟨ra, ρ1⟩ := p
    cases ra with
    | v d => cases d <;> simp [Ov_some, Ov_none, We, ev, Obo, h]
    | _ => simp [Ov_some, Ov_none, We, ev, Obo, h]
theorem We_and : We Γ G (.and2 a b) ρ Q ↔ We Γ G a ρ fun ra ρ1 => Obo ra fun t => Cnd t (fun _ => We Γ G b ρ1 Q) (fun _ => Q (.v (.bool false)) ρ1) := by
  cases h : ev Γ G a ρ with
  | none => simp [Ov_some, Ov_none, We, ev, h]
  | some p =>
    obtain ⟨ra, ρ1⟩ := p
    cases ra with
    | v d => cases d with
      | bool x => cases x <;> simp [Ov_some, Ov_none, We, ev, Obo, h, Cnd]
      | _ => simp [Ov_some, Ov_none, We, ev, Obo, h]
    | _ => simp [Ov_some, Ov_none, We, ev, Obo, h]
theorem We_or : We Γ G (.or2 a b) ρ Q ↔ We Γ G a ρ fun ra ρ1 => Obo ra fun t => Cnd t (fun _ => Q (.v (.bool true)) ρ1) (fun _ => We Γ G b ρ1 Q) := by
  cases h : ev Γ G a ρ with
  | none => simp [Ov_some, Ov_none, We, ev, h]
  | some p =>
    obtain ⟨ra, ρ1⟩ := p
    cases ra with
    | v d => cases d with
      | bool x => cases x <;> simp [Ov_some, Ov_none, We, ev, Obo, h, Cnd]
      | _ => simp [Ov_some, Ov_none, We, ev, Obo, h]
    | _ => simp [Ov_some, Ov_none, We, ev, Obo, h]
theorem We_ife : We Γ G (.ife c a b) ρ Q ↔ We Γ G c ρ fun ra ρ1 => Obo ra fun t => Cnd t (fun _ => We Γ G a ρ1 Q) (fun _ => We Γ G b ρ1 Q) := by
  cases h : ev Γ G c ρ with
  | none => simp [Ov_some, Ov_none, We, ev, h]
  | some p =>
    obtain ⟨ra, ρ1⟩ := p
    cases ra with
    | v d => cases d with
      | bool x => cases x <;> simp [Ov_some, Ov_none, We, ev, Obo, h, Cnd]
      | _ => simp [Ov_some, Ov_none, We, ev, Obo, h]
    | _ => simp [Ov_some, Ov_none, We, ev, Obo, h]
theorem We_chain {o1 o2 : CO} : We Γ G (.chain o1 o2 a b c) ρ Q ↔ We Γ G a ρ fun ra ρ1 => Od ra fun x => We Γ G b ρ1 fun rb ρ2 => Od rb fun y => Ov (co o1 x y) fun t => Cnd t (fun _ => We Γ G c ρ2 fun rc ρ3 => Od rc fun z => Ov (co o2 y z) fun r => Q (.v (.bool r)) ρ3) (fun _ => Q (.v (.bool false)) ρ2) := by
  cases h : ev Γ G a ρ with
  | none => simp [Ov_some, Ov_none, We, ev, h]
  | some p =>
    obtain ⟨ra, ρ1⟩ := p
    cases ra with
    | v x =>
      cases h2 : ev Γ G b ρ1 with
      | none => simp [Ov_some, Ov_none, We, ev, Od, h, h2]
      | some p =>
        obtain ⟨rb, ρ2⟩ := p
        cases rb with
        | v y =>
          cases h3 : co o1 x y with
          | none => simp [Ov_some, Ov_none, We, ev, Od, h, h2, h3]
          | some t =>
            cases t with
            | false => simp [Ov_some, Ov_none, We, ev, Od, h, h2, h3, Cnd]
            | true =>
              cases h4 : ev Γ G c ρ2 with
              | none => simp [Ov_some, Ov_none, We, ev, Od, h, h2, h3, h4, Cnd]
              | some p =>
                obtain ⟨rc, ρ3⟩ := p
                cases rc with
                | v z => cases h5 : co o2 y z <;> simp [Ov_some, Ov_none, We, ev, Od, h, h2, h3, h4, h5, Cnd]
                | _ => simp [Ov_some, Ov_none, We, ev, Od, h, h2, h3, h4, Cnd]
        | _ => simp [Ov_some, Ov_none, We, ev, Od, h, h2]
    | _ => simp [Ov_some, Ov_none, We, ev, Od, h]
theorem Wes_nil {Q : List D → PEnv → Prop} : Wes Γ G .nil ρ Q ↔ Q [] ρ := by simp [Ov_some, Ov_none, Wes, evs]
theorem Wes_cons {es : Es} {Q : List D → PEnv → Prop} : Wes Γ G (.cons e es) ρ Q ↔ We Γ G e ρ fun r ρ1 => Ov (toV r) fun d => Wes Γ G es ρ1 fun ds ρ2 => Q (d :: ds) ρ2 := by
  cases h : ev Γ G e ρ with
  | none => simp [Ov_some, Ov_none, We, Wes, evs, h]
  | some p =>
    obtain ⟨ra, ρ1⟩ := p
    cases h2 : toV ra with
    | none => simp [Ov_some, Ov_none, We, Wes, evs, h, h2]
    | some d => cases h3 : evs Γ G es ρ1 <;> simp [Ov_some, Ov_none, We, Wes, evs, h, h2, h3]
theorem Wec_nil {Q : List R → PEnv → Prop} : Wec Γ G .nil ρ Q ↔ Q [] ρ := by simp [Ov_some, Ov_none, Wec, evc]
theorem Wec_cons {es : Es} {Q : List R → PEnv → Prop} : Wec Γ G (.cons e es) ρ Q ↔ We Γ G e ρ fun r ρ1 => Wec Γ G es ρ1 fun ds ρ2 => Q (r :: ds) ρ2 := by
  cases h : ev Γ G e ρ with
  | none => simp [Ov_some, Ov_none, We, Wec, evc, h]
  | some p =>
    obtain ⟨ra, ρ1⟩ := p
    cases h3 : evc Γ G es ρ1 <;> simp [Ov_some, Ov_none, We, Wec, evc, h, h3]
theorem Wea_nil {Q : List AH → PEnv → Prop} : Wea Γ G .nil ρ Q ↔ Q [] ρ := by simp [Ov_some, Ov_none, Wea, eva]
theorem Wea_cons {es : As} {Q : List AH → PEnv → Prop} : Wea Γ G (.cons e es) ρ Q ↔ We Γ G e ρ fun r ρ1 => Ov (toV r) fun d => Wea Γ G es ρ1 fun ds ρ2 => Q (.v d :: ds) ρ2 := by
  cases h : ev Γ G e ρ with
  | none => simp [Ov_some, Ov_none, We, Wea, eva, h]
  | some p =>
    obtain ⟨ra, ρ1⟩ := p
    cases h2 : toV ra with
    | none => simp [Ov_some, Ov_none, We, Wea, eva, h, h2]
    | some d => cases h3 : eva Γ G es ρ1 <;> simp [Ov_some, Ov_none, We, Wea, eva, h, h2, h3]
theorem Wea_ref {es : As} {Q : List AH → PEnv → Prop} : Wea Γ G (.ref i es) ρ Q ↔ Ov ρ[i]? fun s => Osb s fun _ => Wea Γ G es ρ fun ds ρ2 => Q (.r i :: ds) ρ2 := by
  cases h : ρ[i]? with
  | none => simp [Ov_some, Ov_none, Wea, eva, h]
  | some s => cases s with
    | o b => cases h3 : eva Γ G es ρ <;> simp [Ov_some, Ov_none, Wea, eva, Osb, h, h3]
    | _ => simp [Ov_some, Ov_none, Wea, eva, Osb, h]
theorem Wea_lend {es : As} {Q : List AH → PEnv → Prop} : Wea Γ G (.lend i es) ρ Q ↔ Ov ρ[i]? fun s => Osb s fun _ => Wea Γ G es ρ fun ds ρ2 => Q (.l i :: ds) ρ2 := by
  cases h : ρ[i]? with
  | none => simp [Ov_some, Ov_none, Wea, eva, h]
  | some s => cases s with
    | o b => cases h3 : eva Γ G es ρ <;> simp [Ov_some, Ov_none, Wea, eva, Osb, h, h3]
    | _ => simp [Ov_some, Ov_none, Wea, eva, Osb, h]
theorem Wep_n {Q : Option R → PEnv → Prop} : Wep Γ G .none ρ Q ↔ Q none ρ := by simp [Ov_some, Ov_none, Wep, evp]
theorem Wep_s {Q : Option R → PEnv → Prop} : Wep Γ G (.some e) ρ Q ↔ We Γ G e ρ fun r ρ1 => Q (some r) ρ1 := by
  cases h : ev Γ G e ρ <;> simp [Ov_some, Ov_none, Wep, evp, We, h]
theorem We_tup {es : Es} : We Γ G (.tup es) ρ Q ↔ Wes Γ G es ρ fun ds ρ1 => Q (.v (.tuple ds)) ρ1 := by
  cases h : evs Γ G es ρ <;> simp [Ov_some, Ov_none, We, ev, Wes, h]
theorem We_lst {es : Es} : We Γ G (.lst es) ρ Q ↔ Wes Γ G es ρ fun ds ρ1 => Q (.fr (.l ds)) ρ1 := by
  cases h : evs Γ G es ρ <;> simp [Ov_some, Ov_none, We, ev, Wes, h]
theorem We_call {f : Str} {as : As} : We Γ G (.call f as) ρ Q ↔ Wea Γ G as ρ fun hs ρ1 => Ov (argsOf ρ1 hs) fun vs => Wc Γ f vs fun r o => Aft o (refs hs) ρ1 fun ρ2 => Q r ρ2 := by
  cases h : eva Γ G as ρ with
  | none => simp [Ov_some, Ov_none, We, ev, Wea, h]
  | some p =>
    obtain ⟨hs, ρ1⟩ := p
    cases h2 : argsOf ρ1 hs with
    | none => simp [Ov_some, Ov_none, We, ev, Wea, callE, h, h2]
    | some vs =>
      cases h3 : Γ f vs with
      | none => simp [Ov_some, Ov_none, We, ev, Wea, Wc, callE, h, h2, h3]
      | some q =>
        obtain ⟨r, o⟩ := q
        cases o with
        | none => cases h4 : refs hs <;> simp [Ov_some, Ov_none, We, ev, Wea, Wc, callE, h, h2, h3, h4, Aft]
        | some b =>
          cases h4 : refs hs with
          | nil => simp [Ov_some, Ov_none, We, ev, Wea, Wc, callE, h, h2, h3, h4, Aft]
          | cons x r => cases r <;> simp [Ov_some, Ov_none, We, ev, Wea, Wc, callE, h, h2, h3, h4, Aft]
theorem We_calll {f : Str} {as : As} : We Γ G (.calll f as) ρ Q ↔ Wea Γ G as ρ fun hs ρ1 => Ov (argsL ρ1 hs) fun vs => Wc Γ f vs fun r o => Ov (flatR (r, o)) fun d => Q (.v d) ρ1 := by
  cases h : eva Γ G as ρ with
  | none => simp [Ov_some, Ov_none, We, ev, Wea, h]
  | some p =>
    obtain ⟨hs, ρ1⟩ := p
    cases h2 : argsL ρ1 hs with
    | none => simp [Ov_some, Ov_none, We, ev, Wea, h, h2]
    | some vs =>
      cases h3 : Γ f vs with
      | none => simp [Ov_some, Ov_none, We, ev, Wea, Wc, h, h2, h3]
      | some q =>
        obtain ⟨r, o⟩ := q
        cases h4 : flatR (r, o) <;> simp [Ov_some, Ov_none, We, ev, Wea, Wc, h, h2, h3, h4]
theorem We_callv {as : As} : We Γ G (.callv i as) ρ Q ↔ Ov ρ[i]? fun s => Osd s fun d => Ov (fnN d) fun f => Wea Γ G as ρ fun hs ρ1 => Ov (argsOf ρ1 hs) fun vs => Wc Γ f vs fun r o => Aft o (refs hs) ρ1 fun ρ2 => Q r ρ2 := by
  cases h : ρ[i]? with
  | none => simp [Ov_none, We, ev, h]
  | some s => cases s with
    | v d => cases h2 : fnN d with
      | none => simp [Ov_some, Ov_none, We, ev, Osd, h, h2]
      | some f =>
        have e : ev Γ G (.callv i as) ρ = ev Γ G (.call f as) ρ := by simp only [ev, h, h2]
        have : We Γ G (.callv i as) ρ Q ↔ We Γ G (.call f as) ρ Q := by simp only [We, e]
        rw [this, We_call]
        simp [Ov_some, Osd, h2]
    | _ => simp [Ov_some, Ov_none, We, ev, Osd, h]
theorem We_bi {b : BI} {as : Es} : We Γ G (.bi b as) ρ Q ↔ Wec Γ G as ρ fun rs ρ1 => Ov (rs.mapM (toC ρ1)) fun ds => Ov (bi b ds) fun r => Q r ρ1 := by
  cases h : evc Γ G as ρ with
  | none => simp [Ov_some, Ov_none, We, ev, Wec, h]
  | some p =>
    obtain ⟨rs, ρ1⟩ := p
    cases h2 : rs.mapM (toC ρ1) with
    | none => simp [Ov_some, Ov_none, We, ev, Wec, h, h2]
    | some ds => cases h3 : bi b ds <;> simp [Ov_some, Ov_none, We, ev, Wec, h, h2, h3]
theorem We_meth {m : MT} {as : Es} : We Γ G (.meth m i as) ρ Q ↔ Ov ρ[i]? fun s => Ol s fun _ => Wes Γ G as ρ fun ds ρ1 => Ov ρ1[i]? fun s => Ol s fun xs => Ov (meth m xs ds) fun p => Q (.v p.1) (ρ1.set i (.o (.l p.2))) := by
  cases h : ρ[i]? with
  | none => simp [Ov_some, Ov_none, We, ev, h]
  | some s =>
    cases s with
    | o b =>
      cases b with
      | d zs => simp [Ov_some, Ov_none, We, ev, Ol, h]
      | l zs =>
        cases h2 : evs Γ G as ρ with
        | none => simp [Ov_some, Ov_none, We, ev, Ol, Wes, h, h2]
        | some p =>
          obtain ⟨ds, ρ1⟩ := p
          cases h3 : ρ1[i]? with
          | none => simp [Ov_some, Ov_none, We, ev, Ol, Wes, h, h2, h3]
          | some s =>
            cases s with
            | o b =>
              cases b with
              | d zs => simp [Ov_some, Ov_none, We, ev, Ol, Wes, h, h2, h3]
              | l xs =>
                cases h4 : meth m xs ds with
                | none => simp [Ov_some, Ov_none, We, ev, Ol, Wes, h, h2, h3, h4]
                | some q => obtain ⟨d, ys⟩ := q; simp [Ov_some, Ov_none, We, ev, Ol, Wes, h, h2, h3, h4]
            | _ => simp [Ov_some, Ov_none, We, ev, Ol, Wes, h, h2, h3]
    | _ => simp [Ov_some, Ov_none, We, ev, Ol, h]
theorem We_slc {lo hi : Part} : We Γ G (.slc a lo hi) ρ Q ↔ We Γ G a ρ fun ra ρ1 => Wep Γ G lo ρ1 fun rl ρ2 => Wep Γ G hi ρ2 fun rh ρ3 => Ov (toC ρ3 ra) fun x => Ov (optI ρ3 rl) fun l => Ov (optI ρ3 rh) fun h => Ov (slice x l h) fun r => Q r ρ3 := by
  cases h : ev Γ G a ρ with
  | none => simp [Ov_some, Ov_none, We, ev, h]
  | some p =>
    obtain ⟨ra, ρ1⟩ := p
    cases h2 : evp Γ G lo ρ1 with
    | none => simp [Ov_some, Ov_none, We, ev, Wep, h, h2]
    | some p =>
      obtain ⟨rl, ρ2⟩ := p
      cases h3 : evp Γ G hi ρ2 with
      | none => simp [Ov_some, Ov_none, We, ev, Wep, h, h2, h3]
      | some p =>
        obtain ⟨rh, ρ3⟩ := p
        cases h4 : toC ρ3 ra with
        | none => simp [Ov_some, Ov_none, We, ev, Wep, h, h2, h3, h4]
        | some x =>
          cases h5 : optI ρ3 rl with
          | none => simp [Ov_some, Ov_none, We, ev, Wep, h, h2, h3, h4, h5]
          | some l =>
            cases h6 : optI ρ3 rh with
            | none => simp [Ov_some, Ov_none, We, ev, Wep, h, h2, h3, h4, h5, h6]
            | some u => cases h7 : slice x l u <;> simp [Ov_some, Ov_none, We, ev, Wep, h, h2, h3, h4, h5, h6, h7]
theorem We_lc {t : T} {it : It} {c : Part} {own : List Nat} : We Γ G (.lc t it c own e) ρ Q ↔ Wei Γ G it ρ fun ds ρ1 => Lc Γ G t c e own ds ρ1 Q := by
  cases h : evi Γ G it ρ with
  | none => simp [Ov_some, Ov_none, We, ev, Wei, h]
  | some p =>
    obtain ⟨ds, ρ1⟩ := p
    by_cases h2 : ds.length ≤ sizeL
    · cases h3 : free ρ1 own with
      | false => simp [Ov_some, Ov_none, We, ev, Wei, Lc, h, h2, h3]
      | true =>
        have e1 : ev Γ G (.lc t it c own e) ρ = match lcL own (lcf Γ G t c e) ds ρ1 with
          | some (ys, ρe) => some (.fr (.l ys), back ρ1 ρe own)
          | none => none := by
          simp only [ev, h, h2, h3, decide_true, Bool.and_self, if_true]
          rfl
        cases h4 : lcL own (lcf Γ G t c e) ds ρ1 with
        | none => simp [Ov_some, Ov_none, We, e1, Wei, Lc, h, h2, h3, h4]
        | some q => obtain ⟨ys, ρe⟩ := q; simp [Ov_some, Ov_none, We, e1, Wei, Lc, h, h2, h3, h4]
    · simp [Ov_some, Ov_none, We, ev, Wei, Lc, h, h2]
def Ls (Γ : Sems) (G : Str → Option D) (t : T) (c : Part) (e : E) (own : List Nat) (ds : List D) (ρ : PEnv) (Q : R → PEnv → Prop) (_u : Tg Q := ⟨⟩) (_w : Tg e := ⟨⟩) : Prop :=
  ds.length < 4000 ∧ free ρ own = true ∧ Ov (lcL own (lcf Γ G t c e) ds ρ) fun p => Ov (toInts p.1) fun ns => Q (.v (.int ((usort ns).length : Nat))) (back ρ p.2 own)
theorem We_lsc {t : T} {it : It} {c : Part} {own : List Nat} : We Γ G (.lsc t it c own e) ρ Q ↔ Wei Γ G it ρ fun ds ρ1 => Ls Γ G t c e own ds ρ1 Q := by
  cases h : evi Γ G it ρ with
  | none => simp [Ov_some, Ov_none, We, ev, Wei, h]
  | some p =>
    obtain ⟨ds, ρ1⟩ := p
    by_cases h2 : ds.length < 4000
    · cases h3 : free ρ1 own with
      | false => simp [Ov_some, Ov_none, We, ev, Wei, Ls, h, h2, h3]
      | true =>
        have e1 : ev Γ G (.lsc t it c own e) ρ = match lcL own (lcf Γ G t c e) ds ρ1 with
          | some (ys, ρe) => match toInts ys with
            | some ns => some (.v (.int ((usort ns).length : Nat)), back ρ1 ρe own)
            | none => none
          | none => none := by
          simp only [ev, h, h2, h3, decide_true, Bool.and_self, if_true]
          rfl
        cases h4 : lcL own (lcf Γ G t c e) ds ρ1 with
        | none => simp [Ov_some, Ov_none, We, e1, Wei, Ls, h, h2, h3, h4]
        | some q =>
          obtain ⟨ys, ρe⟩ := q
          cases h5 : toInts ys <;> simp [Ov_some, Ov_none, We, e1, Wei, Ls, h, h2, h3, h4, h5]
    · simp [Ov_some, Ov_none, We, ev, Wei, Ls, h, h2]
theorem Wei_seq {Q : List D → PEnv → Prop} : Wei Γ G (.seq a) ρ Q ↔ We Γ G a ρ fun r ρ1 => Ov (toV r) fun d => Ov (seqOf d) fun xs => Q xs ρ1 := by
  cases h : ev Γ G a ρ with
  | none => simp [Ov_some, Ov_none, We, evi, Wei, h]
  | some p =>
    obtain ⟨r, ρ1⟩ := p
    cases h2 : toV r with
    | none => simp [Ov_some, Ov_none, We, evi, Wei, h, h2]
    | some d => cases h3 : seqOf d <;> simp [Ov_some, Ov_none, We, evi, Wei, h, h2, h3]
theorem Wei_enum {Q : List D → PEnv → Prop} : Wei Γ G (.enum a) ρ Q ↔ We Γ G a ρ fun r ρ1 => Ov (toV r) fun d => Ov (seqOf d) fun xs => Q (enumD 0 xs) ρ1 := by
  cases h : ev Γ G a ρ with
  | none => simp [Ov_some, Ov_none, We, evi, Wei, h]
  | some p =>
    obtain ⟨r, ρ1⟩ := p
    cases h2 : toV r with
    | none => simp [Ov_some, Ov_none, We, evi, Wei, h, h2]
    | some d => cases h3 : seqOf d <;> simp [Ov_some, Ov_none, We, evi, Wei, h, h2, h3]
theorem Wei_r1 {Q : List D → PEnv → Prop} : Wei Γ G (.r1 a) ρ Q ↔ We Γ G a ρ fun r ρ1 => Oi r fun j => small62 j = true ∧ Q (irange 0 j.toNat) ρ1 := by
  cases h : ev Γ G a ρ with
  | none => simp [Ov_some, Ov_none, We, evi, Wei, h]
  | some p =>
    obtain ⟨r, ρ1⟩ := p
    cases r with
    | v d => cases d with
      | int j => cases h2 : small62 j <;> simp [Ov_some, Ov_none, We, evi, Wei, Oi, h, h2]
      | _ => simp [Ov_some, Ov_none, We, evi, Wei, Oi, h]
    | _ => simp [Ov_some, Ov_none, We, evi, Wei, Oi, h]
theorem Wei_rd {Q : List D → PEnv → Prop} : Wei Γ G (.rd a b c) ρ Q ↔ We Γ G a ρ fun r ρ1 => Oi r fun i => We Γ G b ρ1 fun r' ρ2 => Oi r' fun j => We Γ G c ρ2 fun r'' ρ3 => Oi r'' fun k => (small62 i && small62 j && decide (k = -1)) = true ∧ Q (irangeD i (i - j).toNat) ρ3 := by
  cases h : ev Γ G a ρ with
  | none => simp [Ov_some, Ov_none, We, evi, Wei, h]
  | some p =>
    obtain ⟨r, ρ1⟩ := p
    cases r with
    | v d => cases d with
      | int i =>
        cases h2 : ev Γ G b ρ1 with
        | none => simp [Ov_some, Ov_none, We, evi, Wei, Oi, h, h2]
        | some p =>
          obtain ⟨r', ρ2⟩ := p
          cases r' with
          | v d => cases d with
            | int j =>
              cases h5 : ev Γ G c ρ2 with
              | none => simp [Ov_some, Ov_none, We, evi, Wei, Oi, h, h2, h5]
              | some p =>
                obtain ⟨r'', ρ3⟩ := p
                cases r'' with
                | v d => cases d with
                  | int k => by_cases h6 : small62 i && small62 j && decide (k = -1) <;> simp only [Ov_some, Ov_none, We, evi, Wei, Oi, h, h2, h5, h6, if_true, if_false, true_and, Bool.false_eq_true, false_and]
                  | _ => simp [Ov_some, Ov_none, We, evi, Wei, Oi, h, h2, h5]
                | _ => simp [Ov_some, Ov_none, We, evi, Wei, Oi, h, h2, h5]
            | _ => simp [Ov_some, Ov_none, We, evi, Wei, Oi, h, h2]
          | _ => simp [Ov_some, Ov_none, We, evi, Wei, Oi, h, h2]
      | _ => simp [Ov_some, Ov_none, We, evi, Wei, Oi, h]
    | _ => simp [Ov_some, Ov_none, We, evi, Wei, Oi, h]
theorem Wei_r2 {Q : List D → PEnv → Prop} : Wei Γ G (.r2 a b) ρ Q ↔ We Γ G a ρ fun r ρ1 => Oi r fun i => We Γ G b ρ1 fun r' ρ2 => Oi r' fun j => (small62 i && small62 j) = true ∧ Q (irange i (j - i).toNat) ρ2 := by
  cases h : ev Γ G a ρ with
  | none => simp [Ov_some, Ov_none, We, evi, Wei, h]
  | some p =>
    obtain ⟨r, ρ1⟩ := p
    cases r with
    | v d => cases d with
      | int i =>
        cases h2 : ev Γ G b ρ1 with
        | none => simp [Ov_some, Ov_none, We, evi, Wei, Oi, h, h2]
        | some p =>
          obtain ⟨r', ρ2⟩ := p
          cases r' with
          | v d => cases d with
            | int j => cases h3 : small62 i <;> cases h4 : small62 j <;> simp [Ov_some, Ov_none, We, evi, Wei, Oi, h, h2, h3, h4]
            | _ => simp [Ov_some, Ov_none, We, evi, Wei, Oi, h, h2]
          | _ => simp [Ov_some, Ov_none, We, evi, Wei, Oi, h, h2]
      | _ => simp [Ov_some, Ov_none, We, evi, Wei, Oi, h]
    | _ => simp [Ov_some, Ov_none, We, evi, Wei, Oi, h]
def Old (d : D) (K : List D → Prop) (_u : Tg K := ⟨⟩) : Prop := match d with
  | .list xs => K xs
  | _ => False
theorem Old_b {xs : List D} {K : List D → Prop} : Old (.list xs) K ↔ K xs := .rfl
theorem We_mx {m : MX} : We Γ G (.mx m a b) ρ Q ↔ We Γ G a ρ fun ra ρ1 => Ov (toC ρ1 ra) fun x0 => Old x0 fun _ => We Γ G b ρ1 fun rb ρ2 => Ov (toC ρ2 ra) fun x => Ov (toC ρ2 rb) fun y => Ov (mxo m x y) fun r => Q (.v r) ρ2 := by
  cases h : ev Γ G a ρ with
  | none => simp [Ov_some, Ov_none, We, ev, h]
  | some p =>
    obtain ⟨ra, ρ1⟩ := p
    cases h0 : toC ρ1 ra with
    | none => simp [Ov_some, Ov_none, We, ev, h, h0]
    | some x0 =>
      cases x0 with
      | list xs =>
        cases h2 : ev Γ G b ρ1 with
        | none => simp [Ov_some, Ov_none, We, ev, Old, h, h0, h2]
        | some p =>
          obtain ⟨rb, ρ2⟩ := p
          cases h3 : toC ρ2 ra with
          | none => simp [Ov_some, Ov_none, We, ev, Old, h, h0, h2, h3]
          | some x => cases h4 : toC ρ2 rb with
            | none => simp [Ov_some, Ov_none, We, ev, Old, h, h0, h2, h3, h4]
            | some y => cases h5 : mxo m x y <;> simp [Ov_some, Ov_none, We, ev, Old, h, h0, h2, h3, h4, h5]
      | _ => simp [Ov_some, Ov_none, We, ev, Old, h, h0]
theorem We_rev : We Γ G (.rev a) ρ Q ↔ We Γ G a ρ fun ra ρ1 => Ov (toC ρ1 ra) fun x0 => Old x0 fun xs => Q (.fr (.l xs.reverse)) ρ1 := by
  cases h : ev Γ G a ρ with
  | none => simp [Ov_some, Ov_none, We, ev, h]
  | some p =>
    obtain ⟨ra, ρ1⟩ := p
    cases h0 : toC ρ1 ra with
    | none => simp [Ov_some, Ov_none, We, ev, h, h0]
    | some x0 => cases x0 <;> simp [Ov_some, Ov_none, We, ev, Old, h, h0]
def Odd (d : D) (K : List (D × D) → Prop) (_u : Tg K := ⟨⟩) : Prop := match d with
  | .dict xs => K xs
  | _ => False
theorem Odd_b {xs : List (D × D)} {K : List (D × D) → Prop} : Odd (.dict xs) K ↔ K xs := .rfl
def Osk (s : Slot) (K : List (D × D) → Prop) (_u : Tg K := ⟨⟩) : Prop := match s with
  | .o (.d xs) => K xs
  | _ => False
theorem Osk_b {b : List (D × D)} {K : List (D × D) → Prop} : Osk (.o (.d b)) K ↔ K b := .rfl
theorem obD_l {xs : List D} : obD (.l xs) = .list xs := rfl
theorem obD_d {xs : List (D × D)} : obD (.d xs) = .dict xs := rfl
theorem We_dnew : We Γ G .dnew ρ Q ↔ Q (.fr (.d [])) ρ := by simp [Ov_some, We, ev]
theorem We_dsp {es : Es} : We Γ G (.dsp es) ρ Q ↔ Wes Γ G es ρ fun ds ρ1 => Ov (dfill ds []) fun kvs => Q (.fr (.d kvs)) ρ1 := by
  cases h : evs Γ G es ρ with
  | none => simp [Ov_some, Ov_none, We, ev, Wes, h]
  | some p => obtain ⟨ds, ρ1⟩ := p; cases h2 : dfill ds [] <;> simp [Ov_some, Ov_none, We, ev, Wes, h, h2]
theorem We_dget {c : Part} : We Γ G (.dget a b c) ρ Q ↔ We Γ G a ρ fun ra ρ1 => Ov (toC ρ1 ra) fun x0 => Odd x0 fun _ => We Γ G b ρ1 fun rb ρ2 => Wep Γ G c ρ2 fun rc ρ3 => Ov (toC ρ3 ra) fun x => Odd x fun kvs => Ov (toV rb) fun y => Ov (dfl rc) fun z => Ov (DPK.dlook kvs y) fun o => Q (.v (o.getD z)) ρ3 := by
  cases h : ev Γ G a ρ with
  | none => simp [Ov_some, Ov_none, We, ev, h]
  | some p =>
    obtain ⟨ra, ρ1⟩ := p
    cases h0 : toC ρ1 ra with
    | none => simp [Ov_some, Ov_none, We, ev, h, h0]
    | some x0 =>
      cases x0 with
      | dict xs =>
        cases h2 : ev Γ G b ρ1 with
        | none => simp [Ov_some, Ov_none, We, ev, Odd, h, h0, h2]
        | some p =>
          obtain ⟨rb, ρ2⟩ := p
          cases h3 : evp Γ G c ρ2 with
          | none => simp [Ov_some, Ov_none, We, ev, Wep, Odd, h, h0, h2, h3]
          | some p =>
            obtain ⟨rc, ρ3⟩ := p
            cases h4 : toC ρ3 ra with
            | none => simp [Ov_some, Ov_none, We, ev, Wep, Odd, h, h0, h2, h3, h4]
            | some x => cases x with
              | dict kvs => cases h5 : toV rb with
                | none => simp [Ov_some, Ov_none, We, ev, Wep, Odd, h, h0, h2, h3, h4, h5]
                | some y => cases h6 : dfl rc with
                  | none => simp [Ov_some, Ov_none, We, ev, Wep, Odd, h, h0, h2, h3, h4, h5, h6]
                  | some z => cases h7 : DPK.dlook kvs y <;> simp [Ov_some, Ov_none, We, ev, Wep, Odd, h, h0, h2, h3, h4, h5, h6, h7]
              | _ => simp [Ov_some, Ov_none, We, ev, Wep, Odd, h, h0, h2, h3, h4]
      | _ => simp [Ov_some, Ov_none, We, ev, Odd, h, h0]
theorem Wei_zip {Q : List D → PEnv → Prop} : Wei Γ G (.zip a b) ρ Q ↔ We Γ G a ρ fun r ρ1 => We Γ G b ρ1 fun r' ρ2 => Ov (toV r) fun d => Ov (toV r') fun d' => Ov (seqOf d) fun xs => Ov (seqOf d') fun ys => Q (zipD xs ys) ρ2 := by
  cases h : ev Γ G a ρ with
  | none => simp [Ov_some, Ov_none, We, evi, Wei, h]
  | some p =>
    obtain ⟨r, ρ1⟩ := p
    cases h2 : ev Γ G b ρ1 with
    | none => simp [Ov_some, Ov_none, We, evi, Wei, h, h2]
    | some p =>
      obtain ⟨r', ρ2⟩ := p
      cases h3 : toV r with
      | none => simp [Ov_some, Ov_none, We, evi, Wei, h, h2, h3]
      | some d => cases h4 : toV r' with
        | none => simp [Ov_some, Ov_none, We, evi, Wei, h, h2, h3, h4]
        | some d' => cases h5 : seqOf d with
          | none => simp [Ov_some, Ov_none, We, evi, Wei, h, h2, h3, h4, h5]
          | some xs => cases h6 : seqOf d' <;> simp [Ov_some, Ov_none, We, evi, Wei, h, h2, h3, h4, h5, h6]
def lcf2 (Γ : Sems) (G : Str → Option D) (t : T) (c : Part) (it1 : It) (own1 : List Nat) (f1 : D → PEnv → Option (List D × PEnv)) (d : D) (ρ : PEnv) : Option (List D × PEnv) := match asT t d ρ with
  | some ρ' => match evp Γ G c ρ' with
    | some (none, ρ2) => match evi Γ G it1 ρ2 with
      | some (ds1, ρ3) => lcL own1 f1 ds1 ρ3
      | none => none
    | some (some (.v (.bool true)), ρ2) => match evi Γ G it1 ρ2 with
      | some (ds1, ρ3) => lcL own1 f1 ds1 ρ3
      | none => none
    | some (some (.v (.bool false)), ρ2) => some ([], ρ2)
    | _ => none
  | none => none
def Lc2 (Γ : Sems) (G : Str → Option D) (t : T) (c : Part) (t1 : T) (it1 : It) (c1 : Part) (e : E) (own own1 : List Nat) (ds : List D) (ρ : PEnv) (Q : R → PEnv → Prop) (_u : Tg Q := ⟨⟩) (_w : Tg e := ⟨⟩) (_x : Tg it1 := ⟨⟩) : Prop :=
  free ρ own = true ∧ Ov (lcL own (lcf2 Γ G t c it1 own1 (lcf Γ G t1 c1 e)) ds ρ) fun p => p.1.length ≤ sizeL ∧ Q (.fr (.l p.1)) (back ρ p.2 own)
def LcI (Γ : Sems) (G : Str → Option D) (t : T) (c : Part) (e : E) (own : List Nat) (ds : List D) (ρ : PEnv) (Q : List D → PEnv → Prop) (_u : Tg Q := ⟨⟩) (_w : Tg e := ⟨⟩) : Prop := Ov (lcL own (lcf Γ G t c e) ds ρ) fun p => Q p.1 p.2
theorem We_lc2 {t t1 : T} {it it1 : It} {c c1 : Part} {own own1 : List Nat} : We Γ G (.lc2 t it c t1 it1 c1 own own1 e) ρ Q ↔ Wei Γ G it ρ fun ds ρ1 => Lc2 Γ G t c t1 it1 c1 e own own1 ds ρ1 Q := by
  cases h : evi Γ G it ρ with
  | none => simp [Ov_some, Ov_none, We, ev, Wei, h]
  | some p =>
    obtain ⟨ds, ρ1⟩ := p
    cases h3 : free ρ1 own with
    | false => simp [Ov_some, Ov_none, We, ev, Wei, Lc2, h, h3]
    | true =>
      have e1 : ev Γ G (.lc2 t it c t1 it1 c1 own own1 e) ρ = match lcL own (lcf2 Γ G t c it1 own1 (lcf Γ G t1 c1 e)) ds ρ1 with
        | some (ys, ρe) => if ys.length ≤ sizeL then some (.fr (.l ys), back ρ1 ρe own) else none
        | none => none := by
        simp only [ev, h, h3, if_true]
        rfl
      cases h4 : lcL own (lcf2 Γ G t c it1 own1 (lcf Γ G t1 c1 e)) ds ρ1 with
      | none => simp [Ov_some, Ov_none, We, e1, Wei, Lc2, h, h3, h4]
      | some q =>
        obtain ⟨ys, ρe⟩ := q
        by_cases h5 : ys.length ≤ sizeL <;> simp [Ov_some, Ov_none, We, e1, Wei, Lc2, h, h3, h4, h5]
end
end DP
/-! The pure layer, part S: what must hold ahead, for statements, loops and defs. -/
namespace DP
open PySem
section
variable {Γ : Sems} {G : Str → Option D} {ρ : PEnv} {Q : Out → Prop} {c e : E} {i : Nat} {t : T} {it : It} {b : Ss}
theorem Wxs_nil : Wxs Γ G .nil ρ Q ↔ Q (.nx ρ) := by simp [Wxs, exs, Ov_some]
theorem Wxs_cons {s : S} {r : Ss} : Wxs Γ G (.cons s r) ρ Q ↔ Wx Γ G s ρ fun o => Sq o (fun ρ' => Wxs Γ G r ρ' Q) Q := by
  cases h : ex Γ G s ρ with
  | none => simp [Wxs, Wx, exs, Ov_none, h]
  | some o => cases o <;> simp [Wxs, Wx, exs, Ov_some, Sq, h]
theorem Wx_asg : Wx Γ G (.asg t e) ρ Q ↔ We Γ G e ρ fun r ρ1 => Ov (toV r) fun d => Ov (asT t d ρ1) fun ρ2 => Q (.nx ρ2) := by
  cases h : ev Γ G e ρ with
  | none => simp [Ov_some, Ov_none, Wx, ex, We, h]
  | some p =>
    obtain ⟨r, ρ1⟩ := p
    cases h2 : toV r with
    | none => simp [Ov_some, Ov_none, Wx, ex, We, h, h2]
    | some d => cases h3 : asT t d ρ1 <;> simp [Ov_some, Ov_none, Wx, ex, We, h, h2, h3]
theorem Wx_own : Wx Γ G (.own i e) ρ Q ↔ We Γ G e ρ fun r ρ1 => Ofr r fun b => Q (.nx (ρ1.set i (.o b))) := by
  cases h : ev Γ G e ρ with
  | none => simp [Ov_some, Ov_none, Wx, ex, We, h]
  | some p =>
    obtain ⟨r, ρ1⟩ := p
    cases r <;> simp [Ov_some, Ov_none, Wx, ex, We, Ofr, h]
theorem Wx_aug {op : BO} : Wx Γ G (.aug i op e) ρ Q ↔ Ov ρ[i]? fun s => Osd s fun x => We Γ G e ρ fun r ρ1 => Od r fun y => Ov (augD op x y) fun d => Q (.nx (ρ1.set i (.v d))) := by
  cases h : ρ[i]? with
  | none => simp [Ov_some, Ov_none, Wx, ex, h]
  | some s =>
    cases s with
    | v x =>
      cases h2 : ev Γ G e ρ with
      | none => simp [Ov_some, Ov_none, Wx, ex, We, Osd, h, h2]
      | some p =>
        obtain ⟨r, ρ1⟩ := p
        cases r with
        | v y => cases op <;> cases x <;> cases y <;> simp [Ov_some, Ov_none, Wx, ex, We, Osd, Od, augD, h, h2]
        | _ => simp [Ov_some, Ov_none, Wx, ex, We, Osd, Od, h, h2]
    | _ => simp [Ov_some, Ov_none, Wx, ex, Osd, h]
theorem Wx_seti {k : E} : Wx Γ G (.seti i k e) ρ Q ↔ Ov ρ[i]? fun s => Ol s fun _ => We Γ G e ρ fun r ρ1 => Ov (toV r) fun d => We Γ G k ρ1 fun r' ρ2 => Oi r' fun j => Ov ρ2[i]? fun s => Ol s fun xs => Ov (L2.ixN xs.length j) fun n => Q (.nx (ρ2.set i (.o (.l (xs.set n d))))) := by
  cases h : ρ[i]? with
  | none => simp [Ov_some, Ov_none, Wx, ex, h]
  | some s =>
    cases s with
    | o b =>
      cases b with
      | d zs => simp [Ov_some, Ov_none, Wx, ex, Ol, h]
      | l zs =>
        cases h2 : ev Γ G e ρ with
        | none => simp [Ov_some, Ov_none, Wx, ex, We, Ol, h, h2]
        | some p =>
          obtain ⟨r, ρ1⟩ := p
          cases h3 : toV r with
          | none => simp [Ov_some, Ov_none, Wx, ex, We, Ol, h, h2, h3]
          | some d =>
            cases h4 : ev Γ G k ρ1 with
            | none => simp [Ov_some, Ov_none, Wx, ex, We, Ol, h, h2, h3, h4]
            | some p =>
              obtain ⟨r', ρ2⟩ := p
              cases r' with
              | v d =>
                cases d with
                | int j =>
                  cases h5 : ρ2[i]? with
                  | none => simp [Ov_some, Ov_none, Wx, ex, We, Ol, Oi, h, h2, h3, h4, h5]
                  | some s =>
                    cases s with
                    | o b =>
                      cases b with
                      | d zs => simp [Ov_some, Ov_none, Wx, ex, We, Ol, Oi, h, h2, h3, h4, h5]
                      | l xs => cases h6 : L2.ixN xs.length j <;> simp [Ov_some, Ov_none, Wx, ex, We, Ol, Oi, h, h2, h3, h4, h5, h6]
                    | _ => simp [Ov_some, Ov_none, Wx, ex, We, Ol, Oi, h, h2, h3, h4, h5]
                | _ => simp [Ov_some, Ov_none, Wx, ex, We, Ol, Oi, h, h2, h3, h4]
              | _ => simp [Ov_some, Ov_none, Wx, ex, We, Ol, Oi, h, h2, h3, h4]
    | _ => simp [Ov_some, Ov_none, Wx, ex, Ol, h]
theorem Wx_setd {k : E} : Wx Γ G (.setd i k e) ρ Q ↔ Ov ρ[i]? fun s => Osk s fun _ => We Γ G e ρ fun r ρ1 => Ov (toV r) fun d => We Γ G k ρ1 fun rk ρ2 => Ov (toV rk) fun y => Ov ρ2[i]? fun s => Osk s fun kvs => Ov (DPK.dstore kvs y d) fun kvs' => Q (.nx (ρ2.set i (.o (.d kvs')))) := by
  cases h : ρ[i]? with
  | none => simp [Ov_some, Ov_none, Wx, ex, h]
  | some s =>
    cases s with
    | o b =>
      cases b with
      | l zs => simp [Ov_some, Ov_none, Wx, ex, Osk, h]
      | d zs =>
        cases h2 : ev Γ G e ρ with
        | none => simp [Ov_some, Ov_none, Wx, ex, We, Osk, h, h2]
        | some p =>
          obtain ⟨r, ρ1⟩ := p
          cases h3 : toV r with
          | none => simp [Ov_some, Ov_none, Wx, ex, We, Osk, h, h2, h3]
          | some d =>
            cases h4 : ev Γ G k ρ1 with
            | none => simp [Ov_some, Ov_none, Wx, ex, We, Osk, h, h2, h3, h4]
            | some p =>
              obtain ⟨rk, ρ2⟩ := p
              cases h5 : toV rk with
              | none => simp [Ov_some, Ov_none, Wx, ex, We, Osk, h, h2, h3, h4, h5]
              | some y =>
                cases h6 : ρ2[i]? with
                | none => simp [Ov_some, Ov_none, Wx, ex, We, Osk, h, h2, h3, h4, h5, h6]
                | some s =>
                  cases s with
                  | o b =>
                    cases b with
                    | l zs => simp [Ov_some, Ov_none, Wx, ex, We, Osk, h, h2, h3, h4, h5, h6]
                    | d kvs => cases h7 : DPK.dstore kvs y d <;> simp [Ov_some, Ov_none, Wx, ex, We, Osk, h, h2, h3, h4, h5, h6, h7]
                  | _ => simp [Ov_some, Ov_none, Wx, ex, We, Osk, h, h2, h3, h4, h5, h6]
    | _ => simp [Ov_some, Ov_none, Wx, ex, Osk, h]
theorem Wx_ex : Wx Γ G (.ex e) ρ Q ↔ We Γ G e ρ fun _ ρ1 => Q (.nx ρ1) := by
  cases h : ev Γ G e ρ with
  | none => simp [Ov_some, Ov_none, Wx, ex, We, h]
  | some p => obtain ⟨r, ρ1⟩ := p; simp [Ov_some, Ov_none, Wx, ex, We, h]
theorem Wx_ret : Wx Γ G (.ret e) ρ Q ↔ We Γ G e ρ fun r ρ1 => Ore r fun _ => Q (.rt r ρ1) := by
  cases h : ev Γ G e ρ with
  | none => simp [Ov_some, Ov_none, Wx, ex, We, h]
  | some p => obtain ⟨r, ρ1⟩ := p; cases r <;> simp [Ov_some, Ov_none, Wx, ex, We, Ore, h]
theorem Wx_retN : Wx Γ G .retN ρ Q ↔ Q (.rt (.v .none) ρ) := by simp [Ov_some, Wx, ex]
theorem Wx_brk : Wx Γ G .brk ρ Q ↔ Q (.bk ρ) := by simp [Ov_some, Wx, ex]
theorem Wx_cnt : Wx Γ G .cnt ρ Q ↔ Q (.ct ρ) := by simp [Ov_some, Wx, ex]
theorem Wx_pass : Wx Γ G .pass ρ Q ↔ Q (.nx ρ) := by simp [Ov_some, Wx, ex]
theorem Wx_ite {a b : Ss} : Wx Γ G (.ite c a b) ρ Q ↔ We Γ G c ρ fun r ρ1 => Obo r fun t => Cnd t (fun _ => Wxs Γ G a ρ1 Q) (fun _ => Wxs Γ G b ρ1 Q) := by
  cases h : ev Γ G c ρ with
  | none => simp [Ov_some, Ov_none, Wx, ex, We, h]
  | some p =>
    obtain ⟨r, ρ1⟩ := p
    cases r with
    | v d => cases d with
      | bool x => cases x <;> simp [Ov_some, Ov_none, Wx, Wxs, ex, We, Obo, Cnd, h]
      | _ => simp [Ov_some, Ov_none, Wx, ex, We, Obo, h]
    | _ => simp [Ov_some, Ov_none, Wx, ex, We, Obo, h]
theorem Wx_for : Wx Γ G (.for t it b) ρ Q ↔ Wei Γ G it ρ fun ds ρ1 => For Γ G t b ds ρ1 Q := by
  have e1 : ∀ ds ρ1, evi Γ G it ρ = some (ds, ρ1) → ex Γ G (.for t it b) ρ = forL (fLoop Γ G t b) ds ρ1 := fun ds ρ1 h => by
    simp only [ex, h]
    rfl
  cases h : evi Γ G it ρ with
  | none => simp [Ov_some, Ov_none, Wx, ex, Wei, h]
  | some p => obtain ⟨r, ρ1⟩ := p; simp [Ov_some, Ov_none, Wx, e1 _ _ h, Wei, For, h]
theorem Wx_fit {i : Nat} : Wx Γ G (.fit t i b) ρ Q ↔ Ov ρ[i]? fun s => Osd s fun d => Odd d fun kvs => DPK.kinds true kvs = true ∧ For Γ G t b (kvs.map fun p => PyData.tuple [p.1, p.2]) ρ Q := by
  cases h : ρ[i]? with
  | none => simp [Ov_some, Ov_none, Wx, ex, h]
  | some s =>
    cases s with
    | v d =>
      cases d with
      | dict kvs =>
        cases hk : DPK.kinds true kvs with
        | false => simp [Ov_some, Ov_none, Wx, ex, h, hk, Osd, Odd]
        | true =>
          have e1 : ex Γ G (.fit t i b) ρ = forL (fLoop Γ G t b) (kvs.map fun p => PyData.tuple [p.1, p.2]) ρ := by
            simp only [ex, h, hk, if_true]
            rfl
          simp [Ov_some, Ov_none, Wx, e1, For, h, hk, Osd, Odd]
      | _ => simp [Ov_some, Ov_none, Wx, ex, h, Osd, Odd]
    | _ => simp [Ov_some, Ov_none, Wx, ex, h, Osd]
/-- what the loop asks of a turn -/
def TurnQ (Q : Out → Prop) (I : PEnv → Prop) : Out → Prop
  | .nx ρ => I ρ
  | .ct ρ => I ρ
  | .bk ρ => Q (.nx ρ)
  | .rt r ρ => Q (.rt r ρ)
theorem TurnQ_nx {I : PEnv → Prop} : TurnQ Q I (.nx ρ) ↔ I ρ := .rfl
theorem TurnQ_ct {I : PEnv → Prop} : TurnQ Q I (.ct ρ) ↔ I ρ := .rfl
theorem TurnQ_bk {I : PEnv → Prop} : TurnQ Q I (.bk ρ) ↔ Q (.nx ρ) := .rfl
theorem TurnQ_rt {I : PEnv → Prop} {r : R} : TurnQ Q I (.rt r ρ) ↔ Q (.rt r ρ) := .rfl
theorem forL_ok {f : D → PEnv → Option Out} : ∀ (ds : List D) (ρ : PEnv) (I : Nat → PEnv → Prop), I 0 ρ → (∀ i d ρ, ds[i]? = some d → I i ρ → Ov (f d ρ) (TurnQ Q (I (i + 1)))) → (∀ ρ, I ds.length ρ → Q (.nx ρ)) → Ov (forL f ds ρ) Q
  | [], ρ, I, h0, _, he => Ov_some.mpr (he ρ h0)
  | d :: ds, ρ, I, h0, hs, he => by
    obtain ⟨o, e, q⟩ := hs 0 d ρ rfl h0
    cases o with
    | nx ρ' => simp only [forL, e]; exact forL_ok ds ρ' (fun i => I (i + 1)) q (fun i d ρ h => hs (i + 1) d ρ (by simpa using h)) he
    | ct ρ' => simp only [forL, e]; exact forL_ok ds ρ' (fun i => I (i + 1)) q (fun i d ρ h => hs (i + 1) d ρ (by simpa using h)) he
    | bk ρ' => simp only [forL, e]; exact Ov_some.mpr q
    | rt r ρ' => simp only [forL, e]; exact Ov_some.mpr q
theorem For_ok {ds : List D} (I : Nat → PEnv → Prop) (h0 : I 0 ρ) (hs : ∀ i d ρ, ds[i]? = some d → I i ρ → Ov (asT t d ρ) fun ρ' => Wxs Γ G b ρ' (TurnQ Q (I (i + 1)))) (he : ∀ ρ, I ds.length ρ → Q (.nx ρ)) : For Γ G t b ds ρ Q := by
  refine forL_ok ds ρ I h0 (fun i d ρ h hI => ?_) he
  obtain ⟨ρ', e, q⟩ := hs i d ρ h hI
  unfold fLoop
  rw [e]
  exact q
/-- a while loop, with a number of turns that are left at most -/
theorem Whl_ok (I : Nat → PEnv → Prop) {n0 : Nat} (hn : n0 < whlFuel) (h0 : I n0 ρ) (hs : ∀ m ρ, I m ρ → We Γ G c ρ fun r ρ1 => Obo r fun x => Cnd x (fun _ => ∃ m', m = m' + 1 ∧ Wxs Γ G b ρ1 (TurnQ Q (I m'))) (fun _ => Q (.nx ρ1))) : Wx Γ G (.whl c b) ρ Q := by
  have key : ∀ (n m : Nat) (ρ : PEnv), m < n → I m ρ → Ov (whlL (fun ρ => match ev Γ G c ρ with
      | some (.v (.bool x), ρ1) => some (x, ρ1)
      | _ => none) (fun ρ => exs Γ G b ρ) n ρ) Q := by
    intro n
    induction n with
    | zero => intro m ρ h; omega
    | succ n ih =>
      intro m ρ hm hI
      obtain ⟨⟨r, ρ1⟩, e1, h⟩ := hs m ρ hI
      simp only at h
      cases r with
      | v d => cases d with
        | bool x =>
          have h := Obo_b.mp h
          simp only [whlL, e1]
          cases x with
          | false => exact Ov_some.mpr (Cnd_f.mp h)
          | true =>
            obtain ⟨m', e, o, e2, q⟩ := Cnd_t.mp h
            simp only [e2]
            cases o with
            | nx ρ' => exact ih m' ρ' (by omega) q
            | ct ρ' => exact ih m' ρ' (by omega) q
            | bk ρ' => exact Ov_some.mpr q
            | rt r ρ' => exact Ov_some.mpr q
        | _ => exact h.elim
      | _ => exact h.elim
  exact key whlFuel n0 ρ hn h0
theorem lcL_ok {f : D → PEnv → Option (List D × PEnv)} {own : List Nat} {Q : List D → PEnv → Prop} : ∀ (ds acc : List D) (ρ : PEnv) (I : Nat → List D → PEnv → Prop), I 0 acc ρ → (∀ i d ys ρ, ds[i]? = some d → I i ys ρ → Ov (f d (wipe ρ own)) fun p => I (i + 1) (ys ++ p.1) p.2) → (∀ ys ρ, I ds.length ys ρ → Q ys ρ) → Ov (lcL own f ds ρ) fun p => Q (acc ++ p.1) p.2
  | [], acc, ρ, I, h0, _, he => Ov_some.mpr (by simpa using he acc ρ h0)
  | d :: ds, acc, ρ, I, h0, hs, he => by
    obtain ⟨⟨ys, ρ'⟩, e, q⟩ := hs 0 d acc ρ rfl h0
    obtain ⟨⟨zs, ρ2⟩, e2, q2⟩ := lcL_ok (f := f) (own := own) (Q := Q) ds (acc ++ ys) ρ' (fun i => I (i + 1)) q (fun i d ys ρ h => hs (i + 1) d ys ρ (by simpa using h)) he
    simp only [lcL, e, e2]
    exact Ov_some.mpr (by simpa using q2)
theorem Lc_ok {c : Part} {own : List Nat} {ds : List D} {Q : R → PEnv → Prop} (I : Nat → List D → PEnv → Prop) (hl : ds.length ≤ sizeL) (hf : free ρ own = true) (h0 : I 0 [] ρ)
    (hs : ∀ i d ys ρ, ds[i]? = some d → I i ys ρ → Ov (asT t d (wipe ρ own)) fun ρ' => Wep Γ G c ρ' fun o ρ2 => Lt o (fun _ => We Γ G e ρ2 fun r ρ3 => Ov (toV r) fun y => I (i + 1) (ys ++ [y]) ρ3) (fun _ => I (i + 1) (ys ++ []) ρ2))
    (he : ∀ ys ρe, I ds.length ys ρe → Q (.fr (.l ys)) (back ρ ρe own)) : Lc Γ G t c e own ds ρ Q := by
  refine ⟨hl, hf, ?_⟩
  have := lcL_ok (f := lcf Γ G t c e) (own := own) (Q := fun ys ρe => Q (.fr (.l ys)) (back ρ ρe own)) ds [] ρ I h0 (fun i d ys ρ h hI => ?_) he
  · simpa using this
  · obtain ⟨ρ', e1, ⟨o, ρ2⟩, e2, q⟩ := hs i d ys ρ h hI
    simp only at q
    unfold lcf
    simp only [e1, e2]
    cases o with
    | none =>
      obtain ⟨⟨r, ρ3⟩, e3, y, e4, q⟩ := q
      simp only at e3 e4 q
      simp only [e3, e4]
      exact Ov_some.mpr q
    | some r =>
      cases r with
      | v d => cases d with
        | bool x => cases x with
          | true =>
            obtain ⟨⟨r, ρ3⟩, e3, y, e4, q⟩ := q
            simp only at e3 e4 q
            simp only [e3, e4]
            exact Ov_some.mpr q
          | false => exact Ov_some.mpr q
        | _ => exact q.elim
      | _ => exact q.elim
theorem Ls_ok {c : Part} {own : List Nat} {ds : List D} {Q : R → PEnv → Prop} (I : Nat → List D → PEnv → Prop) (hl : ds.length < 4000) (hf : free ρ own = true) (h0 : I 0 [] ρ)
    (hs : ∀ i d ys ρ, ds[i]? = some d → I i ys ρ → Ov (asT t d (wipe ρ own)) fun ρ' => Wep Γ G c ρ' fun o ρ2 => Lt o (fun _ => We Γ G e ρ2 fun r ρ3 => Ov (toV r) fun y => I (i + 1) (ys ++ [y]) ρ3) (fun _ => I (i + 1) (ys ++ []) ρ2))
    (he : ∀ ys ρe, I ds.length ys ρe → Ov (toInts ys) fun ns => Q (.v (.int ((usort ns).length : Nat))) (back ρ ρe own)) : Ls Γ G t c e own ds ρ Q := by
  refine ⟨hl, hf, ?_⟩
  have := lcL_ok (f := lcf Γ G t c e) (own := own) (Q := fun ys ρe => Ov (toInts ys) fun ns => Q (.v (.int ((usort ns).length : Nat))) (back ρ ρe own)) ds [] ρ I h0 (fun i d ys ρ h hI => ?_) he
  · simpa using this
  · obtain ⟨ρ', e1, ⟨o, ρ2⟩, e2, q⟩ := hs i d ys ρ h hI
    simp only at q
    unfold lcf
    simp only [e1, e2]
    cases o with
    | none =>
      obtain ⟨⟨r, ρ3⟩, e3, y, e4, q⟩ := q
      simp only at e3 e4 q
      simp only [e3, e4]
      exact Ov_some.mpr q
    | some r =>
      cases r with
      | v d => cases d with
        | bool x => cases x with
          | true =>
            obtain ⟨⟨r, ρ3⟩, e3, y, e4, q⟩ := q
            simp only at e3 e4 q
            simp only [e3, e4]
            exact Ov_some.mpr q
          | false => exact Ov_some.mpr q
        | _ => exact q.elim
      | _ => exact q.elim
theorem Wc_ok {P : Str → Option Fn} {f : Str} {d : Fn} {vs : List AV} {n : Nat} {Q : R → Option OB → Prop} (hP : P f = some d) (hs : shape vs d.np d.rf = true) (h : Wxs (sem P G n) G d.body (vs.map slotOf ++ List.replicate (d.nn - d.np) .un) (Fn1 d.rf Q)) : Wc (sem P G (n + 1)) f vs Q := by
  obtain ⟨o, e, q⟩ := h
  unfold Wc
  simp only [sem, hP, run, hs, if_true, e]
  cases o with
  | nx ρ => exact q
  | rt r ρ => cases r with
    | pk i => exact q.elim
    | _ => exact q
  | bk ρ => exact q.elim
  | ct ρ => exact q.elim
theorem Wc_mono {f : Str} {vs : List AV} {Q Q' : R → Option OB → Prop} (h : Wc Γ f vs Q) (i : ∀ r o, Q r o → Q' r o) : Wc Γ f vs Q' := let ⟨p, e, q⟩ := h; ⟨p, e, i _ _ q⟩
theorem Wc_eq {f : Str} {vs : List AV} {r : R} {o : Option OB} (h : Wc Γ f vs fun r' o' => r' = r ∧ o' = o) : Γ f vs = some (r, o) := by
  obtain ⟨⟨r', o'⟩, e, rfl, rfl⟩ := h
  exact e
theorem LcI_ok {c : Part} {own : List Nat} {ds : List D} {Q : List D → PEnv → Prop} (I : Nat → List D → PEnv → Prop) (h0 : I 0 [] ρ)
    (hs : ∀ i d ys ρ, ds[i]? = some d → I i ys ρ → Ov (asT t d (wipe ρ own)) fun ρ' => Wep Γ G c ρ' fun o ρ2 => Lt o (fun _ => We Γ G e ρ2 fun r ρ3 => Ov (toV r) fun y => I (i + 1) (ys ++ [y]) ρ3) (fun _ => I (i + 1) (ys ++ []) ρ2))
    (he : ∀ ys ρe, I ds.length ys ρe → Q ys ρe) : LcI Γ G t c e own ds ρ Q := by
  have := lcL_ok (f := lcf Γ G t c e) (own := own) (Q := fun ys ρe => Q ys ρe) ds [] ρ I h0 (fun i d ys ρ h hI => ?_) he
  · simpa [LcI] using this
  · obtain ⟨ρ', e1, ⟨o, ρ2⟩, e2, q⟩ := hs i d ys ρ h hI
    simp only at q
    unfold lcf
    simp only [e1, e2]
    cases o with
    | none =>
      obtain ⟨⟨r, ρ3⟩, e3, y, e4, q⟩ := q
      simp only at e3 e4 q
      simp only [e3, e4]
      exact Ov_some.mpr q
    | some r =>
      cases r with
      | v d => cases d with
        | bool x => cases x with
          | true =>
            obtain ⟨⟨r, ρ3⟩, e3, y, e4, q⟩ := q
            simp only at e3 e4 q
            simp only [e3, e4]
            exact Ov_some.mpr q
          | false => exact Ov_some.mpr q
        | _ => exact q.elim
      | _ => exact q.elim
theorem Lc2_ok {t1 : T} {it1 : It} {c c1 : Part} {own own1 : List Nat} {ds : List D} {Q : R → PEnv → Prop} (I : Nat → List D → PEnv → Prop) (hf : free ρ own = true) (h0 : I 0 [] ρ)
    (hs : ∀ i d ys ρ, ds[i]? = some d → I i ys ρ → Ov (asT t d (wipe ρ own)) fun ρ' => Wep Γ G c ρ' fun o ρ2 => Lt o (fun _ => Wei Γ G it1 ρ2 fun ds1 ρ3 => LcI Γ G t1 c1 e own1 ds1 ρ3 fun zs ρ4 => I (i + 1) (ys ++ zs) ρ4) (fun _ => I (i + 1) (ys ++ []) ρ2))
    (he : ∀ ys ρe, I ds.length ys ρe → ys.length ≤ sizeL ∧ Q (.fr (.l ys)) (back ρ ρe own)) : Lc2 Γ G t c t1 it1 c1 e own own1 ds ρ Q := by
  refine ⟨hf, ?_⟩
  have := lcL_ok (f := lcf2 Γ G t c it1 own1 (lcf Γ G t1 c1 e)) (own := own) (Q := fun ys ρe => ys.length ≤ sizeL ∧ Q (.fr (.l ys)) (back ρ ρe own)) ds [] ρ I h0 (fun i d ys ρ h hI => ?_) he
  · simpa using this
  · obtain ⟨ρ', e1, ⟨o, ρ2⟩, e2, q⟩ := hs i d ys ρ h hI
    simp only at q
    unfold lcf2
    simp only [e1, e2]
    have inner : (Wei Γ G it1 ρ2 fun ds1 ρ3 => LcI Γ G t1 c1 e own1 ds1 ρ3 fun zs ρ4 => I (i + 1) (ys ++ zs) ρ4) → Ov (match evi Γ G it1 ρ2 with
      | some (ds1, ρ3) => lcL own1 (lcf Γ G t1 c1 e) ds1 ρ3
      | none => none) fun p => I (i + 1) (ys ++ p.1) p.2 := fun q => by
      obtain ⟨⟨ds1, ρ3⟩, e3, q⟩ := q
      simp only [e3]
      exact q
    cases o with
    | none => exact inner q
    | some r =>
      cases r with
      | v d => cases d with
        | bool x => cases x with
          | true => exact inner q
          | false => exact Ov_some.mpr q
        | _ => exact q.elim
      | _ => exact q.elim
end
end DP
/-! The pure layer, part T: how the rewriter walks. -/
namespace DP
open PySem
theorem toC_v {ρ : PEnv} {d : D} : toC ρ (.v d) = some d := rfl
theorem toC_f {ρ : PEnv} {d : OB} : toC ρ (.fr d) = some (obD d) := rfl
theorem toC_p {ρ : PEnv} {i : Nat} : toC ρ (.pk i) = match ρ[i]? with
    | some (.o b) => some (obD b)
    | _ => none := rfl
theorem toInts_map : ∀ l : List Int, toInts (l.map .int) = some l
  | [] => rfl
  | x :: r => by simp [toInts, toInts_map r]
theorem eqv_int (a b : Int) : PyData.eqv (.int a) (.int b) = decide (a = b) := by
  show (a == b) = _
  exact Bool.eq_iff_iff.mpr (by simp)
theorem eqv_str (a b : Str) : PyData.eqv (.str a) (.str b) = decide (a = b) := rfl
theorem eqv_bool (a b : Bool) : PyData.eqv (.bool a) (.bool b) = (a == b) := rfl
theorem shp_int (a : Int) : SeqAt.shaped (.int a) = true := rfl
theorem shp_bool (a : Bool) : SeqAt.shaped (.bool a) = true := rfl
theorem shp_non : SeqAt.shaped .none = true := rfl
theorem Cnd_p {p : Prop} [Decidable p] {A B : Unit → Prop} (h : p → A ()) (h' : ¬p → B ()) : Cnd (decide p) A B := ⟨fun e => h (of_decide_eq_true e), fun e => h' (of_decide_eq_false e)⟩
theorem Cnd_pt {p : Prop} [Decidable p] {A B : Unit → Prop} (h : p) (h' : A ()) : Cnd (decide p) A B := Cnd_p (fun _ => h') fun n => absurd h n
theorem Cnd_pf {p : Prop} [Decidable p] {A B : Unit → Prop} (h : ¬p) (h' : B ()) : Cnd (decide p) A B := Cnd_p (fun n => absurd n h) fun _ => h'
theorem atD_nat {xs : List D} {i : Int} {K : D → Prop} (h0 : 0 ≤ i) (h1 : i < xs.length) (h : ∀ d, xs[i.toNat]? = some d → K d) : Ov (atD xs i) K := by
  have h2 : i.toNat < xs.length := by omega
  refine ⟨xs[i.toNat], ?_, h _ (List.getElem?_eq_getElem h2)⟩
  have := L2.atI_nat (List.getElem?_eq_getElem h2)
  rwa [Int.toNat_of_nonneg h0] at this
theorem atD_map {xs : List Int} {i : Int} {K : D → Prop} (h0 : 0 ≤ i) (h1 : i < xs.length) (h : ∀ d, xs[i.toNat]? = some d → K (.int d)) : Ov (atD (xs.map .int) i) K := by
  refine atD_nat h0 (by simpa using h1) fun d hd => ?_
  simp only [List.getElem?_map, Option.map_eq_some_iff] at hd
  obtain ⟨a, e, rfl⟩ := hd
  exact h a e
/-- one of three, four .. by a drawn number -/
theorem atD_all {xs : List D} {i : Int} {K : D → Prop} (h0 : 0 ≤ i) (h1 : i < xs.length) (h : ∀ d ∈ xs, K d) : Ov (atD xs i) K := atD_nat h0 h1 fun d hd => h d (List.mem_of_getElem? hd)
theorem irange_len (lo : Int) (n : Nat) : (irange lo n).length = n := by simp [irange]
theorem irange_at {lo : Int} {n i : Nat} {d : D} (h : (irange lo n)[i]? = some d) : i < n ∧ d = .int (lo + i) := by
  have h1 : i < n := by
    have := (List.getElem?_eq_some_iff.mp h).1
    rwa [irange_len] at this
  rw [irange_get lo n i h1] at h
  exact ⟨h1, (Option.some.inj h).symm⟩
theorem sz (n : Nat) (h : n ≤ 16777216) : n ≤ sizeL := h
theorem toBools_map : ∀ l : List Bool, toBools (l.map .bool) = some l
  | [] => rfl
  | x :: r => by simp [toBools, toBools_map r]
theorem canAll_map_bool : ∀ l : List Bool, SeqAt.shaped (.list (l.map .bool)) = true := by
  intro l
  have h1 : ∀ l : List Bool, PyData.depthAll (l.map .bool) = 0 := fun l => by
    induction l with
    | nil => rfl
    | cons b r ih => simp [PyData.depthAll, PyData.depth, ih]
  have h2 : ∀ l : List Bool, PyData.canLayAll0 (l.map .bool) = true := fun l => by
    induction l with
    | nil => rfl
    | cons b r ih => simp [PyData.canLayAll0, PyData.canLay0, ih]
  simp [SeqAt.shaped, PyData.canLay0, PyData.depth, h1, h2]
theorem any_eqv (l : List Bool) (b : Bool) : (l.map PyData.bool).any (fun z => PyData.eqv z (.bool b)) = l.any (fun x => x == b) := by
  induction l with
  | nil => rfl
  | cons x r ih => simp only [List.map_cons, List.any_cons, ih, eqv_bool]
theorem Cnd_cut {Γ : Sems} {G : Str → Option D} {t : Bool} {a b : Ss} {ρ1 : PEnv} {K : PEnv → Prop} {Q : Out → Prop} (I : PEnv → Prop) (h1 : t = true → Wxs Γ G a ρ1 fun o => Sq o I Q) (h2 : t = false → Wxs Γ G b ρ1 fun o => Sq o I Q) (h : ∀ ρ, I ρ → K ρ) :
    Cnd t (fun _ => Wxs Γ G a ρ1 fun o => Sq o K Q) (fun _ => Wxs Γ G b ρ1 fun o => Sq o K Q) := by
  have g : ∀ o, Sq o I Q → Sq o K Q := fun o => by cases o <;> first | exact h _ | exact id
  exact ⟨fun e => Ov_mono (h1 e) g, fun e => Ov_mono (h2 e) g⟩
theorem sm64_a : small64 48271 = true := rfl
theorem sm64_b : small64 69621 = true := rfl
theorem sm64_c : small64 3 = true := rfl
theorem sm64_d : small64 2 = true := rfl
theorem sm64_of {w : Int} (h : -18446744073709551616 < w) (h' : w < 18446744073709551616) : small64 w = true := by
  unfold small64
  rw [Bool.and_eq_true]
  exact ⟨decide_eq_true h, decide_eq_true h'⟩
theorem pow_a : bo .pow (.int 10) (.int 18) = some (.v (.int 1000000000000000000)) := by rfl
theorem ixN_of {n : Nat} {i : Int} (h0 : 0 ≤ i) (h1 : i < n) : L2.ixN n i = some i.toNat := by
  unfold L2.ixN
  rw [if_pos h0, if_pos h1]
theorem We_or' {Γ : Sems} {G : Str → Option D} {ρ : PEnv} {Q : R → PEnv → Prop} {a b : E} (h : We Γ G a ρ fun ra ρ1 => Obo ra fun x => We Γ G b ρ1 fun rb ρ2 => Obo rb fun y => ρ2 = ρ1 ∧ Q (.v (.bool (x || y))) ρ1) : We Γ G (.or2 a b) ρ Q := by
  rw [We_or]
  obtain ⟨⟨ra, ρ1⟩, e, h⟩ := h
  refine ⟨(ra, ρ1), e, ?_⟩
  cases ra with
  | v d => cases d with
    | bool x =>
      obtain ⟨⟨rb, ρ2⟩, e2, h⟩ := h
      cases rb with
      | v d => cases d with
        | bool y =>
          obtain ⟨h1, h2⟩ := h
          simp only at h1
          subst h1
          cases x
          · simp only [Obo_b, Cnd_t, Cnd_f]
            exact ⟨_, e2, by simpa using h2⟩
          · simp only [Obo_b, Cnd_t, Cnd_f]
            simpa using h2
        | _ => exact h.elim
      | _ => exact h.elim
    | _ => exact h.elim
  | _ => exact h.elim
theorem We_and' {Γ : Sems} {G : Str → Option D} {ρ : PEnv} {Q : R → PEnv → Prop} {a b : E} (h : We Γ G a ρ fun ra ρ1 => Obo ra fun x => We Γ G b ρ1 fun rb ρ2 => Obo rb fun y => ρ2 = ρ1 ∧ Q (.v (.bool (x && y))) ρ1) : We Γ G (.and2 a b) ρ Q := by
  rw [We_and]
  obtain ⟨⟨ra, ρ1⟩, e, h⟩ := h
  refine ⟨(ra, ρ1), e, ?_⟩
  cases ra with
  | v d => cases d with
    | bool x =>
      obtain ⟨⟨rb, ρ2⟩, e2, h⟩ := h
      cases rb with
      | v d => cases d with
        | bool y =>
          obtain ⟨h1, h2⟩ := h
          simp only at h1
          subst h1
          cases x
          · simp only [Obo_b, Cnd_t, Cnd_f]
            simpa using h2
          · simp only [Obo_b, Cnd_t, Cnd_f]
            exact ⟨_, e2, by simpa using h2⟩
        | _ => exact h.elim
      | _ => exact h.elim
    | _ => exact h.elim
  | _ => exact h.elim
theorem at0 {a : D} {l : List D} : atD (a :: l) 0 = some a := by
  have := L2.atI_nat (xs := a :: l) (j := 0) (v := a) rfl
  exact this
theorem at1 {a b : D} {l : List D} : atD (a :: b :: l) 1 = some b := by
  have := L2.atI_nat (xs := a :: b :: l) (j := 1) (v := b) rfl
  exact this
theorem at2 {a b c : D} {l : List D} : atD (a :: b :: c :: l) 2 = some c := by
  have := L2.atI_nat (xs := a :: b :: c :: l) (j := 2) (v := c) rfl
  exact this
theorem at3 {a b c d : D} {l : List D} : atD (a :: b :: c :: d :: l) 3 = some d := by
  have := L2.atI_nat (xs := a :: b :: c :: d :: l) (j := 3) (v := d) rfl
  exact this
theorem each_list {P : D → Bool → Prop} : ∀ (cs : List D), (∀ c ∈ cs, ∃ b, P c b) → ∃ bs : List Bool, bs.length = cs.length ∧ ∀ (i : Nat) (c : D), cs[i]? = some c → ∃ b, bs[i]? = some b ∧ P c b
  | [], _ => ⟨[], rfl, fun i c h => by simp at h⟩
  | c :: cs, h => by
    obtain ⟨b, hb⟩ := h c List.mem_cons_self
    obtain ⟨bs, hl, hs⟩ := each_list cs fun c hc => h c (List.mem_cons_of_mem _ hc)
    refine ⟨b :: bs, by simp [hl], fun i c' hi => ?_⟩
    cases i with
    | zero => simp at hi; subst hi; exact ⟨b, rfl, hb⟩
    | succ i => exact hs i c' (by simpa using hi)
theorem take_snoc {α : Type} {l : List α} {i : Nat} {a : α} (h : l[i]? = some a) : l.take (i + 1) = l.take i ++ [a] := by
  rw [List.take_add_one, h]
  rfl
theorem beq_dec (a b : Bool) : (a == b) = decide (a = b) := by cases a <;> cases b <;> rfl
end DP
namespace K96
open PySem PySem.Spec PyProof.Rows L2 DP
def topS (i : Nat) : Stmt := PySem.Challenge.pw_anyvalues_k96_numbers_of_small_logs.main.body.getD i (.Pass ⟨0, 0, 0, 0⟩)
def f_ways_before : Fn := ⟨5, none, 7, .cons (.ite (.cmp .eq (.var 2) (.int 0)) (.cons (.ret (.bi .int (.cons (.cmp .eq (.var 3) (.int 0)) .nil))) .nil) .nil) (.cons (.asg (.nm 5) (.bin .mul (.var 4) (.dget (.var 0) (.tup (.cons (.bin .sub (.var 2) (.int 1)) (.cons (.var 3) (.cons (.var 4) .nil)))) (.some (.int 0))))) (.cons (.asg (.nm 6) (.bin .mul (.var 3) (.dget (.var 0) (.tup (.cons (.bin .sub (.var 2) (.int 1)) (.cons (.bin .sub (.var 3) (.int 1)) (.cons (.bin .add (.var 4) (.int 1)) .nil)))) (.some (.int 0))))) (.cons (.ret (.bin .add (.bin .add (.var 5) (.var 6)) (.dget (.var 1) (.tup (.cons (.bin .sub (.var 2) (.int 1)) (.cons (.var 3) (.cons (.bin .add (.var 4) (.int 1)) .nil)))) (.some (.int 0))))) .nil)))⟩
def ef_ways_before : DefE := ⟨"ways_before", topS 1, ["ways", "tails", "rest", "holes", "used", "same", "filled"], ["ways", "tails", "rest", "holes", "used"], f_ways_before, "ways_before"⟩
def f_ways_of : Fn := ⟨1, none, 7, .cons (.own 1 .dnew) (.cons (.own 2 .dnew) (.cons (.for (.nm 3) (.r1 (.bin .add (.var 0) (.int 1))) (.cons (.for (.nm 4) (.r1 (.bin .add (.bin .sub (.var 0) (.var 3)) (.int 1))) (.cons (.asg (.nm 5) (.int 0)) (.cons (.for (.nm 6) (.rd (.var 3) (.int (-1)) (.int (-1))) (.cons (.setd 1 (.tup (.cons (.var 3) (.cons (.var 6) (.cons (.var 4) .nil)))) (.calll "ways_before" (.lend 1 (.lend 2 (.cons (.var 3) (.cons (.var 6) (.cons (.var 4) .nil))))))) (.cons (.aug 5 .add (.idx (.pk 1) (.tup (.cons (.var 3) (.cons (.var 6) (.cons (.var 4) .nil)))))) (.cons (.setd 2 (.tup (.cons (.var 3) (.cons (.var 6) (.cons (.var 4) .nil)))) (.var 5)) .nil)))) .nil))) .nil)) (.cons (.ret (.mov 1)) .nil)))⟩
def ef_ways_of : DefE := ⟨"ways_of", topS 2, ["n", "ways", "tails", "rest", "used", "total", "holes"], ["n"], f_ways_of, "ways_of"⟩
def f_ways_with : Fn := ⟨3, none, 4, .cons (.asg (.nm 3) (.bi .lenset (.cons (.var 2) .nil))) (.cons (.ret (.dget (.var 0) (.tup (.cons (.bin .sub (.var 1) (.bi .len (.cons (.var 2) .nil))) (.cons (.bin .sub (.bin .add (.bi .max (.cons (.var 2) .nil)) (.int 1)) (.var 3)) (.cons (.var 3) .nil)))) (.some (.int 0)))) .nil)⟩
def ef_ways_with : DefE := ⟨"ways_with", topS 3, ["ways", "n", "values", "used"], ["ways", "n", "values"], f_ways_with, "ways_with"⟩
def f_log_of_number : Fn := ⟨2, none, 6, .cons (.asg (.nm 2) (.call "ways_of" (.cons (.var 0) .nil))) (.cons (.asg (.nm 3) (.tup .nil)) (.cons (.for (.nm 4) (.r1 (.var 0)) (.cons (.asg (.nm 5) (.int 0)) (.cons (.whl (.cmp .ge (.var 1) (.call "ways_with" (.cons (.var 2) (.cons (.var 0) (.cons (.bin .add (.var 3) (.tup (.cons (.var 5) .nil))) .nil))))) (.cons (.aug 1 .sub (.call "ways_with" (.cons (.var 2) (.cons (.var 0) (.cons (.bin .add (.var 3) (.tup (.cons (.var 5) .nil))) .nil))))) (.cons (.aug 5 .add (.int 1)) .nil))) (.cons (.asg (.nm 3) (.bin .add (.var 3) (.tup (.cons (.var 5) .nil)))) .nil)))) (.cons (.ret (.bi .tuple (.cons (.lc (.nm 5) (.seq (.var 3)) .none [5] (.tup (.cons (.int 0) (.cons (.var 5) .nil)))) .nil))) .nil)))⟩
def ef_log_of_number : DefE := ⟨"log_of_number", topS 4, ["n", "number", "ways", "values", "_", "value"], ["n", "number"], f_log_of_number, "log_of_number"⟩
def f_number_of_log : Fn := ⟨1, none, 8, .cons (.asg (.nm 1) (.bi .tuple (.cons (.lc (.tp (.cons (.nm 7) (.cons (.nm 5) .nil))) (.seq (.var 0)) .none [5, 7] (.var 5)) .nil))) (.cons (.asg (.nm 2) (.call "ways_of" (.cons (.bi .len (.cons (.var 1) .nil)) .nil))) (.cons (.asg (.nm 3) (.int 0)) (.cons (.for (.tp (.cons (.nm 4) (.cons (.nm 5) .nil))) (.enum (.var 1)) (.cons (.for (.nm 6) (.r1 (.var 5)) (.cons (.aug 3 .add (.call "ways_with" (.cons (.var 2) (.cons (.bi .len (.cons (.var 1) .nil)) (.cons (.bin .add (.slc (.var 1) .none (.some (.var 4))) (.tup (.cons (.var 6) .nil))) .nil))))) .nil)) .nil)) (.cons (.ret (.mov 3)) .nil))))⟩
def ef_number_of_log : DefE := ⟨"number_of_log", topS 5, ["log", "values", "ways", "number", "index", "value", "lower", "_"], ["log"], f_number_of_log, "number_of_log"⟩
def f_orders : Fn := ⟨1, none, 5, .cons (.asg (.nm 1) (.bin .add (.lst (.cons (.int 1) .nil)) (.bin .mul (.lst (.cons (.int 0) .nil)) (.var 0)))) (.cons (.for (.nm 2) (.r1 (.var 0)) (.cons (.own 3 (.lst (.cons (.int 0) .nil))) (.cons (.for (.nm 4) (.r2 (.int 1) (.bin .add (.var 0) (.int 1))) (.cons (.ex (.meth .append 3 (.cons (.bin .mul (.var 4) (.bin .add (.idx (.var 1) (.var 4)) (.idx (.var 1) (.bin .sub (.var 4) (.int 1))))) .nil))) .nil)) (.cons (.asg (.nm 1) (.var 3)) .nil)))) (.cons (.ret (.bi .sum (.cons (.var 1) .nil))) .nil))⟩
def ef_orders : DefE := ⟨"orders", topS 7, ["n", "counts", "_", "after", "values"], ["n"], f_orders, "orders"⟩
def f_law_draws : Fn := ⟨2, none, 9, .cons (.own 2 (.lc (.nm 7) (.seq (.var 0)) .none [7] (.bi .int (.cons (.var 7) .nil)))) (.cons (.ite (.cmp .eq (.bi .len (.cons (.pk 2) .nil)) (.int 0)) (.cons (.ex (.meth .append 2 (.cons (.int 0) .nil))) .nil) .nil) (.cons (.own 3 (.bi .list (.cons (.pk 2) .nil))) (.cons (.own 4 (.lst .nil)) (.cons (.for (.nm 5) (.r1 (.var 1)) (.cons (.asg (.nm 6) (.bin .mod (.var 5) (.bi .len (.cons (.pk 2) .nil)))) (.cons (.ite (.cmp .ge (.idx (.pk 2) (.var 6)) (.bin .pow (.int 10) (.int 18))) (.cons (.ex (.meth .append 4 (.cons (.bin .mod (.bi .int (.cons (.idx (.pk 3) (.var 6)) .nil)) (.int 1000)) .nil))) (.cons (.seti 3 (.var 6) (.bin .fdiv (.idx (.pk 3) (.var 6)) (.int 1000))) .nil)) (.cons (.asg (.nm 8) (.bin .mod (.bi .int (.cons (.bin .add (.bin .add (.bin .mul (.idx (.pk 2) (.var 6)) (.int 48271)) (.bin .mul (.var 5) (.int 69621))) (.int 11)) .nil)) (.int 2147483647))) (.cons (.ex (.meth .append 4 (.cons (.bin .mod (.bi .int (.cons (.bin .add (.bin .add (.bin .mul (.var 8) (.var 8)) (.bin .mul (.int 3) (.var 8))) (.var 5)) .nil)) (.int 1000003)) .nil))) .nil))) .nil))) (.cons (.ex (.meth .reverse 4 .nil)) (.cons (.ret (.mov 4)) .nil))))))⟩
def ef_law_draws : DefE := ⟨"_law_draws", topS 9, ["_law_script", "_law_many", "_law_cells", "_law_rest", "_law_draws_here", "_law_k", "_law_at", "_law_cell", "_law_once"], ["_law_script", "_law_many"], f_law_draws, "_law_draws"⟩
def f_law_take : Fn := ⟨2, some 0, 2, .cons (.ite (.cmp .eq (.bi .len (.cons (.pk 0) .nil)) (.int 0)) (.cons (.ret (.int 0)) .nil) .nil) (.cons (.ret (.bin .mod (.bi .int (.cons (.meth .pop 0 .nil) .nil)) (.var 1))) .nil)⟩
def ef_law_take : DefE := ⟨"_law_take", topS 10, ["_law_draws_here", "_law_many"], ["_law_draws_here", "_law_many"], f_law_take, "_law_take"⟩
def f_law_tights : Fn := ⟨1, none, 6, .cons (.asg (.nm 1) (.lst (.cons (.tup .nil) .nil))) (.cons (.for (.nm 2) (.r1 (.var 0)) (.cons (.own 3 (.lst .nil)) (.cons (.for (.nm 4) (.seq (.var 1)) (.cons (.for (.nm 5) (.r1 (.var 0)) (.cons (.ex (.meth .append 3 (.cons (.bin .add (.var 4) (.tup (.cons (.var 5) .nil))) .nil))) .nil)) .nil)) (.cons (.asg (.nm 1) (.var 3)) .nil)))) (.cons (.ret (.lc (.nm 4) (.seq (.var 1)) (.some (.cmp .eq (.bi .lenset (.cons (.var 4) .nil)) (.bin .add (.bi .max (.cons (.bin .add (.tup (.cons (.int (-1)) .nil)) (.var 4)) .nil)) (.int 1)))) [4] (.var 4))) .nil))⟩
def ef_law_tights : DefE := ⟨"_law_tights", topS 11, ["_law_many", "_law_rows", "_law_k", "_law_longer", "_law_row", "_law_value"], ["_law_many"], f_law_tights, "_law_tights"⟩
def f_law_is_count : Fn := ⟨2, none, 2, .cons (.ret (.and2 (.bi (.isI .int) (.cons (.var 0) .nil)) (.and2 (.not (.bi (.isI .bool) (.cons (.var 0) .nil))) (.cmp .eq (.var 0) (.var 1))))) .nil⟩
def ef_law_is_count : DefE := ⟨"_law_is_count", topS 12, ["_law_actual", "_law_due"], ["_law_actual", "_law_due"], f_law_is_count, "_law_is_count"⟩
def f_law_same : Fn := ⟨2, none, 3, .cons (.ite (.cmp .isN (.var 1) .non) (.cons (.ret (.cmp .isN (.var 0) .non)) .nil) .nil) (.cons (.ite (.bi (.isI .str) (.cons (.var 1) .nil)) (.cons (.ret (.and2 (.bi (.isI .str) (.cons (.var 0) .nil)) (.cmp .eq (.var 0) (.var 1)))) .nil) .nil) (.cons (.ite (.bi (.isI .int) (.cons (.var 1) .nil)) (.cons (.ret (.and2 (.bi (.isI .int) (.cons (.var 0) .nil)) (.and2 (.not (.bi (.isI .bool) (.cons (.var 0) .nil))) (.cmp .eq (.var 0) (.var 1))))) .nil) .nil) (.cons (.ite (.or2 (.not (.bi (.isI .tuple) (.cons (.var 0) .nil))) (.cmp .ne (.bi .len (.cons (.var 0) .nil)) (.bi .len (.cons (.var 1) .nil)))) (.cons (.ret (.bl false)) .nil) .nil) (.cons (.for (.nm 2) (.r1 (.bi .len (.cons (.var 1) .nil))) (.cons (.ite (.not (.call "_law_same" (.cons (.idx (.var 0) (.var 2)) (.cons (.idx (.var 1) (.var 2)) .nil)))) (.cons (.ret (.bl false)) .nil) .nil) .nil)) (.cons (.ret (.bl true)) .nil)))))⟩
def ef_law_same : DefE := ⟨"_law_same", topS 13, ["_law_actual", "_law_due", "_law_k"], ["_law_actual", "_law_due"], f_law_same, "_law_same"⟩
def f_law : Fn := ⟨1, none, 9, .cons (.own 1 (.call "_law_draws" (.cons (.var 0) (.cons (.int 50) .nil)))) (.cons (.for (.nm 2) (.r1 (.bin .add (.int 5) (.bi .int (.cons (.cmp .eq (.call "_law_take" (.ref 1 (.cons (.int 4) .nil))) (.int 3)) .nil)))) (.cons (.asg (.nm 3) (.bi .sortedD (.cons (.lc (.nm 6) (.seq (.call "_law_tights" (.cons (.var 2) .nil))) .none [6] (.bi .tuple (.cons (.lc (.nm 8) (.seq (.var 6)) .none [8] (.tup (.cons (.int 0) (.cons (.var 8) .nil)))) .nil))) .nil))) (.cons (.ite (.cmp .ne (.call "orders" (.cons (.var 2) .nil)) (.bi .len (.cons (.var 3) .nil))) (.cons (.ret (.bl false)) .nil) .nil) (.cons (.asg (.nm 4) (.bin .add (.bin .add (.bi .rangelist1 (.cons (.bi .min2 (.cons (.int 13) (.cons (.bi .len (.cons (.var 3) .nil)) .nil))) .nil)) (.lc (.nm 7) (.r1 (.int 8)) .none [7] (.call "_law_take" (.ref 1 (.cons (.bi .len (.cons (.var 3) .nil)) .nil))))) (.lst (.cons (.bin .sub (.bi .len (.cons (.var 3) .nil)) (.int 1)) .nil)))) (.cons (.for (.nm 5) (.seq (.var 4)) (.cons (.ite (.not (.call "_law_same" (.cons (.call "log_of_number" (.cons (.var 2) (.cons (.var 5) .nil))) (.cons (.idx (.var 3) (.var 5)) .nil)))) (.cons (.ret (.bl false)) .nil) .nil) (.cons (.ite (.not (.call "_law_is_count" (.cons (.call "number_of_log" (.cons (.idx (.var 3) (.var 5)) .nil)) (.cons (.var 5) .nil)))) (.cons (.ret (.bl false)) .nil) .nil) .nil))) .nil))))) (.cons (.ret (.bl true)) .nil))⟩
def ef_law : DefE := ⟨"law", topS 14, ["_law_script", "_law_draws_here", "_law_n", "_law_logs", "_law_asked", "_law_number", "_law_row", "_law_k", "_law_value"], ["_law_script"], f_law, "law"⟩
def L : List DefE := [ef_ways_before, ef_ways_of, ef_ways_with, ef_log_of_number, ef_number_of_log, ef_orders, ef_law_draws, ef_law_take, ef_law_tights, ef_law_is_count, ef_law_same, ef_law]
def Pr : Str → Option Fn := DP.ofL L
theorem pf_ways_before : Pr "ways_before" = some f_ways_before := by rfl
theorem pf_ways_of : Pr "ways_of" = some f_ways_of := by rfl
theorem pf_ways_with : Pr "ways_with" = some f_ways_with := by rfl
theorem pf_log_of_number : Pr "log_of_number" = some f_log_of_number := by rfl
theorem pf_number_of_log : Pr "number_of_log" = some f_number_of_log := by rfl
theorem pf_orders : Pr "orders" = some f_orders := by rfl
theorem pf_law_draws : Pr "_law_draws" = some f_law_draws := by rfl
theorem pf_law_take : Pr "_law_take" = some f_law_take := by rfl
theorem pf_law_tights : Pr "_law_tights" = some f_law_tights := by rfl
theorem pf_law_is_count : Pr "_law_is_count" = some f_law_is_count := by rfl
theorem pf_law_same : Pr "_law_same" = some f_law_same := by rfl
theorem pf_law : Pr "law" = some f_law := by rfl
def Gc : Str → Option D := fun g => none
theorem cf_ways_before : ef_ways_before.chk = true := by decide +kernel
theorem cf_ways_of : ef_ways_of.chk = true := by decide +kernel
theorem cf_ways_with : ef_ways_with.chk = true := by decide +kernel
theorem cf_log_of_number : ef_log_of_number.chk = true := by decide +kernel
theorem cf_number_of_log : ef_number_of_log.chk = true := by decide +kernel
theorem cf_orders : ef_orders.chk = true := by decide +kernel
theorem cf_law_draws : ef_law_draws.chk = true := by decide +kernel
theorem cf_law_take : ef_law_take.chk = true := by decide +kernel
theorem cf_law_tights : ef_law_tights.chk = true := by decide +kernel
theorem cf_law_is_count : ef_law_is_count.chk = true := by decide +kernel
theorem cf_law_same : ef_law_same.chk = true := by decide +kernel
theorem cf_law : ef_law.chk = true := by decide +kernel
abbrev sm (n : Nat) := sem Pr Gc n
end K96
namespace K96
open PySem L2 DP
theorem take_ok {n : Nat} {ds : List Int} {m : Int} {Q : R → Option OB → Prop} (hm : 0 < m) (h : ∀ (x : Int) (ds' : List Int), 0 ≤ x → x < m → Q (.v (.int x)) (some (.l (ds'.map .int)))) : Wc (sm (n + 1)) "_law_take" [.r (.l (ds.map .int)), .v (.int m)] Q := by
  (refine Wc_ok pf_law_take rfl ?_; unfold f_law_take; dsimp only)
  try simp (config := {decide := true, dsimp := false}) only [Wxs_nil, Wxs_cons, Wx_asg, Wx_own, Wx_aug, Wx_seti, Wx_ex, Wx_ret, Wx_retN, Wx_brk, Wx_cnt, Wx_pass, Wx_ite, Wx_for, Wx_fit, We_var, We_mov, We_pk, We_int, We_str, We_bl, We_non, We_glob, We_bin, We_cmp, We_idx, We_neg, We_not, We_and, We_or, We_ife, We_chain, Wes_nil, Wes_cons, Wec_nil, Wec_cons, Wea_nil, Wea_cons, Wea_ref, Wea_lend, We_calll, Wei_rd, Wep_n, Wep_s, We_tup, We_lst, We_call, We_bi, We_meth, We_slc, We_lc, We_lc2, We_mx, We_rev, We_dnew, We_dsp, We_dget, Wx_setd, We_lsc, We_callv, fnN_fnD, Odd_b, Osk_b, obD_l, obD_d, dfl, Wei_zip, Old_b, Wei_seq, Wei_enum, Wei_r1, Wei_r2, Ov_some, Ov_none, Ov_if, Ov_map, Cnd_t, Cnd_f, Aft_n, Aft_s, Obo_b, Oi_b, Ofr_b, Od_b, Ol_b, Osd_b, Osb_b, Ore_v, Ore_f, Sq_nx, Sq_rt, Sq_bk, Sq_ct, Lt_n, Lt_b, Fn1_nx, Fn1_rv, Fn1_rf, Fin1_n, Fin1_s, TurnQ_nx, TurnQ_ct, TurnQ_bk, TurnQ_rt, toC_v, toC_f, toC_p, toV, argsOf, argsL, flatR, flatD, refs, asT, asTs, bo, co, DP.bi, ix, augD, DP.meth, DP.slice, optI, seqOf, DP.wipe, back, DP.free, isI, truth, toInts_map, DP.isNon, sm64_a, sm64_b, sm64_c, sm64_d, pow_a, at0, at1, at2, at3, List.getElem?_cons_zero, List.getElem?_cons_succ, List.getElem?_nil, List.set_cons_zero, List.set_cons_succ, List.mapM_cons, List.mapM_nil, Option.pure_def, Option.bind_eq_bind, Option.bind_some, Option.map_some, Option.map_none, Option.getD_some, Option.getD_none, Option.join_some, List.length_cons, List.length_nil, List.length_map, List.map_cons, List.map_nil, List.cons_append, List.nil_append, List.getD_cons_zero, List.getD_cons_succ, Nat.reduceAdd, Nat.reduceSub, Nat.reduceLeDiff, Nat.reduceLT, Int.reduceLT, Int.reduceLE, Int.reduceNeg, Int.reducePow, Nat.reduceMul, Int.reduceAdd, Int.reduceSub, Int.reduceMul, Int.reduceToNat, Bool.not_true, Bool.not_false, Bool.and_true, Bool.true_and, Bool.and_false, Bool.false_and, Bool.or_true, Bool.or_false, Bool.true_or, Bool.false_or, decide_true, decide_false, and_true, true_and, and_false, false_and, or_true, or_false, true_or, false_or, if_true, if_false, eqv_int, eqv_str, eqv_bool, shp_int, shp_bool, shp_non, toBools_map, Bool.and_self, eq_self, Bool.false_eq_true, reduceCtorEq, reduceIte, List.all_cons, List.all_nil, slotOf, List.replicate_zero, List.append_nil, List.replicate_succ]
  refine Cnd_p (fun hc => ?_) fun hc => ?_
  · try simp (config := {decide := true, dsimp := false}) only [Wxs_nil, Wxs_cons, Wx_asg, Wx_own, Wx_aug, Wx_seti, Wx_ex, Wx_ret, Wx_retN, Wx_brk, Wx_cnt, Wx_pass, Wx_ite, Wx_for, Wx_fit, We_var, We_mov, We_pk, We_int, We_str, We_bl, We_non, We_glob, We_bin, We_cmp, We_idx, We_neg, We_not, We_and, We_or, We_ife, We_chain, Wes_nil, Wes_cons, Wec_nil, Wec_cons, Wea_nil, Wea_cons, Wea_ref, Wea_lend, We_calll, Wei_rd, Wep_n, Wep_s, We_tup, We_lst, We_call, We_bi, We_meth, We_slc, We_lc, We_lc2, We_mx, We_rev, We_dnew, We_dsp, We_dget, Wx_setd, We_lsc, We_callv, fnN_fnD, Odd_b, Osk_b, obD_l, obD_d, dfl, Wei_zip, Old_b, Wei_seq, Wei_enum, Wei_r1, Wei_r2, Ov_some, Ov_none, Ov_if, Ov_map, Cnd_t, Cnd_f, Aft_n, Aft_s, Obo_b, Oi_b, Ofr_b, Od_b, Ol_b, Osd_b, Osb_b, Ore_v, Ore_f, Sq_nx, Sq_rt, Sq_bk, Sq_ct, Lt_n, Lt_b, Fn1_nx, Fn1_rv, Fn1_rf, Fin1_n, Fin1_s, TurnQ_nx, TurnQ_ct, TurnQ_bk, TurnQ_rt, toC_v, toC_f, toC_p, toV, argsOf, argsL, flatR, flatD, refs, asT, asTs, bo, co, DP.bi, ix, augD, DP.meth, DP.slice, optI, seqOf, DP.wipe, back, DP.free, isI, truth, toInts_map, DP.isNon, sm64_a, sm64_b, sm64_c, sm64_d, pow_a, at0, at1, at2, at3, List.getElem?_cons_zero, List.getElem?_cons_succ, List.getElem?_nil, List.set_cons_zero, List.set_cons_succ, List.mapM_cons, List.mapM_nil, Option.pure_def, Option.bind_eq_bind, Option.bind_some, Option.map_some, Option.map_none, Option.getD_some, Option.getD_none, Option.join_some, List.length_cons, List.length_nil, List.length_map, List.map_cons, List.map_nil, List.cons_append, List.nil_append, List.getD_cons_zero, List.getD_cons_succ, Nat.reduceAdd, Nat.reduceSub, Nat.reduceLeDiff, Nat.reduceLT, Int.reduceLT, Int.reduceLE, Int.reduceNeg, Int.reducePow, Nat.reduceMul, Int.reduceAdd, Int.reduceSub, Int.reduceMul, Int.reduceToNat, Bool.not_true, Bool.not_false, Bool.and_true, Bool.true_and, Bool.and_false, Bool.false_and, Bool.or_true, Bool.or_false, Bool.true_or, Bool.false_or, decide_true, decide_false, and_true, true_and, and_false, false_and, or_true, or_false, true_or, false_or, if_true, if_false, eqv_int, eqv_str, eqv_bool, shp_int, shp_bool, shp_non, toBools_map, Bool.and_self, eq_self, Bool.false_eq_true, reduceCtorEq, reduceIte, List.all_cons, List.all_nil, slotOf, List.replicate_zero, List.append_nil, List.replicate_succ]
    exact h 0 ds (Int.le_refl _) hm
  · try simp (config := {decide := true, dsimp := false}) only [Wxs_nil, Wxs_cons, Wx_asg, Wx_own, Wx_aug, Wx_seti, Wx_ex, Wx_ret, Wx_retN, Wx_brk, Wx_cnt, Wx_pass, Wx_ite, Wx_for, Wx_fit, We_var, We_mov, We_pk, We_int, We_str, We_bl, We_non, We_glob, We_bin, We_cmp, We_idx, We_neg, We_not, We_and, We_or, We_ife, We_chain, Wes_nil, Wes_cons, Wec_nil, Wec_cons, Wea_nil, Wea_cons, Wea_ref, Wea_lend, We_calll, Wei_rd, Wep_n, Wep_s, We_tup, We_lst, We_call, We_bi, We_meth, We_slc, We_lc, We_lc2, We_mx, We_rev, We_dnew, We_dsp, We_dget, Wx_setd, We_lsc, We_callv, fnN_fnD, Odd_b, Osk_b, obD_l, obD_d, dfl, Wei_zip, Old_b, Wei_seq, Wei_enum, Wei_r1, Wei_r2, Ov_some, Ov_none, Ov_if, Ov_map, Cnd_t, Cnd_f, Aft_n, Aft_s, Obo_b, Oi_b, Ofr_b, Od_b, Ol_b, Osd_b, Osb_b, Ore_v, Ore_f, Sq_nx, Sq_rt, Sq_bk, Sq_ct, Lt_n, Lt_b, Fn1_nx, Fn1_rv, Fn1_rf, Fin1_n, Fin1_s, TurnQ_nx, TurnQ_ct, TurnQ_bk, TurnQ_rt, toC_v, toC_f, toC_p, toV, argsOf, argsL, flatR, flatD, refs, asT, asTs, bo, co, DP.bi, ix, augD, DP.meth, DP.slice, optI, seqOf, DP.wipe, back, DP.free, isI, truth, toInts_map, DP.isNon, sm64_a, sm64_b, sm64_c, sm64_d, pow_a, at0, at1, at2, at3, List.getElem?_cons_zero, List.getElem?_cons_succ, List.getElem?_nil, List.set_cons_zero, List.set_cons_succ, List.mapM_cons, List.mapM_nil, Option.pure_def, Option.bind_eq_bind, Option.bind_some, Option.map_some, Option.map_none, Option.getD_some, Option.getD_none, Option.join_some, List.length_cons, List.length_nil, List.length_map, List.map_cons, List.map_nil, List.cons_append, List.nil_append, List.getD_cons_zero, List.getD_cons_succ, Nat.reduceAdd, Nat.reduceSub, Nat.reduceLeDiff, Nat.reduceLT, Int.reduceLT, Int.reduceLE, Int.reduceNeg, Int.reducePow, Nat.reduceMul, Int.reduceAdd, Int.reduceSub, Int.reduceMul, Int.reduceToNat, Bool.not_true, Bool.not_false, Bool.and_true, Bool.true_and, Bool.and_false, Bool.false_and, Bool.or_true, Bool.or_false, Bool.true_or, Bool.false_or, decide_true, decide_false, and_true, true_and, and_false, false_and, or_true, or_false, true_or, false_or, if_true, if_false, eqv_int, eqv_str, eqv_bool, shp_int, shp_bool, shp_non, toBools_map, Bool.and_self, eq_self, Bool.false_eq_true, reduceCtorEq, reduceIte, List.all_cons, List.all_nil, slotOf, List.replicate_zero, List.append_nil, List.replicate_succ]
    cases ds with
    | nil => exact absurd rfl hc
    | cons x r =>
      have e1 : (List.map PyData.int (x :: r))[(x :: r).length - 1]? = some (.int ((x :: r)[(x :: r).length - 1]'(by simp))) := by
        rw [List.getElem?_map, List.getElem?_eq_getElem (by simp)]
        rfl
      have e2 : (List.map PyData.int (x :: r)).dropLast = ((x :: r).dropLast).map .int := by rw [List.map_dropLast]
      rw [e1, e2]
      try simp (config := {decide := true, dsimp := false}) only [Wxs_nil, Wxs_cons, Wx_asg, Wx_own, Wx_aug, Wx_seti, Wx_ex, Wx_ret, Wx_retN, Wx_brk, Wx_cnt, Wx_pass, Wx_ite, Wx_for, Wx_fit, We_var, We_mov, We_pk, We_int, We_str, We_bl, We_non, We_glob, We_bin, We_cmp, We_idx, We_neg, We_not, We_and, We_or, We_ife, We_chain, Wes_nil, Wes_cons, Wec_nil, Wec_cons, Wea_nil, Wea_cons, Wea_ref, Wea_lend, We_calll, Wei_rd, Wep_n, Wep_s, We_tup, We_lst, We_call, We_bi, We_meth, We_slc, We_lc, We_lc2, We_mx, We_rev, We_dnew, We_dsp, We_dget, Wx_setd, We_lsc, We_callv, fnN_fnD, Odd_b, Osk_b, obD_l, obD_d, dfl, Wei_zip, Old_b, Wei_seq, Wei_enum, Wei_r1, Wei_r2, Ov_some, Ov_none, Ov_if, Ov_map, Cnd_t, Cnd_f, Aft_n, Aft_s, Obo_b, Oi_b, Ofr_b, Od_b, Ol_b, Osd_b, Osb_b, Ore_v, Ore_f, Sq_nx, Sq_rt, Sq_bk, Sq_ct, Lt_n, Lt_b, Fn1_nx, Fn1_rv, Fn1_rf, Fin1_n, Fin1_s, TurnQ_nx, TurnQ_ct, TurnQ_bk, TurnQ_rt, toC_v, toC_f, toC_p, toV, argsOf, argsL, flatR, flatD, refs, asT, asTs, bo, co, DP.bi, ix, augD, DP.meth, DP.slice, optI, seqOf, DP.wipe, back, DP.free, isI, truth, toInts_map, DP.isNon, sm64_a, sm64_b, sm64_c, sm64_d, pow_a, at0, at1, at2, at3, List.getElem?_cons_zero, List.getElem?_cons_succ, List.getElem?_nil, List.set_cons_zero, List.set_cons_succ, List.mapM_cons, List.mapM_nil, Option.pure_def, Option.bind_eq_bind, Option.bind_some, Option.map_some, Option.map_none, Option.getD_some, Option.getD_none, Option.join_some, List.length_cons, List.length_nil, List.length_map, List.map_cons, List.map_nil, List.cons_append, List.nil_append, List.getD_cons_zero, List.getD_cons_succ, Nat.reduceAdd, Nat.reduceSub, Nat.reduceLeDiff, Nat.reduceLT, Int.reduceLT, Int.reduceLE, Int.reduceNeg, Int.reducePow, Nat.reduceMul, Int.reduceAdd, Int.reduceSub, Int.reduceMul, Int.reduceToNat, Bool.not_true, Bool.not_false, Bool.and_true, Bool.true_and, Bool.and_false, Bool.false_and, Bool.or_true, Bool.or_false, Bool.true_or, Bool.false_or, decide_true, decide_false, and_true, true_and, and_false, false_and, or_true, or_false, true_or, false_or, if_true, if_false, eqv_int, eqv_str, eqv_bool, shp_int, shp_bool, shp_non, toBools_map, Bool.and_self, eq_self, Bool.false_eq_true, reduceCtorEq, reduceIte, List.all_cons, List.all_nil, slotOf, List.replicate_zero, List.append_nil, List.replicate_succ]
      exact ⟨hm, h _ _ (Int.emod_nonneg _ (by omega)) (Int.emod_lt_of_pos _ hm)⟩
end K96
namespace K96
open PySem L2 DP
theorem draws_ok {n : Nat} {ns : List Int} {m : Nat} {Q : R → Option OB → Prop} (hl : ns.length ≤ 63) (hm : m ≤ 100000) (h : ∀ ds : List Int, Q (.fr (.l (ds.map .int))) none) : Wc (sm (n + 1)) "_law_draws" [.v (.list (ns.map .int)), .v (.int m)] Q := by
  (refine Wc_ok pf_law_draws rfl ?_; unfold f_law_draws; dsimp only)
  try simp (config := {decide := true, dsimp := false}) only [Wxs_nil, Wxs_cons, Wx_asg, Wx_own, Wx_aug, Wx_seti, Wx_ex, Wx_ret, Wx_retN, Wx_brk, Wx_cnt, Wx_pass, Wx_ite, Wx_for, Wx_fit, We_var, We_mov, We_pk, We_int, We_str, We_bl, We_non, We_glob, We_bin, We_cmp, We_idx, We_neg, We_not, We_and, We_or, We_ife, We_chain, Wes_nil, Wes_cons, Wec_nil, Wec_cons, Wea_nil, Wea_cons, Wea_ref, Wea_lend, We_calll, Wei_rd, Wep_n, Wep_s, We_tup, We_lst, We_call, We_bi, We_meth, We_slc, We_lc, We_lc2, We_mx, We_rev, We_dnew, We_dsp, We_dget, Wx_setd, We_lsc, We_callv, fnN_fnD, Odd_b, Osk_b, obD_l, obD_d, dfl, Wei_zip, Old_b, Wei_seq, Wei_enum, Wei_r1, Wei_r2, Ov_some, Ov_none, Ov_if, Ov_map, Cnd_t, Cnd_f, Aft_n, Aft_s, Obo_b, Oi_b, Ofr_b, Od_b, Ol_b, Osd_b, Osb_b, Ore_v, Ore_f, Sq_nx, Sq_rt, Sq_bk, Sq_ct, Lt_n, Lt_b, Fn1_nx, Fn1_rv, Fn1_rf, Fin1_n, Fin1_s, TurnQ_nx, TurnQ_ct, TurnQ_bk, TurnQ_rt, toC_v, toC_f, toC_p, toV, argsOf, argsL, flatR, flatD, refs, asT, asTs, bo, co, DP.bi, ix, augD, DP.meth, DP.slice, optI, seqOf, DP.wipe, back, DP.free, isI, truth, toInts_map, DP.isNon, sm64_a, sm64_b, sm64_c, sm64_d, pow_a, at0, at1, at2, at3, List.getElem?_cons_zero, List.getElem?_cons_succ, List.getElem?_nil, List.set_cons_zero, List.set_cons_succ, List.mapM_cons, List.mapM_nil, Option.pure_def, Option.bind_eq_bind, Option.bind_some, Option.map_some, Option.map_none, Option.getD_some, Option.getD_none, Option.join_some, List.length_cons, List.length_nil, List.length_map, List.map_cons, List.map_nil, List.cons_append, List.nil_append, List.getD_cons_zero, List.getD_cons_succ, Nat.reduceAdd, Nat.reduceSub, Nat.reduceLeDiff, Nat.reduceLT, Int.reduceLT, Int.reduceLE, Int.reduceNeg, Int.reducePow, Nat.reduceMul, Int.reduceAdd, Int.reduceSub, Int.reduceMul, Int.reduceToNat, Bool.not_true, Bool.not_false, Bool.and_true, Bool.true_and, Bool.and_false, Bool.false_and, Bool.or_true, Bool.or_false, Bool.true_or, Bool.false_or, decide_true, decide_false, and_true, true_and, and_false, false_and, or_true, or_false, true_or, false_or, if_true, if_false, eqv_int, eqv_str, eqv_bool, shp_int, shp_bool, shp_non, toBools_map, Bool.and_self, eq_self, Bool.false_eq_true, reduceCtorEq, reduceIte, List.all_cons, List.all_nil, slotOf, List.replicate_zero, List.append_nil, List.replicate_succ]
  refine Lc_ok (fun i ys ρ => ∃ (l : List Int) (s7 : Slot), l.length = i ∧ ys = l.map .int ∧ ρ = [.v (.list (ns.map .int)), .v (.int m), .un, .un, .un, .un, .un, s7, .un]) (sz _ (by simp; omega)) rfl ⟨[], .un, rfl, rfl, rfl⟩ ?_ ?_
  · rintro i d ys ρ hd ⟨l, s7, hl, rfl, rfl⟩
    rw [List.getElem?_map, Option.map_eq_some_iff] at hd
    obtain ⟨x, hx, rfl⟩ := hd
    try simp (config := {decide := true, dsimp := false}) only [Wxs_nil, Wxs_cons, Wx_asg, Wx_own, Wx_aug, Wx_seti, Wx_ex, Wx_ret, Wx_retN, Wx_brk, Wx_cnt, Wx_pass, Wx_ite, Wx_for, Wx_fit, We_var, We_mov, We_pk, We_int, We_str, We_bl, We_non, We_glob, We_bin, We_cmp, We_idx, We_neg, We_not, We_and, We_or, We_ife, We_chain, Wes_nil, Wes_cons, Wec_nil, Wec_cons, Wea_nil, Wea_cons, Wea_ref, Wea_lend, We_calll, Wei_rd, Wep_n, Wep_s, We_tup, We_lst, We_call, We_bi, We_meth, We_slc, We_lc, We_lc2, We_mx, We_rev, We_dnew, We_dsp, We_dget, Wx_setd, We_lsc, We_callv, fnN_fnD, Odd_b, Osk_b, obD_l, obD_d, dfl, Wei_zip, Old_b, Wei_seq, Wei_enum, Wei_r1, Wei_r2, Ov_some, Ov_none, Ov_if, Ov_map, Cnd_t, Cnd_f, Aft_n, Aft_s, Obo_b, Oi_b, Ofr_b, Od_b, Ol_b, Osd_b, Osb_b, Ore_v, Ore_f, Sq_nx, Sq_rt, Sq_bk, Sq_ct, Lt_n, Lt_b, Fn1_nx, Fn1_rv, Fn1_rf, Fin1_n, Fin1_s, TurnQ_nx, TurnQ_ct, TurnQ_bk, TurnQ_rt, toC_v, toC_f, toC_p, toV, argsOf, argsL, flatR, flatD, refs, asT, asTs, bo, co, DP.bi, ix, augD, DP.meth, DP.slice, optI, seqOf, DP.wipe, back, DP.free, isI, truth, toInts_map, DP.isNon, sm64_a, sm64_b, sm64_c, sm64_d, pow_a, at0, at1, at2, at3, List.getElem?_cons_zero, List.getElem?_cons_succ, List.getElem?_nil, List.set_cons_zero, List.set_cons_succ, List.mapM_cons, List.mapM_nil, Option.pure_def, Option.bind_eq_bind, Option.bind_some, Option.map_some, Option.map_none, Option.getD_some, Option.getD_none, Option.join_some, List.length_cons, List.length_nil, List.length_map, List.map_cons, List.map_nil, List.cons_append, List.nil_append, List.getD_cons_zero, List.getD_cons_succ, Nat.reduceAdd, Nat.reduceSub, Nat.reduceLeDiff, Nat.reduceLT, Int.reduceLT, Int.reduceLE, Int.reduceNeg, Int.reducePow, Nat.reduceMul, Int.reduceAdd, Int.reduceSub, Int.reduceMul, Int.reduceToNat, Bool.not_true, Bool.not_false, Bool.and_true, Bool.true_and, Bool.and_false, Bool.false_and, Bool.or_true, Bool.or_false, Bool.true_or, Bool.false_or, decide_true, decide_false, and_true, true_and, and_false, false_and, or_true, or_false, true_or, false_or, if_true, if_false, eqv_int, eqv_str, eqv_bool, shp_int, shp_bool, shp_non, toBools_map, Bool.and_self, eq_self, Bool.false_eq_true, reduceCtorEq, reduceIte, List.all_cons, List.all_nil, slotOf, List.replicate_zero, List.append_nil, List.replicate_succ]
    exact ⟨l ++ [x], _, by simp [hl], by simp, rfl⟩
  · rintro ys ρe ⟨l, s7, hl2, rfl, rfl⟩
    try simp (config := {decide := true, dsimp := false}) only [Wxs_nil, Wxs_cons, Wx_asg, Wx_own, Wx_aug, Wx_seti, Wx_ex, Wx_ret, Wx_retN, Wx_brk, Wx_cnt, Wx_pass, Wx_ite, Wx_for, Wx_fit, We_var, We_mov, We_pk, We_int, We_str, We_bl, We_non, We_glob, We_bin, We_cmp, We_idx, We_neg, We_not, We_and, We_or, We_ife, We_chain, Wes_nil, Wes_cons, Wec_nil, Wec_cons, Wea_nil, Wea_cons, Wea_ref, Wea_lend, We_calll, Wei_rd, Wep_n, Wep_s, We_tup, We_lst, We_call, We_bi, We_meth, We_slc, We_lc, We_lc2, We_mx, We_rev, We_dnew, We_dsp, We_dget, Wx_setd, We_lsc, We_callv, fnN_fnD, Odd_b, Osk_b, obD_l, obD_d, dfl, Wei_zip, Old_b, Wei_seq, Wei_enum, Wei_r1, Wei_r2, Ov_some, Ov_none, Ov_if, Ov_map, Cnd_t, Cnd_f, Aft_n, Aft_s, Obo_b, Oi_b, Ofr_b, Od_b, Ol_b, Osd_b, Osb_b, Ore_v, Ore_f, Sq_nx, Sq_rt, Sq_bk, Sq_ct, Lt_n, Lt_b, Fn1_nx, Fn1_rv, Fn1_rf, Fin1_n, Fin1_s, TurnQ_nx, TurnQ_ct, TurnQ_bk, TurnQ_rt, toC_v, toC_f, toC_p, toV, argsOf, argsL, flatR, flatD, refs, asT, asTs, bo, co, DP.bi, ix, augD, DP.meth, DP.slice, optI, seqOf, DP.wipe, back, DP.free, isI, truth, toInts_map, DP.isNon, sm64_a, sm64_b, sm64_c, sm64_d, pow_a, at0, at1, at2, at3, List.getElem?_cons_zero, List.getElem?_cons_succ, List.getElem?_nil, List.set_cons_zero, List.set_cons_succ, List.mapM_cons, List.mapM_nil, Option.pure_def, Option.bind_eq_bind, Option.bind_some, Option.map_some, Option.map_none, Option.getD_some, Option.getD_none, Option.join_some, List.length_cons, List.length_nil, List.length_map, List.map_cons, List.map_nil, List.cons_append, List.nil_append, List.getD_cons_zero, List.getD_cons_succ, Nat.reduceAdd, Nat.reduceSub, Nat.reduceLeDiff, Nat.reduceLT, Int.reduceLT, Int.reduceLE, Int.reduceNeg, Int.reducePow, Nat.reduceMul, Int.reduceAdd, Int.reduceSub, Int.reduceMul, Int.reduceToNat, Bool.not_true, Bool.not_false, Bool.and_true, Bool.true_and, Bool.and_false, Bool.false_and, Bool.or_true, Bool.or_false, Bool.true_or, Bool.false_or, decide_true, decide_false, and_true, true_and, and_false, false_and, or_true, or_false, true_or, false_or, if_true, if_false, eqv_int, eqv_str, eqv_bool, shp_int, shp_bool, shp_non, toBools_map, Bool.and_self, eq_self, Bool.false_eq_true, reduceCtorEq, reduceIte, List.all_cons, List.all_nil, slotOf, List.replicate_zero, List.append_nil, List.replicate_succ]
    rw [List.length_map] at hl2
    refine Cnd_cut (fun ρ => ∃ l : List Int, 0 < l.length ∧ l.length ≤ 64 ∧ ρ = [.v (.list (ns.map .int)), .v (.int m), .o (.l (l.map .int)), .un, .un, .un, .un, .un, .un]) (fun hc => ?_) (fun hc => ?_) ?_
    · try simp (config := {decide := true, dsimp := false}) only [Wxs_nil, Wxs_cons, Wx_asg, Wx_own, Wx_aug, Wx_seti, Wx_ex, Wx_ret, Wx_retN, Wx_brk, Wx_cnt, Wx_pass, Wx_ite, Wx_for, Wx_fit, We_var, We_mov, We_pk, We_int, We_str, We_bl, We_non, We_glob, We_bin, We_cmp, We_idx, We_neg, We_not, We_and, We_or, We_ife, We_chain, Wes_nil, Wes_cons, Wec_nil, Wec_cons, Wea_nil, Wea_cons, Wea_ref, Wea_lend, We_calll, Wei_rd, Wep_n, Wep_s, We_tup, We_lst, We_call, We_bi, We_meth, We_slc, We_lc, We_lc2, We_mx, We_rev, We_dnew, We_dsp, We_dget, Wx_setd, We_lsc, We_callv, fnN_fnD, Odd_b, Osk_b, obD_l, obD_d, dfl, Wei_zip, Old_b, Wei_seq, Wei_enum, Wei_r1, Wei_r2, Ov_some, Ov_none, Ov_if, Ov_map, Cnd_t, Cnd_f, Aft_n, Aft_s, Obo_b, Oi_b, Ofr_b, Od_b, Ol_b, Osd_b, Osb_b, Ore_v, Ore_f, Sq_nx, Sq_rt, Sq_bk, Sq_ct, Lt_n, Lt_b, Fn1_nx, Fn1_rv, Fn1_rf, Fin1_n, Fin1_s, TurnQ_nx, TurnQ_ct, TurnQ_bk, TurnQ_rt, toC_v, toC_f, toC_p, toV, argsOf, argsL, flatR, flatD, refs, asT, asTs, bo, co, DP.bi, ix, augD, DP.meth, DP.slice, optI, seqOf, DP.wipe, back, DP.free, isI, truth, toInts_map, DP.isNon, sm64_a, sm64_b, sm64_c, sm64_d, pow_a, at0, at1, at2, at3, List.getElem?_cons_zero, List.getElem?_cons_succ, List.getElem?_nil, List.set_cons_zero, List.set_cons_succ, List.mapM_cons, List.mapM_nil, Option.pure_def, Option.bind_eq_bind, Option.bind_some, Option.map_some, Option.map_none, Option.getD_some, Option.getD_none, Option.join_some, List.length_cons, List.length_nil, List.length_map, List.map_cons, List.map_nil, List.cons_append, List.nil_append, List.getD_cons_zero, List.getD_cons_succ, Nat.reduceAdd, Nat.reduceSub, Nat.reduceLeDiff, Nat.reduceLT, Int.reduceLT, Int.reduceLE, Int.reduceNeg, Int.reducePow, Nat.reduceMul, Int.reduceAdd, Int.reduceSub, Int.reduceMul, Int.reduceToNat, Bool.not_true, Bool.not_false, Bool.and_true, Bool.true_and, Bool.and_false, Bool.false_and, Bool.or_true, Bool.or_false, Bool.true_or, Bool.false_or, decide_true, decide_false, and_true, true_and, and_false, false_and, or_true, or_false, true_or, false_or, if_true, if_false, eqv_int, eqv_str, eqv_bool, shp_int, shp_bool, shp_non, toBools_map, Bool.and_self, eq_self, Bool.false_eq_true, reduceCtorEq, reduceIte, List.all_cons, List.all_nil, slotOf, List.replicate_zero, List.append_nil, List.replicate_succ]
      refine ⟨by simp [sizeL]; omega, l ++ [0], by simp, by simp; omega, by simp⟩
    · try simp (config := {decide := true, dsimp := false}) only [Wxs_nil, Wxs_cons, Wx_asg, Wx_own, Wx_aug, Wx_seti, Wx_ex, Wx_ret, Wx_retN, Wx_brk, Wx_cnt, Wx_pass, Wx_ite, Wx_for, Wx_fit, We_var, We_mov, We_pk, We_int, We_str, We_bl, We_non, We_glob, We_bin, We_cmp, We_idx, We_neg, We_not, We_and, We_or, We_ife, We_chain, Wes_nil, Wes_cons, Wec_nil, Wec_cons, Wea_nil, Wea_cons, Wea_ref, Wea_lend, We_calll, Wei_rd, Wep_n, Wep_s, We_tup, We_lst, We_call, We_bi, We_meth, We_slc, We_lc, We_lc2, We_mx, We_rev, We_dnew, We_dsp, We_dget, Wx_setd, We_lsc, We_callv, fnN_fnD, Odd_b, Osk_b, obD_l, obD_d, dfl, Wei_zip, Old_b, Wei_seq, Wei_enum, Wei_r1, Wei_r2, Ov_some, Ov_none, Ov_if, Ov_map, Cnd_t, Cnd_f, Aft_n, Aft_s, Obo_b, Oi_b, Ofr_b, Od_b, Ol_b, Osd_b, Osb_b, Ore_v, Ore_f, Sq_nx, Sq_rt, Sq_bk, Sq_ct, Lt_n, Lt_b, Fn1_nx, Fn1_rv, Fn1_rf, Fin1_n, Fin1_s, TurnQ_nx, TurnQ_ct, TurnQ_bk, TurnQ_rt, toC_v, toC_f, toC_p, toV, argsOf, argsL, flatR, flatD, refs, asT, asTs, bo, co, DP.bi, ix, augD, DP.meth, DP.slice, optI, seqOf, DP.wipe, back, DP.free, isI, truth, toInts_map, DP.isNon, sm64_a, sm64_b, sm64_c, sm64_d, pow_a, at0, at1, at2, at3, List.getElem?_cons_zero, List.getElem?_cons_succ, List.getElem?_nil, List.set_cons_zero, List.set_cons_succ, List.mapM_cons, List.mapM_nil, Option.pure_def, Option.bind_eq_bind, Option.bind_some, Option.map_some, Option.map_none, Option.getD_some, Option.getD_none, Option.join_some, List.length_cons, List.length_nil, List.length_map, List.map_cons, List.map_nil, List.cons_append, List.nil_append, List.getD_cons_zero, List.getD_cons_succ, Nat.reduceAdd, Nat.reduceSub, Nat.reduceLeDiff, Nat.reduceLT, Int.reduceLT, Int.reduceLE, Int.reduceNeg, Int.reducePow, Nat.reduceMul, Int.reduceAdd, Int.reduceSub, Int.reduceMul, Int.reduceToNat, Bool.not_true, Bool.not_false, Bool.and_true, Bool.true_and, Bool.and_false, Bool.false_and, Bool.or_true, Bool.or_false, Bool.true_or, Bool.false_or, decide_true, decide_false, and_true, true_and, and_false, false_and, or_true, or_false, true_or, false_or, if_true, if_false, eqv_int, eqv_str, eqv_bool, shp_int, shp_bool, shp_non, toBools_map, Bool.and_self, eq_self, Bool.false_eq_true, reduceCtorEq, reduceIte, List.all_cons, List.all_nil, slotOf, List.replicate_zero, List.append_nil, List.replicate_succ]
      exact ⟨l, by have := of_decide_eq_false hc; omega, by omega, rfl⟩
    · rintro ρ ⟨cs, h1, h2, rfl⟩
      try simp (config := {decide := true, dsimp := false}) only [Wxs_nil, Wxs_cons, Wx_asg, Wx_own, Wx_aug, Wx_seti, Wx_ex, Wx_ret, Wx_retN, Wx_brk, Wx_cnt, Wx_pass, Wx_ite, Wx_for, Wx_fit, We_var, We_mov, We_pk, We_int, We_str, We_bl, We_non, We_glob, We_bin, We_cmp, We_idx, We_neg, We_not, We_and, We_or, We_ife, We_chain, Wes_nil, Wes_cons, Wec_nil, Wec_cons, Wea_nil, Wea_cons, Wea_ref, Wea_lend, We_calll, Wei_rd, Wep_n, Wep_s, We_tup, We_lst, We_call, We_bi, We_meth, We_slc, We_lc, We_lc2, We_mx, We_rev, We_dnew, We_dsp, We_dget, Wx_setd, We_lsc, We_callv, fnN_fnD, Odd_b, Osk_b, obD_l, obD_d, dfl, Wei_zip, Old_b, Wei_seq, Wei_enum, Wei_r1, Wei_r2, Ov_some, Ov_none, Ov_if, Ov_map, Cnd_t, Cnd_f, Aft_n, Aft_s, Obo_b, Oi_b, Ofr_b, Od_b, Ol_b, Osd_b, Osb_b, Ore_v, Ore_f, Sq_nx, Sq_rt, Sq_bk, Sq_ct, Lt_n, Lt_b, Fn1_nx, Fn1_rv, Fn1_rf, Fin1_n, Fin1_s, TurnQ_nx, TurnQ_ct, TurnQ_bk, TurnQ_rt, toC_v, toC_f, toC_p, toV, argsOf, argsL, flatR, flatD, refs, asT, asTs, bo, co, DP.bi, ix, augD, DP.meth, DP.slice, optI, seqOf, DP.wipe, back, DP.free, isI, truth, toInts_map, DP.isNon, sm64_a, sm64_b, sm64_c, sm64_d, pow_a, at0, at1, at2, at3, List.getElem?_cons_zero, List.getElem?_cons_succ, List.getElem?_nil, List.set_cons_zero, List.set_cons_succ, List.mapM_cons, List.mapM_nil, Option.pure_def, Option.bind_eq_bind, Option.bind_some, Option.map_some, Option.map_none, Option.getD_some, Option.getD_none, Option.join_some, List.length_cons, List.length_nil, List.length_map, List.map_cons, List.map_nil, List.cons_append, List.nil_append, List.getD_cons_zero, List.getD_cons_succ, Nat.reduceAdd, Nat.reduceSub, Nat.reduceLeDiff, Nat.reduceLT, Int.reduceLT, Int.reduceLE, Int.reduceNeg, Int.reducePow, Nat.reduceMul, Int.reduceAdd, Int.reduceSub, Int.reduceMul, Int.reduceToNat, Bool.not_true, Bool.not_false, Bool.and_true, Bool.true_and, Bool.and_false, Bool.false_and, Bool.or_true, Bool.or_false, Bool.true_or, Bool.false_or, decide_true, decide_false, and_true, true_and, and_false, false_and, or_true, or_false, true_or, false_or, if_true, if_false, eqv_int, eqv_str, eqv_bool, shp_int, shp_bool, shp_non, toBools_map, Bool.and_self, eq_self, Bool.false_eq_true, reduceCtorEq, reduceIte, List.all_cons, List.all_nil, slotOf, List.replicate_zero, List.append_nil, List.replicate_succ]
      refine ⟨by simp [small62]; omega, ?_⟩
      refine For_ok (fun i ρ => ∃ (rs ds : List Int) (s5 s6 s8 : Slot), rs.length = cs.length ∧ ds.length = i ∧ ρ = [.v (.list (ns.map .int)), .v (.int m), .o (.l (cs.map .int)), .o (.l (rs.map .int)), .o (.l (ds.map .int)), s5, s6, .un, s8]) ⟨cs, [], .un, .un, .un, rfl, rfl, rfl⟩ ?_ ?_
      · rintro i d ρ hd ⟨rs, ds, s5, s6, s8, hr, hi, rfl⟩
        obtain ⟨hi2, rfl⟩ := irange_at hd
        have k0 : (0 : Int) ≤ (0 + (i : Int)) % cs.length := Int.emod_nonneg _ (by omega)
        have k1 : (0 + (i : Int)) % cs.length < cs.length := Int.emod_lt_of_pos _ (by omega)
        have hds : ds.length < sizeL := by have := Int.toNat_natCast m; unfold sizeL; omega
        try simp (config := {decide := true, dsimp := false}) only [Wxs_nil, Wxs_cons, Wx_asg, Wx_own, Wx_aug, Wx_seti, Wx_ex, Wx_ret, Wx_retN, Wx_brk, Wx_cnt, Wx_pass, Wx_ite, Wx_for, Wx_fit, We_var, We_mov, We_pk, We_int, We_str, We_bl, We_non, We_glob, We_bin, We_cmp, We_idx, We_neg, We_not, We_and, We_or, We_ife, We_chain, Wes_nil, Wes_cons, Wec_nil, Wec_cons, Wea_nil, Wea_cons, Wea_ref, Wea_lend, We_calll, Wei_rd, Wep_n, Wep_s, We_tup, We_lst, We_call, We_bi, We_meth, We_slc, We_lc, We_lc2, We_mx, We_rev, We_dnew, We_dsp, We_dget, Wx_setd, We_lsc, We_callv, fnN_fnD, Odd_b, Osk_b, obD_l, obD_d, dfl, Wei_zip, Old_b, Wei_seq, Wei_enum, Wei_r1, Wei_r2, Ov_some, Ov_none, Ov_if, Ov_map, Cnd_t, Cnd_f, Aft_n, Aft_s, Obo_b, Oi_b, Ofr_b, Od_b, Ol_b, Osd_b, Osb_b, Ore_v, Ore_f, Sq_nx, Sq_rt, Sq_bk, Sq_ct, Lt_n, Lt_b, Fn1_nx, Fn1_rv, Fn1_rf, Fin1_n, Fin1_s, TurnQ_nx, TurnQ_ct, TurnQ_bk, TurnQ_rt, toC_v, toC_f, toC_p, toV, argsOf, argsL, flatR, flatD, refs, asT, asTs, bo, co, DP.bi, ix, augD, DP.meth, DP.slice, optI, seqOf, DP.wipe, back, DP.free, isI, truth, toInts_map, DP.isNon, sm64_a, sm64_b, sm64_c, sm64_d, pow_a, at0, at1, at2, at3, List.getElem?_cons_zero, List.getElem?_cons_succ, List.getElem?_nil, List.set_cons_zero, List.set_cons_succ, List.mapM_cons, List.mapM_nil, Option.pure_def, Option.bind_eq_bind, Option.bind_some, Option.map_some, Option.map_none, Option.getD_some, Option.getD_none, Option.join_some, List.length_cons, List.length_nil, List.length_map, List.map_cons, List.map_nil, List.cons_append, List.nil_append, List.getD_cons_zero, List.getD_cons_succ, Nat.reduceAdd, Nat.reduceSub, Nat.reduceLeDiff, Nat.reduceLT, Int.reduceLT, Int.reduceLE, Int.reduceNeg, Int.reducePow, Nat.reduceMul, Int.reduceAdd, Int.reduceSub, Int.reduceMul, Int.reduceToNat, Bool.not_true, Bool.not_false, Bool.and_true, Bool.true_and, Bool.and_false, Bool.false_and, Bool.or_true, Bool.or_false, Bool.true_or, Bool.false_or, decide_true, decide_false, and_true, true_and, and_false, false_and, or_true, or_false, true_or, false_or, if_true, if_false, eqv_int, eqv_str, eqv_bool, shp_int, shp_bool, shp_non, toBools_map, Bool.and_self, eq_self, Bool.false_eq_true, reduceCtorEq, reduceIte, List.all_cons, List.all_nil, slotOf, List.replicate_zero, List.append_nil, List.replicate_succ]
        refine ⟨by omega, ?_⟩
        refine atD_map k0 k1 fun c hc => ?_
        try simp (config := {decide := true, dsimp := false}) only [Wxs_nil, Wxs_cons, Wx_asg, Wx_own, Wx_aug, Wx_seti, Wx_ex, Wx_ret, Wx_retN, Wx_brk, Wx_cnt, Wx_pass, Wx_ite, Wx_for, Wx_fit, We_var, We_mov, We_pk, We_int, We_str, We_bl, We_non, We_glob, We_bin, We_cmp, We_idx, We_neg, We_not, We_and, We_or, We_ife, We_chain, Wes_nil, Wes_cons, Wec_nil, Wec_cons, Wea_nil, Wea_cons, Wea_ref, Wea_lend, We_calll, Wei_rd, Wep_n, Wep_s, We_tup, We_lst, We_call, We_bi, We_meth, We_slc, We_lc, We_lc2, We_mx, We_rev, We_dnew, We_dsp, We_dget, Wx_setd, We_lsc, We_callv, fnN_fnD, Odd_b, Osk_b, obD_l, obD_d, dfl, Wei_zip, Old_b, Wei_seq, Wei_enum, Wei_r1, Wei_r2, Ov_some, Ov_none, Ov_if, Ov_map, Cnd_t, Cnd_f, Aft_n, Aft_s, Obo_b, Oi_b, Ofr_b, Od_b, Ol_b, Osd_b, Osb_b, Ore_v, Ore_f, Sq_nx, Sq_rt, Sq_bk, Sq_ct, Lt_n, Lt_b, Fn1_nx, Fn1_rv, Fn1_rf, Fin1_n, Fin1_s, TurnQ_nx, TurnQ_ct, TurnQ_bk, TurnQ_rt, toC_v, toC_f, toC_p, toV, argsOf, argsL, flatR, flatD, refs, asT, asTs, bo, co, DP.bi, ix, augD, DP.meth, DP.slice, optI, seqOf, DP.wipe, back, DP.free, isI, truth, toInts_map, DP.isNon, sm64_a, sm64_b, sm64_c, sm64_d, pow_a, at0, at1, at2, at3, List.getElem?_cons_zero, List.getElem?_cons_succ, List.getElem?_nil, List.set_cons_zero, List.set_cons_succ, List.mapM_cons, List.mapM_nil, Option.pure_def, Option.bind_eq_bind, Option.bind_some, Option.map_some, Option.map_none, Option.getD_some, Option.getD_none, Option.join_some, List.length_cons, List.length_nil, List.length_map, List.map_cons, List.map_nil, List.cons_append, List.nil_append, List.getD_cons_zero, List.getD_cons_succ, Nat.reduceAdd, Nat.reduceSub, Nat.reduceLeDiff, Nat.reduceLT, Int.reduceLT, Int.reduceLE, Int.reduceNeg, Int.reducePow, Nat.reduceMul, Int.reduceAdd, Int.reduceSub, Int.reduceMul, Int.reduceToNat, Bool.not_true, Bool.not_false, Bool.and_true, Bool.true_and, Bool.and_false, Bool.false_and, Bool.or_true, Bool.or_false, Bool.true_or, Bool.false_or, decide_true, decide_false, and_true, true_and, and_false, false_and, or_true, or_false, true_or, false_or, if_true, if_false, eqv_int, eqv_str, eqv_bool, shp_int, shp_bool, shp_non, toBools_map, Bool.and_self, eq_self, Bool.false_eq_true, reduceCtorEq, reduceIte, List.all_cons, List.all_nil, slotOf, List.replicate_zero, List.append_nil, List.replicate_succ]
        refine Cnd_p (fun hb => ?_) fun hb => ?_
        · try simp (config := {decide := true, dsimp := false}) only [Wxs_nil, Wxs_cons, Wx_asg, Wx_own, Wx_aug, Wx_seti, Wx_ex, Wx_ret, Wx_retN, Wx_brk, Wx_cnt, Wx_pass, Wx_ite, Wx_for, Wx_fit, We_var, We_mov, We_pk, We_int, We_str, We_bl, We_non, We_glob, We_bin, We_cmp, We_idx, We_neg, We_not, We_and, We_or, We_ife, We_chain, Wes_nil, Wes_cons, Wec_nil, Wec_cons, Wea_nil, Wea_cons, Wea_ref, Wea_lend, We_calll, Wei_rd, Wep_n, Wep_s, We_tup, We_lst, We_call, We_bi, We_meth, We_slc, We_lc, We_lc2, We_mx, We_rev, We_dnew, We_dsp, We_dget, Wx_setd, We_lsc, We_callv, fnN_fnD, Odd_b, Osk_b, obD_l, obD_d, dfl, Wei_zip, Old_b, Wei_seq, Wei_enum, Wei_r1, Wei_r2, Ov_some, Ov_none, Ov_if, Ov_map, Cnd_t, Cnd_f, Aft_n, Aft_s, Obo_b, Oi_b, Ofr_b, Od_b, Ol_b, Osd_b, Osb_b, Ore_v, Ore_f, Sq_nx, Sq_rt, Sq_bk, Sq_ct, Lt_n, Lt_b, Fn1_nx, Fn1_rv, Fn1_rf, Fin1_n, Fin1_s, TurnQ_nx, TurnQ_ct, TurnQ_bk, TurnQ_rt, toC_v, toC_f, toC_p, toV, argsOf, argsL, flatR, flatD, refs, asT, asTs, bo, co, DP.bi, ix, augD, DP.meth, DP.slice, optI, seqOf, DP.wipe, back, DP.free, isI, truth, toInts_map, DP.isNon, sm64_a, sm64_b, sm64_c, sm64_d, pow_a, at0, at1, at2, at3, List.getElem?_cons_zero, List.getElem?_cons_succ, List.getElem?_nil, List.set_cons_zero, List.set_cons_succ, List.mapM_cons, List.mapM_nil, Option.pure_def, Option.bind_eq_bind, Option.bind_some, Option.map_some, Option.map_none, Option.getD_some, Option.getD_none, Option.join_some, List.length_cons, List.length_nil, List.length_map, List.map_cons, List.map_nil, List.cons_append, List.nil_append, List.getD_cons_zero, List.getD_cons_succ, Nat.reduceAdd, Nat.reduceSub, Nat.reduceLeDiff, Nat.reduceLT, Int.reduceLT, Int.reduceLE, Int.reduceNeg, Int.reducePow, Nat.reduceMul, Int.reduceAdd, Int.reduceSub, Int.reduceMul, Int.reduceToNat, Bool.not_true, Bool.not_false, Bool.and_true, Bool.true_and, Bool.and_false, Bool.false_and, Bool.or_true, Bool.or_false, Bool.true_or, Bool.false_or, decide_true, decide_false, and_true, true_and, and_false, false_and, or_true, or_false, true_or, false_or, if_true, if_false, eqv_int, eqv_str, eqv_bool, shp_int, shp_bool, shp_non, toBools_map, Bool.and_self, eq_self, Bool.false_eq_true, reduceCtorEq, reduceIte, List.all_cons, List.all_nil, slotOf, List.replicate_zero, List.append_nil, List.replicate_succ]
          refine atD_map k0 (by rw [hr]; exact k1) fun r hr2 => ?_
          try simp (config := {decide := true, dsimp := false}) only [Wxs_nil, Wxs_cons, Wx_asg, Wx_own, Wx_aug, Wx_seti, Wx_ex, Wx_ret, Wx_retN, Wx_brk, Wx_cnt, Wx_pass, Wx_ite, Wx_for, Wx_fit, We_var, We_mov, We_pk, We_int, We_str, We_bl, We_non, We_glob, We_bin, We_cmp, We_idx, We_neg, We_not, We_and, We_or, We_ife, We_chain, Wes_nil, Wes_cons, Wec_nil, Wec_cons, Wea_nil, Wea_cons, Wea_ref, Wea_lend, We_calll, Wei_rd, Wep_n, Wep_s, We_tup, We_lst, We_call, We_bi, We_meth, We_slc, We_lc, We_lc2, We_mx, We_rev, We_dnew, We_dsp, We_dget, Wx_setd, We_lsc, We_callv, fnN_fnD, Odd_b, Osk_b, obD_l, obD_d, dfl, Wei_zip, Old_b, Wei_seq, Wei_enum, Wei_r1, Wei_r2, Ov_some, Ov_none, Ov_if, Ov_map, Cnd_t, Cnd_f, Aft_n, Aft_s, Obo_b, Oi_b, Ofr_b, Od_b, Ol_b, Osd_b, Osb_b, Ore_v, Ore_f, Sq_nx, Sq_rt, Sq_bk, Sq_ct, Lt_n, Lt_b, Fn1_nx, Fn1_rv, Fn1_rf, Fin1_n, Fin1_s, TurnQ_nx, TurnQ_ct, TurnQ_bk, TurnQ_rt, toC_v, toC_f, toC_p, toV, argsOf, argsL, flatR, flatD, refs, asT, asTs, bo, co, DP.bi, ix, augD, DP.meth, DP.slice, optI, seqOf, DP.wipe, back, DP.free, isI, truth, toInts_map, DP.isNon, sm64_a, sm64_b, sm64_c, sm64_d, pow_a, at0, at1, at2, at3, List.getElem?_cons_zero, List.getElem?_cons_succ, List.getElem?_nil, List.set_cons_zero, List.set_cons_succ, List.mapM_cons, List.mapM_nil, Option.pure_def, Option.bind_eq_bind, Option.bind_some, Option.map_some, Option.map_none, Option.getD_some, Option.getD_none, Option.join_some, List.length_cons, List.length_nil, List.length_map, List.map_cons, List.map_nil, List.cons_append, List.nil_append, List.getD_cons_zero, List.getD_cons_succ, Nat.reduceAdd, Nat.reduceSub, Nat.reduceLeDiff, Nat.reduceLT, Int.reduceLT, Int.reduceLE, Int.reduceNeg, Int.reducePow, Nat.reduceMul, Int.reduceAdd, Int.reduceSub, Int.reduceMul, Int.reduceToNat, Bool.not_true, Bool.not_false, Bool.and_true, Bool.true_and, Bool.and_false, Bool.false_and, Bool.or_true, Bool.or_false, Bool.true_or, Bool.false_or, decide_true, decide_false, and_true, true_and, and_false, false_and, or_true, or_false, true_or, false_or, if_true, if_false, eqv_int, eqv_str, eqv_bool, shp_int, shp_bool, shp_non, toBools_map, Bool.and_self, eq_self, Bool.false_eq_true, reduceCtorEq, reduceIte, List.all_cons, List.all_nil, slotOf, List.replicate_zero, List.append_nil, List.replicate_succ]
          refine ⟨hds, ?_⟩
          refine atD_map k0 (by rw [hr]; exact k1) fun r' hr3 => ?_
          have hrr : r' = r := Option.some.inj (hr3.symm.trans hr2)
          subst hrr
          try simp (config := {decide := true, dsimp := false}) only [Wxs_nil, Wxs_cons, Wx_asg, Wx_own, Wx_aug, Wx_seti, Wx_ex, Wx_ret, Wx_retN, Wx_brk, Wx_cnt, Wx_pass, Wx_ite, Wx_for, Wx_fit, We_var, We_mov, We_pk, We_int, We_str, We_bl, We_non, We_glob, We_bin, We_cmp, We_idx, We_neg, We_not, We_and, We_or, We_ife, We_chain, Wes_nil, Wes_cons, Wec_nil, Wec_cons, Wea_nil, Wea_cons, Wea_ref, Wea_lend, We_calll, Wei_rd, Wep_n, Wep_s, We_tup, We_lst, We_call, We_bi, We_meth, We_slc, We_lc, We_lc2, We_mx, We_rev, We_dnew, We_dsp, We_dget, Wx_setd, We_lsc, We_callv, fnN_fnD, Odd_b, Osk_b, obD_l, obD_d, dfl, Wei_zip, Old_b, Wei_seq, Wei_enum, Wei_r1, Wei_r2, Ov_some, Ov_none, Ov_if, Ov_map, Cnd_t, Cnd_f, Aft_n, Aft_s, Obo_b, Oi_b, Ofr_b, Od_b, Ol_b, Osd_b, Osb_b, Ore_v, Ore_f, Sq_nx, Sq_rt, Sq_bk, Sq_ct, Lt_n, Lt_b, Fn1_nx, Fn1_rv, Fn1_rf, Fin1_n, Fin1_s, TurnQ_nx, TurnQ_ct, TurnQ_bk, TurnQ_rt, toC_v, toC_f, toC_p, toV, argsOf, argsL, flatR, flatD, refs, asT, asTs, bo, co, DP.bi, ix, augD, DP.meth, DP.slice, optI, seqOf, DP.wipe, back, DP.free, isI, truth, toInts_map, DP.isNon, sm64_a, sm64_b, sm64_c, sm64_d, pow_a, at0, at1, at2, at3, List.getElem?_cons_zero, List.getElem?_cons_succ, List.getElem?_nil, List.set_cons_zero, List.set_cons_succ, List.mapM_cons, List.mapM_nil, Option.pure_def, Option.bind_eq_bind, Option.bind_some, Option.map_some, Option.map_none, Option.getD_some, Option.getD_none, Option.join_some, List.length_cons, List.length_nil, List.length_map, List.map_cons, List.map_nil, List.cons_append, List.nil_append, List.getD_cons_zero, List.getD_cons_succ, Nat.reduceAdd, Nat.reduceSub, Nat.reduceLeDiff, Nat.reduceLT, Int.reduceLT, Int.reduceLE, Int.reduceNeg, Int.reducePow, Nat.reduceMul, Int.reduceAdd, Int.reduceSub, Int.reduceMul, Int.reduceToNat, Bool.not_true, Bool.not_false, Bool.and_true, Bool.true_and, Bool.and_false, Bool.false_and, Bool.or_true, Bool.or_false, Bool.true_or, Bool.false_or, decide_true, decide_false, and_true, true_and, and_false, false_and, or_true, or_false, true_or, false_or, if_true, if_false, eqv_int, eqv_str, eqv_bool, shp_int, shp_bool, shp_non, toBools_map, Bool.and_self, eq_self, Bool.false_eq_true, reduceCtorEq, reduceIte, List.all_cons, List.all_nil, slotOf, List.replicate_zero, List.append_nil, List.replicate_succ]
          have e1 := ixN_of k0 (show _ < (rs.length : Int) by rw [hr]; exact k1)
          rw [e1]
          try simp (config := {decide := true, dsimp := false}) only [Wxs_nil, Wxs_cons, Wx_asg, Wx_own, Wx_aug, Wx_seti, Wx_ex, Wx_ret, Wx_retN, Wx_brk, Wx_cnt, Wx_pass, Wx_ite, Wx_for, Wx_fit, We_var, We_mov, We_pk, We_int, We_str, We_bl, We_non, We_glob, We_bin, We_cmp, We_idx, We_neg, We_not, We_and, We_or, We_ife, We_chain, Wes_nil, Wes_cons, Wec_nil, Wec_cons, Wea_nil, Wea_cons, Wea_ref, Wea_lend, We_calll, Wei_rd, Wep_n, Wep_s, We_tup, We_lst, We_call, We_bi, We_meth, We_slc, We_lc, We_lc2, We_mx, We_rev, We_dnew, We_dsp, We_dget, Wx_setd, We_lsc, We_callv, fnN_fnD, Odd_b, Osk_b, obD_l, obD_d, dfl, Wei_zip, Old_b, Wei_seq, Wei_enum, Wei_r1, Wei_r2, Ov_some, Ov_none, Ov_if, Ov_map, Cnd_t, Cnd_f, Aft_n, Aft_s, Obo_b, Oi_b, Ofr_b, Od_b, Ol_b, Osd_b, Osb_b, Ore_v, Ore_f, Sq_nx, Sq_rt, Sq_bk, Sq_ct, Lt_n, Lt_b, Fn1_nx, Fn1_rv, Fn1_rf, Fin1_n, Fin1_s, TurnQ_nx, TurnQ_ct, TurnQ_bk, TurnQ_rt, toC_v, toC_f, toC_p, toV, argsOf, argsL, flatR, flatD, refs, asT, asTs, bo, co, DP.bi, ix, augD, DP.meth, DP.slice, optI, seqOf, DP.wipe, back, DP.free, isI, truth, toInts_map, DP.isNon, sm64_a, sm64_b, sm64_c, sm64_d, pow_a, at0, at1, at2, at3, List.getElem?_cons_zero, List.getElem?_cons_succ, List.getElem?_nil, List.set_cons_zero, List.set_cons_succ, List.mapM_cons, List.mapM_nil, Option.pure_def, Option.bind_eq_bind, Option.bind_some, Option.map_some, Option.map_none, Option.getD_some, Option.getD_none, Option.join_some, List.length_cons, List.length_nil, List.length_map, List.map_cons, List.map_nil, List.cons_append, List.nil_append, List.getD_cons_zero, List.getD_cons_succ, Nat.reduceAdd, Nat.reduceSub, Nat.reduceLeDiff, Nat.reduceLT, Int.reduceLT, Int.reduceLE, Int.reduceNeg, Int.reducePow, Nat.reduceMul, Int.reduceAdd, Int.reduceSub, Int.reduceMul, Int.reduceToNat, Bool.not_true, Bool.not_false, Bool.and_true, Bool.true_and, Bool.and_false, Bool.false_and, Bool.or_true, Bool.or_false, Bool.true_or, Bool.false_or, decide_true, decide_false, and_true, true_and, and_false, false_and, or_true, or_false, true_or, false_or, if_true, if_false, eqv_int, eqv_str, eqv_bool, shp_int, shp_bool, shp_non, toBools_map, Bool.and_self, eq_self, Bool.false_eq_true, reduceCtorEq, reduceIte, List.all_cons, List.all_nil, slotOf, List.replicate_zero, List.append_nil, List.replicate_succ]
          exact ⟨rs.set ((0 + (i : Int)) % cs.length).toNat (r' / 1000), ds ++ [r' % 1000], _, _, _, by rw [List.length_set]; exact hr, by simp [hi], by rw [List.map_set, List.map_append]; rfl⟩
        · try simp (config := {decide := true, dsimp := false}) only [Wxs_nil, Wxs_cons, Wx_asg, Wx_own, Wx_aug, Wx_seti, Wx_ex, Wx_ret, Wx_retN, Wx_brk, Wx_cnt, Wx_pass, Wx_ite, Wx_for, Wx_fit, We_var, We_mov, We_pk, We_int, We_str, We_bl, We_non, We_glob, We_bin, We_cmp, We_idx, We_neg, We_not, We_and, We_or, We_ife, We_chain, Wes_nil, Wes_cons, Wec_nil, Wec_cons, Wea_nil, Wea_cons, Wea_ref, Wea_lend, We_calll, Wei_rd, Wep_n, Wep_s, We_tup, We_lst, We_call, We_bi, We_meth, We_slc, We_lc, We_lc2, We_mx, We_rev, We_dnew, We_dsp, We_dget, Wx_setd, We_lsc, We_callv, fnN_fnD, Odd_b, Osk_b, obD_l, obD_d, dfl, Wei_zip, Old_b, Wei_seq, Wei_enum, Wei_r1, Wei_r2, Ov_some, Ov_none, Ov_if, Ov_map, Cnd_t, Cnd_f, Aft_n, Aft_s, Obo_b, Oi_b, Ofr_b, Od_b, Ol_b, Osd_b, Osb_b, Ore_v, Ore_f, Sq_nx, Sq_rt, Sq_bk, Sq_ct, Lt_n, Lt_b, Fn1_nx, Fn1_rv, Fn1_rf, Fin1_n, Fin1_s, TurnQ_nx, TurnQ_ct, TurnQ_bk, TurnQ_rt, toC_v, toC_f, toC_p, toV, argsOf, argsL, flatR, flatD, refs, asT, asTs, bo, co, DP.bi, ix, augD, DP.meth, DP.slice, optI, seqOf, DP.wipe, back, DP.free, isI, truth, toInts_map, DP.isNon, sm64_a, sm64_b, sm64_c, sm64_d, pow_a, at0, at1, at2, at3, List.getElem?_cons_zero, List.getElem?_cons_succ, List.getElem?_nil, List.set_cons_zero, List.set_cons_succ, List.mapM_cons, List.mapM_nil, Option.pure_def, Option.bind_eq_bind, Option.bind_some, Option.map_some, Option.map_none, Option.getD_some, Option.getD_none, Option.join_some, List.length_cons, List.length_nil, List.length_map, List.map_cons, List.map_nil, List.cons_append, List.nil_append, List.getD_cons_zero, List.getD_cons_succ, Nat.reduceAdd, Nat.reduceSub, Nat.reduceLeDiff, Nat.reduceLT, Int.reduceLT, Int.reduceLE, Int.reduceNeg, Int.reducePow, Nat.reduceMul, Int.reduceAdd, Int.reduceSub, Int.reduceMul, Int.reduceToNat, Bool.not_true, Bool.not_false, Bool.and_true, Bool.true_and, Bool.and_false, Bool.false_and, Bool.or_true, Bool.or_false, Bool.true_or, Bool.false_or, decide_true, decide_false, and_true, true_and, and_false, false_and, or_true, or_false, true_or, false_or, if_true, if_false, eqv_int, eqv_str, eqv_bool, shp_int, shp_bool, shp_non, toBools_map, Bool.and_self, eq_self, Bool.false_eq_true, reduceCtorEq, reduceIte, List.all_cons, List.all_nil, slotOf, List.replicate_zero, List.append_nil, List.replicate_succ]
          refine atD_map k0 k1 fun c hc => ?_
          try simp (config := {decide := true, dsimp := false}) only [Wxs_nil, Wxs_cons, Wx_asg, Wx_own, Wx_aug, Wx_seti, Wx_ex, Wx_ret, Wx_retN, Wx_brk, Wx_cnt, Wx_pass, Wx_ite, Wx_for, Wx_fit, We_var, We_mov, We_pk, We_int, We_str, We_bl, We_non, We_glob, We_bin, We_cmp, We_idx, We_neg, We_not, We_and, We_or, We_ife, We_chain, Wes_nil, Wes_cons, Wec_nil, Wec_cons, Wea_nil, Wea_cons, Wea_ref, Wea_lend, We_calll, Wei_rd, Wep_n, Wep_s, We_tup, We_lst, We_call, We_bi, We_meth, We_slc, We_lc, We_lc2, We_mx, We_rev, We_dnew, We_dsp, We_dget, Wx_setd, We_lsc, We_callv, fnN_fnD, Odd_b, Osk_b, obD_l, obD_d, dfl, Wei_zip, Old_b, Wei_seq, Wei_enum, Wei_r1, Wei_r2, Ov_some, Ov_none, Ov_if, Ov_map, Cnd_t, Cnd_f, Aft_n, Aft_s, Obo_b, Oi_b, Ofr_b, Od_b, Ol_b, Osd_b, Osb_b, Ore_v, Ore_f, Sq_nx, Sq_rt, Sq_bk, Sq_ct, Lt_n, Lt_b, Fn1_nx, Fn1_rv, Fn1_rf, Fin1_n, Fin1_s, TurnQ_nx, TurnQ_ct, TurnQ_bk, TurnQ_rt, toC_v, toC_f, toC_p, toV, argsOf, argsL, flatR, flatD, refs, asT, asTs, bo, co, DP.bi, ix, augD, DP.meth, DP.slice, optI, seqOf, DP.wipe, back, DP.free, isI, truth, toInts_map, DP.isNon, sm64_a, sm64_b, sm64_c, sm64_d, pow_a, at0, at1, at2, at3, List.getElem?_cons_zero, List.getElem?_cons_succ, List.getElem?_nil, List.set_cons_zero, List.set_cons_succ, List.mapM_cons, List.mapM_nil, Option.pure_def, Option.bind_eq_bind, Option.bind_some, Option.map_some, Option.map_none, Option.getD_some, Option.getD_none, Option.join_some, List.length_cons, List.length_nil, List.length_map, List.map_cons, List.map_nil, List.cons_append, List.nil_append, List.getD_cons_zero, List.getD_cons_succ, Nat.reduceAdd, Nat.reduceSub, Nat.reduceLeDiff, Nat.reduceLT, Int.reduceLT, Int.reduceLE, Int.reduceNeg, Int.reducePow, Nat.reduceMul, Int.reduceAdd, Int.reduceSub, Int.reduceMul, Int.reduceToNat, Bool.not_true, Bool.not_false, Bool.and_true, Bool.true_and, Bool.and_false, Bool.false_and, Bool.or_true, Bool.or_false, Bool.true_or, Bool.false_or, decide_true, decide_false, and_true, true_and, and_false, false_and, or_true, or_false, true_or, false_or, if_true, if_false, eqv_int, eqv_str, eqv_bool, shp_int, shp_bool, shp_non, toBools_map, Bool.and_self, eq_self, Bool.false_eq_true, reduceCtorEq, reduceIte, List.all_cons, List.all_nil, slotOf, List.replicate_zero, List.append_nil, List.replicate_succ]
          have w0 : 0 ≤ (c * 48271 + (0 + (i : Int)) * 69621 + 11) % 2147483647 := Int.emod_nonneg _ (by omega)
          have w1 : (c * 48271 + (0 + (i : Int)) * 69621 + 11) % 2147483647 < 2147483647 := Int.emod_lt_of_pos _ (by omega)
          generalize (c * 48271 + (0 + (i : Int)) * 69621 + 11) % 2147483647 = w at *
          have w2 : small64 w = true := sm64_of (by omega) (by omega)
          try simp (config := {decide := true, dsimp := false}) only [Wxs_nil, Wxs_cons, Wx_asg, Wx_own, Wx_aug, Wx_seti, Wx_ex, Wx_ret, Wx_retN, Wx_brk, Wx_cnt, Wx_pass, Wx_ite, Wx_for, Wx_fit, We_var, We_mov, We_pk, We_int, We_str, We_bl, We_non, We_glob, We_bin, We_cmp, We_idx, We_neg, We_not, We_and, We_or, We_ife, We_chain, Wes_nil, Wes_cons, Wec_nil, Wec_cons, Wea_nil, Wea_cons, Wea_ref, Wea_lend, We_calll, Wei_rd, Wep_n, Wep_s, We_tup, We_lst, We_call, We_bi, We_meth, We_slc, We_lc, We_lc2, We_mx, We_rev, We_dnew, We_dsp, We_dget, Wx_setd, We_lsc, We_callv, fnN_fnD, Odd_b, Osk_b, obD_l, obD_d, dfl, Wei_zip, Old_b, Wei_seq, Wei_enum, Wei_r1, Wei_r2, Ov_some, Ov_none, Ov_if, Ov_map, Cnd_t, Cnd_f, Aft_n, Aft_s, Obo_b, Oi_b, Ofr_b, Od_b, Ol_b, Osd_b, Osb_b, Ore_v, Ore_f, Sq_nx, Sq_rt, Sq_bk, Sq_ct, Lt_n, Lt_b, Fn1_nx, Fn1_rv, Fn1_rf, Fin1_n, Fin1_s, TurnQ_nx, TurnQ_ct, TurnQ_bk, TurnQ_rt, toC_v, toC_f, toC_p, toV, argsOf, argsL, flatR, flatD, refs, asT, asTs, bo, co, DP.bi, ix, augD, DP.meth, DP.slice, optI, seqOf, DP.wipe, back, DP.free, isI, truth, toInts_map, DP.isNon, sm64_a, sm64_b, sm64_c, sm64_d, pow_a, at0, at1, at2, at3, List.getElem?_cons_zero, List.getElem?_cons_succ, List.getElem?_nil, List.set_cons_zero, List.set_cons_succ, List.mapM_cons, List.mapM_nil, Option.pure_def, Option.bind_eq_bind, Option.bind_some, Option.map_some, Option.map_none, Option.getD_some, Option.getD_none, Option.join_some, List.length_cons, List.length_nil, List.length_map, List.map_cons, List.map_nil, List.cons_append, List.nil_append, List.getD_cons_zero, List.getD_cons_succ, Nat.reduceAdd, Nat.reduceSub, Nat.reduceLeDiff, Nat.reduceLT, Int.reduceLT, Int.reduceLE, Int.reduceNeg, Int.reducePow, Nat.reduceMul, Int.reduceAdd, Int.reduceSub, Int.reduceMul, Int.reduceToNat, Bool.not_true, Bool.not_false, Bool.and_true, Bool.true_and, Bool.and_false, Bool.false_and, Bool.or_true, Bool.or_false, Bool.true_or, Bool.false_or, decide_true, decide_false, and_true, true_and, and_false, false_and, or_true, or_false, true_or, false_or, if_true, if_false, eqv_int, eqv_str, eqv_bool, shp_int, shp_bool, shp_non, toBools_map, Bool.and_self, eq_self, Bool.false_eq_true, reduceCtorEq, reduceIte, List.all_cons, List.all_nil, slotOf, List.replicate_zero, List.append_nil, List.replicate_succ, w2]
          exact ⟨hds, rs, ds ++ [_], _, _, _, hr, by simp [hi], by rw [List.map_append]; rfl⟩
      · rintro ρ ⟨rs, ds, s5, s6, s8, hr, hi, rfl⟩
        try simp (config := {decide := true, dsimp := false}) only [Wxs_nil, Wxs_cons, Wx_asg, Wx_own, Wx_aug, Wx_seti, Wx_ex, Wx_ret, Wx_retN, Wx_brk, Wx_cnt, Wx_pass, Wx_ite, Wx_for, Wx_fit, We_var, We_mov, We_pk, We_int, We_str, We_bl, We_non, We_glob, We_bin, We_cmp, We_idx, We_neg, We_not, We_and, We_or, We_ife, We_chain, Wes_nil, Wes_cons, Wec_nil, Wec_cons, Wea_nil, Wea_cons, Wea_ref, Wea_lend, We_calll, Wei_rd, Wep_n, Wep_s, We_tup, We_lst, We_call, We_bi, We_meth, We_slc, We_lc, We_lc2, We_mx, We_rev, We_dnew, We_dsp, We_dget, Wx_setd, We_lsc, We_callv, fnN_fnD, Odd_b, Osk_b, obD_l, obD_d, dfl, Wei_zip, Old_b, Wei_seq, Wei_enum, Wei_r1, Wei_r2, Ov_some, Ov_none, Ov_if, Ov_map, Cnd_t, Cnd_f, Aft_n, Aft_s, Obo_b, Oi_b, Ofr_b, Od_b, Ol_b, Osd_b, Osb_b, Ore_v, Ore_f, Sq_nx, Sq_rt, Sq_bk, Sq_ct, Lt_n, Lt_b, Fn1_nx, Fn1_rv, Fn1_rf, Fin1_n, Fin1_s, TurnQ_nx, TurnQ_ct, TurnQ_bk, TurnQ_rt, toC_v, toC_f, toC_p, toV, argsOf, argsL, flatR, flatD, refs, asT, asTs, bo, co, DP.bi, ix, augD, DP.meth, DP.slice, optI, seqOf, DP.wipe, back, DP.free, isI, truth, toInts_map, DP.isNon, sm64_a, sm64_b, sm64_c, sm64_d, pow_a, at0, at1, at2, at3, List.getElem?_cons_zero, List.getElem?_cons_succ, List.getElem?_nil, List.set_cons_zero, List.set_cons_succ, List.mapM_cons, List.mapM_nil, Option.pure_def, Option.bind_eq_bind, Option.bind_some, Option.map_some, Option.map_none, Option.getD_some, Option.getD_none, Option.join_some, List.length_cons, List.length_nil, List.length_map, List.map_cons, List.map_nil, List.cons_append, List.nil_append, List.getD_cons_zero, List.getD_cons_succ, Nat.reduceAdd, Nat.reduceSub, Nat.reduceLeDiff, Nat.reduceLT, Int.reduceLT, Int.reduceLE, Int.reduceNeg, Int.reducePow, Nat.reduceMul, Int.reduceAdd, Int.reduceSub, Int.reduceMul, Int.reduceToNat, Bool.not_true, Bool.not_false, Bool.and_true, Bool.true_and, Bool.and_false, Bool.false_and, Bool.or_true, Bool.or_false, Bool.true_or, Bool.false_or, decide_true, decide_false, and_true, true_and, and_false, false_and, or_true, or_false, true_or, false_or, if_true, if_false, eqv_int, eqv_str, eqv_bool, shp_int, shp_bool, shp_non, toBools_map, Bool.and_self, eq_self, Bool.false_eq_true, reduceCtorEq, reduceIte, List.all_cons, List.all_nil, slotOf, List.replicate_zero, List.append_nil, List.replicate_succ]
        rw [← List.map_reverse]
        exact h _
end K96
namespace K96
open PySem L2 DP
/-- a number of fewer than n bits -/
def Bd (n : Nat) (x : Int) : Prop := x.natAbs < 2 ^ n
theorem Bd.mono {n m : Nat} {x : Int} (h : Bd n x) (l : n ≤ m) : Bd m x := Nat.lt_of_lt_of_le h (Nat.pow_le_pow_right (by omega) l)
theorem Bd.neg {n : Nat} {x : Int} (h : Bd n x) : Bd n (-x) := by unfold Bd; rw [Int.natAbs_neg]; exact h
theorem Bd.add {n : Nat} {x y : Int} (h : Bd n x) (h' : Bd n y) : Bd (n + 1) (x + y) := by
  unfold Bd at *
  have := Int.natAbs_add_le x y
  rw [Nat.pow_succ]
  omega
theorem Bd.small {n : Nat} {x : Int} (h : x.natAbs < 1024) (l : 10 ≤ n) : Bd n x := Bd.mono (n := 10) h l
theorem Bd.mul {n m : Nat} {x y : Int} (h : Bd n x) (h' : Bd m y) : Bd (n + m) (x * y) := by
  unfold Bd at *
  rw [Int.natAbs_mul, Nat.pow_add]
  exact Nat.mul_lt_mul'' h h'
theorem Bd.le {n : Nat} {x y : Int} (h : Bd n y) (l : x.natAbs ≤ y.natAbs) : Bd n x := Nat.lt_of_le_of_lt l h
theorem Bd.abs {n : Nat} {x : Int} (h : Bd n x) : Bd n (if x < 0 then -x else x) := by
  split
  · exact h.neg
  · exact h
theorem Bd.log {n : Nat} {x : Int} (h : Bd n x) : x.natAbs.log2 ≤ n := by
  by_cases h0 : x.natAbs = 0
  · rw [h0]
    exact Nat.zero_le _
  · exact Nat.le_of_lt ((Nat.log2_lt h0).mpr h)
theorem Bd.wide {n m : Nat} {x y : Int} (h : Bd n x) (h' : Bd m y) (l : n + m < 100000000) : DP.mulW x y = true := by
  unfold DP.mulW
  have a := h.log
  have b := h'.log
  exact decide_eq_true (by omega)
theorem Bd.of {n : Nat} {x : Int} (h : PySem.Builtin.Int.intBits x ≤ n) : Bd n x := DP.bits_lt h
end K96
namespace K96
open PySem L2 DP
/-! orders(n) as a plain function -/
def stepE : Int → List Int → List Int
  | v, a :: b :: r => v * (b + a) :: stepE (v + 1) (b :: r)
  | _, _ => []
theorem stepE_len : ∀ (c : List Int) (v : Int), (stepE v c).length = c.length - 1
  | [], _ => rfl
  | [_], _ => rfl
  | a :: b :: r, v => by
    have := stepE_len (b :: r) (v + 1)
    simp only [stepE, List.length_cons] at this ⊢
    omega
theorem stepE_at : ∀ (c : List Int) (v : Int) (j : Nat) (x y : Int), c[j]? = some x → c[j + 1]? = some y → (stepE v c)[j]? = some ((v + j) * (y + x))
  | [], _, j, x, y, h, _ => by simp at h
  | [a], _, j, x, y, _, h => by simp at h
  | a :: b :: r, v, 0, x, y, h, h' => by
    simp at h h'
    subst h h'
    simp [stepE]
  | a :: b :: r, v, j + 1, x, y, h, h' => by
    have := stepE_at (b :: r) (v + 1) j x y (by simpa using h) (by simpa using h')
    simp only [stepE, List.getElem?_cons_succ, this]
    congr 2
    omega
theorem stepE_bd {k : Nat} (hk : 10 ≤ k) : ∀ (c : List Int) (v : Int), 0 ≤ v → v + c.length < 1000 → (∀ x ∈ c, Bd k x) → ∀ x ∈ stepE v c, Bd (k + 12) x
  | [], _, _, _, _ => by simp [stepE]
  | [_], _, _, _, _ => by simp [stepE]
  | a :: b :: r, v, v0, v1, h => by
    intro x hx
    simp only [stepE, List.mem_cons] at hx
    rcases hx with rfl | hx
    · have hv : Bd 10 v := .small (by simp at v1; omega) (Nat.le_refl _)
      exact (hv.mul ((h b (by simp)).add (h a (by simp)))).mono (by omega)
    · exact stepE_bd hk (b :: r) (v + 1) (by omega) (by simp at v1 ⊢; omega) (fun y hy => h y (List.mem_cons_of_mem _ hy)) x (by simpa using hx)
def itO (n : Nat) : Nat → List Int
  | 0 => 1 :: List.replicate n 0
  | k + 1 => 0 :: stepE 1 (itO n k)
theorem itO_len (n : Nat) : ∀ k, (itO n k).length = n + 1
  | 0 => by simp [itO]
  | k + 1 => by simp [itO, stepE_len, itO_len n k]
theorem itO_bd {n : Nat} (hn : n ≤ 60) : ∀ k, ∀ x ∈ itO n k, Bd (10 + 12 * k) x
  | 0 => fun x hx => by
    simp only [itO, List.mem_cons] at hx
    rcases hx with rfl | hx
    · exact .small (by decide) (by omega)
    · rw [List.eq_of_mem_replicate hx]
      exact .small (by decide) (by omega)
  | k + 1 => fun x hx => by
    simp only [itO, List.mem_cons] at hx
    rcases hx with rfl | hx
    · exact .small (by decide) (by omega)
    · exact (stepE_bd (by omega) _ 1 (by omega) (by rw [itO_len]; omega) (itO_bd hn k) x hx).mono (by omega)
theorem atD_int {vs : List Int} {i : Nat} {v : Int} (h : vs[i]? = some v) : atD (vs.map .int) (i : Int) = some (.int v) := L2.atI_nat (by rw [List.getElem?_map, h]; rfl)
theorem rep1i (n : Nat) (t : D) : (List.replicate n [t]).flatten = List.replicate n t := by
  induction n with
  | zero => rfl
  | succ n ih => rw [List.replicate_succ, List.flatten_cons, ih]; rfl
theorem itO_0 (n : Nat) : (itO n 0).map PyData.int = .int 1 :: List.replicate n (.int 0) := by simp [itO]
theorem orders_ok {N n : Nat} {Q : R → Option OB → Prop} (hn : n ≤ 60) (h : Q (.v (.int (itO n n).sum)) none) : Wc (sm (N + 1)) "orders" [.v (.int n)] Q := by
  have hc1 : (decide (-9223372036854775808 ≤ (n : Int)) && decide ((n : Int) ≤ 1000)) = true := by
    rw [Bool.and_eq_true]
    exact ⟨decide_eq_true (by omega), decide_eq_true (by omega)⟩
  (refine Wc_ok pf_orders rfl ?_; unfold f_orders; dsimp only)
  try simp (config := {decide := true, dsimp := false}) only [Wxs_nil, Wxs_cons, Wx_asg, Wx_own, Wx_aug, Wx_seti, Wx_ex, Wx_ret, Wx_retN, Wx_brk, Wx_cnt, Wx_pass, Wx_ite, Wx_for, Wx_fit, We_var, We_mov, We_pk, We_int, We_str, We_bl, We_non, We_glob, We_bin, We_cmp, We_idx, We_neg, We_not, We_and, We_or, We_ife, We_chain, Wes_nil, Wes_cons, Wec_nil, Wec_cons, Wea_nil, Wea_cons, Wea_ref, Wea_lend, We_calll, Wei_rd, Wep_n, Wep_s, We_tup, We_lst, We_call, We_bi, We_meth, We_slc, We_lc, We_lc2, We_mx, We_rev, We_dnew, We_dsp, We_dget, Wx_setd, We_lsc, We_callv, fnN_fnD, Odd_b, Osk_b, obD_l, obD_d, dfl, Wei_zip, Old_b, Wei_seq, Wei_enum, Wei_r1, Wei_r2, Ov_some, Ov_none, Ov_if, Ov_map, Cnd_t, Cnd_f, Aft_n, Aft_s, Obo_b, Oi_b, Ofr_b, Od_b, Ol_b, Osd_b, Osb_b, Ore_v, Ore_f, Sq_nx, Sq_rt, Sq_bk, Sq_ct, Lt_n, Lt_b, Fn1_nx, Fn1_rv, Fn1_rf, Fin1_n, Fin1_s, TurnQ_nx, TurnQ_ct, TurnQ_bk, TurnQ_rt, toC_v, toC_f, toC_p, toV, argsOf, argsL, flatR, flatD, refs, asT, asTs, bo, co, DP.bi, ix, augD, DP.meth, DP.slice, optI, seqOf, DP.wipe, back, DP.free, isI, truth, toInts_map, DP.isNon, sm64_a, sm64_b, sm64_c, sm64_d, pow_a, at0, at1, at2, at3, List.getElem?_cons_zero, List.getElem?_cons_succ, List.getElem?_nil, List.set_cons_zero, List.set_cons_succ, List.mapM_cons, List.mapM_nil, Option.pure_def, Option.bind_eq_bind, Option.bind_some, Option.map_some, Option.map_none, Option.getD_some, Option.getD_none, Option.join_some, List.length_cons, List.length_nil, List.length_map, List.map_cons, List.map_nil, List.cons_append, List.nil_append, List.getD_cons_zero, List.getD_cons_succ, Nat.reduceAdd, Nat.reduceSub, Nat.reduceLeDiff, Nat.reduceLT, Int.reduceLT, Int.reduceLE, Int.reduceNeg, Int.reducePow, Nat.reduceMul, Int.reduceAdd, Int.reduceSub, Int.reduceMul, Int.reduceToNat, Bool.not_true, Bool.not_false, Bool.and_true, Bool.true_and, Bool.and_false, Bool.false_and, Bool.or_true, Bool.or_false, Bool.true_or, Bool.false_or, decide_true, decide_false, and_true, true_and, and_false, false_and, or_true, or_false, true_or, false_or, if_true, if_false, eqv_int, eqv_str, eqv_bool, shp_int, shp_bool, shp_non, toBools_map, Bool.and_self, eq_self, Bool.false_eq_true, reduceCtorEq, reduceIte, List.all_cons, List.all_nil, slotOf, List.replicate_zero, List.append_nil, List.replicate_succ, rep1i, hc1]
  have e0 : (PyData.int 1 :: List.replicate (n : Int).toNat (PyData.int 0)) = (itO n 0).map .int := by rw [itO_0, Int.toNat_natCast]
  rw [e0]
  refine ⟨by rw [Bool.and_eq_true, Bool.and_eq_true]; exact ⟨⟨decide_eq_true (by omega), decide_eq_true (by omega)⟩, decide_eq_true (by unfold sizeL; omega)⟩, by rw [List.length_replicate]; unfold sizeL; omega, by simp [small62]; omega, ?_⟩
  refine For_ok (fun i ρ => ∃ s2 s3 s4 : DP.Slot, ρ = [.v (.int n), .v (.list ((itO n i).map .int)), s2, s3, s4]) ⟨_, _, _, rfl⟩ ?_ ?_
  · rintro i d ρ hi ⟨s2, s3, s4, rfl⟩
    have hi2 := (List.getElem?_eq_some_iff.mp hi).1
    rw [irange_len] at hi2
    have hlen := itO_len n i
    have hbd := itO_bd hn i
    have hsl := stepE_len (itO n i) 1
    try simp (config := {decide := true, dsimp := false}) only [Wxs_nil, Wxs_cons, Wx_asg, Wx_own, Wx_aug, Wx_seti, Wx_ex, Wx_ret, Wx_retN, Wx_brk, Wx_cnt, Wx_pass, Wx_ite, Wx_for, Wx_fit, We_var, We_mov, We_pk, We_int, We_str, We_bl, We_non, We_glob, We_bin, We_cmp, We_idx, We_neg, We_not, We_and, We_or, We_ife, We_chain, Wes_nil, Wes_cons, Wec_nil, Wec_cons, Wea_nil, Wea_cons, Wea_ref, Wea_lend, We_calll, Wei_rd, Wep_n, Wep_s, We_tup, We_lst, We_call, We_bi, We_meth, We_slc, We_lc, We_lc2, We_mx, We_rev, We_dnew, We_dsp, We_dget, Wx_setd, We_lsc, We_callv, fnN_fnD, Odd_b, Osk_b, obD_l, obD_d, dfl, Wei_zip, Old_b, Wei_seq, Wei_enum, Wei_r1, Wei_r2, Ov_some, Ov_none, Ov_if, Ov_map, Cnd_t, Cnd_f, Aft_n, Aft_s, Obo_b, Oi_b, Ofr_b, Od_b, Ol_b, Osd_b, Osb_b, Ore_v, Ore_f, Sq_nx, Sq_rt, Sq_bk, Sq_ct, Lt_n, Lt_b, Fn1_nx, Fn1_rv, Fn1_rf, Fin1_n, Fin1_s, TurnQ_nx, TurnQ_ct, TurnQ_bk, TurnQ_rt, toC_v, toC_f, toC_p, toV, argsOf, argsL, flatR, flatD, refs, asT, asTs, bo, co, DP.bi, ix, augD, DP.meth, DP.slice, optI, seqOf, DP.wipe, back, DP.free, isI, truth, toInts_map, DP.isNon, sm64_a, sm64_b, sm64_c, sm64_d, pow_a, at0, at1, at2, at3, List.getElem?_cons_zero, List.getElem?_cons_succ, List.getElem?_nil, List.set_cons_zero, List.set_cons_succ, List.mapM_cons, List.mapM_nil, Option.pure_def, Option.bind_eq_bind, Option.bind_some, Option.map_some, Option.map_none, Option.getD_some, Option.getD_none, Option.join_some, List.length_cons, List.length_nil, List.length_map, List.map_cons, List.map_nil, List.cons_append, List.nil_append, List.getD_cons_zero, List.getD_cons_succ, Nat.reduceAdd, Nat.reduceSub, Nat.reduceLeDiff, Nat.reduceLT, Int.reduceLT, Int.reduceLE, Int.reduceNeg, Int.reducePow, Nat.reduceMul, Int.reduceAdd, Int.reduceSub, Int.reduceMul, Int.reduceToNat, Bool.not_true, Bool.not_false, Bool.and_true, Bool.true_and, Bool.and_false, Bool.false_and, Bool.or_true, Bool.or_false, Bool.true_or, Bool.false_or, decide_true, decide_false, and_true, true_and, and_false, false_and, or_true, or_false, true_or, false_or, if_true, if_false, eqv_int, eqv_str, eqv_bool, shp_int, shp_bool, shp_non, toBools_map, Bool.and_self, eq_self, Bool.false_eq_true, reduceCtorEq, reduceIte, List.all_cons, List.all_nil, slotOf, List.replicate_zero, List.append_nil, List.replicate_succ]
    refine ⟨by rw [Bool.and_eq_true]; exact ⟨rfl, by simp [small62]; omega⟩, ?_⟩
    refine For_ok (fun j ρ => ∃ s4 : DP.Slot, ρ = [.v (.int n), .v (.list ((itO n i).map .int)), .v d, .o (.l ((0 :: (stepE 1 (itO n i)).take j).map .int)), s4]) ⟨s4, by simp⟩ ?_ ?_
    · rintro j dd ρ hj ⟨s4, rfl⟩
      obtain ⟨hj2, rfl⟩ := irange_at hj
      have hj3 : j < n := by omega
      have x1 : (itO n i)[j]? = some (itO n i)[j] := List.getElem?_eq_getElem (by omega)
      have x2 : (itO n i)[j + 1]? = some (itO n i)[j + 1] := List.getElem?_eq_getElem (by omega)
      have a1 : atD ((itO n i).map .int) (1 + (j : Int)) = some (.int (itO n i)[j + 1]) := by
        rw [show 1 + (j : Int) = ((j + 1 : Nat) : Int) by omega]; exact atD_int x2
      have a2 : atD ((itO n i).map .int) (1 + (j : Int) - 1) = some (.int (itO n i)[j]) := by
        rw [show 1 + (j : Int) - 1 = (j : Int) by omega]; exact atD_int x1
      have hv : Bd 10 (1 + (j : Int)) := .small (by omega) (Nat.le_refl _)
      have hw : DP.mulW (1 + (j : Int)) ((itO n i)[j + 1] + (itO n i)[j]) = true := hv.wide ((hbd _ (List.getElem_mem _)).add (hbd _ (List.getElem_mem _))) (by omega)
      have hsz : ((0 :: (stepE 1 (itO n i)).take j).map PyData.int).length < sizeL := by
        rw [List.length_map, List.length_cons, List.length_take]; unfold sizeL; omega
      have es := stepE_at (itO n i) 1 j _ _ x1 x2
      try simp (config := {decide := true, dsimp := false}) only [Wxs_nil, Wxs_cons, Wx_asg, Wx_own, Wx_aug, Wx_seti, Wx_ex, Wx_ret, Wx_retN, Wx_brk, Wx_cnt, Wx_pass, Wx_ite, Wx_for, Wx_fit, We_var, We_mov, We_pk, We_int, We_str, We_bl, We_non, We_glob, We_bin, We_cmp, We_idx, We_neg, We_not, We_and, We_or, We_ife, We_chain, Wes_nil, Wes_cons, Wec_nil, Wec_cons, Wea_nil, Wea_cons, Wea_ref, Wea_lend, We_calll, Wei_rd, Wep_n, Wep_s, We_tup, We_lst, We_call, We_bi, We_meth, We_slc, We_lc, We_lc2, We_mx, We_rev, We_dnew, We_dsp, We_dget, Wx_setd, We_lsc, We_callv, fnN_fnD, Odd_b, Osk_b, obD_l, obD_d, dfl, Wei_zip, Old_b, Wei_seq, Wei_enum, Wei_r1, Wei_r2, Ov_some, Ov_none, Ov_if, Ov_map, Cnd_t, Cnd_f, Aft_n, Aft_s, Obo_b, Oi_b, Ofr_b, Od_b, Ol_b, Osd_b, Osb_b, Ore_v, Ore_f, Sq_nx, Sq_rt, Sq_bk, Sq_ct, Lt_n, Lt_b, Fn1_nx, Fn1_rv, Fn1_rf, Fin1_n, Fin1_s, TurnQ_nx, TurnQ_ct, TurnQ_bk, TurnQ_rt, toC_v, toC_f, toC_p, toV, argsOf, argsL, flatR, flatD, refs, asT, asTs, bo, co, DP.bi, ix, augD, DP.meth, DP.slice, optI, seqOf, DP.wipe, back, DP.free, isI, truth, toInts_map, DP.isNon, sm64_a, sm64_b, sm64_c, sm64_d, pow_a, at0, at1, at2, at3, List.getElem?_cons_zero, List.getElem?_cons_succ, List.getElem?_nil, List.set_cons_zero, List.set_cons_succ, List.mapM_cons, List.mapM_nil, Option.pure_def, Option.bind_eq_bind, Option.bind_some, Option.map_some, Option.map_none, Option.getD_some, Option.getD_none, Option.join_some, List.length_cons, List.length_nil, List.length_map, List.map_cons, List.map_nil, List.cons_append, List.nil_append, List.getD_cons_zero, List.getD_cons_succ, Nat.reduceAdd, Nat.reduceSub, Nat.reduceLeDiff, Nat.reduceLT, Int.reduceLT, Int.reduceLE, Int.reduceNeg, Int.reducePow, Nat.reduceMul, Int.reduceAdd, Int.reduceSub, Int.reduceMul, Int.reduceToNat, Bool.not_true, Bool.not_false, Bool.and_true, Bool.true_and, Bool.and_false, Bool.false_and, Bool.or_true, Bool.or_false, Bool.true_or, Bool.false_or, decide_true, decide_false, and_true, true_and, and_false, false_and, or_true, or_false, true_or, false_or, if_true, if_false, eqv_int, eqv_str, eqv_bool, shp_int, shp_bool, shp_non, toBools_map, Bool.and_self, eq_self, Bool.false_eq_true, reduceCtorEq, reduceIte, List.all_cons, List.all_nil, slotOf, List.replicate_zero, List.append_nil, List.replicate_succ, a1, a2, hw]
      refine ⟨?_, .v (.int (1 + (j : Int))), ?_⟩
      · simpa using hsz
      · rw [take_snoc es]
        simp
    · rintro ρ ⟨s4, rfl⟩
      rw [irange_len, List.take_of_length_le (by omega)]
      try simp (config := {decide := true, dsimp := false}) only [Wxs_nil, Wxs_cons, Wx_asg, Wx_own, Wx_aug, Wx_seti, Wx_ex, Wx_ret, Wx_retN, Wx_brk, Wx_cnt, Wx_pass, Wx_ite, Wx_for, Wx_fit, We_var, We_mov, We_pk, We_int, We_str, We_bl, We_non, We_glob, We_bin, We_cmp, We_idx, We_neg, We_not, We_and, We_or, We_ife, We_chain, Wes_nil, Wes_cons, Wec_nil, Wec_cons, Wea_nil, Wea_cons, Wea_ref, Wea_lend, We_calll, Wei_rd, Wep_n, Wep_s, We_tup, We_lst, We_call, We_bi, We_meth, We_slc, We_lc, We_lc2, We_mx, We_rev, We_dnew, We_dsp, We_dget, Wx_setd, We_lsc, We_callv, fnN_fnD, Odd_b, Osk_b, obD_l, obD_d, dfl, Wei_zip, Old_b, Wei_seq, Wei_enum, Wei_r1, Wei_r2, Ov_some, Ov_none, Ov_if, Ov_map, Cnd_t, Cnd_f, Aft_n, Aft_s, Obo_b, Oi_b, Ofr_b, Od_b, Ol_b, Osd_b, Osb_b, Ore_v, Ore_f, Sq_nx, Sq_rt, Sq_bk, Sq_ct, Lt_n, Lt_b, Fn1_nx, Fn1_rv, Fn1_rf, Fin1_n, Fin1_s, TurnQ_nx, TurnQ_ct, TurnQ_bk, TurnQ_rt, toC_v, toC_f, toC_p, toV, argsOf, argsL, flatR, flatD, refs, asT, asTs, bo, co, DP.bi, ix, augD, DP.meth, DP.slice, optI, seqOf, DP.wipe, back, DP.free, isI, truth, toInts_map, DP.isNon, sm64_a, sm64_b, sm64_c, sm64_d, pow_a, at0, at1, at2, at3, List.getElem?_cons_zero, List.getElem?_cons_succ, List.getElem?_nil, List.set_cons_zero, List.set_cons_succ, List.mapM_cons, List.mapM_nil, Option.pure_def, Option.bind_eq_bind, Option.bind_some, Option.map_some, Option.map_none, Option.getD_some, Option.getD_none, Option.join_some, List.length_cons, List.length_nil, List.length_map, List.map_cons, List.map_nil, List.cons_append, List.nil_append, List.getD_cons_zero, List.getD_cons_succ, Nat.reduceAdd, Nat.reduceSub, Nat.reduceLeDiff, Nat.reduceLT, Int.reduceLT, Int.reduceLE, Int.reduceNeg, Int.reducePow, Nat.reduceMul, Int.reduceAdd, Int.reduceSub, Int.reduceMul, Int.reduceToNat, Bool.not_true, Bool.not_false, Bool.and_true, Bool.true_and, Bool.and_false, Bool.false_and, Bool.or_true, Bool.or_false, Bool.true_or, Bool.false_or, decide_true, decide_false, and_true, true_and, and_false, false_and, or_true, or_false, true_or, false_or, if_true, if_false, eqv_int, eqv_str, eqv_bool, shp_int, shp_bool, shp_non, toBools_map, Bool.and_self, eq_self, Bool.false_eq_true, reduceCtorEq, reduceIte, List.all_cons, List.all_nil, slotOf, List.replicate_zero, List.append_nil, List.replicate_succ]
      exact ⟨_, _, _, rfl⟩
  · rintro ρ ⟨s2, s3, s4, rfl⟩
    rw [irange_len, Int.toNat_natCast]
    try simp (config := {decide := true, dsimp := false}) only [Wxs_nil, Wxs_cons, Wx_asg, Wx_own, Wx_aug, Wx_seti, Wx_ex, Wx_ret, Wx_retN, Wx_brk, Wx_cnt, Wx_pass, Wx_ite, Wx_for, Wx_fit, We_var, We_mov, We_pk, We_int, We_str, We_bl, We_non, We_glob, We_bin, We_cmp, We_idx, We_neg, We_not, We_and, We_or, We_ife, We_chain, Wes_nil, Wes_cons, Wec_nil, Wec_cons, Wea_nil, Wea_cons, Wea_ref, Wea_lend, We_calll, Wei_rd, Wep_n, Wep_s, We_tup, We_lst, We_call, We_bi, We_meth, We_slc, We_lc, We_lc2, We_mx, We_rev, We_dnew, We_dsp, We_dget, Wx_setd, We_lsc, We_callv, fnN_fnD, Odd_b, Osk_b, obD_l, obD_d, dfl, Wei_zip, Old_b, Wei_seq, Wei_enum, Wei_r1, Wei_r2, Ov_some, Ov_none, Ov_if, Ov_map, Cnd_t, Cnd_f, Aft_n, Aft_s, Obo_b, Oi_b, Ofr_b, Od_b, Ol_b, Osd_b, Osb_b, Ore_v, Ore_f, Sq_nx, Sq_rt, Sq_bk, Sq_ct, Lt_n, Lt_b, Fn1_nx, Fn1_rv, Fn1_rf, Fin1_n, Fin1_s, TurnQ_nx, TurnQ_ct, TurnQ_bk, TurnQ_rt, toC_v, toC_f, toC_p, toV, argsOf, argsL, flatR, flatD, refs, asT, asTs, bo, co, DP.bi, ix, augD, DP.meth, DP.slice, optI, seqOf, DP.wipe, back, DP.free, isI, truth, toInts_map, DP.isNon, sm64_a, sm64_b, sm64_c, sm64_d, pow_a, at0, at1, at2, at3, List.getElem?_cons_zero, List.getElem?_cons_succ, List.getElem?_nil, List.set_cons_zero, List.set_cons_succ, List.mapM_cons, List.mapM_nil, Option.pure_def, Option.bind_eq_bind, Option.bind_some, Option.map_some, Option.map_none, Option.getD_some, Option.getD_none, Option.join_some, List.length_cons, List.length_nil, List.length_map, List.map_cons, List.map_nil, List.cons_append, List.nil_append, List.getD_cons_zero, List.getD_cons_succ, Nat.reduceAdd, Nat.reduceSub, Nat.reduceLeDiff, Nat.reduceLT, Int.reduceLT, Int.reduceLE, Int.reduceNeg, Int.reducePow, Nat.reduceMul, Int.reduceAdd, Int.reduceSub, Int.reduceMul, Int.reduceToNat, Bool.not_true, Bool.not_false, Bool.and_true, Bool.true_and, Bool.and_false, Bool.false_and, Bool.or_true, Bool.or_false, Bool.true_or, Bool.false_or, decide_true, decide_false, and_true, true_and, and_false, false_and, or_true, or_false, true_or, false_or, if_true, if_false, eqv_int, eqv_str, eqv_bool, shp_int, shp_bool, shp_non, toBools_map, Bool.and_self, eq_self, Bool.false_eq_true, reduceCtorEq, reduceIte, List.all_cons, List.all_nil, slotOf, List.replicate_zero, List.append_nil, List.replicate_succ, toInts_map]
    exact h
end K96
namespace K96
open PySem L2 DP
theorem cut_tk (xs : List D) {i : Nat} (h1 : i ≤ xs.length) : DP.cut xs none (some (i : Int)) = xs.take i := by
  unfold DP.cut
  have : HT.sIx xs.length xs.length (some (i : Int)) = i := by
    show (if (i : Int) < 0 then ((i : Int) + (xs.length : Int)).toNat else min (i : Int).toNat xs.length) = i
    rw [if_neg (by omega)]
    omega
  rw [this, HT.sIx_none, List.drop_zero, Nat.sub_zero]
theorem cut_dr (xs : List D) {i : Nat} (h1 : i ≤ xs.length) : DP.cut xs (some (i : Int)) none = xs.drop i := by
  unfold DP.cut
  have : HT.sIx xs.length 0 (some (i : Int)) = i := by
    show (if (i : Int) < 0 then ((i : Int) + (xs.length : Int)).toNat else min (i : Int).toNat xs.length) = i
    rw [if_neg (by omega)]
    omega
  rw [this, HT.sIx_none, List.take_of_length_le (by rw [List.length_drop]; omega)]
end K96
namespace K96
open PySem L2 DP
abbrev tp (r : List Int) : D := .tuple (r.map .int)
def nx (n : Nat) (r : List Int) : List (List Int) := (List.range n).map fun (v : Nat) => r ++ [(v : Int)]
def tgR (n : Nat) : Nat → List (List Int)
  | 0 => [[]]
  | k + 1 => (tgR n k).flatMap (nx n)
theorem flat_len (n : Nat) : ∀ l : List (List Int), (l.flatMap (nx n)).length = l.length * n
  | [] => by simp
  | r :: l => by simp [nx, flat_len n l, Nat.add_mul]; omega
theorem tgR_len (n : Nat) : ∀ k, (tgR n k).length = n ^ k
  | 0 => rfl
  | k + 1 => by rw [tgR, flat_len, tgR_len n k, Nat.pow_succ]
theorem tgR_row (n : Nat) : ∀ k, ∀ r ∈ tgR n k, r.length = k
  | 0 => by simp [tgR]
  | k + 1 => fun r hr => by
    obtain ⟨r0, h0, h1⟩ := List.mem_flatMap.mp hr
    obtain ⟨v, _, rfl⟩ := List.mem_map.mp h1
    simp [tgR_row n k r0 h0]
def pT (r : List Int) : Bool := decide (((DP.usort r).length : Int) = maxL (-1) r + 1)
theorem insU_len' (y : Int) : ∀ l : List Int, (DP.insU y l).length ≤ l.length + 1
  | [] => by simp [DP.insU]
  | z :: r => by
    have ih := insU_len' y r
    unfold DP.insU
    split
    · simp
    · split
      · simp
      · simpa using ih
theorem usort_len' : ∀ l : List Int, (DP.usort l).length ≤ l.length
  | [] => by simp [DP.usort]
  | y :: r => by
    have h1 := insU_len' y (DP.usort r)
    have h2 := usort_len' r
    simp only [DP.usort, List.length_cons]
    omega
theorem pow5_b {n k : Nat} (hn : n ≤ 5) (hk : k ≤ 5) : n ^ k ≤ 3125 := by
  have h1 : n ^ k ≤ 5 ^ k := Nat.pow_le_pow_left hn k
  have h2 : 5 ^ k ≤ 5 ^ 5 := Nat.pow_le_pow_right (by omega) hk
  have h3 : (5 : Nat) ^ 5 = 3125 := by decide
  omega
def Fr4 (s : DP.Slot) : Prop := s = .un ∨ ∃ d, s = .v d
theorem tights_ok {N n : Nat} {Q : R → Option OB → Prop} (hn : n ≤ 5) (h : Q (.fr (.l (((tgR n n).filter pT).map tp))) none) : Wc (sm (N + 1)) "_law_tights" [.v (.int n)] Q := by
  (refine Wc_ok pf_law_tights rfl ?_; unfold f_law_tights; dsimp only)
  try simp (config := {decide := true, dsimp := false}) only [Wxs_nil, Wxs_cons, Wx_asg, Wx_own, Wx_aug, Wx_seti, Wx_ex, Wx_ret, Wx_retN, Wx_brk, Wx_cnt, Wx_pass, Wx_ite, Wx_for, Wx_fit, We_var, We_mov, We_pk, We_int, We_str, We_bl, We_non, We_glob, We_bin, We_cmp, We_idx, We_neg, We_not, We_and, We_or, We_ife, We_chain, Wes_nil, Wes_cons, Wec_nil, Wec_cons, Wea_nil, Wea_cons, Wea_ref, Wea_lend, We_calll, Wei_rd, Wep_n, Wep_s, We_tup, We_lst, We_call, We_bi, We_meth, We_slc, We_lc, We_lc2, We_mx, We_rev, We_dnew, We_dsp, We_dget, Wx_setd, We_lsc, We_callv, fnN_fnD, Odd_b, Osk_b, obD_l, obD_d, dfl, Wei_zip, Old_b, Wei_seq, Wei_enum, Wei_r1, Wei_r2, Ov_some, Ov_none, Ov_if, Ov_map, Cnd_t, Cnd_f, Aft_n, Aft_s, Obo_b, Oi_b, Ofr_b, Od_b, Ol_b, Osd_b, Osb_b, Ore_v, Ore_f, Sq_nx, Sq_rt, Sq_bk, Sq_ct, Lt_n, Lt_b, Fn1_nx, Fn1_rv, Fn1_rf, Fin1_n, Fin1_s, TurnQ_nx, TurnQ_ct, TurnQ_bk, TurnQ_rt, toC_v, toC_f, toC_p, toV, argsOf, argsL, flatR, flatD, refs, asT, asTs, bo, co, DP.bi, ix, augD, DP.meth, DP.slice, optI, seqOf, DP.wipe, back, DP.free, isI, truth, toInts_map, DP.isNon, sm64_a, sm64_b, sm64_c, sm64_d, pow_a, at0, at1, at2, at3, List.getElem?_cons_zero, List.getElem?_cons_succ, List.getElem?_nil, List.set_cons_zero, List.set_cons_succ, List.mapM_cons, List.mapM_nil, Option.pure_def, Option.bind_eq_bind, Option.bind_some, Option.map_some, Option.map_none, Option.getD_some, Option.getD_none, Option.join_some, List.length_cons, List.length_nil, List.length_map, List.map_cons, List.map_nil, List.cons_append, List.nil_append, List.getD_cons_zero, List.getD_cons_succ, Nat.reduceAdd, Nat.reduceSub, Nat.reduceLeDiff, Nat.reduceLT, Int.reduceLT, Int.reduceLE, Int.reduceNeg, Int.reducePow, Nat.reduceMul, Int.reduceAdd, Int.reduceSub, Int.reduceMul, Int.reduceToNat, Bool.not_true, Bool.not_false, Bool.and_true, Bool.true_and, Bool.and_false, Bool.false_and, Bool.or_true, Bool.or_false, Bool.true_or, Bool.false_or, decide_true, decide_false, and_true, true_and, and_false, false_and, or_true, or_false, true_or, false_or, if_true, if_false, eqv_int, eqv_str, eqv_bool, shp_int, shp_bool, shp_non, toBools_map, Bool.and_self, eq_self, Bool.false_eq_true, reduceCtorEq, reduceIte, List.all_cons, List.all_nil, slotOf, List.replicate_zero, List.append_nil, List.replicate_succ]
  refine ⟨by simp [small62]; omega, ?_⟩
  refine For_ok (fun i ρ => ∃ s2 s3 s4 s5 : DP.Slot, Fr4 s4 ∧ ρ = [.v (.int n), .v (.list ((tgR n i).map tp)), s2, s3, s4, s5]) ⟨_, _, _, _, .inl rfl, rfl⟩ ?_ ?_
  · rintro i d ρ hi ⟨s2, s3, s4, s5, h4, rfl⟩
    have hi2 := (List.getElem?_eq_some_iff.mp hi).1
    rw [irange_len, Int.toNat_natCast] at hi2
    have hl1 := tgR_len n i
    have hb1 := pow5_b hn (show i ≤ 5 by omega)
    try simp (config := {decide := true, dsimp := false}) only [Wxs_nil, Wxs_cons, Wx_asg, Wx_own, Wx_aug, Wx_seti, Wx_ex, Wx_ret, Wx_retN, Wx_brk, Wx_cnt, Wx_pass, Wx_ite, Wx_for, Wx_fit, We_var, We_mov, We_pk, We_int, We_str, We_bl, We_non, We_glob, We_bin, We_cmp, We_idx, We_neg, We_not, We_and, We_or, We_ife, We_chain, Wes_nil, Wes_cons, Wec_nil, Wec_cons, Wea_nil, Wea_cons, Wea_ref, Wea_lend, We_calll, Wei_rd, Wep_n, Wep_s, We_tup, We_lst, We_call, We_bi, We_meth, We_slc, We_lc, We_lc2, We_mx, We_rev, We_dnew, We_dsp, We_dget, Wx_setd, We_lsc, We_callv, fnN_fnD, Odd_b, Osk_b, obD_l, obD_d, dfl, Wei_zip, Old_b, Wei_seq, Wei_enum, Wei_r1, Wei_r2, Ov_some, Ov_none, Ov_if, Ov_map, Cnd_t, Cnd_f, Aft_n, Aft_s, Obo_b, Oi_b, Ofr_b, Od_b, Ol_b, Osd_b, Osb_b, Ore_v, Ore_f, Sq_nx, Sq_rt, Sq_bk, Sq_ct, Lt_n, Lt_b, Fn1_nx, Fn1_rv, Fn1_rf, Fin1_n, Fin1_s, TurnQ_nx, TurnQ_ct, TurnQ_bk, TurnQ_rt, toC_v, toC_f, toC_p, toV, argsOf, argsL, flatR, flatD, refs, asT, asTs, bo, co, DP.bi, ix, augD, DP.meth, DP.slice, optI, seqOf, DP.wipe, back, DP.free, isI, truth, toInts_map, DP.isNon, sm64_a, sm64_b, sm64_c, sm64_d, pow_a, at0, at1, at2, at3, List.getElem?_cons_zero, List.getElem?_cons_succ, List.getElem?_nil, List.set_cons_zero, List.set_cons_succ, List.mapM_cons, List.mapM_nil, Option.pure_def, Option.bind_eq_bind, Option.bind_some, Option.map_some, Option.map_none, Option.getD_some, Option.getD_none, Option.join_some, List.length_cons, List.length_nil, List.length_map, List.map_cons, List.map_nil, List.cons_append, List.nil_append, List.getD_cons_zero, List.getD_cons_succ, Nat.reduceAdd, Nat.reduceSub, Nat.reduceLeDiff, Nat.reduceLT, Int.reduceLT, Int.reduceLE, Int.reduceNeg, Int.reducePow, Nat.reduceMul, Int.reduceAdd, Int.reduceSub, Int.reduceMul, Int.reduceToNat, Bool.not_true, Bool.not_false, Bool.and_true, Bool.true_and, Bool.and_false, Bool.false_and, Bool.or_true, Bool.or_false, Bool.true_or, Bool.false_or, decide_true, decide_false, and_true, true_and, and_false, false_and, or_true, or_false, true_or, false_or, if_true, if_false, eqv_int, eqv_str, eqv_bool, shp_int, shp_bool, shp_non, toBools_map, Bool.and_self, eq_self, Bool.false_eq_true, reduceCtorEq, reduceIte, List.all_cons, List.all_nil, slotOf, List.replicate_zero, List.append_nil, List.replicate_succ]
    refine For_ok (fun j ρ => ∃ s4 s5 : DP.Slot, Fr4 s4 ∧ ρ = [.v (.int n), .v (.list ((tgR n i).map tp)), .v d, .o (.l ((((tgR n i).take j).flatMap (nx n)).map tp)), s4, s5]) ⟨_, _, h4, rfl⟩ ?_ ?_
    · rintro j dd ρ hj ⟨s4, s5, h4, rfl⟩
      rw [List.getElem?_map] at hj
      obtain ⟨r, hr, rfl⟩ := Option.map_eq_some_iff.mp hj
      have hrl := tgR_row n i r (List.mem_of_getElem? hr)
      try simp (config := {decide := true, dsimp := false}) only [Wxs_nil, Wxs_cons, Wx_asg, Wx_own, Wx_aug, Wx_seti, Wx_ex, Wx_ret, Wx_retN, Wx_brk, Wx_cnt, Wx_pass, Wx_ite, Wx_for, Wx_fit, We_var, We_mov, We_pk, We_int, We_str, We_bl, We_non, We_glob, We_bin, We_cmp, We_idx, We_neg, We_not, We_and, We_or, We_ife, We_chain, Wes_nil, Wes_cons, Wec_nil, Wec_cons, Wea_nil, Wea_cons, Wea_ref, Wea_lend, We_calll, Wei_rd, Wep_n, Wep_s, We_tup, We_lst, We_call, We_bi, We_meth, We_slc, We_lc, We_lc2, We_mx, We_rev, We_dnew, We_dsp, We_dget, Wx_setd, We_lsc, We_callv, fnN_fnD, Odd_b, Osk_b, obD_l, obD_d, dfl, Wei_zip, Old_b, Wei_seq, Wei_enum, Wei_r1, Wei_r2, Ov_some, Ov_none, Ov_if, Ov_map, Cnd_t, Cnd_f, Aft_n, Aft_s, Obo_b, Oi_b, Ofr_b, Od_b, Ol_b, Osd_b, Osb_b, Ore_v, Ore_f, Sq_nx, Sq_rt, Sq_bk, Sq_ct, Lt_n, Lt_b, Fn1_nx, Fn1_rv, Fn1_rf, Fin1_n, Fin1_s, TurnQ_nx, TurnQ_ct, TurnQ_bk, TurnQ_rt, toC_v, toC_f, toC_p, toV, argsOf, argsL, flatR, flatD, refs, asT, asTs, bo, co, DP.bi, ix, augD, DP.meth, DP.slice, optI, seqOf, DP.wipe, back, DP.free, isI, truth, toInts_map, DP.isNon, sm64_a, sm64_b, sm64_c, sm64_d, pow_a, at0, at1, at2, at3, List.getElem?_cons_zero, List.getElem?_cons_succ, List.getElem?_nil, List.set_cons_zero, List.set_cons_succ, List.mapM_cons, List.mapM_nil, Option.pure_def, Option.bind_eq_bind, Option.bind_some, Option.map_some, Option.map_none, Option.getD_some, Option.getD_none, Option.join_some, List.length_cons, List.length_nil, List.length_map, List.map_cons, List.map_nil, List.cons_append, List.nil_append, List.getD_cons_zero, List.getD_cons_succ, Nat.reduceAdd, Nat.reduceSub, Nat.reduceLeDiff, Nat.reduceLT, Int.reduceLT, Int.reduceLE, Int.reduceNeg, Int.reducePow, Nat.reduceMul, Int.reduceAdd, Int.reduceSub, Int.reduceMul, Int.reduceToNat, Bool.not_true, Bool.not_false, Bool.and_true, Bool.true_and, Bool.and_false, Bool.false_and, Bool.or_true, Bool.or_false, Bool.true_or, Bool.false_or, decide_true, decide_false, and_true, true_and, and_false, false_and, or_true, or_false, true_or, false_or, if_true, if_false, eqv_int, eqv_str, eqv_bool, shp_int, shp_bool, shp_non, toBools_map, Bool.and_self, eq_self, Bool.false_eq_true, reduceCtorEq, reduceIte, List.all_cons, List.all_nil, slotOf, List.replicate_zero, List.append_nil, List.replicate_succ]
      refine ⟨by simp [small62]; omega, ?_⟩
      refine For_ok (fun k ρ => ∃ s5 : DP.Slot, ρ = [.v (.int n), .v (.list ((tgR n i).map tp)), .v d, .o (.l ((((tgR n i).take j).flatMap (nx n) ++ (nx n r).take k).map tp)), .v (tp r), s5]) ⟨s5, by simp⟩ ?_ ?_
      · rintro k dd ρ hk ⟨s5, rfl⟩
        obtain ⟨hk2, rfl⟩ := irange_at hk
        rw [Int.toNat_natCast] at hk2
        have ek : (nx n r)[k]? = some (r ++ [(k : Int)]) := by
          unfold nx
          rw [List.getElem?_map, List.getElem?_range hk2]
          rfl
        have hz : ((((tgR n i).take j).flatMap (nx n) ++ (nx n r).take k).map tp).length < sizeL := by
          rw [List.length_map, List.length_append, flat_len, List.length_take, List.length_take]
          have : (nx n r).length = n := by simp [nx]
          have h1 : min j (tgR n i).length * n ≤ 3125 * 5 := Nat.mul_le_mul (by omega) hn
          unfold sizeL
          omega
        have hz2 : r.length + 1 ≤ sizeL := by unfold sizeL; omega
        rw [List.length_map] at hz
        try simp (config := {decide := true, dsimp := false}) only [Wxs_nil, Wxs_cons, Wx_asg, Wx_own, Wx_aug, Wx_seti, Wx_ex, Wx_ret, Wx_retN, Wx_brk, Wx_cnt, Wx_pass, Wx_ite, Wx_for, Wx_fit, We_var, We_mov, We_pk, We_int, We_str, We_bl, We_non, We_glob, We_bin, We_cmp, We_idx, We_neg, We_not, We_and, We_or, We_ife, We_chain, Wes_nil, Wes_cons, Wec_nil, Wec_cons, Wea_nil, Wea_cons, Wea_ref, Wea_lend, We_calll, Wei_rd, Wep_n, Wep_s, We_tup, We_lst, We_call, We_bi, We_meth, We_slc, We_lc, We_lc2, We_mx, We_rev, We_dnew, We_dsp, We_dget, Wx_setd, We_lsc, We_callv, fnN_fnD, Odd_b, Osk_b, obD_l, obD_d, dfl, Wei_zip, Old_b, Wei_seq, Wei_enum, Wei_r1, Wei_r2, Ov_some, Ov_none, Ov_if, Ov_map, Cnd_t, Cnd_f, Aft_n, Aft_s, Obo_b, Oi_b, Ofr_b, Od_b, Ol_b, Osd_b, Osb_b, Ore_v, Ore_f, Sq_nx, Sq_rt, Sq_bk, Sq_ct, Lt_n, Lt_b, Fn1_nx, Fn1_rv, Fn1_rf, Fin1_n, Fin1_s, TurnQ_nx, TurnQ_ct, TurnQ_bk, TurnQ_rt, toC_v, toC_f, toC_p, toV, argsOf, argsL, flatR, flatD, refs, asT, asTs, bo, co, DP.bi, ix, augD, DP.meth, DP.slice, optI, seqOf, DP.wipe, back, DP.free, isI, truth, toInts_map, DP.isNon, sm64_a, sm64_b, sm64_c, sm64_d, pow_a, at0, at1, at2, at3, List.getElem?_cons_zero, List.getElem?_cons_succ, List.getElem?_nil, List.set_cons_zero, List.set_cons_succ, List.mapM_cons, List.mapM_nil, Option.pure_def, Option.bind_eq_bind, Option.bind_some, Option.map_some, Option.map_none, Option.getD_some, Option.getD_none, Option.join_some, List.length_cons, List.length_nil, List.length_map, List.map_cons, List.map_nil, List.cons_append, List.nil_append, List.getD_cons_zero, List.getD_cons_succ, Nat.reduceAdd, Nat.reduceSub, Nat.reduceLeDiff, Nat.reduceLT, Int.reduceLT, Int.reduceLE, Int.reduceNeg, Int.reducePow, Nat.reduceMul, Int.reduceAdd, Int.reduceSub, Int.reduceMul, Int.reduceToNat, Bool.not_true, Bool.not_false, Bool.and_true, Bool.true_and, Bool.and_false, Bool.false_and, Bool.or_true, Bool.or_false, Bool.true_or, Bool.false_or, decide_true, decide_false, and_true, true_and, and_false, false_and, or_true, or_false, true_or, false_or, if_true, if_false, eqv_int, eqv_str, eqv_bool, shp_int, shp_bool, shp_non, toBools_map, Bool.and_self, eq_self, Bool.false_eq_true, reduceCtorEq, reduceIte, List.all_cons, List.all_nil, slotOf, List.replicate_zero, List.append_nil, List.replicate_succ]
        refine ⟨hz2, hz, .v (.int (0 + (k : Int))), ?_⟩
        rw [take_snoc ek]
        simp
      · rintro ρ ⟨s5, rfl⟩
        have hnl : (nx n r).length = n := by simp [nx]
        have hnt : (nx n r).take n = nx n r := List.take_of_length_le (by omega)
        rw [irange_len, Int.toNat_natCast, hnt]
        try simp (config := {decide := true, dsimp := false}) only [Wxs_nil, Wxs_cons, Wx_asg, Wx_own, Wx_aug, Wx_seti, Wx_ex, Wx_ret, Wx_retN, Wx_brk, Wx_cnt, Wx_pass, Wx_ite, Wx_for, Wx_fit, We_var, We_mov, We_pk, We_int, We_str, We_bl, We_non, We_glob, We_bin, We_cmp, We_idx, We_neg, We_not, We_and, We_or, We_ife, We_chain, Wes_nil, Wes_cons, Wec_nil, Wec_cons, Wea_nil, Wea_cons, Wea_ref, Wea_lend, We_calll, Wei_rd, Wep_n, Wep_s, We_tup, We_lst, We_call, We_bi, We_meth, We_slc, We_lc, We_lc2, We_mx, We_rev, We_dnew, We_dsp, We_dget, Wx_setd, We_lsc, We_callv, fnN_fnD, Odd_b, Osk_b, obD_l, obD_d, dfl, Wei_zip, Old_b, Wei_seq, Wei_enum, Wei_r1, Wei_r2, Ov_some, Ov_none, Ov_if, Ov_map, Cnd_t, Cnd_f, Aft_n, Aft_s, Obo_b, Oi_b, Ofr_b, Od_b, Ol_b, Osd_b, Osb_b, Ore_v, Ore_f, Sq_nx, Sq_rt, Sq_bk, Sq_ct, Lt_n, Lt_b, Fn1_nx, Fn1_rv, Fn1_rf, Fin1_n, Fin1_s, TurnQ_nx, TurnQ_ct, TurnQ_bk, TurnQ_rt, toC_v, toC_f, toC_p, toV, argsOf, argsL, flatR, flatD, refs, asT, asTs, bo, co, DP.bi, ix, augD, DP.meth, DP.slice, optI, seqOf, DP.wipe, back, DP.free, isI, truth, toInts_map, DP.isNon, sm64_a, sm64_b, sm64_c, sm64_d, pow_a, at0, at1, at2, at3, List.getElem?_cons_zero, List.getElem?_cons_succ, List.getElem?_nil, List.set_cons_zero, List.set_cons_succ, List.mapM_cons, List.mapM_nil, Option.pure_def, Option.bind_eq_bind, Option.bind_some, Option.map_some, Option.map_none, Option.getD_some, Option.getD_none, Option.join_some, List.length_cons, List.length_nil, List.length_map, List.map_cons, List.map_nil, List.cons_append, List.nil_append, List.getD_cons_zero, List.getD_cons_succ, Nat.reduceAdd, Nat.reduceSub, Nat.reduceLeDiff, Nat.reduceLT, Int.reduceLT, Int.reduceLE, Int.reduceNeg, Int.reducePow, Nat.reduceMul, Int.reduceAdd, Int.reduceSub, Int.reduceMul, Int.reduceToNat, Bool.not_true, Bool.not_false, Bool.and_true, Bool.true_and, Bool.and_false, Bool.false_and, Bool.or_true, Bool.or_false, Bool.true_or, Bool.false_or, decide_true, decide_false, and_true, true_and, and_false, false_and, or_true, or_false, true_or, false_or, if_true, if_false, eqv_int, eqv_str, eqv_bool, shp_int, shp_bool, shp_non, toBools_map, Bool.and_self, eq_self, Bool.false_eq_true, reduceCtorEq, reduceIte, List.all_cons, List.all_nil, slotOf, List.replicate_zero, List.append_nil, List.replicate_succ]
        refine ⟨.v (tp r), s5, .inr ⟨_, rfl⟩, ?_⟩
        rw [take_snoc hr]
        simp
    · rintro ρ ⟨s4, s5, h4, rfl⟩
      rw [List.length_map, List.take_length]
      try simp (config := {decide := true, dsimp := false}) only [Wxs_nil, Wxs_cons, Wx_asg, Wx_own, Wx_aug, Wx_seti, Wx_ex, Wx_ret, Wx_retN, Wx_brk, Wx_cnt, Wx_pass, Wx_ite, Wx_for, Wx_fit, We_var, We_mov, We_pk, We_int, We_str, We_bl, We_non, We_glob, We_bin, We_cmp, We_idx, We_neg, We_not, We_and, We_or, We_ife, We_chain, Wes_nil, Wes_cons, Wec_nil, Wec_cons, Wea_nil, Wea_cons, Wea_ref, Wea_lend, We_calll, Wei_rd, Wep_n, Wep_s, We_tup, We_lst, We_call, We_bi, We_meth, We_slc, We_lc, We_lc2, We_mx, We_rev, We_dnew, We_dsp, We_dget, Wx_setd, We_lsc, We_callv, fnN_fnD, Odd_b, Osk_b, obD_l, obD_d, dfl, Wei_zip, Old_b, Wei_seq, Wei_enum, Wei_r1, Wei_r2, Ov_some, Ov_none, Ov_if, Ov_map, Cnd_t, Cnd_f, Aft_n, Aft_s, Obo_b, Oi_b, Ofr_b, Od_b, Ol_b, Osd_b, Osb_b, Ore_v, Ore_f, Sq_nx, Sq_rt, Sq_bk, Sq_ct, Lt_n, Lt_b, Fn1_nx, Fn1_rv, Fn1_rf, Fin1_n, Fin1_s, TurnQ_nx, TurnQ_ct, TurnQ_bk, TurnQ_rt, toC_v, toC_f, toC_p, toV, argsOf, argsL, flatR, flatD, refs, asT, asTs, bo, co, DP.bi, ix, augD, DP.meth, DP.slice, optI, seqOf, DP.wipe, back, DP.free, isI, truth, toInts_map, DP.isNon, sm64_a, sm64_b, sm64_c, sm64_d, pow_a, at0, at1, at2, at3, List.getElem?_cons_zero, List.getElem?_cons_succ, List.getElem?_nil, List.set_cons_zero, List.set_cons_succ, List.mapM_cons, List.mapM_nil, Option.pure_def, Option.bind_eq_bind, Option.bind_some, Option.map_some, Option.map_none, Option.getD_some, Option.getD_none, Option.join_some, List.length_cons, List.length_nil, List.length_map, List.map_cons, List.map_nil, List.cons_append, List.nil_append, List.getD_cons_zero, List.getD_cons_succ, Nat.reduceAdd, Nat.reduceSub, Nat.reduceLeDiff, Nat.reduceLT, Int.reduceLT, Int.reduceLE, Int.reduceNeg, Int.reducePow, Nat.reduceMul, Int.reduceAdd, Int.reduceSub, Int.reduceMul, Int.reduceToNat, Bool.not_true, Bool.not_false, Bool.and_true, Bool.true_and, Bool.and_false, Bool.false_and, Bool.or_true, Bool.or_false, Bool.true_or, Bool.false_or, decide_true, decide_false, and_true, true_and, and_false, false_and, or_true, or_false, true_or, false_or, if_true, if_false, eqv_int, eqv_str, eqv_bool, shp_int, shp_bool, shp_non, toBools_map, Bool.and_self, eq_self, Bool.false_eq_true, reduceCtorEq, reduceIte, List.all_cons, List.all_nil, slotOf, List.replicate_zero, List.append_nil, List.replicate_succ]
      exact ⟨_, _, _, _, h4, rfl⟩
  · rintro ρ ⟨s2, s3, s4, s5, h4, rfl⟩
    rw [irange_len, Int.toNat_natCast]
    have hl1 := tgR_len n n
    have hb1 := pow5_b hn hn
    try simp (config := {decide := true, dsimp := false}) only [Wxs_nil, Wxs_cons, Wx_asg, Wx_own, Wx_aug, Wx_seti, Wx_ex, Wx_ret, Wx_retN, Wx_brk, Wx_cnt, Wx_pass, Wx_ite, Wx_for, Wx_fit, We_var, We_mov, We_pk, We_int, We_str, We_bl, We_non, We_glob, We_bin, We_cmp, We_idx, We_neg, We_not, We_and, We_or, We_ife, We_chain, Wes_nil, Wes_cons, Wec_nil, Wec_cons, Wea_nil, Wea_cons, Wea_ref, Wea_lend, We_calll, Wei_rd, Wep_n, Wep_s, We_tup, We_lst, We_call, We_bi, We_meth, We_slc, We_lc, We_lc2, We_mx, We_rev, We_dnew, We_dsp, We_dget, Wx_setd, We_lsc, We_callv, fnN_fnD, Odd_b, Osk_b, obD_l, obD_d, dfl, Wei_zip, Old_b, Wei_seq, Wei_enum, Wei_r1, Wei_r2, Ov_some, Ov_none, Ov_if, Ov_map, Cnd_t, Cnd_f, Aft_n, Aft_s, Obo_b, Oi_b, Ofr_b, Od_b, Ol_b, Osd_b, Osb_b, Ore_v, Ore_f, Sq_nx, Sq_rt, Sq_bk, Sq_ct, Lt_n, Lt_b, Fn1_nx, Fn1_rv, Fn1_rf, Fin1_n, Fin1_s, TurnQ_nx, TurnQ_ct, TurnQ_bk, TurnQ_rt, toC_v, toC_f, toC_p, toV, argsOf, argsL, flatR, flatD, refs, asT, asTs, bo, co, DP.bi, ix, augD, DP.meth, DP.slice, optI, seqOf, DP.wipe, back, DP.free, isI, truth, toInts_map, DP.isNon, sm64_a, sm64_b, sm64_c, sm64_d, pow_a, at0, at1, at2, at3, List.getElem?_cons_zero, List.getElem?_cons_succ, List.getElem?_nil, List.set_cons_zero, List.set_cons_succ, List.mapM_cons, List.mapM_nil, Option.pure_def, Option.bind_eq_bind, Option.bind_some, Option.map_some, Option.map_none, Option.getD_some, Option.getD_none, Option.join_some, List.length_cons, List.length_nil, List.length_map, List.map_cons, List.map_nil, List.cons_append, List.nil_append, List.getD_cons_zero, List.getD_cons_succ, Nat.reduceAdd, Nat.reduceSub, Nat.reduceLeDiff, Nat.reduceLT, Int.reduceLT, Int.reduceLE, Int.reduceNeg, Int.reducePow, Nat.reduceMul, Int.reduceAdd, Int.reduceSub, Int.reduceMul, Int.reduceToNat, Bool.not_true, Bool.not_false, Bool.and_true, Bool.true_and, Bool.and_false, Bool.false_and, Bool.or_true, Bool.or_false, Bool.true_or, Bool.false_or, decide_true, decide_false, and_true, true_and, and_false, false_and, or_true, or_false, true_or, false_or, if_true, if_false, eqv_int, eqv_str, eqv_bool, shp_int, shp_bool, shp_non, toBools_map, Bool.and_self, eq_self, Bool.false_eq_true, reduceCtorEq, reduceIte, List.all_cons, List.all_nil, slotOf, List.replicate_zero, List.append_nil, List.replicate_succ]
    refine Lc_ok (fun j ys ρ => ∃ s4 : DP.Slot, ys = (((tgR n n).take j).filter pT).map tp ∧ ρ = [.v (.int n), .v (.list ((tgR n n).map tp)), s2, s3, s4, s5]) (sz _ (by rw [List.length_map]; omega)) (by rcases h4 with rfl | ⟨d, rfl⟩ <;> rfl) ⟨_, by simp, rfl⟩ ?_ ?_
    · rintro j dd ys ρ hj ⟨s4, rfl, rfl⟩
      rw [List.getElem?_map] at hj
      obtain ⟨r, hr, rfl⟩ := Option.map_eq_some_iff.mp hj
      have hrl := tgR_row n n r (List.mem_of_getElem? hr)
      have hul := usort_len' r
      have q1 : ((DP.usort r).length < 4000) = True := eq_true (by omega)
      have q2 : (r.length < 4000) = True := eq_true (by omega)
      have z1 : (1 + r.length ≤ sizeL) = True := eq_true (by unfold sizeL; omega)
      have z2 : (r.length + 1 ≤ sizeL) = True := eq_true (by unfold sizeL; omega)
      have ti : toInts (PyData.int (-1) :: r.map PyData.int) = some (-1 :: r) := toInts_map (-1 :: r)
      try simp (config := {decide := true, dsimp := false}) only [Wxs_nil, Wxs_cons, Wx_asg, Wx_own, Wx_aug, Wx_seti, Wx_ex, Wx_ret, Wx_retN, Wx_brk, Wx_cnt, Wx_pass, Wx_ite, Wx_for, Wx_fit, We_var, We_mov, We_pk, We_int, We_str, We_bl, We_non, We_glob, We_bin, We_cmp, We_idx, We_neg, We_not, We_and, We_or, We_ife, We_chain, Wes_nil, Wes_cons, Wec_nil, Wec_cons, Wea_nil, Wea_cons, Wea_ref, Wea_lend, We_calll, Wei_rd, Wep_n, Wep_s, We_tup, We_lst, We_call, We_bi, We_meth, We_slc, We_lc, We_lc2, We_mx, We_rev, We_dnew, We_dsp, We_dget, Wx_setd, We_lsc, We_callv, fnN_fnD, Odd_b, Osk_b, obD_l, obD_d, dfl, Wei_zip, Old_b, Wei_seq, Wei_enum, Wei_r1, Wei_r2, Ov_some, Ov_none, Ov_if, Ov_map, Cnd_t, Cnd_f, Aft_n, Aft_s, Obo_b, Oi_b, Ofr_b, Od_b, Ol_b, Osd_b, Osb_b, Ore_v, Ore_f, Sq_nx, Sq_rt, Sq_bk, Sq_ct, Lt_n, Lt_b, Fn1_nx, Fn1_rv, Fn1_rf, Fin1_n, Fin1_s, TurnQ_nx, TurnQ_ct, TurnQ_bk, TurnQ_rt, toC_v, toC_f, toC_p, toV, argsOf, argsL, flatR, flatD, refs, asT, asTs, bo, co, DP.bi, ix, augD, DP.meth, DP.slice, optI, seqOf, DP.wipe, back, DP.free, isI, truth, toInts_map, DP.isNon, sm64_a, sm64_b, sm64_c, sm64_d, pow_a, at0, at1, at2, at3, List.getElem?_cons_zero, List.getElem?_cons_succ, List.getElem?_nil, List.set_cons_zero, List.set_cons_succ, List.mapM_cons, List.mapM_nil, Option.pure_def, Option.bind_eq_bind, Option.bind_some, Option.map_some, Option.map_none, Option.getD_some, Option.getD_none, Option.join_some, List.length_cons, List.length_nil, List.length_map, List.map_cons, List.map_nil, List.cons_append, List.nil_append, List.getD_cons_zero, List.getD_cons_succ, Nat.reduceAdd, Nat.reduceSub, Nat.reduceLeDiff, Nat.reduceLT, Int.reduceLT, Int.reduceLE, Int.reduceNeg, Int.reducePow, Nat.reduceMul, Int.reduceAdd, Int.reduceSub, Int.reduceMul, Int.reduceToNat, Bool.not_true, Bool.not_false, Bool.and_true, Bool.true_and, Bool.and_false, Bool.false_and, Bool.or_true, Bool.or_false, Bool.true_or, Bool.false_or, decide_true, decide_false, and_true, true_and, and_false, false_and, or_true, or_false, true_or, false_or, if_true, if_false, eqv_int, eqv_str, eqv_bool, shp_int, shp_bool, shp_non, toBools_map, Bool.and_self, eq_self, Bool.false_eq_true, reduceCtorEq, reduceIte, List.all_cons, List.all_nil, slotOf, List.replicate_zero, List.append_nil, List.replicate_succ, q1, q2, z1, z2, ti, toInts_map]
      refine Cnd_p (fun hc => ?_) fun hc => ?_
      · have hp : pT r = true := decide_eq_true (by simpa using hc)
        try simp (config := {decide := true, dsimp := false}) only [Wxs_nil, Wxs_cons, Wx_asg, Wx_own, Wx_aug, Wx_seti, Wx_ex, Wx_ret, Wx_retN, Wx_brk, Wx_cnt, Wx_pass, Wx_ite, Wx_for, Wx_fit, We_var, We_mov, We_pk, We_int, We_str, We_bl, We_non, We_glob, We_bin, We_cmp, We_idx, We_neg, We_not, We_and, We_or, We_ife, We_chain, Wes_nil, Wes_cons, Wec_nil, Wec_cons, Wea_nil, Wea_cons, Wea_ref, Wea_lend, We_calll, Wei_rd, Wep_n, Wep_s, We_tup, We_lst, We_call, We_bi, We_meth, We_slc, We_lc, We_lc2, We_mx, We_rev, We_dnew, We_dsp, We_dget, Wx_setd, We_lsc, We_callv, fnN_fnD, Odd_b, Osk_b, obD_l, obD_d, dfl, Wei_zip, Old_b, Wei_seq, Wei_enum, Wei_r1, Wei_r2, Ov_some, Ov_none, Ov_if, Ov_map, Cnd_t, Cnd_f, Aft_n, Aft_s, Obo_b, Oi_b, Ofr_b, Od_b, Ol_b, Osd_b, Osb_b, Ore_v, Ore_f, Sq_nx, Sq_rt, Sq_bk, Sq_ct, Lt_n, Lt_b, Fn1_nx, Fn1_rv, Fn1_rf, Fin1_n, Fin1_s, TurnQ_nx, TurnQ_ct, TurnQ_bk, TurnQ_rt, toC_v, toC_f, toC_p, toV, argsOf, argsL, flatR, flatD, refs, asT, asTs, bo, co, DP.bi, ix, augD, DP.meth, DP.slice, optI, seqOf, DP.wipe, back, DP.free, isI, truth, toInts_map, DP.isNon, sm64_a, sm64_b, sm64_c, sm64_d, pow_a, at0, at1, at2, at3, List.getElem?_cons_zero, List.getElem?_cons_succ, List.getElem?_nil, List.set_cons_zero, List.set_cons_succ, List.mapM_cons, List.mapM_nil, Option.pure_def, Option.bind_eq_bind, Option.bind_some, Option.map_some, Option.map_none, Option.getD_some, Option.getD_none, Option.join_some, List.length_cons, List.length_nil, List.length_map, List.map_cons, List.map_nil, List.cons_append, List.nil_append, List.getD_cons_zero, List.getD_cons_succ, Nat.reduceAdd, Nat.reduceSub, Nat.reduceLeDiff, Nat.reduceLT, Int.reduceLT, Int.reduceLE, Int.reduceNeg, Int.reducePow, Nat.reduceMul, Int.reduceAdd, Int.reduceSub, Int.reduceMul, Int.reduceToNat, Bool.not_true, Bool.not_false, Bool.and_true, Bool.true_and, Bool.and_false, Bool.false_and, Bool.or_true, Bool.or_false, Bool.true_or, Bool.false_or, decide_true, decide_false, and_true, true_and, and_false, false_and, or_true, or_false, true_or, false_or, if_true, if_false, eqv_int, eqv_str, eqv_bool, shp_int, shp_bool, shp_non, toBools_map, Bool.and_self, eq_self, Bool.false_eq_true, reduceCtorEq, reduceIte, List.all_cons, List.all_nil, slotOf, List.replicate_zero, List.append_nil, List.replicate_succ]
        exact ⟨_, by rw [take_snoc hr, List.filter_append]; simp [hp], rfl⟩
      · have hp : pT r = false := decide_eq_false (by simpa using hc)
        try simp (config := {decide := true, dsimp := false}) only [Wxs_nil, Wxs_cons, Wx_asg, Wx_own, Wx_aug, Wx_seti, Wx_ex, Wx_ret, Wx_retN, Wx_brk, Wx_cnt, Wx_pass, Wx_ite, Wx_for, Wx_fit, We_var, We_mov, We_pk, We_int, We_str, We_bl, We_non, We_glob, We_bin, We_cmp, We_idx, We_neg, We_not, We_and, We_or, We_ife, We_chain, Wes_nil, Wes_cons, Wec_nil, Wec_cons, Wea_nil, Wea_cons, Wea_ref, Wea_lend, We_calll, Wei_rd, Wep_n, Wep_s, We_tup, We_lst, We_call, We_bi, We_meth, We_slc, We_lc, We_lc2, We_mx, We_rev, We_dnew, We_dsp, We_dget, Wx_setd, We_lsc, We_callv, fnN_fnD, Odd_b, Osk_b, obD_l, obD_d, dfl, Wei_zip, Old_b, Wei_seq, Wei_enum, Wei_r1, Wei_r2, Ov_some, Ov_none, Ov_if, Ov_map, Cnd_t, Cnd_f, Aft_n, Aft_s, Obo_b, Oi_b, Ofr_b, Od_b, Ol_b, Osd_b, Osb_b, Ore_v, Ore_f, Sq_nx, Sq_rt, Sq_bk, Sq_ct, Lt_n, Lt_b, Fn1_nx, Fn1_rv, Fn1_rf, Fin1_n, Fin1_s, TurnQ_nx, TurnQ_ct, TurnQ_bk, TurnQ_rt, toC_v, toC_f, toC_p, toV, argsOf, argsL, flatR, flatD, refs, asT, asTs, bo, co, DP.bi, ix, augD, DP.meth, DP.slice, optI, seqOf, DP.wipe, back, DP.free, isI, truth, toInts_map, DP.isNon, sm64_a, sm64_b, sm64_c, sm64_d, pow_a, at0, at1, at2, at3, List.getElem?_cons_zero, List.getElem?_cons_succ, List.getElem?_nil, List.set_cons_zero, List.set_cons_succ, List.mapM_cons, List.mapM_nil, Option.pure_def, Option.bind_eq_bind, Option.bind_some, Option.map_some, Option.map_none, Option.getD_some, Option.getD_none, Option.join_some, List.length_cons, List.length_nil, List.length_map, List.map_cons, List.map_nil, List.cons_append, List.nil_append, List.getD_cons_zero, List.getD_cons_succ, Nat.reduceAdd, Nat.reduceSub, Nat.reduceLeDiff, Nat.reduceLT, Int.reduceLT, Int.reduceLE, Int.reduceNeg, Int.reducePow, Nat.reduceMul, Int.reduceAdd, Int.reduceSub, Int.reduceMul, Int.reduceToNat, Bool.not_true, Bool.not_false, Bool.and_true, Bool.true_and, Bool.and_false, Bool.false_and, Bool.or_true, Bool.or_false, Bool.true_or, Bool.false_or, decide_true, decide_false, and_true, true_and, and_false, false_and, or_true, or_false, true_or, false_or, if_true, if_false, eqv_int, eqv_str, eqv_bool, shp_int, shp_bool, shp_non, toBools_map, Bool.and_self, eq_self, Bool.false_eq_true, reduceCtorEq, reduceIte, List.all_cons, List.all_nil, slotOf, List.replicate_zero, List.append_nil, List.replicate_succ]
        exact ⟨_, by rw [take_snoc hr, List.filter_append]; simp [hp], rfl⟩
    · rintro ys ρe ⟨s4, rfl, rfl⟩
      rw [List.length_map, List.take_length]
      try simp (config := {decide := true, dsimp := false}) only [Wxs_nil, Wxs_cons, Wx_asg, Wx_own, Wx_aug, Wx_seti, Wx_ex, Wx_ret, Wx_retN, Wx_brk, Wx_cnt, Wx_pass, Wx_ite, Wx_for, Wx_fit, We_var, We_mov, We_pk, We_int, We_str, We_bl, We_non, We_glob, We_bin, We_cmp, We_idx, We_neg, We_not, We_and, We_or, We_ife, We_chain, Wes_nil, Wes_cons, Wec_nil, Wec_cons, Wea_nil, Wea_cons, Wea_ref, Wea_lend, We_calll, Wei_rd, Wep_n, Wep_s, We_tup, We_lst, We_call, We_bi, We_meth, We_slc, We_lc, We_lc2, We_mx, We_rev, We_dnew, We_dsp, We_dget, Wx_setd, We_lsc, We_callv, fnN_fnD, Odd_b, Osk_b, obD_l, obD_d, dfl, Wei_zip, Old_b, Wei_seq, Wei_enum, Wei_r1, Wei_r2, Ov_some, Ov_none, Ov_if, Ov_map, Cnd_t, Cnd_f, Aft_n, Aft_s, Obo_b, Oi_b, Ofr_b, Od_b, Ol_b, Osd_b, Osb_b, Ore_v, Ore_f, Sq_nx, Sq_rt, Sq_bk, Sq_ct, Lt_n, Lt_b, Fn1_nx, Fn1_rv, Fn1_rf, Fin1_n, Fin1_s, TurnQ_nx, TurnQ_ct, TurnQ_bk, TurnQ_rt, toC_v, toC_f, toC_p, toV, argsOf, argsL, flatR, flatD, refs, asT, asTs, bo, co, DP.bi, ix, augD, DP.meth, DP.slice, optI, seqOf, DP.wipe, back, DP.free, isI, truth, toInts_map, DP.isNon, sm64_a, sm64_b, sm64_c, sm64_d, pow_a, at0, at1, at2, at3, List.getElem?_cons_zero, List.getElem?_cons_succ, List.getElem?_nil, List.set_cons_zero, List.set_cons_succ, List.mapM_cons, List.mapM_nil, Option.pure_def, Option.bind_eq_bind, Option.bind_some, Option.map_some, Option.map_none, Option.getD_some, Option.getD_none, Option.join_some, List.length_cons, List.length_nil, List.length_map, List.map_cons, List.map_nil, List.cons_append, List.nil_append, List.getD_cons_zero, List.getD_cons_succ, Nat.reduceAdd, Nat.reduceSub, Nat.reduceLeDiff, Nat.reduceLT, Int.reduceLT, Int.reduceLE, Int.reduceNeg, Int.reducePow, Nat.reduceMul, Int.reduceAdd, Int.reduceSub, Int.reduceMul, Int.reduceToNat, Bool.not_true, Bool.not_false, Bool.and_true, Bool.true_and, Bool.and_false, Bool.false_and, Bool.or_true, Bool.or_false, Bool.true_or, Bool.false_or, decide_true, decide_false, and_true, true_and, and_false, false_and, or_true, or_false, true_or, false_or, if_true, if_false, eqv_int, eqv_str, eqv_bool, shp_int, shp_bool, shp_non, toBools_map, Bool.and_self, eq_self, Bool.false_eq_true, reduceCtorEq, reduceIte, List.all_cons, List.all_nil, slotOf, List.replicate_zero, List.append_nil, List.replicate_succ]
      exact h
end K96
namespace K96
open PySem L2 DP
/-! rows of r values in which m told ones must come and u others may come -/
def S : Nat → Nat → Nat → Nat
  | 0, m, _ => if m = 0 then 1 else 0
  | r + 1, m, u => u * S r m u + m * S r (m - 1) (u + 1)
theorem S_s (r m u : Nat) : S (r + 1) m u = u * S r m u + m * S r (m - 1) (u + 1) := rfl
theorem S_hi : ∀ (r m u : Nat), r < m → S r m u = 0
  | 0, m, u, h => if_neg (by omega)
  | r + 1, m, u, h => by
    rw [S_s, S_hi r m u (by omega), S_hi r (m - 1) (u + 1) (by omega)]
    simp
theorem S_opt : ∀ (r m u : Nat), S r m (u + 1) = S r (m + 1) u + S r m u
  | 0, m, u => by
    unfold S
    rw [if_neg (Nat.succ_ne_zero m), Nat.zero_add]
  | r + 1, m, u => by
    rw [S_s, S_s, S_s, Nat.add_sub_cancel]
    have h1 := S_opt r m u
    rcases m with _ | m
    · simp only [Nat.zero_mul, Nat.add_zero, Nat.zero_add, Nat.one_mul]
      rw [Nat.add_mul, Nat.one_mul]
      have : u * S r 0 (u + 1) = u * S r 1 u + u * S r 0 u := by rw [h1, Nat.mul_add]
      omega
    · rw [Nat.add_sub_cancel]
      have h2 := S_opt r m (u + 1)
      rw [Nat.add_mul, Nat.one_mul]
      have e1 : u * S r (m + 1) (u + 1) = u * S r (m + 1 + 1) u + u * S r (m + 1) u := by rw [h1, Nat.mul_add]
      have e2 : (m + 1) * S r m (u + 1 + 1) = (m + 1) * S r (m + 1) (u + 1) + (m + 1) * S r m (u + 1) := by rw [h2, Nat.mul_add]
      have e3 : (m + 1 + 1) * S r (m + 1) (u + 1) = (m + 1) * S r (m + 1) (u + 1) + S r (m + 1) (u + 1) := by rw [Nat.add_mul, Nat.one_mul]
      omega
theorem S_le : ∀ (r m u : Nat), S r m u ≤ (m + u) ^ r
  | 0, m, u => by unfold S; split <;> simp
  | r + 1, m, u => by
    rw [S_s, Nat.pow_succ, Nat.mul_comm, Nat.mul_comm m]
    have h1 := S_le r m u
    have h1' := Nat.mul_le_mul_right u h1
    rcases m with _ | m
    · rw [Nat.mul_zero, Nat.add_zero]
      rw [Nat.zero_add] at h1' ⊢
      exact h1'
    · have h2 := S_le r m (u + 1)
      rw [Nat.add_sub_cancel]
      rw [show m + (u + 1) = m + 1 + u by omega] at h2
      have h2' := Nat.mul_le_mul_right (m + 1) h2
      have e : (m + 1 + u) ^ r * (m + 1 + u) = (m + 1 + u) ^ r * u + (m + 1 + u) ^ r * (m + 1) := by rw [← Nat.mul_add]; congr 1; omega
      omega
/-- k values of f from h on -/
def wk (f : Nat → Nat) : Nat → Nat → Nat
  | 0, _ => 0
  | k + 1, h => f h + wk f k (h + 1)
/-- ways: r values to come, h holes, u values -/
def W (r h u : Nat) : Nat := wk (fun m => S r m u) (r + 1 - h) h
def T (r h u : Nat) : Nat := wk (fun j => W r j u) (r + 1 - h) h
theorem W_un (r h u : Nat) : W r h u = S r h u + W r (h + 1) u := by
  unfold W
  by_cases l : h ≤ r
  · rw [show r + 1 - h = (r + 1 - (h + 1)) + 1 by omega]
    rfl
  · rw [show r + 1 - h = 0 by omega, show r + 1 - (h + 1) = 0 by omega]
    show 0 = S r h u + 0
    rw [S_hi r h u (by omega)]
theorem W_hi {r h u : Nat} (l : r < h) : W r h u = 0 := by
  unfold W
  rw [show r + 1 - h = 0 by omega]
  rfl
theorem T_hi {r h u : Nat} (l : r < h) : T r h u = 0 := by
  unfold T
  rw [show r + 1 - h = 0 by omega]
  rfl
theorem T_un (r h u : Nat) : T r h u = W r h u + T r (h + 1) u := by
  by_cases l : h ≤ r
  · unfold T
    rw [show r + 1 - h = (r + 1 - (h + 1)) + 1 by omega]
    rfl
  · rw [T_hi (by omega), T_hi (by omega), W_hi (by omega)]
theorem W_step' (r u : Nat) : ∀ k h : Nat, r + 2 ≤ h + k → W (r + 1) h u = u * W r h u + h * W r (h - 1) (u + 1) + T r h (u + 1)
  | 0, h, l => by
    rw [W_hi (by omega), W_hi (by omega), W_hi (by omega), T_hi (by omega)]
    simp
  | k + 1, h, l => by
    have ih := W_step' r u k (h + 1) (by omega)
    rw [Nat.add_sub_cancel] at ih
    rw [W_un (r + 1) h u, ih, S_s, W_un r h u, T_un r h (u + 1), Nat.mul_add, Nat.add_mul, Nat.one_mul]
    rcases h with _ | h
    · simp only [Nat.zero_mul, Nat.add_zero, Nat.zero_add]
      omega
    · rw [Nat.add_sub_cancel, W_un r h (u + 1), Nat.mul_add]
      omega
theorem W_step (r h u : Nat) : W (r + 1) h u = u * W r h u + h * W r (h - 1) (u + 1) + T r h (u + 1) := W_step' r u (r + 2) h (by omega)
theorem W_0 (h u : Nat) : W 0 h u = if h = 0 then 1 else 0 := by
  by_cases e : h = 0
  · subst e; rfl
  · rw [if_neg e, W_hi (by omega)]
/-- the number of all tight rows -/
theorem S_c (j k : Nat) : S (j + 1) (k + 1) 0 = (1 + k) * (S j (k + 1) 0 + S j k 0) := by
  rw [S_s, Nat.zero_mul, Nat.zero_add, Nat.add_sub_cancel, S_opt, Nat.add_comm k 1]
theorem S_c0 (j : Nat) : S (j + 1) 0 0 = 0 := by rw [S_s]; simp
theorem itO_S (n : Nat) : ∀ (j k : Nat), k ≤ n → (itO n j)[k]? = some ((S j k 0 : Nat) : Int)
  | 0, k, h => by
    rcases k with _ | k
    · rfl
    · simp only [itO, List.getElem?_cons_succ]
      rw [List.getElem?_replicate, if_pos (by omega)]
      rfl
  | j + 1, 0, _ => by rw [S_c0]; rfl
  | j + 1, k + 1, h => by
    have h1 := itO_S n j k (by omega)
    have h2 := itO_S n j (k + 1) h
    simp only [itO, List.getElem?_cons_succ]
    rw [stepE_at (itO n j) 1 k _ _ h1 h2, S_c]
    congr 1
    all_goals simp [Int.natCast_add]
theorem wk_get {f : Nat → Nat} : ∀ (l : List Int) (h : Nat), (∀ k, k < l.length → l[k]? = some ((f (h + k) : Nat) : Int)) → l.sum = ((wk f l.length h : Nat) : Int)
  | [], _, _ => rfl
  | x :: l, h, e => by
    have h0 := e 0 (by simp)
    simp at h0
    have ih := wk_get l (h + 1) fun k hk => by
      have := e (k + 1) (by simp; omega)
      rw [List.getElem?_cons_succ] at this
      rw [this, show h + (k + 1) = h + 1 + k by omega]
    rw [List.sum_cons, ih, h0]
    show _ = ((f h + wk f l.length (h + 1) : Nat) : Int)
    rw [Int.natCast_add]
theorem orders_W (n : Nat) : (itO n n).sum = ((W n 0 0 : Nat) : Int) := by
  have := wk_get (f := fun m => S n m 0) (itO n n) 0 fun k hk => by
    rw [itO_len] at hk
    rw [itO_S n n k (by omega), Nat.zero_add]
  rw [this, itO_len]
  rfl
/-- bounds -/
theorem wk_le {f : Nat → Nat} {B : Nat} : ∀ (k h : Nat), (∀ j, h ≤ j → j < h + k → f j ≤ B) → wk f k h ≤ k * B
  | 0, _, _ => Nat.zero_le _
  | k + 1, h, e => by
    have h1 := e h (by omega) (by omega)
    have h2 := wk_le k (h + 1) fun j a b => e j (by omega) (by omega)
    show f h + wk f k (h + 1) ≤ _
    rw [Nat.add_mul, Nat.one_mul]
    omega
theorem W_le (r h u : Nat) (hr : r ≤ 40) (hu : u ≤ 41) : W r h u < 2 ^ 300 := by
  have h1 : W r h u ≤ (r + 1 - h) * (r + u) ^ r := wk_le _ _ fun j a b => Nat.le_trans (S_le r j u) (Nat.pow_le_pow_left (by omega) r)
  have h2 : (r + u) ^ r ≤ 128 ^ 40 := Nat.le_trans (Nat.pow_le_pow_left (show r + u ≤ 128 by omega) r) (Nat.pow_le_pow_right (by omega) hr)
  have h3 := Nat.mul_le_mul (show r + 1 - h ≤ 41 by omega) h2
  have : 41 * 128 ^ 40 < 2 ^ 300 := by decide +kernel
  omega
theorem W_bd {r h u : Nat} (hr : r ≤ 40) (hu : u ≤ 41) : Bd 300 ((W r h u : Nat) : Int) := W_le r h u hr hu
end K96
namespace K96
open PySem L2 DP
/-! numbers of tight rows -/
def us (p : List Int) : Nat := (DP.usort p).length
/-- one more than the greatest -/
def mxn (p : List Int) : Int := p.foldl (fun m x => if m < x + 1 then x + 1 else m) 0
def hl (p : List Int) : Nat := (mxn p).toNat - us p
def NN (p : List Int) : Prop := ∀ x ∈ p, (0 : Int) ≤ x
theorem NN.snoc {p : List Int} (h : NN p) {v : Int} (hv : 0 ≤ v) : NN (p ++ [v]) := fun x hx => by
  rcases List.mem_append.mp hx with hx | hx
  · exact h x hx
  · rw [List.mem_singleton.mp hx]; exact hv
theorem mxn_snoc (p : List Int) (v : Int) : mxn (p ++ [v]) = if mxn p < v + 1 then v + 1 else mxn p := by
  unfold mxn
  rw [List.foldl_append]
  rfl
theorem mxn_f : ∀ (p : List Int) (m : Int), m ≤ p.foldl (fun m x => if m < x + 1 then x + 1 else m) m ∧ (∀ x ∈ p, x < p.foldl (fun m x => if m < x + 1 then x + 1 else m) m) ∧
    (p.foldl (fun m x => if m < x + 1 then x + 1 else m) m = m ∨ p.foldl (fun m x => if m < x + 1 then x + 1 else m) m - 1 ∈ p)
  | [], m => ⟨Int.le_refl _, nofun, .inl rfl⟩
  | a :: p, m => by
    obtain ⟨h1, h2, h3⟩ := mxn_f p (if m < a + 1 then a + 1 else m)
    rw [List.foldl_cons]
    generalize p.foldl (fun m x => if m < x + 1 then x + 1 else m) (if m < a + 1 then a + 1 else m) = M at h1 h2 h3
    have h4 : m ≤ M ∧ a < M := by split at h1 <;> omega
    refine ⟨h4.1, fun x hx => ?_, ?_⟩
    · rcases List.mem_cons.mp hx with rfl | hx
      · exact h4.2
      · exact h2 x hx
    · rcases h3 with h3 | h3
      · split at h3
        · right
          rw [show M - 1 = a by omega]
          exact List.mem_cons_self
        · exact .inl h3
      · exact .inr (List.mem_cons_of_mem _ h3)
theorem mxn_nn (p : List Int) : 0 ≤ mxn p := (mxn_f p 0).1
theorem mxn_lt {p : List Int} {x : Int} (h : x ∈ p) : x < mxn p := (mxn_f p 0).2.1 x h
theorem mxn_at (p : List Int) : mxn p = 0 ∨ mxn p - 1 ∈ p := (mxn_f p 0).2.2
/-- the numbers below v that are in p -/
def ic (p : List Int) (v : Nat) : Nat := ((List.range v).filter fun (i : Nat) => decide ((i : Int) ∈ p)).length
theorem ic_s (p : List Int) (v : Nat) : ic p (v + 1) = ic p v + if (v : Int) ∈ p then 1 else 0 := by
  unfold ic
  rw [List.range_succ, List.filter_append, List.length_append]
  congr 1
  by_cases h : (v : Int) ∈ p <;> simp [h]
theorem us_filter {p : List Int} (h : NN p) : ((List.range (mxn p).toNat).filter fun (i : Nat) => decide ((i : Int) ∈ p)).map (fun (i : Nat) => (i : Int)) = DP.usort p := by
  refine DPX.usort_the ?_ fun x => ?_
  · rw [List.pairwise_map]
    refine List.Pairwise.imp (fun h => Int.ofNat_lt.mpr h) (List.Pairwise.filter _ List.pairwise_lt_range)
  · rw [List.mem_map]
    constructor
    · rintro ⟨i, hi, rfl⟩
      exact of_decide_eq_true (List.mem_filter.mp hi).2
    · intro hx
      have h0 := h x hx
      have h1 := mxn_lt hx
      refine ⟨x.toNat, List.mem_filter.mpr ⟨List.mem_range.mpr (by omega), decide_eq_true ?_⟩, by omega⟩
      rw [Int.toNat_of_nonneg h0]
      exact hx
theorem ic_us {p : List Int} (h : NN p) : ic p (mxn p).toNat = us p := by
  unfold ic us
  rw [← us_filter h, List.length_map]
theorem us_le {p : List Int} (h : NN p) : us p ≤ (mxn p).toNat := by
  rw [← ic_us h]
  unfold ic
  exact Nat.le_trans (List.length_filter_le _ _) (by rw [List.length_range]; exact Nat.le_refl _)
theorem us_snoc (p : List Int) (v : Int) : us (p ++ [v]) = if v ∈ p then us p else us p + 1 := DP.usort_snoc p v
theorem us_len (p : List Int) : us p ≤ p.length := DP.usort_le p
def Wp (n : Nat) (p : List Int) : Nat := W (n - p.length) (hl p) (us p)
def wv (n : Nat) (p : List Int) (v : Nat) : Nat := Wp n (p ++ [(v : Int)])
def cw (n : Nat) (p : List Int) : Nat → Nat
  | 0 => 0
  | v + 1 => cw n p v + wv n p v
theorem wv_in {n : Nat} {p : List Int} (h : NN p) {v : Nat} (hv : (v : Int) ∈ p) : wv n p v = W (n - (p.length + 1)) (hl p) (us p) := by
  unfold wv Wp hl
  have := mxn_lt hv
  rw [us_snoc, if_pos hv, mxn_snoc, if_neg (by omega), List.length_append]
  rfl
theorem wv_out {n : Nat} {p : List Int} (h : NN p) {v : Nat} (hv : ¬ (v : Int) ∈ p) (hm : (v : Int) < mxn p) : wv n p v = W (n - (p.length + 1)) (hl p - 1) (us p + 1) := by
  unfold wv Wp hl
  rw [us_snoc, if_neg hv, mxn_snoc, if_neg (by omega), List.length_append]
  rw [show (mxn p).toNat - (us p + 1) = (mxn p).toNat - us p - 1 by omega]
  rfl
theorem wv_up {n : Nat} {p : List Int} (h : NN p) (j : Nat) : wv n p ((mxn p).toNat + j) = W (n - (p.length + 1)) (hl p + j) (us p + 1) := by
  have h0 := mxn_nn p
  have hu := us_le h
  have hv : ¬ (((mxn p).toNat + j : Nat) : Int) ∈ p := fun z => by have := mxn_lt z; omega
  unfold wv Wp hl
  rw [us_snoc, if_neg hv, mxn_snoc, if_pos (by omega), List.length_append]
  rw [show ((((mxn p).toNat + j : Nat) : Int) + 1).toNat - (us p + 1) = (mxn p).toNat - us p + j by omega]
  rfl
theorem cw_low {n : Nat} {p : List Int} (h : NN p) : ∀ v : Nat, (v : Int) ≤ mxn p → ic p v ≤ v ∧ cw n p v = ic p v * W (n - (p.length + 1)) (hl p) (us p) + (v - ic p v) * W (n - (p.length + 1)) (hl p - 1) (us p + 1)
  | 0, _ => ⟨Nat.le_refl _, by simp [cw, ic]⟩
  | v + 1, hv => by
    obtain ⟨l, ih⟩ := cw_low h v (by omega)
    show _ ∧ cw n p v + wv n p v = _
    rw [ih, ic_s]
    by_cases e : (v : Int) ∈ p
    · rw [if_pos e, wv_in h e]
      refine ⟨by omega, ?_⟩
      rw [show v + 1 - (ic p v + 1) = v - ic p v by omega, Nat.add_mul, Nat.one_mul]
      omega
    · rw [if_neg e, wv_out h e (by omega)]
      refine ⟨by omega, ?_⟩
      simp only [Nat.add_zero]
      rw [show v + 1 - ic p v = (v - ic p v) + 1 by omega, Nat.add_mul _ 1, Nat.one_mul]
      omega
theorem cw_high {n : Nat} {p : List Int} (h : NN p) : ∀ j : Nat, cw n p ((mxn p).toNat + j) + T (n - (p.length + 1)) (hl p + j) (us p + 1) = cw n p (mxn p).toNat + T (n - (p.length + 1)) (hl p) (us p + 1)
  | 0 => rfl
  | j + 1 => by
    have ih := cw_high (n := n) h j
    rw [T_un] at ih
    show cw n p ((mxn p).toNat + j) + wv n p ((mxn p).toNat + j) + _ = _
    rw [wv_up h, ← ih]
    show _ + _ + T _ (hl p + j + 1) _ = _
    omega
theorem cw_all {n : Nat} {p : List Int} (h : NN p) (hn : p.length < n) {B : Nat} (hB : (mxn p).toNat + n ≤ B) : cw n p B = Wp n p := by
  have h0 := mxn_nn p
  have hu := us_le h
  obtain ⟨j, rfl⟩ : ∃ j, B = (mxn p).toNat + j := ⟨B - (mxn p).toNat, by omega⟩
  have h1 := cw_high (n := n) h j
  rw [T_hi (by omega), Nat.add_zero] at h1
  rw [h1, (cw_low h (mxn p).toNat (by omega)).2, ic_us h]
  unfold Wp
  rw [show n - p.length = (n - (p.length + 1)) + 1 by omega, W_step]
  rfl
theorem cw_le {n : Nat} {p : List Int} {a : Nat} : ∀ {b : Nat}, a ≤ b → cw n p a ≤ cw n p b
  | 0, h => by rw [Nat.le_zero.mp h]; exact Nat.le_refl _
  | b + 1, h => by
    by_cases e : a = b + 1
    · rw [e]; exact Nat.le_refl _
    · exact Nat.le_trans (cw_le (show a ≤ b by omega)) (Nat.le_add_right _ _)
theorem cw_lt {n : Nat} {p : List Int} (h : NN p) (hn : p.length < n) (v : Nat) : cw n p v ≤ Wp n p := by
  rw [← cw_all h hn (Nat.le_refl _)]
  by_cases l : v ≤ (mxn p).toNat + n
  · exact cw_le l
  · rw [cw_all h hn (Nat.le_refl _), cw_all h hn (show (mxn p).toNat + n ≤ v by omega)]
    exact Nat.le_refl _
/-- lesser rows -/
def numA (n : Nat) : List Int → List Int → Nat
  | _, [] => 0
  | pre, v :: r => cw n pre v.toNat + numA n (pre ++ [v]) r
def numN (n : Nat) (p : List Int) : Nat := numA n [] p
theorem numA_snoc (n : Nat) (v : Int) : ∀ (r pre : List Int), numA n pre (r ++ [v]) = numA n pre r + cw n (pre ++ r) v.toNat
  | [], pre => by simp [numA]
  | a :: r, pre => by
    show cw n pre a.toNat + numA n (pre ++ [a]) (r ++ [v]) = _
    rw [numA_snoc n v r]
    show _ = cw n pre a.toNat + numA n (pre ++ [a]) r + _
    rw [List.append_assoc]
    exact (Nat.add_assoc _ _ _).symm
theorem numN_snoc (n : Nat) (p : List Int) (v : Int) : numN n (p ++ [v]) = numN n p + cw n p v.toNat := numA_snoc n v p []
structure Row (n : Nat) (p : List Int) : Prop where
  len : p.length = n
  nn : NN p
  full : hl p = 0
theorem Wp_row {n : Nat} {p : List Int} (h : p.length = n) : Wp n p = if hl p = 0 then 1 else 0 := by
  unfold Wp
  rw [h, Nat.sub_self, W_0]
theorem row_lt {n : Nat} : ∀ (r pre : List Int), Row n (pre ++ r) → numA n pre r < Wp n pre
  | [], pre, h => by
    rw [List.append_nil] at h
    rw [Wp_row h.len, if_pos h.full]
    exact Nat.one_pos
  | v :: r, pre, h => by
    have h' : Row n (pre ++ [v] ++ r) := by rw [List.append_assoc]; exact h
    have ih := row_lt r (pre ++ [v]) h'
    have hv : 0 ≤ v := h.nn v (List.mem_append_right _ List.mem_cons_self)
    have hp : NN pre := fun x hx => h.nn x (List.mem_append_left _ hx)
    have hlen := h.len
    rw [List.length_append, List.length_cons] at hlen
    have := cw_lt hp (show pre.length < n by omega) (v.toNat + 1)
    have e : Wp n (pre ++ [v]) = wv n pre v.toNat := by unfold wv; rw [Int.toNat_of_nonneg hv]
    rw [e] at ih
    show cw n pre v.toNat + numA n (pre ++ [v]) r < _
    have e2 : cw n pre (v.toNat + 1) = cw n pre v.toNat + wv n pre v.toNat := rfl
    omega
theorem numN_lt {n : Nat} {p : List Int} (h : Row n p) : numN n p < W n 0 0 := row_lt p [] h
/-- lesser as rows -/
def lexI : List Int → List Int → Prop
  | a :: r, b :: q => a < b ∨ (a = b ∧ lexI r q)
  | _, _ => False
theorem lexI_tot : ∀ (r q : List Int), r.length = q.length → r = q ∨ lexI r q ∨ lexI q r
  | [], [], _ => .inl rfl
  | a :: r, b :: q, h => by
    rcases Int.lt_trichotomy a b with l | l | l
    · exact .inr (.inl (.inl l))
    · subst l
      rcases lexI_tot r q (Nat.succ.inj h) with e | e | e
      · exact .inl (by rw [e])
      · exact .inr (.inl (.inr ⟨rfl, e⟩))
      · exact .inr (.inr (.inr ⟨rfl, e⟩))
    · exact .inr (.inr (.inl l))
theorem lex_num {n : Nat} : ∀ (r q pre : List Int), Row n (pre ++ r) → Row n (pre ++ q) → lexI r q → numA n pre r < numA n pre q
  | a :: r, b :: q, pre, h, h', l => by
    have k : Row n (pre ++ [a] ++ r) := by rw [List.append_assoc]; exact h
    have k' : Row n (pre ++ [b] ++ q) := by rw [List.append_assoc]; exact h'
    have ha : 0 ≤ a := h.nn a (List.mem_append_right _ List.mem_cons_self)
    show cw n pre a.toNat + numA n (pre ++ [a]) r < cw n pre b.toNat + numA n (pre ++ [b]) q
    rcases l with l | ⟨rfl, l⟩
    · have h1 := row_lt r (pre ++ [a]) k
      have e : Wp n (pre ++ [a]) = wv n pre a.toNat := by unfold wv; rw [Int.toNat_of_nonneg ha]
      rw [e] at h1
      have h2 : cw n pre (a.toNat + 1) ≤ cw n pre b.toNat := cw_le (by omega)
      have e2 : cw n pre (a.toNat + 1) = cw n pre a.toNat + wv n pre a.toNat := rfl
      omega
    · have := lex_num r q (pre ++ [a]) k k' l
      omega
  | [], _, _, _, _, l => by cases l
  | _ :: _, [], _, _, _, l => by cases l
theorem row_inj {n : Nat} {p q : List Int} (hp : Row n p) (hq : Row n q) (e : numN n p = numN n q) : p = q := by
  rcases lexI_tot p q (by rw [hp.len, hq.len]) with h | h | h
  · exact h
  · have := lex_num p q [] hp hq h
    unfold numN at e
    omega
  · have := lex_num q p [] hq hp h
    unfold numN at e
    omega
theorem row_lex {n : Nat} {p q : List Int} (hp : Row n p) (hq : Row n q) (e : numN n p < numN n q) : lexI p q := by
  rcases lexI_tot p q (by rw [hp.len, hq.len]) with h | h | h
  · subst h; omega
  · exact h
  · have := lex_num q p [] hq hp h
    unfold numN at e
    omega
theorem row_usort {n : Nat} {p : List Int} (h : Row n p) : DP.usort p = (List.range (us p)).map fun (i : Nat) => (i : Int) := by
  have h1 := us_filter h.nn
  have h2 := us_le h.nn
  have h3 := h.full
  unfold hl at h3
  have e : (mxn p).toNat = us p := by omega
  rw [e] at h1
  have : ((List.range (us p)).filter fun (i : Nat) => decide ((i : Int) ∈ p)).length = (List.range (us p)).length := by
    have := congrArg List.length h1
    rw [List.length_map] at this
    rw [this, List.length_range]
    rfl
  have q := List.filter_sublist.eq_of_length this
  rw [q] at h1
  exact h1.symm
theorem row_of {n : Nat} {p : List Int} (hn : p.length = n) (h : NN p) (e : DP.usort p = (List.range (us p)).map fun (i : Nat) => (i : Int)) : Row n p := by
  refine ⟨hn, h, ?_⟩
  unfold hl
  rcases mxn_at p with z | z
  · rw [z]; simp
  · have := (DPX.usort_mem _ p).mpr z
    rw [e, List.mem_map] at this
    obtain ⟨i, hi, e2⟩ := this
    have := List.mem_range.mp hi
    omega
end K96
namespace K96
open PySem L2 DP
open DPK
theorem keyK_int (x : Int) : keyK (.int x) = some (.num x) := rfl
theorem keyK_non : keyK .none = some .none := rfl
theorem dlook_int {kvs : List (D × D)} {x : Int} (h : kinds false kvs = true) : dlook kvs (.int x) = some (dfind kvs (.num x)) := by
  unfold dlook
  rw [keyK_int]
  simp only [isTD, h, if_true]
theorem dlook_non {kvs : List (D × D)} (h : kinds false kvs = true) : dlook kvs .none = some (dfind kvs .none) := by
  unfold dlook
  rw [keyK_non]
  simp only [isTD, h, if_true]
theorem dstore_int {kvs : List (D × D)} {x : Int} {d : D} (h : kinds false kvs = true) (hl : kvs.length < 16777216) : dstore kvs (.int x) d = some (dput kvs (.num x) (.int x) d) := by
  unfold dstore
  rw [keyK_int]
  simp only [isTD, h, hl, decide_true, Bool.and_self, if_true]
theorem find_mp {k j : NestedKey} {vd : D} : ∀ kvs : List (D × D), dfind (kvs.map fun p => if keyN p.1 = some k then (p.1, vd) else p) j = if j = k then (dfind kvs j).map fun _ => vd else dfind kvs j
  | [] => by simp [dfind]
  | p :: r => by
    have ih := find_mp (k := k) (j := j) (vd := vd) r
    unfold dfind at ih ⊢
    rw [List.map_cons, List.find?_cons, List.find?_cons]
    have e : keyN (if keyN p.1 = some k then (p.1, vd) else p).1 = keyN p.1 := by split <;> rfl
    rw [e]
    by_cases q : keyN p.1 = some j
    · rw [decide_eq_true q]
      by_cases z : j = k
      · subst z
        simp [q]
      · have : ¬ keyN p.1 = some k := by rw [q]; exact fun y => z (Option.some.inj y)
        simp [z, this]
    · rw [decide_eq_false q]
      exact ih
theorem dfind_put {kvs : List (D × D)} {k : NestedKey} {kd vd : D} (hk : keyN kd = some k) (j : NestedKey) : dfind (dput kvs k kd vd) j = if j = k then some vd else dfind kvs j := by
  unfold dput
  split
  · rename_i h
    rw [find_mp]
    split
    · rename_i e
      subst e
      obtain ⟨x, hx⟩ := Option.isSome_iff_exists.mp h
      rw [hx]
      rfl
    · rfl
  · rename_i h
    have hn : dfind kvs k = none := by
      cases q : dfind kvs k with
      | none => rfl
      | some x => rw [q] at h; exact (h rfl).elim
    unfold dfind at hn ⊢
    rw [List.find?_append]
    by_cases e : j = k
    · subst e
      rw [Option.map_eq_none_iff] at hn
      rw [hn]
      simp [hk]
    · have : ¬ keyN kd = some j := by rw [hk]; exact fun y => e (Option.some.inj y).symm
      cases kvs.find? fun p => decide (keyN p.1 = some j) <;> simp [this, e]
end K96
namespace K96
open PySem L2 DP
open DPK
/-! the program's dict of ways -/
def kN (r h u : Int) : NestedKey := .tup [.num r, .num h, .num u]
def kD (r h u : Int) : D := .tuple [.int r, .int h, .int u]
theorem kD_key (r h u : Int) : keyK (kD r h u) = some (kN r h u) := by
  unfold keyK kD
  simp [keyN, keyNs, NestedKey.depth, NestedKey.depthAll, kN]
theorem kD_n (r h u : Int) : keyN (kD r h u) = some (kN r h u) := (keyK_inv (kD_key r h u)).1
theorem kN_inj {a b c x y z : Int} (e : kN a b c = kN x y z) : a = x ∧ b = y ∧ c = z := by
  unfold kN at e
  simpa using e
structure WD (kvs : List (D × D)) (f : Int → Int → Int → Option Int) : Prop where
  kd : kinds true kvs = true
  ok : KdOk kvs
  at_ : ∀ r h u, dfind kvs (kN r h u) = (f r h u).map .int
theorem WD.nil : WD [] fun _ _ _ => none := ⟨rfl, KdOk.nil, fun _ _ _ => rfl⟩
theorem WD.look {kvs : List (D × D)} {f : Int → Int → Int → Option Int} (w : WD kvs f) (r h u : Int) : dlook kvs (.tuple [.int r, .int h, .int u]) = some ((f r h u).map .int) := by
  have e := kD_key r h u
  unfold dlook
  rw [show (PyData.tuple [.int r, .int h, .int u]) = kD r h u from rfl, e]
  have : isTD (kD r h u) = true := rfl
  simp only [this, w.kd, if_true, w.at_]
theorem WD.put {kvs : List (D × D)} {f : Int → Int → Int → Option Int} (w : WD kvs f) (hl : kvs.length < 16777216) (r h u x : Int) : ∃ kvs', dstore kvs (.tuple [.int r, .int h, .int u]) (.int x) = some kvs' ∧ kvs'.length ≤ kvs.length + 1 ∧
    WD kvs' fun a b c => if a = r ∧ b = h ∧ c = u then some x else f a b c := by
  have e := kD_key r h u
  have ht : isTD (kD r h u) = true := rfl
  refine ⟨dput kvs (kN r h u) (kD r h u) (.int x), ?_, ?_, kinds_put w.kd ht, w.ok.put e, fun a b c => ?_⟩
  · unfold dstore
    rw [show (PyData.tuple [.int r, .int h, .int u]) = kD r h u from rfl, e]
    simp only [ht, w.kd, hl, decide_true, Bool.and_self, if_true]
  · unfold dput
    split <;> simp
  · rw [dfind_put (kD_n r h u), w.at_]
    by_cases z : kN a b c = kN r h u
    · rw [if_pos z, if_pos (kN_inj z)]; rfl
    · rw [if_neg z, if_neg fun q => z (by rw [q.1, q.2.1, q.2.2])]
theorem WD.congr {kvs : List (D × D)} {f g : Int → Int → Int → Option Int} (w : WD kvs f) (h : ∀ a b c, f a b c = g a b c) : WD kvs g := ⟨w.kd, w.ok, fun a b c => by rw [w.at_, h]⟩
theorem gd_int (o : Option Int) : (o.map PyData.int).getD (.int 0) = .int (o.getD 0) := by cases o <;> rfl
theorem ways_before_ok {n : Nat} {kw kt : List (D × D)} {fw ft : Int → Int → Int → Option Int} {r h u : Int} {Q : R → Option OB → Prop} (hw : WD kw fw) (ht : WD kt ft)
    (b1 : ∀ x, fw (r - 1) h u = some x → Bd 300 x) (b2 : ∀ x, fw (r - 1) (h - 1) (u + 1) = some x → Bd 300 x) (hu : u.natAbs < 1024) (hh : h.natAbs < 1024)
    (q : Q (.v (.int (if r = 0 then (if h = 0 then 1 else 0) else u * (fw (r - 1) h u).getD 0 + h * (fw (r - 1) (h - 1) (u + 1)).getD 0 + (ft (r - 1) h (u + 1)).getD 0))) none) :
    Wc (sm (n + 1)) "ways_before" [.v (.dict kw), .v (.dict kt), .v (.int r), .v (.int h), .v (.int u)] Q := by
  (refine Wc_ok pf_ways_before rfl ?_; unfold f_ways_before; dsimp only)
  have bu : Bd 10 u := hu
  have bh : Bd 10 h := hh
  have m1 : DP.mulW u ((fw (r - 1) h u).getD 0) = true := by
    cases e : fw (r - 1) h u with
    | none => exact bu.wide (m := 10) (.small (by decide) (by omega)) (by omega)
    | some x => exact bu.wide (b1 x e) (by omega)
  have m2 : DP.mulW h ((fw (r - 1) (h - 1) (u + 1)).getD 0) = true := by
    cases e : fw (r - 1) (h - 1) (u + 1) with
    | none => exact bh.wide (m := 10) (.small (by decide) (by omega)) (by omega)
    | some x => exact bh.wide (b2 x e) (by omega)
  try simp (config := {decide := true, dsimp := false}) only [Wxs_nil, Wxs_cons, Wx_asg, Wx_own, Wx_aug, Wx_seti, Wx_ex, Wx_ret, Wx_retN, Wx_brk, Wx_cnt, Wx_pass, Wx_ite, Wx_for, Wx_fit, We_var, We_mov, We_pk, We_int, We_str, We_bl, We_non, We_glob, We_bin, We_cmp, We_idx, We_neg, We_not, We_and, We_or, We_ife, We_chain, Wes_nil, Wes_cons, Wec_nil, Wec_cons, Wea_nil, Wea_cons, Wea_ref, Wea_lend, We_calll, Wei_rd, Wep_n, Wep_s, We_tup, We_lst, We_call, We_bi, We_meth, We_slc, We_lc, We_lc2, We_mx, We_rev, We_dnew, We_dsp, We_dget, Wx_setd, We_lsc, We_callv, fnN_fnD, Odd_b, Osk_b, obD_l, obD_d, dfl, Wei_zip, Old_b, Wei_seq, Wei_enum, Wei_r1, Wei_r2, Ov_some, Ov_none, Ov_if, Ov_map, Cnd_t, Cnd_f, Aft_n, Aft_s, Obo_b, Oi_b, Ofr_b, Od_b, Ol_b, Osd_b, Osb_b, Ore_v, Ore_f, Sq_nx, Sq_rt, Sq_bk, Sq_ct, Lt_n, Lt_b, Fn1_nx, Fn1_rv, Fn1_rf, Fin1_n, Fin1_s, TurnQ_nx, TurnQ_ct, TurnQ_bk, TurnQ_rt, toC_v, toC_f, toC_p, toV, argsOf, argsL, flatR, flatD, refs, asT, asTs, bo, co, DP.bi, ix, augD, DP.meth, DP.slice, optI, seqOf, DP.wipe, back, DP.free, isI, truth, toInts_map, DP.isNon, sm64_a, sm64_b, sm64_c, sm64_d, pow_a, at0, at1, at2, at3, List.getElem?_cons_zero, List.getElem?_cons_succ, List.getElem?_nil, List.set_cons_zero, List.set_cons_succ, List.mapM_cons, List.mapM_nil, Option.pure_def, Option.bind_eq_bind, Option.bind_some, Option.map_some, Option.map_none, Option.getD_some, Option.getD_none, Option.join_some, List.length_cons, List.length_nil, List.length_map, List.map_cons, List.map_nil, List.cons_append, List.nil_append, List.getD_cons_zero, List.getD_cons_succ, Nat.reduceAdd, Nat.reduceSub, Nat.reduceLeDiff, Nat.reduceLT, Int.reduceLT, Int.reduceLE, Int.reduceNeg, Int.reducePow, Nat.reduceMul, Int.reduceAdd, Int.reduceSub, Int.reduceMul, Int.reduceToNat, Bool.not_true, Bool.not_false, Bool.and_true, Bool.true_and, Bool.and_false, Bool.false_and, Bool.or_true, Bool.or_false, Bool.true_or, Bool.false_or, decide_true, decide_false, and_true, true_and, and_false, false_and, or_true, or_false, true_or, false_or, if_true, if_false, eqv_int, eqv_str, eqv_bool, shp_int, shp_bool, shp_non, toBools_map, Bool.and_self, eq_self, Bool.false_eq_true, reduceCtorEq, reduceIte, List.all_cons, List.all_nil, slotOf, List.replicate_zero, List.append_nil, List.replicate_succ]
  refine Cnd_p (fun c => ?_) fun c => ?_
  · rw [if_pos c] at q
    try simp (config := {decide := true, dsimp := false}) only [Wxs_nil, Wxs_cons, Wx_asg, Wx_own, Wx_aug, Wx_seti, Wx_ex, Wx_ret, Wx_retN, Wx_brk, Wx_cnt, Wx_pass, Wx_ite, Wx_for, Wx_fit, We_var, We_mov, We_pk, We_int, We_str, We_bl, We_non, We_glob, We_bin, We_cmp, We_idx, We_neg, We_not, We_and, We_or, We_ife, We_chain, Wes_nil, Wes_cons, Wec_nil, Wec_cons, Wea_nil, Wea_cons, Wea_ref, Wea_lend, We_calll, Wei_rd, Wep_n, Wep_s, We_tup, We_lst, We_call, We_bi, We_meth, We_slc, We_lc, We_lc2, We_mx, We_rev, We_dnew, We_dsp, We_dget, Wx_setd, We_lsc, We_callv, fnN_fnD, Odd_b, Osk_b, obD_l, obD_d, dfl, Wei_zip, Old_b, Wei_seq, Wei_enum, Wei_r1, Wei_r2, Ov_some, Ov_none, Ov_if, Ov_map, Cnd_t, Cnd_f, Aft_n, Aft_s, Obo_b, Oi_b, Ofr_b, Od_b, Ol_b, Osd_b, Osb_b, Ore_v, Ore_f, Sq_nx, Sq_rt, Sq_bk, Sq_ct, Lt_n, Lt_b, Fn1_nx, Fn1_rv, Fn1_rf, Fin1_n, Fin1_s, TurnQ_nx, TurnQ_ct, TurnQ_bk, TurnQ_rt, toC_v, toC_f, toC_p, toV, argsOf, argsL, flatR, flatD, refs, asT, asTs, bo, co, DP.bi, ix, augD, DP.meth, DP.slice, optI, seqOf, DP.wipe, back, DP.free, isI, truth, toInts_map, DP.isNon, sm64_a, sm64_b, sm64_c, sm64_d, pow_a, at0, at1, at2, at3, List.getElem?_cons_zero, List.getElem?_cons_succ, List.getElem?_nil, List.set_cons_zero, List.set_cons_succ, List.mapM_cons, List.mapM_nil, Option.pure_def, Option.bind_eq_bind, Option.bind_some, Option.map_some, Option.map_none, Option.getD_some, Option.getD_none, Option.join_some, List.length_cons, List.length_nil, List.length_map, List.map_cons, List.map_nil, List.cons_append, List.nil_append, List.getD_cons_zero, List.getD_cons_succ, Nat.reduceAdd, Nat.reduceSub, Nat.reduceLeDiff, Nat.reduceLT, Int.reduceLT, Int.reduceLE, Int.reduceNeg, Int.reducePow, Nat.reduceMul, Int.reduceAdd, Int.reduceSub, Int.reduceMul, Int.reduceToNat, Bool.not_true, Bool.not_false, Bool.and_true, Bool.true_and, Bool.and_false, Bool.false_and, Bool.or_true, Bool.or_false, Bool.true_or, Bool.false_or, decide_true, decide_false, and_true, true_and, and_false, false_and, or_true, or_false, true_or, false_or, if_true, if_false, eqv_int, eqv_str, eqv_bool, shp_int, shp_bool, shp_non, toBools_map, Bool.and_self, eq_self, Bool.false_eq_true, reduceCtorEq, reduceIte, List.all_cons, List.all_nil, slotOf, List.replicate_zero, List.append_nil, List.replicate_succ]
    simp only [decide_eq_true_eq]
    exact q
  · rw [if_neg c] at q
    try simp (config := {decide := true, dsimp := false}) only [Wxs_nil, Wxs_cons, Wx_asg, Wx_own, Wx_aug, Wx_seti, Wx_ex, Wx_ret, Wx_retN, Wx_brk, Wx_cnt, Wx_pass, Wx_ite, Wx_for, Wx_fit, We_var, We_mov, We_pk, We_int, We_str, We_bl, We_non, We_glob, We_bin, We_cmp, We_idx, We_neg, We_not, We_and, We_or, We_ife, We_chain, Wes_nil, Wes_cons, Wec_nil, Wec_cons, Wea_nil, Wea_cons, Wea_ref, Wea_lend, We_calll, Wei_rd, Wep_n, Wep_s, We_tup, We_lst, We_call, We_bi, We_meth, We_slc, We_lc, We_lc2, We_mx, We_rev, We_dnew, We_dsp, We_dget, Wx_setd, We_lsc, We_callv, fnN_fnD, Odd_b, Osk_b, obD_l, obD_d, dfl, Wei_zip, Old_b, Wei_seq, Wei_enum, Wei_r1, Wei_r2, Ov_some, Ov_none, Ov_if, Ov_map, Cnd_t, Cnd_f, Aft_n, Aft_s, Obo_b, Oi_b, Ofr_b, Od_b, Ol_b, Osd_b, Osb_b, Ore_v, Ore_f, Sq_nx, Sq_rt, Sq_bk, Sq_ct, Lt_n, Lt_b, Fn1_nx, Fn1_rv, Fn1_rf, Fin1_n, Fin1_s, TurnQ_nx, TurnQ_ct, TurnQ_bk, TurnQ_rt, toC_v, toC_f, toC_p, toV, argsOf, argsL, flatR, flatD, refs, asT, asTs, bo, co, DP.bi, ix, augD, DP.meth, DP.slice, optI, seqOf, DP.wipe, back, DP.free, isI, truth, toInts_map, DP.isNon, sm64_a, sm64_b, sm64_c, sm64_d, pow_a, at0, at1, at2, at3, List.getElem?_cons_zero, List.getElem?_cons_succ, List.getElem?_nil, List.set_cons_zero, List.set_cons_succ, List.mapM_cons, List.mapM_nil, Option.pure_def, Option.bind_eq_bind, Option.bind_some, Option.map_some, Option.map_none, Option.getD_some, Option.getD_none, Option.join_some, List.length_cons, List.length_nil, List.length_map, List.map_cons, List.map_nil, List.cons_append, List.nil_append, List.getD_cons_zero, List.getD_cons_succ, Nat.reduceAdd, Nat.reduceSub, Nat.reduceLeDiff, Nat.reduceLT, Int.reduceLT, Int.reduceLE, Int.reduceNeg, Int.reducePow, Nat.reduceMul, Int.reduceAdd, Int.reduceSub, Int.reduceMul, Int.reduceToNat, Bool.not_true, Bool.not_false, Bool.and_true, Bool.true_and, Bool.and_false, Bool.false_and, Bool.or_true, Bool.or_false, Bool.true_or, Bool.false_or, decide_true, decide_false, and_true, true_and, and_false, false_and, or_true, or_false, true_or, false_or, if_true, if_false, eqv_int, eqv_str, eqv_bool, shp_int, shp_bool, shp_non, toBools_map, Bool.and_self, eq_self, Bool.false_eq_true, reduceCtorEq, reduceIte, List.all_cons, List.all_nil, slotOf, List.replicate_zero, List.append_nil, List.replicate_succ, hw.look, ht.look, gd_int, m1, m2]
    exact q
/-- what is done: rests below i, in rest i values below j, there holes above c -/
def dn (n i j : Nat) (c r h u : Int) : Prop := 0 ≤ h ∧ h ≤ r ∧ 0 ≤ u ∧ u ≤ n - r ∧ (r < i ∨ (r = i ∧ (u < j ∨ (u = j ∧ c < h))))
instance (n i j : Nat) (c r h u : Int) : Decidable (dn n i j c r h u) := by unfold dn; infer_instance
def fW (n i j : Nat) (c r h u : Int) : Option Int := if dn n i j c r h u then some (W r.toNat h.toNat u.toNat : Nat) else none
def fT (n i j : Nat) (c r h u : Int) : Option Int := if dn n i j c r h u then some (T r.toNat h.toNat u.toNat : Nat) else none
theorem fW_d {n i j : Nat} {c : Int} {r h u : Nat} (a : r < i) (b : u + r ≤ n) : (fW n i j c r h u).getD 0 = ((W r h u : Nat) : Int) := by
  unfold fW
  by_cases l : h ≤ r
  · rw [if_pos (by unfold dn; omega)]
    rfl
  · rw [if_neg (by unfold dn; omega), W_hi (by omega)]
    rfl
theorem fT_d {n i j : Nat} {c : Int} {r h u : Nat} (a : r < i) (b : u + r ≤ n) : (fT n i j c r h u).getD 0 = ((T r h u : Nat) : Int) := by
  unfold fT
  by_cases l : h ≤ r
  · rw [if_pos (by unfold dn; omega)]
    rfl
  · rw [if_neg (by unfold dn; omega), T_hi (by omega)]
    rfl
theorem fW_bd {n i j : Nat} {c r h u x : Int} (hn : n ≤ 40) (e : fW n i j c r h u = some x) : Bd 300 x := by
  unfold fW at e
  split at e
  · rename_i d
    cases e
    unfold dn at d
    exact W_bd (by omega) (by omega)
  · cases e
/-- the value the program computes -/
theorem step_val {n i j k : Nat} {c : Int} (hc : c = (i : Int) - k) (hk : k ≤ i) (hj : j + i ≤ n) :
    (if (i : Int) = 0 then (if c = 0 then (1 : Int) else 0) else j * (fW n i j c ((i : Int) - 1) c j).getD 0 + c * (fW n i j c ((i : Int) - 1) (c - 1) ((j : Int) + 1)).getD 0 + (fT n i j c ((i : Int) - 1) c ((j : Int) + 1)).getD 0) = ((W i (i - k) j : Nat) : Int) := by
  have ec : c = ((i - k : Nat) : Int) := by omega
  subst hc
  rcases i with _ | i
  · rw [if_pos (by omega), show (0 : Nat) - k = 0 by omega, if_pos (by omega), W_0, if_pos rfl]
    rfl
  · rw [if_neg (by omega), ec, W_step]
    rw [show ((i + 1 : Nat) : Int) - 1 = (i : Int) by omega, fW_d (by omega) (by omega), show ((j : Int) + 1) = ((j + 1 : Nat) : Int) by omega, fT_d (by omega) (by omega)]
    rcases Nat.eq_zero_or_pos (i + 1 - k) with z | z
    · rw [z]
      simp
    · rw [show ((i + 1 - k : Nat) : Int) - 1 = ((i + 1 - k - 1 : Nat) : Int) by omega, fW_d (by omega) (by omega)]
      simp only [Int.natCast_add, Int.natCast_mul]
end K96
namespace K96
open PySem L2 DP
open DPK
theorem irangeD_at {lo : Int} {n i : Nat} {d : D} (h : (irangeD lo n)[i]? = some d) : i < n ∧ d = .int (lo - i) := by
  unfold irangeD at h
  have h1 := (List.getElem?_eq_some_iff.mp h).1
  rw [List.length_map, List.length_range] at h1
  rw [List.getElem?_map, List.getElem?_range h1] at h
  have := Option.some.inj h
  refine ⟨h1, ?_⟩
  rw [← this]
  show PyData.int (lo + (i : Int) * -1) = _
  congr 1
  omega
theorem irangeD_len (lo : Int) (n : Nat) : (irangeD lo n).length = n := by simp [irangeD]
theorem irange0_at {n i : Nat} {d : D} (h : (irange 0 n)[i]? = some d) : i < n ∧ d = .int i := by
  obtain ⟨h1, h2⟩ := irange_at h
  exact ⟨h1, by rw [h2, Int.zero_add]⟩
theorem dn_next (n i j : Nat) (k : Nat) (hk : k ≤ i) (hj : j + i ≤ n) (a b c : Int) : dn n i j ((i : Int) - (k + 1 : Nat)) a b c ↔ (a = i ∧ b = (i : Int) - k ∧ c = j) ∨ dn n i j ((i : Int) - k) a b c := by
  unfold dn
  omega
theorem fW_next (n i j k : Nat) (hk : k ≤ i) (hj : j + i ≤ n) (a b c : Int) :
    (if a = (i : Int) ∧ b = (i : Int) - k ∧ c = (j : Int) then some ((W i (i - k) j : Nat) : Int) else fW n i j ((i : Int) - k) a b c) = fW n i j ((i : Int) - (k + 1 : Nat)) a b c := by
  have := dn_next n i j k hk hj a b c
  unfold fW
  by_cases e : a = (i : Int) ∧ b = (i : Int) - k ∧ c = (j : Int)
  · rw [if_pos e, if_pos (this.mpr (.inl e)), e.1, e.2.1, e.2.2, show ((i : Int) - (k : Int)).toNat = i - k by omega]
    rfl
  · rw [if_neg e]
    by_cases d : dn n i j ((i : Int) - k) a b c
    · rw [if_pos d, if_pos (this.mpr (.inr d))]
    · rw [if_neg d, if_neg fun z => (this.mp z).elim e d]
theorem fT_next (n i j k : Nat) (hk : k ≤ i) (hj : j + i ≤ n) (a b c : Int) :
    (if a = (i : Int) ∧ b = (i : Int) - k ∧ c = (j : Int) then some ((T i (i - k) j : Nat) : Int) else fT n i j ((i : Int) - k) a b c) = fT n i j ((i : Int) - (k + 1 : Nat)) a b c := by
  have := dn_next n i j k hk hj a b c
  unfold fT
  by_cases e : a = (i : Int) ∧ b = (i : Int) - k ∧ c = (j : Int)
  · rw [if_pos e, if_pos (this.mpr (.inl e)), e.1, e.2.1, e.2.2, show ((i : Int) - (k : Int)).toNat = i - k by omega]
    rfl
  · rw [if_neg e]
    by_cases d : dn n i j ((i : Int) - k) a b c
    · rw [if_pos d, if_pos (this.mpr (.inr d))]
    · rw [if_neg d, if_neg fun z => (this.mp z).elim e d]
theorem dn_same {n i j i' j' : Nat} {c c' a b d : Int} (h : dn n i j c a b d ↔ dn n i' j' c' a b d) : fW n i j c a b d = fW n i' j' c' a b d ∧ fT n i j c a b d = fT n i' j' c' a b d := by
  unfold fW fT
  by_cases e : dn n i j c a b d
  · rw [if_pos e, if_pos e, if_pos (h.mp e), if_pos (h.mp e)]
    exact ⟨rfl, rfl⟩
  · rw [if_neg e, if_neg e, if_neg fun z => e (h.mpr z), if_neg fun z => e (h.mpr z)]
    exact ⟨rfl, rfl⟩
/-- the ways of n entries -/
def WN (n : Nat) (kvs : List (D × D)) : Prop := WD kvs (fW n (n + 1) 0 (n + 1 : Nat))
theorem ways_of_ok {N n : Nat} {Q : R → Option OB → Prop} (hn : n ≤ 40) (h' : ∀ kvs, WN n kvs → Q (.fr (.d kvs)) none) : Wc (sm (N + 2)) "ways_of" [.v (.int n)] Q := by
  (refine Wc_ok pf_ways_of rfl ?_; unfold f_ways_of; dsimp only)
  try simp (config := {decide := true, dsimp := false}) only [Wxs_nil, Wxs_cons, Wx_asg, Wx_own, Wx_aug, Wx_seti, Wx_ex, Wx_ret, Wx_retN, Wx_brk, Wx_cnt, Wx_pass, Wx_ite, Wx_for, Wx_fit, We_var, We_mov, We_pk, We_int, We_str, We_bl, We_non, We_glob, We_bin, We_cmp, We_idx, We_neg, We_not, We_and, We_or, We_ife, We_chain, Wes_nil, Wes_cons, Wec_nil, Wec_cons, Wea_nil, Wea_cons, Wea_ref, Wea_lend, We_calll, Wei_rd, Wep_n, Wep_s, We_tup, We_lst, We_call, We_bi, We_meth, We_slc, We_lc, We_lc2, We_mx, We_rev, We_dnew, We_dsp, We_dget, Wx_setd, We_lsc, We_callv, fnN_fnD, Odd_b, Osk_b, obD_l, obD_d, dfl, Wei_zip, Old_b, Wei_seq, Wei_enum, Wei_r1, Wei_r2, Ov_some, Ov_none, Ov_if, Ov_map, Cnd_t, Cnd_f, Aft_n, Aft_s, Obo_b, Oi_b, Ofr_b, Od_b, Ol_b, Osd_b, Osb_b, Ore_v, Ore_f, Sq_nx, Sq_rt, Sq_bk, Sq_ct, Lt_n, Lt_b, Fn1_nx, Fn1_rv, Fn1_rf, Fin1_n, Fin1_s, TurnQ_nx, TurnQ_ct, TurnQ_bk, TurnQ_rt, toC_v, toC_f, toC_p, toV, argsOf, argsL, flatR, flatD, refs, asT, asTs, bo, co, DP.bi, ix, augD, DP.meth, DP.slice, optI, seqOf, DP.wipe, back, DP.free, isI, truth, toInts_map, DP.isNon, sm64_a, sm64_b, sm64_c, sm64_d, pow_a, at0, at1, at2, at3, List.getElem?_cons_zero, List.getElem?_cons_succ, List.getElem?_nil, List.set_cons_zero, List.set_cons_succ, List.mapM_cons, List.mapM_nil, Option.pure_def, Option.bind_eq_bind, Option.bind_some, Option.map_some, Option.map_none, Option.getD_some, Option.getD_none, Option.join_some, List.length_cons, List.length_nil, List.length_map, List.map_cons, List.map_nil, List.cons_append, List.nil_append, List.getD_cons_zero, List.getD_cons_succ, Nat.reduceAdd, Nat.reduceSub, Nat.reduceLeDiff, Nat.reduceLT, Int.reduceLT, Int.reduceLE, Int.reduceNeg, Int.reducePow, Nat.reduceMul, Int.reduceAdd, Int.reduceSub, Int.reduceMul, Int.reduceToNat, Bool.not_true, Bool.not_false, Bool.and_true, Bool.true_and, Bool.and_false, Bool.false_and, Bool.or_true, Bool.or_false, Bool.true_or, Bool.false_or, decide_true, decide_false, and_true, true_and, and_false, false_and, or_true, or_false, true_or, false_or, if_true, if_false, eqv_int, eqv_str, eqv_bool, shp_int, shp_bool, shp_non, toBools_map, Bool.and_self, eq_self, Bool.false_eq_true, reduceCtorEq, reduceIte, List.all_cons, List.all_nil, slotOf, List.replicate_zero, List.append_nil, List.replicate_succ]
  refine ⟨by simp [small62]; omega, ?_⟩
  refine For_ok (fun i ρ => ∃ kw kt, ∃ s3 s4 s5 s6 : DP.Slot, WD kw (fW n i 0 i) ∧ WD kt (fT n i 0 i) ∧ kw.length ≤ i * 2500 ∧ kt.length ≤ i * 2500 ∧ ρ = [.v (.int n), .o (.d kw), .o (.d kt), s3, s4, s5, s6]) ?_ ?_ ?_
  · exact ⟨[], [], .un, .un, .un, .un, WD.nil.congr fun a b c => by unfold fW; rw [if_neg (by unfold dn; omega)], WD.nil.congr fun a b c => by unfold fT; rw [if_neg (by unfold dn; omega)], Nat.zero_le _, Nat.zero_le _, rfl⟩
  · rintro i d ρ hi ⟨kw, kt, s3, s4, s5, s6, w1, w2, l1, l2, rfl⟩
    obtain ⟨hi2, rfl⟩ := irange0_at hi
    have hi3 : i ≤ n := by omega
    try simp (config := {decide := true, dsimp := false}) only [Wxs_nil, Wxs_cons, Wx_asg, Wx_own, Wx_aug, Wx_seti, Wx_ex, Wx_ret, Wx_retN, Wx_brk, Wx_cnt, Wx_pass, Wx_ite, Wx_for, Wx_fit, We_var, We_mov, We_pk, We_int, We_str, We_bl, We_non, We_glob, We_bin, We_cmp, We_idx, We_neg, We_not, We_and, We_or, We_ife, We_chain, Wes_nil, Wes_cons, Wec_nil, Wec_cons, Wea_nil, Wea_cons, Wea_ref, Wea_lend, We_calll, Wei_rd, Wep_n, Wep_s, We_tup, We_lst, We_call, We_bi, We_meth, We_slc, We_lc, We_lc2, We_mx, We_rev, We_dnew, We_dsp, We_dget, Wx_setd, We_lsc, We_callv, fnN_fnD, Odd_b, Osk_b, obD_l, obD_d, dfl, Wei_zip, Old_b, Wei_seq, Wei_enum, Wei_r1, Wei_r2, Ov_some, Ov_none, Ov_if, Ov_map, Cnd_t, Cnd_f, Aft_n, Aft_s, Obo_b, Oi_b, Ofr_b, Od_b, Ol_b, Osd_b, Osb_b, Ore_v, Ore_f, Sq_nx, Sq_rt, Sq_bk, Sq_ct, Lt_n, Lt_b, Fn1_nx, Fn1_rv, Fn1_rf, Fin1_n, Fin1_s, TurnQ_nx, TurnQ_ct, TurnQ_bk, TurnQ_rt, toC_v, toC_f, toC_p, toV, argsOf, argsL, flatR, flatD, refs, asT, asTs, bo, co, DP.bi, ix, augD, DP.meth, DP.slice, optI, seqOf, DP.wipe, back, DP.free, isI, truth, toInts_map, DP.isNon, sm64_a, sm64_b, sm64_c, sm64_d, pow_a, at0, at1, at2, at3, List.getElem?_cons_zero, List.getElem?_cons_succ, List.getElem?_nil, List.set_cons_zero, List.set_cons_succ, List.mapM_cons, List.mapM_nil, Option.pure_def, Option.bind_eq_bind, Option.bind_some, Option.map_some, Option.map_none, Option.getD_some, Option.getD_none, Option.join_some, List.length_cons, List.length_nil, List.length_map, List.map_cons, List.map_nil, List.cons_append, List.nil_append, List.getD_cons_zero, List.getD_cons_succ, Nat.reduceAdd, Nat.reduceSub, Nat.reduceLeDiff, Nat.reduceLT, Int.reduceLT, Int.reduceLE, Int.reduceNeg, Int.reducePow, Nat.reduceMul, Int.reduceAdd, Int.reduceSub, Int.reduceMul, Int.reduceToNat, Bool.not_true, Bool.not_false, Bool.and_true, Bool.true_and, Bool.and_false, Bool.false_and, Bool.or_true, Bool.or_false, Bool.true_or, Bool.false_or, decide_true, decide_false, and_true, true_and, and_false, false_and, or_true, or_false, true_or, false_or, if_true, if_false, eqv_int, eqv_str, eqv_bool, shp_int, shp_bool, shp_non, toBools_map, Bool.and_self, eq_self, Bool.false_eq_true, reduceCtorEq, reduceIte, List.all_cons, List.all_nil, slotOf, List.replicate_zero, List.append_nil, List.replicate_succ]
    refine ⟨by simp [small62]; omega, ?_⟩
    refine For_ok (fun j ρ => ∃ kw kt, ∃ s4 s5 s6 : DP.Slot, WD kw (fW n i j i) ∧ WD kt (fT n i j i) ∧ kw.length ≤ i * 2500 + j * 50 ∧ kt.length ≤ i * 2500 + j * 50 ∧ ρ = [.v (.int n), .o (.d kw), .o (.d kt), .v (.int i), s4, s5, s6]) ?_ ?_ ?_
    · exact ⟨kw, kt, _, _, _, w1.congr fun a b c => (dn_same (by unfold dn; omega)).1, w2.congr fun a b c => (dn_same (by unfold dn; omega)).2, by omega, by omega, rfl⟩
    · rintro j d ρ hj ⟨kw, kt, s4, s5, s6, w1, w2, l1, l2, rfl⟩
      obtain ⟨hj2, rfl⟩ := irange0_at hj
      have hj3 : j + i ≤ n := by omega
      try simp (config := {decide := true, dsimp := false}) only [Wxs_nil, Wxs_cons, Wx_asg, Wx_own, Wx_aug, Wx_seti, Wx_ex, Wx_ret, Wx_retN, Wx_brk, Wx_cnt, Wx_pass, Wx_ite, Wx_for, Wx_fit, We_var, We_mov, We_pk, We_int, We_str, We_bl, We_non, We_glob, We_bin, We_cmp, We_idx, We_neg, We_not, We_and, We_or, We_ife, We_chain, Wes_nil, Wes_cons, Wec_nil, Wec_cons, Wea_nil, Wea_cons, Wea_ref, Wea_lend, We_calll, Wei_rd, Wep_n, Wep_s, We_tup, We_lst, We_call, We_bi, We_meth, We_slc, We_lc, We_lc2, We_mx, We_rev, We_dnew, We_dsp, We_dget, Wx_setd, We_lsc, We_callv, fnN_fnD, Odd_b, Osk_b, obD_l, obD_d, dfl, Wei_zip, Old_b, Wei_seq, Wei_enum, Wei_r1, Wei_r2, Ov_some, Ov_none, Ov_if, Ov_map, Cnd_t, Cnd_f, Aft_n, Aft_s, Obo_b, Oi_b, Ofr_b, Od_b, Ol_b, Osd_b, Osb_b, Ore_v, Ore_f, Sq_nx, Sq_rt, Sq_bk, Sq_ct, Lt_n, Lt_b, Fn1_nx, Fn1_rv, Fn1_rf, Fin1_n, Fin1_s, TurnQ_nx, TurnQ_ct, TurnQ_bk, TurnQ_rt, toC_v, toC_f, toC_p, toV, argsOf, argsL, flatR, flatD, refs, asT, asTs, bo, co, DP.bi, ix, augD, DP.meth, DP.slice, optI, seqOf, DP.wipe, back, DP.free, isI, truth, toInts_map, DP.isNon, sm64_a, sm64_b, sm64_c, sm64_d, pow_a, at0, at1, at2, at3, List.getElem?_cons_zero, List.getElem?_cons_succ, List.getElem?_nil, List.set_cons_zero, List.set_cons_succ, List.mapM_cons, List.mapM_nil, Option.pure_def, Option.bind_eq_bind, Option.bind_some, Option.map_some, Option.map_none, Option.getD_some, Option.getD_none, Option.join_some, List.length_cons, List.length_nil, List.length_map, List.map_cons, List.map_nil, List.cons_append, List.nil_append, List.getD_cons_zero, List.getD_cons_succ, Nat.reduceAdd, Nat.reduceSub, Nat.reduceLeDiff, Nat.reduceLT, Int.reduceLT, Int.reduceLE, Int.reduceNeg, Int.reducePow, Nat.reduceMul, Int.reduceAdd, Int.reduceSub, Int.reduceMul, Int.reduceToNat, Bool.not_true, Bool.not_false, Bool.and_true, Bool.true_and, Bool.and_false, Bool.false_and, Bool.or_true, Bool.or_false, Bool.true_or, Bool.false_or, decide_true, decide_false, and_true, true_and, and_false, false_and, or_true, or_false, true_or, false_or, if_true, if_false, eqv_int, eqv_str, eqv_bool, shp_int, shp_bool, shp_non, toBools_map, Bool.and_self, eq_self, Bool.false_eq_true, reduceCtorEq, reduceIte, List.all_cons, List.all_nil, slotOf, List.replicate_zero, List.append_nil, List.replicate_succ]
      refine ⟨by simp [small62]; omega, ?_⟩
      refine For_ok (fun k ρ => ∃ kw kt, ∃ s6 : DP.Slot, WD kw (fW n i j ((i : Int) - k)) ∧ WD kt (fT n i j ((i : Int) - k)) ∧ kw.length ≤ i * 2500 + j * 50 + k ∧ kt.length ≤ i * 2500 + j * 50 + k ∧
        ρ = [.v (.int n), .o (.d kw), .o (.d kt), .v (.int i), .v (.int j), .v (.int (T i (i + 1 - k) j : Nat)), s6]) ?_ ?_ ?_
      · refine ⟨kw, kt, s6, ?_, ?_, by omega, by omega, ?_⟩
        · rw [show (i : Int) - ((0 : Nat) : Int) = i by omega]; exact w1
        · rw [show (i : Int) - ((0 : Nat) : Int) = i by omega]; exact w2
        · rw [T_hi (by omega)]; rfl
      · rintro k d ρ hk ⟨kw, kt, s6, w1, w2, l1, l2, rfl⟩
        obtain ⟨hk2, rfl⟩ := irangeD_at hk
        have hk3 : k ≤ i := by omega
        try simp (config := {decide := true, dsimp := false}) only [Wxs_nil, Wxs_cons, Wx_asg, Wx_own, Wx_aug, Wx_seti, Wx_ex, Wx_ret, Wx_retN, Wx_brk, Wx_cnt, Wx_pass, Wx_ite, Wx_for, Wx_fit, We_var, We_mov, We_pk, We_int, We_str, We_bl, We_non, We_glob, We_bin, We_cmp, We_idx, We_neg, We_not, We_and, We_or, We_ife, We_chain, Wes_nil, Wes_cons, Wec_nil, Wec_cons, Wea_nil, Wea_cons, Wea_ref, Wea_lend, We_calll, Wei_rd, Wep_n, Wep_s, We_tup, We_lst, We_call, We_bi, We_meth, We_slc, We_lc, We_lc2, We_mx, We_rev, We_dnew, We_dsp, We_dget, Wx_setd, We_lsc, We_callv, fnN_fnD, Odd_b, Osk_b, obD_l, obD_d, dfl, Wei_zip, Old_b, Wei_seq, Wei_enum, Wei_r1, Wei_r2, Ov_some, Ov_none, Ov_if, Ov_map, Cnd_t, Cnd_f, Aft_n, Aft_s, Obo_b, Oi_b, Ofr_b, Od_b, Ol_b, Osd_b, Osb_b, Ore_v, Ore_f, Sq_nx, Sq_rt, Sq_bk, Sq_ct, Lt_n, Lt_b, Fn1_nx, Fn1_rv, Fn1_rf, Fin1_n, Fin1_s, TurnQ_nx, TurnQ_ct, TurnQ_bk, TurnQ_rt, toC_v, toC_f, toC_p, toV, argsOf, argsL, flatR, flatD, refs, asT, asTs, bo, co, DP.bi, ix, augD, DP.meth, DP.slice, optI, seqOf, DP.wipe, back, DP.free, isI, truth, toInts_map, DP.isNon, sm64_a, sm64_b, sm64_c, sm64_d, pow_a, at0, at1, at2, at3, List.getElem?_cons_zero, List.getElem?_cons_succ, List.getElem?_nil, List.set_cons_zero, List.set_cons_succ, List.mapM_cons, List.mapM_nil, Option.pure_def, Option.bind_eq_bind, Option.bind_some, Option.map_some, Option.map_none, Option.getD_some, Option.getD_none, Option.join_some, List.length_cons, List.length_nil, List.length_map, List.map_cons, List.map_nil, List.cons_append, List.nil_append, List.getD_cons_zero, List.getD_cons_succ, Nat.reduceAdd, Nat.reduceSub, Nat.reduceLeDiff, Nat.reduceLT, Int.reduceLT, Int.reduceLE, Int.reduceNeg, Int.reducePow, Nat.reduceMul, Int.reduceAdd, Int.reduceSub, Int.reduceMul, Int.reduceToNat, Bool.not_true, Bool.not_false, Bool.and_true, Bool.true_and, Bool.and_false, Bool.false_and, Bool.or_true, Bool.or_false, Bool.true_or, Bool.false_or, decide_true, decide_false, and_true, true_and, and_false, false_and, or_true, or_false, true_or, false_or, if_true, if_false, eqv_int, eqv_str, eqv_bool, shp_int, shp_bool, shp_non, toBools_map, Bool.and_self, eq_self, Bool.false_eq_true, reduceCtorEq, reduceIte, List.all_cons, List.all_nil, slotOf, List.replicate_zero, List.append_nil, List.replicate_succ]
        refine ways_before_ok w1 w2 (fun x e => fW_bd hn e) (fun x e => fW_bd hn e) (by omega) (by omega) ?_
        rw [step_val rfl hk3 hj3]
        obtain ⟨kw', e1, e2, e3⟩ := w1.put (by omega) i ((i : Int) - k) j (W i (i - k) j : Nat)
        have e4 := e3.look i ((i : Int) - k) j
        simp only [and_self, if_true] at e4
        obtain ⟨kt', f1, f2, f3⟩ := w2.put (by omega) i ((i : Int) - k) j (T i (i - k) j : Nat)
        have ft : ((T i (i + 1 - k) j : Nat) : Int) + ((W i (i - k) j : Nat) : Int) = ((T i (i - k) j : Nat) : Int) := by
          rw [T_un i (i - k), show i - k + 1 = i + 1 - k by omega]
          omega
        have e5 : (dlook kw' (.tuple [.int i, .int ((i : Int) - k), .int j])).join = some (.int (W i (i - k) j : Nat)) := by rw [e4]; rfl
        try simp (config := {decide := true, dsimp := false}) only [Wxs_nil, Wxs_cons, Wx_asg, Wx_own, Wx_aug, Wx_seti, Wx_ex, Wx_ret, Wx_retN, Wx_brk, Wx_cnt, Wx_pass, Wx_ite, Wx_for, Wx_fit, We_var, We_mov, We_pk, We_int, We_str, We_bl, We_non, We_glob, We_bin, We_cmp, We_idx, We_neg, We_not, We_and, We_or, We_ife, We_chain, Wes_nil, Wes_cons, Wec_nil, Wec_cons, Wea_nil, Wea_cons, Wea_ref, Wea_lend, We_calll, Wei_rd, Wep_n, Wep_s, We_tup, We_lst, We_call, We_bi, We_meth, We_slc, We_lc, We_lc2, We_mx, We_rev, We_dnew, We_dsp, We_dget, Wx_setd, We_lsc, We_callv, fnN_fnD, Odd_b, Osk_b, obD_l, obD_d, dfl, Wei_zip, Old_b, Wei_seq, Wei_enum, Wei_r1, Wei_r2, Ov_some, Ov_none, Ov_if, Ov_map, Cnd_t, Cnd_f, Aft_n, Aft_s, Obo_b, Oi_b, Ofr_b, Od_b, Ol_b, Osd_b, Osb_b, Ore_v, Ore_f, Sq_nx, Sq_rt, Sq_bk, Sq_ct, Lt_n, Lt_b, Fn1_nx, Fn1_rv, Fn1_rf, Fin1_n, Fin1_s, TurnQ_nx, TurnQ_ct, TurnQ_bk, TurnQ_rt, toC_v, toC_f, toC_p, toV, argsOf, argsL, flatR, flatD, refs, asT, asTs, bo, co, DP.bi, ix, augD, DP.meth, DP.slice, optI, seqOf, DP.wipe, back, DP.free, isI, truth, toInts_map, DP.isNon, sm64_a, sm64_b, sm64_c, sm64_d, pow_a, at0, at1, at2, at3, List.getElem?_cons_zero, List.getElem?_cons_succ, List.getElem?_nil, List.set_cons_zero, List.set_cons_succ, List.mapM_cons, List.mapM_nil, Option.pure_def, Option.bind_eq_bind, Option.bind_some, Option.map_some, Option.map_none, Option.getD_some, Option.getD_none, Option.join_some, List.length_cons, List.length_nil, List.length_map, List.map_cons, List.map_nil, List.cons_append, List.nil_append, List.getD_cons_zero, List.getD_cons_succ, Nat.reduceAdd, Nat.reduceSub, Nat.reduceLeDiff, Nat.reduceLT, Int.reduceLT, Int.reduceLE, Int.reduceNeg, Int.reducePow, Nat.reduceMul, Int.reduceAdd, Int.reduceSub, Int.reduceMul, Int.reduceToNat, Bool.not_true, Bool.not_false, Bool.and_true, Bool.true_and, Bool.and_false, Bool.false_and, Bool.or_true, Bool.or_false, Bool.true_or, Bool.false_or, decide_true, decide_false, and_true, true_and, and_false, false_and, or_true, or_false, true_or, false_or, if_true, if_false, eqv_int, eqv_str, eqv_bool, shp_int, shp_bool, shp_non, toBools_map, Bool.and_self, eq_self, Bool.false_eq_true, reduceCtorEq, reduceIte, List.all_cons, List.all_nil, slotOf, List.replicate_zero, List.append_nil, List.replicate_succ, e1, e5, ft, f1]
        have ek : (i + 1 - (k + 1)) = i - k := by omega
        refine ⟨kw', kt', .v (.int ((i : Int) - k)), e3.congr (fW_next n i j k hk3 hj3), f3.congr (fT_next n i j k hk3 hj3), by omega, by omega, ?_⟩
        rw [ek]
      · rintro ρ ⟨kw, kt, s6, w1, w2, l1, l2, rfl⟩
        rw [irangeD_len] at w1 w2 l1 l2 ⊢
        try simp (config := {decide := true, dsimp := false}) only [Wxs_nil, Wxs_cons, Wx_asg, Wx_own, Wx_aug, Wx_seti, Wx_ex, Wx_ret, Wx_retN, Wx_brk, Wx_cnt, Wx_pass, Wx_ite, Wx_for, Wx_fit, We_var, We_mov, We_pk, We_int, We_str, We_bl, We_non, We_glob, We_bin, We_cmp, We_idx, We_neg, We_not, We_and, We_or, We_ife, We_chain, Wes_nil, Wes_cons, Wec_nil, Wec_cons, Wea_nil, Wea_cons, Wea_ref, Wea_lend, We_calll, Wei_rd, Wep_n, Wep_s, We_tup, We_lst, We_call, We_bi, We_meth, We_slc, We_lc, We_lc2, We_mx, We_rev, We_dnew, We_dsp, We_dget, Wx_setd, We_lsc, We_callv, fnN_fnD, Odd_b, Osk_b, obD_l, obD_d, dfl, Wei_zip, Old_b, Wei_seq, Wei_enum, Wei_r1, Wei_r2, Ov_some, Ov_none, Ov_if, Ov_map, Cnd_t, Cnd_f, Aft_n, Aft_s, Obo_b, Oi_b, Ofr_b, Od_b, Ol_b, Osd_b, Osb_b, Ore_v, Ore_f, Sq_nx, Sq_rt, Sq_bk, Sq_ct, Lt_n, Lt_b, Fn1_nx, Fn1_rv, Fn1_rf, Fin1_n, Fin1_s, TurnQ_nx, TurnQ_ct, TurnQ_bk, TurnQ_rt, toC_v, toC_f, toC_p, toV, argsOf, argsL, flatR, flatD, refs, asT, asTs, bo, co, DP.bi, ix, augD, DP.meth, DP.slice, optI, seqOf, DP.wipe, back, DP.free, isI, truth, toInts_map, DP.isNon, sm64_a, sm64_b, sm64_c, sm64_d, pow_a, at0, at1, at2, at3, List.getElem?_cons_zero, List.getElem?_cons_succ, List.getElem?_nil, List.set_cons_zero, List.set_cons_succ, List.mapM_cons, List.mapM_nil, Option.pure_def, Option.bind_eq_bind, Option.bind_some, Option.map_some, Option.map_none, Option.getD_some, Option.getD_none, Option.join_some, List.length_cons, List.length_nil, List.length_map, List.map_cons, List.map_nil, List.cons_append, List.nil_append, List.getD_cons_zero, List.getD_cons_succ, Nat.reduceAdd, Nat.reduceSub, Nat.reduceLeDiff, Nat.reduceLT, Int.reduceLT, Int.reduceLE, Int.reduceNeg, Int.reducePow, Nat.reduceMul, Int.reduceAdd, Int.reduceSub, Int.reduceMul, Int.reduceToNat, Bool.not_true, Bool.not_false, Bool.and_true, Bool.true_and, Bool.and_false, Bool.false_and, Bool.or_true, Bool.or_false, Bool.true_or, Bool.false_or, decide_true, decide_false, and_true, true_and, and_false, false_and, or_true, or_false, true_or, false_or, if_true, if_false, eqv_int, eqv_str, eqv_bool, shp_int, shp_bool, shp_non, toBools_map, Bool.and_self, eq_self, Bool.false_eq_true, reduceCtorEq, reduceIte, List.all_cons, List.all_nil, slotOf, List.replicate_zero, List.append_nil, List.replicate_succ]
        have ei : ((i : Int) - -1).toNat = i + 1 := by omega
        rw [ei] at w1 w2 l1 l2
        exact ⟨kw, kt, _, _, _, w1.congr fun a b c => (dn_same (by unfold dn; omega)).1, w2.congr fun a b c => (dn_same (by unfold dn; omega)).2, by omega, by omega, rfl⟩
    · rintro ρ ⟨kw, kt, s4, s5, s6, w1, w2, l1, l2, rfl⟩
      rw [irange_len] at w1 w2 l1 l2
      try simp (config := {decide := true, dsimp := false}) only [Wxs_nil, Wxs_cons, Wx_asg, Wx_own, Wx_aug, Wx_seti, Wx_ex, Wx_ret, Wx_retN, Wx_brk, Wx_cnt, Wx_pass, Wx_ite, Wx_for, Wx_fit, We_var, We_mov, We_pk, We_int, We_str, We_bl, We_non, We_glob, We_bin, We_cmp, We_idx, We_neg, We_not, We_and, We_or, We_ife, We_chain, Wes_nil, Wes_cons, Wec_nil, Wec_cons, Wea_nil, Wea_cons, Wea_ref, Wea_lend, We_calll, Wei_rd, Wep_n, Wep_s, We_tup, We_lst, We_call, We_bi, We_meth, We_slc, We_lc, We_lc2, We_mx, We_rev, We_dnew, We_dsp, We_dget, Wx_setd, We_lsc, We_callv, fnN_fnD, Odd_b, Osk_b, obD_l, obD_d, dfl, Wei_zip, Old_b, Wei_seq, Wei_enum, Wei_r1, Wei_r2, Ov_some, Ov_none, Ov_if, Ov_map, Cnd_t, Cnd_f, Aft_n, Aft_s, Obo_b, Oi_b, Ofr_b, Od_b, Ol_b, Osd_b, Osb_b, Ore_v, Ore_f, Sq_nx, Sq_rt, Sq_bk, Sq_ct, Lt_n, Lt_b, Fn1_nx, Fn1_rv, Fn1_rf, Fin1_n, Fin1_s, TurnQ_nx, TurnQ_ct, TurnQ_bk, TurnQ_rt, toC_v, toC_f, toC_p, toV, argsOf, argsL, flatR, flatD, refs, asT, asTs, bo, co, DP.bi, ix, augD, DP.meth, DP.slice, optI, seqOf, DP.wipe, back, DP.free, isI, truth, toInts_map, DP.isNon, sm64_a, sm64_b, sm64_c, sm64_d, pow_a, at0, at1, at2, at3, List.getElem?_cons_zero, List.getElem?_cons_succ, List.getElem?_nil, List.set_cons_zero, List.set_cons_succ, List.mapM_cons, List.mapM_nil, Option.pure_def, Option.bind_eq_bind, Option.bind_some, Option.map_some, Option.map_none, Option.getD_some, Option.getD_none, Option.join_some, List.length_cons, List.length_nil, List.length_map, List.map_cons, List.map_nil, List.cons_append, List.nil_append, List.getD_cons_zero, List.getD_cons_succ, Nat.reduceAdd, Nat.reduceSub, Nat.reduceLeDiff, Nat.reduceLT, Int.reduceLT, Int.reduceLE, Int.reduceNeg, Int.reducePow, Nat.reduceMul, Int.reduceAdd, Int.reduceSub, Int.reduceMul, Int.reduceToNat, Bool.not_true, Bool.not_false, Bool.and_true, Bool.true_and, Bool.and_false, Bool.false_and, Bool.or_true, Bool.or_false, Bool.true_or, Bool.false_or, decide_true, decide_false, and_true, true_and, and_false, false_and, or_true, or_false, true_or, false_or, if_true, if_false, eqv_int, eqv_str, eqv_bool, shp_int, shp_bool, shp_non, toBools_map, Bool.and_self, eq_self, Bool.false_eq_true, reduceCtorEq, reduceIte, List.all_cons, List.all_nil, slotOf, List.replicate_zero, List.append_nil, List.replicate_succ]
      exact ⟨kw, kt, _, _, _, _, w1.congr fun a b c => (dn_same (by unfold dn; omega)).1, w2.congr fun a b c => (dn_same (by unfold dn; omega)).2, by omega, by omega, rfl⟩
  · rintro ρ ⟨kw, kt, s3, s4, s5, s6, w1, w2, l1, l2, rfl⟩
    rw [irange_len] at w1
    try simp (config := {decide := true, dsimp := false}) only [Wxs_nil, Wxs_cons, Wx_asg, Wx_own, Wx_aug, Wx_seti, Wx_ex, Wx_ret, Wx_retN, Wx_brk, Wx_cnt, Wx_pass, Wx_ite, Wx_for, Wx_fit, We_var, We_mov, We_pk, We_int, We_str, We_bl, We_non, We_glob, We_bin, We_cmp, We_idx, We_neg, We_not, We_and, We_or, We_ife, We_chain, Wes_nil, Wes_cons, Wec_nil, Wec_cons, Wea_nil, Wea_cons, Wea_ref, Wea_lend, We_calll, Wei_rd, Wep_n, Wep_s, We_tup, We_lst, We_call, We_bi, We_meth, We_slc, We_lc, We_lc2, We_mx, We_rev, We_dnew, We_dsp, We_dget, Wx_setd, We_lsc, We_callv, fnN_fnD, Odd_b, Osk_b, obD_l, obD_d, dfl, Wei_zip, Old_b, Wei_seq, Wei_enum, Wei_r1, Wei_r2, Ov_some, Ov_none, Ov_if, Ov_map, Cnd_t, Cnd_f, Aft_n, Aft_s, Obo_b, Oi_b, Ofr_b, Od_b, Ol_b, Osd_b, Osb_b, Ore_v, Ore_f, Sq_nx, Sq_rt, Sq_bk, Sq_ct, Lt_n, Lt_b, Fn1_nx, Fn1_rv, Fn1_rf, Fin1_n, Fin1_s, TurnQ_nx, TurnQ_ct, TurnQ_bk, TurnQ_rt, toC_v, toC_f, toC_p, toV, argsOf, argsL, flatR, flatD, refs, asT, asTs, bo, co, DP.bi, ix, augD, DP.meth, DP.slice, optI, seqOf, DP.wipe, back, DP.free, isI, truth, toInts_map, DP.isNon, sm64_a, sm64_b, sm64_c, sm64_d, pow_a, at0, at1, at2, at3, List.getElem?_cons_zero, List.getElem?_cons_succ, List.getElem?_nil, List.set_cons_zero, List.set_cons_succ, List.mapM_cons, List.mapM_nil, Option.pure_def, Option.bind_eq_bind, Option.bind_some, Option.map_some, Option.map_none, Option.getD_some, Option.getD_none, Option.join_some, List.length_cons, List.length_nil, List.length_map, List.map_cons, List.map_nil, List.cons_append, List.nil_append, List.getD_cons_zero, List.getD_cons_succ, Nat.reduceAdd, Nat.reduceSub, Nat.reduceLeDiff, Nat.reduceLT, Int.reduceLT, Int.reduceLE, Int.reduceNeg, Int.reducePow, Nat.reduceMul, Int.reduceAdd, Int.reduceSub, Int.reduceMul, Int.reduceToNat, Bool.not_true, Bool.not_false, Bool.and_true, Bool.true_and, Bool.and_false, Bool.false_and, Bool.or_true, Bool.or_false, Bool.true_or, Bool.false_or, decide_true, decide_false, and_true, true_and, and_false, false_and, or_true, or_false, true_or, false_or, if_true, if_false, eqv_int, eqv_str, eqv_bool, shp_int, shp_bool, shp_non, toBools_map, Bool.and_self, eq_self, Bool.false_eq_true, reduceCtorEq, reduceIte, List.all_cons, List.all_nil, slotOf, List.replicate_zero, List.append_nil, List.replicate_succ]
    have ei : ((n : Int) + 1).toNat = n + 1 := by omega
    rw [ei] at w1
    exact h' _ w1
end K96
namespace K96
open PySem L2 DP
open DPK
theorem mxn_maxL : ∀ (l : List Int) (m : Int), l.foldl (fun m x => if m < x + 1 then x + 1 else m) (m + 1) = DP.maxL m l + 1
  | [], _ => rfl
  | x :: l, m => by
    rw [List.foldl_cons, DP.maxL]
    by_cases h : m < x
    · rw [if_pos (by omega), if_pos h, mxn_maxL l x]
    · rw [if_neg (by omega), if_neg h, mxn_maxL l m]
theorem mxn_cons {a : Int} {q : List Int} (h : 0 ≤ a) : mxn (a :: q) = DP.maxL a q + 1 := by
  unfold mxn
  rw [List.foldl_cons, if_pos (by omega), mxn_maxL]
theorem WN.at {n : Nat} {kvs : List (D × D)} (w : WN n kvs) {p : List Int} (hp : NN p) (hl2 : p.length ≤ n) :
    dlook kvs (.tuple [.int ((n : Int) - p.length), .int (mxn p - us p), .int (us p)]) = some (((fW n (n + 1) 0 (n + 1 : Nat)) (n - p.length) (mxn p - us p) (us p)).map .int) := WD.look w _ _ _
theorem WN.val {n : Nat} {p : List Int} (hp : NN p) (hl2 : p.length ≤ n) : ((fW n (n + 1) 0 (n + 1 : Nat)) ((n : Int) - p.length) (mxn p - us p) (us p)).getD 0 = ((Wp n p : Nat) : Int) := by
  have h0 := mxn_nn p
  have h1 := us_le hp
  have h2 := us_len p
  rw [show (n : Int) - (p.length : Int) = ((n - p.length : Nat) : Int) by omega, show mxn p - (us p : Int) = ((hl p : Nat) : Int) by unfold hl; omega, fW_d (by omega) (by omega)]
  rfl
theorem ways_with_ok {N n : Nat} {kvs : List (D × D)} {p : List Int} {ds : List D} {Q : R → Option OB → Prop} (hn : n ≤ 40) (w : WN n kvs) (hd : ds = p.map .int) (h0 : p ≠ []) (hp : NN p) (hl2 : p.length ≤ n) (h : Q (.v (.int (Wp n p : Nat))) none) :
    Wc (sm (N + 1)) "ways_with" [.v (.dict kvs), .v (.int n), .v (.tuple ds)] Q := by
  subst hd
  obtain ⟨a, q, rfl⟩ : ∃ a q, p = a :: q := by
    cases p with
    | nil => exact absurd rfl h0
    | cons a q => exact ⟨a, q, rfl⟩
  have ha := hp a List.mem_cons_self
  have em := mxn_cons (q := q) ha
  have e1 := WN.at w hp hl2
  have e2 := WN.val hp hl2
  have e3 : bi .max [.tuple ((a :: q).map PyData.int)] = some (.v (.int (DP.maxL a q))) := by
    show (match toInts ((a :: q).map PyData.int) with | some (n :: ns) => some (R.v (.int (maxL n ns))) | _ => none) = _
    rw [toInts_map]
  have el : ((((a :: q).map PyData.int).length : Nat) : Int) = ((a :: q).length : Int) := by rw [List.length_map]
  have e5 := toInts_map (a :: q)
  have q2 : ((a :: q).length < 4000) = True := eq_true (by omega)
  have q3 : ((a :: q).length ≤ n) = True := eq_true hl2
  generalize hds : (a :: q).map PyData.int = ds at e3 el e5
  generalize hpe : a :: q = p at *
  rw [em, ← el] at e1
  rw [em, ← el] at e2
  unfold us at e1 e2
  (refine Wc_ok pf_ways_with rfl ?_; unfold f_ways_with; dsimp only)
  try simp (config := {decide := true, dsimp := false}) only [Wxs_nil, Wxs_cons, Wx_asg, Wx_own, Wx_aug, Wx_seti, Wx_ex, Wx_ret, Wx_retN, Wx_brk, Wx_cnt, Wx_pass, Wx_ite, Wx_for, Wx_fit, We_var, We_mov, We_pk, We_int, We_str, We_bl, We_non, We_glob, We_bin, We_cmp, We_idx, We_neg, We_not, We_and, We_or, We_ife, We_chain, Wes_nil, Wes_cons, Wec_nil, Wec_cons, Wea_nil, Wea_cons, Wea_ref, Wea_lend, We_calll, Wei_rd, Wep_n, Wep_s, We_tup, We_lst, We_call, We_bi, We_meth, We_slc, We_lc, We_lc2, We_mx, We_rev, We_dnew, We_dsp, We_dget, Wx_setd, We_lsc, We_callv, fnN_fnD, Odd_b, Osk_b, obD_l, obD_d, dfl, Wei_zip, Old_b, Wei_seq, Wei_enum, Wei_r1, Wei_r2, Ov_some, Ov_none, Ov_if, Ov_map, Cnd_t, Cnd_f, Aft_n, Aft_s, Obo_b, Oi_b, Ofr_b, Od_b, Ol_b, Osd_b, Osb_b, Ore_v, Ore_f, Sq_nx, Sq_rt, Sq_bk, Sq_ct, Lt_n, Lt_b, Fn1_nx, Fn1_rv, Fn1_rf, Fin1_n, Fin1_s, TurnQ_nx, TurnQ_ct, TurnQ_bk, TurnQ_rt, toC_v, toC_f, toC_p, toV, argsOf, argsL, flatR, flatD, refs, asT, asTs, bo, co, DP.bi, ix, augD, DP.meth, DP.slice, optI, seqOf, DP.wipe, back, DP.free, isI, truth, toInts_map, DP.isNon, sm64_a, sm64_b, sm64_c, sm64_d, pow_a, at0, at1, at2, at3, List.getElem?_cons_zero, List.getElem?_cons_succ, List.getElem?_nil, List.set_cons_zero, List.set_cons_succ, List.mapM_cons, List.mapM_nil, Option.pure_def, Option.bind_eq_bind, Option.bind_some, Option.map_some, Option.map_none, Option.getD_some, Option.getD_none, Option.join_some, List.length_cons, List.length_nil, List.length_map, List.map_cons, List.map_nil, List.cons_append, List.nil_append, List.getD_cons_zero, List.getD_cons_succ, Nat.reduceAdd, Nat.reduceSub, Nat.reduceLeDiff, Nat.reduceLT, Int.reduceLT, Int.reduceLE, Int.reduceNeg, Int.reducePow, Nat.reduceMul, Int.reduceAdd, Int.reduceSub, Int.reduceMul, Int.reduceToNat, Bool.not_true, Bool.not_false, Bool.and_true, Bool.true_and, Bool.and_false, Bool.false_and, Bool.or_true, Bool.or_false, Bool.true_or, Bool.false_or, decide_true, decide_false, and_true, true_and, and_false, false_and, or_true, or_false, true_or, false_or, if_true, if_false, eqv_int, eqv_str, eqv_bool, shp_int, shp_bool, shp_non, toBools_map, Bool.and_self, eq_self, Bool.false_eq_true, reduceCtorEq, reduceIte, List.all_cons, List.all_nil, slotOf, List.replicate_zero, List.append_nil, List.replicate_succ, e5, q2]
  refine ⟨.v (.int (DP.maxL a q)), by rw [← hpe], ?_⟩
  try simp (config := {decide := true, dsimp := false}) only [Wxs_nil, Wxs_cons, Wx_asg, Wx_own, Wx_aug, Wx_seti, Wx_ex, Wx_ret, Wx_retN, Wx_brk, Wx_cnt, Wx_pass, Wx_ite, Wx_for, Wx_fit, We_var, We_mov, We_pk, We_int, We_str, We_bl, We_non, We_glob, We_bin, We_cmp, We_idx, We_neg, We_not, We_and, We_or, We_ife, We_chain, Wes_nil, Wes_cons, Wec_nil, Wec_cons, Wea_nil, Wea_cons, Wea_ref, Wea_lend, We_calll, Wei_rd, Wep_n, Wep_s, We_tup, We_lst, We_call, We_bi, We_meth, We_slc, We_lc, We_lc2, We_mx, We_rev, We_dnew, We_dsp, We_dget, Wx_setd, We_lsc, We_callv, fnN_fnD, Odd_b, Osk_b, obD_l, obD_d, dfl, Wei_zip, Old_b, Wei_seq, Wei_enum, Wei_r1, Wei_r2, Ov_some, Ov_none, Ov_if, Ov_map, Cnd_t, Cnd_f, Aft_n, Aft_s, Obo_b, Oi_b, Ofr_b, Od_b, Ol_b, Osd_b, Osb_b, Ore_v, Ore_f, Sq_nx, Sq_rt, Sq_bk, Sq_ct, Lt_n, Lt_b, Fn1_nx, Fn1_rv, Fn1_rf, Fin1_n, Fin1_s, TurnQ_nx, TurnQ_ct, TurnQ_bk, TurnQ_rt, toC_v, toC_f, toC_p, toV, argsOf, argsL, flatR, flatD, refs, asT, asTs, bo, co, DP.bi, ix, augD, DP.meth, DP.slice, optI, seqOf, DP.wipe, back, DP.free, isI, truth, toInts_map, DP.isNon, sm64_a, sm64_b, sm64_c, sm64_d, pow_a, at0, at1, at2, at3, List.getElem?_cons_zero, List.getElem?_cons_succ, List.getElem?_nil, List.set_cons_zero, List.set_cons_succ, List.mapM_cons, List.mapM_nil, Option.pure_def, Option.bind_eq_bind, Option.bind_some, Option.map_some, Option.map_none, Option.getD_some, Option.getD_none, Option.join_some, List.length_cons, List.length_nil, List.length_map, List.map_cons, List.map_nil, List.cons_append, List.nil_append, List.getD_cons_zero, List.getD_cons_succ, Nat.reduceAdd, Nat.reduceSub, Nat.reduceLeDiff, Nat.reduceLT, Int.reduceLT, Int.reduceLE, Int.reduceNeg, Int.reducePow, Nat.reduceMul, Int.reduceAdd, Int.reduceSub, Int.reduceMul, Int.reduceToNat, Bool.not_true, Bool.not_false, Bool.and_true, Bool.true_and, Bool.and_false, Bool.false_and, Bool.or_true, Bool.or_false, Bool.true_or, Bool.false_or, decide_true, decide_false, and_true, true_and, and_false, false_and, or_true, or_false, true_or, false_or, if_true, if_false, eqv_int, eqv_str, eqv_bool, shp_int, shp_bool, shp_non, toBools_map, Bool.and_self, eq_self, Bool.false_eq_true, reduceCtorEq, reduceIte, List.all_cons, List.all_nil, slotOf, List.replicate_zero, List.append_nil, List.replicate_succ, e1, gd_int, e2]
  exact h
end K96
namespace K96
open PySem L2 DP
open DPK
def ent0 (v : Int) : D := .tuple [.int 0, .int v]
theorem us_nil : us [] = 0 := rfl
theorem Wp_nil (n : Nat) : Wp n [] = W n 0 0 := rfl
theorem log_of_number_ok {N n x : Nat} {Q : R → Option OB → Prop} (hn : n ≤ 40) (hx : x < W n 0 0) (h : ∀ p, Row n p → numN n p = x → Q (.v (.tuple (p.map ent0))) none) : Wc (sm (N + 3)) "log_of_number" [.v (.int n), .v (.int x)] Q := by
  (refine Wc_ok pf_log_of_number rfl ?_; unfold f_log_of_number; dsimp only)
  try simp (config := {decide := true, dsimp := false}) only [Wxs_nil, Wxs_cons, Wx_asg, Wx_own, Wx_aug, Wx_seti, Wx_ex, Wx_ret, Wx_retN, Wx_brk, Wx_cnt, Wx_pass, Wx_ite, Wx_for, Wx_fit, We_var, We_mov, We_pk, We_int, We_str, We_bl, We_non, We_glob, We_bin, We_cmp, We_idx, We_neg, We_not, We_and, We_or, We_ife, We_chain, Wes_nil, Wes_cons, Wec_nil, Wec_cons, Wea_nil, Wea_cons, Wea_ref, Wea_lend, We_calll, Wei_rd, Wep_n, Wep_s, We_tup, We_lst, We_call, We_bi, We_meth, We_slc, We_lc, We_lc2, We_mx, We_rev, We_dnew, We_dsp, We_dget, Wx_setd, We_lsc, We_callv, fnN_fnD, Odd_b, Osk_b, obD_l, obD_d, dfl, Wei_zip, Old_b, Wei_seq, Wei_enum, Wei_r1, Wei_r2, Ov_some, Ov_none, Ov_if, Ov_map, Cnd_t, Cnd_f, Aft_n, Aft_s, Obo_b, Oi_b, Ofr_b, Od_b, Ol_b, Osd_b, Osb_b, Ore_v, Ore_f, Sq_nx, Sq_rt, Sq_bk, Sq_ct, Lt_n, Lt_b, Fn1_nx, Fn1_rv, Fn1_rf, Fin1_n, Fin1_s, TurnQ_nx, TurnQ_ct, TurnQ_bk, TurnQ_rt, toC_v, toC_f, toC_p, toV, argsOf, argsL, flatR, flatD, refs, asT, asTs, bo, co, DP.bi, ix, augD, DP.meth, DP.slice, optI, seqOf, DP.wipe, back, DP.free, isI, truth, toInts_map, DP.isNon, sm64_a, sm64_b, sm64_c, sm64_d, pow_a, at0, at1, at2, at3, List.getElem?_cons_zero, List.getElem?_cons_succ, List.getElem?_nil, List.set_cons_zero, List.set_cons_succ, List.mapM_cons, List.mapM_nil, Option.pure_def, Option.bind_eq_bind, Option.bind_some, Option.map_some, Option.map_none, Option.getD_some, Option.getD_none, Option.join_some, List.length_cons, List.length_nil, List.length_map, List.map_cons, List.map_nil, List.cons_append, List.nil_append, List.getD_cons_zero, List.getD_cons_succ, Nat.reduceAdd, Nat.reduceSub, Nat.reduceLeDiff, Nat.reduceLT, Int.reduceLT, Int.reduceLE, Int.reduceNeg, Int.reducePow, Nat.reduceMul, Int.reduceAdd, Int.reduceSub, Int.reduceMul, Int.reduceToNat, Bool.not_true, Bool.not_false, Bool.and_true, Bool.true_and, Bool.and_false, Bool.false_and, Bool.or_true, Bool.or_false, Bool.true_or, Bool.false_or, decide_true, decide_false, and_true, true_and, and_false, false_and, or_true, or_false, true_or, false_or, if_true, if_false, eqv_int, eqv_str, eqv_bool, shp_int, shp_bool, shp_non, toBools_map, Bool.and_self, eq_self, Bool.false_eq_true, reduceCtorEq, reduceIte, List.all_cons, List.all_nil, slotOf, List.replicate_zero, List.append_nil, List.replicate_succ]
  refine ways_of_ok hn fun kvs w => ?_
  try simp (config := {decide := true, dsimp := false}) only [Wxs_nil, Wxs_cons, Wx_asg, Wx_own, Wx_aug, Wx_seti, Wx_ex, Wx_ret, Wx_retN, Wx_brk, Wx_cnt, Wx_pass, Wx_ite, Wx_for, Wx_fit, We_var, We_mov, We_pk, We_int, We_str, We_bl, We_non, We_glob, We_bin, We_cmp, We_idx, We_neg, We_not, We_and, We_or, We_ife, We_chain, Wes_nil, Wes_cons, Wec_nil, Wec_cons, Wea_nil, Wea_cons, Wea_ref, Wea_lend, We_calll, Wei_rd, Wep_n, Wep_s, We_tup, We_lst, We_call, We_bi, We_meth, We_slc, We_lc, We_lc2, We_mx, We_rev, We_dnew, We_dsp, We_dget, Wx_setd, We_lsc, We_callv, fnN_fnD, Odd_b, Osk_b, obD_l, obD_d, dfl, Wei_zip, Old_b, Wei_seq, Wei_enum, Wei_r1, Wei_r2, Ov_some, Ov_none, Ov_if, Ov_map, Cnd_t, Cnd_f, Aft_n, Aft_s, Obo_b, Oi_b, Ofr_b, Od_b, Ol_b, Osd_b, Osb_b, Ore_v, Ore_f, Sq_nx, Sq_rt, Sq_bk, Sq_ct, Lt_n, Lt_b, Fn1_nx, Fn1_rv, Fn1_rf, Fin1_n, Fin1_s, TurnQ_nx, TurnQ_ct, TurnQ_bk, TurnQ_rt, toC_v, toC_f, toC_p, toV, argsOf, argsL, flatR, flatD, refs, asT, asTs, bo, co, DP.bi, ix, augD, DP.meth, DP.slice, optI, seqOf, DP.wipe, back, DP.free, isI, truth, toInts_map, DP.isNon, sm64_a, sm64_b, sm64_c, sm64_d, pow_a, at0, at1, at2, at3, List.getElem?_cons_zero, List.getElem?_cons_succ, List.getElem?_nil, List.set_cons_zero, List.set_cons_succ, List.mapM_cons, List.mapM_nil, Option.pure_def, Option.bind_eq_bind, Option.bind_some, Option.map_some, Option.map_none, Option.getD_some, Option.getD_none, Option.join_some, List.length_cons, List.length_nil, List.length_map, List.map_cons, List.map_nil, List.cons_append, List.nil_append, List.getD_cons_zero, List.getD_cons_succ, Nat.reduceAdd, Nat.reduceSub, Nat.reduceLeDiff, Nat.reduceLT, Int.reduceLT, Int.reduceLE, Int.reduceNeg, Int.reducePow, Nat.reduceMul, Int.reduceAdd, Int.reduceSub, Int.reduceMul, Int.reduceToNat, Bool.not_true, Bool.not_false, Bool.and_true, Bool.true_and, Bool.and_false, Bool.false_and, Bool.or_true, Bool.or_false, Bool.true_or, Bool.false_or, decide_true, decide_false, and_true, true_and, and_false, false_and, or_true, or_false, true_or, false_or, if_true, if_false, eqv_int, eqv_str, eqv_bool, shp_int, shp_bool, shp_non, toBools_map, Bool.and_self, eq_self, Bool.false_eq_true, reduceCtorEq, reduceIte, List.all_cons, List.all_nil, slotOf, List.replicate_zero, List.append_nil, List.replicate_succ]
  refine ⟨by simp [small62]; omega, ?_⟩
  refine For_ok (fun i ρ => ∃ p : List Int, ∃ s4 s5 : DP.Slot, (s5 = .un ∨ ∃ d, s5 = .v d) ∧ p.length = i ∧ NN p ∧ numN n p ≤ x ∧ x < numN n p + Wp n p ∧
    ρ = [.v (.int n), .v (.int ((x : Int) - numN n p)), .v (.dict kvs), .v (.tuple (p.map .int)), s4, s5]) ?_ ?_ ?_
  · exact ⟨[], _, _, .inl rfl, rfl, nofun, Nat.zero_le _, by rw [Wp_nil]; show x < 0 + _; omega, by rw [show numN n [] = 0 from rfl, show (x : Int) - ((0 : Nat) : Int) = x by omega]; rfl⟩
  · rintro i d ρ hi ⟨p, s4, s5, z5, hp1, hp2, k1, k2, rfl⟩
    obtain ⟨hi2, rfl⟩ := irange0_at hi
    have hi3 : p.length < n := by omega
    have q1 : (p.length + 1 ≤ sizeL) = True := eq_true (by unfold sizeL; omega)
    have e0 : ∀ v : Nat, p.map PyData.int ++ [.int (v : Int)] = (p ++ [(v : Int)]).map .int := fun v => by rw [List.map_append]; rfl
    have hmx : (mxn p).toNat ≤ n := by
      have u1 := us_len p
      by_cases l : n - p.length < hl p
      · unfold Wp at k2
        rw [W_hi l] at k2
        omega
      · unfold hl at l
        omega
    try simp (config := {decide := true, dsimp := false}) only [Wxs_nil, Wxs_cons, Wx_asg, Wx_own, Wx_aug, Wx_seti, Wx_ex, Wx_ret, Wx_retN, Wx_brk, Wx_cnt, Wx_pass, Wx_ite, Wx_for, Wx_fit, We_var, We_mov, We_pk, We_int, We_str, We_bl, We_non, We_glob, We_bin, We_cmp, We_idx, We_neg, We_not, We_and, We_or, We_ife, We_chain, Wes_nil, Wes_cons, Wec_nil, Wec_cons, Wea_nil, Wea_cons, Wea_ref, Wea_lend, We_calll, Wei_rd, Wep_n, Wep_s, We_tup, We_lst, We_call, We_bi, We_meth, We_slc, We_lc, We_lc2, We_mx, We_rev, We_dnew, We_dsp, We_dget, Wx_setd, We_lsc, We_callv, fnN_fnD, Odd_b, Osk_b, obD_l, obD_d, dfl, Wei_zip, Old_b, Wei_seq, Wei_enum, Wei_r1, Wei_r2, Ov_some, Ov_none, Ov_if, Ov_map, Cnd_t, Cnd_f, Aft_n, Aft_s, Obo_b, Oi_b, Ofr_b, Od_b, Ol_b, Osd_b, Osb_b, Ore_v, Ore_f, Sq_nx, Sq_rt, Sq_bk, Sq_ct, Lt_n, Lt_b, Fn1_nx, Fn1_rv, Fn1_rf, Fin1_n, Fin1_s, TurnQ_nx, TurnQ_ct, TurnQ_bk, TurnQ_rt, toC_v, toC_f, toC_p, toV, argsOf, argsL, flatR, flatD, refs, asT, asTs, bo, co, DP.bi, ix, augD, DP.meth, DP.slice, optI, seqOf, DP.wipe, back, DP.free, isI, truth, toInts_map, DP.isNon, sm64_a, sm64_b, sm64_c, sm64_d, pow_a, at0, at1, at2, at3, List.getElem?_cons_zero, List.getElem?_cons_succ, List.getElem?_nil, List.set_cons_zero, List.set_cons_succ, List.mapM_cons, List.mapM_nil, Option.pure_def, Option.bind_eq_bind, Option.bind_some, Option.map_some, Option.map_none, Option.getD_some, Option.getD_none, Option.join_some, List.length_cons, List.length_nil, List.length_map, List.map_cons, List.map_nil, List.cons_append, List.nil_append, List.getD_cons_zero, List.getD_cons_succ, Nat.reduceAdd, Nat.reduceSub, Nat.reduceLeDiff, Nat.reduceLT, Int.reduceLT, Int.reduceLE, Int.reduceNeg, Int.reducePow, Nat.reduceMul, Int.reduceAdd, Int.reduceSub, Int.reduceMul, Int.reduceToNat, Bool.not_true, Bool.not_false, Bool.and_true, Bool.true_and, Bool.and_false, Bool.false_and, Bool.or_true, Bool.or_false, Bool.true_or, Bool.false_or, decide_true, decide_false, and_true, true_and, and_false, false_and, or_true, or_false, true_or, false_or, if_true, if_false, eqv_int, eqv_str, eqv_bool, shp_int, shp_bool, shp_non, toBools_map, Bool.and_self, eq_self, Bool.false_eq_true, reduceCtorEq, reduceIte, List.all_cons, List.all_nil, slotOf, List.replicate_zero, List.append_nil, List.replicate_succ]
    refine Whl_ok (fun m ρ => ∃ v : Nat, v ≤ (mxn p).toNat + n ∧ m = (mxn p).toNat + n - v ∧ numN n p + cw n p v ≤ x ∧ ρ = [.v (.int n), .v (.int ((x : Int) - numN n p - cw n p v)), .v (.dict kvs), .v (.tuple (p.map .int)), .v (.int i), .v (.int v)])
      (n0 := (mxn p).toNat + n) ?_ ⟨0, Nat.zero_le _, rfl, k1, ?_⟩ ?_
    · unfold whlFuel; omega
    · rw [show cw n p 0 = 0 from rfl, show (x : Int) - numN n p - ((0 : Nat) : Int) = x - numN n p by omega]
      rfl
    · rintro m ρ ⟨v, l1, rfl, l2, rfl⟩
      have nv : NN (p ++ [(v : Int)]) := hp2.snoc (by omega)
      have lv : (p ++ [(v : Int)]).length ≤ n := by rw [List.length_append]; show _ + 1 ≤ n; omega
      have sv : cw n p (v + 1) = cw n p v + Wp n (p ++ [(v : Int)]) := rfl
      try simp (config := {decide := true, dsimp := false}) only [Wxs_nil, Wxs_cons, Wx_asg, Wx_own, Wx_aug, Wx_seti, Wx_ex, Wx_ret, Wx_retN, Wx_brk, Wx_cnt, Wx_pass, Wx_ite, Wx_for, Wx_fit, We_var, We_mov, We_pk, We_int, We_str, We_bl, We_non, We_glob, We_bin, We_cmp, We_idx, We_neg, We_not, We_and, We_or, We_ife, We_chain, Wes_nil, Wes_cons, Wec_nil, Wec_cons, Wea_nil, Wea_cons, Wea_ref, Wea_lend, We_calll, Wei_rd, Wep_n, Wep_s, We_tup, We_lst, We_call, We_bi, We_meth, We_slc, We_lc, We_lc2, We_mx, We_rev, We_dnew, We_dsp, We_dget, Wx_setd, We_lsc, We_callv, fnN_fnD, Odd_b, Osk_b, obD_l, obD_d, dfl, Wei_zip, Old_b, Wei_seq, Wei_enum, Wei_r1, Wei_r2, Ov_some, Ov_none, Ov_if, Ov_map, Cnd_t, Cnd_f, Aft_n, Aft_s, Obo_b, Oi_b, Ofr_b, Od_b, Ol_b, Osd_b, Osb_b, Ore_v, Ore_f, Sq_nx, Sq_rt, Sq_bk, Sq_ct, Lt_n, Lt_b, Fn1_nx, Fn1_rv, Fn1_rf, Fin1_n, Fin1_s, TurnQ_nx, TurnQ_ct, TurnQ_bk, TurnQ_rt, toC_v, toC_f, toC_p, toV, argsOf, argsL, flatR, flatD, refs, asT, asTs, bo, co, DP.bi, ix, augD, DP.meth, DP.slice, optI, seqOf, DP.wipe, back, DP.free, isI, truth, toInts_map, DP.isNon, sm64_a, sm64_b, sm64_c, sm64_d, pow_a, at0, at1, at2, at3, List.getElem?_cons_zero, List.getElem?_cons_succ, List.getElem?_nil, List.set_cons_zero, List.set_cons_succ, List.mapM_cons, List.mapM_nil, Option.pure_def, Option.bind_eq_bind, Option.bind_some, Option.map_some, Option.map_none, Option.getD_some, Option.getD_none, Option.join_some, List.length_cons, List.length_nil, List.length_map, List.map_cons, List.map_nil, List.cons_append, List.nil_append, List.getD_cons_zero, List.getD_cons_succ, Nat.reduceAdd, Nat.reduceSub, Nat.reduceLeDiff, Nat.reduceLT, Int.reduceLT, Int.reduceLE, Int.reduceNeg, Int.reducePow, Nat.reduceMul, Int.reduceAdd, Int.reduceSub, Int.reduceMul, Int.reduceToNat, Bool.not_true, Bool.not_false, Bool.and_true, Bool.true_and, Bool.and_false, Bool.false_and, Bool.or_true, Bool.or_false, Bool.true_or, Bool.false_or, decide_true, decide_false, and_true, true_and, and_false, false_and, or_true, or_false, true_or, false_or, if_true, if_false, eqv_int, eqv_str, eqv_bool, shp_int, shp_bool, shp_non, toBools_map, Bool.and_self, eq_self, Bool.false_eq_true, reduceCtorEq, reduceIte, List.all_cons, List.all_nil, slotOf, List.replicate_zero, List.append_nil, List.replicate_succ, q1]
      refine ways_with_ok hn w (e0 v) (by simp) nv lv ?_
      try simp (config := {decide := true, dsimp := false}) only [Wxs_nil, Wxs_cons, Wx_asg, Wx_own, Wx_aug, Wx_seti, Wx_ex, Wx_ret, Wx_retN, Wx_brk, Wx_cnt, Wx_pass, Wx_ite, Wx_for, Wx_fit, We_var, We_mov, We_pk, We_int, We_str, We_bl, We_non, We_glob, We_bin, We_cmp, We_idx, We_neg, We_not, We_and, We_or, We_ife, We_chain, Wes_nil, Wes_cons, Wec_nil, Wec_cons, Wea_nil, Wea_cons, Wea_ref, Wea_lend, We_calll, Wei_rd, Wep_n, Wep_s, We_tup, We_lst, We_call, We_bi, We_meth, We_slc, We_lc, We_lc2, We_mx, We_rev, We_dnew, We_dsp, We_dget, Wx_setd, We_lsc, We_callv, fnN_fnD, Odd_b, Osk_b, obD_l, obD_d, dfl, Wei_zip, Old_b, Wei_seq, Wei_enum, Wei_r1, Wei_r2, Ov_some, Ov_none, Ov_if, Ov_map, Cnd_t, Cnd_f, Aft_n, Aft_s, Obo_b, Oi_b, Ofr_b, Od_b, Ol_b, Osd_b, Osb_b, Ore_v, Ore_f, Sq_nx, Sq_rt, Sq_bk, Sq_ct, Lt_n, Lt_b, Fn1_nx, Fn1_rv, Fn1_rf, Fin1_n, Fin1_s, TurnQ_nx, TurnQ_ct, TurnQ_bk, TurnQ_rt, toC_v, toC_f, toC_p, toV, argsOf, argsL, flatR, flatD, refs, asT, asTs, bo, co, DP.bi, ix, augD, DP.meth, DP.slice, optI, seqOf, DP.wipe, back, DP.free, isI, truth, toInts_map, DP.isNon, sm64_a, sm64_b, sm64_c, sm64_d, pow_a, at0, at1, at2, at3, List.getElem?_cons_zero, List.getElem?_cons_succ, List.getElem?_nil, List.set_cons_zero, List.set_cons_succ, List.mapM_cons, List.mapM_nil, Option.pure_def, Option.bind_eq_bind, Option.bind_some, Option.map_some, Option.map_none, Option.getD_some, Option.getD_none, Option.join_some, List.length_cons, List.length_nil, List.length_map, List.map_cons, List.map_nil, List.cons_append, List.nil_append, List.getD_cons_zero, List.getD_cons_succ, Nat.reduceAdd, Nat.reduceSub, Nat.reduceLeDiff, Nat.reduceLT, Int.reduceLT, Int.reduceLE, Int.reduceNeg, Int.reducePow, Nat.reduceMul, Int.reduceAdd, Int.reduceSub, Int.reduceMul, Int.reduceToNat, Bool.not_true, Bool.not_false, Bool.and_true, Bool.true_and, Bool.and_false, Bool.false_and, Bool.or_true, Bool.or_false, Bool.true_or, Bool.false_or, decide_true, decide_false, and_true, true_and, and_false, false_and, or_true, or_false, true_or, false_or, if_true, if_false, eqv_int, eqv_str, eqv_bool, shp_int, shp_bool, shp_non, toBools_map, Bool.and_self, eq_self, Bool.false_eq_true, reduceCtorEq, reduceIte, List.all_cons, List.all_nil, slotOf, List.replicate_zero, List.append_nil, List.replicate_succ]
      refine Cnd_p (fun c => ?_) fun c => ?_
      · try simp (config := {decide := true, dsimp := false}) only [Wxs_nil, Wxs_cons, Wx_asg, Wx_own, Wx_aug, Wx_seti, Wx_ex, Wx_ret, Wx_retN, Wx_brk, Wx_cnt, Wx_pass, Wx_ite, Wx_for, Wx_fit, We_var, We_mov, We_pk, We_int, We_str, We_bl, We_non, We_glob, We_bin, We_cmp, We_idx, We_neg, We_not, We_and, We_or, We_ife, We_chain, Wes_nil, Wes_cons, Wec_nil, Wec_cons, Wea_nil, Wea_cons, Wea_ref, Wea_lend, We_calll, Wei_rd, Wep_n, Wep_s, We_tup, We_lst, We_call, We_bi, We_meth, We_slc, We_lc, We_lc2, We_mx, We_rev, We_dnew, We_dsp, We_dget, Wx_setd, We_lsc, We_callv, fnN_fnD, Odd_b, Osk_b, obD_l, obD_d, dfl, Wei_zip, Old_b, Wei_seq, Wei_enum, Wei_r1, Wei_r2, Ov_some, Ov_none, Ov_if, Ov_map, Cnd_t, Cnd_f, Aft_n, Aft_s, Obo_b, Oi_b, Ofr_b, Od_b, Ol_b, Osd_b, Osb_b, Ore_v, Ore_f, Sq_nx, Sq_rt, Sq_bk, Sq_ct, Lt_n, Lt_b, Fn1_nx, Fn1_rv, Fn1_rf, Fin1_n, Fin1_s, TurnQ_nx, TurnQ_ct, TurnQ_bk, TurnQ_rt, toC_v, toC_f, toC_p, toV, argsOf, argsL, flatR, flatD, refs, asT, asTs, bo, co, DP.bi, ix, augD, DP.meth, DP.slice, optI, seqOf, DP.wipe, back, DP.free, isI, truth, toInts_map, DP.isNon, sm64_a, sm64_b, sm64_c, sm64_d, pow_a, at0, at1, at2, at3, List.getElem?_cons_zero, List.getElem?_cons_succ, List.getElem?_nil, List.set_cons_zero, List.set_cons_succ, List.mapM_cons, List.mapM_nil, Option.pure_def, Option.bind_eq_bind, Option.bind_some, Option.map_some, Option.map_none, Option.getD_some, Option.getD_none, Option.join_some, List.length_cons, List.length_nil, List.length_map, List.map_cons, List.map_nil, List.cons_append, List.nil_append, List.getD_cons_zero, List.getD_cons_succ, Nat.reduceAdd, Nat.reduceSub, Nat.reduceLeDiff, Nat.reduceLT, Int.reduceLT, Int.reduceLE, Int.reduceNeg, Int.reducePow, Nat.reduceMul, Int.reduceAdd, Int.reduceSub, Int.reduceMul, Int.reduceToNat, Bool.not_true, Bool.not_false, Bool.and_true, Bool.true_and, Bool.and_false, Bool.false_and, Bool.or_true, Bool.or_false, Bool.true_or, Bool.false_or, decide_true, decide_false, and_true, true_and, and_false, false_and, or_true, or_false, true_or, false_or, if_true, if_false, eqv_int, eqv_str, eqv_bool, shp_int, shp_bool, shp_non, toBools_map, Bool.and_self, eq_self, Bool.false_eq_true, reduceCtorEq, reduceIte, List.all_cons, List.all_nil, slotOf, List.replicate_zero, List.append_nil, List.replicate_succ, q1]
        refine ⟨(mxn p).toNat + n - (v + 1), ?_, ?_⟩
        · have := cw_all (n := n) hp2 hi3 (Nat.le_refl _)
          have h3 : v ≠ (mxn p).toNat + n := fun z => by
            rw [← z] at this
            omega
          omega
        refine ways_with_ok hn w (e0 v) (by simp) nv lv ?_
        try simp (config := {decide := true, dsimp := false}) only [Wxs_nil, Wxs_cons, Wx_asg, Wx_own, Wx_aug, Wx_seti, Wx_ex, Wx_ret, Wx_retN, Wx_brk, Wx_cnt, Wx_pass, Wx_ite, Wx_for, Wx_fit, We_var, We_mov, We_pk, We_int, We_str, We_bl, We_non, We_glob, We_bin, We_cmp, We_idx, We_neg, We_not, We_and, We_or, We_ife, We_chain, Wes_nil, Wes_cons, Wec_nil, Wec_cons, Wea_nil, Wea_cons, Wea_ref, Wea_lend, We_calll, Wei_rd, Wep_n, Wep_s, We_tup, We_lst, We_call, We_bi, We_meth, We_slc, We_lc, We_lc2, We_mx, We_rev, We_dnew, We_dsp, We_dget, Wx_setd, We_lsc, We_callv, fnN_fnD, Odd_b, Osk_b, obD_l, obD_d, dfl, Wei_zip, Old_b, Wei_seq, Wei_enum, Wei_r1, Wei_r2, Ov_some, Ov_none, Ov_if, Ov_map, Cnd_t, Cnd_f, Aft_n, Aft_s, Obo_b, Oi_b, Ofr_b, Od_b, Ol_b, Osd_b, Osb_b, Ore_v, Ore_f, Sq_nx, Sq_rt, Sq_bk, Sq_ct, Lt_n, Lt_b, Fn1_nx, Fn1_rv, Fn1_rf, Fin1_n, Fin1_s, TurnQ_nx, TurnQ_ct, TurnQ_bk, TurnQ_rt, toC_v, toC_f, toC_p, toV, argsOf, argsL, flatR, flatD, refs, asT, asTs, bo, co, DP.bi, ix, augD, DP.meth, DP.slice, optI, seqOf, DP.wipe, back, DP.free, isI, truth, toInts_map, DP.isNon, sm64_a, sm64_b, sm64_c, sm64_d, pow_a, at0, at1, at2, at3, List.getElem?_cons_zero, List.getElem?_cons_succ, List.getElem?_nil, List.set_cons_zero, List.set_cons_succ, List.mapM_cons, List.mapM_nil, Option.pure_def, Option.bind_eq_bind, Option.bind_some, Option.map_some, Option.map_none, Option.getD_some, Option.getD_none, Option.join_some, List.length_cons, List.length_nil, List.length_map, List.map_cons, List.map_nil, List.cons_append, List.nil_append, List.getD_cons_zero, List.getD_cons_succ, Nat.reduceAdd, Nat.reduceSub, Nat.reduceLeDiff, Nat.reduceLT, Int.reduceLT, Int.reduceLE, Int.reduceNeg, Int.reducePow, Nat.reduceMul, Int.reduceAdd, Int.reduceSub, Int.reduceMul, Int.reduceToNat, Bool.not_true, Bool.not_false, Bool.and_true, Bool.true_and, Bool.and_false, Bool.false_and, Bool.or_true, Bool.or_false, Bool.true_or, Bool.false_or, decide_true, decide_false, and_true, true_and, and_false, false_and, or_true, or_false, true_or, false_or, if_true, if_false, eqv_int, eqv_str, eqv_bool, shp_int, shp_bool, shp_non, toBools_map, Bool.and_self, eq_self, Bool.false_eq_true, reduceCtorEq, reduceIte, List.all_cons, List.all_nil, slotOf, List.replicate_zero, List.append_nil, List.replicate_succ]
        refine ⟨v + 1, ?_, rfl, by omega, ?_⟩
        · have := cw_all (n := n) hp2 hi3 (Nat.le_refl _)
          have h3 : v ≠ (mxn p).toNat + n := fun z => by
            rw [← z] at this
            omega
          omega
        · rw [show (x : Int) - (numN n p : Int) - ((cw n p (v + 1) : Nat) : Int) = x - numN n p - cw n p v - (Wp n (p ++ [(v : Int)]) : Nat) by omega, show ((v + 1 : Nat) : Int) = (v : Int) + 1 by omega]
      · try simp (config := {decide := true, dsimp := false}) only [Wxs_nil, Wxs_cons, Wx_asg, Wx_own, Wx_aug, Wx_seti, Wx_ex, Wx_ret, Wx_retN, Wx_brk, Wx_cnt, Wx_pass, Wx_ite, Wx_for, Wx_fit, We_var, We_mov, We_pk, We_int, We_str, We_bl, We_non, We_glob, We_bin, We_cmp, We_idx, We_neg, We_not, We_and, We_or, We_ife, We_chain, Wes_nil, Wes_cons, Wec_nil, Wec_cons, Wea_nil, Wea_cons, Wea_ref, Wea_lend, We_calll, Wei_rd, Wep_n, Wep_s, We_tup, We_lst, We_call, We_bi, We_meth, We_slc, We_lc, We_lc2, We_mx, We_rev, We_dnew, We_dsp, We_dget, Wx_setd, We_lsc, We_callv, fnN_fnD, Odd_b, Osk_b, obD_l, obD_d, dfl, Wei_zip, Old_b, Wei_seq, Wei_enum, Wei_r1, Wei_r2, Ov_some, Ov_none, Ov_if, Ov_map, Cnd_t, Cnd_f, Aft_n, Aft_s, Obo_b, Oi_b, Ofr_b, Od_b, Ol_b, Osd_b, Osb_b, Ore_v, Ore_f, Sq_nx, Sq_rt, Sq_bk, Sq_ct, Lt_n, Lt_b, Fn1_nx, Fn1_rv, Fn1_rf, Fin1_n, Fin1_s, TurnQ_nx, TurnQ_ct, TurnQ_bk, TurnQ_rt, toC_v, toC_f, toC_p, toV, argsOf, argsL, flatR, flatD, refs, asT, asTs, bo, co, DP.bi, ix, augD, DP.meth, DP.slice, optI, seqOf, DP.wipe, back, DP.free, isI, truth, toInts_map, DP.isNon, sm64_a, sm64_b, sm64_c, sm64_d, pow_a, at0, at1, at2, at3, List.getElem?_cons_zero, List.getElem?_cons_succ, List.getElem?_nil, List.set_cons_zero, List.set_cons_succ, List.mapM_cons, List.mapM_nil, Option.pure_def, Option.bind_eq_bind, Option.bind_some, Option.map_some, Option.map_none, Option.getD_some, Option.getD_none, Option.join_some, List.length_cons, List.length_nil, List.length_map, List.map_cons, List.map_nil, List.cons_append, List.nil_append, List.getD_cons_zero, List.getD_cons_succ, Nat.reduceAdd, Nat.reduceSub, Nat.reduceLeDiff, Nat.reduceLT, Int.reduceLT, Int.reduceLE, Int.reduceNeg, Int.reducePow, Nat.reduceMul, Int.reduceAdd, Int.reduceSub, Int.reduceMul, Int.reduceToNat, Bool.not_true, Bool.not_false, Bool.and_true, Bool.true_and, Bool.and_false, Bool.false_and, Bool.or_true, Bool.or_false, Bool.true_or, Bool.false_or, decide_true, decide_false, and_true, true_and, and_false, false_and, or_true, or_false, true_or, false_or, if_true, if_false, eqv_int, eqv_str, eqv_bool, shp_int, shp_bool, shp_non, toBools_map, Bool.and_self, eq_self, Bool.false_eq_true, reduceCtorEq, reduceIte, List.all_cons, List.all_nil, slotOf, List.replicate_zero, List.append_nil, List.replicate_succ, q1]
        have en : numN n (p ++ [(v : Int)]) = numN n p + cw n p v := by rw [numN_snoc]; rfl
        refine ⟨p ++ [(v : Int)], .v (.int i), .v (.int v), .inr ⟨_, rfl⟩, by rw [List.length_append, hp1]; rfl, nv, by omega, by omega, ?_⟩
        rw [e0, show (x : Int) - ((numN n (p ++ [(v : Int)]) : Nat) : Int) = x - numN n p - cw n p v by omega]
  · rintro ρ ⟨p, s4, s5, z5, hp1, hp2, k1, k2, rfl⟩
    rw [irange_len, Int.toNat_natCast] at hp1
    have row : Row n p := by
      refine ⟨hp1, hp2, ?_⟩
      rw [Wp_row hp1] at k2
      split at k2
      · assumption
      · omega
    have ex : numN n p = x := by
      rw [Wp_row hp1, if_pos row.full] at k2
      omega
    have fin := h p row ex
    have sl : (p.map ent0).length ≤ sizeL := by rw [List.length_map]; unfold sizeL; omega
    rcases z5 with rfl | ⟨d5, rfl⟩
    all_goals
      try simp (config := {decide := true, dsimp := false}) only [Wxs_nil, Wxs_cons, Wx_asg, Wx_own, Wx_aug, Wx_seti, Wx_ex, Wx_ret, Wx_retN, Wx_brk, Wx_cnt, Wx_pass, Wx_ite, Wx_for, Wx_fit, We_var, We_mov, We_pk, We_int, We_str, We_bl, We_non, We_glob, We_bin, We_cmp, We_idx, We_neg, We_not, We_and, We_or, We_ife, We_chain, Wes_nil, Wes_cons, Wec_nil, Wec_cons, Wea_nil, Wea_cons, Wea_ref, Wea_lend, We_calll, Wei_rd, Wep_n, Wep_s, We_tup, We_lst, We_call, We_bi, We_meth, We_slc, We_lc, We_lc2, We_mx, We_rev, We_dnew, We_dsp, We_dget, Wx_setd, We_lsc, We_callv, fnN_fnD, Odd_b, Osk_b, obD_l, obD_d, dfl, Wei_zip, Old_b, Wei_seq, Wei_enum, Wei_r1, Wei_r2, Ov_some, Ov_none, Ov_if, Ov_map, Cnd_t, Cnd_f, Aft_n, Aft_s, Obo_b, Oi_b, Ofr_b, Od_b, Ol_b, Osd_b, Osb_b, Ore_v, Ore_f, Sq_nx, Sq_rt, Sq_bk, Sq_ct, Lt_n, Lt_b, Fn1_nx, Fn1_rv, Fn1_rf, Fin1_n, Fin1_s, TurnQ_nx, TurnQ_ct, TurnQ_bk, TurnQ_rt, toC_v, toC_f, toC_p, toV, argsOf, argsL, flatR, flatD, refs, asT, asTs, bo, co, DP.bi, ix, augD, DP.meth, DP.slice, optI, seqOf, DP.wipe, back, DP.free, isI, truth, toInts_map, DP.isNon, sm64_a, sm64_b, sm64_c, sm64_d, pow_a, at0, at1, at2, at3, List.getElem?_cons_zero, List.getElem?_cons_succ, List.getElem?_nil, List.set_cons_zero, List.set_cons_succ, List.mapM_cons, List.mapM_nil, Option.pure_def, Option.bind_eq_bind, Option.bind_some, Option.map_some, Option.map_none, Option.getD_some, Option.getD_none, Option.join_some, List.length_cons, List.length_nil, List.length_map, List.map_cons, List.map_nil, List.cons_append, List.nil_append, List.getD_cons_zero, List.getD_cons_succ, Nat.reduceAdd, Nat.reduceSub, Nat.reduceLeDiff, Nat.reduceLT, Int.reduceLT, Int.reduceLE, Int.reduceNeg, Int.reducePow, Nat.reduceMul, Int.reduceAdd, Int.reduceSub, Int.reduceMul, Int.reduceToNat, Bool.not_true, Bool.not_false, Bool.and_true, Bool.true_and, Bool.and_false, Bool.false_and, Bool.or_true, Bool.or_false, Bool.true_or, Bool.false_or, decide_true, decide_false, and_true, true_and, and_false, false_and, or_true, or_false, true_or, false_or, if_true, if_false, eqv_int, eqv_str, eqv_bool, shp_int, shp_bool, shp_non, toBools_map, Bool.and_self, eq_self, Bool.false_eq_true, reduceCtorEq, reduceIte, List.all_cons, List.all_nil, slotOf, List.replicate_zero, List.append_nil, List.replicate_succ]
      refine Lc_ok (fun i ys ρ => ∃ s5, ys = (p.take i).map ent0 ∧ ρ = [.v (.int n), .v (.int ((x : Int) - numN n p)), .v (.dict kvs), .v (.tuple (p.map .int)), s4, s5]) (by rw [List.length_map]; unfold sizeL; omega) rfl ⟨_, rfl, rfl⟩ ?_ ?_
      · rintro i d ys ρ hi ⟨s5, rfl, rfl⟩
        rw [List.getElem?_map] at hi
        obtain ⟨y, hy, rfl⟩ := Option.map_eq_some_iff.mp hi
        try simp (config := {decide := true, dsimp := false}) only [Wxs_nil, Wxs_cons, Wx_asg, Wx_own, Wx_aug, Wx_seti, Wx_ex, Wx_ret, Wx_retN, Wx_brk, Wx_cnt, Wx_pass, Wx_ite, Wx_for, Wx_fit, We_var, We_mov, We_pk, We_int, We_str, We_bl, We_non, We_glob, We_bin, We_cmp, We_idx, We_neg, We_not, We_and, We_or, We_ife, We_chain, Wes_nil, Wes_cons, Wec_nil, Wec_cons, Wea_nil, Wea_cons, Wea_ref, Wea_lend, We_calll, Wei_rd, Wep_n, Wep_s, We_tup, We_lst, We_call, We_bi, We_meth, We_slc, We_lc, We_lc2, We_mx, We_rev, We_dnew, We_dsp, We_dget, Wx_setd, We_lsc, We_callv, fnN_fnD, Odd_b, Osk_b, obD_l, obD_d, dfl, Wei_zip, Old_b, Wei_seq, Wei_enum, Wei_r1, Wei_r2, Ov_some, Ov_none, Ov_if, Ov_map, Cnd_t, Cnd_f, Aft_n, Aft_s, Obo_b, Oi_b, Ofr_b, Od_b, Ol_b, Osd_b, Osb_b, Ore_v, Ore_f, Sq_nx, Sq_rt, Sq_bk, Sq_ct, Lt_n, Lt_b, Fn1_nx, Fn1_rv, Fn1_rf, Fin1_n, Fin1_s, TurnQ_nx, TurnQ_ct, TurnQ_bk, TurnQ_rt, toC_v, toC_f, toC_p, toV, argsOf, argsL, flatR, flatD, refs, asT, asTs, bo, co, DP.bi, ix, augD, DP.meth, DP.slice, optI, seqOf, DP.wipe, back, DP.free, isI, truth, toInts_map, DP.isNon, sm64_a, sm64_b, sm64_c, sm64_d, pow_a, at0, at1, at2, at3, List.getElem?_cons_zero, List.getElem?_cons_succ, List.getElem?_nil, List.set_cons_zero, List.set_cons_succ, List.mapM_cons, List.mapM_nil, Option.pure_def, Option.bind_eq_bind, Option.bind_some, Option.map_some, Option.map_none, Option.getD_some, Option.getD_none, Option.join_some, List.length_cons, List.length_nil, List.length_map, List.map_cons, List.map_nil, List.cons_append, List.nil_append, List.getD_cons_zero, List.getD_cons_succ, Nat.reduceAdd, Nat.reduceSub, Nat.reduceLeDiff, Nat.reduceLT, Int.reduceLT, Int.reduceLE, Int.reduceNeg, Int.reducePow, Nat.reduceMul, Int.reduceAdd, Int.reduceSub, Int.reduceMul, Int.reduceToNat, Bool.not_true, Bool.not_false, Bool.and_true, Bool.true_and, Bool.and_false, Bool.false_and, Bool.or_true, Bool.or_false, Bool.true_or, Bool.false_or, decide_true, decide_false, and_true, true_and, and_false, false_and, or_true, or_false, true_or, false_or, if_true, if_false, eqv_int, eqv_str, eqv_bool, shp_int, shp_bool, shp_non, toBools_map, Bool.and_self, eq_self, Bool.false_eq_true, reduceCtorEq, reduceIte, List.all_cons, List.all_nil, slotOf, List.replicate_zero, List.append_nil, List.replicate_succ]
        exact ⟨_, by rw [take_snoc hy, List.map_append]; rfl, rfl⟩
      · rintro ys ρe ⟨s5, rfl, rfl⟩
        rw [List.length_map, List.take_length]
        try simp (config := {decide := true, dsimp := false}) only [Wxs_nil, Wxs_cons, Wx_asg, Wx_own, Wx_aug, Wx_seti, Wx_ex, Wx_ret, Wx_retN, Wx_brk, Wx_cnt, Wx_pass, Wx_ite, Wx_for, Wx_fit, We_var, We_mov, We_pk, We_int, We_str, We_bl, We_non, We_glob, We_bin, We_cmp, We_idx, We_neg, We_not, We_and, We_or, We_ife, We_chain, Wes_nil, Wes_cons, Wec_nil, Wec_cons, Wea_nil, Wea_cons, Wea_ref, Wea_lend, We_calll, Wei_rd, Wep_n, Wep_s, We_tup, We_lst, We_call, We_bi, We_meth, We_slc, We_lc, We_lc2, We_mx, We_rev, We_dnew, We_dsp, We_dget, Wx_setd, We_lsc, We_callv, fnN_fnD, Odd_b, Osk_b, obD_l, obD_d, dfl, Wei_zip, Old_b, Wei_seq, Wei_enum, Wei_r1, Wei_r2, Ov_some, Ov_none, Ov_if, Ov_map, Cnd_t, Cnd_f, Aft_n, Aft_s, Obo_b, Oi_b, Ofr_b, Od_b, Ol_b, Osd_b, Osb_b, Ore_v, Ore_f, Sq_nx, Sq_rt, Sq_bk, Sq_ct, Lt_n, Lt_b, Fn1_nx, Fn1_rv, Fn1_rf, Fin1_n, Fin1_s, TurnQ_nx, TurnQ_ct, TurnQ_bk, TurnQ_rt, toC_v, toC_f, toC_p, toV, argsOf, argsL, flatR, flatD, refs, asT, asTs, bo, co, DP.bi, ix, augD, DP.meth, DP.slice, optI, seqOf, DP.wipe, back, DP.free, isI, truth, toInts_map, DP.isNon, sm64_a, sm64_b, sm64_c, sm64_d, pow_a, at0, at1, at2, at3, List.getElem?_cons_zero, List.getElem?_cons_succ, List.getElem?_nil, List.set_cons_zero, List.set_cons_succ, List.mapM_cons, List.mapM_nil, Option.pure_def, Option.bind_eq_bind, Option.bind_some, Option.map_some, Option.map_none, Option.getD_some, Option.getD_none, Option.join_some, List.length_cons, List.length_nil, List.length_map, List.map_cons, List.map_nil, List.cons_append, List.nil_append, List.getD_cons_zero, List.getD_cons_succ, Nat.reduceAdd, Nat.reduceSub, Nat.reduceLeDiff, Nat.reduceLT, Int.reduceLT, Int.reduceLE, Int.reduceNeg, Int.reducePow, Nat.reduceMul, Int.reduceAdd, Int.reduceSub, Int.reduceMul, Int.reduceToNat, Bool.not_true, Bool.not_false, Bool.and_true, Bool.true_and, Bool.and_false, Bool.false_and, Bool.or_true, Bool.or_false, Bool.true_or, Bool.false_or, decide_true, decide_false, and_true, true_and, and_false, false_and, or_true, or_false, true_or, false_or, if_true, if_false, eqv_int, eqv_str, eqv_bool, shp_int, shp_bool, shp_non, toBools_map, Bool.and_self, eq_self, Bool.false_eq_true, reduceCtorEq, reduceIte, List.all_cons, List.all_nil, slotOf, List.replicate_zero, List.append_nil, List.replicate_succ]
        exact fin
theorem entD_un (v : Int) : ent0 v = .tuple [.int 0, .int v] := rfl
theorem enum_at' {cs : List D} {i : Nat} {d : D} (h : (enumD 0 cs)[i]? = some d) : ∃ c, cs[i]? = some c ∧ d = .tuple [.int i, c] := by
  have hi : i < cs.length := by
    have := (List.getElem?_eq_some_iff.mp h).1
    rwa [enumD_len] at this
  have e := enumD_get cs 0 i cs[i] (List.getElem?_eq_getElem hi)
  rw [h, Nat.zero_add] at e
  exact ⟨cs[i], List.getElem?_eq_getElem hi, Option.some.inj e⟩
theorem number_of_log_ok {N n : Nat} {p : List Int} {Q : R → Option OB → Prop} (hn : n ≤ 40) (hp : Row n p) (h : Q (.v (.int (numN n p : Nat))) none) : Wc (sm (N + 3)) "number_of_log" [.v (.tuple (p.map ent0))] Q := by
  have hlen := hp.len
  have row_mx : mxn p ≤ n := by
    have := hp.full
    have u1 := us_len p
    unfold hl at this
    omega
  (refine Wc_ok pf_number_of_log rfl ?_; unfold f_number_of_log; dsimp only)
  try simp (config := {decide := true, dsimp := false}) only [Wxs_nil, Wxs_cons, Wx_asg, Wx_own, Wx_aug, Wx_seti, Wx_ex, Wx_ret, Wx_retN, Wx_brk, Wx_cnt, Wx_pass, Wx_ite, Wx_for, Wx_fit, We_var, We_mov, We_pk, We_int, We_str, We_bl, We_non, We_glob, We_bin, We_cmp, We_idx, We_neg, We_not, We_and, We_or, We_ife, We_chain, Wes_nil, Wes_cons, Wec_nil, Wec_cons, Wea_nil, Wea_cons, Wea_ref, Wea_lend, We_calll, Wei_rd, Wep_n, Wep_s, We_tup, We_lst, We_call, We_bi, We_meth, We_slc, We_lc, We_lc2, We_mx, We_rev, We_dnew, We_dsp, We_dget, Wx_setd, We_lsc, We_callv, fnN_fnD, Odd_b, Osk_b, obD_l, obD_d, dfl, Wei_zip, Old_b, Wei_seq, Wei_enum, Wei_r1, Wei_r2, Ov_some, Ov_none, Ov_if, Ov_map, Cnd_t, Cnd_f, Aft_n, Aft_s, Obo_b, Oi_b, Ofr_b, Od_b, Ol_b, Osd_b, Osb_b, Ore_v, Ore_f, Sq_nx, Sq_rt, Sq_bk, Sq_ct, Lt_n, Lt_b, Fn1_nx, Fn1_rv, Fn1_rf, Fin1_n, Fin1_s, TurnQ_nx, TurnQ_ct, TurnQ_bk, TurnQ_rt, toC_v, toC_f, toC_p, toV, argsOf, argsL, flatR, flatD, refs, asT, asTs, bo, co, DP.bi, ix, augD, DP.meth, DP.slice, optI, seqOf, DP.wipe, back, DP.free, isI, truth, toInts_map, DP.isNon, sm64_a, sm64_b, sm64_c, sm64_d, pow_a, at0, at1, at2, at3, List.getElem?_cons_zero, List.getElem?_cons_succ, List.getElem?_nil, List.set_cons_zero, List.set_cons_succ, List.mapM_cons, List.mapM_nil, Option.pure_def, Option.bind_eq_bind, Option.bind_some, Option.map_some, Option.map_none, Option.getD_some, Option.getD_none, Option.join_some, List.length_cons, List.length_nil, List.length_map, List.map_cons, List.map_nil, List.cons_append, List.nil_append, List.getD_cons_zero, List.getD_cons_succ, Nat.reduceAdd, Nat.reduceSub, Nat.reduceLeDiff, Nat.reduceLT, Int.reduceLT, Int.reduceLE, Int.reduceNeg, Int.reducePow, Nat.reduceMul, Int.reduceAdd, Int.reduceSub, Int.reduceMul, Int.reduceToNat, Bool.not_true, Bool.not_false, Bool.and_true, Bool.true_and, Bool.and_false, Bool.false_and, Bool.or_true, Bool.or_false, Bool.true_or, Bool.false_or, decide_true, decide_false, and_true, true_and, and_false, false_and, or_true, or_false, true_or, false_or, if_true, if_false, eqv_int, eqv_str, eqv_bool, shp_int, shp_bool, shp_non, toBools_map, Bool.and_self, eq_self, Bool.false_eq_true, reduceCtorEq, reduceIte, List.all_cons, List.all_nil, slotOf, List.replicate_zero, List.append_nil, List.replicate_succ]
  refine Lc_ok (fun i ys ρ => ∃ s5 s7 : DP.Slot, (s5 = .un ∨ ∃ d, s5 = .v d) ∧ ys = (p.take i).map .int ∧ ρ = [.v (.tuple (p.map ent0)), .un, .un, .un, .un, s5, .un, s7]) (by rw [List.length_map]; unfold sizeL; omega) rfl ⟨_, _, .inl rfl, rfl, rfl⟩ ?_ ?_
  · rintro i d ys ρ hi ⟨s5, s7, _, rfl, rfl⟩
    rw [List.getElem?_map] at hi
    obtain ⟨y, hy, rfl⟩ := Option.map_eq_some_iff.mp hi
    unfold ent0
    try simp (config := {decide := true, dsimp := false}) only [Wxs_nil, Wxs_cons, Wx_asg, Wx_own, Wx_aug, Wx_seti, Wx_ex, Wx_ret, Wx_retN, Wx_brk, Wx_cnt, Wx_pass, Wx_ite, Wx_for, Wx_fit, We_var, We_mov, We_pk, We_int, We_str, We_bl, We_non, We_glob, We_bin, We_cmp, We_idx, We_neg, We_not, We_and, We_or, We_ife, We_chain, Wes_nil, Wes_cons, Wec_nil, Wec_cons, Wea_nil, Wea_cons, Wea_ref, Wea_lend, We_calll, Wei_rd, Wep_n, Wep_s, We_tup, We_lst, We_call, We_bi, We_meth, We_slc, We_lc, We_lc2, We_mx, We_rev, We_dnew, We_dsp, We_dget, Wx_setd, We_lsc, We_callv, fnN_fnD, Odd_b, Osk_b, obD_l, obD_d, dfl, Wei_zip, Old_b, Wei_seq, Wei_enum, Wei_r1, Wei_r2, Ov_some, Ov_none, Ov_if, Ov_map, Cnd_t, Cnd_f, Aft_n, Aft_s, Obo_b, Oi_b, Ofr_b, Od_b, Ol_b, Osd_b, Osb_b, Ore_v, Ore_f, Sq_nx, Sq_rt, Sq_bk, Sq_ct, Lt_n, Lt_b, Fn1_nx, Fn1_rv, Fn1_rf, Fin1_n, Fin1_s, TurnQ_nx, TurnQ_ct, TurnQ_bk, TurnQ_rt, toC_v, toC_f, toC_p, toV, argsOf, argsL, flatR, flatD, refs, asT, asTs, bo, co, DP.bi, ix, augD, DP.meth, DP.slice, optI, seqOf, DP.wipe, back, DP.free, isI, truth, toInts_map, DP.isNon, sm64_a, sm64_b, sm64_c, sm64_d, pow_a, at0, at1, at2, at3, List.getElem?_cons_zero, List.getElem?_cons_succ, List.getElem?_nil, List.set_cons_zero, List.set_cons_succ, List.mapM_cons, List.mapM_nil, Option.pure_def, Option.bind_eq_bind, Option.bind_some, Option.map_some, Option.map_none, Option.getD_some, Option.getD_none, Option.join_some, List.length_cons, List.length_nil, List.length_map, List.map_cons, List.map_nil, List.cons_append, List.nil_append, List.getD_cons_zero, List.getD_cons_succ, Nat.reduceAdd, Nat.reduceSub, Nat.reduceLeDiff, Nat.reduceLT, Int.reduceLT, Int.reduceLE, Int.reduceNeg, Int.reducePow, Nat.reduceMul, Int.reduceAdd, Int.reduceSub, Int.reduceMul, Int.reduceToNat, Bool.not_true, Bool.not_false, Bool.and_true, Bool.true_and, Bool.and_false, Bool.false_and, Bool.or_true, Bool.or_false, Bool.true_or, Bool.false_or, decide_true, decide_false, and_true, true_and, and_false, false_and, or_true, or_false, true_or, false_or, if_true, if_false, eqv_int, eqv_str, eqv_bool, shp_int, shp_bool, shp_non, toBools_map, Bool.and_self, eq_self, Bool.false_eq_true, reduceCtorEq, reduceIte, List.all_cons, List.all_nil, slotOf, List.replicate_zero, List.append_nil, List.replicate_succ]
    exact ⟨_, _, .inr ⟨_, rfl⟩, by rw [take_snoc hy, List.map_append]; rfl, rfl⟩
  · rintro ys ρe ⟨s5, s7, _, rfl, rfl⟩
    rw [List.length_map, List.take_length]
    try simp (config := {decide := true, dsimp := false}) only [Wxs_nil, Wxs_cons, Wx_asg, Wx_own, Wx_aug, Wx_seti, Wx_ex, Wx_ret, Wx_retN, Wx_brk, Wx_cnt, Wx_pass, Wx_ite, Wx_for, Wx_fit, We_var, We_mov, We_pk, We_int, We_str, We_bl, We_non, We_glob, We_bin, We_cmp, We_idx, We_neg, We_not, We_and, We_or, We_ife, We_chain, Wes_nil, Wes_cons, Wec_nil, Wec_cons, Wea_nil, Wea_cons, Wea_ref, Wea_lend, We_calll, Wei_rd, Wep_n, Wep_s, We_tup, We_lst, We_call, We_bi, We_meth, We_slc, We_lc, We_lc2, We_mx, We_rev, We_dnew, We_dsp, We_dget, Wx_setd, We_lsc, We_callv, fnN_fnD, Odd_b, Osk_b, obD_l, obD_d, dfl, Wei_zip, Old_b, Wei_seq, Wei_enum, Wei_r1, Wei_r2, Ov_some, Ov_none, Ov_if, Ov_map, Cnd_t, Cnd_f, Aft_n, Aft_s, Obo_b, Oi_b, Ofr_b, Od_b, Ol_b, Osd_b, Osb_b, Ore_v, Ore_f, Sq_nx, Sq_rt, Sq_bk, Sq_ct, Lt_n, Lt_b, Fn1_nx, Fn1_rv, Fn1_rf, Fin1_n, Fin1_s, TurnQ_nx, TurnQ_ct, TurnQ_bk, TurnQ_rt, toC_v, toC_f, toC_p, toV, argsOf, argsL, flatR, flatD, refs, asT, asTs, bo, co, DP.bi, ix, augD, DP.meth, DP.slice, optI, seqOf, DP.wipe, back, DP.free, isI, truth, toInts_map, DP.isNon, sm64_a, sm64_b, sm64_c, sm64_d, pow_a, at0, at1, at2, at3, List.getElem?_cons_zero, List.getElem?_cons_succ, List.getElem?_nil, List.set_cons_zero, List.set_cons_succ, List.mapM_cons, List.mapM_nil, Option.pure_def, Option.bind_eq_bind, Option.bind_some, Option.map_some, Option.map_none, Option.getD_some, Option.getD_none, Option.join_some, List.length_cons, List.length_nil, List.length_map, List.map_cons, List.map_nil, List.cons_append, List.nil_append, List.getD_cons_zero, List.getD_cons_succ, Nat.reduceAdd, Nat.reduceSub, Nat.reduceLeDiff, Nat.reduceLT, Int.reduceLT, Int.reduceLE, Int.reduceNeg, Int.reducePow, Nat.reduceMul, Int.reduceAdd, Int.reduceSub, Int.reduceMul, Int.reduceToNat, Bool.not_true, Bool.not_false, Bool.and_true, Bool.true_and, Bool.and_false, Bool.false_and, Bool.or_true, Bool.or_false, Bool.true_or, Bool.false_or, decide_true, decide_false, and_true, true_and, and_false, false_and, or_true, or_false, true_or, false_or, if_true, if_false, eqv_int, eqv_str, eqv_bool, shp_int, shp_bool, shp_non, toBools_map, Bool.and_self, eq_self, Bool.false_eq_true, reduceCtorEq, reduceIte, List.all_cons, List.all_nil, slotOf, List.replicate_zero, List.append_nil, List.replicate_succ]
    rw [hlen]
    refine ways_of_ok hn fun kvs w => ?_
    try simp (config := {decide := true, dsimp := false}) only [Wxs_nil, Wxs_cons, Wx_asg, Wx_own, Wx_aug, Wx_seti, Wx_ex, Wx_ret, Wx_retN, Wx_brk, Wx_cnt, Wx_pass, Wx_ite, Wx_for, Wx_fit, We_var, We_mov, We_pk, We_int, We_str, We_bl, We_non, We_glob, We_bin, We_cmp, We_idx, We_neg, We_not, We_and, We_or, We_ife, We_chain, Wes_nil, Wes_cons, Wec_nil, Wec_cons, Wea_nil, Wea_cons, Wea_ref, Wea_lend, We_calll, Wei_rd, Wep_n, Wep_s, We_tup, We_lst, We_call, We_bi, We_meth, We_slc, We_lc, We_lc2, We_mx, We_rev, We_dnew, We_dsp, We_dget, Wx_setd, We_lsc, We_callv, fnN_fnD, Odd_b, Osk_b, obD_l, obD_d, dfl, Wei_zip, Old_b, Wei_seq, Wei_enum, Wei_r1, Wei_r2, Ov_some, Ov_none, Ov_if, Ov_map, Cnd_t, Cnd_f, Aft_n, Aft_s, Obo_b, Oi_b, Ofr_b, Od_b, Ol_b, Osd_b, Osb_b, Ore_v, Ore_f, Sq_nx, Sq_rt, Sq_bk, Sq_ct, Lt_n, Lt_b, Fn1_nx, Fn1_rv, Fn1_rf, Fin1_n, Fin1_s, TurnQ_nx, TurnQ_ct, TurnQ_bk, TurnQ_rt, toC_v, toC_f, toC_p, toV, argsOf, argsL, flatR, flatD, refs, asT, asTs, bo, co, DP.bi, ix, augD, DP.meth, DP.slice, optI, seqOf, DP.wipe, back, DP.free, isI, truth, toInts_map, DP.isNon, sm64_a, sm64_b, sm64_c, sm64_d, pow_a, at0, at1, at2, at3, List.getElem?_cons_zero, List.getElem?_cons_succ, List.getElem?_nil, List.set_cons_zero, List.set_cons_succ, List.mapM_cons, List.mapM_nil, Option.pure_def, Option.bind_eq_bind, Option.bind_some, Option.map_some, Option.map_none, Option.getD_some, Option.getD_none, Option.join_some, List.length_cons, List.length_nil, List.length_map, List.map_cons, List.map_nil, List.cons_append, List.nil_append, List.getD_cons_zero, List.getD_cons_succ, Nat.reduceAdd, Nat.reduceSub, Nat.reduceLeDiff, Nat.reduceLT, Int.reduceLT, Int.reduceLE, Int.reduceNeg, Int.reducePow, Nat.reduceMul, Int.reduceAdd, Int.reduceSub, Int.reduceMul, Int.reduceToNat, Bool.not_true, Bool.not_false, Bool.and_true, Bool.true_and, Bool.and_false, Bool.false_and, Bool.or_true, Bool.or_false, Bool.true_or, Bool.false_or, decide_true, decide_false, and_true, true_and, and_false, false_and, or_true, or_false, true_or, false_or, if_true, if_false, eqv_int, eqv_str, eqv_bool, shp_int, shp_bool, shp_non, toBools_map, Bool.and_self, eq_self, Bool.false_eq_true, reduceCtorEq, reduceIte, List.all_cons, List.all_nil, slotOf, List.replicate_zero, List.append_nil, List.replicate_succ]
    refine For_ok (fun i ρ => ∃ s4 s5 s6 : DP.Slot, ρ = [.v (.tuple (p.map ent0)), .v (.tuple (p.map .int)), .v (.dict kvs), .v (.int (numN n (p.take i) : Nat)), s4, s5, s6, .un]) ⟨_, _, _, rfl⟩ ?_ ?_
    · rintro i d ρ hi ⟨s4, s5, s6, rfl⟩
      obtain ⟨c, hc, rfl⟩ := enum_at' hi
      rw [List.getElem?_map] at hc
      obtain ⟨y, hy, rfl⟩ := Option.map_eq_some_iff.mp hc
      have hi2 : i < p.length := (List.getElem?_eq_some_iff.mp hy).1
      have y0 := hp.nn y (List.mem_of_getElem? hy)
      have y1 := mxn_lt (List.mem_of_getElem? hy)
      have tk := take_snoc hy
      have hnt : NN (p.take i) := fun x hx => hp.nn x (List.mem_of_mem_take hx)
      have lt : (p.take i).length = i := by rw [List.length_take]; omega
      have ct : DP.cut (p.map .int) none (some (i : Int)) = (p.take i).map .int := by rw [cut_tk _ (by rw [List.length_map]; omega), List.map_take]
      have q1 : (((p.take i).map PyData.int).length + 1 ≤ sizeL) = True := eq_true (by rw [List.length_map]; unfold sizeL; omega)
      have e0 : ∀ v : Nat, (p.take i).map PyData.int ++ [.int (v : Int)] = (p.take i ++ [(v : Int)]).map .int := fun v => by rw [List.map_append]; rfl
      try simp (config := {decide := true, dsimp := false}) only [Wxs_nil, Wxs_cons, Wx_asg, Wx_own, Wx_aug, Wx_seti, Wx_ex, Wx_ret, Wx_retN, Wx_brk, Wx_cnt, Wx_pass, Wx_ite, Wx_for, Wx_fit, We_var, We_mov, We_pk, We_int, We_str, We_bl, We_non, We_glob, We_bin, We_cmp, We_idx, We_neg, We_not, We_and, We_or, We_ife, We_chain, Wes_nil, Wes_cons, Wec_nil, Wec_cons, Wea_nil, Wea_cons, Wea_ref, Wea_lend, We_calll, Wei_rd, Wep_n, Wep_s, We_tup, We_lst, We_call, We_bi, We_meth, We_slc, We_lc, We_lc2, We_mx, We_rev, We_dnew, We_dsp, We_dget, Wx_setd, We_lsc, We_callv, fnN_fnD, Odd_b, Osk_b, obD_l, obD_d, dfl, Wei_zip, Old_b, Wei_seq, Wei_enum, Wei_r1, Wei_r2, Ov_some, Ov_none, Ov_if, Ov_map, Cnd_t, Cnd_f, Aft_n, Aft_s, Obo_b, Oi_b, Ofr_b, Od_b, Ol_b, Osd_b, Osb_b, Ore_v, Ore_f, Sq_nx, Sq_rt, Sq_bk, Sq_ct, Lt_n, Lt_b, Fn1_nx, Fn1_rv, Fn1_rf, Fin1_n, Fin1_s, TurnQ_nx, TurnQ_ct, TurnQ_bk, TurnQ_rt, toC_v, toC_f, toC_p, toV, argsOf, argsL, flatR, flatD, refs, asT, asTs, bo, co, DP.bi, ix, augD, DP.meth, DP.slice, optI, seqOf, DP.wipe, back, DP.free, isI, truth, toInts_map, DP.isNon, sm64_a, sm64_b, sm64_c, sm64_d, pow_a, at0, at1, at2, at3, List.getElem?_cons_zero, List.getElem?_cons_succ, List.getElem?_nil, List.set_cons_zero, List.set_cons_succ, List.mapM_cons, List.mapM_nil, Option.pure_def, Option.bind_eq_bind, Option.bind_some, Option.map_some, Option.map_none, Option.getD_some, Option.getD_none, Option.join_some, List.length_cons, List.length_nil, List.length_map, List.map_cons, List.map_nil, List.cons_append, List.nil_append, List.getD_cons_zero, List.getD_cons_succ, Nat.reduceAdd, Nat.reduceSub, Nat.reduceLeDiff, Nat.reduceLT, Int.reduceLT, Int.reduceLE, Int.reduceNeg, Int.reducePow, Nat.reduceMul, Int.reduceAdd, Int.reduceSub, Int.reduceMul, Int.reduceToNat, Bool.not_true, Bool.not_false, Bool.and_true, Bool.true_and, Bool.and_false, Bool.false_and, Bool.or_true, Bool.or_false, Bool.true_or, Bool.false_or, decide_true, decide_false, and_true, true_and, and_false, false_and, or_true, or_false, true_or, false_or, if_true, if_false, eqv_int, eqv_str, eqv_bool, shp_int, shp_bool, shp_non, toBools_map, Bool.and_self, eq_self, Bool.false_eq_true, reduceCtorEq, reduceIte, List.all_cons, List.all_nil, slotOf, List.replicate_zero, List.append_nil, List.replicate_succ]
      refine ⟨by simp [small62]; omega, ?_⟩
      refine For_ok (fun j ρ => ∃ s6 : DP.Slot, ρ = [.v (.tuple (p.map ent0)), .v (.tuple (p.map .int)), .v (.dict kvs), .v (.int (numN n (p.take i) + cw n (p.take i) j : Nat)), .v (.int i), .v (.int y), s6, .un]) ⟨_, rfl⟩ ?_ ?_
      · rintro j d ρ hj ⟨s6, rfl⟩
        obtain ⟨hj2, rfl⟩ := irange0_at hj
        try simp (config := {decide := true, dsimp := false}) only [Wxs_nil, Wxs_cons, Wx_asg, Wx_own, Wx_aug, Wx_seti, Wx_ex, Wx_ret, Wx_retN, Wx_brk, Wx_cnt, Wx_pass, Wx_ite, Wx_for, Wx_fit, We_var, We_mov, We_pk, We_int, We_str, We_bl, We_non, We_glob, We_bin, We_cmp, We_idx, We_neg, We_not, We_and, We_or, We_ife, We_chain, Wes_nil, Wes_cons, Wec_nil, Wec_cons, Wea_nil, Wea_cons, Wea_ref, Wea_lend, We_calll, Wei_rd, Wep_n, Wep_s, We_tup, We_lst, We_call, We_bi, We_meth, We_slc, We_lc, We_lc2, We_mx, We_rev, We_dnew, We_dsp, We_dget, Wx_setd, We_lsc, We_callv, fnN_fnD, Odd_b, Osk_b, obD_l, obD_d, dfl, Wei_zip, Old_b, Wei_seq, Wei_enum, Wei_r1, Wei_r2, Ov_some, Ov_none, Ov_if, Ov_map, Cnd_t, Cnd_f, Aft_n, Aft_s, Obo_b, Oi_b, Ofr_b, Od_b, Ol_b, Osd_b, Osb_b, Ore_v, Ore_f, Sq_nx, Sq_rt, Sq_bk, Sq_ct, Lt_n, Lt_b, Fn1_nx, Fn1_rv, Fn1_rf, Fin1_n, Fin1_s, TurnQ_nx, TurnQ_ct, TurnQ_bk, TurnQ_rt, toC_v, toC_f, toC_p, toV, argsOf, argsL, flatR, flatD, refs, asT, asTs, bo, co, DP.bi, ix, augD, DP.meth, DP.slice, optI, seqOf, DP.wipe, back, DP.free, isI, truth, toInts_map, DP.isNon, sm64_a, sm64_b, sm64_c, sm64_d, pow_a, at0, at1, at2, at3, List.getElem?_cons_zero, List.getElem?_cons_succ, List.getElem?_nil, List.set_cons_zero, List.set_cons_succ, List.mapM_cons, List.mapM_nil, Option.pure_def, Option.bind_eq_bind, Option.bind_some, Option.map_some, Option.map_none, Option.getD_some, Option.getD_none, Option.join_some, List.length_cons, List.length_nil, List.length_map, List.map_cons, List.map_nil, List.cons_append, List.nil_append, List.getD_cons_zero, List.getD_cons_succ, Nat.reduceAdd, Nat.reduceSub, Nat.reduceLeDiff, Nat.reduceLT, Int.reduceLT, Int.reduceLE, Int.reduceNeg, Int.reducePow, Nat.reduceMul, Int.reduceAdd, Int.reduceSub, Int.reduceMul, Int.reduceToNat, Bool.not_true, Bool.not_false, Bool.and_true, Bool.true_and, Bool.and_false, Bool.false_and, Bool.or_true, Bool.or_false, Bool.true_or, Bool.false_or, decide_true, decide_false, and_true, true_and, and_false, false_and, or_true, or_false, true_or, false_or, if_true, if_false, eqv_int, eqv_str, eqv_bool, shp_int, shp_bool, shp_non, toBools_map, Bool.and_self, eq_self, Bool.false_eq_true, reduceCtorEq, reduceIte, List.all_cons, List.all_nil, slotOf, List.replicate_zero, List.append_nil, List.replicate_succ, ct, q1]
        refine ⟨by unfold sizeL; omega, ?_⟩
        rw [hlen]
        refine ways_with_ok hn w (e0 j) (by simp) (hnt.snoc (by omega)) (by rw [List.length_append, lt]; show i + 1 ≤ n; omega) ?_
        try simp (config := {decide := true, dsimp := false}) only [Wxs_nil, Wxs_cons, Wx_asg, Wx_own, Wx_aug, Wx_seti, Wx_ex, Wx_ret, Wx_retN, Wx_brk, Wx_cnt, Wx_pass, Wx_ite, Wx_for, Wx_fit, We_var, We_mov, We_pk, We_int, We_str, We_bl, We_non, We_glob, We_bin, We_cmp, We_idx, We_neg, We_not, We_and, We_or, We_ife, We_chain, Wes_nil, Wes_cons, Wec_nil, Wec_cons, Wea_nil, Wea_cons, Wea_ref, Wea_lend, We_calll, Wei_rd, Wep_n, Wep_s, We_tup, We_lst, We_call, We_bi, We_meth, We_slc, We_lc, We_lc2, We_mx, We_rev, We_dnew, We_dsp, We_dget, Wx_setd, We_lsc, We_callv, fnN_fnD, Odd_b, Osk_b, obD_l, obD_d, dfl, Wei_zip, Old_b, Wei_seq, Wei_enum, Wei_r1, Wei_r2, Ov_some, Ov_none, Ov_if, Ov_map, Cnd_t, Cnd_f, Aft_n, Aft_s, Obo_b, Oi_b, Ofr_b, Od_b, Ol_b, Osd_b, Osb_b, Ore_v, Ore_f, Sq_nx, Sq_rt, Sq_bk, Sq_ct, Lt_n, Lt_b, Fn1_nx, Fn1_rv, Fn1_rf, Fin1_n, Fin1_s, TurnQ_nx, TurnQ_ct, TurnQ_bk, TurnQ_rt, toC_v, toC_f, toC_p, toV, argsOf, argsL, flatR, flatD, refs, asT, asTs, bo, co, DP.bi, ix, augD, DP.meth, DP.slice, optI, seqOf, DP.wipe, back, DP.free, isI, truth, toInts_map, DP.isNon, sm64_a, sm64_b, sm64_c, sm64_d, pow_a, at0, at1, at2, at3, List.getElem?_cons_zero, List.getElem?_cons_succ, List.getElem?_nil, List.set_cons_zero, List.set_cons_succ, List.mapM_cons, List.mapM_nil, Option.pure_def, Option.bind_eq_bind, Option.bind_some, Option.map_some, Option.map_none, Option.getD_some, Option.getD_none, Option.join_some, List.length_cons, List.length_nil, List.length_map, List.map_cons, List.map_nil, List.cons_append, List.nil_append, List.getD_cons_zero, List.getD_cons_succ, Nat.reduceAdd, Nat.reduceSub, Nat.reduceLeDiff, Nat.reduceLT, Int.reduceLT, Int.reduceLE, Int.reduceNeg, Int.reducePow, Nat.reduceMul, Int.reduceAdd, Int.reduceSub, Int.reduceMul, Int.reduceToNat, Bool.not_true, Bool.not_false, Bool.and_true, Bool.true_and, Bool.and_false, Bool.false_and, Bool.or_true, Bool.or_false, Bool.true_or, Bool.false_or, decide_true, decide_false, and_true, true_and, and_false, false_and, or_true, or_false, true_or, false_or, if_true, if_false, eqv_int, eqv_str, eqv_bool, shp_int, shp_bool, shp_non, toBools_map, Bool.and_self, eq_self, Bool.false_eq_true, reduceCtorEq, reduceIte, List.all_cons, List.all_nil, slotOf, List.replicate_zero, List.append_nil, List.replicate_succ]
        refine ⟨.v (.int (j : Int)), ?_⟩
        have e9 : ((numN n (p.take i) + cw n (p.take i) (j + 1) : Nat) : Int) = ((numN n (p.take i) + cw n (p.take i) j : Nat) : Int) + ((Wp n (p.take i ++ [(j : Int)]) : Nat) : Int) := by
          show ((numN n (p.take i) + (cw n (p.take i) j + Wp n (p.take i ++ [(j : Int)])) : Nat) : Int) = _
          omega
        rw [e9]
      · rintro ρ ⟨s6, rfl⟩
        rw [irange_len]
        try simp (config := {decide := true, dsimp := false}) only [Wxs_nil, Wxs_cons, Wx_asg, Wx_own, Wx_aug, Wx_seti, Wx_ex, Wx_ret, Wx_retN, Wx_brk, Wx_cnt, Wx_pass, Wx_ite, Wx_for, Wx_fit, We_var, We_mov, We_pk, We_int, We_str, We_bl, We_non, We_glob, We_bin, We_cmp, We_idx, We_neg, We_not, We_and, We_or, We_ife, We_chain, Wes_nil, Wes_cons, Wec_nil, Wec_cons, Wea_nil, Wea_cons, Wea_ref, Wea_lend, We_calll, Wei_rd, Wep_n, Wep_s, We_tup, We_lst, We_call, We_bi, We_meth, We_slc, We_lc, We_lc2, We_mx, We_rev, We_dnew, We_dsp, We_dget, Wx_setd, We_lsc, We_callv, fnN_fnD, Odd_b, Osk_b, obD_l, obD_d, dfl, Wei_zip, Old_b, Wei_seq, Wei_enum, Wei_r1, Wei_r2, Ov_some, Ov_none, Ov_if, Ov_map, Cnd_t, Cnd_f, Aft_n, Aft_s, Obo_b, Oi_b, Ofr_b, Od_b, Ol_b, Osd_b, Osb_b, Ore_v, Ore_f, Sq_nx, Sq_rt, Sq_bk, Sq_ct, Lt_n, Lt_b, Fn1_nx, Fn1_rv, Fn1_rf, Fin1_n, Fin1_s, TurnQ_nx, TurnQ_ct, TurnQ_bk, TurnQ_rt, toC_v, toC_f, toC_p, toV, argsOf, argsL, flatR, flatD, refs, asT, asTs, bo, co, DP.bi, ix, augD, DP.meth, DP.slice, optI, seqOf, DP.wipe, back, DP.free, isI, truth, toInts_map, DP.isNon, sm64_a, sm64_b, sm64_c, sm64_d, pow_a, at0, at1, at2, at3, List.getElem?_cons_zero, List.getElem?_cons_succ, List.getElem?_nil, List.set_cons_zero, List.set_cons_succ, List.mapM_cons, List.mapM_nil, Option.pure_def, Option.bind_eq_bind, Option.bind_some, Option.map_some, Option.map_none, Option.getD_some, Option.getD_none, Option.join_some, List.length_cons, List.length_nil, List.length_map, List.map_cons, List.map_nil, List.cons_append, List.nil_append, List.getD_cons_zero, List.getD_cons_succ, Nat.reduceAdd, Nat.reduceSub, Nat.reduceLeDiff, Nat.reduceLT, Int.reduceLT, Int.reduceLE, Int.reduceNeg, Int.reducePow, Nat.reduceMul, Int.reduceAdd, Int.reduceSub, Int.reduceMul, Int.reduceToNat, Bool.not_true, Bool.not_false, Bool.and_true, Bool.true_and, Bool.and_false, Bool.false_and, Bool.or_true, Bool.or_false, Bool.true_or, Bool.false_or, decide_true, decide_false, and_true, true_and, and_false, false_and, or_true, or_false, true_or, false_or, if_true, if_false, eqv_int, eqv_str, eqv_bool, shp_int, shp_bool, shp_non, toBools_map, Bool.and_self, eq_self, Bool.false_eq_true, reduceCtorEq, reduceIte, List.all_cons, List.all_nil, slotOf, List.replicate_zero, List.append_nil, List.replicate_succ]
        rw [tk, numN_snoc]
        exact ⟨_, _, _, rfl⟩
    · rintro ρ ⟨s4, s5, s6, rfl⟩
      rw [enumD_len, List.length_map, List.take_length]
      try simp (config := {decide := true, dsimp := false}) only [Wxs_nil, Wxs_cons, Wx_asg, Wx_own, Wx_aug, Wx_seti, Wx_ex, Wx_ret, Wx_retN, Wx_brk, Wx_cnt, Wx_pass, Wx_ite, Wx_for, Wx_fit, We_var, We_mov, We_pk, We_int, We_str, We_bl, We_non, We_glob, We_bin, We_cmp, We_idx, We_neg, We_not, We_and, We_or, We_ife, We_chain, Wes_nil, Wes_cons, Wec_nil, Wec_cons, Wea_nil, Wea_cons, Wea_ref, Wea_lend, We_calll, Wei_rd, Wep_n, Wep_s, We_tup, We_lst, We_call, We_bi, We_meth, We_slc, We_lc, We_lc2, We_mx, We_rev, We_dnew, We_dsp, We_dget, Wx_setd, We_lsc, We_callv, fnN_fnD, Odd_b, Osk_b, obD_l, obD_d, dfl, Wei_zip, Old_b, Wei_seq, Wei_enum, Wei_r1, Wei_r2, Ov_some, Ov_none, Ov_if, Ov_map, Cnd_t, Cnd_f, Aft_n, Aft_s, Obo_b, Oi_b, Ofr_b, Od_b, Ol_b, Osd_b, Osb_b, Ore_v, Ore_f, Sq_nx, Sq_rt, Sq_bk, Sq_ct, Lt_n, Lt_b, Fn1_nx, Fn1_rv, Fn1_rf, Fin1_n, Fin1_s, TurnQ_nx, TurnQ_ct, TurnQ_bk, TurnQ_rt, toC_v, toC_f, toC_p, toV, argsOf, argsL, flatR, flatD, refs, asT, asTs, bo, co, DP.bi, ix, augD, DP.meth, DP.slice, optI, seqOf, DP.wipe, back, DP.free, isI, truth, toInts_map, DP.isNon, sm64_a, sm64_b, sm64_c, sm64_d, pow_a, at0, at1, at2, at3, List.getElem?_cons_zero, List.getElem?_cons_succ, List.getElem?_nil, List.set_cons_zero, List.set_cons_succ, List.mapM_cons, List.mapM_nil, Option.pure_def, Option.bind_eq_bind, Option.bind_some, Option.map_some, Option.map_none, Option.getD_some, Option.getD_none, Option.join_some, List.length_cons, List.length_nil, List.length_map, List.map_cons, List.map_nil, List.cons_append, List.nil_append, List.getD_cons_zero, List.getD_cons_succ, Nat.reduceAdd, Nat.reduceSub, Nat.reduceLeDiff, Nat.reduceLT, Int.reduceLT, Int.reduceLE, Int.reduceNeg, Int.reducePow, Nat.reduceMul, Int.reduceAdd, Int.reduceSub, Int.reduceMul, Int.reduceToNat, Bool.not_true, Bool.not_false, Bool.and_true, Bool.true_and, Bool.and_false, Bool.false_and, Bool.or_true, Bool.or_false, Bool.true_or, Bool.false_or, decide_true, decide_false, and_true, true_and, and_false, false_and, or_true, or_false, true_or, false_or, if_true, if_false, eqv_int, eqv_str, eqv_bool, shp_int, shp_bool, shp_non, toBools_map, Bool.and_self, eq_self, Bool.false_eq_true, reduceCtorEq, reduceIte, List.all_cons, List.all_nil, slotOf, List.replicate_zero, List.append_nil, List.replicate_succ]
      exact h
end K96
namespace K96
open PySem L2 DP
open DPK
theorem lg_shp (p : List Int) : SeqAt.shaped (.tuple (p.map ent0)) = true := by
  have h1 : ∀ q : List Int, PyData.canLayAll0 (q.map ent0) = true := fun q => by
    induction q with
    | nil => rfl
    | cons a q ih =>
      rw [List.map_cons, PyData.canLayAll0, ih]
      rfl
  have h2 : ∀ q : List Int, PyData.depthAll (q.map ent0) ≤ 1 := fun q => by
    induction q with
    | nil => exact Nat.zero_le _
    | cons a q ih =>
      rw [List.map_cons, PyData.depthAll]
      have : (ent0 a).depth = 1 := rfl
      omega
  unfold SeqAt.shaped
  rw [Bool.and_eq_true]
  refine ⟨by rw [PyData.canLay0]; exact h1 p, decide_eq_true ?_⟩
  rw [PyData.depth]
  have := h2 p
  omega
theorem lg_eqv (p : List Int) : PyData.eqv (.tuple (p.map ent0)) (.tuple (p.map ent0)) = true := PySem.SeqAt.eqv_refl _ (SeqAt.canLay_of_shaped (lg_shp p))
theorem lg_alike' : ∀ p q : List Int, PySem.W.alikeAll (p.map ent0) (q.map ent0) = true
  | [], _ => by simp [PySem.W.alikeAll]
  | _ :: _, [] => by simp [PySem.W.alikeAll]
  | a :: p, b :: q => by
    rw [List.map_cons, List.map_cons, PySem.W.alikeAll, lg_alike' p q]
    rfl
theorem lg_alike (p q : List Int) : PySem.W.alike (.tuple (p.map ent0)) (.tuple (q.map ent0)) = true := by
  rw [PySem.W.alike]
  exact lg_alike' p q
theorem ent_alike (a b : Int) : PySem.W.alike (ent0 a) (ent0 b) = true := rfl
theorem ent_eqv (a b : Int) : PyData.eqv (ent0 a) (ent0 b) = decide (a = b) := by
  show (true && (decide (a = b) && true)) = _
  rw [Bool.true_and, Bool.and_true]
theorem ent_lt (a b : Int) : PySem.W.dataLt (ent0 a) (ent0 b) = decide (a < b) := by
  unfold ent0
  rw [PySem.W.dataLt_pair rfl rfl, if_pos (show PyData.eqv (.int 0) (.int 0) = true from rfl)]
  by_cases e : a = b
  · subst e
    rw [if_pos (by rw [eqv_int]; exact decide_eq_true rfl)]
    exact (decide_eq_false (by omega)).symm
  · rw [if_neg (by rw [eqv_int]; exact fun z => e (of_decide_eq_true z)), PySem.W.dataLt_int]
theorem lg_lt' : ∀ p q : List Int, lexI p q → PyProof.Rows.lexLt PyProof.Rows.itemOrd (PySem.W.keyToksAll (p.map ent0)) (PySem.W.keyToksAll (q.map ent0)) = true
  | a :: p, b :: q, h => by
    rw [List.map_cons, List.map_cons, PySem.W.dataLt_cons (ent_alike a b), ent_eqv, ent_lt]
    rcases h with h | ⟨rfl, h⟩
    · rw [if_neg (by rw [decide_eq_true_eq]; omega)]
      exact decide_eq_true h
    · rw [if_pos (decide_eq_true rfl)]
      exact lg_lt' p q h
  | [], _, h => by cases h
  | _ :: _, [], h => by cases h
theorem lg_lt {p q : List Int} (h : lexI p q) : PySem.W.dataLt (.tuple (p.map ent0)) (.tuple (q.map ent0)) = true := by
  rw [PySem.W.dataLt_tuple]
  exact lg_lt' p q h
theorem same_int {n : Nat} {a : Int} {Q : R → Option OB → Prop} (h : Q (.v (.bool true)) none) : Wc (sm (n + 1)) "_law_same" [.v (.int a), .v (.int a)] Q := by
  (refine Wc_ok pf_law_same rfl ?_; unfold f_law_same; dsimp only)
  try simp (config := {decide := true, dsimp := false}) only [Wxs_nil, Wxs_cons, Wx_asg, Wx_own, Wx_aug, Wx_seti, Wx_ex, Wx_ret, Wx_retN, Wx_brk, Wx_cnt, Wx_pass, Wx_ite, Wx_for, Wx_fit, We_var, We_mov, We_pk, We_int, We_str, We_bl, We_non, We_glob, We_bin, We_cmp, We_idx, We_neg, We_not, We_and, We_or, We_ife, We_chain, Wes_nil, Wes_cons, Wec_nil, Wec_cons, Wea_nil, Wea_cons, Wea_ref, Wea_lend, We_calll, Wei_rd, Wep_n, Wep_s, We_tup, We_lst, We_call, We_bi, We_meth, We_slc, We_lc, We_lc2, We_mx, We_rev, We_dnew, We_dsp, We_dget, Wx_setd, We_lsc, We_callv, fnN_fnD, Odd_b, Osk_b, obD_l, obD_d, dfl, Wei_zip, Old_b, Wei_seq, Wei_enum, Wei_r1, Wei_r2, Ov_some, Ov_none, Ov_if, Ov_map, Cnd_t, Cnd_f, Aft_n, Aft_s, Obo_b, Oi_b, Ofr_b, Od_b, Ol_b, Osd_b, Osb_b, Ore_v, Ore_f, Sq_nx, Sq_rt, Sq_bk, Sq_ct, Lt_n, Lt_b, Fn1_nx, Fn1_rv, Fn1_rf, Fin1_n, Fin1_s, TurnQ_nx, TurnQ_ct, TurnQ_bk, TurnQ_rt, toC_v, toC_f, toC_p, toV, argsOf, argsL, flatR, flatD, refs, asT, asTs, bo, co, DP.bi, ix, augD, DP.meth, DP.slice, optI, seqOf, DP.wipe, back, DP.free, isI, truth, toInts_map, DP.isNon, sm64_a, sm64_b, sm64_c, sm64_d, pow_a, at0, at1, at2, at3, List.getElem?_cons_zero, List.getElem?_cons_succ, List.getElem?_nil, List.set_cons_zero, List.set_cons_succ, List.mapM_cons, List.mapM_nil, Option.pure_def, Option.bind_eq_bind, Option.bind_some, Option.map_some, Option.map_none, Option.getD_some, Option.getD_none, Option.join_some, List.length_cons, List.length_nil, List.length_map, List.map_cons, List.map_nil, List.cons_append, List.nil_append, List.getD_cons_zero, List.getD_cons_succ, Nat.reduceAdd, Nat.reduceSub, Nat.reduceLeDiff, Nat.reduceLT, Int.reduceLT, Int.reduceLE, Int.reduceNeg, Int.reducePow, Nat.reduceMul, Int.reduceAdd, Int.reduceSub, Int.reduceMul, Int.reduceToNat, Bool.not_true, Bool.not_false, Bool.and_true, Bool.true_and, Bool.and_false, Bool.false_and, Bool.or_true, Bool.or_false, Bool.true_or, Bool.false_or, decide_true, decide_false, and_true, true_and, and_false, false_and, or_true, or_false, true_or, false_or, if_true, if_false, eqv_int, eqv_str, eqv_bool, shp_int, shp_bool, shp_non, toBools_map, Bool.and_self, eq_self, Bool.false_eq_true, reduceCtorEq, reduceIte, List.all_cons, List.all_nil, slotOf, List.replicate_zero, List.append_nil, List.replicate_succ]
  exact h
theorem same_ent {n : Nat} {a : Int} {Q : R → Option OB → Prop} (h : Q (.v (.bool true)) none) : Wc (sm (n + 2)) "_law_same" [.v (.tuple [.int 0, .int a]), .v (.tuple [.int 0, .int a])] Q := by
  (refine Wc_ok pf_law_same rfl ?_; unfold f_law_same; dsimp only)
  try simp (config := {decide := true, dsimp := false}) only [Wxs_nil, Wxs_cons, Wx_asg, Wx_own, Wx_aug, Wx_seti, Wx_ex, Wx_ret, Wx_retN, Wx_brk, Wx_cnt, Wx_pass, Wx_ite, Wx_for, Wx_fit, We_var, We_mov, We_pk, We_int, We_str, We_bl, We_non, We_glob, We_bin, We_cmp, We_idx, We_neg, We_not, We_and, We_or, We_ife, We_chain, Wes_nil, Wes_cons, Wec_nil, Wec_cons, Wea_nil, Wea_cons, Wea_ref, Wea_lend, We_calll, Wei_rd, Wep_n, Wep_s, We_tup, We_lst, We_call, We_bi, We_meth, We_slc, We_lc, We_lc2, We_mx, We_rev, We_dnew, We_dsp, We_dget, Wx_setd, We_lsc, We_callv, fnN_fnD, Odd_b, Osk_b, obD_l, obD_d, dfl, Wei_zip, Old_b, Wei_seq, Wei_enum, Wei_r1, Wei_r2, Ov_some, Ov_none, Ov_if, Ov_map, Cnd_t, Cnd_f, Aft_n, Aft_s, Obo_b, Oi_b, Ofr_b, Od_b, Ol_b, Osd_b, Osb_b, Ore_v, Ore_f, Sq_nx, Sq_rt, Sq_bk, Sq_ct, Lt_n, Lt_b, Fn1_nx, Fn1_rv, Fn1_rf, Fin1_n, Fin1_s, TurnQ_nx, TurnQ_ct, TurnQ_bk, TurnQ_rt, toC_v, toC_f, toC_p, toV, argsOf, argsL, flatR, flatD, refs, asT, asTs, bo, co, DP.bi, ix, augD, DP.meth, DP.slice, optI, seqOf, DP.wipe, back, DP.free, isI, truth, toInts_map, DP.isNon, sm64_a, sm64_b, sm64_c, sm64_d, pow_a, at0, at1, at2, at3, List.getElem?_cons_zero, List.getElem?_cons_succ, List.getElem?_nil, List.set_cons_zero, List.set_cons_succ, List.mapM_cons, List.mapM_nil, Option.pure_def, Option.bind_eq_bind, Option.bind_some, Option.map_some, Option.map_none, Option.getD_some, Option.getD_none, Option.join_some, List.length_cons, List.length_nil, List.length_map, List.map_cons, List.map_nil, List.cons_append, List.nil_append, List.getD_cons_zero, List.getD_cons_succ, Nat.reduceAdd, Nat.reduceSub, Nat.reduceLeDiff, Nat.reduceLT, Int.reduceLT, Int.reduceLE, Int.reduceNeg, Int.reducePow, Nat.reduceMul, Int.reduceAdd, Int.reduceSub, Int.reduceMul, Int.reduceToNat, Bool.not_true, Bool.not_false, Bool.and_true, Bool.true_and, Bool.and_false, Bool.false_and, Bool.or_true, Bool.or_false, Bool.true_or, Bool.false_or, decide_true, decide_false, and_true, true_and, and_false, false_and, or_true, or_false, true_or, false_or, if_true, if_false, eqv_int, eqv_str, eqv_bool, shp_int, shp_bool, shp_non, toBools_map, Bool.and_self, eq_self, Bool.false_eq_true, reduceCtorEq, reduceIte, List.all_cons, List.all_nil, slotOf, List.replicate_zero, List.append_nil, List.replicate_succ]
  refine For_ok (fun i ρ => ∃ s : DP.Slot, ρ = [.v (.tuple [.int 0, .int a]), .v (.tuple [.int 0, .int a]), s]) ⟨_, rfl⟩ ?_ ?_
  · rintro i dd ρ hd ⟨s, rfl⟩
    obtain ⟨hi, rfl⟩ := irange0_at hd
    have hi2 : i < 2 := hi
    have e : ∃ b, atD [PyData.int 0, .int a] (i : Int) = some (.int b) := by
      rcases (show i = 0 ∨ i = 1 by omega) with rfl | rfl
      · exact ⟨0, rfl⟩
      · exact ⟨a, rfl⟩
    obtain ⟨b, e⟩ := e
    try simp (config := {decide := true, dsimp := false}) only [Wxs_nil, Wxs_cons, Wx_asg, Wx_own, Wx_aug, Wx_seti, Wx_ex, Wx_ret, Wx_retN, Wx_brk, Wx_cnt, Wx_pass, Wx_ite, Wx_for, Wx_fit, We_var, We_mov, We_pk, We_int, We_str, We_bl, We_non, We_glob, We_bin, We_cmp, We_idx, We_neg, We_not, We_and, We_or, We_ife, We_chain, Wes_nil, Wes_cons, Wec_nil, Wec_cons, Wea_nil, Wea_cons, Wea_ref, Wea_lend, We_calll, Wei_rd, Wep_n, Wep_s, We_tup, We_lst, We_call, We_bi, We_meth, We_slc, We_lc, We_lc2, We_mx, We_rev, We_dnew, We_dsp, We_dget, Wx_setd, We_lsc, We_callv, fnN_fnD, Odd_b, Osk_b, obD_l, obD_d, dfl, Wei_zip, Old_b, Wei_seq, Wei_enum, Wei_r1, Wei_r2, Ov_some, Ov_none, Ov_if, Ov_map, Cnd_t, Cnd_f, Aft_n, Aft_s, Obo_b, Oi_b, Ofr_b, Od_b, Ol_b, Osd_b, Osb_b, Ore_v, Ore_f, Sq_nx, Sq_rt, Sq_bk, Sq_ct, Lt_n, Lt_b, Fn1_nx, Fn1_rv, Fn1_rf, Fin1_n, Fin1_s, TurnQ_nx, TurnQ_ct, TurnQ_bk, TurnQ_rt, toC_v, toC_f, toC_p, toV, argsOf, argsL, flatR, flatD, refs, asT, asTs, bo, co, DP.bi, ix, augD, DP.meth, DP.slice, optI, seqOf, DP.wipe, back, DP.free, isI, truth, toInts_map, DP.isNon, sm64_a, sm64_b, sm64_c, sm64_d, pow_a, at0, at1, at2, at3, List.getElem?_cons_zero, List.getElem?_cons_succ, List.getElem?_nil, List.set_cons_zero, List.set_cons_succ, List.mapM_cons, List.mapM_nil, Option.pure_def, Option.bind_eq_bind, Option.bind_some, Option.map_some, Option.map_none, Option.getD_some, Option.getD_none, Option.join_some, List.length_cons, List.length_nil, List.length_map, List.map_cons, List.map_nil, List.cons_append, List.nil_append, List.getD_cons_zero, List.getD_cons_succ, Nat.reduceAdd, Nat.reduceSub, Nat.reduceLeDiff, Nat.reduceLT, Int.reduceLT, Int.reduceLE, Int.reduceNeg, Int.reducePow, Nat.reduceMul, Int.reduceAdd, Int.reduceSub, Int.reduceMul, Int.reduceToNat, Bool.not_true, Bool.not_false, Bool.and_true, Bool.true_and, Bool.and_false, Bool.false_and, Bool.or_true, Bool.or_false, Bool.true_or, Bool.false_or, decide_true, decide_false, and_true, true_and, and_false, false_and, or_true, or_false, true_or, false_or, if_true, if_false, eqv_int, eqv_str, eqv_bool, shp_int, shp_bool, shp_non, toBools_map, Bool.and_self, eq_self, Bool.false_eq_true, reduceCtorEq, reduceIte, List.all_cons, List.all_nil, slotOf, List.replicate_zero, List.append_nil, List.replicate_succ, e]
    refine same_int (n := n) ?_
    try simp (config := {decide := true, dsimp := false}) only [Wxs_nil, Wxs_cons, Wx_asg, Wx_own, Wx_aug, Wx_seti, Wx_ex, Wx_ret, Wx_retN, Wx_brk, Wx_cnt, Wx_pass, Wx_ite, Wx_for, Wx_fit, We_var, We_mov, We_pk, We_int, We_str, We_bl, We_non, We_glob, We_bin, We_cmp, We_idx, We_neg, We_not, We_and, We_or, We_ife, We_chain, Wes_nil, Wes_cons, Wec_nil, Wec_cons, Wea_nil, Wea_cons, Wea_ref, Wea_lend, We_calll, Wei_rd, Wep_n, Wep_s, We_tup, We_lst, We_call, We_bi, We_meth, We_slc, We_lc, We_lc2, We_mx, We_rev, We_dnew, We_dsp, We_dget, Wx_setd, We_lsc, We_callv, fnN_fnD, Odd_b, Osk_b, obD_l, obD_d, dfl, Wei_zip, Old_b, Wei_seq, Wei_enum, Wei_r1, Wei_r2, Ov_some, Ov_none, Ov_if, Ov_map, Cnd_t, Cnd_f, Aft_n, Aft_s, Obo_b, Oi_b, Ofr_b, Od_b, Ol_b, Osd_b, Osb_b, Ore_v, Ore_f, Sq_nx, Sq_rt, Sq_bk, Sq_ct, Lt_n, Lt_b, Fn1_nx, Fn1_rv, Fn1_rf, Fin1_n, Fin1_s, TurnQ_nx, TurnQ_ct, TurnQ_bk, TurnQ_rt, toC_v, toC_f, toC_p, toV, argsOf, argsL, flatR, flatD, refs, asT, asTs, bo, co, DP.bi, ix, augD, DP.meth, DP.slice, optI, seqOf, DP.wipe, back, DP.free, isI, truth, toInts_map, DP.isNon, sm64_a, sm64_b, sm64_c, sm64_d, pow_a, at0, at1, at2, at3, List.getElem?_cons_zero, List.getElem?_cons_succ, List.getElem?_nil, List.set_cons_zero, List.set_cons_succ, List.mapM_cons, List.mapM_nil, Option.pure_def, Option.bind_eq_bind, Option.bind_some, Option.map_some, Option.map_none, Option.getD_some, Option.getD_none, Option.join_some, List.length_cons, List.length_nil, List.length_map, List.map_cons, List.map_nil, List.cons_append, List.nil_append, List.getD_cons_zero, List.getD_cons_succ, Nat.reduceAdd, Nat.reduceSub, Nat.reduceLeDiff, Nat.reduceLT, Int.reduceLT, Int.reduceLE, Int.reduceNeg, Int.reducePow, Nat.reduceMul, Int.reduceAdd, Int.reduceSub, Int.reduceMul, Int.reduceToNat, Bool.not_true, Bool.not_false, Bool.and_true, Bool.true_and, Bool.and_false, Bool.false_and, Bool.or_true, Bool.or_false, Bool.true_or, Bool.false_or, decide_true, decide_false, and_true, true_and, and_false, false_and, or_true, or_false, true_or, false_or, if_true, if_false, eqv_int, eqv_str, eqv_bool, shp_int, shp_bool, shp_non, toBools_map, Bool.and_self, eq_self, Bool.false_eq_true, reduceCtorEq, reduceIte, List.all_cons, List.all_nil, slotOf, List.replicate_zero, List.append_nil, List.replicate_succ]
    exact ⟨_, rfl⟩
  · rintro ρ ⟨s, rfl⟩
    try simp (config := {decide := true, dsimp := false}) only [Wxs_nil, Wxs_cons, Wx_asg, Wx_own, Wx_aug, Wx_seti, Wx_ex, Wx_ret, Wx_retN, Wx_brk, Wx_cnt, Wx_pass, Wx_ite, Wx_for, Wx_fit, We_var, We_mov, We_pk, We_int, We_str, We_bl, We_non, We_glob, We_bin, We_cmp, We_idx, We_neg, We_not, We_and, We_or, We_ife, We_chain, Wes_nil, Wes_cons, Wec_nil, Wec_cons, Wea_nil, Wea_cons, Wea_ref, Wea_lend, We_calll, Wei_rd, Wep_n, Wep_s, We_tup, We_lst, We_call, We_bi, We_meth, We_slc, We_lc, We_lc2, We_mx, We_rev, We_dnew, We_dsp, We_dget, Wx_setd, We_lsc, We_callv, fnN_fnD, Odd_b, Osk_b, obD_l, obD_d, dfl, Wei_zip, Old_b, Wei_seq, Wei_enum, Wei_r1, Wei_r2, Ov_some, Ov_none, Ov_if, Ov_map, Cnd_t, Cnd_f, Aft_n, Aft_s, Obo_b, Oi_b, Ofr_b, Od_b, Ol_b, Osd_b, Osb_b, Ore_v, Ore_f, Sq_nx, Sq_rt, Sq_bk, Sq_ct, Lt_n, Lt_b, Fn1_nx, Fn1_rv, Fn1_rf, Fin1_n, Fin1_s, TurnQ_nx, TurnQ_ct, TurnQ_bk, TurnQ_rt, toC_v, toC_f, toC_p, toV, argsOf, argsL, flatR, flatD, refs, asT, asTs, bo, co, DP.bi, ix, augD, DP.meth, DP.slice, optI, seqOf, DP.wipe, back, DP.free, isI, truth, toInts_map, DP.isNon, sm64_a, sm64_b, sm64_c, sm64_d, pow_a, at0, at1, at2, at3, List.getElem?_cons_zero, List.getElem?_cons_succ, List.getElem?_nil, List.set_cons_zero, List.set_cons_succ, List.mapM_cons, List.mapM_nil, Option.pure_def, Option.bind_eq_bind, Option.bind_some, Option.map_some, Option.map_none, Option.getD_some, Option.getD_none, Option.join_some, List.length_cons, List.length_nil, List.length_map, List.map_cons, List.map_nil, List.cons_append, List.nil_append, List.getD_cons_zero, List.getD_cons_succ, Nat.reduceAdd, Nat.reduceSub, Nat.reduceLeDiff, Nat.reduceLT, Int.reduceLT, Int.reduceLE, Int.reduceNeg, Int.reducePow, Nat.reduceMul, Int.reduceAdd, Int.reduceSub, Int.reduceMul, Int.reduceToNat, Bool.not_true, Bool.not_false, Bool.and_true, Bool.true_and, Bool.and_false, Bool.false_and, Bool.or_true, Bool.or_false, Bool.true_or, Bool.false_or, decide_true, decide_false, and_true, true_and, and_false, false_and, or_true, or_false, true_or, false_or, if_true, if_false, eqv_int, eqv_str, eqv_bool, shp_int, shp_bool, shp_non, toBools_map, Bool.and_self, eq_self, Bool.false_eq_true, reduceCtorEq, reduceIte, List.all_cons, List.all_nil, slotOf, List.replicate_zero, List.append_nil, List.replicate_succ]
    exact h
theorem same_lg {n : Nat} {p : List Int} {Q : R → Option OB → Prop} (hl2 : p.length ≤ 1000) (h : Q (.v (.bool true)) none) : Wc (sm (n + 3)) "_law_same" [.v (.tuple (p.map ent0)), .v (.tuple (p.map ent0))] Q := by
  (refine Wc_ok pf_law_same rfl ?_; unfold f_law_same; dsimp only)
  try simp (config := {decide := true, dsimp := false}) only [Wxs_nil, Wxs_cons, Wx_asg, Wx_own, Wx_aug, Wx_seti, Wx_ex, Wx_ret, Wx_retN, Wx_brk, Wx_cnt, Wx_pass, Wx_ite, Wx_for, Wx_fit, We_var, We_mov, We_pk, We_int, We_str, We_bl, We_non, We_glob, We_bin, We_cmp, We_idx, We_neg, We_not, We_and, We_or, We_ife, We_chain, Wes_nil, Wes_cons, Wec_nil, Wec_cons, Wea_nil, Wea_cons, Wea_ref, Wea_lend, We_calll, Wei_rd, Wep_n, Wep_s, We_tup, We_lst, We_call, We_bi, We_meth, We_slc, We_lc, We_lc2, We_mx, We_rev, We_dnew, We_dsp, We_dget, Wx_setd, We_lsc, We_callv, fnN_fnD, Odd_b, Osk_b, obD_l, obD_d, dfl, Wei_zip, Old_b, Wei_seq, Wei_enum, Wei_r1, Wei_r2, Ov_some, Ov_none, Ov_if, Ov_map, Cnd_t, Cnd_f, Aft_n, Aft_s, Obo_b, Oi_b, Ofr_b, Od_b, Ol_b, Osd_b, Osb_b, Ore_v, Ore_f, Sq_nx, Sq_rt, Sq_bk, Sq_ct, Lt_n, Lt_b, Fn1_nx, Fn1_rv, Fn1_rf, Fin1_n, Fin1_s, TurnQ_nx, TurnQ_ct, TurnQ_bk, TurnQ_rt, toC_v, toC_f, toC_p, toV, argsOf, argsL, flatR, flatD, refs, asT, asTs, bo, co, DP.bi, ix, augD, DP.meth, DP.slice, optI, seqOf, DP.wipe, back, DP.free, isI, truth, toInts_map, DP.isNon, sm64_a, sm64_b, sm64_c, sm64_d, pow_a, at0, at1, at2, at3, List.getElem?_cons_zero, List.getElem?_cons_succ, List.getElem?_nil, List.set_cons_zero, List.set_cons_succ, List.mapM_cons, List.mapM_nil, Option.pure_def, Option.bind_eq_bind, Option.bind_some, Option.map_some, Option.map_none, Option.getD_some, Option.getD_none, Option.join_some, List.length_cons, List.length_nil, List.length_map, List.map_cons, List.map_nil, List.cons_append, List.nil_append, List.getD_cons_zero, List.getD_cons_succ, Nat.reduceAdd, Nat.reduceSub, Nat.reduceLeDiff, Nat.reduceLT, Int.reduceLT, Int.reduceLE, Int.reduceNeg, Int.reducePow, Nat.reduceMul, Int.reduceAdd, Int.reduceSub, Int.reduceMul, Int.reduceToNat, Bool.not_true, Bool.not_false, Bool.and_true, Bool.true_and, Bool.and_false, Bool.false_and, Bool.or_true, Bool.or_false, Bool.true_or, Bool.false_or, decide_true, decide_false, and_true, true_and, and_false, false_and, or_true, or_false, true_or, false_or, if_true, if_false, eqv_int, eqv_str, eqv_bool, shp_int, shp_bool, shp_non, toBools_map, Bool.and_self, eq_self, Bool.false_eq_true, reduceCtorEq, reduceIte, List.all_cons, List.all_nil, slotOf, List.replicate_zero, List.append_nil, List.replicate_succ]
  refine ⟨by simp [small62]; omega, ?_⟩
  refine For_ok (fun i ρ => ∃ s : DP.Slot, ρ = [.v (.tuple (p.map ent0)), .v (.tuple (p.map ent0)), s]) ⟨_, rfl⟩ ?_ ?_
  · rintro i dd ρ hd ⟨s, rfl⟩
    obtain ⟨hi, rfl⟩ := irange0_at hd
    have hi2 : i < p.length := by omega
    have e : atD (p.map ent0) (i : Int) = some (.tuple [.int 0, .int p[i]]) := L2.atI_nat (by rw [List.getElem?_map, List.getElem?_eq_getElem hi2]; rfl)
    try simp (config := {decide := true, dsimp := false}) only [Wxs_nil, Wxs_cons, Wx_asg, Wx_own, Wx_aug, Wx_seti, Wx_ex, Wx_ret, Wx_retN, Wx_brk, Wx_cnt, Wx_pass, Wx_ite, Wx_for, Wx_fit, We_var, We_mov, We_pk, We_int, We_str, We_bl, We_non, We_glob, We_bin, We_cmp, We_idx, We_neg, We_not, We_and, We_or, We_ife, We_chain, Wes_nil, Wes_cons, Wec_nil, Wec_cons, Wea_nil, Wea_cons, Wea_ref, Wea_lend, We_calll, Wei_rd, Wep_n, Wep_s, We_tup, We_lst, We_call, We_bi, We_meth, We_slc, We_lc, We_lc2, We_mx, We_rev, We_dnew, We_dsp, We_dget, Wx_setd, We_lsc, We_callv, fnN_fnD, Odd_b, Osk_b, obD_l, obD_d, dfl, Wei_zip, Old_b, Wei_seq, Wei_enum, Wei_r1, Wei_r2, Ov_some, Ov_none, Ov_if, Ov_map, Cnd_t, Cnd_f, Aft_n, Aft_s, Obo_b, Oi_b, Ofr_b, Od_b, Ol_b, Osd_b, Osb_b, Ore_v, Ore_f, Sq_nx, Sq_rt, Sq_bk, Sq_ct, Lt_n, Lt_b, Fn1_nx, Fn1_rv, Fn1_rf, Fin1_n, Fin1_s, TurnQ_nx, TurnQ_ct, TurnQ_bk, TurnQ_rt, toC_v, toC_f, toC_p, toV, argsOf, argsL, flatR, flatD, refs, asT, asTs, bo, co, DP.bi, ix, augD, DP.meth, DP.slice, optI, seqOf, DP.wipe, back, DP.free, isI, truth, toInts_map, DP.isNon, sm64_a, sm64_b, sm64_c, sm64_d, pow_a, at0, at1, at2, at3, List.getElem?_cons_zero, List.getElem?_cons_succ, List.getElem?_nil, List.set_cons_zero, List.set_cons_succ, List.mapM_cons, List.mapM_nil, Option.pure_def, Option.bind_eq_bind, Option.bind_some, Option.map_some, Option.map_none, Option.getD_some, Option.getD_none, Option.join_some, List.length_cons, List.length_nil, List.length_map, List.map_cons, List.map_nil, List.cons_append, List.nil_append, List.getD_cons_zero, List.getD_cons_succ, Nat.reduceAdd, Nat.reduceSub, Nat.reduceLeDiff, Nat.reduceLT, Int.reduceLT, Int.reduceLE, Int.reduceNeg, Int.reducePow, Nat.reduceMul, Int.reduceAdd, Int.reduceSub, Int.reduceMul, Int.reduceToNat, Bool.not_true, Bool.not_false, Bool.and_true, Bool.true_and, Bool.and_false, Bool.false_and, Bool.or_true, Bool.or_false, Bool.true_or, Bool.false_or, decide_true, decide_false, and_true, true_and, and_false, false_and, or_true, or_false, true_or, false_or, if_true, if_false, eqv_int, eqv_str, eqv_bool, shp_int, shp_bool, shp_non, toBools_map, Bool.and_self, eq_self, Bool.false_eq_true, reduceCtorEq, reduceIte, List.all_cons, List.all_nil, slotOf, List.replicate_zero, List.append_nil, List.replicate_succ, e]
    refine same_ent (n := n) ?_
    try simp (config := {decide := true, dsimp := false}) only [Wxs_nil, Wxs_cons, Wx_asg, Wx_own, Wx_aug, Wx_seti, Wx_ex, Wx_ret, Wx_retN, Wx_brk, Wx_cnt, Wx_pass, Wx_ite, Wx_for, Wx_fit, We_var, We_mov, We_pk, We_int, We_str, We_bl, We_non, We_glob, We_bin, We_cmp, We_idx, We_neg, We_not, We_and, We_or, We_ife, We_chain, Wes_nil, Wes_cons, Wec_nil, Wec_cons, Wea_nil, Wea_cons, Wea_ref, Wea_lend, We_calll, Wei_rd, Wep_n, Wep_s, We_tup, We_lst, We_call, We_bi, We_meth, We_slc, We_lc, We_lc2, We_mx, We_rev, We_dnew, We_dsp, We_dget, Wx_setd, We_lsc, We_callv, fnN_fnD, Odd_b, Osk_b, obD_l, obD_d, dfl, Wei_zip, Old_b, Wei_seq, Wei_enum, Wei_r1, Wei_r2, Ov_some, Ov_none, Ov_if, Ov_map, Cnd_t, Cnd_f, Aft_n, Aft_s, Obo_b, Oi_b, Ofr_b, Od_b, Ol_b, Osd_b, Osb_b, Ore_v, Ore_f, Sq_nx, Sq_rt, Sq_bk, Sq_ct, Lt_n, Lt_b, Fn1_nx, Fn1_rv, Fn1_rf, Fin1_n, Fin1_s, TurnQ_nx, TurnQ_ct, TurnQ_bk, TurnQ_rt, toC_v, toC_f, toC_p, toV, argsOf, argsL, flatR, flatD, refs, asT, asTs, bo, co, DP.bi, ix, augD, DP.meth, DP.slice, optI, seqOf, DP.wipe, back, DP.free, isI, truth, toInts_map, DP.isNon, sm64_a, sm64_b, sm64_c, sm64_d, pow_a, at0, at1, at2, at3, List.getElem?_cons_zero, List.getElem?_cons_succ, List.getElem?_nil, List.set_cons_zero, List.set_cons_succ, List.mapM_cons, List.mapM_nil, Option.pure_def, Option.bind_eq_bind, Option.bind_some, Option.map_some, Option.map_none, Option.getD_some, Option.getD_none, Option.join_some, List.length_cons, List.length_nil, List.length_map, List.map_cons, List.map_nil, List.cons_append, List.nil_append, List.getD_cons_zero, List.getD_cons_succ, Nat.reduceAdd, Nat.reduceSub, Nat.reduceLeDiff, Nat.reduceLT, Int.reduceLT, Int.reduceLE, Int.reduceNeg, Int.reducePow, Nat.reduceMul, Int.reduceAdd, Int.reduceSub, Int.reduceMul, Int.reduceToNat, Bool.not_true, Bool.not_false, Bool.and_true, Bool.true_and, Bool.and_false, Bool.false_and, Bool.or_true, Bool.or_false, Bool.true_or, Bool.false_or, decide_true, decide_false, and_true, true_and, and_false, false_and, or_true, or_false, true_or, false_or, if_true, if_false, eqv_int, eqv_str, eqv_bool, shp_int, shp_bool, shp_non, toBools_map, Bool.and_self, eq_self, Bool.false_eq_true, reduceCtorEq, reduceIte, List.all_cons, List.all_nil, slotOf, List.replicate_zero, List.append_nil, List.replicate_succ]
    exact ⟨_, rfl⟩
  · rintro ρ ⟨s, rfl⟩
    try simp (config := {decide := true, dsimp := false}) only [Wxs_nil, Wxs_cons, Wx_asg, Wx_own, Wx_aug, Wx_seti, Wx_ex, Wx_ret, Wx_retN, Wx_brk, Wx_cnt, Wx_pass, Wx_ite, Wx_for, Wx_fit, We_var, We_mov, We_pk, We_int, We_str, We_bl, We_non, We_glob, We_bin, We_cmp, We_idx, We_neg, We_not, We_and, We_or, We_ife, We_chain, Wes_nil, Wes_cons, Wec_nil, Wec_cons, Wea_nil, Wea_cons, Wea_ref, Wea_lend, We_calll, Wei_rd, Wep_n, Wep_s, We_tup, We_lst, We_call, We_bi, We_meth, We_slc, We_lc, We_lc2, We_mx, We_rev, We_dnew, We_dsp, We_dget, Wx_setd, We_lsc, We_callv, fnN_fnD, Odd_b, Osk_b, obD_l, obD_d, dfl, Wei_zip, Old_b, Wei_seq, Wei_enum, Wei_r1, Wei_r2, Ov_some, Ov_none, Ov_if, Ov_map, Cnd_t, Cnd_f, Aft_n, Aft_s, Obo_b, Oi_b, Ofr_b, Od_b, Ol_b, Osd_b, Osb_b, Ore_v, Ore_f, Sq_nx, Sq_rt, Sq_bk, Sq_ct, Lt_n, Lt_b, Fn1_nx, Fn1_rv, Fn1_rf, Fin1_n, Fin1_s, TurnQ_nx, TurnQ_ct, TurnQ_bk, TurnQ_rt, toC_v, toC_f, toC_p, toV, argsOf, argsL, flatR, flatD, refs, asT, asTs, bo, co, DP.bi, ix, augD, DP.meth, DP.slice, optI, seqOf, DP.wipe, back, DP.free, isI, truth, toInts_map, DP.isNon, sm64_a, sm64_b, sm64_c, sm64_d, pow_a, at0, at1, at2, at3, List.getElem?_cons_zero, List.getElem?_cons_succ, List.getElem?_nil, List.set_cons_zero, List.set_cons_succ, List.mapM_cons, List.mapM_nil, Option.pure_def, Option.bind_eq_bind, Option.bind_some, Option.map_some, Option.map_none, Option.getD_some, Option.getD_none, Option.join_some, List.length_cons, List.length_nil, List.length_map, List.map_cons, List.map_nil, List.cons_append, List.nil_append, List.getD_cons_zero, List.getD_cons_succ, Nat.reduceAdd, Nat.reduceSub, Nat.reduceLeDiff, Nat.reduceLT, Int.reduceLT, Int.reduceLE, Int.reduceNeg, Int.reducePow, Nat.reduceMul, Int.reduceAdd, Int.reduceSub, Int.reduceMul, Int.reduceToNat, Bool.not_true, Bool.not_false, Bool.and_true, Bool.true_and, Bool.and_false, Bool.false_and, Bool.or_true, Bool.or_false, Bool.true_or, Bool.false_or, decide_true, decide_false, and_true, true_and, and_false, false_and, or_true, or_false, true_or, false_or, if_true, if_false, eqv_int, eqv_str, eqv_bool, shp_int, shp_bool, shp_non, toBools_map, Bool.and_self, eq_self, Bool.false_eq_true, reduceCtorEq, reduceIte, List.all_cons, List.all_nil, slotOf, List.replicate_zero, List.append_nil, List.replicate_succ]
    exact h
theorem count_ok {n : Nat} {a b : Int} {Q : R → Option OB → Prop} (e : a = b) (h : Q (.v (.bool true)) none) : Wc (sm (n + 1)) "_law_is_count" [.v (.int a), .v (.int b)] Q := by
  subst e
  (refine Wc_ok pf_law_is_count rfl ?_; unfold f_law_is_count; dsimp only)
  try simp (config := {decide := true, dsimp := false}) only [Wxs_nil, Wxs_cons, Wx_asg, Wx_own, Wx_aug, Wx_seti, Wx_ex, Wx_ret, Wx_retN, Wx_brk, Wx_cnt, Wx_pass, Wx_ite, Wx_for, Wx_fit, We_var, We_mov, We_pk, We_int, We_str, We_bl, We_non, We_glob, We_bin, We_cmp, We_idx, We_neg, We_not, We_and, We_or, We_ife, We_chain, Wes_nil, Wes_cons, Wec_nil, Wec_cons, Wea_nil, Wea_cons, Wea_ref, Wea_lend, We_calll, Wei_rd, Wep_n, Wep_s, We_tup, We_lst, We_call, We_bi, We_meth, We_slc, We_lc, We_lc2, We_mx, We_rev, We_dnew, We_dsp, We_dget, Wx_setd, We_lsc, We_callv, fnN_fnD, Odd_b, Osk_b, obD_l, obD_d, dfl, Wei_zip, Old_b, Wei_seq, Wei_enum, Wei_r1, Wei_r2, Ov_some, Ov_none, Ov_if, Ov_map, Cnd_t, Cnd_f, Aft_n, Aft_s, Obo_b, Oi_b, Ofr_b, Od_b, Ol_b, Osd_b, Osb_b, Ore_v, Ore_f, Sq_nx, Sq_rt, Sq_bk, Sq_ct, Lt_n, Lt_b, Fn1_nx, Fn1_rv, Fn1_rf, Fin1_n, Fin1_s, TurnQ_nx, TurnQ_ct, TurnQ_bk, TurnQ_rt, toC_v, toC_f, toC_p, toV, argsOf, argsL, flatR, flatD, refs, asT, asTs, bo, co, DP.bi, ix, augD, DP.meth, DP.slice, optI, seqOf, DP.wipe, back, DP.free, isI, truth, toInts_map, DP.isNon, sm64_a, sm64_b, sm64_c, sm64_d, pow_a, at0, at1, at2, at3, List.getElem?_cons_zero, List.getElem?_cons_succ, List.getElem?_nil, List.set_cons_zero, List.set_cons_succ, List.mapM_cons, List.mapM_nil, Option.pure_def, Option.bind_eq_bind, Option.bind_some, Option.map_some, Option.map_none, Option.getD_some, Option.getD_none, Option.join_some, List.length_cons, List.length_nil, List.length_map, List.map_cons, List.map_nil, List.cons_append, List.nil_append, List.getD_cons_zero, List.getD_cons_succ, Nat.reduceAdd, Nat.reduceSub, Nat.reduceLeDiff, Nat.reduceLT, Int.reduceLT, Int.reduceLE, Int.reduceNeg, Int.reducePow, Nat.reduceMul, Int.reduceAdd, Int.reduceSub, Int.reduceMul, Int.reduceToNat, Bool.not_true, Bool.not_false, Bool.and_true, Bool.true_and, Bool.and_false, Bool.false_and, Bool.or_true, Bool.or_false, Bool.true_or, Bool.false_or, decide_true, decide_false, and_true, true_and, and_false, false_and, or_true, or_false, true_or, false_or, if_true, if_false, eqv_int, eqv_str, eqv_bool, shp_int, shp_bool, shp_non, toBools_map, Bool.and_self, eq_self, Bool.false_eq_true, reduceCtorEq, reduceIte, List.all_cons, List.all_nil, slotOf, List.replicate_zero, List.append_nil, List.replicate_succ]
  exact h
end K96
namespace K96
open PySem L2 DP
open DPK
abbrev enc (r : List Int) : D := .tuple (r.map ent0)
def LS (n : Nat) : List (List Int) := (tgR n n).filter pT
theorem lexI_app : ∀ (r : List Int) {a b : Int}, a < b → lexI (r ++ [a]) (r ++ [b])
  | [], _, _, h => .inl h
  | x :: r, _, _, h => .inr ⟨rfl, lexI_app r h⟩
theorem lexI_mono : ∀ (r q : List Int) {a b : Int}, lexI r q → lexI (r ++ [a]) (q ++ [b])
  | x :: r, y :: q, _, _, h => by
    rcases h with h | ⟨e, h⟩
    · exact .inl h
    · exact .inr ⟨e, lexI_mono r q h⟩
  | [], _, _, _, h => by cases h
  | _ :: _, [], _, _, h => by cases h
theorem tgR_lex (n : Nat) : ∀ k, (tgR n k).Pairwise lexI
  | 0 => List.pairwise_singleton _ _
  | k + 1 => by
    unfold tgR
    rw [List.pairwise_flatMap]
    refine ⟨fun r _ => ?_, (tgR_lex n k).imp fun {a b} h x hx y hy => ?_⟩
    · unfold nx
      rw [List.pairwise_map]
      exact List.pairwise_lt_range.imp fun h => lexI_app r (by omega)
    · obtain ⟨i, _, rfl⟩ := List.mem_map.mp hx
      obtain ⟨j, _, rfl⟩ := List.mem_map.mp hy
      exact lexI_mono a b h
theorem LS_lex (n : Nat) : (LS n).Pairwise lexI := (tgR_lex n n).filter _
theorem tgR_nn (n : Nat) : ∀ k, ∀ r ∈ tgR n k, NN r
  | 0 => by
    intro r hr
    rw [List.mem_singleton.mp hr]
    exact nofun
  | k + 1 => fun r hr => by
    obtain ⟨r0, h0, h1⟩ := List.mem_flatMap.mp hr
    obtain ⟨v, _, rfl⟩ := List.mem_map.mp h1
    exact (tgR_nn n k r0 h0).snoc (by omega)
theorem mxn_m1 {r : List Int} (h : NN r) : mxn r = DP.maxL (-1) r + 1 := by
  cases r with
  | nil => rfl
  | cons a q =>
    have ha := h a List.mem_cons_self
    rw [mxn_cons ha, DP.maxL, if_pos (by omega)]
theorem LS_row {n : Nat} {r : List Int} (h : r ∈ LS n) : Row n r := by
  obtain ⟨h1, h2⟩ := List.mem_filter.mp h
  refine ⟨tgR_row n n r h1, tgR_nn n n r h1, ?_⟩
  have h3 := of_decide_eq_true h2
  have h4 := mxn_m1 (tgR_nn n n r h1)
  unfold hl us
  omega
theorem LS_fact : ((List.range 6).all fun n => decide ((((tgR n n).filter pT).length : Int) = (itO n n).sum)) = true := by decide +kernel
theorem LS_len {n : Nat} (h : n ≤ 5) : (LS n).length = W n 0 0 := by
  have := of_decide_eq_true (List.all_eq_true.mp LS_fact n (List.mem_range.mpr (by omega)))
  rw [orders_W] at this
  exact Int.ofNat.inj this
theorem inc_len : ∀ {l : List Nat} {p q : Nat}, l.Pairwise (· < ·) → (∀ x ∈ l, p ≤ x ∧ x < q) → l.length ≤ q - p
  | [], _, _, _, _ => Nat.zero_le _
  | a :: t, p, q, h, hb => by
    obtain ⟨h1, h2⟩ := List.pairwise_cons.mp h
    have ha := hb a List.mem_cons_self
    have := inc_len (p := a + 1) (q := q) h2 fun x hx => ⟨h1 x hx, (hb x (List.mem_cons_of_mem _ hx)).2⟩
    rw [List.length_cons]
    omega
theorem inc_at : ∀ {l : List Nat} {c : Nat}, l.Pairwise (· < ·) → (∀ x ∈ l, c ≤ x ∧ x < c + l.length) → ∀ i x, l[i]? = some x → x = c + i
  | [], _, _, _, i, x, h => by simp at h
  | a :: t, c, h, hb, i, x, hi => by
    obtain ⟨h1, h2⟩ := List.pairwise_cons.mp h
    have ha := hb a List.mem_cons_self
    rw [List.length_cons] at hb ha
    have l1 := inc_len (p := a + 1) (q := c + (t.length + 1)) h2 fun x hx => ⟨h1 x hx, (hb x (List.mem_cons_of_mem _ hx)).2⟩
    have ea : a = c := by omega
    subst ea
    cases i with
    | zero => simp at hi; omega
    | succ i =>
      have := inc_at (c := a + 1) h2 (fun x hx => ⟨h1 x hx, by have := (hb x (List.mem_cons_of_mem _ hx)).2; omega⟩) i x (by simpa using hi)
      omega
theorem LS_num {n i : Nat} {r : List Int} (hn : n ≤ 5) (h : (LS n)[i]? = some r) : numN n r = i := by
  have hp : ((LS n).map (numN n)).Pairwise (· < ·) := by
    rw [List.pairwise_map]
    have h2 : (LS n).Pairwise fun a b => a ∈ LS n ∧ b ∈ LS n ∧ lexI a b := by
      refine List.Pairwise.imp_of_mem (fun {a b} ha hb h => ⟨ha, hb, h⟩) (LS_lex n)
    exact h2.imp fun h => lex_num _ _ [] (LS_row h.1) (LS_row h.2.1) h.2.2
  have := inc_at (c := 0) hp (fun x hx => by
    obtain ⟨r, hr, rfl⟩ := List.mem_map.mp hx
    rw [List.length_map, LS_len hn]
    exact ⟨Nat.zero_le _, by have := numN_lt (LS_row hr); omega⟩) i (numN n r) (by rw [List.getElem?_map, h]; rfl)
  omega
theorem lg_ge' : ∀ p q : List Int, lexI p q → PyProof.Rows.lexLt PyProof.Rows.itemOrd (PySem.W.keyToksAll (q.map ent0)) (PySem.W.keyToksAll (p.map ent0)) = false
  | a :: p, b :: q, h => by
    rw [List.map_cons, List.map_cons, PySem.W.dataLt_cons (ent_alike b a), ent_eqv, ent_lt]
    rcases h with h | ⟨rfl, h⟩
    · rw [if_neg (by rw [decide_eq_true_eq]; omega)]
      exact decide_eq_false (by omega)
    · rw [if_pos (decide_eq_true rfl)]
      exact lg_ge' p q h
  | [], _, h => by cases h
  | _ :: _, [], h => by cases h
theorem lg_ge {p q : List Int} (h : lexI p q) : PySem.W.dataLt (enc q) (enc p) = false := by
  rw [PySem.W.dataLt_tuple]
  exact lg_ge' p q h
theorem lgs_shp (l : List (List Int)) : SeqAt.shaped (.list (l.map enc)) = true := by
  have hc : ∀ p : List Int, (enc p).canLay0 = true ∧ (enc p).depth ≤ 2 := fun p => by
    have h := lg_shp p
    refine ⟨SeqAt.canLay_of_shaped h, ?_⟩
    have h2 : ∀ q : List Int, PyData.depthAll (q.map ent0) ≤ 1 := fun q => by
      induction q with
      | nil => exact Nat.zero_le _
      | cons a q ih =>
        rw [List.map_cons, PyData.depthAll]
        have : (ent0 a).depth = 1 := rfl
        omega
    have := h2 p
    unfold enc
    rw [PyData.depth]
    omega
  have h1 : PyData.canLayAll0 (l.map enc) = true ∧ PyData.depthAll (l.map enc) ≤ 2 := by
    induction l with
    | nil => exact ⟨rfl, Nat.zero_le _⟩
    | cons a l ih =>
      rw [List.map_cons, PyData.canLayAll0, PyData.depthAll, (hc a).1, ih.1]
      have := (hc a).2
      exact ⟨rfl, by omega⟩
  unfold SeqAt.shaped
  rw [Bool.and_eq_true]
  refine ⟨by rw [PyData.canLay0]; exact h1.1, decide_eq_true ?_⟩
  rw [PyData.depth]
  omega
theorem LS_sort {n : Nat} (hn : n ≤ 5) : DP.sortD ((LS n).map enc) = some ((LS n).map enc) := by
  unfold DP.sortD
  split
  · rfl
  · rename_i h
    have hne : ∀ r ∈ LS n, ∃ a q, r = a :: q := fun r hr => by
      cases r with
      | cons a q => exact ⟨a, q, rfl⟩
      | nil =>
        have := (LS_row hr).len
        subst this
        exact absurd (by decide : ((LS 0).map enc).length ≤ 1) h
    rw [if_pos]
    · congr 1
      refine List.mergeSort_of_pairwise ?_
      rw [List.pairwise_map]
      refine (LS_lex n).imp fun {a b} h => ?_
      show (!PySem.W.dataLt (enc b) (enc a)) = true
      rw [lg_ge h]
      rfl
    · rw [Bool.and_eq_true, Bool.and_eq_true]
      refine ⟨⟨?_, ?_⟩, lgs_shp _⟩
      · rw [List.all_eq_true]
        intro x hx
        rw [List.all_eq_true]
        intro y hy
        obtain ⟨p, _, rfl⟩ := List.mem_map.mp hx
        obtain ⟨q, _, rfl⟩ := List.mem_map.mp hy
        exact lg_alike p q
      · rw [Bool.or_eq_true]
        refine .inl ?_
        rw [List.all_eq_true]
        intro x hx
        obtain ⟨p, hp, rfl⟩ := List.mem_map.mp hx
        obtain ⟨a, q, rfl⟩ := hne p hp
        rfl
end K96
namespace K96
open PySem L2 DP
open DPK
theorem W_pos' {n : Nat} (hn : n ≤ 5) : 0 < W n 0 0 := by
  have : n = 0 ∨ n = 1 ∨ n = 2 ∨ n = 3 ∨ n = 4 ∨ n = 5 := by omega
  rcases this with rfl | rfl | rfl | rfl | rfl | rfl <;> decide +kernel
theorem ord_ok {N n : Nat} {Q : R → Option OB → Prop} (hn : n ≤ 40) (h : Q (.v (.int (W n 0 0 : Nat))) none) : Wc (sm (N + 1)) "orders" [.v (.int n)] Q := by
  refine orders_ok (by omega) ?_
  rw [orders_W]
  exact h
theorem law_true : ∀ ns : List Int, ns.length ≤ 63 → (∀ z ∈ ns, PySem.Builtin.Int.intBits z ≤ 1048576) → sm 60 "law" [.v (.list (ns.map .int))] = some (.v (.bool true), none) := by
  intro ns hl hb
  refine Wc_eq ?_
  (refine Wc_ok pf_law rfl ?_; unfold f_law; dsimp only)
  try simp (config := {decide := true, dsimp := false}) only [Wxs_nil, Wxs_cons, Wx_asg, Wx_own, Wx_aug, Wx_seti, Wx_ex, Wx_ret, Wx_retN, Wx_brk, Wx_cnt, Wx_pass, Wx_ite, Wx_for, Wx_fit, We_var, We_mov, We_pk, We_int, We_str, We_bl, We_non, We_glob, We_bin, We_cmp, We_idx, We_neg, We_not, We_and, We_or, We_ife, We_chain, Wes_nil, Wes_cons, Wec_nil, Wec_cons, Wea_nil, Wea_cons, Wea_ref, Wea_lend, We_calll, Wei_rd, Wep_n, Wep_s, We_tup, We_lst, We_call, We_bi, We_meth, We_slc, We_lc, We_lc2, We_mx, We_rev, We_dnew, We_dsp, We_dget, Wx_setd, We_lsc, We_callv, fnN_fnD, Odd_b, Osk_b, obD_l, obD_d, dfl, Wei_zip, Old_b, Wei_seq, Wei_enum, Wei_r1, Wei_r2, Ov_some, Ov_none, Ov_if, Ov_map, Cnd_t, Cnd_f, Aft_n, Aft_s, Obo_b, Oi_b, Ofr_b, Od_b, Ol_b, Osd_b, Osb_b, Ore_v, Ore_f, Sq_nx, Sq_rt, Sq_bk, Sq_ct, Lt_n, Lt_b, Fn1_nx, Fn1_rv, Fn1_rf, Fin1_n, Fin1_s, TurnQ_nx, TurnQ_ct, TurnQ_bk, TurnQ_rt, toC_v, toC_f, toC_p, toV, argsOf, argsL, flatR, flatD, refs, asT, asTs, bo, co, DP.bi, ix, augD, DP.meth, DP.slice, optI, seqOf, DP.wipe, back, DP.free, isI, truth, toInts_map, DP.isNon, sm64_a, sm64_b, sm64_c, sm64_d, pow_a, at0, at1, at2, at3, List.getElem?_cons_zero, List.getElem?_cons_succ, List.getElem?_nil, List.set_cons_zero, List.set_cons_succ, List.mapM_cons, List.mapM_nil, Option.pure_def, Option.bind_eq_bind, Option.bind_some, Option.map_some, Option.map_none, Option.getD_some, Option.getD_none, Option.join_some, List.length_cons, List.length_nil, List.length_map, List.map_cons, List.map_nil, List.cons_append, List.nil_append, List.getD_cons_zero, List.getD_cons_succ, Nat.reduceAdd, Nat.reduceSub, Nat.reduceLeDiff, Nat.reduceLT, Int.reduceLT, Int.reduceLE, Int.reduceNeg, Int.reducePow, Nat.reduceMul, Int.reduceAdd, Int.reduceSub, Int.reduceMul, Int.reduceToNat, Bool.not_true, Bool.not_false, Bool.and_true, Bool.true_and, Bool.and_false, Bool.false_and, Bool.or_true, Bool.or_false, Bool.true_or, Bool.false_or, decide_true, decide_false, and_true, true_and, and_false, false_and, or_true, or_false, true_or, false_or, if_true, if_false, eqv_int, eqv_str, eqv_bool, shp_int, shp_bool, shp_non, toBools_map, Bool.and_self, eq_self, Bool.false_eq_true, reduceCtorEq, reduceIte, List.all_cons, List.all_nil, slotOf, List.replicate_zero, List.append_nil, List.replicate_succ]
  refine draws_ok (n := 58) (m := 50) hl (by omega) fun ds => ?_
  try simp (config := {decide := true, dsimp := false}) only [Wxs_nil, Wxs_cons, Wx_asg, Wx_own, Wx_aug, Wx_seti, Wx_ex, Wx_ret, Wx_retN, Wx_brk, Wx_cnt, Wx_pass, Wx_ite, Wx_for, Wx_fit, We_var, We_mov, We_pk, We_int, We_str, We_bl, We_non, We_glob, We_bin, We_cmp, We_idx, We_neg, We_not, We_and, We_or, We_ife, We_chain, Wes_nil, Wes_cons, Wec_nil, Wec_cons, Wea_nil, Wea_cons, Wea_ref, Wea_lend, We_calll, Wei_rd, Wep_n, Wep_s, We_tup, We_lst, We_call, We_bi, We_meth, We_slc, We_lc, We_lc2, We_mx, We_rev, We_dnew, We_dsp, We_dget, Wx_setd, We_lsc, We_callv, fnN_fnD, Odd_b, Osk_b, obD_l, obD_d, dfl, Wei_zip, Old_b, Wei_seq, Wei_enum, Wei_r1, Wei_r2, Ov_some, Ov_none, Ov_if, Ov_map, Cnd_t, Cnd_f, Aft_n, Aft_s, Obo_b, Oi_b, Ofr_b, Od_b, Ol_b, Osd_b, Osb_b, Ore_v, Ore_f, Sq_nx, Sq_rt, Sq_bk, Sq_ct, Lt_n, Lt_b, Fn1_nx, Fn1_rv, Fn1_rf, Fin1_n, Fin1_s, TurnQ_nx, TurnQ_ct, TurnQ_bk, TurnQ_rt, toC_v, toC_f, toC_p, toV, argsOf, argsL, flatR, flatD, refs, asT, asTs, bo, co, DP.bi, ix, augD, DP.meth, DP.slice, optI, seqOf, DP.wipe, back, DP.free, isI, truth, toInts_map, DP.isNon, sm64_a, sm64_b, sm64_c, sm64_d, pow_a, at0, at1, at2, at3, List.getElem?_cons_zero, List.getElem?_cons_succ, List.getElem?_nil, List.set_cons_zero, List.set_cons_succ, List.mapM_cons, List.mapM_nil, Option.pure_def, Option.bind_eq_bind, Option.bind_some, Option.map_some, Option.map_none, Option.getD_some, Option.getD_none, Option.join_some, List.length_cons, List.length_nil, List.length_map, List.map_cons, List.map_nil, List.cons_append, List.nil_append, List.getD_cons_zero, List.getD_cons_succ, Nat.reduceAdd, Nat.reduceSub, Nat.reduceLeDiff, Nat.reduceLT, Int.reduceLT, Int.reduceLE, Int.reduceNeg, Int.reducePow, Nat.reduceMul, Int.reduceAdd, Int.reduceSub, Int.reduceMul, Int.reduceToNat, Bool.not_true, Bool.not_false, Bool.and_true, Bool.true_and, Bool.and_false, Bool.false_and, Bool.or_true, Bool.or_false, Bool.true_or, Bool.false_or, decide_true, decide_false, and_true, true_and, and_false, false_and, or_true, or_false, true_or, false_or, if_true, if_false, eqv_int, eqv_str, eqv_bool, shp_int, shp_bool, shp_non, toBools_map, Bool.and_self, eq_self, Bool.false_eq_true, reduceCtorEq, reduceIte, List.all_cons, List.all_nil, slotOf, List.replicate_zero, List.append_nil, List.replicate_succ]
  refine take_ok (n := 58) (by omega) fun b ds b0 b1 => ?_
  obtain ⟨M, hM, eM⟩ : ∃ M : Nat, M ≤ 6 ∧ (5 : Int) + (if decide (b = 3) = true then 1 else 0) = M := by
    by_cases z : b = 3
    · rw [decide_eq_true z]; exact ⟨6, by omega, rfl⟩
    · rw [decide_eq_false z]; exact ⟨5, by omega, rfl⟩
  try simp (config := {decide := true, dsimp := false}) only [Wxs_nil, Wxs_cons, Wx_asg, Wx_own, Wx_aug, Wx_seti, Wx_ex, Wx_ret, Wx_retN, Wx_brk, Wx_cnt, Wx_pass, Wx_ite, Wx_for, Wx_fit, We_var, We_mov, We_pk, We_int, We_str, We_bl, We_non, We_glob, We_bin, We_cmp, We_idx, We_neg, We_not, We_and, We_or, We_ife, We_chain, Wes_nil, Wes_cons, Wec_nil, Wec_cons, Wea_nil, Wea_cons, Wea_ref, Wea_lend, We_calll, Wei_rd, Wep_n, Wep_s, We_tup, We_lst, We_call, We_bi, We_meth, We_slc, We_lc, We_lc2, We_mx, We_rev, We_dnew, We_dsp, We_dget, Wx_setd, We_lsc, We_callv, fnN_fnD, Odd_b, Osk_b, obD_l, obD_d, dfl, Wei_zip, Old_b, Wei_seq, Wei_enum, Wei_r1, Wei_r2, Ov_some, Ov_none, Ov_if, Ov_map, Cnd_t, Cnd_f, Aft_n, Aft_s, Obo_b, Oi_b, Ofr_b, Od_b, Ol_b, Osd_b, Osb_b, Ore_v, Ore_f, Sq_nx, Sq_rt, Sq_bk, Sq_ct, Lt_n, Lt_b, Fn1_nx, Fn1_rv, Fn1_rf, Fin1_n, Fin1_s, TurnQ_nx, TurnQ_ct, TurnQ_bk, TurnQ_rt, toC_v, toC_f, toC_p, toV, argsOf, argsL, flatR, flatD, refs, asT, asTs, bo, co, DP.bi, ix, augD, DP.meth, DP.slice, optI, seqOf, DP.wipe, back, DP.free, isI, truth, toInts_map, DP.isNon, sm64_a, sm64_b, sm64_c, sm64_d, pow_a, at0, at1, at2, at3, List.getElem?_cons_zero, List.getElem?_cons_succ, List.getElem?_nil, List.set_cons_zero, List.set_cons_succ, List.mapM_cons, List.mapM_nil, Option.pure_def, Option.bind_eq_bind, Option.bind_some, Option.map_some, Option.map_none, Option.getD_some, Option.getD_none, Option.join_some, List.length_cons, List.length_nil, List.length_map, List.map_cons, List.map_nil, List.cons_append, List.nil_append, List.getD_cons_zero, List.getD_cons_succ, Nat.reduceAdd, Nat.reduceSub, Nat.reduceLeDiff, Nat.reduceLT, Int.reduceLT, Int.reduceLE, Int.reduceNeg, Int.reducePow, Nat.reduceMul, Int.reduceAdd, Int.reduceSub, Int.reduceMul, Int.reduceToNat, Bool.not_true, Bool.not_false, Bool.and_true, Bool.true_and, Bool.and_false, Bool.false_and, Bool.or_true, Bool.or_false, Bool.true_or, Bool.false_or, decide_true, decide_false, and_true, true_and, and_false, false_and, or_true, or_false, true_or, false_or, if_true, if_false, eqv_int, eqv_str, eqv_bool, shp_int, shp_bool, shp_non, toBools_map, Bool.and_self, eq_self, Bool.false_eq_true, reduceCtorEq, reduceIte, List.all_cons, List.all_nil, slotOf, List.replicate_zero, List.append_nil, List.replicate_succ, eM]
  refine ⟨by simp [small62]; omega, ?_⟩
  refine For_ok (fun i ρ => ∃ (ds : List Int), ∃ s2 s3 s4 s5 s6 s7 s8 : DP.Slot, Fr4 s6 ∧ Fr4 s7 ∧ Fr4 s8 ∧ ρ = [.v (.list (ns.map .int)), .o (.l (ds.map .int)), s2, s3, s4, s5, s6, s7, s8]) ⟨_, _, _, _, _, _, _, _, .inl rfl, .inl rfl, .inl rfl, rfl⟩ ?_ ?_
  · rintro n d ρ hi ⟨ds, s2, s3, s4, s5, s6, s7, s8, z6, z7, z8, rfl⟩
    obtain ⟨hi2, rfl⟩ := irange0_at hi
    have hn : n ≤ 5 := by omega
    try simp (config := {decide := true, dsimp := false}) only [Wxs_nil, Wxs_cons, Wx_asg, Wx_own, Wx_aug, Wx_seti, Wx_ex, Wx_ret, Wx_retN, Wx_brk, Wx_cnt, Wx_pass, Wx_ite, Wx_for, Wx_fit, We_var, We_mov, We_pk, We_int, We_str, We_bl, We_non, We_glob, We_bin, We_cmp, We_idx, We_neg, We_not, We_and, We_or, We_ife, We_chain, Wes_nil, Wes_cons, Wec_nil, Wec_cons, Wea_nil, Wea_cons, Wea_ref, Wea_lend, We_calll, Wei_rd, Wep_n, Wep_s, We_tup, We_lst, We_call, We_bi, We_meth, We_slc, We_lc, We_lc2, We_mx, We_rev, We_dnew, We_dsp, We_dget, Wx_setd, We_lsc, We_callv, fnN_fnD, Odd_b, Osk_b, obD_l, obD_d, dfl, Wei_zip, Old_b, Wei_seq, Wei_enum, Wei_r1, Wei_r2, Ov_some, Ov_none, Ov_if, Ov_map, Cnd_t, Cnd_f, Aft_n, Aft_s, Obo_b, Oi_b, Ofr_b, Od_b, Ol_b, Osd_b, Osb_b, Ore_v, Ore_f, Sq_nx, Sq_rt, Sq_bk, Sq_ct, Lt_n, Lt_b, Fn1_nx, Fn1_rv, Fn1_rf, Fin1_n, Fin1_s, TurnQ_nx, TurnQ_ct, TurnQ_bk, TurnQ_rt, toC_v, toC_f, toC_p, toV, argsOf, argsL, flatR, flatD, refs, asT, asTs, bo, co, DP.bi, ix, augD, DP.meth, DP.slice, optI, seqOf, DP.wipe, back, DP.free, isI, truth, toInts_map, DP.isNon, sm64_a, sm64_b, sm64_c, sm64_d, pow_a, at0, at1, at2, at3, List.getElem?_cons_zero, List.getElem?_cons_succ, List.getElem?_nil, List.set_cons_zero, List.set_cons_succ, List.mapM_cons, List.mapM_nil, Option.pure_def, Option.bind_eq_bind, Option.bind_some, Option.map_some, Option.map_none, Option.getD_some, Option.getD_none, Option.join_some, List.length_cons, List.length_nil, List.length_map, List.map_cons, List.map_nil, List.cons_append, List.nil_append, List.getD_cons_zero, List.getD_cons_succ, Nat.reduceAdd, Nat.reduceSub, Nat.reduceLeDiff, Nat.reduceLT, Int.reduceLT, Int.reduceLE, Int.reduceNeg, Int.reducePow, Nat.reduceMul, Int.reduceAdd, Int.reduceSub, Int.reduceMul, Int.reduceToNat, Bool.not_true, Bool.not_false, Bool.and_true, Bool.true_and, Bool.and_false, Bool.false_and, Bool.or_true, Bool.or_false, Bool.true_or, Bool.false_or, decide_true, decide_false, and_true, true_and, and_false, false_and, or_true, or_false, true_or, false_or, if_true, if_false, eqv_int, eqv_str, eqv_bool, shp_int, shp_bool, shp_non, toBools_map, Bool.and_self, eq_self, Bool.false_eq_true, reduceCtorEq, reduceIte, List.all_cons, List.all_nil, slotOf, List.replicate_zero, List.append_nil, List.replicate_succ]
    refine tights_ok (N := 58) hn ?_
    obtain ⟨LL, hLL⟩ : ∃ LL, LL = LS n := ⟨_, rfl⟩
    rw [show (tgR n n).filter pT = LL from hLL.symm]
    have hlen : LL.length = W n 0 0 := by rw [hLL]; exact LS_len hn
    have hrow : ∀ r ∈ LL, Row n r := fun r hr => LS_row (by rw [← hLL]; exact hr)
    have hnum : ∀ (i : Nat) r, LL[i]? = some r → numN n r = i := fun i r hr => LS_num hn (by rw [← hLL]; exact hr)
    have hsort : DP.sortD (LL.map enc) = some (LL.map enc) := by rw [hLL]; exact LS_sort hn
    have wpos := W_pos' hn
    have wsm : W n 0 0 < 4000 := by
      have : n = 0 ∨ n = 1 ∨ n = 2 ∨ n = 3 ∨ n = 4 ∨ n = 5 := by omega
      clear hlen hrow hnum hsort wpos
      rcases this with rfl | rfl | rfl | rfl | rfl | rfl <;> decide +kernel
    try simp (config := {decide := true, dsimp := false}) only [Wxs_nil, Wxs_cons, Wx_asg, Wx_own, Wx_aug, Wx_seti, Wx_ex, Wx_ret, Wx_retN, Wx_brk, Wx_cnt, Wx_pass, Wx_ite, Wx_for, Wx_fit, We_var, We_mov, We_pk, We_int, We_str, We_bl, We_non, We_glob, We_bin, We_cmp, We_idx, We_neg, We_not, We_and, We_or, We_ife, We_chain, Wes_nil, Wes_cons, Wec_nil, Wec_cons, Wea_nil, Wea_cons, Wea_ref, Wea_lend, We_calll, Wei_rd, Wep_n, Wep_s, We_tup, We_lst, We_call, We_bi, We_meth, We_slc, We_lc, We_lc2, We_mx, We_rev, We_dnew, We_dsp, We_dget, Wx_setd, We_lsc, We_callv, fnN_fnD, Odd_b, Osk_b, obD_l, obD_d, dfl, Wei_zip, Old_b, Wei_seq, Wei_enum, Wei_r1, Wei_r2, Ov_some, Ov_none, Ov_if, Ov_map, Cnd_t, Cnd_f, Aft_n, Aft_s, Obo_b, Oi_b, Ofr_b, Od_b, Ol_b, Osd_b, Osb_b, Ore_v, Ore_f, Sq_nx, Sq_rt, Sq_bk, Sq_ct, Lt_n, Lt_b, Fn1_nx, Fn1_rv, Fn1_rf, Fin1_n, Fin1_s, TurnQ_nx, TurnQ_ct, TurnQ_bk, TurnQ_rt, toC_v, toC_f, toC_p, toV, argsOf, argsL, flatR, flatD, refs, asT, asTs, bo, co, DP.bi, ix, augD, DP.meth, DP.slice, optI, seqOf, DP.wipe, back, DP.free, isI, truth, toInts_map, DP.isNon, sm64_a, sm64_b, sm64_c, sm64_d, pow_a, at0, at1, at2, at3, List.getElem?_cons_zero, List.getElem?_cons_succ, List.getElem?_nil, List.set_cons_zero, List.set_cons_succ, List.mapM_cons, List.mapM_nil, Option.pure_def, Option.bind_eq_bind, Option.bind_some, Option.map_some, Option.map_none, Option.getD_some, Option.getD_none, Option.join_some, List.length_cons, List.length_nil, List.length_map, List.map_cons, List.map_nil, List.cons_append, List.nil_append, List.getD_cons_zero, List.getD_cons_succ, Nat.reduceAdd, Nat.reduceSub, Nat.reduceLeDiff, Nat.reduceLT, Int.reduceLT, Int.reduceLE, Int.reduceNeg, Int.reducePow, Nat.reduceMul, Int.reduceAdd, Int.reduceSub, Int.reduceMul, Int.reduceToNat, Bool.not_true, Bool.not_false, Bool.and_true, Bool.true_and, Bool.and_false, Bool.false_and, Bool.or_true, Bool.or_false, Bool.true_or, Bool.false_or, decide_true, decide_false, and_true, true_and, and_false, false_and, or_true, or_false, true_or, false_or, if_true, if_false, eqv_int, eqv_str, eqv_bool, shp_int, shp_bool, shp_non, toBools_map, Bool.and_self, eq_self, Bool.false_eq_true, reduceCtorEq, reduceIte, List.all_cons, List.all_nil, slotOf, List.replicate_zero, List.append_nil, List.replicate_succ]
    refine Lc_ok (fun i ys ρ => ∃ s6 : DP.Slot, ys = (LL.take i).map enc ∧ ρ = [.v (.list (ns.map .int)), .o (.l (ds.map .int)), .v (.int n), s3, s4, s5, s6, s7, s8]) (by rw [List.length_map]; unfold sizeL; omega) ?_ ⟨_, rfl, rfl⟩ ?_ ?_
    · rcases z6 with rfl | ⟨d6, rfl⟩ <;> rfl
    · rintro i d ys ρ hi ⟨s6, rfl, rfl⟩
      rw [List.getElem?_map] at hi
      obtain ⟨r, hr, rfl⟩ := Option.map_eq_some_iff.mp hi
      have rl := (hrow r (List.mem_of_getElem? hr)).len
      try simp (config := {decide := true, dsimp := false}) only [Wxs_nil, Wxs_cons, Wx_asg, Wx_own, Wx_aug, Wx_seti, Wx_ex, Wx_ret, Wx_retN, Wx_brk, Wx_cnt, Wx_pass, Wx_ite, Wx_for, Wx_fit, We_var, We_mov, We_pk, We_int, We_str, We_bl, We_non, We_glob, We_bin, We_cmp, We_idx, We_neg, We_not, We_and, We_or, We_ife, We_chain, Wes_nil, Wes_cons, Wec_nil, Wec_cons, Wea_nil, Wea_cons, Wea_ref, Wea_lend, We_calll, Wei_rd, Wep_n, Wep_s, We_tup, We_lst, We_call, We_bi, We_meth, We_slc, We_lc, We_lc2, We_mx, We_rev, We_dnew, We_dsp, We_dget, Wx_setd, We_lsc, We_callv, fnN_fnD, Odd_b, Osk_b, obD_l, obD_d, dfl, Wei_zip, Old_b, Wei_seq, Wei_enum, Wei_r1, Wei_r2, Ov_some, Ov_none, Ov_if, Ov_map, Cnd_t, Cnd_f, Aft_n, Aft_s, Obo_b, Oi_b, Ofr_b, Od_b, Ol_b, Osd_b, Osb_b, Ore_v, Ore_f, Sq_nx, Sq_rt, Sq_bk, Sq_ct, Lt_n, Lt_b, Fn1_nx, Fn1_rv, Fn1_rf, Fin1_n, Fin1_s, TurnQ_nx, TurnQ_ct, TurnQ_bk, TurnQ_rt, toC_v, toC_f, toC_p, toV, argsOf, argsL, flatR, flatD, refs, asT, asTs, bo, co, DP.bi, ix, augD, DP.meth, DP.slice, optI, seqOf, DP.wipe, back, DP.free, isI, truth, toInts_map, DP.isNon, sm64_a, sm64_b, sm64_c, sm64_d, pow_a, at0, at1, at2, at3, List.getElem?_cons_zero, List.getElem?_cons_succ, List.getElem?_nil, List.set_cons_zero, List.set_cons_succ, List.mapM_cons, List.mapM_nil, Option.pure_def, Option.bind_eq_bind, Option.bind_some, Option.map_some, Option.map_none, Option.getD_some, Option.getD_none, Option.join_some, List.length_cons, List.length_nil, List.length_map, List.map_cons, List.map_nil, List.cons_append, List.nil_append, List.getD_cons_zero, List.getD_cons_succ, Nat.reduceAdd, Nat.reduceSub, Nat.reduceLeDiff, Nat.reduceLT, Int.reduceLT, Int.reduceLE, Int.reduceNeg, Int.reducePow, Nat.reduceMul, Int.reduceAdd, Int.reduceSub, Int.reduceMul, Int.reduceToNat, Bool.not_true, Bool.not_false, Bool.and_true, Bool.true_and, Bool.and_false, Bool.false_and, Bool.or_true, Bool.or_false, Bool.true_or, Bool.false_or, decide_true, decide_false, and_true, true_and, and_false, false_and, or_true, or_false, true_or, false_or, if_true, if_false, eqv_int, eqv_str, eqv_bool, shp_int, shp_bool, shp_non, toBools_map, Bool.and_self, eq_self, Bool.false_eq_true, reduceCtorEq, reduceIte, List.all_cons, List.all_nil, slotOf, List.replicate_zero, List.append_nil, List.replicate_succ]
      refine Lc_ok (fun j zs ρ => ∃ s8 : DP.Slot, zs = (r.take j).map ent0 ∧ ρ = [.v (.list (ns.map .int)), .o (.l (ds.map .int)), .v (.int n), s3, s4, s5, .v (.tuple (r.map .int)), s7, s8]) (by rw [List.length_map]; unfold sizeL; omega) ?_ ⟨_, rfl, rfl⟩ ?_ ?_
      · rcases z8 with rfl | ⟨d8, rfl⟩ <;> rfl
      · rintro j d zs ρ hj ⟨s8, rfl, rfl⟩
        rw [List.getElem?_map] at hj
        obtain ⟨y, hy, rfl⟩ := Option.map_eq_some_iff.mp hj
        try simp (config := {decide := true, dsimp := false}) only [Wxs_nil, Wxs_cons, Wx_asg, Wx_own, Wx_aug, Wx_seti, Wx_ex, Wx_ret, Wx_retN, Wx_brk, Wx_cnt, Wx_pass, Wx_ite, Wx_for, Wx_fit, We_var, We_mov, We_pk, We_int, We_str, We_bl, We_non, We_glob, We_bin, We_cmp, We_idx, We_neg, We_not, We_and, We_or, We_ife, We_chain, Wes_nil, Wes_cons, Wec_nil, Wec_cons, Wea_nil, Wea_cons, Wea_ref, Wea_lend, We_calll, Wei_rd, Wep_n, Wep_s, We_tup, We_lst, We_call, We_bi, We_meth, We_slc, We_lc, We_lc2, We_mx, We_rev, We_dnew, We_dsp, We_dget, Wx_setd, We_lsc, We_callv, fnN_fnD, Odd_b, Osk_b, obD_l, obD_d, dfl, Wei_zip, Old_b, Wei_seq, Wei_enum, Wei_r1, Wei_r2, Ov_some, Ov_none, Ov_if, Ov_map, Cnd_t, Cnd_f, Aft_n, Aft_s, Obo_b, Oi_b, Ofr_b, Od_b, Ol_b, Osd_b, Osb_b, Ore_v, Ore_f, Sq_nx, Sq_rt, Sq_bk, Sq_ct, Lt_n, Lt_b, Fn1_nx, Fn1_rv, Fn1_rf, Fin1_n, Fin1_s, TurnQ_nx, TurnQ_ct, TurnQ_bk, TurnQ_rt, toC_v, toC_f, toC_p, toV, argsOf, argsL, flatR, flatD, refs, asT, asTs, bo, co, DP.bi, ix, augD, DP.meth, DP.slice, optI, seqOf, DP.wipe, back, DP.free, isI, truth, toInts_map, DP.isNon, sm64_a, sm64_b, sm64_c, sm64_d, pow_a, at0, at1, at2, at3, List.getElem?_cons_zero, List.getElem?_cons_succ, List.getElem?_nil, List.set_cons_zero, List.set_cons_succ, List.mapM_cons, List.mapM_nil, Option.pure_def, Option.bind_eq_bind, Option.bind_some, Option.map_some, Option.map_none, Option.getD_some, Option.getD_none, Option.join_some, List.length_cons, List.length_nil, List.length_map, List.map_cons, List.map_nil, List.cons_append, List.nil_append, List.getD_cons_zero, List.getD_cons_succ, Nat.reduceAdd, Nat.reduceSub, Nat.reduceLeDiff, Nat.reduceLT, Int.reduceLT, Int.reduceLE, Int.reduceNeg, Int.reducePow, Nat.reduceMul, Int.reduceAdd, Int.reduceSub, Int.reduceMul, Int.reduceToNat, Bool.not_true, Bool.not_false, Bool.and_true, Bool.true_and, Bool.and_false, Bool.false_and, Bool.or_true, Bool.or_false, Bool.true_or, Bool.false_or, decide_true, decide_false, and_true, true_and, and_false, false_and, or_true, or_false, true_or, false_or, if_true, if_false, eqv_int, eqv_str, eqv_bool, shp_int, shp_bool, shp_non, toBools_map, Bool.and_self, eq_self, Bool.false_eq_true, reduceCtorEq, reduceIte, List.all_cons, List.all_nil, slotOf, List.replicate_zero, List.append_nil, List.replicate_succ]
        exact ⟨_, by rw [take_snoc hy, List.map_append]; rfl, rfl⟩
      · rintro zs ρe ⟨s8, rfl, rfl⟩
        rw [List.length_map, List.take_length]
        try simp (config := {decide := true, dsimp := false}) only [Wxs_nil, Wxs_cons, Wx_asg, Wx_own, Wx_aug, Wx_seti, Wx_ex, Wx_ret, Wx_retN, Wx_brk, Wx_cnt, Wx_pass, Wx_ite, Wx_for, Wx_fit, We_var, We_mov, We_pk, We_int, We_str, We_bl, We_non, We_glob, We_bin, We_cmp, We_idx, We_neg, We_not, We_and, We_or, We_ife, We_chain, Wes_nil, Wes_cons, Wec_nil, Wec_cons, Wea_nil, Wea_cons, Wea_ref, Wea_lend, We_calll, Wei_rd, Wep_n, Wep_s, We_tup, We_lst, We_call, We_bi, We_meth, We_slc, We_lc, We_lc2, We_mx, We_rev, We_dnew, We_dsp, We_dget, Wx_setd, We_lsc, We_callv, fnN_fnD, Odd_b, Osk_b, obD_l, obD_d, dfl, Wei_zip, Old_b, Wei_seq, Wei_enum, Wei_r1, Wei_r2, Ov_some, Ov_none, Ov_if, Ov_map, Cnd_t, Cnd_f, Aft_n, Aft_s, Obo_b, Oi_b, Ofr_b, Od_b, Ol_b, Osd_b, Osb_b, Ore_v, Ore_f, Sq_nx, Sq_rt, Sq_bk, Sq_ct, Lt_n, Lt_b, Fn1_nx, Fn1_rv, Fn1_rf, Fin1_n, Fin1_s, TurnQ_nx, TurnQ_ct, TurnQ_bk, TurnQ_rt, toC_v, toC_f, toC_p, toV, argsOf, argsL, flatR, flatD, refs, asT, asTs, bo, co, DP.bi, ix, augD, DP.meth, DP.slice, optI, seqOf, DP.wipe, back, DP.free, isI, truth, toInts_map, DP.isNon, sm64_a, sm64_b, sm64_c, sm64_d, pow_a, at0, at1, at2, at3, List.getElem?_cons_zero, List.getElem?_cons_succ, List.getElem?_nil, List.set_cons_zero, List.set_cons_succ, List.mapM_cons, List.mapM_nil, Option.pure_def, Option.bind_eq_bind, Option.bind_some, Option.map_some, Option.map_none, Option.getD_some, Option.getD_none, Option.join_some, List.length_cons, List.length_nil, List.length_map, List.map_cons, List.map_nil, List.cons_append, List.nil_append, List.getD_cons_zero, List.getD_cons_succ, Nat.reduceAdd, Nat.reduceSub, Nat.reduceLeDiff, Nat.reduceLT, Int.reduceLT, Int.reduceLE, Int.reduceNeg, Int.reducePow, Nat.reduceMul, Int.reduceAdd, Int.reduceSub, Int.reduceMul, Int.reduceToNat, Bool.not_true, Bool.not_false, Bool.and_true, Bool.true_and, Bool.and_false, Bool.false_and, Bool.or_true, Bool.or_false, Bool.true_or, Bool.false_or, decide_true, decide_false, and_true, true_and, and_false, false_and, or_true, or_false, true_or, false_or, if_true, if_false, eqv_int, eqv_str, eqv_bool, shp_int, shp_bool, shp_non, toBools_map, Bool.and_self, eq_self, Bool.false_eq_true, reduceCtorEq, reduceIte, List.all_cons, List.all_nil, slotOf, List.replicate_zero, List.append_nil, List.replicate_succ]
        exact ⟨_, by rw [take_snoc hr, List.map_append]; rfl, rfl⟩
    · rintro ys ρe ⟨s6', rfl, rfl⟩
      rw [List.length_map, List.take_length]
      try simp (config := {decide := true, dsimp := false}) only [Wxs_nil, Wxs_cons, Wx_asg, Wx_own, Wx_aug, Wx_seti, Wx_ex, Wx_ret, Wx_retN, Wx_brk, Wx_cnt, Wx_pass, Wx_ite, Wx_for, Wx_fit, We_var, We_mov, We_pk, We_int, We_str, We_bl, We_non, We_glob, We_bin, We_cmp, We_idx, We_neg, We_not, We_and, We_or, We_ife, We_chain, Wes_nil, Wes_cons, Wec_nil, Wec_cons, Wea_nil, Wea_cons, Wea_ref, Wea_lend, We_calll, Wei_rd, Wep_n, Wep_s, We_tup, We_lst, We_call, We_bi, We_meth, We_slc, We_lc, We_lc2, We_mx, We_rev, We_dnew, We_dsp, We_dget, Wx_setd, We_lsc, We_callv, fnN_fnD, Odd_b, Osk_b, obD_l, obD_d, dfl, Wei_zip, Old_b, Wei_seq, Wei_enum, Wei_r1, Wei_r2, Ov_some, Ov_none, Ov_if, Ov_map, Cnd_t, Cnd_f, Aft_n, Aft_s, Obo_b, Oi_b, Ofr_b, Od_b, Ol_b, Osd_b, Osb_b, Ore_v, Ore_f, Sq_nx, Sq_rt, Sq_bk, Sq_ct, Lt_n, Lt_b, Fn1_nx, Fn1_rv, Fn1_rf, Fin1_n, Fin1_s, TurnQ_nx, TurnQ_ct, TurnQ_bk, TurnQ_rt, toC_v, toC_f, toC_p, toV, argsOf, argsL, flatR, flatD, refs, asT, asTs, bo, co, DP.bi, ix, augD, DP.meth, DP.slice, optI, seqOf, DP.wipe, back, DP.free, isI, truth, toInts_map, DP.isNon, sm64_a, sm64_b, sm64_c, sm64_d, pow_a, at0, at1, at2, at3, List.getElem?_cons_zero, List.getElem?_cons_succ, List.getElem?_nil, List.set_cons_zero, List.set_cons_succ, List.mapM_cons, List.mapM_nil, Option.pure_def, Option.bind_eq_bind, Option.bind_some, Option.map_some, Option.map_none, Option.getD_some, Option.getD_none, Option.join_some, List.length_cons, List.length_nil, List.length_map, List.map_cons, List.map_nil, List.cons_append, List.nil_append, List.getD_cons_zero, List.getD_cons_succ, Nat.reduceAdd, Nat.reduceSub, Nat.reduceLeDiff, Nat.reduceLT, Int.reduceLT, Int.reduceLE, Int.reduceNeg, Int.reducePow, Nat.reduceMul, Int.reduceAdd, Int.reduceSub, Int.reduceMul, Int.reduceToNat, Bool.not_true, Bool.not_false, Bool.and_true, Bool.true_and, Bool.and_false, Bool.false_and, Bool.or_true, Bool.or_false, Bool.true_or, Bool.false_or, decide_true, decide_false, and_true, true_and, and_false, false_and, or_true, or_false, true_or, false_or, if_true, if_false, eqv_int, eqv_str, eqv_bool, shp_int, shp_bool, shp_non, toBools_map, Bool.and_self, eq_self, Bool.false_eq_true, reduceCtorEq, reduceIte, List.all_cons, List.all_nil, slotOf, List.replicate_zero, List.append_nil, List.replicate_succ, hsort]
      refine ord_ok (N := 58) (by omega) ?_
      try simp (config := {decide := true, dsimp := false}) only [Wxs_nil, Wxs_cons, Wx_asg, Wx_own, Wx_aug, Wx_seti, Wx_ex, Wx_ret, Wx_retN, Wx_brk, Wx_cnt, Wx_pass, Wx_ite, Wx_for, Wx_fit, We_var, We_mov, We_pk, We_int, We_str, We_bl, We_non, We_glob, We_bin, We_cmp, We_idx, We_neg, We_not, We_and, We_or, We_ife, We_chain, Wes_nil, Wes_cons, Wec_nil, Wec_cons, Wea_nil, Wea_cons, Wea_ref, Wea_lend, We_calll, Wei_rd, Wep_n, Wep_s, We_tup, We_lst, We_call, We_bi, We_meth, We_slc, We_lc, We_lc2, We_mx, We_rev, We_dnew, We_dsp, We_dget, Wx_setd, We_lsc, We_callv, fnN_fnD, Odd_b, Osk_b, obD_l, obD_d, dfl, Wei_zip, Old_b, Wei_seq, Wei_enum, Wei_r1, Wei_r2, Ov_some, Ov_none, Ov_if, Ov_map, Cnd_t, Cnd_f, Aft_n, Aft_s, Obo_b, Oi_b, Ofr_b, Od_b, Ol_b, Osd_b, Osb_b, Ore_v, Ore_f, Sq_nx, Sq_rt, Sq_bk, Sq_ct, Lt_n, Lt_b, Fn1_nx, Fn1_rv, Fn1_rf, Fin1_n, Fin1_s, TurnQ_nx, TurnQ_ct, TurnQ_bk, TurnQ_rt, toC_v, toC_f, toC_p, toV, argsOf, argsL, flatR, flatD, refs, asT, asTs, bo, co, DP.bi, ix, augD, DP.meth, DP.slice, optI, seqOf, DP.wipe, back, DP.free, isI, truth, toInts_map, DP.isNon, sm64_a, sm64_b, sm64_c, sm64_d, pow_a, at0, at1, at2, at3, List.getElem?_cons_zero, List.getElem?_cons_succ, List.getElem?_nil, List.set_cons_zero, List.set_cons_succ, List.mapM_cons, List.mapM_nil, Option.pure_def, Option.bind_eq_bind, Option.bind_some, Option.map_some, Option.map_none, Option.getD_some, Option.getD_none, Option.join_some, List.length_cons, List.length_nil, List.length_map, List.map_cons, List.map_nil, List.cons_append, List.nil_append, List.getD_cons_zero, List.getD_cons_succ, Nat.reduceAdd, Nat.reduceSub, Nat.reduceLeDiff, Nat.reduceLT, Int.reduceLT, Int.reduceLE, Int.reduceNeg, Int.reducePow, Nat.reduceMul, Int.reduceAdd, Int.reduceSub, Int.reduceMul, Int.reduceToNat, Bool.not_true, Bool.not_false, Bool.and_true, Bool.true_and, Bool.and_false, Bool.false_and, Bool.or_true, Bool.or_false, Bool.true_or, Bool.false_or, decide_true, decide_false, and_true, true_and, and_false, false_and, or_true, or_false, true_or, false_or, if_true, if_false, eqv_int, eqv_str, eqv_bool, shp_int, shp_bool, shp_non, toBools_map, Bool.and_self, eq_self, Bool.false_eq_true, reduceCtorEq, reduceIte, List.all_cons, List.all_nil, slotOf, List.replicate_zero, List.append_nil, List.replicate_succ, hlen]
      obtain ⟨c, hc1, hc2, ec⟩ : ∃ c : Nat, c ≤ W n 0 0 ∧ c ≤ 13 ∧ (if ((W n 0 0 : Nat) : Int) < 13 then ((W n 0 0 : Nat) : Int) else 13) = (c : Int) := by
        by_cases z : ((W n 0 0 : Nat) : Int) < 13
        · exact ⟨W n 0 0, by omega, by omega, if_pos z⟩
        · exact ⟨13, by omega, by omega, if_neg z⟩
      rw [ec]
      obtain ⟨w, hw⟩ : ∃ w, w = W n 0 0 := ⟨_, rfl⟩
      rw [← hw] at hlen wpos wsm hc1
      refine ⟨by unfold DP.rgOk; simp only [Bool.and_eq_true, decide_eq_true_eq]; omega, ?_⟩
      refine Lc_ok (fun i ys ρ => ∃ (ds l : List Int), ∃ s7 : DP.Slot, Fr4 s7 ∧ l.length = i ∧ (∀ x ∈ l, 0 ≤ x ∧ x < w) ∧ ys = l.map .int ∧ ρ = [.v (.list (ns.map .int)), .o (.l (ds.map .int)), .v (.int n), .v (.list (LL.map enc)), s4, s5, s6, s7, s8]) (by rw [irange_len]; unfold sizeL; omega) ?_ ⟨_, [], _, z7, rfl, nofun, rfl, rfl⟩ ?_ ?_
      · rcases z7 with rfl | ⟨d7, rfl⟩ <;> rfl
      · rintro i d ys ρ hi ⟨ds, l, s7, z7, hl3, hlb, rfl, rfl⟩
        obtain ⟨hi2, rfl⟩ := irange0_at hi
        try simp (config := {decide := true, dsimp := false}) only [Wxs_nil, Wxs_cons, Wx_asg, Wx_own, Wx_aug, Wx_seti, Wx_ex, Wx_ret, Wx_retN, Wx_brk, Wx_cnt, Wx_pass, Wx_ite, Wx_for, Wx_fit, We_var, We_mov, We_pk, We_int, We_str, We_bl, We_non, We_glob, We_bin, We_cmp, We_idx, We_neg, We_not, We_and, We_or, We_ife, We_chain, Wes_nil, Wes_cons, Wec_nil, Wec_cons, Wea_nil, Wea_cons, Wea_ref, Wea_lend, We_calll, Wei_rd, Wep_n, Wep_s, We_tup, We_lst, We_call, We_bi, We_meth, We_slc, We_lc, We_lc2, We_mx, We_rev, We_dnew, We_dsp, We_dget, Wx_setd, We_lsc, We_callv, fnN_fnD, Odd_b, Osk_b, obD_l, obD_d, dfl, Wei_zip, Old_b, Wei_seq, Wei_enum, Wei_r1, Wei_r2, Ov_some, Ov_none, Ov_if, Ov_map, Cnd_t, Cnd_f, Aft_n, Aft_s, Obo_b, Oi_b, Ofr_b, Od_b, Ol_b, Osd_b, Osb_b, Ore_v, Ore_f, Sq_nx, Sq_rt, Sq_bk, Sq_ct, Lt_n, Lt_b, Fn1_nx, Fn1_rv, Fn1_rf, Fin1_n, Fin1_s, TurnQ_nx, TurnQ_ct, TurnQ_bk, TurnQ_rt, toC_v, toC_f, toC_p, toV, argsOf, argsL, flatR, flatD, refs, asT, asTs, bo, co, DP.bi, ix, augD, DP.meth, DP.slice, optI, seqOf, DP.wipe, back, DP.free, isI, truth, toInts_map, DP.isNon, sm64_a, sm64_b, sm64_c, sm64_d, pow_a, at0, at1, at2, at3, List.getElem?_cons_zero, List.getElem?_cons_succ, List.getElem?_nil, List.set_cons_zero, List.set_cons_succ, List.mapM_cons, List.mapM_nil, Option.pure_def, Option.bind_eq_bind, Option.bind_some, Option.map_some, Option.map_none, Option.getD_some, Option.getD_none, Option.join_some, List.length_cons, List.length_nil, List.length_map, List.map_cons, List.map_nil, List.cons_append, List.nil_append, List.getD_cons_zero, List.getD_cons_succ, Nat.reduceAdd, Nat.reduceSub, Nat.reduceLeDiff, Nat.reduceLT, Int.reduceLT, Int.reduceLE, Int.reduceNeg, Int.reducePow, Nat.reduceMul, Int.reduceAdd, Int.reduceSub, Int.reduceMul, Int.reduceToNat, Bool.not_true, Bool.not_false, Bool.and_true, Bool.true_and, Bool.and_false, Bool.false_and, Bool.or_true, Bool.or_false, Bool.true_or, Bool.false_or, decide_true, decide_false, and_true, true_and, and_false, false_and, or_true, or_false, true_or, false_or, if_true, if_false, eqv_int, eqv_str, eqv_bool, shp_int, shp_bool, shp_non, toBools_map, Bool.and_self, eq_self, Bool.false_eq_true, reduceCtorEq, reduceIte, List.all_cons, List.all_nil, slotOf, List.replicate_zero, List.append_nil, List.replicate_succ, hlen]
        refine take_ok (n := 58) (m := w) (by omega) fun b ds b0 b1 => ?_
        try simp (config := {decide := true, dsimp := false}) only [Wxs_nil, Wxs_cons, Wx_asg, Wx_own, Wx_aug, Wx_seti, Wx_ex, Wx_ret, Wx_retN, Wx_brk, Wx_cnt, Wx_pass, Wx_ite, Wx_for, Wx_fit, We_var, We_mov, We_pk, We_int, We_str, We_bl, We_non, We_glob, We_bin, We_cmp, We_idx, We_neg, We_not, We_and, We_or, We_ife, We_chain, Wes_nil, Wes_cons, Wec_nil, Wec_cons, Wea_nil, Wea_cons, Wea_ref, Wea_lend, We_calll, Wei_rd, Wep_n, Wep_s, We_tup, We_lst, We_call, We_bi, We_meth, We_slc, We_lc, We_lc2, We_mx, We_rev, We_dnew, We_dsp, We_dget, Wx_setd, We_lsc, We_callv, fnN_fnD, Odd_b, Osk_b, obD_l, obD_d, dfl, Wei_zip, Old_b, Wei_seq, Wei_enum, Wei_r1, Wei_r2, Ov_some, Ov_none, Ov_if, Ov_map, Cnd_t, Cnd_f, Aft_n, Aft_s, Obo_b, Oi_b, Ofr_b, Od_b, Ol_b, Osd_b, Osb_b, Ore_v, Ore_f, Sq_nx, Sq_rt, Sq_bk, Sq_ct, Lt_n, Lt_b, Fn1_nx, Fn1_rv, Fn1_rf, Fin1_n, Fin1_s, TurnQ_nx, TurnQ_ct, TurnQ_bk, TurnQ_rt, toC_v, toC_f, toC_p, toV, argsOf, argsL, flatR, flatD, refs, asT, asTs, bo, co, DP.bi, ix, augD, DP.meth, DP.slice, optI, seqOf, DP.wipe, back, DP.free, isI, truth, toInts_map, DP.isNon, sm64_a, sm64_b, sm64_c, sm64_d, pow_a, at0, at1, at2, at3, List.getElem?_cons_zero, List.getElem?_cons_succ, List.getElem?_nil, List.set_cons_zero, List.set_cons_succ, List.mapM_cons, List.mapM_nil, Option.pure_def, Option.bind_eq_bind, Option.bind_some, Option.map_some, Option.map_none, Option.getD_some, Option.getD_none, Option.join_some, List.length_cons, List.length_nil, List.length_map, List.map_cons, List.map_nil, List.cons_append, List.nil_append, List.getD_cons_zero, List.getD_cons_succ, Nat.reduceAdd, Nat.reduceSub, Nat.reduceLeDiff, Nat.reduceLT, Int.reduceLT, Int.reduceLE, Int.reduceNeg, Int.reducePow, Nat.reduceMul, Int.reduceAdd, Int.reduceSub, Int.reduceMul, Int.reduceToNat, Bool.not_true, Bool.not_false, Bool.and_true, Bool.true_and, Bool.and_false, Bool.false_and, Bool.or_true, Bool.or_false, Bool.true_or, Bool.false_or, decide_true, decide_false, and_true, true_and, and_false, false_and, or_true, or_false, true_or, false_or, if_true, if_false, eqv_int, eqv_str, eqv_bool, shp_int, shp_bool, shp_non, toBools_map, Bool.and_self, eq_self, Bool.false_eq_true, reduceCtorEq, reduceIte, List.all_cons, List.all_nil, slotOf, List.replicate_zero, List.append_nil, List.replicate_succ]
        refine ⟨ds, l ++ [b], _, .inr ⟨_, rfl⟩, by rw [List.length_append, hl3]; rfl, fun x hx => ?_, by rw [List.map_append]; rfl, rfl⟩
        rcases List.mem_append.mp hx with hx | hx
        · exact hlb x hx
        · rw [List.mem_singleton.mp hx]; exact ⟨b0, b1⟩
      · rintro ys ρe ⟨ds, l, s7', z7', hl3, hlb, rfl, rfl⟩
        rw [irange_len] at hl3
        rw [Int.toNat_natCast]
        have hl8 : l.length = 8 := hl3
        try simp (config := {decide := true, dsimp := false}) only [Wxs_nil, Wxs_cons, Wx_asg, Wx_own, Wx_aug, Wx_seti, Wx_ex, Wx_ret, Wx_retN, Wx_brk, Wx_cnt, Wx_pass, Wx_ite, Wx_for, Wx_fit, We_var, We_mov, We_pk, We_int, We_str, We_bl, We_non, We_glob, We_bin, We_cmp, We_idx, We_neg, We_not, We_and, We_or, We_ife, We_chain, Wes_nil, Wes_cons, Wec_nil, Wec_cons, Wea_nil, Wea_cons, Wea_ref, Wea_lend, We_calll, Wei_rd, Wep_n, Wep_s, We_tup, We_lst, We_call, We_bi, We_meth, We_slc, We_lc, We_lc2, We_mx, We_rev, We_dnew, We_dsp, We_dget, Wx_setd, We_lsc, We_callv, fnN_fnD, Odd_b, Osk_b, obD_l, obD_d, dfl, Wei_zip, Old_b, Wei_seq, Wei_enum, Wei_r1, Wei_r2, Ov_some, Ov_none, Ov_if, Ov_map, Cnd_t, Cnd_f, Aft_n, Aft_s, Obo_b, Oi_b, Ofr_b, Od_b, Ol_b, Osd_b, Osb_b, Ore_v, Ore_f, Sq_nx, Sq_rt, Sq_bk, Sq_ct, Lt_n, Lt_b, Fn1_nx, Fn1_rv, Fn1_rf, Fin1_n, Fin1_s, TurnQ_nx, TurnQ_ct, TurnQ_bk, TurnQ_rt, toC_v, toC_f, toC_p, toV, argsOf, argsL, flatR, flatD, refs, asT, asTs, bo, co, DP.bi, ix, augD, DP.meth, DP.slice, optI, seqOf, DP.wipe, back, DP.free, isI, truth, toInts_map, DP.isNon, sm64_a, sm64_b, sm64_c, sm64_d, pow_a, at0, at1, at2, at3, List.getElem?_cons_zero, List.getElem?_cons_succ, List.getElem?_nil, List.set_cons_zero, List.set_cons_succ, List.mapM_cons, List.mapM_nil, Option.pure_def, Option.bind_eq_bind, Option.bind_some, Option.map_some, Option.map_none, Option.getD_some, Option.getD_none, Option.join_some, List.length_cons, List.length_nil, List.length_map, List.map_cons, List.map_nil, List.cons_append, List.nil_append, List.getD_cons_zero, List.getD_cons_succ, Nat.reduceAdd, Nat.reduceSub, Nat.reduceLeDiff, Nat.reduceLT, Int.reduceLT, Int.reduceLE, Int.reduceNeg, Int.reducePow, Nat.reduceMul, Int.reduceAdd, Int.reduceSub, Int.reduceMul, Int.reduceToNat, Bool.not_true, Bool.not_false, Bool.and_true, Bool.true_and, Bool.and_false, Bool.false_and, Bool.or_true, Bool.or_false, Bool.true_or, Bool.false_or, decide_true, decide_false, and_true, true_and, and_false, false_and, or_true, or_false, true_or, false_or, if_true, if_false, eqv_int, eqv_str, eqv_bool, shp_int, shp_bool, shp_non, toBools_map, Bool.and_self, eq_self, Bool.false_eq_true, reduceCtorEq, reduceIte, List.all_cons, List.all_nil, slotOf, List.replicate_zero, List.append_nil, List.replicate_succ, hlen]
        refine ⟨by rw [irange_len]; unfold sizeL; omega, by rw [List.length_append, irange_len, List.length_map]; unfold sizeL; omega, ?_⟩
        obtain ⟨AL, hAL⟩ : ∃ AL, AL = irange 0 c ++ l.map PyData.int ++ [PyData.int ((w : Int) - 1)] := ⟨_, rfl⟩
        have hmem : ∀ d ∈ AL, ∃ k : Nat, k < w ∧ d = .int k := by
          intro d hd
          rw [hAL] at hd
          rcases List.mem_append.mp hd with hd | hd
          · rcases List.mem_append.mp hd with hd | hd
            · obtain ⟨k, hk⟩ := List.mem_iff_getElem?.mp hd
              obtain ⟨hk2, rfl⟩ := irange0_at hk
              exact ⟨k, by omega, rfl⟩
            · obtain ⟨x, hx, rfl⟩ := List.mem_map.mp hd
              have := hlb x hx
              exact ⟨x.toNat, by omega, by rw [Int.toNat_of_nonneg this.1]⟩
          · rw [List.mem_singleton.mp hd]
            exact ⟨w - 1, by omega, by rw [show ((w - 1 : Nat) : Int) = (w : Int) - 1 by omega]⟩
        rw [← hAL]
        refine For_ok (fun i ρ => ∃ s5 : DP.Slot, ρ = [.v (.list (ns.map .int)), .o (.l (ds.map .int)), .v (.int n), .v (.list (LL.map enc)), .v (.list AL), s5, s6, s7, s8]) ⟨_, rfl⟩ ?_ ?_
        · rintro i d ρ hi ⟨s5, rfl⟩
          obtain ⟨k, hk, rfl⟩ := hmem d (List.mem_of_getElem? hi)
          have hk2 : k < LL.length := by omega
          have hr : LL[k]? = some LL[k] := List.getElem?_eq_getElem hk2
          have hrw := hrow _ (List.mem_of_getElem? hr)
          have hnm := hnum k _ hr
          generalize LL[k] = r at *
          have ea : atD (LL.map enc) (k : Int) = some (.tuple (r.map ent0)) := L2.atI_nat (by rw [List.getElem?_map, hr]; rfl)
          have rl := hrw.len
          try simp (config := {decide := true, dsimp := false}) only [Wxs_nil, Wxs_cons, Wx_asg, Wx_own, Wx_aug, Wx_seti, Wx_ex, Wx_ret, Wx_retN, Wx_brk, Wx_cnt, Wx_pass, Wx_ite, Wx_for, Wx_fit, We_var, We_mov, We_pk, We_int, We_str, We_bl, We_non, We_glob, We_bin, We_cmp, We_idx, We_neg, We_not, We_and, We_or, We_ife, We_chain, Wes_nil, Wes_cons, Wec_nil, Wec_cons, Wea_nil, Wea_cons, Wea_ref, Wea_lend, We_calll, Wei_rd, Wep_n, Wep_s, We_tup, We_lst, We_call, We_bi, We_meth, We_slc, We_lc, We_lc2, We_mx, We_rev, We_dnew, We_dsp, We_dget, Wx_setd, We_lsc, We_callv, fnN_fnD, Odd_b, Osk_b, obD_l, obD_d, dfl, Wei_zip, Old_b, Wei_seq, Wei_enum, Wei_r1, Wei_r2, Ov_some, Ov_none, Ov_if, Ov_map, Cnd_t, Cnd_f, Aft_n, Aft_s, Obo_b, Oi_b, Ofr_b, Od_b, Ol_b, Osd_b, Osb_b, Ore_v, Ore_f, Sq_nx, Sq_rt, Sq_bk, Sq_ct, Lt_n, Lt_b, Fn1_nx, Fn1_rv, Fn1_rf, Fin1_n, Fin1_s, TurnQ_nx, TurnQ_ct, TurnQ_bk, TurnQ_rt, toC_v, toC_f, toC_p, toV, argsOf, argsL, flatR, flatD, refs, asT, asTs, bo, co, DP.bi, ix, augD, DP.meth, DP.slice, optI, seqOf, DP.wipe, back, DP.free, isI, truth, toInts_map, DP.isNon, sm64_a, sm64_b, sm64_c, sm64_d, pow_a, at0, at1, at2, at3, List.getElem?_cons_zero, List.getElem?_cons_succ, List.getElem?_nil, List.set_cons_zero, List.set_cons_succ, List.mapM_cons, List.mapM_nil, Option.pure_def, Option.bind_eq_bind, Option.bind_some, Option.map_some, Option.map_none, Option.getD_some, Option.getD_none, Option.join_some, List.length_cons, List.length_nil, List.length_map, List.map_cons, List.map_nil, List.cons_append, List.nil_append, List.getD_cons_zero, List.getD_cons_succ, Nat.reduceAdd, Nat.reduceSub, Nat.reduceLeDiff, Nat.reduceLT, Int.reduceLT, Int.reduceLE, Int.reduceNeg, Int.reducePow, Nat.reduceMul, Int.reduceAdd, Int.reduceSub, Int.reduceMul, Int.reduceToNat, Bool.not_true, Bool.not_false, Bool.and_true, Bool.true_and, Bool.and_false, Bool.false_and, Bool.or_true, Bool.or_false, Bool.true_or, Bool.false_or, decide_true, decide_false, and_true, true_and, and_false, false_and, or_true, or_false, true_or, false_or, if_true, if_false, eqv_int, eqv_str, eqv_bool, shp_int, shp_bool, shp_non, toBools_map, Bool.and_self, eq_self, Bool.false_eq_true, reduceCtorEq, reduceIte, List.all_cons, List.all_nil, slotOf, List.replicate_zero, List.append_nil, List.replicate_succ]
          refine log_of_number_ok (N := 56) (by omega) (show k < W n 0 0 by omega) fun p hp hpn => ?_
          have ep := row_inj hp hrw (by rw [hpn, hnm])
          subst ep
          try simp (config := {decide := true, dsimp := false}) only [Wxs_nil, Wxs_cons, Wx_asg, Wx_own, Wx_aug, Wx_seti, Wx_ex, Wx_ret, Wx_retN, Wx_brk, Wx_cnt, Wx_pass, Wx_ite, Wx_for, Wx_fit, We_var, We_mov, We_pk, We_int, We_str, We_bl, We_non, We_glob, We_bin, We_cmp, We_idx, We_neg, We_not, We_and, We_or, We_ife, We_chain, Wes_nil, Wes_cons, Wec_nil, Wec_cons, Wea_nil, Wea_cons, Wea_ref, Wea_lend, We_calll, Wei_rd, Wep_n, Wep_s, We_tup, We_lst, We_call, We_bi, We_meth, We_slc, We_lc, We_lc2, We_mx, We_rev, We_dnew, We_dsp, We_dget, Wx_setd, We_lsc, We_callv, fnN_fnD, Odd_b, Osk_b, obD_l, obD_d, dfl, Wei_zip, Old_b, Wei_seq, Wei_enum, Wei_r1, Wei_r2, Ov_some, Ov_none, Ov_if, Ov_map, Cnd_t, Cnd_f, Aft_n, Aft_s, Obo_b, Oi_b, Ofr_b, Od_b, Ol_b, Osd_b, Osb_b, Ore_v, Ore_f, Sq_nx, Sq_rt, Sq_bk, Sq_ct, Lt_n, Lt_b, Fn1_nx, Fn1_rv, Fn1_rf, Fin1_n, Fin1_s, TurnQ_nx, TurnQ_ct, TurnQ_bk, TurnQ_rt, toC_v, toC_f, toC_p, toV, argsOf, argsL, flatR, flatD, refs, asT, asTs, bo, co, DP.bi, ix, augD, DP.meth, DP.slice, optI, seqOf, DP.wipe, back, DP.free, isI, truth, toInts_map, DP.isNon, sm64_a, sm64_b, sm64_c, sm64_d, pow_a, at0, at1, at2, at3, List.getElem?_cons_zero, List.getElem?_cons_succ, List.getElem?_nil, List.set_cons_zero, List.set_cons_succ, List.mapM_cons, List.mapM_nil, Option.pure_def, Option.bind_eq_bind, Option.bind_some, Option.map_some, Option.map_none, Option.getD_some, Option.getD_none, Option.join_some, List.length_cons, List.length_nil, List.length_map, List.map_cons, List.map_nil, List.cons_append, List.nil_append, List.getD_cons_zero, List.getD_cons_succ, Nat.reduceAdd, Nat.reduceSub, Nat.reduceLeDiff, Nat.reduceLT, Int.reduceLT, Int.reduceLE, Int.reduceNeg, Int.reducePow, Nat.reduceMul, Int.reduceAdd, Int.reduceSub, Int.reduceMul, Int.reduceToNat, Bool.not_true, Bool.not_false, Bool.and_true, Bool.true_and, Bool.and_false, Bool.false_and, Bool.or_true, Bool.or_false, Bool.true_or, Bool.false_or, decide_true, decide_false, and_true, true_and, and_false, false_and, or_true, or_false, true_or, false_or, if_true, if_false, eqv_int, eqv_str, eqv_bool, shp_int, shp_bool, shp_non, toBools_map, Bool.and_self, eq_self, Bool.false_eq_true, reduceCtorEq, reduceIte, List.all_cons, List.all_nil, slotOf, List.replicate_zero, List.append_nil, List.replicate_succ, ea]
          refine same_lg (n := 56) (by omega) ?_
          try simp (config := {decide := true, dsimp := false}) only [Wxs_nil, Wxs_cons, Wx_asg, Wx_own, Wx_aug, Wx_seti, Wx_ex, Wx_ret, Wx_retN, Wx_brk, Wx_cnt, Wx_pass, Wx_ite, Wx_for, Wx_fit, We_var, We_mov, We_pk, We_int, We_str, We_bl, We_non, We_glob, We_bin, We_cmp, We_idx, We_neg, We_not, We_and, We_or, We_ife, We_chain, Wes_nil, Wes_cons, Wec_nil, Wec_cons, Wea_nil, Wea_cons, Wea_ref, Wea_lend, We_calll, Wei_rd, Wep_n, Wep_s, We_tup, We_lst, We_call, We_bi, We_meth, We_slc, We_lc, We_lc2, We_mx, We_rev, We_dnew, We_dsp, We_dget, Wx_setd, We_lsc, We_callv, fnN_fnD, Odd_b, Osk_b, obD_l, obD_d, dfl, Wei_zip, Old_b, Wei_seq, Wei_enum, Wei_r1, Wei_r2, Ov_some, Ov_none, Ov_if, Ov_map, Cnd_t, Cnd_f, Aft_n, Aft_s, Obo_b, Oi_b, Ofr_b, Od_b, Ol_b, Osd_b, Osb_b, Ore_v, Ore_f, Sq_nx, Sq_rt, Sq_bk, Sq_ct, Lt_n, Lt_b, Fn1_nx, Fn1_rv, Fn1_rf, Fin1_n, Fin1_s, TurnQ_nx, TurnQ_ct, TurnQ_bk, TurnQ_rt, toC_v, toC_f, toC_p, toV, argsOf, argsL, flatR, flatD, refs, asT, asTs, bo, co, DP.bi, ix, augD, DP.meth, DP.slice, optI, seqOf, DP.wipe, back, DP.free, isI, truth, toInts_map, DP.isNon, sm64_a, sm64_b, sm64_c, sm64_d, pow_a, at0, at1, at2, at3, List.getElem?_cons_zero, List.getElem?_cons_succ, List.getElem?_nil, List.set_cons_zero, List.set_cons_succ, List.mapM_cons, List.mapM_nil, Option.pure_def, Option.bind_eq_bind, Option.bind_some, Option.map_some, Option.map_none, Option.getD_some, Option.getD_none, Option.join_some, List.length_cons, List.length_nil, List.length_map, List.map_cons, List.map_nil, List.cons_append, List.nil_append, List.getD_cons_zero, List.getD_cons_succ, Nat.reduceAdd, Nat.reduceSub, Nat.reduceLeDiff, Nat.reduceLT, Int.reduceLT, Int.reduceLE, Int.reduceNeg, Int.reducePow, Nat.reduceMul, Int.reduceAdd, Int.reduceSub, Int.reduceMul, Int.reduceToNat, Bool.not_true, Bool.not_false, Bool.and_true, Bool.true_and, Bool.and_false, Bool.false_and, Bool.or_true, Bool.or_false, Bool.true_or, Bool.false_or, decide_true, decide_false, and_true, true_and, and_false, false_and, or_true, or_false, true_or, false_or, if_true, if_false, eqv_int, eqv_str, eqv_bool, shp_int, shp_bool, shp_non, toBools_map, Bool.and_self, eq_self, Bool.false_eq_true, reduceCtorEq, reduceIte, List.all_cons, List.all_nil, slotOf, List.replicate_zero, List.append_nil, List.replicate_succ, ea]
          refine number_of_log_ok (N := 56) (by omega) hp ?_
          try simp (config := {decide := true, dsimp := false}) only [Wxs_nil, Wxs_cons, Wx_asg, Wx_own, Wx_aug, Wx_seti, Wx_ex, Wx_ret, Wx_retN, Wx_brk, Wx_cnt, Wx_pass, Wx_ite, Wx_for, Wx_fit, We_var, We_mov, We_pk, We_int, We_str, We_bl, We_non, We_glob, We_bin, We_cmp, We_idx, We_neg, We_not, We_and, We_or, We_ife, We_chain, Wes_nil, Wes_cons, Wec_nil, Wec_cons, Wea_nil, Wea_cons, Wea_ref, Wea_lend, We_calll, Wei_rd, Wep_n, Wep_s, We_tup, We_lst, We_call, We_bi, We_meth, We_slc, We_lc, We_lc2, We_mx, We_rev, We_dnew, We_dsp, We_dget, Wx_setd, We_lsc, We_callv, fnN_fnD, Odd_b, Osk_b, obD_l, obD_d, dfl, Wei_zip, Old_b, Wei_seq, Wei_enum, Wei_r1, Wei_r2, Ov_some, Ov_none, Ov_if, Ov_map, Cnd_t, Cnd_f, Aft_n, Aft_s, Obo_b, Oi_b, Ofr_b, Od_b, Ol_b, Osd_b, Osb_b, Ore_v, Ore_f, Sq_nx, Sq_rt, Sq_bk, Sq_ct, Lt_n, Lt_b, Fn1_nx, Fn1_rv, Fn1_rf, Fin1_n, Fin1_s, TurnQ_nx, TurnQ_ct, TurnQ_bk, TurnQ_rt, toC_v, toC_f, toC_p, toV, argsOf, argsL, flatR, flatD, refs, asT, asTs, bo, co, DP.bi, ix, augD, DP.meth, DP.slice, optI, seqOf, DP.wipe, back, DP.free, isI, truth, toInts_map, DP.isNon, sm64_a, sm64_b, sm64_c, sm64_d, pow_a, at0, at1, at2, at3, List.getElem?_cons_zero, List.getElem?_cons_succ, List.getElem?_nil, List.set_cons_zero, List.set_cons_succ, List.mapM_cons, List.mapM_nil, Option.pure_def, Option.bind_eq_bind, Option.bind_some, Option.map_some, Option.map_none, Option.getD_some, Option.getD_none, Option.join_some, List.length_cons, List.length_nil, List.length_map, List.map_cons, List.map_nil, List.cons_append, List.nil_append, List.getD_cons_zero, List.getD_cons_succ, Nat.reduceAdd, Nat.reduceSub, Nat.reduceLeDiff, Nat.reduceLT, Int.reduceLT, Int.reduceLE, Int.reduceNeg, Int.reducePow, Nat.reduceMul, Int.reduceAdd, Int.reduceSub, Int.reduceMul, Int.reduceToNat, Bool.not_true, Bool.not_false, Bool.and_true, Bool.true_and, Bool.and_false, Bool.false_and, Bool.or_true, Bool.or_false, Bool.true_or, Bool.false_or, decide_true, decide_false, and_true, true_and, and_false, false_and, or_true, or_false, true_or, false_or, if_true, if_false, eqv_int, eqv_str, eqv_bool, shp_int, shp_bool, shp_non, toBools_map, Bool.and_self, eq_self, Bool.false_eq_true, reduceCtorEq, reduceIte, List.all_cons, List.all_nil, slotOf, List.replicate_zero, List.append_nil, List.replicate_succ]
          refine count_ok (n := 58) (by rw [hnm]) ?_
          try simp (config := {decide := true, dsimp := false}) only [Wxs_nil, Wxs_cons, Wx_asg, Wx_own, Wx_aug, Wx_seti, Wx_ex, Wx_ret, Wx_retN, Wx_brk, Wx_cnt, Wx_pass, Wx_ite, Wx_for, Wx_fit, We_var, We_mov, We_pk, We_int, We_str, We_bl, We_non, We_glob, We_bin, We_cmp, We_idx, We_neg, We_not, We_and, We_or, We_ife, We_chain, Wes_nil, Wes_cons, Wec_nil, Wec_cons, Wea_nil, Wea_cons, Wea_ref, Wea_lend, We_calll, Wei_rd, Wep_n, Wep_s, We_tup, We_lst, We_call, We_bi, We_meth, We_slc, We_lc, We_lc2, We_mx, We_rev, We_dnew, We_dsp, We_dget, Wx_setd, We_lsc, We_callv, fnN_fnD, Odd_b, Osk_b, obD_l, obD_d, dfl, Wei_zip, Old_b, Wei_seq, Wei_enum, Wei_r1, Wei_r2, Ov_some, Ov_none, Ov_if, Ov_map, Cnd_t, Cnd_f, Aft_n, Aft_s, Obo_b, Oi_b, Ofr_b, Od_b, Ol_b, Osd_b, Osb_b, Ore_v, Ore_f, Sq_nx, Sq_rt, Sq_bk, Sq_ct, Lt_n, Lt_b, Fn1_nx, Fn1_rv, Fn1_rf, Fin1_n, Fin1_s, TurnQ_nx, TurnQ_ct, TurnQ_bk, TurnQ_rt, toC_v, toC_f, toC_p, toV, argsOf, argsL, flatR, flatD, refs, asT, asTs, bo, co, DP.bi, ix, augD, DP.meth, DP.slice, optI, seqOf, DP.wipe, back, DP.free, isI, truth, toInts_map, DP.isNon, sm64_a, sm64_b, sm64_c, sm64_d, pow_a, at0, at1, at2, at3, List.getElem?_cons_zero, List.getElem?_cons_succ, List.getElem?_nil, List.set_cons_zero, List.set_cons_succ, List.mapM_cons, List.mapM_nil, Option.pure_def, Option.bind_eq_bind, Option.bind_some, Option.map_some, Option.map_none, Option.getD_some, Option.getD_none, Option.join_some, List.length_cons, List.length_nil, List.length_map, List.map_cons, List.map_nil, List.cons_append, List.nil_append, List.getD_cons_zero, List.getD_cons_succ, Nat.reduceAdd, Nat.reduceSub, Nat.reduceLeDiff, Nat.reduceLT, Int.reduceLT, Int.reduceLE, Int.reduceNeg, Int.reducePow, Nat.reduceMul, Int.reduceAdd, Int.reduceSub, Int.reduceMul, Int.reduceToNat, Bool.not_true, Bool.not_false, Bool.and_true, Bool.true_and, Bool.and_false, Bool.false_and, Bool.or_true, Bool.or_false, Bool.true_or, Bool.false_or, decide_true, decide_false, and_true, true_and, and_false, false_and, or_true, or_false, true_or, false_or, if_true, if_false, eqv_int, eqv_str, eqv_bool, shp_int, shp_bool, shp_non, toBools_map, Bool.and_self, eq_self, Bool.false_eq_true, reduceCtorEq, reduceIte, List.all_cons, List.all_nil, slotOf, List.replicate_zero, List.append_nil, List.replicate_succ]
          exact ⟨_, rfl⟩
        · rintro ρ ⟨s5, rfl⟩
          try simp (config := {decide := true, dsimp := false}) only [Wxs_nil, Wxs_cons, Wx_asg, Wx_own, Wx_aug, Wx_seti, Wx_ex, Wx_ret, Wx_retN, Wx_brk, Wx_cnt, Wx_pass, Wx_ite, Wx_for, Wx_fit, We_var, We_mov, We_pk, We_int, We_str, We_bl, We_non, We_glob, We_bin, We_cmp, We_idx, We_neg, We_not, We_and, We_or, We_ife, We_chain, Wes_nil, Wes_cons, Wec_nil, Wec_cons, Wea_nil, Wea_cons, Wea_ref, Wea_lend, We_calll, Wei_rd, Wep_n, Wep_s, We_tup, We_lst, We_call, We_bi, We_meth, We_slc, We_lc, We_lc2, We_mx, We_rev, We_dnew, We_dsp, We_dget, Wx_setd, We_lsc, We_callv, fnN_fnD, Odd_b, Osk_b, obD_l, obD_d, dfl, Wei_zip, Old_b, Wei_seq, Wei_enum, Wei_r1, Wei_r2, Ov_some, Ov_none, Ov_if, Ov_map, Cnd_t, Cnd_f, Aft_n, Aft_s, Obo_b, Oi_b, Ofr_b, Od_b, Ol_b, Osd_b, Osb_b, Ore_v, Ore_f, Sq_nx, Sq_rt, Sq_bk, Sq_ct, Lt_n, Lt_b, Fn1_nx, Fn1_rv, Fn1_rf, Fin1_n, Fin1_s, TurnQ_nx, TurnQ_ct, TurnQ_bk, TurnQ_rt, toC_v, toC_f, toC_p, toV, argsOf, argsL, flatR, flatD, refs, asT, asTs, bo, co, DP.bi, ix, augD, DP.meth, DP.slice, optI, seqOf, DP.wipe, back, DP.free, isI, truth, toInts_map, DP.isNon, sm64_a, sm64_b, sm64_c, sm64_d, pow_a, at0, at1, at2, at3, List.getElem?_cons_zero, List.getElem?_cons_succ, List.getElem?_nil, List.set_cons_zero, List.set_cons_succ, List.mapM_cons, List.mapM_nil, Option.pure_def, Option.bind_eq_bind, Option.bind_some, Option.map_some, Option.map_none, Option.getD_some, Option.getD_none, Option.join_some, List.length_cons, List.length_nil, List.length_map, List.map_cons, List.map_nil, List.cons_append, List.nil_append, List.getD_cons_zero, List.getD_cons_succ, Nat.reduceAdd, Nat.reduceSub, Nat.reduceLeDiff, Nat.reduceLT, Int.reduceLT, Int.reduceLE, Int.reduceNeg, Int.reducePow, Nat.reduceMul, Int.reduceAdd, Int.reduceSub, Int.reduceMul, Int.reduceToNat, Bool.not_true, Bool.not_false, Bool.and_true, Bool.true_and, Bool.and_false, Bool.false_and, Bool.or_true, Bool.or_false, Bool.true_or, Bool.false_or, decide_true, decide_false, and_true, true_and, and_false, false_and, or_true, or_false, true_or, false_or, if_true, if_false, eqv_int, eqv_str, eqv_bool, shp_int, shp_bool, shp_non, toBools_map, Bool.and_self, eq_self, Bool.false_eq_true, reduceCtorEq, reduceIte, List.all_cons, List.all_nil, slotOf, List.replicate_zero, List.append_nil, List.replicate_succ]
          exact ⟨_, _, _, _, _, _, _, _, z6, z7, z8, rfl⟩
  · rintro ρ ⟨ds, s2, s3, s4, s5, s6, s7, s8, z6, z7, z8, rfl⟩
    try simp (config := {decide := true, dsimp := false}) only [Wxs_nil, Wxs_cons, Wx_asg, Wx_own, Wx_aug, Wx_seti, Wx_ex, Wx_ret, Wx_retN, Wx_brk, Wx_cnt, Wx_pass, Wx_ite, Wx_for, Wx_fit, We_var, We_mov, We_pk, We_int, We_str, We_bl, We_non, We_glob, We_bin, We_cmp, We_idx, We_neg, We_not, We_and, We_or, We_ife, We_chain, Wes_nil, Wes_cons, Wec_nil, Wec_cons, Wea_nil, Wea_cons, Wea_ref, Wea_lend, We_calll, Wei_rd, Wep_n, Wep_s, We_tup, We_lst, We_call, We_bi, We_meth, We_slc, We_lc, We_lc2, We_mx, We_rev, We_dnew, We_dsp, We_dget, Wx_setd, We_lsc, We_callv, fnN_fnD, Odd_b, Osk_b, obD_l, obD_d, dfl, Wei_zip, Old_b, Wei_seq, Wei_enum, Wei_r1, Wei_r2, Ov_some, Ov_none, Ov_if, Ov_map, Cnd_t, Cnd_f, Aft_n, Aft_s, Obo_b, Oi_b, Ofr_b, Od_b, Ol_b, Osd_b, Osb_b, Ore_v, Ore_f, Sq_nx, Sq_rt, Sq_bk, Sq_ct, Lt_n, Lt_b, Fn1_nx, Fn1_rv, Fn1_rf, Fin1_n, Fin1_s, TurnQ_nx, TurnQ_ct, TurnQ_bk, TurnQ_rt, toC_v, toC_f, toC_p, toV, argsOf, argsL, flatR, flatD, refs, asT, asTs, bo, co, DP.bi, ix, augD, DP.meth, DP.slice, optI, seqOf, DP.wipe, back, DP.free, isI, truth, toInts_map, DP.isNon, sm64_a, sm64_b, sm64_c, sm64_d, pow_a, at0, at1, at2, at3, List.getElem?_cons_zero, List.getElem?_cons_succ, List.getElem?_nil, List.set_cons_zero, List.set_cons_succ, List.mapM_cons, List.mapM_nil, Option.pure_def, Option.bind_eq_bind, Option.bind_some, Option.map_some, Option.map_none, Option.getD_some, Option.getD_none, Option.join_some, List.length_cons, List.length_nil, List.length_map, List.map_cons, List.map_nil, List.cons_append, List.nil_append, List.getD_cons_zero, List.getD_cons_succ, Nat.reduceAdd, Nat.reduceSub, Nat.reduceLeDiff, Nat.reduceLT, Int.reduceLT, Int.reduceLE, Int.reduceNeg, Int.reducePow, Nat.reduceMul, Int.reduceAdd, Int.reduceSub, Int.reduceMul, Int.reduceToNat, Bool.not_true, Bool.not_false, Bool.and_true, Bool.true_and, Bool.and_false, Bool.false_and, Bool.or_true, Bool.or_false, Bool.true_or, Bool.false_or, decide_true, decide_false, and_true, true_and, and_false, false_and, or_true, or_false, true_or, false_or, if_true, if_false, eqv_int, eqv_str, eqv_bool, shp_int, shp_bool, shp_non, toBools_map, Bool.and_self, eq_self, Bool.false_eq_true, reduceCtorEq, reduceIte, List.all_cons, List.all_nil, slotOf, List.replicate_zero, List.append_nil, List.replicate_succ]
end K96
namespace K96
open PySem PySem.Spec PyProof.Rows L2 DP
theorem hL : ∀ e ∈ L, Pr e.name = some e.fn := by
  intro e he
  simp only [L, List.mem_cons, List.not_mem_nil, or_false] at he
  rcases he with rfl | rfl | rfl | rfl | rfl | rfl | rfl | rfl | rfl | rfl | rfl | rfl <;> rfl
theorem hP : ∀ g d, Pr g = some d → ∃ e ∈ L, e.name = g ∧ e.fn = d := fun g d h => DP.ofL_mem L g d h
theorem hc : ∀ e ∈ L, e.chk = true := by
  intro e he
  simp only [L, List.mem_cons, List.not_mem_nil, or_false] at he
  rcases he with rfl | rfl | rfl | rfl | rfl | rfl | rfl | rfl | rfl | rfl | rfl | rfl
  · exact cf_ways_before
  · exact cf_ways_of
  · exact cf_ways_with
  · exact cf_log_of_number
  · exact cf_number_of_log
  · exact cf_orders
  · exact cf_law_draws
  · exact cf_law_take
  · exact cf_law_tights
  · exact cf_law_is_count
  · exact cf_law_same
  · exact cf_law
theorem all_mk {l : PySem.W.OpenLaw} {w : World} {K : PySem.W.Frag} {h : Heap} {mg : Str → Option Value} {fa : Addr} (hl : l.prog = PySem.Challenge.pw_anyvalues_k96_numbers_of_small_logs) (X : K.In h) (G : h.Ns mainGlobals mg) (hfa : mg "law" = some (.ref fa))
    {a0 : Addr} {od0 an0 : Option Addr} {sl0 : Array (Option Value)} {oc0 kV0 dc0 pm0 cd0 ct0 : Value}
    (a0_ : PySem.W.nsIn K mainGlobals "ways_before" = some (some (.ref a0))) (l0 : K.lookup a0 = some ⟨oc0, od0, .func (PySem.W.fnOf "ways_before" "ways_before" (defArgs (topS 1)) (defBody (topS 1)) (defScope (topS 1)) .none kV0 dc0 pm0 an0 cd0 ct0), sl0⟩) (c0 : PySem.W.codeIn K cd0 "ways_before" = true) (k0 : PySem.W.keepIn K (.ref a0) = true)
    {a1 : Addr} {od1 an1 : Option Addr} {sl1 : Array (Option Value)} {oc1 kV1 dc1 pm1 cd1 ct1 : Value}
    (a1_ : PySem.W.nsIn K mainGlobals "ways_of" = some (some (.ref a1))) (l1 : K.lookup a1 = some ⟨oc1, od1, .func (PySem.W.fnOf "ways_of" "ways_of" (defArgs (topS 2)) (defBody (topS 2)) (defScope (topS 2)) .none kV1 dc1 pm1 an1 cd1 ct1), sl1⟩) (c1 : PySem.W.codeIn K cd1 "ways_of" = true) (k1 : PySem.W.keepIn K (.ref a1) = true)
    {a2 : Addr} {od2 an2 : Option Addr} {sl2 : Array (Option Value)} {oc2 kV2 dc2 pm2 cd2 ct2 : Value}
    (a2_ : PySem.W.nsIn K mainGlobals "ways_with" = some (some (.ref a2))) (l2 : K.lookup a2 = some ⟨oc2, od2, .func (PySem.W.fnOf "ways_with" "ways_with" (defArgs (topS 3)) (defBody (topS 3)) (defScope (topS 3)) .none kV2 dc2 pm2 an2 cd2 ct2), sl2⟩) (c2 : PySem.W.codeIn K cd2 "ways_with" = true) (k2 : PySem.W.keepIn K (.ref a2) = true)
    {a3 : Addr} {od3 an3 : Option Addr} {sl3 : Array (Option Value)} {oc3 kV3 dc3 pm3 cd3 ct3 : Value}
    (a3_ : PySem.W.nsIn K mainGlobals "log_of_number" = some (some (.ref a3))) (l3 : K.lookup a3 = some ⟨oc3, od3, .func (PySem.W.fnOf "log_of_number" "log_of_number" (defArgs (topS 4)) (defBody (topS 4)) (defScope (topS 4)) .none kV3 dc3 pm3 an3 cd3 ct3), sl3⟩) (c3 : PySem.W.codeIn K cd3 "log_of_number" = true) (k3 : PySem.W.keepIn K (.ref a3) = true)
    {a4 : Addr} {od4 an4 : Option Addr} {sl4 : Array (Option Value)} {oc4 kV4 dc4 pm4 cd4 ct4 : Value}
    (a4_ : PySem.W.nsIn K mainGlobals "number_of_log" = some (some (.ref a4))) (l4 : K.lookup a4 = some ⟨oc4, od4, .func (PySem.W.fnOf "number_of_log" "number_of_log" (defArgs (topS 5)) (defBody (topS 5)) (defScope (topS 5)) .none kV4 dc4 pm4 an4 cd4 ct4), sl4⟩) (c4 : PySem.W.codeIn K cd4 "number_of_log" = true) (k4 : PySem.W.keepIn K (.ref a4) = true)
    {a5 : Addr} {od5 an5 : Option Addr} {sl5 : Array (Option Value)} {oc5 kV5 dc5 pm5 cd5 ct5 : Value}
    (a5_ : PySem.W.nsIn K mainGlobals "orders" = some (some (.ref a5))) (l5 : K.lookup a5 = some ⟨oc5, od5, .func (PySem.W.fnOf "orders" "orders" (defArgs (topS 7)) (defBody (topS 7)) (defScope (topS 7)) .none kV5 dc5 pm5 an5 cd5 ct5), sl5⟩) (c5 : PySem.W.codeIn K cd5 "orders" = true) (k5 : PySem.W.keepIn K (.ref a5) = true)
    {a6 : Addr} {od6 an6 : Option Addr} {sl6 : Array (Option Value)} {oc6 kV6 dc6 pm6 cd6 ct6 : Value}
    (a6_ : PySem.W.nsIn K mainGlobals "_law_draws" = some (some (.ref a6))) (l6 : K.lookup a6 = some ⟨oc6, od6, .func (PySem.W.fnOf "_law_draws" "_law_draws" (defArgs (topS 9)) (defBody (topS 9)) (defScope (topS 9)) .none kV6 dc6 pm6 an6 cd6 ct6), sl6⟩) (c6 : PySem.W.codeIn K cd6 "_law_draws" = true) (k6 : PySem.W.keepIn K (.ref a6) = true)
    {a7 : Addr} {od7 an7 : Option Addr} {sl7 : Array (Option Value)} {oc7 kV7 dc7 pm7 cd7 ct7 : Value}
    (a7_ : PySem.W.nsIn K mainGlobals "_law_take" = some (some (.ref a7))) (l7 : K.lookup a7 = some ⟨oc7, od7, .func (PySem.W.fnOf "_law_take" "_law_take" (defArgs (topS 10)) (defBody (topS 10)) (defScope (topS 10)) .none kV7 dc7 pm7 an7 cd7 ct7), sl7⟩) (c7 : PySem.W.codeIn K cd7 "_law_take" = true) (k7 : PySem.W.keepIn K (.ref a7) = true)
    {a8 : Addr} {od8 an8 : Option Addr} {sl8 : Array (Option Value)} {oc8 kV8 dc8 pm8 cd8 ct8 : Value}
    (a8_ : PySem.W.nsIn K mainGlobals "_law_tights" = some (some (.ref a8))) (l8 : K.lookup a8 = some ⟨oc8, od8, .func (PySem.W.fnOf "_law_tights" "_law_tights" (defArgs (topS 11)) (defBody (topS 11)) (defScope (topS 11)) .none kV8 dc8 pm8 an8 cd8 ct8), sl8⟩) (c8 : PySem.W.codeIn K cd8 "_law_tights" = true) (k8 : PySem.W.keepIn K (.ref a8) = true)
    {a9 : Addr} {od9 an9 : Option Addr} {sl9 : Array (Option Value)} {oc9 kV9 dc9 pm9 cd9 ct9 : Value}
    (a9_ : PySem.W.nsIn K mainGlobals "_law_is_count" = some (some (.ref a9))) (l9 : K.lookup a9 = some ⟨oc9, od9, .func (PySem.W.fnOf "_law_is_count" "_law_is_count" (defArgs (topS 12)) (defBody (topS 12)) (defScope (topS 12)) .none kV9 dc9 pm9 an9 cd9 ct9), sl9⟩) (c9 : PySem.W.codeIn K cd9 "_law_is_count" = true) (k9 : PySem.W.keepIn K (.ref a9) = true)
    {a10 : Addr} {od10 an10 : Option Addr} {sl10 : Array (Option Value)} {oc10 kV10 dc10 pm10 cd10 ct10 : Value}
    (a10_ : PySem.W.nsIn K mainGlobals "_law_same" = some (some (.ref a10))) (l10 : K.lookup a10 = some ⟨oc10, od10, .func (PySem.W.fnOf "_law_same" "_law_same" (defArgs (topS 13)) (defBody (topS 13)) (defScope (topS 13)) .none kV10 dc10 pm10 an10 cd10 ct10), sl10⟩) (c10 : PySem.W.codeIn K cd10 "_law_same" = true) (k10 : PySem.W.keepIn K (.ref a10) = true)
    {a11 : Addr} {od11 an11 : Option Addr} {sl11 : Array (Option Value)} {oc11 kV11 dc11 pm11 cd11 ct11 : Value}
    (a11_ : PySem.W.nsIn K mainGlobals "law" = some (some (.ref a11))) (l11 : K.lookup a11 = some ⟨oc11, od11, .func (PySem.W.fnOf "law" "law" (defArgs (topS 14)) (defBody (topS 14)) (defScope (topS 14)) .none kV11 dc11 pm11 an11 cd11 ct11), sl11⟩) (c11 : PySem.W.codeIn K cd11 "law" = true) (k11 : PySem.W.keepIn K (.ref a11) = true)
    (z : ∀ x ∈ bltNames, PySem.W.nsIn K mainGlobals x = some none) :
    ∃ fd : FuncData, (∀ (s : Shared) (v : Value), BindsTo s fd ⟨[v], []⟩ [("_law_script", v)]) ∧ ∀ base : Heap, K.In base → base.Ns mainGlobals mg → FnOk l.prog w K mg base CX0 60 fa fd ["_law_script"] (spF K 1 (sm 60 "law")) := by
  have e := hfa.symm.trans (PySem.W.mg_of X G a11_)
  cases e
  have D0 : DefAt K mg ef_ways_before a0 _ := ⟨fun_mk (st := topS 1) l0 c0 k0, PySem.W.mg_of X G a0_, (fun_mk (st := topS 1) l0 c0 k0).binds (ps := ["ways", "tails", "rest", "holes", "used"]) fun _ _ _ _ _ _ us hl => match us, hl with | [_, _, _, _, _], _ => rfl⟩
  have D1 : DefAt K mg ef_ways_of a1 _ := ⟨fun_mk (st := topS 2) l1 c1 k1, PySem.W.mg_of X G a1_, (fun_mk (st := topS 2) l1 c1 k1).binds (ps := ["n"]) fun _ _ _ _ _ _ us hl => match us, hl with | [_], _ => rfl⟩
  have D2 : DefAt K mg ef_ways_with a2 _ := ⟨fun_mk (st := topS 3) l2 c2 k2, PySem.W.mg_of X G a2_, (fun_mk (st := topS 3) l2 c2 k2).binds (ps := ["ways", "n", "values"]) fun _ _ _ _ _ _ us hl => match us, hl with | [_, _, _], _ => rfl⟩
  have D3 : DefAt K mg ef_log_of_number a3 _ := ⟨fun_mk (st := topS 4) l3 c3 k3, PySem.W.mg_of X G a3_, (fun_mk (st := topS 4) l3 c3 k3).binds (ps := ["n", "number"]) fun _ _ _ _ _ _ us hl => match us, hl with | [_, _], _ => rfl⟩
  have D4 : DefAt K mg ef_number_of_log a4 _ := ⟨fun_mk (st := topS 5) l4 c4 k4, PySem.W.mg_of X G a4_, (fun_mk (st := topS 5) l4 c4 k4).binds (ps := ["log"]) fun _ _ _ _ _ _ us hl => match us, hl with | [_], _ => rfl⟩
  have D5 : DefAt K mg ef_orders a5 _ := ⟨fun_mk (st := topS 7) l5 c5 k5, PySem.W.mg_of X G a5_, (fun_mk (st := topS 7) l5 c5 k5).binds (ps := ["n"]) fun _ _ _ _ _ _ us hl => match us, hl with | [_], _ => rfl⟩
  have D6 : DefAt K mg ef_law_draws a6 _ := ⟨fun_mk (st := topS 9) l6 c6 k6, PySem.W.mg_of X G a6_, (fun_mk (st := topS 9) l6 c6 k6).binds (ps := ["_law_script", "_law_many"]) fun _ _ _ _ _ _ us hl => match us, hl with | [_, _], _ => rfl⟩
  have D7 : DefAt K mg ef_law_take a7 _ := ⟨fun_mk (st := topS 10) l7 c7 k7, PySem.W.mg_of X G a7_, (fun_mk (st := topS 10) l7 c7 k7).binds (ps := ["_law_draws_here", "_law_many"]) fun _ _ _ _ _ _ us hl => match us, hl with | [_, _], _ => rfl⟩
  have D8 : DefAt K mg ef_law_tights a8 _ := ⟨fun_mk (st := topS 11) l8 c8 k8, PySem.W.mg_of X G a8_, (fun_mk (st := topS 11) l8 c8 k8).binds (ps := ["_law_many"]) fun _ _ _ _ _ _ us hl => match us, hl with | [_], _ => rfl⟩
  have D9 : DefAt K mg ef_law_is_count a9 _ := ⟨fun_mk (st := topS 12) l9 c9 k9, PySem.W.mg_of X G a9_, (fun_mk (st := topS 12) l9 c9 k9).binds (ps := ["_law_actual", "_law_due"]) fun _ _ _ _ _ _ us hl => match us, hl with | [_, _], _ => rfl⟩
  have D10 : DefAt K mg ef_law_same a10 _ := ⟨fun_mk (st := topS 13) l10 c10 k10, PySem.W.mg_of X G a10_, (fun_mk (st := topS 13) l10 c10 k10).binds (ps := ["_law_actual", "_law_due"]) fun _ _ _ _ _ _ us hl => match us, hl with | [_, _], _ => rfl⟩
  have D11 : DefAt K mg ef_law fa _ := ⟨fun_mk (st := topS 14) l11 c11 k11, PySem.W.mg_of X G a11_, (fun_mk (st := topS 14) l11 c11 k11).binds (ps := ["_law_script"]) fun _ _ _ _ _ _ us hl => match us, hl with | [_], _ => rfl⟩
  have ha : ∀ e ∈ L, ∃ f fd, DefAt K mg e f fd := by
    intro e he
    simp only [L, List.mem_cons, List.not_mem_nil, or_false] at he
    rcases he with rfl | rfl | rfl | rfl | rfl | rfl | rfl | rfl | rfl | rfl | rfl | rfl
    · exact ⟨_, _, D0⟩
    · exact ⟨_, _, D1⟩
    · exact ⟨_, _, D2⟩
    · exact ⟨_, _, D3⟩
    · exact ⟨_, _, D4⟩
    · exact ⟨_, _, D5⟩
    · exact ⟨_, _, D6⟩
    · exact ⟨_, _, D7⟩
    · exact ⟨_, _, D8⟩
    · exact ⟨_, _, D9⟩
    · exact ⟨_, _, D10⟩
    · exact ⟨_, _, D11⟩
  have blt : ∀ x ∈ bltNames, mg x = none := fun x hx => PySem.W.mg_none_of X G (z x hx)
  have glo : ∀ x d, Gc x = some d → ∃ u v, mg x = some u ∧ RelV v u ∧ ∀ Z H, Rp K Z H v d := by
    intro x d h
    unfold Gc at h
    cases h
  refine ⟨_, ?bb, fun base _ _ => text_ok (Pr := Pr) (G := Gc) hP hL hc ha blt glo (fun _ _ e => PySem.W.mg_of X G e) 59 ef_law (by simp [L]) _ _ D11⟩
  exact fun s v => .of_eq rfl
end K96
open PySem PySem.W PyProof.Rows
set_option maxHeartbeats 0 in
theorem PySem.Challenge.cw_anyvalues_k96_numbers_of_small_logs_holds : PySem.Challenge.rw_anyvalues_k96_numbers_of_small_logs.Holds := by
  w_on; o_law; k_head; (case hw => w_witness2)
  k_fill
  refine DP.walk_bits (l := PySem.Challenge.rw_anyvalues_k96_numbers_of_small_logs) (n := 63) (k := 60) (x := "_law_script") (CX := L2.CX0) (sp := fun K => DP.spF K 1 (K96.sm 60 "law")) rfl (by decide) rfl ⟨rfl, by decide, by decide⟩ (fun w h Y => PySem.W.kIn_of Y) ?F (fun K H a ns hl hb hS => DP.law_sp hS (K96.law_true ns hl hb)) (fun _ _ _ _ h => h)
  case F =>
    intro w mg fa h KX G hmg
    refine' K96.all_mk rfl KX G hmg ?qa0_ ?ql0 ?qc0 ?qk0 ?qa1_ ?ql1 ?qc1 ?qk1 ?qa2_ ?ql2 ?qc2 ?qk2 ?qa3_ ?ql3 ?qc3 ?qk3 ?qa4_ ?ql4 ?qc4 ?qk4 ?qa5_ ?ql5 ?qc5 ?qk5 ?qa6_ ?ql6 ?qc6 ?qk6 ?qa7_ ?ql7 ?qc7 ?qk7 ?qa8_ ?ql8 ?qc8 ?qk8 ?qa9_ ?ql9 ?qc9 ?qk9 ?qa10_ ?ql10 ?qc10 ?qk10 ?qa11_ ?ql11 ?qc11 ?qk11 ?qz
    (case qa0_ => k_is)
    (case ql0 => k_is)
    (case qc0 => k_is)
    (case qk0 => k_is)
    (case qa1_ => k_is)
    (case ql1 => k_is)
    (case qc1 => k_is)
    (case qk1 => k_is)
    (case qa2_ => k_is)
    (case ql2 => k_is)
    (case qc2 => k_is)
    (case qk2 => k_is)
    (case qa3_ => k_is)
    (case ql3 => k_is)
    (case qc3 => k_is)
    (case qk3 => k_is)
    (case qa4_ => k_is)
    (case ql4 => k_is)
    (case qc4 => k_is)
    (case qk4 => k_is)
    (case qa5_ => k_is)
    (case ql5 => k_is)
    (case qc5 => k_is)
    (case qk5 => k_is)
    (case qa6_ => k_is)
    (case ql6 => k_is)
    (case qc6 => k_is)
    (case qk6 => k_is)
    (case qa7_ => k_is)
    (case ql7 => k_is)
    (case qc7 => k_is)
    (case qk7 => k_is)
    (case qa8_ => k_is)
    (case ql8 => k_is)
    (case qc8 => k_is)
    (case qk8 => k_is)
    (case qa9_ => k_is)
    (case ql9 => k_is)
    (case qc9 => k_is)
    (case qk9 => k_is)
    (case qa10_ => k_is)
    (case ql10 => k_is)
    (case qc10 => k_is)
    (case qk10 => k_is)
    (case qa11_ => k_is)
    (case ql11 => k_is)
    (case qc11 => k_is)
    (case qk11 => k_is)
    (case qz => intro x hx; simp only [DP.bltNames, List.mem_cons, List.not_mem_nil, or_false] at hx; rcases hx with rfl | rfl | rfl | rfl | rfl | rfl | rfl | rfl | rfl | rfl | rfl | rfl | rfl | rfl | rfl | rfl | rfl | rfl | rfl | rfl <;> k_is)

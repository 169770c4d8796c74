import PyProof.Rows.All
import Wide.All
import OpenK.AllK
import Wide.FinOn
import HandS.ForMost
import HandS.Deep
import HandS.TupAny
import KE.KDictKeyed
import KE.KDictWalk
import KE.KDictDisplayH
import KE.KDictCopyH
import KE.KDictList
import KE.SortData
import KE.GoesEnum
import HandS.IsInst
import HandS.Defaults
import HandS.Evl
import HandS.More
import HandS.HeadHook2
import PySem.Challenge.RW_doneroom_k37_whole_needs_by_meets
import HandS.Dict
import HandS.Comp
import KE.KStateDown
import HandS.WordsExc
import HandS.Head0
import HandS.Head1
import HandS.Head2
import HandS.HeadEnd
import HandS.HeadHook1
import HandS.HeadHook3
import HandS.HeadHook4
set_option Elab.async false
set_option linter.all false
set_option maxRecDepth 100000
set_option maxHeartbeats 2000000
/-! dicts whose keys are nested tuples, over the layer: what stands at the address is told exactly (dX), the keys by the tracked tuples (NAt) -/
namespace Dr
open PySem PySem.Spec PyProof.Rows L2

mutual
/-- the value is this key -/
inductive NAt (K : PySem.W.Frag) (H : Hp) : V → NestedKey → Prop
  | non : NAt K H .non .none
  | bl (b : Bool) : NAt K H (.bl b) (.num (if b = true then 1 else 0))
  | int (i : Int) : NAt K H (.int i) (.num i)
  | str (x : Str) : NAt K H (.str x) (.text x)
  | tup {a : Addr} {xs : List V} {ks : List NestedKey} : SqT K H a xs → NAll K H xs ks → NAt K H (.ref a) (.tup ks)
inductive NAll (K : PySem.W.Frag) (H : Hp) : List V → List NestedKey → Prop
  | nil : NAll K H [] []
  | cons {v : V} {vs : List V} {k : NestedKey} {ks : List NestedKey} : NAt K H v k → NAll K H vs ks → NAll K H (v :: vs) (k :: ks)
end
theorem Same.seqT {K : PySem.W.Frag} {H H' : Hp} {a : Addr} {xs : List V} (e : Same H H') (h : SqT K H a xs) : SqT K H' a xs := by
  rcases h with (h | ⟨o, h⟩) | h
  · exact .inl (.inl (e _ _ h))
  · exact .inl (.inr ⟨o, e _ _ h⟩)
  · exact .inr h
mutual
theorem NAt.mono {K : PySem.W.Frag} {H H' : Hp} (e : Same H H') : ∀ (k : NestedKey) (v : V), NAt K H v k → NAt K H' v k
  | .none, _, h => by cases h; exact .non
  | .num _, _, h => by
    cases h with
    | bl b => exact .bl b
    | int => exact .int _
  | .text _, _, h => by cases h; exact .str _
  | .tup ks, _, h => by
    cases h with
    | tup hs ha => exact .tup (Same.seqT e hs) (NAll.mono e ks _ ha)
theorem NAll.mono {K : PySem.W.Frag} {H H' : Hp} (e : Same H H') : ∀ (ks : List NestedKey) (vs : List V), NAll K H vs ks → NAll K H' vs ks
  | [], _, h => by cases h; exact .nil
  | k :: ks, _, h => by
    cases h with
    | cons h1 h2 => exact .cons (NAt.mono e k _ h1) (NAll.mono e ks _ h2)
end
section
variable {X : Cx} {pins : List (Addr × Obj)} {σ : L2.St} {H : Hp} {s : Shared}
mutual
theorem NAt.is (I : Inv X pins σ H s) : ∀ (k : NestedKey) (v : V) (u : Value), NAt X.K H v k → RelV v u → NestedIs s.heap k u
  | .none, _, _, h, r => by
    cases h
    cases r
    exact .none
  | .num _, _, _, h, r => by
    cases h with
    | bl b =>
      cases r
      exact .bool rfl
    | int =>
      obtain ⟨t, rfl⟩ := r
      exact .int _ t
  | .text _, _, _, h, r => by
    cases h
    obtain ⟨t, rfl⟩ := r
    exact .text _ t
  | .tup ks, _, _, h, r => by
    cases h with
    | tup hs ha =>
      cases r
      obtain ⟨its, rv, ⟨o, ho, hc, n, hd⟩, _⟩ := I.tuple hs
      exact .tup ho hc hd (by simpa using NAll.is I ks _ its ha rv)
theorem NAll.is (I : Inv X pins σ H s) : ∀ (ks : List NestedKey) (vs : List V) (us : List Value), NAll X.K H vs ks → Vals vs us → NestedAll s.heap ks us
  | [], _, _, h, r => by
    cases h
    cases r
    exact .nil
  | k :: ks, _, _, h, r => by
    cases h with
    | cons h1 h2 =>
      cases r with
      | cons r1 r2 => exact .cons (NAt.is I k _ _ h1 r1) (NAll.is I ks _ _ h2 r2)
end
end

/-! ### data as keys -/
mutual
def nkOf : PyData → NestedKey
  | .none => .none
  | .bool b => .num (if b = true then 1 else 0)
  | .int i => .num i
  | .str x => .text x
  | .tuple ds => .tup (nksOf ds)
  | .list _ => .none
  | .dict _ => .none
def nksOf : List PyData → List NestedKey
  | [] => []
  | d :: ds => nkOf d :: nksOf ds
end
mutual
def keyable : PyData → Bool
  | .none => true
  | .bool _ => true
  | .int _ => true
  | .str _ => true
  | .tuple ds => keyables ds
  | .list _ => false
  | .dict _ => false
def keyables : List PyData → Bool
  | [] => true
  | d :: ds => keyable d && keyables ds
end
mutual
theorem NAt.of {K : PySem.W.Frag} {H : Hp} : ∀ (d : PyData) (v : V), Dp K H v d → keyable d = true → NAt K H v (nkOf d)
  | .none, _, h, _ => by cases h; unfold nkOf; exact .non
  | .bool _, _, h, _ => by cases h; unfold nkOf; exact .bl _
  | .int _, _, h, _ => by cases h; unfold nkOf; exact .int _
  | .str _, _, h, _ => by cases h; unfold nkOf; exact .str _
  | .tuple ds, _, h, k => by
    cases h with
    | tup hs ha =>
      unfold keyable at k
      unfold nkOf
      exact .tup hs (NAll.of ds _ ha k)
  | .list _, _, _, k => by unfold keyable at k; cases k
  | .dict _, _, _, k => by unfold keyable at k; cases k
theorem NAll.of {K : PySem.W.Frag} {H : Hp} : ∀ (ds : List PyData) (vs : List V), DpAll K H vs ds → keyables ds = true → NAll K H vs (nksOf ds)
  | [], _, h, _ => by cases h; unfold nksOf; exact .nil
  | d :: ds, _, h, k => by
    cases h with
    | cons h1 h2 =>
      unfold keyables at k
      obtain ⟨k1, k2⟩ := Bool.and_eq_true_iff.mp k
      unfold nksOf
      exact .cons (NAt.of d _ h1 k1) (NAll.of ds _ h2 k2)
end

/-! ### data moved to a larger heap -/
mutual
theorem Dp.mono {K : PySem.W.Frag} {H H' : Hp} (e : Same H H') : ∀ (d : PyData) (v : V), Dp K H v d → Dp K H' v d
  | .none, _, h => by cases h; exact .non
  | .bool _, _, h => by cases h; exact .bl _
  | .int _, _, h => by cases h; exact .int _
  | .str _, _, h => by cases h; exact .str _
  | .list ds, _, h => by
    cases h with
    | lst hs ha => exact .lst (e.seq hs) (DpAll.mono e ds _ ha)
  | .tuple ds, _, h => by
    cases h with
    | tup hs ha => exact .tup (Same.seqT e hs) (DpAll.mono e ds _ ha)
  | .dict _, _, h => by cases h
theorem DpAll.mono {K : PySem.W.Frag} {H H' : Hp} (e : Same H H') : ∀ (ds : List PyData) (vs : List V), DpAll K H vs ds → DpAll K H' vs ds
  | [], _, h => by cases h; exact .nil
  | d :: ds, _, h => by
    cases h with
    | cons h1 h2 => exact .cons (Dp.mono e d _ h1) (DpAll.mono e ds _ h2)
end

/-! ### the dict -/
def isTup : NestedKey → Bool
  | .tup _ => true
  | _ => false
/-- keys of a kind: as data, as the library's keys -/
structure Enc (κ : Type) where
  d : κ → PyData
  ok : ∀ k, keyable (d k) = true
  tup : ∀ k, isTup (nkOf (d k)) = true
  dp : ∀ k, (nkOf (d k)).depth ≤ 8
  inj : ∀ a b, nkOf (d a) = nkOf (d b) → a = b
/-- just this object -/
def dX (a : Addr) (o : Obj) : HO := .ext fun h => h.get? a = some o
structure DObj (P : Program) (w : World) (o : Obj) (xs : List (NestedKey × Addr × Value)) : Prop where
  ex : o.ExactDict
  en : ∃ es ep, o.data = .dict es ep ∧ es.toList = xs.map (entryOfKey (nestedKind P w))
  nd : (xs.map (·.1)).Nodup
section
variable {κ : Type} {E : Enc κ} {P : Program} {w : World} {K : PySem.W.Frag} {H H' G G' : Hp} {a : Addr} {kvs : List (κ × V)} {xs : List (NestedKey × Addr × Value)}
abbrev NK (E : Enc κ) (K : PySem.W.Frag) (G : Hp) : List (κ × V) → List (NestedKey × Addr × Value) → Prop := Paired fun p q => q.1 = nkOf (E.d p.1) ∧ Dp K G (.ref q.2.1) (E.d p.1) ∧ RelV p.2 q.2.2
/-- at a (of H) stands a dict of these keys (their tuples in G) and values -/
def DAt (E : Enc κ) (P : Program) (w : World) (K : PySem.W.Frag) (H G : Hp) (a : Addr) (kvs : List (κ × V)) : Prop :=
  ∃ o xs, H a = some (dX a o) ∧ DObj P w o xs ∧ (a == sysModules) = false ∧ kvs.length ≤ sizeLine ∧ NK E K G kvs xs
theorem NK.mono (e : Same G G') (r : NK E K G kvs xs) : NK E K G' kvs xs := Paired.mapP r fun _ _ z => ⟨z.1, Dp.mono e _ _ z.2.1, z.2.2⟩
theorem DAt.mono (h : DAt E P w K H G a kvs) (e : H' a = H a) (g : Same G G') : DAt E P w K H' G' a kvs := by
  obtain ⟨o, xs, h1, h2, h3, h4, h5⟩ := h
  exact ⟨o, xs, e.trans h1, h2, h3, h4, h5.mono g⟩
theorem DAt.same (h : DAt E P w K H G a kvs) (e : Same H H') (g : Same G G') : DAt E P w K H' G' a kvs := by
  obtain ⟨o, xs, h1, h2, h3, h4, h5⟩ := h
  exact ⟨o, xs, e _ _ h1, h2, h3, h4, h5.mono g⟩
theorem NK.mem : ∀ {kvs : List (κ × V)} {xs : List (NestedKey × Addr × Value)}, NK E K H kvs xs → ∀ x ∈ xs, ∃ k, x.1 = nkOf (E.d k) ∧ Dp K H (.ref x.2.1) (E.d k)
  | _, _, .nil, x, m => nomatch m
  | _, _, .cons h t, x, m => by
    rcases List.mem_cons.mp m with e | m
    · rw [e]; exact ⟨_, h.1, h.2.1⟩
    · exact NK.mem t x m
theorem NK.keys : ∀ {kvs : List (κ × V)} {xs : List (NestedKey × Addr × Value)}, NK E K H kvs xs → (kvs.map (·.1)).map (fun k => nkOf (E.d k)) = xs.map (·.1)
  | _, _, .nil => rfl
  | _, _, .cons h t => by rw [List.map_cons, List.map_cons, List.map_cons, ← h.1, NK.keys t]
theorem nodup_of_map {α β : Type} (f : α → β) : ∀ {l : List α}, (l.map f).Nodup → l.Nodup
  | [], _ => List.nodup_nil
  | x :: l, h => by
    rw [List.map_cons, List.nodup_cons] at h
    exact List.nodup_cons.mpr ⟨fun m => h.1 (List.mem_map_of_mem m), nodup_of_map f h.2⟩
theorem DAt.nodup (h : DAt E P w K H G a kvs) : (kvs.map (·.1)).Nodup := by
  obtain ⟨o, xs, h1, h2, h3, h4, h5⟩ := h
  refine nodup_of_map (fun k => nkOf (E.d k)) ?_
  rw [h5.keys]
  exact h2.nd
variable [DecidableEq κ]
theorem NK.val (r : NK E K H kvs xs) (k : κ) : RelO (valV kvs k) ((atKey xs (nkOf (E.d k))).map (·.2)) := by
  induction r with
  | nil => exact True.intro
  | @cons p q ps qs h t ih =>
    obtain ⟨h1, _, h2⟩ := h
    by_cases e : p.1 = k
    · have e' : q.1 = nkOf (E.d k) := by rw [h1, e]
      have b : atKey (q :: qs) (nkOf (E.d k)) = some q.2 := by simp [atKey, List.find?_cons, e']
      rw [valV_pos e, b]; exact h2
    · have e' : ¬ q.1 = nkOf (E.d k) := fun z => e (E.inj _ _ (h1.symm.trans z))
      have b : atKey (q :: qs) (nkOf (E.d k)) = atKey qs (nkOf (E.d k)) := by simp [atKey, List.find?_cons, e']
      rw [valV_neg e, b]; exact ih
theorem NK.repl (r : NK E K H kvs xs) (k : κ) {y : V} {u : Value} (ry : RelV y u) :
    NK E K H (kvs.map fun kv => if kv.1 = k then (kv.1, y) else kv) (xs.map (putAt (nkOf (E.d k)) u)) := by
  induction r with
  | nil => exact .nil
  | @cons p q ps qs h t ih =>
    rw [List.map_cons, List.map_cons]
    refine .cons ?_ ih
    obtain ⟨h1, h2, h3⟩ := h
    unfold putAt
    by_cases e : p.1 = k
    · have e' : q.1 = nkOf (E.d k) := by rw [h1, e]
      rw [if_pos e, if_pos e']; exact ⟨h1, h2, ry⟩
    · have e' : ¬ q.1 = nkOf (E.d k) := fun z => e (E.inj _ _ (h1.symm.trans z))
      rw [if_neg e, if_neg e']; exact ⟨h1, h2, h3⟩
theorem NK.put (r : NK E K H kvs xs) (k : κ) {b : Addr} {y : V} {u : Value} (hb : Dp K H (.ref b) (E.d k)) (ry : RelV y u) :
    NK E K H (putK kvs k y) (storedH xs (nkOf (E.d k)) b u) := by
  have e : (kvs.any fun kv => decide (kv.1 = k)) = (atKey xs (nkOf (E.d k))).isSome := by
    rw [valV_any, (r.val k).isSome_eq, Option.isSome_map]
  unfold putK storedH
  rw [e]
  by_cases q : (atKey xs (nkOf (E.d k))).isSome = true
  · rw [if_pos q, if_pos q]; exact r.repl k ry
  · rw [if_neg q, if_neg q]; exact Paired.snoc r ⟨rfl, hb, ry⟩
end

section
variable {κ : Type} {E : Enc κ} {X : Cx} {pins : List (Addr × Obj)} {σ : L2.St} {H G : Hp} {s : Shared} {a : Addr} {kvs : List (κ × V)}
theorem dX_at {P : Program} {w : World} {h : Heap} {o : Obj} (ok : HOk P w H h) (e : H a = some (dX a o)) : h.get? a = some o := (ok a _ e).1
theorem dX_ok {P : Program} {w : World} {H' : Hp} {h : Heap} {o : Obj} (e : h.get? a = some o) : ObjOk P w H' h a (dX a o) := ⟨e, ⟨o, e⟩, fun h1 h2 p k => k o p⟩
theorem key_is (I : Inv X pins σ H s) (g : Same G H) {b : Addr} {k : κ} (h : Dp X.K G (.ref b) (E.d k)) : (nestedKind X.prog X.w).is s.heap (nkOf (E.d k)) b :=
  ⟨NAt.is I _ _ _ (NAt.of _ _ (Dp.mono g _ _ h) (E.ok k)) rfl, E.dp k⟩
theorem key_ref {K : PySem.W.Frag} {x : V} {k : κ} (h : Dp K G x (E.d k)) : ∃ b, x = .ref b := by
  have t := E.tup k
  have n := NAt.of _ _ h (E.ok k)
  revert t n
  generalize nkOf (E.d k) = q
  intro t n
  cases q with
  | tup ks =>
    cases n
    exact ⟨_, rfl⟩
  | _ => cases t
/-- as the library tells it -/
theorem DAt.lib (I : Inv X pins σ H s) (g : Same G H) (h : DAt E X.prog X.w X.K H G a kvs) : ∃ xs, NK E X.K G kvs xs ∧ s.heap.DictOfH (nestedKind X.prog X.w) a xs ∧ (a == sysModules) = false ∧ kvs.length ≤ sizeLine ∧ ∃ o, H a = some (dX a o) ∧ s.heap.get? a = some o ∧ o.ExactDict := by
  obtain ⟨o, xs, h1, ⟨ex, ⟨es, ep, h2, h2'⟩, nd⟩, h3, h4, h5⟩ := h
  refine ⟨xs, h5, ⟨o, es, ep, dX_at I.hok h1, ex, h2, h2', fun x hx => ?_, nd⟩, h3, h4, o, h1, dX_at I.hok h1, ex⟩
  obtain ⟨k, e, hk⟩ := h5.mem x hx
  rw [e]
  exact key_is I g hk
theorem room_nk (hu : X.A.units + 64 < cLine) : (nestedKind X.prog X.w).room X.A.in1 := by
  show X.A.in1.units + 8 < cLine
  have e : X.A.in1.units = X.A.units + 1 := Around.in1_units _
  omega
theorem room_nk0 (hu : X.A.units + 64 < cLine) : (nestedKind X.prog X.w).room X.A := by
  show X.A.units + 8 < cLine
  omega
theorem new_ne (I : Inv X pins σ H s) : (s.heap.objs.size == sysModules) = false := beq_eq_false_iff_ne.mpr (Nat.ne_of_gt I.big)
/-- the empty dict -/
theorem DAt.nil {P : Program} {w : World} {K : PySem.W.Frag} (hd : (a == sysModules) = false) (e : H a = some (dX a { cls := .type "dict", data := .dict #[] })) : DAt E P w K H G a [] :=
  ⟨_, [], e, ⟨⟨rfl, rfl, rfl⟩, ⟨#[], 0, rfl, rfl⟩, List.nodup_nil⟩, hd, Nat.zero_le _, .nil⟩

/-! ### by values -/
variable [DecidableEq κ]
def rInN (E : Enc κ) (P : Program) (w : World) (K : PySem.W.Frag) : R2 := fun x y H Q => ∃ a k kvs G, y = .ref a ∧ Same G H ∧ Dp K G x (E.d k) ∧ DAt E P w K H G a kvs ∧ Q (.bl (valV kvs k).isSome) H
def rNotInN (E : Enc κ) (P : Program) (w : World) (K : PySem.W.Frag) : R2 := fun x y H Q => ∃ a k kvs G, y = .ref a ∧ Same G H ∧ Dp K G x (E.d k) ∧ DAt E P w K H G a kvs ∧ Q (.bl (!(valV kvs k).isSome)) H
def rIxN (E : Enc κ) (P : Program) (w : World) (K : PySem.W.Frag) : R2 := fun x y H Q => ∃ a k kvs v G, x = .ref a ∧ Same G H ∧ Dp K G y (E.d k) ∧ DAt E P w K H G a kvs ∧ valV kvs k = some v ∧ Q v H
def rSetN (E : Enc κ) (P : Program) (w : World) (K : PySem.W.Frag) : TSet := fun o i v H Q => ∃ a k kvs G, o = .ref a ∧ Same G H ∧ Dp K G i (E.d k) ∧ DAt E P w K H G a kvs ∧ kvs.length < sizeLine ∧
  ∀ ob, DAt E P w K (upd H a (dX a ob)) G a (putK kvs k v) → Q (upd H a (dX a ob))
theorem op_inN (E : Enc κ) (hu : X.A.units + 64 < cLine) : OpR X (compareOp .In) (rInN E X.prog X.w X.K) := by
  intro pins s σ H x y v u Q I rx ry h
  obtain ⟨a, k, kvs, G, rfl, g, kx, hd, q⟩ := h
  obtain ⟨b, rfl⟩ := key_ref kx
  cases rx
  cases ry
  obtain ⟨xs, rel, hm, hs, hz, _⟩ := hd.lib I g
  refine wpAny_in_heap (room_nk hu) (key_is I g kx) hs hm ?_
  have e : (atKey xs (nkOf (E.d k))).isSome = (valV kvs k).isSome := by rw [(rel.val k).isSome_eq, Option.isSome_map]
  rw [e]
  exact ⟨.bl _, H, I.tok _, rfl, q⟩
theorem op_notInN (E : Enc κ) (hu : X.A.units + 64 < cLine) : OpR X (compareOp .NotIn) (rNotInN E X.prog X.w X.K) := by
  intro pins s σ H x y v u Q I rx ry h
  obtain ⟨a, k, kvs, G, rfl, g, kx, hd, q⟩ := h
  obtain ⟨b, rfl⟩ := key_ref kx
  cases rx
  cases ry
  obtain ⟨xs, rel, hm, hs, hz, _⟩ := hd.lib I g
  show wpAny _ _ (do return Value.bool (!(← contains (.ref a) (.ref b)))) _ X.xe s
  refine wpAny_bind (wpAny_contains_heap (room_nk hu) (key_is I g kx) hs hm (wpAny_pure ?_))
  have e : (atKey xs (nkOf (E.d k))).isSome = (valV kvs k).isSome := by rw [(rel.val k).isSome_eq, Option.isSome_map]
  rw [e]
  exact ⟨.bl _, H, I.tok _, rfl, q⟩
theorem set_N (E : Enc κ) (hu : X.A.units + 64 < cLine) : PSet X (rSetN E X.prog X.w X.K) := by
  intro pins s σ H o i v ov iv u Q I ro ri rv h
  obtain ⟨a, k, kvs, G, rfl, g, kx, hd, hl, q⟩ := h
  obtain ⟨b, rfl⟩ := key_ref kx
  cases ro
  cases ri
  obtain ⟨xs, rel, hm, hs, hz, o, ho, _⟩ := hd.lib I g
  refine wpAny_setItem_heap (hsz := by rw [← Paired.length rel]; exact hz) (room_nk hu) (key_is I g kx) hm fun h' hm' hb => ?_
  obtain ⟨ob, es, ep, ho', ex, hd', he, his, nd⟩ := hm'
  have hl' : (putK kvs k v).length ≤ sizeLine := by have := length_putK kvs k v; omega
  exact ⟨_, d_write I (by rw [ho]; exact True.intro) hb ⟨ob, ho'⟩ (dX_ok ho'), q ob ⟨ob, _, upd_same, ⟨ex, ⟨es, ep, hd', he⟩, nd⟩, hs, hl', rel.put k kx rv⟩⟩
section
variable {o i e f : Expr} {pos apos cpos : Pos} {td ty tx : TE}
/-- d[y] -/
theorem pe_ixN (E : Enc κ) (hu : X.A.units + 64 < cLine) (ho : PE X o td) (hi : PE X i ty) (hs : NoSl i) : PE X (.Subscript o i pos) (tOp (rIxN E X.prog X.w X.K) td ty) := by
  refine ⟨fun pins s σ H Q I h => ?_⟩
  refine subD_of PySem.F.slot_dict_getitem.lookup hs (thn (ho.run pins s σ H _ I h) fun u s1 ⟨x, H1, I1, rx, q1⟩ => thn (hi.run pins s1 σ H1 _ I1 q1) fun iv s2 ⟨y, H2, I2, ry, a, k, kvs, v, G, ex, g, kx, hd, hv, q2⟩ => ?_)
  subst ex
  obtain rfl : u = Value.ref a := rx
  obtain ⟨b, rfl⟩ := key_ref kx
  cases ry
  obtain ⟨xs, rel, hm, hs, hz, _⟩ := hd.lib I2 g
  have r := rel.val k
  rw [hv] at r
  obtain ⟨u', hu', ru⟩ := r.some_of
  obtain ⟨p, hp, rfl⟩ := Option.map_eq_some_iff.mp hu'
  exact ⟨hm.typeIs, wpAny_getItem_heap (room_nk hu) (key_is I2 g kx) hm hp ⟨v, H2, I2.tok _, ru, q2⟩⟩
/-- d.get(y, x) -/
def tGetN (E : Enc κ) (P : Program) (w : World) (K : PySem.W.Frag) (td ty tx : TE) : TE := fun σ H Q => td σ H fun x H1 => ∃ a, x = .ref a ∧ (∃ kvs G, DAt E P w K H1 G a kvs ∧ Same G H1) ∧ ty σ H1 fun y H2 => tx σ H2 fun z H3 => ∃ k kvs G, Same G H3 ∧ Dp K G y (E.d k) ∧ DAt E P w K H3 G a kvs ∧ Q ((valV kvs k).getD z) H3
theorem pe_getN (E : Enc κ) (hu : X.A.units + 64 < cLine) (ho : PE X o td) (he : PE X e ty) (hf : PE X f tx) (m : M2 X o "get" apos e f cpos) : PE X (.Call (.Attribute o "get" apos) [e, f] [] cpos) (tGetN E X.prog X.w X.K td ty tx) := by
  refine ⟨fun pins s σ H Q I h => ?_⟩
  refine wpAny_Call_method m.base m.few m.line PySem.F.plainAttrs_dict PySem.F.slot_dict_get PySem.F.type_dict_get (thn (ho.run pins s σ H _ I h) fun u s1 ⟨x, H1, I1, rx, a, ex, ⟨kvs1, G1, d1, g1⟩, q1⟩ => ?_)
  subst ex
  obtain rfl : u = Value.ref a := rx
  obtain ⟨xs1, rel1, hm1, hs1, hz1, o1, ho1, hg1, hx1⟩ := d1.lib I1 g1
  refine ⟨hm1.typeIs, fun b eb => ?_, ?_⟩
  · cases eb
    exact ⟨o1, hg1, hx1.2.1⟩
  rw [m.trees]
  refine Calls.callWith_builtin rfl (Calls.evalArgs_plain (Calls.spliced_cons (thn (he.run pins s1 σ H1 _ I1 q1) fun iv s2 ⟨y, H2, I2, ry, q2⟩ =>
    Calls.spliced_cons (thn (hf.run pins s2 σ H2 _ I2 q2) fun fv s3 ⟨z, H3, I3, rz, k, kvs, G, g, kx, hd, q3⟩ => Calls.spliced_nil ?_))))
  obtain ⟨b, rfl⟩ := key_ref kx
  cases ry
  obtain ⟨xs, rel, hm, hs, hz, _⟩ := hd.lib I3 g
  refine call_meetsIn PySem.F.slot_dict_get hm.typeIs PySem.F.entry_dict_get (PySem.F.args_dict_get_3 _ _ _) (meetsH_dict_get_default (nestedKind X.prog X.w) a b hs fv) ⟨room_nk hu, _, xs, key_is I3 g kx, hm, ?_⟩
  exact ⟨_, H3, I3.tok _, (rel.val k).getD rz, q3⟩
/-- {} -/
def dEmpty : Obj := { cls := .type "dict", data := .dict #[] }
def tNewN : TE := fun _ H Q => ∀ p, H p = none → (p == sysModules) = false → Q (.ref p) (upd H p (dX p dEmpty))
theorem pe_newN : PE X (.Dict [] [] pos) tNewN := ⟨fun pins s σ H Q I h =>
  wpAny_Dict_empty ⟨.ref s.heap.objs.size, _, I.laid (a := s.heap.objs.size) (o := dX s.heap.objs.size dEmpty) (t' := s.toks) (fun _ _ q => Heap.get?_push_of_some _ q) (Nat.le_refl _) (dX_ok (Heap.get?_push_size _ rfl)), rfl, h _ (I.hok.fresh (Nat.le_refl _)) (new_ne I)⟩⟩
end
end
end Dr
namespace Dr
open PySem PySem.Spec PyProof.Rows L2

/-! ### l.extend(a tuple) -/
theorem list_extend_tuple (l b : Addr) (as bs : Array Value) (n m : Nat) (bd : Option Addr) (bsl : Array (Option Value)) (fit : as.size + bs.size ≤ sizeLine) :
    Meets (Builtin.«list.extend» ⟨[.ref l, .ref b], []⟩) (fun _ R s =>
      s.heap.get? l = some { cls := .type "list", dict := none, data := .seq as n, slots := #[] } ∧ s.heap.get? b = some { cls := .type "tuple", dict := bd, data := .seq bs m, slots := bsl } ∧
      R (.ok (.ret Value.none)) { s with heap := s.heap.update l (Obj.mapSeq fun x => x ++ bs), toks := s.toks }) := by
  have short : ¬ (!as.isEmpty && Builtin.List.listTooLong (as.size + bs.size)) = true := by
    simp [notLongL fit]
  have sum : (as ++ bs).size ≤ sizeLine + 1 := by simp; omega
  have before : as.size ≤ sizeLine := by omega
  refine .of_wp fun prog w A R s given => ?_
  rcases s with ⟨hp, gl, di, tok, sys⟩
  rcases given with ⟨atL, atB, post⟩
  have i1 := AutoSeq1.idx_int
  have i2 := AutoSeq1.sub_tuple_tuple
  have i3 := AutoSeq1.sub_list_list
  have i4 := AutoSeq1.sub_tuple_list
  have i5 := AutoSeq1.sub_list_tuple
  wp_walk using (wpAny_updateSeq atL rfl (hz := before) (_hz' := sum)), AutoSeq1.wpAny_loadPart' atL, AutoSeq1.wpAny_loadPart' atB
  exact ⟨_, rfl, post⟩
section
variable {X : Cx}
def rExtendT (K : PySem.W.Frag) : V → List V → Hp → VK → Prop := fun x vs H Q => ∃ l b xs zs, x = .ref l ∧ vs = [.ref b] ∧ H l = some (.lst xs) ∧ SqT K H b zs ∧ xs.length + zs.length ≤ sizeLine ∧ Q .non (upd H l (.lst (xs ++ zs)))
theorem mt_extendT : MtR X "list.extend" (rExtendT X.K) := by
  rintro pins s σ H _ _ v us Q I rx rv ⟨l, b, xs, zs, rfl, rfl, atL, atB, fit, post⟩
  cases rx
  obtain ⟨_, rfl, rb⟩ := rv.one
  cases rb
  obtain ⟨_, as, n, ra, la, oa⟩ := I.lstM atL
  obtain ⟨bs, rb, ⟨⟨bc, bd, bt, bsl⟩, ob, hbc, m, hbt⟩, lb⟩ := I.tuple atB
  obtain rfl : bc = .type "tuple" := hbc
  obtain rfl : bt = .seq bs.toArray m := hbt
  have na := ra.length
  have nb := rb.length
  have both : (xs ++ zs).length ≤ sizeLine := by rw [List.length_append]; exact fit
  have made := list_extend_tuple l b as.toArray bs.toArray n m bd bsl (by simp; omega)
  exact call_meets F.slot_list_extend ⟨_, oa, rfl⟩ F.entry_list_extend (F.args_list_extend_2 _ _) made
    ⟨oa, ob, .non, _, I.lset (its' := as ++ bs) atL oa (by simp) (ra.append rb) both, rfl, post⟩

/-! ### sorted(a list of data) -/
theorem each_of {Pp : V → PyData → Prop} : ∀ {ds : List PyData} {xs : List V} {us : List Value}, Paired Pp xs ds → Vals xs us → PySem.W.EachIs (fun u d => ∃ x, RelV x u ∧ Pp x d) us ds
  | _, _, _, .nil, .nil => .nil
  | _, _, _, .cons h1 h2, .cons r1 r2 => .cons ⟨_, r1, h1⟩ (each_of h2 r2)
theorem of_each {Pp : V → PyData → Prop} : ∀ {ds : List PyData} {us : List Value}, PySem.W.EachIs (fun u d => ∃ x, RelV x u ∧ Pp x d) us ds → ∃ xs, Paired Pp xs ds ∧ Vals xs us
  | _, _, .nil => ⟨[], .nil, .nil⟩
  | _, _, .cons ⟨x, h1, h2⟩ t => by
    obtain ⟨xs, a, b⟩ := of_each t
    exact ⟨x :: xs, .cons h2 a, .cons h1 b⟩
theorem each_reads {pins : List (Addr × Obj)} {σ : L2.St} {H : Hp} {s : Shared} (I : Inv X pins σ H s) {Pp : V → PyData → Prop} (hp : ∀ x d, Pp x d → Dp X.K H x d) : ∀ {ds : List PyData} {xs : List V} {us : List Value}, Paired Pp xs ds → Vals xs us → PySem.W.EachIs (fun v b => ∃ as, Reads s.heap v b as) us ds
  | _, _, _, .nil, .nil => .nil
  | _, _, _, .cons h1 h2, .cons r1 r2 => .cons (Dp.reads I _ _ _ (hp _ _ h1) r1) (each_reads I hp h2 r2)
def srt (ds : List PyData) : List PyData := ds.mergeSort (PySem.W.dataLe false id)
theorem srt_perm (ds : List PyData) : (srt ds).Perm ds := List.mergeSort_perm _ _
structure CanSort (ds : List PyData) : Prop where
  al : PySem.W.AllAlike ds
  so : PySem.W.Sortable ds
  dp : ∀ d ∈ ds, d.depth ≤ 40
def rSortedD (K : PySem.W.Frag) : List V → Hp → VK → Prop := fun vs H Q => ∃ a xs ds Pp, vs = [V.ref a] ∧ (∀ x d, Pp x d → Dp K H x d) ∧ SqL K H a xs ∧ Paired Pp xs ds ∧ CanSort ds ∧
  ∀ ys p, Paired Pp ys (srt ds) → H p = none → Q (.ref p) (upd H p (.lst ys))
theorem cr_sortedD (hu : X.A.units + 64 < cLine) : CallR X (.builtin "sorted") (rSortedD X.K) := by
  intro pins s σ H vs us Q I r h
  obtain ⟨a, xs, ds, Pp, rfl, g, hs, hd, ⟨al, so, dp⟩, q⟩ := h
  obtain ⟨its, rv, hl, hz⟩ := I.list hs
  obtain ⟨u, rfl, ru⟩ := vals1 r
  obtain rfl : u = Value.ref a := ru
  have e0 : ds.map (id : PyData → PyData) = ds := List.map_id ds
  have hlen : xs.length = ds.length := Paired.length hd
  refine PySem.W.sorted_data (bs := ds) (enc := id) (R := fun u d => ∃ x, RelV x u ∧ Pp x d) hl.isList (each_of hd rv) (each_reads I g hd rv) (by rw [e0]; exact al) (by rw [e0]; exact so) (by rw [← hlen]; exact hz) (fun b hb => ?_) fun out ho eo => ?_
  · have := dp b hb
    show X.A.units + 2 + b.depth < cLine
    omega
  · obtain ⟨ys, h1, h2⟩ := of_each eo
    obtain ⟨c, hc⟩ := sortedAll_at s.heap its out.toArray
    have hfresh : s.heap.objs.size ≤ s.heap.objs.size + 1 := Nat.le_add_right _ _
    refine ⟨.ref (s.heap.objs.size + 1), _, I.laid (a := s.heap.objs.size + 1) (o := .lst ys) (h' := sortedAll s.heap its out.toArray) (t' := s.toks) (fun b ob hb => sortedAll_old hb) hfresh ⟨?_, out, c, h2, hc⟩, rfl, q ys _ h1 (I.hok.fresh hfresh)⟩
    rw [h2.length, ho, ← hlen]
    exact hz
end

/-! ### list(d) -/
section
variable {κ : Type} {X : Cx}
abbrev KeysAt (E : Enc κ) (K : PySem.W.Frag) (G : Hp) : List V → List κ → Prop := Paired fun v k => Dp K G v (E.d k)
theorem NK.refs {E : Enc κ} {K : PySem.W.Frag} {G : Hp} : ∀ {kvs : List (κ × V)} {xs : List (NestedKey × Addr × Value)}, NK E K G kvs xs → KeysAt E K G (xs.map fun x => V.ref x.2.1) (kvs.map (·.1))
  | _, _, .nil => .nil
  | _, _, .cons h t => .cons h.2.1 (NK.refs t)
theorem vals_refs {κ : Type} {xs : List (κ × Addr × Value)} : ∀ {us : List Value}, us = xs.map (fun x => Value.ref x.2.1) → Vals (xs.map fun x => V.ref x.2.1) us := by
  induction xs with
  | nil => intro us e; subst e; exact .nil
  | cons x xs ih => intro us e; subst e; exact .cons rfl (ih rfl)
def rListN (E : Enc κ) (P : Program) (w : World) (K : PySem.W.Frag) : List V → Hp → VK → Prop := fun vs H Q => ∃ a kvs G, vs = [V.ref a] ∧ Same G H ∧ DAt E P w K H G a kvs ∧
  ∀ ys p, KeysAt E K G ys (kvs.map (·.1)) → H p = none → Q (.ref p) (upd H p (.lst ys))
theorem cr_listN (E : Enc κ) (hc : X.calm = true) : CallR X (.type "list") (rListN E X.prog X.w X.K) := by
  intro pins s σ H vs us Q I r h
  obtain ⟨a, kvs, G, rfl, g, hd, q⟩ := h
  obtain ⟨u, rfl, ru⟩ := vals1 r
  obtain rfl : u = Value.ref a := ru
  obtain ⟨xs, rel, hm, hs, hz, o, ho, hg, hx⟩ := hd.lib I g
  obtain ⟨es, ep, hr, hsz, he⟩ := hm.raw
  have hl : kvs.length = xs.length := Paired.length rel
  refine PySem.W.kdl_call (KdlSrc.rawDict hs (es := es) (ep := ep)) (I.ok.hd hc) hr (by omega) fun h' tk acc' c' hk hD hacc => ?_
  obtain ⟨ha1, ha2⟩ := hacc
  have e : acc'.toList = xs.map (fun x => Value.ref x.2.1) := by
    apply List.ext_getElem?
    intro i
    rw [List.getElem?_map, Array.getElem?_toList]
    by_cases hi : i < es.size
    · have hia : i < acc'.size := by rw [ha1]; exact hi
      obtain ⟨hi2, ev⟩ := ha2 i _ (Array.getElem?_eq_getElem hia)
      obtain ⟨y, hy, hk1, _⟩ := he i hi
      rw [Array.getElem?_eq_getElem hia, hy, ev, hk1]
      rfl
    · have h1 : acc'[i]? = none := Array.getElem?_eq_none (by rw [ha1]; omega)
      have h2 : xs[i]? = none := List.getElem?_eq_none (by omega)
      rw [h1, h2]
      rfl
  refine ⟨.ref s.heap.objs.size, _, I.laid (a := s.heap.objs.size) (o := .lst (xs.map fun x => V.ref x.2.1)) (h' := h') (t' := tk) hk (Nat.le_refl _) ⟨?_, acc'.toList, c', vals_refs e, by rw [Array.toArray_toList]; exact hD⟩, rfl, q _ _ rel.refs (I.hok.fresh (Nat.le_refl _))⟩
  rw [List.length_map]
  omega

/-! ### for k in d -/
def Itn (E : Enc κ) (K : PySem.W.Frag) (d : Addr) (o : Obj) (ys : List V) : It :=
  ⟨fun i H => H d = some (dX d o) ∧ i < ys.length, fun i H x H' => H' = H ∧ ys[i]? = some x, fun i H => H d = some (dX d o) ∧ ys.length ≤ i⟩
theorem turn_keysN {P : Program} {w : World} {K : PySem.W.Frag} {tg : Expr} {E : Enc κ} {d : Addr} {o : Obj} {xs : List (NestedKey × Addr × Value)} {es : Array DictEntry} {ep : Nat} (it : Addr) (hx : o.ExactDict) (hod : o.data = .dict es ep) (he : es.toList = xs.map (entryOfKey (nestedKind P w))) :
    Turn P w K tg (Itn E K d o (xs.map fun x => V.ref x.2.1)) [it] it (fun i h => h.IsKeyIter it d i es.size ep) where
  mem := List.mem_cons_self
  obj := by
    rintro i h ⟨oi, q, _, dd⟩ b hb
    obtain rfl := List.mem_singleton.mp hb
    refine ⟨oi, q, fun _ z => ?_⟩
    rw [dd] at z
    cases z
  keep := by
    intro i h h2 st same
    exact st.at fun _ q => same it List.mem_cons_self _ q
  item := by
    rintro X rfl rfl rfl hc i pins s σ H E I hf st ⟨hd, lt⟩
    have len : es.size = xs.length := size_of_entries he
    rw [List.length_map] at lt
    have inside : i < es.size := by rw [len]; exact lt
    have far := hf it List.mem_cons_self
    have key : es[i].key = .ref xs[i].2.1 := by
      have z := entry_at he i
      rw [Array.getElem?_eq_getElem inside, List.getElem?_eq_getElem lt, Option.map_some, Option.some.injEq] at z
      rw [z]
      rfl
    refine wpAny_pyNext_keys_item_raw st ⟨o, dX_at I.hok hd, hx, hod⟩ inside fun h2 after but => ?_
    obtain ⟨oi, at2, cl, dd⟩ := id after
    have J : Inv X pins σ H { s with heap := h2 } :=
      I.turned (t' := s.toks) (fun b _ nb q => (but.2 b nb).trans q) far.1 far.2.1 far.2.2.2.1 far.2.2.2.2.1 far.2.2.2.2.2
    have there : (xs.map fun x => V.ref x.2.1)[i]? = some (.ref xs[i].2.1) := by
      rw [List.getElem?_map, List.getElem?_eq_getElem lt]
      rfl
    exact ⟨es[i].key, rfl, go_of (s := { s with heap := h2 }) at2 cl dd (by decide) ⟨.ref xs[i].2.1, H, J, (by rw [key]; rfl), ⟨rfl, there⟩, after, fun b hb => (hf b hb).1⟩⟩
  done := by
    rintro X rfl rfl rfl hc i pins s σ H E I hf st ⟨hd, ge⟩
    have len : es.size = xs.length := size_of_entries he
    rw [List.length_map] at ge
    have far := hf it List.mem_cons_self
    refine wpAny_pyNext_keys_end_raw (I.ok.hd hc) st ⟨o, dX_at I.hok hd, hx, hod⟩ (by omega) fun h2 eb => ⟨rfl, ?_⟩
    exact I.turned (t' := s.toks) (fun b ob nb q => eb b ob nb q) far.1 far.2.1 far.2.2.2.1 far.2.2.2.2.1 far.2.2.2.2.2
  self := by
    intro A i s Q E st h
    exact wpAny_pyIter_keyiter st h
def iKeysN (E : Enc κ) (P : Program) (w : World) (K : PySem.W.Frag) (td : TE) : TI := fun σ H R => td σ H fun x H1 => ∃ d kvs G, x = .ref d ∧ Same G H1 ∧ DAt E P w K H1 G d kvs ∧ ∀ o ys, H1 d = some (dX d o) → KeysAt E K G ys (kvs.map (·.1)) → R (Itn E K d o ys) H1
theorem pi_keysN (E : Enc κ) {tg e : Expr} {td : TE} (he : PE X e td) : PI X tg e (iKeysN E X.prog X.w X.K td) := by
  refine ⟨fun pins s σ H R I h => ?_⟩
  refine thn (he.run pins s σ H _ I h) fun u s1 ⟨x, H1, I1, rx, d, kvs, G, ex, g, hd, q⟩ => ?_
  subst ex
  obtain rfl : u = Value.ref d := rx
  obtain ⟨o, xs, h1, ⟨hx, ⟨es, ep, h2, h2'⟩, nd⟩, h3, h4, h5⟩ := hd
  exact iter_keys h3 (dX_at I1.hok h1) hx h2 (pi_one (tk := s1.toks) I1 _ (turn_keysN (E := E) _ hx h2 h2') ⟨_, Heap.get?_push_size _ rfl, rfl, rfl⟩ (q o _ h1 h5.refs))

/-! ### {a: b} of one pair -/
variable [DecidableEq κ]
theorem dispN_wp {prog : Program} {w : World} {A : Around} {E Q : Value → Shared → Prop} {s : Shared} {knd : HeapKind prog w NestedKey} (room : knd.room A) (env : Env) (ek ev : Expr) (pos : Pos)
    (walk : wpAny (model prog w) A (evalPairs (pairTrees [some ek] [ev] env pos)) (fun kvs t => ∃ row, CarriesH knd t.heap kvs row ∧ t.heap.DictOfH knd s.heap.objs.size [] ∧
      ∀ h2 tk2, h2.DictOfH knd s.heap.objs.size (storedAllH [] row) → Heap.SameBut s.heap.objs.size t.heap h2 → Q (.ref s.heap.objs.size) { t with heap := h2, toks := tk2 }) E
      { s with heap := s.heap.push dEmpty }) : wpAny (model prog w) A (eval (.Dict [some ek] [ev] pos) env) Q E s := by
  have one : (pairTrees [some ek] [ev] env pos).length ≤ 15 := by show 1 ≤ 15; decide
  have made : wpAny (model prog w) A (subDict (pairTrees [some ek] [ev] env pos)) (fun d t => wpAny (model prog w) A (pure (Value.ref d)) Q E t) E s := by
    refine wpAny_subDictH room one (wpAny_mono walk ?_ fun _ _ x => x)
    rintro kvs t ⟨row, c1, c2, c3⟩
    exact ⟨row, c1, c2, fun h2 tk2 m1 m2 => wpAny_pure (c3 h2 tk2 m1 m2)⟩
  have shape : (evalEachOpt [some ek] env).zip ((evalEach [ev] env).map fun v => do let x ← v; standAt pos; pure x) = (pairTrees [some ek] [ev] env pos).map fun p => (some p.1, p.2) := rfl
  rw [arm_eval_Dict, shape, dictDisplay_pairs (pairTrees [some ek] [ev] env pos) (fun z => by cases z) (by omega)]
  exact wpAny_bind (wpAny_standAt (wpAny_bind made))
def tDispN (E : Enc κ) (P : Program) (w : World) (K : PySem.W.Frag) (tk tv : TE) : TE := fun σ H Q => ∀ p, H p = none → tk σ (upd H p (dX p dEmpty)) fun x H1 => tv σ H1 fun y H2 => H2 p = some (dX p dEmpty) ∧ ∃ k G, Same G H2 ∧ Dp K G x (E.d k) ∧ ∀ ob, DAt E P w K (upd H2 p (dX p ob)) G p [(k, y)] → Q (.ref p) (upd H2 p (dX p ob))
theorem pe_dispN (E : Enc κ) (hu : X.A.units + 64 < cLine) {pos : Pos} {ek ev : Expr} {tk tv : TE} (hk : PE X ek tk) (hv : PE X ev tv) : PE X (.Dict [some ek] [ev] pos) (tDispN E X.prog X.w X.K tk tv) := by
  refine ⟨fun pins s σ H Q I q => ?_⟩
  have hn := I.hok.fresh (Nat.le_refl s.heap.objs.size)
  have I1 := I.laid (a := s.heap.objs.size) (o := dX s.heap.objs.size dEmpty) (h' := s.heap.push dEmpty) (t' := s.toks) (fun _ _ q => Heap.get?_push_of_some _ q) (Nat.le_refl _) (dX_ok (Heap.get?_push_size _ rfl))
  have hd := new_ne I
  have q1 := q _ hn
  refine dispN_wp (knd := nestedKind X.prog X.w) (room_nk0 hu) X.env ek ev pos
    (pairTrees_cons_walk (thn (hk.run pins _ σ _ _ I1 q1) fun u s1 ⟨x, H1, I2, rx, q2⟩ => thn (hv.run pins s1 σ H1 _ I2 q2) fun w2 s2 ⟨y, H2, I3, ry, e, k, G, g, hkx, q3⟩ => pairTrees_nil_walk ?_))
  obtain ⟨b, rfl⟩ := key_ref hkx
  cases rx
  refine ⟨[(nkOf (E.d k), b, w2)], ⟨rfl, rfl, key_is I3 g hkx, trivial⟩, ⟨dEmpty, #[], 0, dX_at I3.hok e, ⟨rfl, rfl, rfl⟩, rfl, rfl, (fun x m => nomatch m), List.nodup_nil⟩, fun h' tk hm hs => ?_⟩
  obtain ⟨ob, es, ep, ho', ex, hd', he, his, nd⟩ := hm
  exact ⟨.ref s.heap.objs.size, _, d_write I3 (by rw [e]; exact True.intro) hs ⟨ob, ho'⟩ (dX_ok ho'), rfl, q3 ob ⟨ob, _, upd_same, ⟨ex, ⟨es, ep, hd', he⟩, nd⟩, hd, by show 1 ≤ sizeLine; decide, .cons ⟨rfl, hkx, ry⟩ .nil⟩⟩
end

/-! ### for i, x in enumerate(a tuple) -/
/-- the iterator over a tuple and the enumerate object, as they are laid -/
abbrev tupIt (a : Addr) : Obj := { cls := .type "tuple_iterator", data := .fields #[.ref a, .int 0 0] }
abbrev enumOn (i : Addr) : Obj := { cls := .type "enumerate", data := .fields #[.none, .bool false, .ref i, rawInt 0, .none, .none] }
def enumHeap (h : Heap) (a : Addr) : Heap := (h.push (tupIt a)).push (enumOn h.objs.size)
theorem tupIt_size (h : Heap) (a : Addr) : (h.push (tupIt a)).objs.size = h.objs.size + 1 := Heap.size_push ..
theorem enumHeap_keeps {h : Heap} {a b : Addr} {o : Obj} (e : h.get? b = some o) : (enumHeap h a).get? b = some o :=
  Heap.get?_push_of_some _ (Heap.get?_push_of_some _ e)
theorem enumHeap_it (h : Heap) (a : Addr) : (enumHeap h a).IsTupleIter h.objs.size a 0 :=
  ⟨_, Heap.get?_push_of_some _ (Heap.get?_push_size _ rfl), rfl, rfl⟩
theorem enumHeap_top (h : Heap) (a : Addr) : IsEnum (enumHeap h a) (h.objs.size + 1) h.objs.size 0 .none := by
  have top : (enumHeap h a).get? (h.push (tupIt a)).objs.size = some (enumOn h.objs.size) := Heap.get?_push_size _ rfl
  rwa [tupIt_size] at top
theorem enumT_new (a : Addr) (its : Array Value) :
    Meets (Builtin.«enumerate.__new__» ⟨[.type "enumerate", .ref a], []⟩)
      (fun _ R s => s.heap.IsTuple a its ∧ R (.ok (.ret (.ref (s.heap.objs.size + 1)))) { s with heap := enumHeap s.heap a }) := by
  refine .of_wp fun prog w A R s both => ?_
  rcases s with ⟨hp, gl, di, tok, sys⟩
  rcases both with ⟨isT, post⟩
  replace post : R (.ok (.ret (.ref (hp.push (tupIt a)).objs.size))) ⟨(hp.push (tupIt a)).push (enumOn hp.objs.size), gl, di, tok, sys⟩ := by
    rw [tupIt_size]
    exact post
  have sub := sub_enumerate
  have start : ∀ {A1 : Around} {E1 Q1 : Value → Shared → Prop}, Q1 (.ref hp.objs.size) ⟨hp.push (tupIt a), gl, di, tok, sys⟩ →
      wpAny (model prog w) A1 (pyIter (.ref a)) Q1 E1 ⟨hp, gl, di, tok, sys⟩ := fun q => (begins_tuple a its).iter _ _ _ _ _ _ isT q
  wp_walk using start
  refine wpAny_stack_any fun _ => wpAny_pure ?_
  split
  case' h_1 cl _ _ _ _ _ => rcases cl == Value.type "enumerate" with _ | _
  all_goals
    wp_walk using start
    exact ⟨_, rfl, post⟩
theorem call_enumT {prog : Program} {w : World} {A : Around} {E Q : Value → Shared → Prop} {s : Shared} {a : Addr} {its : Array Value} (isT : s.heap.IsTuple a its)
    (h : Q (.ref (s.heap.objs.size + 1)) { s with heap := enumHeap s.heap a }) : wpAny (model prog w) A (call (.type "enumerate") [.ref a]) Q E s :=
  callType_new F.called_enumerate (by decide) (F.typeCall_enumerate_1 _) (F.newCall_enumerate_1 _) (fun ob => F.args_object_init_2 ob _) F.entry_enumerate_new
    (enumT_new a its) ⟨isT, ⟨_, enumHeap_top _ a, rfl⟩, h⟩
def IteT (K : PySem.W.Frag) (a : Addr) : It :=
  ⟨fun i H => ∃ xs : List V, SqT K H a xs ∧ i < xs.length, fun i H v H' => ∃ T x, v = .ref T ∧ H T = none ∧ H' = upd H T (.tup [.int (i : Nat), x]) ∧ ∀ xs, SqT K H a xs → xs[i]? = some x, fun i H => ∃ xs : List V, SqT K H a xs ∧ i = xs.length⟩
theorem tup_apart {h : Heap} {a it t : Addr} {its : Array Value} {k : Nat} (p : h.IsTuple a its) (q : h.IsTupleIter it t k) : a ≠ it := by
  rintro rfl
  obtain ⟨o1, g1, c1, _⟩ := p
  obtain ⟨o2, g2, c2, _⟩ := q
  obtain rfl : o1 = o2 := Option.some.inj (g1.symm.trans g2)
  rw [c1] at c2
  exact absurd (show ("tuple" : String) = "tuple_iterator" from by injection c2) (by decide)
theorem tup_apart2 {h : Heap} {a e it : Addr} {its : Array Value} {k : Int} {old : Value} (p : h.IsTuple a its) (q : IsEnum h e it k old) : a ≠ e := by
  rintro rfl
  obtain ⟨o1, g1, c1, _⟩ := p
  have g2 : h.get? a = some _ := q
  rw [g1] at g2
  cases g2
  exact absurd (show ("enumerate" : String) = "tuple" from by injection c1) (by decide)
/-- the two objects that the loop owns, between two turns -/
def Steps (a e it : Addr) (i : Nat) (h : Heap) : Prop := (∃ old, IsEnum h e it ((i : Nat) : Int) old) ∧ h.IsTupleIter it a i
theorem Steps.low {a e it b : Addr} {i : Nat} {h : Heap} (st : Steps a e it i h) (hb : b ∈ [e, it]) : b < h.objs.size := by
  obtain ⟨⟨old, q1⟩, _, q2, _⟩ := st
  simp only [List.mem_cons, List.not_mem_nil, or_false] at hb
  rcases hb with rfl | rfl
  · exact Heap.lt_size q1
  · exact Heap.lt_size q2
theorem turn_enumT {P : Program} {w : World} {K : PySem.W.Frag} {elts : List Expr} {kk : Nat} {tpos : Pos} (a e it : Addr) (apart : e ≠ it) :
    Turn P w K (.Tuple elts kk tpos) (IteT K a) [e, it] e (Steps a e it) where
  mem := List.mem_cons_self
  obj := by
    rintro i h ⟨⟨old, q1⟩, o, q2, _, dd⟩ b hb
    simp only [List.mem_cons, List.not_mem_nil, or_false] at hb
    rcases hb with rfl | rfl
    · exact ⟨_, q1, fun _ z => nomatch z⟩
    · refine ⟨o, q2, fun _ z => ?_⟩
      rw [dd] at z
      cases z
  keep := by
    rintro i h h2 ⟨⟨old, q1⟩, q2⟩ same
    exact ⟨⟨old, same e (by simp) _ q1⟩, q2.at fun o z => same it (by simp) o z⟩
  item := by
    rintro X rfl rfl rfl hc i pins s σ H E I hf st ⟨xs, hq, lt⟩
    obtain ⟨old, en⟩ := st.1
    obtain ⟨its, rel, isT, _⟩ := I.tuple hq
    have at_i : xs[i]? = some xs[i] := List.getElem?_eq_getElem lt
    obtain ⟨u, hu, ru⟩ := rel.get at_i
    have len := rel.length
    have unh : X.A.in1.handled = none := I.ok.hd hc
    have out : e ∉ [it, a] := by
      simp only [List.mem_cons, List.not_mem_nil, or_false, not_or]
      exact ⟨apart, Ne.symm (tup_apart2 isT en)⟩
    refine wpAny_pyNext_enum_itemD (Draws.tuple unh it a (tup_apart isT st.2) its.toArray) en (i := i) ⟨st.2, isT⟩ (by simp; omega) apart out fun x h1 tk drawn own after pair _ same => ?_
    obtain rfl : x = u := by
      have z : its.toArray[i]? = some x := drawn
      rw [List.getElem?_toArray, hu] at z
      exact Option.some.inj z.symm
    refine ⟨_, rfl, wpAny_letOwnedTupleGo_enum (s := { s with heap := h1, toks := tk + 1 }) own fun h2 en2 but => ?_⟩
    have pair2 : h2.get? s.heap.objs.size = some { cls := .type "tuple", data := .seq #[.int i tk, x] } :=
      (but.2 _ (Nat.ne_of_gt (st.low List.mem_cons_self))).trans pair
    have new : ObjOk X.prog X.w (upd H s.heap.objs.size (.tup [.int (i : Nat), xs[i]])) h2 s.heap.objs.size (.tup [.int (i : Nat), xs[i]]) := by
      refine ⟨?_, [.int i tk, x], .cons ⟨_, rfl⟩ (.cons ru .nil), _, pair2, rfl, _, rfl⟩
      show 2 ≤ sizeLine
      decide
    have others : ∀ b ob, b ∉ [e, it] → s.heap.get? b = some ob → h2.get? b = some ob := by
      intro b ob nb q
      simp only [List.mem_cons, List.not_mem_nil, or_false, not_or] at nb
      exact (but.2 b nb.1).trans (same b ob nb.1 (by simpa using nb.2) q)
    have J : Inv X pins σ (upd H s.heap.objs.size (.tup [.int (i : Nat), xs[i]])) { s with heap := h2, toks := tk + 1 } :=
      I.turnedNew (ch := [e, it]) others hf (Nat.le_refl _) new
    refine ⟨.ref s.heap.objs.size, _, J, rfl, ⟨_, _, rfl, I.hok.fresh (Nat.le_refl _), rfl, fun ys hy => ?_⟩, ⟨⟨x, by rw [Int.natCast_succ]; exact en2⟩, ?_⟩, fun b hb => ?_⟩
    · rw [I.tuple_inj hy hq]
      exact at_i
    · exact after.1.at fun o q => (but.2 it apart.symm).trans q
    · exact (upd_ne (Nat.ne_of_lt (st.low hb))).trans (hf b hb).1
  done := by
    rintro X rfl rfl rfl hc i pins s σ H E I hf st ⟨xs, hq, rfl⟩
    obtain ⟨old, en⟩ := st.1
    obtain ⟨its, rel, isT, _⟩ := I.tuple hq
    have unh : X.A.in1.handled = none := I.ok.hd hc
    have far := hf it (by simp)
    have all : xs.length = its.toArray.size := by rw [List.size_toArray, rel.length]
    refine wpAny_pyNext_enum_endD (Draws.tuple unh it a (tup_apart isT st.2) its.toArray) en ?_ fun h2 eb => ⟨rfl, ?_⟩
    · rw [← all]
      exact ⟨st.2, isT⟩
    · exact I.turned (t' := s.toks) (fun b ob nb q => eb b ob nb q) far.1 far.2.1 far.2.2.2.1 far.2.2.2.2.1 far.2.2.2.2.2
  self := by
    rintro A i s Q E ⟨⟨_, en⟩, _⟩ h
    exact wpAny_pyIter_enum en h
def iEnumT (K : PySem.W.Frag) (ta : TA) : TI := fun σ H R => ta σ H fun vs H1 => ∃ a xs, vs = [.ref a] ∧ SqT K H1 a xs ∧ R (IteT K a) H1
theorem pi_enumT {X : Cx} {e : Expr} {ta : TA} {p pos tpos : Pos} {elts : List Expr} {kk : Nat} (hg : Gl X "enumerate") (hm : X.mg "enumerate" = none) (ha : PA X [e] ta) (hs : starEach [e] X.env = [(false, eval e X.env)] := by rfl) :
    PI X (.Tuple elts kk tpos) (.Call (.Name "enumerate" p) [e] [] pos) (iEnumT X.K ta) := by
  constructor
  intro pins s σ H R I h
  have args := ha.run pos pins s σ H _ I h
  refine Call_ (ld_blt I hg hm boot_enumerate (PyProof.Rows.callWith_type1 (thn args ?_) hs rfl))
  rintro us s1 ⟨_, H1, I1, r1, a, xs, rfl, hq, q⟩
  obtain ⟨_, rfl, ru⟩ := vals1 r1
  cases ru
  obtain ⟨its, rv, p', hz⟩ := I1.tuple hq
  refine call_enumT p' (wpAny_pyIter_enum (enumHeap_top _ a) ?_)
  refine ⟨s1.heap.objs.size + 1, [s1.heap.objs.size + 1, s1.heap.objs.size], _, _, H1, rfl, I1.kept (t' := s1.toks) (fun _ _ e => enumHeap_keeps e), turn_enumT a _ _ (Nat.succ_ne_self _),
    ⟨⟨.none, enumHeap_top _ a⟩, enumHeap_it _ a⟩, fun b hb => ?_, q⟩
  have far : s1.heap.objs.size ≤ b := by
    simp only [List.mem_cons, List.not_mem_nil, or_false] at hb
    rcases hb with rfl | rfl
    · exact Nat.le_succ _
    · exact Nat.le_refl _
  exact I1.fpOk far (I1.hok.fresh far)
end Dr
/-! a calculus over data: slots hold data (frozen objects) or own places (lists and dicts that change) -/
namespace Dr
open PySem PySem.Spec PyProof.Rows L2

/-! ### data, all lists tracked -/
mutual
inductive Da (K : PySem.W.Frag) (G : Hp) : V → PyData → Prop
  | non : Da K G .non .none
  | bl (b : Bool) : Da K G (.bl b) (.bool b)
  | int (i : Int) : Da K G (.int i) (.int i)
  | str (x : Str) : Da K G (.str x) (.str x)
  | lst {a : Addr} {xs : List V} {ds : List PyData} : G a = some (.lst xs) → DaAll K G xs ds → Da K G (.ref a) (.list ds)
  | tup {a : Addr} {xs : List V} {ds : List PyData} : SqT K G a xs → DaAll K G xs ds → Da K G (.ref a) (.tuple ds)
inductive DaAll (K : PySem.W.Frag) (G : Hp) : List V → List PyData → Prop
  | nil : DaAll K G [] []
  | cons {v : V} {vs : List V} {d : PyData} {ds : List PyData} : Da K G v d → DaAll K G vs ds → DaAll K G (v :: vs) (d :: ds)
end
mutual
theorem Da.mono {K : PySem.W.Frag} {H H' : Hp} (e : Same H H') : ∀ (d : PyData) (v : V), Da K H v d → Da K H' v d
  | .none, _, h => by cases h; exact .non
  | .bool _, _, h => by cases h; exact .bl _
  | .int _, _, h => by cases h; exact .int _
  | .str _, _, h => by cases h; exact .str _
  | .list ds, _, h => by
    cases h with
    | lst hs ha => exact .lst (e _ _ hs) (DaAll.mono e ds _ ha)
  | .tuple ds, _, h => by
    cases h with
    | tup hs ha => exact .tup (Same.seqT e hs) (DaAll.mono e ds _ ha)
  | .dict _, _, h => by cases h
theorem DaAll.mono {K : PySem.W.Frag} {H H' : Hp} (e : Same H H') : ∀ (ds : List PyData) (vs : List V), DaAll K H vs ds → DaAll K H' vs ds
  | [], _, h => by cases h; exact .nil
  | d :: ds, _, h => by
    cases h with
    | cons h1 h2 => exact .cons (Da.mono e d _ h1) (DaAll.mono e ds _ h2)
end
mutual
theorem Da.dp {K : PySem.W.Frag} {H : Hp} : ∀ (d : PyData) (v : V), Da K H v d → Dp K H v d
  | .none, _, h => by cases h; exact .non
  | .bool _, _, h => by cases h; exact .bl _
  | .int _, _, h => by cases h; exact .int _
  | .str _, _, h => by cases h; exact .str _
  | .list ds, _, h => by
    cases h with
    | lst hs ha => exact .lst (SqL.of hs) (DaAll.dp ds _ ha)
  | .tuple ds, _, h => by
    cases h with
    | tup hs ha => exact .tup hs (DaAll.dp ds _ ha)
  | .dict _, _, h => by cases h
theorem DaAll.dp {K : PySem.W.Frag} {H : Hp} : ∀ (ds : List PyData) (vs : List V), DaAll K H vs ds → DpAll K H vs ds
  | [], _, h => by cases h; exact .nil
  | d :: ds, _, h => by
    cases h with
    | cons h1 h2 => exact .cons (Da.dp d _ h1) (DaAll.dp ds _ h2)
end
section
variable {K : PySem.W.Frag} {G : Hp}
theorem DaAll.length : ∀ {ds : List PyData} {xs : List V}, DaAll K G xs ds → xs.length = ds.length
  | [], _, h => by cases h; rfl
  | d :: ds, _, h => by
    cases h with
    | cons h1 h2 => rw [List.length_cons, List.length_cons, DaAll.length h2]
theorem DaAll.get : ∀ {ds : List PyData} {xs : List V} {i : Nat} {d : PyData}, DaAll K G xs ds → ds[i]? = some d → ∃ v, xs[i]? = some v ∧ Da K G v d
  | [], _, i, d, h, e => by simp at e
  | d :: ds, _, i, d', h, e => by
    cases h with
    | cons h1 h2 =>
      cases i with
      | zero => simp at e; subst e; exact ⟨_, rfl, h1⟩
      | succ i => obtain ⟨v, e1, e2⟩ := h2.get (by simpa using e); exact ⟨v, by simpa using e1, e2⟩
theorem DaAll.at : ∀ {ds : List PyData} {xs : List V} {i : Nat} {v : V}, DaAll K G xs ds → xs[i]? = some v → ∃ d, ds[i]? = some d ∧ Da K G v d
  | [], _, i, d, h, e => by cases h; simp at e
  | d :: ds, _, i, v, h, e => by
    cases h with
    | cons h1 h2 =>
      cases i with
      | zero => simp at e; subst e; exact ⟨_, rfl, h1⟩
      | succ i => obtain ⟨d', e1, e2⟩ := h2.at (by simpa using e); exact ⟨d', by simpa using e1, e2⟩
theorem DaAll.append : ∀ {ds es : List PyData} {xs ys : List V}, DaAll K G xs ds → DaAll K G ys es → DaAll K G (xs ++ ys) (ds ++ es)
  | [], _, _, _, h, k => by cases h; exact k
  | d :: ds, _, _, _, h, k => by
    cases h with
    | cons h1 h2 => exact .cons h1 (h2.append k)
theorem DaAll.one {v : V} {d : PyData} (h : Da K G v d) : DaAll K G [v] [d] := .cons h .nil
theorem DaAll.drop : ∀ {ds : List PyData} {xs : List V} (n : Nat), DaAll K G xs ds → DaAll K G (xs.drop n) (ds.drop n)
  | [], _, n, h => by cases h; simp; exact .nil
  | d :: ds, _, n, h => by
    cases h with
    | cons h1 h2 =>
      cases n with
      | zero => exact .cons h1 h2
      | succ n => exact h2.drop n
theorem DaAll.take : ∀ {ds : List PyData} {xs : List V} (n : Nat), DaAll K G xs ds → DaAll K G (xs.take n) (ds.take n)
  | [], _, n, h => by cases h; simp; exact .nil
  | d :: ds, _, n, h => by
    cases h with
    | cons h1 h2 =>
      cases n with
      | zero => exact .nil
      | succ n => exact .cons h1 (h2.take n)
theorem DaAll.rep {ds : List PyData} {xs : List V} (h : DaAll K G xs ds) : ∀ n : Nat, DaAll K G (List.replicate n xs).flatten (List.replicate n ds).flatten
  | 0 => .nil
  | n + 1 => by
    rw [List.replicate_succ, List.replicate_succ, List.flatten_cons, List.flatten_cons]
    exact h.append (h.rep n)
theorem DaAll.dropLast : ∀ {ds : List PyData} {xs : List V}, DaAll K G xs ds → DaAll K G xs.dropLast ds.dropLast := fun {ds xs} h => by
  rw [List.dropLast_eq_take, List.dropLast_eq_take, h.length]
  exact h.take _
/-- the data's items were sorted -/
theorem DaAll.mem : ∀ {ds : List PyData} {xs : List V}, DaAll K G xs ds → ∀ v ∈ xs, ∃ d ∈ ds, Da K G v d
  | [], _, h, v, m => by cases h; cases m
  | d :: ds, _, h, v, m => by
    cases h with
    | cons h1 h2 =>
      rcases List.mem_cons.mp m with e | m
      · subst e; exact ⟨d, List.mem_cons_self, h1⟩
      · obtain ⟨d', m', h'⟩ := h2.mem v m; exact ⟨d', List.mem_cons_of_mem _ m', h'⟩
end
theorem Same.add {H : Hp} {p : Addr} {o : HO} (h : H p = none) : Same H (upd H p o) := fun a u e => by rw [upd_ne (ne_of_none e h)]; exact e
theorem Same.both {G H : Hp} {p : Addr} {o : HO} (s : Same G H) : Same (upd G p o) (upd H p o) := fun a u e => by
  by_cases q : a = p
  · subst q; rw [upd_same] at e ⊢; exact e
  · rw [upd_ne q] at e ⊢; exact s _ _ e

/-! ### worlds -/
/-- the heap, its frozen part -/
structure Wo where
  H : Hp
  G : Hp
  fz : Same G H
structure Le (W W' : Wo) : Prop where
  hh : Same W.H W'.H
  gg : Same W.G W'.G
  nw : ∀ b o, W'.G b = some o → W.G b = some o ∨ W.H b = none
theorem Le.refl (W : Wo) : Le W W := ⟨Same.refl _, Same.refl _, fun _ _ e => .inl e⟩
theorem Le.trans {W W1 W2 : Wo} (a : Le W W1) (b : Le W1 W2) : Le W W2 := ⟨a.hh.trans b.hh, a.gg.trans b.gg, fun c o e => by
  rcases b.nw c o e with e | e
  · exact a.nw c o e
  · exact .inr (a.hh.free e)⟩
theorem Wo.gfree {W : Wo} {p : Addr} (h : W.H p = none) : W.G p = none := by
  cases q : W.G p with
  | none => rfl
  | some o => rw [W.fz _ _ q] at h; cases h
/-- a new frozen object -/
def Wo.new (W : Wo) (p : Addr) (o : HO) : Wo := ⟨upd W.H p o, upd W.G p o, Same.both W.fz⟩
theorem Le.new {W : Wo} {p : Addr} {o : HO} (h : W.H p = none) : Le W (W.new p o) := ⟨Same.add h, Same.add (Wo.gfree h), fun b u e => by
  by_cases q : b = p
  · subst q; exact .inr h
  · rw [show (W.new p o).G b = W.G b from upd_ne q] at e; exact .inl e⟩
/-- an own object is new or changes -/
def Wo.put (W : Wo) (p : Addr) (o : HO) (h : W.G p = none) : Wo := ⟨upd W.H p o, W.G, fun a u e => by rw [upd_ne (ne_of_none e h)]; exact W.fz _ _ e⟩
theorem Le.put {W : Wo} {p : Addr} {o : HO} (h : W.H p = none) : Le W (W.put p o (Wo.gfree h)) := ⟨Same.add h, Same.refl _, fun _ _ e => .inl e⟩
/-- an own object is frozen -/
def Wo.frz (W : Wo) (p : Addr) (o : HO) (h : W.H p = some o) : Wo := ⟨W.H, upd W.G p o, fun a u e => by
  by_cases q : a = p
  · subst q; rw [upd_same] at e; rw [h]; exact e
  · rw [upd_ne q] at e; exact W.fz _ _ e⟩

/-! ### slots, own places -/
universe u1 u2
inductive Pd {α : Type u1} {β : Type u2} (R : α → β → Prop) : List α → List β → Prop
  | nil : Pd R [] []
  | cons {a : α} {b : β} {as : List α} {bs : List β} : R a b → Pd R as bs → Pd R (a :: as) (b :: bs)
theorem Pd.mapP {α : Type u1} {β : Type u2} {R S : α → β → Prop} : ∀ {as : List α} {bs : List β}, Pd R as bs → (∀ a b, R a b → S a b) → Pd S as bs
  | _, _, .nil, _ => .nil
  | _, _, .cons h t, f => .cons (f _ _ h) (Pd.mapP t f)
/-- what a slot holds: data; the place of an own object; the script; a frozen dict; a frozen object -/
inductive Sv : Type 1 where
  | dat (d : PyData)
  | loc (l : Addr)
  | scr (ns : List Int)
  | dic (κ : Type) (E : Enc κ) (kvs : List (κ × PyData))
  | obj (a : Addr) (o : HO)
inductive Mo : Type 1 where
  | lst (ds : List PyData)
  | dct (κ : Type) (E : Enc κ) (kvs : List (κ × Sv)) (ob : Option Obj)
  | txt (kvs : List (Str × PyData))
  | raw (o : HO)
structure Cn where
  P : Program
  w : World
  K : PySem.W.Frag
  A : Addr → Prop
def SvOk (C : Cn) (G : Hp) (v : V) : Sv → Prop
  | .dat d => Da C.K G v d
  | .loc l => v = .ref l
  | .scr ns => ∃ a, v = .ref a ∧ SqL C.K G a (ns.map V.int)
  | .dic κ E kvs => ∃ a vs, v = .ref a ∧ DAt E C.P C.w C.K G G a vs ∧ Paired (fun (p : κ × PyData) (q : κ × V) => p.1 = q.1 ∧ Da C.K G q.2 p.2) kvs vs
  | .obj a o => v = .ref a ∧ G a = some o
theorem SvOk.mono {C : Cn} {G G' : Hp} {v : V} {s : Sv} (e : Same G G') (h : SvOk C G v s) : SvOk C G' v s := by
  cases s with
  | dat d => exact Da.mono e _ _ h
  | loc l => exact h
  | scr ns => obtain ⟨a, h1, h2⟩ := h; exact ⟨a, h1, e.seq h2⟩
  | dic κ E kvs => obtain ⟨a, vs, h1, h2, h3⟩ := h; exact ⟨a, vs, h1, h2.same e e, Paired.mapP h3 fun _ _ z => ⟨z.1, Da.mono e _ _ z.2⟩⟩
  | obj a o => exact ⟨h.1, e _ _ h.2⟩
def MoOk (C : Cn) (W : Wo) (l : Addr) : Mo → Prop
  | .lst ds => ∃ xs, W.H l = some (.lst xs) ∧ DaAll C.K W.G xs ds
  | .dct κ E kvs ob => ∃ vs, DAt E C.P C.w C.K W.H W.G l vs ∧ Pd (fun (p : κ × Sv) (q : κ × V) => p.1 = q.1 ∧ SvOk C W.G q.2 p.2) kvs vs ∧ ∀ o, ob = some o → W.H l = some (dX l o)
  | .txt kvs => ∃ vs : List (Key × V), W.H l = some (.dK vs) ∧ Paired (fun (p : Str × PyData) (q : Key × V) => q.1 = Sum.inr p.1 ∧ Da C.K W.G q.2 p.2) kvs vs
  | .raw o => W.H l = some o
theorem MoOk.mono {C : Cn} {W W' : Wo} {l : Addr} {m : Mo} (h : MoOk C W l m) (e : W'.H l = W.H l) (g : Same W.G W'.G) : MoOk C W' l m := by
  cases m with
  | lst ds => obtain ⟨xs, h1, h2⟩ := h; exact ⟨xs, e.trans h1, DaAll.mono g _ _ h2⟩
  | dct κ E kvs ob => obtain ⟨vs, h1, h2, h3⟩ := h; exact ⟨vs, h1.mono e g, Pd.mapP h2 fun _ _ z => ⟨z.1, z.2.mono g⟩, fun o q => e.trans (h3 o q)⟩
  | txt kvs => obtain ⟨vs, h1, h2⟩ := h; exact ⟨vs, e.trans h1, Paired.mapP h2 fun _ _ z => ⟨z.1, Da.mono g _ _ z.2⟩⟩
  | raw o => exact e.trans (show W.H l = some o from h)
theorem MoOk.there {C : Cn} {W : Wo} {l : Addr} {m : Mo} (h : MoOk C W l m) : ∃ o, W.H l = some o := by
  cases m with
  | lst ds => obtain ⟨xs, h1, h2⟩ := h; exact ⟨_, h1⟩
  | dct κ E kvs ob => obtain ⟨vs, ⟨o, xs, h1, _⟩, h2⟩ := h; exact ⟨_, h1⟩
  | txt kvs => obtain ⟨vs, h1, h2⟩ := h; exact ⟨_, h1⟩
  | raw o => exact ⟨_, h⟩
abbrev Ga := List (Option Sv)
abbrev Ms := List (Addr × Mo)
abbrev Kn := List (V × Sv)
/-- since W0: all stands but what lies in C.A -/
structure Since (C : Cn) (W0 W : Wo) : Prop where
  hh : ∀ b o, ¬ C.A b → W0.H b = some o → W.H b = some o
  th : ∀ b o, W0.H b = some o → ∃ o', W.H b = some o'
  gg : Same W0.G W.G
  nw : ∀ b o, W.G b = some o → W0.G b = some o ∨ W0.H b = none
theorem Since.le {C : Cn} {W0 W W' : Wo} (s : Since C W0 W) (e : Le W W') : Since C W0 W' := ⟨fun b o n h => e.hh _ _ (s.hh b o n h), fun b o h => let ⟨o', h'⟩ := s.th b o h; ⟨o', e.hh _ _ h'⟩, s.gg.trans e.gg, fun b o h => by
  rcases e.nw b o h with h | h
  · exact s.nw b o h
  · refine .inr ?_
    cases q : W0.H b with
    | none => rfl
    | some u => obtain ⟨o', h'⟩ := s.th b u q; rw [h] at h'; cases h'⟩
theorem Since.of {C : Cn} {W W' : Wo} (e : Le W W') : Since C W W' := ⟨fun b o _ h => e.hh _ _ h, fun b o h => ⟨o, e.hh _ _ h⟩, e.gg, e.nw⟩
theorem Since.lep {C : Cn} {W W' : Wo} (s : Since C W W') (h : ∀ a, ¬ C.A a) : Le W W' := ⟨fun b o e => s.hh b o (h b) e, s.gg, s.nw⟩
structure Sta (C : Cn) (W0 : Wo) (T : Kn) (σ : L2.St) (W : Wo) (Γ : Ga) (M : Ms) : Prop where
  since : Since C W0 W
  kn : ∀ p ∈ T, SvOk C W.G p.1 p.2
  len : σ.length = Γ.length
  sl : ∀ (i : Nat) (s : Sv), Γ[i]? = some (some s) → ∃ v, σ[i]? = some (some v) ∧ SvOk C W.G v s
  mu : ∀ p ∈ M, W.G p.1 = none ∧ (W0.H p.1 = none ∨ C.A p.1) ∧ MoOk C W p.1 p.2
  nd : (M.map (·.1)).Nodup
section
variable {C : Cn} {W0 W W' : Wo} {T : Kn} {σ : L2.St} {Γ : Ga} {M : Ms}
theorem Sta.le (S : Sta C W0 T σ W Γ M) (e : Le W W') : Sta C W0 T σ W' Γ M := by
  refine ⟨S.since.le e, fun p hp => (S.kn p hp).mono e.gg, S.len, fun i s h => ?_, fun p hp => ?_, S.nd⟩
  · obtain ⟨v, h1, h2⟩ := S.sl i s h; exact ⟨v, h1, h2.mono e.gg⟩
  · obtain ⟨h1, h2, h3⟩ := S.mu p hp
    obtain ⟨o, ho⟩ := h3.there
    refine ⟨?_, h2, h3.mono ((e.hh _ _ ho).trans ho.symm) e.gg⟩
    cases q : W'.G p.1 with
    | none => rfl
    | some u =>
      rcases e.nw _ _ q with z | z
      · rw [h1] at z; cases z
      · rw [ho] at z; cases z
/-- a value known -/
theorem Sta.know (S : Sta C W0 T σ W Γ M) {v : V} {s : Sv} (h : SvOk C W.G v s) : Sta C W0 ((v, s) :: T) σ W Γ M :=
  ⟨S.since, fun p hp => by rcases List.mem_cons.mp hp with e | hp; (subst e; exact h); exact S.kn p hp, S.len, S.sl, S.mu, S.nd⟩
theorem Sta.unknow {p : V × Sv} (S : Sta C W0 (p :: T) σ W Γ M) : Sta C W0 T σ W Γ M := ⟨S.since, fun q hq => S.kn q (List.mem_cons_of_mem _ hq), S.len, S.sl, S.mu, S.nd⟩
/-- slot i gets v -/
theorem Sta.set (S : Sta C W0 T σ W Γ M) (i : Nat) {v : V} {s : Sv} (h : SvOk C W.G v s) : Sta C W0 T (σ.set i (some v)) W (Γ.set i (some s)) M := by
  refine ⟨S.since, S.kn, by rw [List.length_set, List.length_set]; exact S.len, fun j t e => ?_, S.mu, S.nd⟩
  by_cases q : i = j
  · subst q
    have hi : i < Γ.length := by
      have := (List.getElem?_eq_some_iff.mp e).1
      simpa using this
    rw [List.getElem?_set_self hi] at e
    cases e
    exact ⟨v, List.getElem?_set_self (by rw [S.len]; exact hi), h⟩
  · rw [List.getElem?_set_ne q] at e
    obtain ⟨u, h1, h2⟩ := S.sl j t e
    exact ⟨u, by rw [List.getElem?_set_ne q]; exact h1, h2⟩
/-- slots forgotten -/
theorem Sta.weak (S : Sta C W0 T σ W Γ M) {Γ' : Ga} (hl : Γ'.length = Γ.length) (h : ∀ (i : Nat) (s : Sv), Γ'[i]? = some (some s) → Γ[i]? = some (some s)) : Sta C W0 T σ W Γ' M :=
  ⟨S.since, S.kn, S.len.trans hl.symm, fun i s e => S.sl i s (h i s e), S.mu, S.nd⟩
theorem Sta.drop (S : Sta C W0 T σ W Γ M) (i : Nat) : Sta C W0 T σ W (Γ.set i none) M := S.weak (List.length_set ..) fun j s e => by
  by_cases q : i = j
  · subst q
    have hi : i < Γ.length := by
      have := (List.getElem?_eq_some_iff.mp e).1
      simpa using this
    rw [List.getElem?_set_self hi] at e
    cases e
  · rw [List.getElem?_set_ne q] at e; exact e
/-- own places forgotten -/
theorem Sta.forget (S : Sta C W0 T σ W Γ M) {M' : Ms} (h : M'.Sublist M) : Sta C W0 T σ W Γ M' := ⟨S.since, S.kn, S.len, S.sl, fun p hp => S.mu p (h.subset hp), (h.map _).nodup S.nd⟩
theorem Sta.fresh0 (S : Sta C W0 T σ W Γ M) {p : Addr} (h : W.H p = none) : W0.H p = none := by
  cases q : W0.H p with
  | none => rfl
  | some u => obtain ⟨o', h'⟩ := S.since.th p u q; rw [h] at h'; cases h'
theorem Sta.fresh (S : Sta C W0 T σ W Γ M) {p : Addr} (h : W.H p = none) : p ∉ M.map (·.1) := fun m => by
  obtain ⟨q, hq, e⟩ := List.mem_map.mp m
  obtain ⟨o', ho⟩ := (S.mu q hq).2.2.there
  rw [e, h] at ho
  cases ho
/-- a new own object -/
theorem Sta.own (S : Sta C W0 T σ W Γ M) {p : Addr} {o : HO} {m : Mo} (h : W.H p = none) (k : MoOk C (W.put p o (Wo.gfree h)) p m) : Sta C W0 T σ (W.put p o (Wo.gfree h)) Γ ((p, m) :: M) := by
  have S' := S.le (Le.put (o := o) h)
  refine ⟨S'.since, S'.kn, S'.len, S'.sl, fun q hq => ?_, ?_⟩
  · rcases List.mem_cons.mp hq with e | hq
    · subst e; exact ⟨Wo.gfree (W := W) h, .inl (S.fresh0 h), k⟩
    · exact S'.mu q hq
  · rw [List.map_cons, List.nodup_cons]
    exact ⟨S.fresh h, S.nd⟩
/-- an own object changes -/
theorem Sta.change (S : Sta C W0 T σ W Γ M) {j : Nat} {l : Addr} {m m' : Mo} {o : HO} (e : M[j]? = some (l, m)) (g : W.G l = none) (k : MoOk C (W.put l o g) l m') : Sta C W0 T σ (W.put l o g) Γ (M.set j (l, m')) := by
  have hj := (List.getElem?_eq_some_iff.mp e).1
  have hm : (l, m) ∈ M := List.mem_of_getElem? e
  have hl := S.mu _ hm
  refine ⟨⟨fun b u n h => ?_, fun b u h => ?_, S.since.gg, S.since.nw⟩, S.kn, S.len, S.sl, fun q hq => ?_, ?_⟩
  · have hb : b ≠ l := fun z => by
      subst z
      rcases hl.2.1 with z | z
      · rw [z] at h; cases h
      · exact n z
    show upd W.H l o b = some u
    rw [upd_ne hb]
    exact S.since.hh b u n h
  · by_cases hb : b = l
    · subst hb; exact ⟨o, upd_same⟩
    · obtain ⟨o', h'⟩ := S.since.th b u h
      exact ⟨o', by show upd W.H l o b = _; rw [upd_ne hb]; exact h'⟩
  · obtain ⟨i, hi, e'⟩ := List.mem_iff_getElem.mp hq
    rw [List.length_set] at hi
    by_cases z : j = i
    · subst z
      rw [List.getElem_set_self] at e'
      subst e'
      exact ⟨g, hl.2.1, k⟩
    · rw [List.getElem_set_ne z] at e'
      subst e'
      have hq' := S.mu _ (List.getElem_mem hi)
      refine ⟨hq'.1, hq'.2.1, hq'.2.2.mono ?_ (Same.refl _)⟩
      show upd W.H l o _ = _
      refine upd_ne fun z' => z ?_
      have n := S.nd
      have e1 : (M.map (·.1))[j]? = some l := by rw [List.getElem?_map, e]; rfl
      have e2 : (M.map (·.1))[i]? = some l := by rw [List.getElem?_map, List.getElem?_eq_getElem hi]; simp [z']
      exact nd_ix n e1 e2
  · rw [List.map_set]
    have e1 : (M.map (·.1)).set j (l, m').1 = M.map (·.1) := by
      refine List.ext_getElem? fun i => ?_
      by_cases z : j = i
      · subst z
        rw [List.getElem?_set_self (by simpa using hj), List.getElem?_map, e]
        rfl
      · rw [List.getElem?_set_ne z]
    rw [e1]
    exact S.nd
/-- what is said of an own object changes -/
theorem Sta.resay (S : Sta C W0 T σ W Γ M) {j : Nat} {l : Addr} {m m' : Mo} (e : M[j]? = some (l, m)) (k : MoOk C W l m → MoOk C W l m') : Sta C W0 T σ W Γ (M.set j (l, m')) := by
  have hm : (l, m) ∈ M := List.mem_of_getElem? e
  obtain ⟨g, _, h3⟩ := S.mu _ hm
  obtain ⟨o, ho⟩ := h3.there
  have ew : W.put l o g = W := by
    cases W with
    | mk H G fz =>
      have : upd H l o = H := funext fun b => by
        by_cases q : b = l
        · subst q; rw [upd_same]; exact ho.symm
        · rw [upd_ne q]
      simp only [Wo.put, this]
  have S' := S.change (o := o) (m' := m') e g (by rw [ew]; exact k h3)
  rw [ew] at S'
  exact S'
theorem Sta.ne_other (S : Sta C W0 T σ W Γ M) {j : Nat} {l : Addr} {m : Mo} (e : M[j]? = some (l, m)) : ∀ p ∈ M.eraseIdx j, p.1 ≠ l := fun p hp z => by
  obtain ⟨i, hi, e'⟩ := List.mem_eraseIdx_iff_getElem?.mp hp
  have e1 : (M.map (·.1))[j]? = some l := by rw [List.getElem?_map, e]; rfl
  have e2 : (M.map (·.1))[i]? = some l := by rw [List.getElem?_map, e']; simp [z]
  exact hi (nd_ix S.nd e2 e1)
/-- an own object is frozen -/
theorem Sta.freezeO (S : Sta C W0 T σ W Γ M) {j : Nat} {l : Addr} {m : Mo} {o : HO} (e : M[j]? = some (l, m)) (n : W0.H l = none) (hx : W.H l = some o) : Sta C W0 T σ (W.frz l o hx) Γ (M.eraseIdx j) := by
  have hm : (l, m) ∈ M := List.mem_of_getElem? e
  obtain ⟨g, _, _⟩ := S.mu _ hm
  have sg : Same W.G (W.frz l _ hx).G := Same.add g
  refine ⟨⟨S.since.hh, S.since.th, S.since.gg.trans sg, fun b o h => ?_⟩, fun p hp => (S.kn p hp).mono sg, S.len, fun i s h => ?_, fun p hp => ?_, (S.nd.sublist ((List.eraseIdx_sublist ..).map _))⟩
  · by_cases q : b = l
    · subst q; exact .inr n
    · rw [show (W.frz l _ hx).G b = W.G b from upd_ne q] at h; exact S.since.nw b o h
  · obtain ⟨v, h1, h2⟩ := S.sl i s h; exact ⟨v, h1, h2.mono sg⟩
  · have hp' := S.mu p ((List.eraseIdx_sublist ..).subset hp)
    have ne : p.1 ≠ l := S.ne_other e p hp
    exact ⟨by show upd W.G l _ p.1 = none; rw [upd_ne ne]; exact hp'.1, hp'.2.1, hp'.2.2.mono rfl sg⟩
theorem Sta.freeze (S : Sta C W0 T σ W Γ M) {j : Nat} {l : Addr} {ds : List PyData} (e : M[j]? = some (l, .lst ds)) (n : W0.H l = none) : ∃ W', W'.H = W.H ∧ Sta C W0 T σ W' Γ (M.eraseIdx j) ∧ Da C.K W'.G (.ref l) (.list ds) := by
  have hm : (l, Mo.lst ds) ∈ M := List.mem_of_getElem? e
  obtain ⟨g, _, xs, hx, hd⟩ := S.mu _ hm
  exact ⟨W.frz l _ hx, rfl, S.freezeO e n hx, .lst upd_same (DaAll.mono (Same.add g) _ _ hd)⟩
theorem Sta.freezeD (S : Sta C W0 T σ W Γ M) {j : Nat} {l : Addr} {κ : Type} {E : Enc κ} {kvs : List (κ × PyData)} {ob : Option Obj} (e : M[j]? = some (l, .dct κ E (kvs.map fun p => (p.1, .dat p.2)) ob)) (n : W0.H l = none) :
    ∃ W', W'.H = W.H ∧ Sta C W0 T σ W' Γ (M.eraseIdx j) ∧ SvOk C W'.G (.ref l) (.dic κ E kvs) := by
  have hm := List.mem_of_getElem? e
  obtain ⟨g, _, vs, hx, hd, _⟩ := S.mu _ hm
  obtain ⟨o, xs, h1, h2, h3, h4, h5⟩ := id hx
  have sg : Same W.G (W.frz l _ h1).G := Same.add g
  refine ⟨W.frz l _ h1, rfl, S.freezeO e n h1, l, vs, rfl, ⟨o, xs, upd_same, h2, h3, h4, h5.mono sg⟩, ?_⟩
  have : ∀ (kvs : List (κ × PyData)) (vs : List (κ × V)), Pd (fun (p : κ × Sv) (q : κ × V) => p.1 = q.1 ∧ SvOk C W.G q.2 p.2) (kvs.map fun p => (p.1, .dat p.2)) vs → Paired (fun (p : κ × PyData) (q : κ × V) => p.1 = q.1 ∧ Da C.K (W.frz l _ h1).G q.2 p.2) kvs vs := by
    intro kvs
    induction kvs with
    | nil => intro vs h; cases h; exact .nil
    | cons p kvs ih =>
      intro vs h
      cases h with
      | cons a b => exact .cons ⟨a.1, Da.mono sg _ _ a.2⟩ (ih _ b)
  exact this kvs vs hd
end
end Dr
/-! what a reading evaluates to, as data -/
namespace Dr
open PySem PySem.Spec PyProof.Rows L2

def EvS (C : Cn) (Γ : Ga) (M : Ms) (te : TE) (s : Sv) : Prop := ∀ W0 T σ W, Sta C W0 T σ W Γ M → ∀ Q : VK, (∀ v W', Le W W' → SvOk C W'.G v s → Q v W'.H) → te σ W.H Q
/-- a view: data of the heap as it stands -/
def EvV (C : Cn) (Γ : Ga) (M : Ms) (te : TE) (d : PyData) : Prop := ∀ W0 T σ W, Sta C W0 T σ W Γ M → ∀ Q : VK, (∀ v W', Le W W' → Da C.K W'.H v d → Q v W'.H) → te σ W.H Q
abbrev Svs (C : Cn) (G : Hp) : List V → List Sv → Prop := Pd fun v s => SvOk C G v s
def EvA (C : Cn) (Γ : Ga) (M : Ms) (ta : TA) (ss : List Sv) : Prop := ∀ W0 T σ W, Sta C W0 T σ W Γ M → ∀ Q : List V → Hp → Prop, (∀ vs W', Le W W' → Svs C W'.G vs ss → Q vs W'.H) → ta σ W.H Q
def EvT (C : Cn) (Γ : Ga) (M : Ms) (tt : TT) (b : Bool) : Prop := ∀ W0 T σ W, Sta C W0 T σ W Γ M → ∀ Q : Bool → Hp → Prop, (∀ W', Le W W' → Q b W'.H) → tt σ W.H Q
theorem Svs.mono {C : Cn} {G G' : Hp} {vs : List V} {ss : List Sv} (e : Same G G') (h : Svs C G vs ss) : Svs C G' vs ss := Pd.mapP h fun _ _ z => z.mono e
theorem Svs.das {C : Cn} {G : Hp} : ∀ {vs : List V} {ds : List PyData}, Svs C G vs (ds.map Sv.dat) → DaAll C.K G vs ds
  | _, [], h => by cases h; exact .nil
  | _, d :: ds, h => by
    cases h with
    | cons a b => exact .cons a (Svs.das b)
section
variable {C : Cn} {Γ : Ga} {M : Ms} {ta tb te tc : TE} {s : Sv} {d e : PyData}
theorem EvS.v (h : EvS C Γ M te (.dat d)) : EvV C Γ M te d := fun W0 T σ W S Q k => h W0 T σ W S Q fun v W' l ok => k v W' l (Da.mono W'.fz _ _ ok)
theorem EvS.to {s' : Sv} (h : EvS C Γ M te s) (e : s = s') : EvS C Γ M te s' := e ▸ h
theorem EvT.to {t : TT} {b b' : Bool} (h : EvT C Γ M t b) (e : b = b') : EvT C Γ M t b' := e ▸ h
theorem e_var {i : Nat} (h : Γ[i]? = some (some s)) : EvS C Γ M (tVar i) s := fun W0 T σ W S Q k => by
  obtain ⟨v, h1, h2⟩ := S.sl i s h
  exact ⟨v, h1, k v W (Le.refl W) h2⟩
theorem e_int {i : Int} : EvS C Γ M (tC (.int i)) (.dat (.int i)) := fun W0 T σ W S Q k => k _ W (Le.refl W) (.int i)
theorem e_bl {b : Bool} : EvS C Γ M (tC (.bl b)) (.dat (.bool b)) := fun W0 T σ W S Q k => k _ W (Le.refl W) (.bl b)
theorem e_str {x : Str} : EvS C Γ M (tC (.str x)) (.dat (.str x)) := fun W0 T σ W S Q k => k _ W (Le.refl W) (.str x)
theorem e_non : EvS C Γ M (tC .non) (.dat .none) := fun W0 T σ W S Q k => k _ W (Le.refl W) .non
theorem e_known {v : V} (h : ∀ G, SvOk C G v s) : EvS C Γ M (tC v) s := fun W0 T σ W S Q k => k _ W (Le.refl W) (h _)
/-- an own list seen -/
theorem v_own {i j : Nat} {l : Addr} {ds : List PyData} (h : Γ[i]? = some (some (.loc l))) (hm : M[j]? = some (l, .lst ds)) : EvV C Γ M (tVar i) (.list ds) := fun W0 T σ W S Q k => by
  obtain ⟨v, h1, h2⟩ := S.sl i _ h
  have h2 : v = .ref l := h2
  subst h2
  obtain ⟨_, _, xs, hx, hd⟩ := S.mu _ (List.mem_of_getElem? hm)
  exact ⟨_, h1, k _ W (Le.refl W) (.lst hx (DaAll.mono W.fz _ _ hd))⟩
/-- two in a row -/
theorem e_op2 {r : R2} {sa sb : Sv} (ha : EvS C Γ M ta sa) (hb : EvS C Γ M tb sb)
    (hr : ∀ W0 T σ W, Sta C W0 T σ W Γ M → ∀ x y, SvOk C W.G x sa → SvOk C W.G y sb → ∀ Q : VK, (∀ v W', Le W W' → SvOk C W'.G v s → Q v W'.H) → r x y W.H Q) : EvS C Γ M (tOp r ta tb) s := fun W0 T σ W S Q k =>
  ha W0 T σ W S _ fun x W1 l1 ok1 => hb W0 T σ W1 (S.le l1) _ fun y W2 l2 ok2 =>
    hr W0 T σ W2 ((S.le l1).le l2) x y (ok1.mono l2.gg) ok2 Q fun v W3 l3 ok3 => k v W3 ((l1.trans l2).trans l3) ok3
theorem e_op2v {r : R2} {b : Bool} (ha : EvV C Γ M ta d) (hb : EvV C Γ M tb e)
    (hr : ∀ H x y, Da C.K H x d → Da C.K H y e → ∀ Q : VK, Q (.bl b) H → r x y H Q) : EvS C Γ M (tOp r ta tb) (.dat (.bool b)) := fun W0 T σ W S Q k =>
  ha W0 T σ W S _ fun x W1 l1 ok1 => hb W0 T σ W1 (S.le l1) _ fun y W2 l2 ok2 =>
    hr W2.H x y (Da.mono l2.hh _ _ ok1) ok2 Q (k _ W2 (l1.trans l2) (.bl b))
def vS : V → Sv
  | .int i => .dat (.int i)
  | .bl b => .dat (.bool b)
  | .str x => .dat (.str x)
  | .ref a => .loc a
  | _ => .dat .none
theorem vS_int {G : Hp} {i : Int} : SvOk C G (.int i) (vS (.int i)) := .int i
theorem e_I0 {g : Int → Int → V} {i j : Int} (ha : EvS C Γ M ta (.dat (.int i))) (hb : EvS C Γ M tb (.dat (.int j))) (hg : ∀ G, SvOk C G (g i j) (vS (g i j))) : EvS C Γ M (tOp (rI0 g) ta tb) (vS (g i j)) :=
  e_op2 ha hb fun W0 T σ W S x y hx hy Q k => by
    cases hx; cases hy
    exact ⟨i, j, rfl, rfl, k _ W (Le.refl W) (hg _)⟩
theorem e_I {g : Int → Int → V} {D : Int → Int → Prop} {i j : Int} (ha : EvS C Γ M ta (.dat (.int i))) (hb : EvS C Γ M tb (.dat (.int j))) (hd : D i j) (hg : ∀ G, SvOk C G (g i j) (vS (g i j))) : EvS C Γ M (tOp (rI D g) ta tb) (vS (g i j)) :=
  e_op2 ha hb fun W0 T σ W S x y hx hy Q k => by
    cases hx; cases hy
    exact ⟨i, j, rfl, rfl, hd, k _ W (Le.refl W) (hg _)⟩
theorem e_add {i j : Int} (ha : EvS C Γ M ta (.dat (.int i))) (hb : EvS C Γ M tb (.dat (.int j))) : EvS C Γ M (tOp (rI0 fun i j => .int (i + j)) ta tb) (.dat (.int (i + j))) := e_I0 ha hb fun _ => .int _
theorem e_sub {i j : Int} (ha : EvS C Γ M ta (.dat (.int i))) (hb : EvS C Γ M tb (.dat (.int j))) : EvS C Γ M (tOp (rI0 fun i j => .int (i - j)) ta tb) (.dat (.int (i - j))) := e_I0 ha hb fun _ => .int _
theorem e_mul {i j : Int} (ha : EvS C Γ M ta (.dat (.int i))) (hb : EvS C Γ M tb (.dat (.int j))) (h : CMul i j) : EvS C Γ M (tOp (rI CMul fun i j => .int (i * j)) ta tb) (.dat (.int (i * j))) := e_I ha hb h fun _ => .int _
theorem e_mod {i j : Int} (ha : EvS C Γ M ta (.dat (.int i))) (hb : EvS C Γ M tb (.dat (.int j))) (h : 0 < j) : EvS C Γ M (tOp (rI (fun _ j => 0 < j) fun i j => .int (i % j)) ta tb) (.dat (.int (i % j))) := e_I ha hb h fun _ => .int _
theorem e_fdiv {i j : Int} (ha : EvS C Γ M ta (.dat (.int i))) (hb : EvS C Γ M tb (.dat (.int j))) (h : CDiv i j) : EvS C Γ M (tOp (rI CDiv fun i j => .int (i / j)) ta tb) (.dat (.int (i / j))) := e_I ha hb h fun _ => .int _
theorem e_pow {i j : Int} (ha : EvS C Γ M ta (.dat (.int i))) (hb : EvS C Γ M tb (.dat (.int j))) (h : CPow i j) : EvS C Γ M (tOp (rI CPow fun i j => .int (i ^ j.toNat)) ta tb) (.dat (.int (i ^ j.toNat))) := e_I ha hb h fun _ => .int _
theorem e_gt {i j : Int} (ha : EvS C Γ M ta (.dat (.int i))) (hb : EvS C Γ M tb (.dat (.int j))) : EvS C Γ M (tOp (rI0 fun i j => .bl (decide (j < i))) ta tb) (.dat (.bool (decide (j < i)))) := e_I0 ha hb fun _ => .bl _
theorem e_lt {i j : Int} (ha : EvS C Γ M ta (.dat (.int i))) (hb : EvS C Γ M tb (.dat (.int j))) : EvS C Γ M (tOp (rI0 fun i j => .bl (decide (i < j))) ta tb) (.dat (.bool (decide (i < j)))) := e_I0 ha hb fun _ => .bl _
end

/-! ### the size of data -/
structure Flat (d : PyData) : Prop where
  lay : d.canLay0 = true
  dp : d.depth ≤ 40
theorem shaped_of {d : PyData} (f : Flat d) : SeqAt.shaped d = true := by
  unfold SeqAt.shaped
  rw [f.lay, Bool.true_and, decide_eq_true_eq]
  have := f.dp
  omega
section
variable {C : Cn} {Γ : Ga} {M : Ms} {ta tb te tc : TE} {s : Sv} {d e : PyData} {tt tu : TT} {b c : Bool}
theorem e_eqv (ha : EvV C Γ M ta d) (hb : EvV C Γ M tb e) (fd : Flat d) (fe : Flat e) : EvS C Γ M (tOp (rEqD C.K) ta tb) (.dat (.bool (PyData.eqv d e))) :=
  e_op2v ha hb fun H x y hx hy Q k => ⟨d, e, Da.dp _ _ hx, Da.dp _ _ hy, shaped_of fd, shaped_of fe, k⟩
theorem e_nev (ha : EvV C Γ M ta d) (hb : EvV C Γ M tb e) (fd : Flat d) (fe : Flat e) : EvS C Γ M (tOp (rNeD C.K) ta tb) (.dat (.bool (!PyData.eqv d e))) :=
  e_op2v ha hb fun H x y hx hy Q k => ⟨d, e, Da.dp _ _ hx, Da.dp _ _ hy, shaped_of fd, shaped_of fe, k⟩
theorem e_eq (ha : EvS C Γ M ta (.dat d)) (hb : EvS C Γ M tb (.dat e)) (fd : Flat d) (fe : Flat e) : EvS C Γ M (tOp (rEqD C.K) ta tb) (.dat (.bool (PyData.eqv d e))) := e_eqv ha.v hb.v fd fe
theorem e_ne (ha : EvS C Γ M ta (.dat d)) (hb : EvS C Γ M tb (.dat e)) (fd : Flat d) (fe : Flat e) : EvS C Γ M (tOp (rNeD C.K) ta tb) (.dat (.bool (!PyData.eqv d e))) := e_nev ha.v hb.v fd fe
/-- x in (texts) -/
def strIn (x : Str) (xs : List Str) : Bool := xs.any fun y => decide (y = x)
theorem e_inT {x : Str} {xs : List Str} (ha : EvS C Γ M ta (.dat (.str x))) (hb : EvS C Γ M tb (.dat (.tuple (xs.map .str)))) : EvS C Γ M (tOp (rIn C.K false) ta tb) (.dat (.bool (strIn x xs))) :=
  e_op2 ha hb fun W0 T σ W S u v hu hv Q k => by
    cases hu
    cases hv with
    | @tup a vs _ hs hall =>
      have key : ∀ (xs : List Str) (vs : List V), DaAll C.K W.G vs (xs.map .str) → vs.all flatV = true ∧ inV (.str x) vs = strIn x xs := by
        intro xs
        induction xs with
        | nil => intro vs h; cases h; exact ⟨rfl, rfl⟩
        | cons y ys ih =>
          intro vs h
          cases h with
          | cons h1 h2 =>
            cases h1
            obtain ⟨i1, i2⟩ := ih _ h2
            refine ⟨by rw [List.all_cons, i1]; rfl, ?_⟩
            unfold inV strIn at *
            rw [List.any_cons, List.any_cons, i2]
            have : eqV (.str y) (.str x) = decide (y = x) := by
              unfold eqV
              by_cases q : y = x
              · subst q; simp
              · simp [q]
            rw [this]
      obtain ⟨k1, k2⟩ := key xs vs hall
      refine ⟨a, vs, rfl, .inr (Same.seqT W.fz hs), rfl, k1, ?_⟩
      rw [if_neg Bool.false_ne_true, k2]
      exact k _ W (Le.refl W) (.bl _)
theorem e_inD {ds : List PyData} (ha : EvS C Γ M ta (.dat d)) (hb : EvS C Γ M tb (.dat (.list ds))) (fd : Flat d) (fe : Flat (.list ds)) : EvS C Γ M (tOp (rInD C.K) ta tb) (.dat (.bool (ds.any fun z => PyData.eqv z d))) :=
  e_op2v ha.v hb.v fun H x y hx hy Q k => ⟨d, ds, Da.dp _ _ hx, Da.dp _ _ hy, shaped_of fd, shaped_of fe, k⟩
theorem e_notInD {ds : List PyData} (ha : EvS C Γ M ta (.dat d)) (hb : EvS C Γ M tb (.dat (.list ds))) (fd : Flat d) (fe : Flat (.list ds)) : EvS C Γ M (tOp (rNotInD C.K) ta tb) (.dat (.bool (!ds.any fun z => PyData.eqv z d))) :=
  e_op2v ha.v hb.v fun H x y hx hy Q k => ⟨d, ds, Da.dp _ _ hx, Da.dp _ _ hy, shaped_of fd, shaped_of fe, k⟩
/-! items -/
theorem DaAll.atI {K : PySem.W.Frag} {G : Hp} {ds : List PyData} {xs : List V} {i : Int} (h : DaAll K G xs ds) (e : L2.atI ds i = some d) : ∃ v, L2.atI xs i = some v ∧ Da K G v d := by
  unfold L2.atI at e ⊢
  rw [h.length]
  cases q : ixN ds.length i with
  | none => rw [q] at e; cases e
  | some j =>
    rw [q] at e
    exact h.get (show ds[j]? = some d from e)
theorem e_ixT {ds : List PyData} {i : Int} (ha : EvS C Γ M ta (.dat (.tuple ds))) (hb : EvS C Γ M tb (.dat (.int i))) (h : L2.atI ds i = some d) : EvS C Γ M (tOp (rIx C.K) ta tb) (.dat d) :=
  e_op2 ha hb fun W0 T σ W S x y hx hy Q k => by
    cases hy
    cases hx with
    | tup hs hall =>
      obtain ⟨v, h1, h2⟩ := hall.atI h
      exact .inr (.inl ⟨_, _, i, v, rfl, rfl, Same.seqT W.fz hs, h1, k v W (Le.refl W) h2⟩)
theorem e_ixL {ds : List PyData} {i : Int} (ha : EvS C Γ M ta (.dat (.list ds))) (hb : EvS C Γ M tb (.dat (.int i))) (h : L2.atI ds i = some d) : EvS C Γ M (tOp (rIx C.K) ta tb) (.dat d) :=
  e_op2 ha hb fun W0 T σ W S x y hx hy Q k => by
    cases hy
    cases hx with
    | lst hs hall =>
      obtain ⟨v, h1, h2⟩ := hall.atI h
      exact .inl ⟨_, _, i, v, rfl, rfl, SqL.of (W.fz _ _ hs), h1, k v W (Le.refl W) h2⟩
theorem e_ixO {ds : List PyData} {i : Int} {n j : Nat} {l : Addr} (hn : Γ[n]? = some (some (.loc l))) (hm : M[j]? = some (l, .lst ds)) (hb : EvS C Γ M tb (.dat (.int i))) (h : L2.atI ds i = some d) : EvS C Γ M (tOp (rIx C.K) (tVar n) tb) (.dat d) :=
  e_op2 (e_var hn) hb fun W0 T σ W S x y hx hy Q k => by
    cases hy
    have hx : x = .ref l := hx
    subst hx
    obtain ⟨_, _, xs, hH, hall⟩ := S.mu _ (List.mem_of_getElem? hm)
    obtain ⟨v, h1, h2⟩ := hall.atI h
    exact .inl ⟨_, _, i, v, rfl, rfl, SqL.of hH, h1, k v W (Le.refl W) h2⟩
theorem e_ixT0 {a : PyData} {ds : List PyData} (ha : EvS C Γ M ta (.dat (.tuple (a :: ds)))) : EvS C Γ M (tOp (rIx C.K) ta (tC (.int 0))) (.dat a) := e_ixT ha e_int (atI_nat (j := 0) rfl)
theorem e_ixT1 {a b : PyData} {ds : List PyData} (ha : EvS C Γ M ta (.dat (.tuple (a :: b :: ds)))) : EvS C Γ M (tOp (rIx C.K) ta (tC (.int 1))) (.dat b) := e_ixT ha e_int (atI_nat (j := 1) rfl)
theorem e_ixT2 {a b c : PyData} {ds : List PyData} (ha : EvS C Γ M ta (.dat (.tuple (a :: b :: c :: ds)))) : EvS C Γ M (tOp (rIx C.K) ta (tC (.int 2))) (.dat c) := e_ixT ha e_int (atI_nat (j := 2) rfl)
theorem e_ixT3 {a b c e : PyData} {ds : List PyData} (ha : EvS C Γ M ta (.dat (.tuple (a :: b :: c :: e :: ds)))) : EvS C Γ M (tOp (rIx C.K) ta (tC (.int 3))) (.dat e) := e_ixT ha e_int (atI_nat (j := 3) rfl)
theorem e_ixT4 {a b c e f : PyData} {ds : List PyData} (ha : EvS C Γ M ta (.dat (.tuple (a :: b :: c :: e :: f :: ds)))) : EvS C Γ M (tOp (rIx C.K) ta (tC (.int 4))) (.dat f) := e_ixT ha e_int (atI_nat (j := 4) rfl)
theorem e_ixL0 {a : PyData} {ds : List PyData} (ha : EvS C Γ M ta (.dat (.list (a :: ds)))) : EvS C Γ M (tOp (rIx C.K) ta (tC (.int 0))) (.dat a) := e_ixL ha e_int (atI_nat (j := 0) rfl)
theorem e_ixL1 {a b : PyData} {ds : List PyData} (ha : EvS C Γ M ta (.dat (.list (a :: b :: ds)))) : EvS C Γ M (tOp (rIx C.K) ta (tC (.int 1))) (.dat b) := e_ixL ha e_int (atI_nat (j := 1) rfl)
/-! arguments, displays -/
theorem a_nil : EvA C Γ M tNil [] := fun W0 T σ W S Q k => k _ W (Le.refl W) .nil
theorem a_cons {tr : TA} {ss : List Sv} (h : EvS C Γ M te s) (hr : EvA C Γ M tr ss) : EvA C Γ M (tCons te tr) (s :: ss) := fun W0 T σ W S Q k =>
  h W0 T σ W S _ fun v W1 l1 ok1 => hr W0 T σ W1 (S.le l1) _ fun vs W2 l2 ok2 => k _ W2 (l1.trans l2) (.cons (ok1.mono l2.gg) ok2)
theorem e_tup {t : TA} {ds : List PyData} (h : EvA C Γ M t (ds.map .dat)) (hl : ds.length ≤ 1000) : EvS C Γ M (tTup t) (.dat (.tuple ds)) := fun W0 T σ W S Q k =>
  h W0 T σ W S _ fun vs W1 l1 ok1 => by
    have hd := Svs.das ok1
    refine ⟨Nat.le_trans (by rw [hd.length]; exact hl) (Nat.le_of_lt (small1000 (Nat.le_refl _))), fun p hp => ?_⟩
    exact k _ (W1.new p (.tup vs)) (l1.trans (Le.new hp)) (.tup (SqT.of upd_same) (DaAll.mono (Same.add (Wo.gfree hp)) _ _ hd))
theorem e_lst {t : TA} {ds : List PyData} (h : EvA C Γ M t (ds.map .dat)) (hl : ds.length ≤ 1000) : EvS C Γ M (tLst t) (.dat (.list ds)) := fun W0 T σ W S Q k =>
  h W0 T σ W S _ fun vs W1 l1 ok1 => by
    have hd := Svs.das ok1
    refine ⟨Nat.le_trans (by rw [hd.length]; exact hl) (Nat.le_of_lt (small1000 (Nat.le_refl _))), fun p hp => ?_⟩
    exact k _ (W1.new p (.lst vs)) (l1.trans (Le.new hp)) (.lst upd_same (DaAll.mono (Same.add (Wo.gfree hp)) _ _ hd))
/-! tests -/
theorem t_test (h : EvS C Γ M te (.dat (.bool b))) : EvT C Γ M (tTest te) b := fun W0 T σ W S Q k => h W0 T σ W S _ fun v W1 l1 ok => by
  cases ok
  exact ⟨b, rfl, k W1 l1⟩
theorem t_B (h : EvS C Γ M te (.dat (.bool b))) : EvT C Γ M (tB te) b := fun W0 T σ W S Q k => h W0 T σ W S _ fun v W1 l1 ok => by
  cases ok
  exact ⟨b, rfl, k W1 l1⟩
theorem t_and (h1 : EvT C Γ M tt b) (h2 : b = true → EvT C Γ M tu c) : EvT C Γ M (tAnd tt tu) (b && c) := fun W0 T σ W S Q k => h1 W0 T σ W S _ fun W1 l1 => by
  cases b with
  | true => exact h2 rfl W0 T σ W1 (S.le l1) Q fun W2 l2 => k W2 (l1.trans l2)
  | false => exact k W1 l1
theorem t_or (h1 : EvT C Γ M tt b) (h2 : b = false → EvT C Γ M tu c) : EvT C Γ M (tOr tt tu) (b || c) := fun W0 T σ W S Q k => h1 W0 T σ W S _ fun W1 l1 => by
  cases b with
  | false => exact h2 rfl W0 T σ W1 (S.le l1) Q fun W2 l2 => k W2 (l1.trans l2)
  | true => exact k W1 l1
theorem t_not (h1 : EvT C Γ M tt b) : EvT C Γ M (tNot tt) (!b) := fun W0 T σ W S Q k => h1 W0 T σ W S _ fun W1 l1 => k W1 l1
theorem e_notV (h : EvS C Γ M te (.dat (.bool b))) : EvS C Γ M (tNotV te) (.dat (.bool (!b))) := fun W0 T σ W S Q k => h W0 T σ W S _ fun v W1 l1 ok => by
  cases ok
  exact ⟨b, rfl, k _ W1 l1 (.bl _)⟩
theorem e_andV (h1 : EvS C Γ M ta (.dat (.bool b))) (h2 : b = true → EvS C Γ M tb (.dat (.bool c))) : EvS C Γ M (tAndV ta tb) (.dat (.bool (b && c))) := fun W0 T σ W S Q k => h1 W0 T σ W S _ fun v W1 l1 ok => by
  cases ok
  refine ⟨b, rfl, ?_⟩
  cases b with
  | true => exact h2 rfl W0 T σ W1 (S.le l1) Q fun v W2 l2 ok => k v W2 (l1.trans l2) ok
  | false => exact k _ W1 l1 (.bl _)
def isNone : PyData → Bool
  | .none => true
  | _ => false
theorem non_iff {K : PySem.W.Frag} {G : Hp} {v : V} (h : Da K G v d) : decide (v = .non) = isNone d := by
  cases h <;> rfl
theorem e_isN (h : EvS C Γ M te (.dat d)) : EvS C Γ M (tIsN te) (.dat (.bool (isNone d))) := fun W0 T σ W S Q k => h W0 T σ W S _ fun v W1 l1 ok => by
  rw [non_iff ok]
  exact k _ W1 l1 (.bl _)
theorem e_notN (h : EvS C Γ M te (.dat d)) : EvS C Γ M (tNotN te) (.dat (.bool (!isNone d))) := fun W0 T σ W S Q k => h W0 T σ W S _ fun v W1 l1 ok => by
  rw [non_iff ok]
  exact k _ W1 l1 (.bl _)
end
end Dr
/-! statements, loops, calls over data -/
namespace Dr
open PySem PySem.Spec PyProof.Rows L2

section
variable {C : Cn} {W0 W : Wo} {T : Kn} {σ : L2.St} {Γ : Ga} {M : Ms} {ta tb te tc : TE} {s : Sv} {d e : PyData} {tt tu : TT} {b c : Bool} {D : Ends} {t1 t2 tz : TS}

/-! ### targets -/
def GAs (C : Cn) (g : TG) (s : Sv) (f : Ga → Ga) : Prop := ∀ W0 T σ W Γ M v (Q : L2.St → Hp → Prop), Sta C W0 T σ W Γ M → SvOk C W.G v s → (∀ σ', Sta C W0 T σ' W (f Γ) M → Q σ' W.H) → g v σ W.H Q
def GAss (C : Cn) (g : TGs) (ds : List PyData) (f : Ga → Ga) : Prop := ∀ W0 T σ W Γ M vs (Q : L2.St → Hp → Prop), Sta C W0 T σ W Γ M → DaAll C.K W.G vs ds → (∀ σ', Sta C W0 T σ' W (f Γ) M → Q σ' W.H) → g vs σ W.H Q
theorem g_name {i : Nat} : GAs C (gName i) s (fun Γ => Γ.set i (some s)) := fun W0 T σ W Γ M v Q S h k => k _ (S.set i h)
theorem gs_nil : GAss C gNil [] (fun Γ => Γ) := fun W0 T σ W Γ M vs Q S h k => by
  cases h
  exact ⟨rfl, k _ S⟩
theorem gs_cons {g : TG} {gs : TGs} {ds : List PyData} {f f' : Ga → Ga} (h1 : GAs C g (.dat d) f) (h2 : GAss C gs ds f') : GAss C (gCons g gs) (d :: ds) (fun Γ => f' (f Γ)) := fun W0 T σ W Γ M vs Q S h k => by
  cases h with
  | cons a b => exact ⟨_, _, rfl, h1 W0 T σ W Γ M _ _ S a fun σ' S' => h2 W0 T σ' W _ M _ Q S' b k⟩
theorem g_tup {n : Nat} {gs : TGs} {ds : List PyData} {f : Ga → Ga} (h : GAss C gs ds f) (hn : ds.length = n) : GAs C (gTup C.K n gs) (.dat (.tuple ds)) f := fun W0 T σ W Γ M v Q S ok k => by
  cases ok with
  | tup hs hall => exact ⟨_, _, rfl, Same.seqT W.fz hs, by rw [hall.length, hn], h W0 T σ W Γ M _ Q S hall k⟩
theorem g_tup2 {i j : Nat} {d1 d2 : PyData} : GAs C (gTup C.K 2 (gCons (gName i) (gCons (gName j) gNil))) (.dat (.tuple [d1, d2])) (fun Γ => (Γ.set i (some (.dat d1))).set j (some (.dat d2))) := g_tup (gs_cons g_name (gs_cons g_name gs_nil)) rfl
theorem g_tup3 {i j k : Nat} {d1 d2 d3 : PyData} : GAs C (gTup C.K 3 (gCons (gName i) (gCons (gName j) (gCons (gName k) gNil)))) (.dat (.tuple [d1, d2, d3])) (fun Γ => ((Γ.set i (some (.dat d1))).set j (some (.dat d2))).set k (some (.dat d3))) := g_tup (gs_cons g_name (gs_cons g_name (gs_cons g_name gs_nil))) rfl
theorem g_tup4 {i j k l : Nat} {d1 d2 d3 d4 : PyData} : GAs C (gTup C.K 4 (gCons (gName i) (gCons (gName j) (gCons (gName k) (gCons (gName l) gNil))))) (.dat (.tuple [d1, d2, d3, d4])) (fun Γ => (((Γ.set i (some (.dat d1))).set j (some (.dat d2))).set k (some (.dat d3))).set l (some (.dat d4))) := g_tup (gs_cons g_name (gs_cons g_name (gs_cons g_name (gs_cons g_name gs_nil)))) rfl

/-! ### statements -/
theorem s_asg {g : TG} {f : Ga → Ga} (S : Sta C W0 T σ W Γ M) (h : EvS C Γ M te s) (hg : GAs C g s f) (k : ∀ σ' W', Sta C W0 T σ' W' (f Γ) M → D.nx σ' W'.H) : tAsg te g D σ W.H :=
  h W0 T σ W S _ fun v W1 l1 ok => hg W0 T σ W1 Γ M v _ (S.le l1) ok fun σ' S' => k σ' W1 S'
theorem s_set {i : Nat} (S : Sta C W0 T σ W Γ M) (h : EvS C Γ M te s) (k : ∀ σ' W', Sta C W0 T σ' W' (Γ.set i (some s)) M → D.nx σ' W'.H) : tAsg te (gName i) D σ W.H := s_asg S h g_name k
theorem q_asg {g : TG} {f : Ga → Ga} (S : Sta C W0 T σ W Γ M) (h : EvS C Γ M te s) (hg : GAs C g s f) (k : ∀ σ' W', Sta C W0 T σ' W' (f Γ) M → tz D σ' W'.H) : tSeq (tAsg te g) tz D σ W.H := s_asg (D := { D with nx := tz D }) S h hg k
theorem q_set {i : Nat} (S : Sta C W0 T σ W Γ M) (h : EvS C Γ M te s) (k : ∀ σ' W', Sta C W0 T σ' W' (Γ.set i (some s)) M → tz D σ' W'.H) : tSeq (tAsg te (gName i)) tz D σ W.H := q_asg S h g_name k
theorem s_if (S : Sta C W0 T σ W Γ M) (h : EvT C Γ M tt b) (h1 : b = true → ∀ W', Sta C W0 T σ W' Γ M → t1 D σ W'.H) (h2 : b = false → ∀ W', Sta C W0 T σ W' Γ M → t2 D σ W'.H) : tIfS tt t1 t2 D σ W.H :=
  h W0 T σ W S _ fun W1 l1 => by
    cases b with
    | true => exact h1 rfl W1 (S.le l1)
    | false => exact h2 rfl W1 (S.le l1)
theorem q_if (S : Sta C W0 T σ W Γ M) (h : EvT C Γ M tt b) (h1 : b = true → ∀ W', Sta C W0 T σ W' Γ M → t1 { D with nx := tz D } σ W'.H) (h2 : b = false → ∀ W', Sta C W0 T σ W' Γ M → t2 { D with nx := tz D } σ W'.H) : tSeq (tIfS tt t1 t2) tz D σ W.H := s_if (D := { D with nx := tz D }) S h h1 h2
/-- an if without an else -/
theorem q_when (S : Sta C W0 T σ W Γ M) (h : EvT C Γ M tt b) (h1 : b = true → ∀ W', Sta C W0 T σ W' Γ M → t1 { D with nx := tz D } σ W'.H) (h2 : b = false → ∀ W', Sta C W0 T σ W' Γ M → tz D σ W'.H) : tSeq (tIfS tt t1 tNext) tz D σ W.H := q_if S h h1 h2
theorem s_when (S : Sta C W0 T σ W Γ M) (h : EvT C Γ M tt b) (h1 : b = true → ∀ W', Sta C W0 T σ W' Γ M → t1 D σ W'.H) (h2 : b = false → ∀ W', Sta C W0 T σ W' Γ M → D.nx σ W'.H) : tIfS tt t1 tNext D σ W.H := s_if S h h1 h2
theorem s_ret (S : Sta C W0 T σ W Γ M) (h : EvS C Γ M te s) (k : ∀ v W', Since C W0 W' → SvOk C W'.G v s → D.rt v W'.H) : tRet te D σ W.H := h W0 T σ W S _ fun v W1 l1 ok => k v W1 (S.since.le l1) ok
theorem s_drop (S : Sta C W0 T σ W Γ M) (h : EvS C Γ M te s) (k : ∀ W', Sta C W0 T σ W' Γ M → D.nx σ W'.H) : tDrop te D σ W.H := h W0 T σ W S _ fun v W1 l1 ok => k W1 (S.le l1)
theorem q_drop (S : Sta C W0 T σ W Γ M) (h : EvS C Γ M te s) (k : ∀ W', Sta C W0 T σ W' Γ M → tz D σ W'.H) : tSeq (tDrop te) tz D σ W.H := s_drop (D := { D with nx := tz D }) S h k
theorem q_seq {u : TS} (h : t1 { D with nx := u D } σ W.H) : tSeq t1 u D σ W.H := h
/-- an own list, made or kept, handed back -/
theorem s_retO {i j : Nat} {l : Addr} {ds : List PyData} (S : Sta C W0 T σ W Γ M) (hi : Γ[i]? = some (some (.loc l))) (hm : M[j]? = some (l, .lst ds)) (hA : ¬ C.A l) (k : ∀ v W', Since C W0 W' → SvOk C W'.G v (.dat (.list ds)) → D.rt v W'.H) : tRet (tVar i) D σ W.H := by
  obtain ⟨v, h1, h2⟩ := S.sl i _ hi
  have h2 : v = .ref l := h2
  subst h2
  have hn := (S.mu _ (List.mem_of_getElem? hm)).2.1.resolve_right hA
  obtain ⟨W', e, S', ok⟩ := S.freeze hm hn
  refine ⟨_, h1, ?_⟩
  rw [← e]
  exact k _ W' S'.since ok
theorem s_retD {i j : Nat} {l : Addr} {κ : Type} {E : Enc κ} {kvs : List (κ × PyData)} {ob : Option Obj} (S : Sta C W0 T σ W Γ M) (hi : Γ[i]? = some (some (.loc l))) (hm : M[j]? = some (l, .dct κ E (kvs.map fun p => (p.1, .dat p.2)) ob)) (hA : ¬ C.A l) (k : ∀ v W', Since C W0 W' → SvOk C W'.G v (.dic κ E kvs) → D.rt v W'.H) : tRet (tVar i) D σ W.H := by
  obtain ⟨v, h1, h2⟩ := S.sl i _ hi
  have h2 : v = .ref l := h2
  subst h2
  have hn := (S.mu _ (List.mem_of_getElem? hm)).2.1.resolve_right hA
  obtain ⟨W', e, S', ok⟩ := S.freezeD hm hn
  refine ⟨_, h1, ?_⟩
  rw [← e]
  exact k _ W' S'.since ok
/-- x = [] -/
theorem s_newL {i : Nat} (S : Sta C W0 T σ W Γ M) (k : ∀ l σ' W', Sta C W0 T σ' W' (Γ.set i (some (.loc l))) ((l, .lst []) :: M) → D.nx σ' W'.H) : tAsg (tLst tNil) (gName i) D σ W.H := by
  refine ⟨Nat.zero_le _, fun p hp => ?_⟩
  have S' := S.own (o := .lst []) (m := .lst []) hp ⟨[], upd_same, .nil⟩
  exact k p _ (W.put p (.lst []) (Wo.gfree hp)) (S'.set i (s := .loc p) rfl)
theorem q_newL {i : Nat} (S : Sta C W0 T σ W Γ M) (k : ∀ l σ' W', Sta C W0 T σ' W' (Γ.set i (some (.loc l))) ((l, .lst []) :: M) → tz D σ' W'.H) : tSeq (tAsg (tLst tNil) (gName i)) tz D σ W.H := s_newL (D := { D with nx := tz D }) S k
/-- x = [e, ..], an own list -/
theorem s_newLs {i : Nat} {t : TA} {ds : List PyData} (S : Sta C W0 T σ W Γ M) (h : EvA C Γ M t (ds.map .dat)) (hl : ds.length ≤ 1000) (k : ∀ l σ' W', Sta C W0 T σ' W' (Γ.set i (some (.loc l))) ((l, .lst ds) :: M) → D.nx σ' W'.H) : tAsg (tLst t) (gName i) D σ W.H :=
  h W0 T σ W S _ fun vs W1 l1 ok1 => by
    have hd := Svs.das ok1
    refine ⟨Nat.le_trans (by rw [hd.length]; exact hl) (Nat.le_of_lt (small1000 (Nat.le_refl _))), fun p hp => ?_⟩
    have S' := (S.le l1).own (o := .lst vs) (m := .lst ds) hp ⟨vs, upd_same, hd⟩
    exact k p _ (W1.put p (.lst vs) (Wo.gfree hp)) (S'.set i (s := .loc p) rfl)
theorem q_newLs {i : Nat} {t : TA} {ds : List PyData} (S : Sta C W0 T σ W Γ M) (h : EvA C Γ M t (ds.map .dat)) (hl : ds.length ≤ 1000) (k : ∀ l σ' W', Sta C W0 T σ' W' (Γ.set i (some (.loc l))) ((l, .lst ds) :: M) → tz D σ' W'.H) : tSeq (tAsg (tLst t) (gName i)) tz D σ W.H := s_newLs (D := { D with nx := tz D }) S h hl k
/-- x = a list of data, new and nobody else's: f(..) made it; kept as an own list is not possible: it is frozen -/
theorem s_app {i j : Nat} {l : Addr} {ds : List PyData} (S : Sta C W0 T σ W Γ M) (hi : Γ[i]? = some (some (.loc l))) (hm : M[j]? = some (l, .lst ds)) (h : EvS C Γ M te (.dat d)) (hz : ds.length < sizeLine) (k : ∀ W', Sta C W0 T σ W' Γ (M.set j (l, .lst (ds ++ [d]))) → D.nx σ W'.H) : tDrop (tBM C.K "list" rAppend (tVar i) (tCons te tNil)) D σ W.H := by
  obtain ⟨v, h1, h2⟩ := S.sl i _ hi
  have h2 : v = .ref l := h2
  subst h2
  obtain ⟨g0, _, xs0, hx0, _⟩ := S.mu _ (List.mem_of_getElem? hm)
  refine ⟨_, h1, .inl ⟨rfl, _, SqL.of hx0⟩, ?_⟩
  refine h W0 T σ W S _ fun v W1 l1 ok => ?_
  have S1 := S.le l1
  obtain ⟨g1, _, xs, hx, hd⟩ := S1.mu _ (List.mem_of_getElem? hm)
  refine ⟨l, xs, v, rfl, rfl, hx, by rw [hd.length]; exact hz, ?_⟩
  exact k (W1.put l (.lst (xs ++ [v])) g1) (S1.change hm g1 ⟨_, upd_same, hd.append (.one ok)⟩)
theorem q_app {i j : Nat} {l : Addr} {ds : List PyData} (S : Sta C W0 T σ W Γ M) (hi : Γ[i]? = some (some (.loc l))) (hm : M[j]? = some (l, .lst ds)) (h : EvS C Γ M te (.dat d)) (hz : ds.length < sizeLine) (k : ∀ W', Sta C W0 T σ W' Γ (M.set j (l, .lst (ds ++ [d]))) → tz D σ W'.H) : tSeq (tDrop (tBM C.K "list" rAppend (tVar i) (tCons te tNil))) tz D σ W.H := s_app (D := { D with nx := tz D }) S hi hm h hz k
/-- l.extend(a tuple) -/
theorem s_extT {i j : Nat} {l : Addr} {ds es : List PyData} (S : Sta C W0 T σ W Γ M) (hi : Γ[i]? = some (some (.loc l))) (hm : M[j]? = some (l, .lst ds)) (h : EvS C Γ M te (.dat (.tuple es))) (hz : ds.length + es.length ≤ sizeLine) (k : ∀ W', Sta C W0 T σ W' Γ (M.set j (l, .lst (ds ++ es))) → D.nx σ W'.H) : tDrop (tBM C.K "list" (rExtendT C.K) (tVar i) (tCons te tNil)) D σ W.H := by
  obtain ⟨v, h1, h2⟩ := S.sl i _ hi
  have h2 : v = .ref l := h2
  subst h2
  obtain ⟨g0, _, xs0, hx0, _⟩ := S.mu _ (List.mem_of_getElem? hm)
  refine ⟨_, h1, .inl ⟨rfl, _, SqL.of hx0⟩, ?_⟩
  refine h W0 T σ W S _ fun v W1 l1 ok => ?_
  have S1 := S.le l1
  obtain ⟨g1, _, xs, hx, hd⟩ := S1.mu _ (List.mem_of_getElem? hm)
  cases ok with
  | @tup a ys _ hs hall =>
    refine ⟨l, a, xs, ys, rfl, rfl, hx, Same.seqT W1.fz hs, by rw [hd.length, hall.length]; exact hz, ?_⟩
    exact k (W1.put l (.lst (xs ++ ys)) g1) (S1.change hm g1 ⟨_, upd_same, hd.append hall⟩)
/-- l.extend(a list) -/
theorem s_extL {i j : Nat} {l : Addr} {ds es : List PyData} (S : Sta C W0 T σ W Γ M) (hi : Γ[i]? = some (some (.loc l))) (hm : M[j]? = some (l, .lst ds)) (h : EvS C Γ M te (.dat (.list es))) (hz : ds.length + es.length ≤ sizeLine) (k : ∀ W', Sta C W0 T σ W' Γ (M.set j (l, .lst (ds ++ es))) → D.nx σ W'.H) : tDrop (tBM C.K "list" rExtend (tVar i) (tCons te tNil)) D σ W.H := by
  obtain ⟨v, h1, h2⟩ := S.sl i _ hi
  have h2 : v = .ref l := h2
  subst h2
  obtain ⟨g0, _, xs0, hx0, _⟩ := S.mu _ (List.mem_of_getElem? hm)
  refine ⟨_, h1, .inl ⟨rfl, _, SqL.of hx0⟩, ?_⟩
  refine h W0 T σ W S _ fun v W1 l1 ok => ?_
  have S1 := S.le l1
  obtain ⟨g1, _, xs, hx, hd⟩ := S1.mu _ (List.mem_of_getElem? hm)
  cases ok with
  | @lst a ys _ hs hall =>
    refine ⟨l, a, xs, ys, rfl, rfl, hx, W1.fz _ _ hs, by rw [hd.length, hall.length]; exact hz, ?_⟩
    exact k (W1.put l (.lst (xs ++ ys)) g1) (S1.change hm g1 ⟨_, upd_same, hd.append hall⟩)
theorem q_extL {i j : Nat} {l : Addr} {ds es : List PyData} (S : Sta C W0 T σ W Γ M) (hi : Γ[i]? = some (some (.loc l))) (hm : M[j]? = some (l, .lst ds)) (h : EvS C Γ M te (.dat (.list es))) (hz : ds.length + es.length ≤ sizeLine) (k : ∀ W', Sta C W0 T σ W' Γ (M.set j (l, .lst (ds ++ es))) → tz D σ W'.H) : tSeq (tDrop (tBM C.K "list" rExtend (tVar i) (tCons te tNil))) tz D σ W.H := s_extL (D := { D with nx := tz D }) S hi hm h hz k
/-- target = l.pop() -/
theorem s_pop {i j : Nat} {l : Addr} {ds : List PyData} {g : TG} {f : Ga → Ga} (S : Sta C W0 T σ W Γ M) (hi : Γ[i]? = some (some (.loc l))) (hm : M[j]? = some (l, .lst (ds ++ [d]))) (hg : GAs C g (.dat d) f) (k : ∀ σ' W', Sta C W0 T σ' W' (f Γ) (M.set j (l, .lst ds)) → D.nx σ' W'.H) : tAsg (tBM0 C.K "list" rPop (tVar i)) g D σ W.H := by
  obtain ⟨v, h1, h2⟩ := S.sl i _ hi
  have h2 : v = .ref l := h2
  subst h2
  obtain ⟨g1, _, xs, hx, hd⟩ := S.mu _ (List.mem_of_getElem? hm)
  refine ⟨_, h1, .inl ⟨rfl, _, SqL.of hx⟩, ?_⟩
  have hl : xs.length = ds.length + 1 := by rw [hd.length, List.length_append]; rfl
  obtain ⟨y, hy, hyd⟩ := hd.get (i := ds.length) (d := d) (by rw [List.getElem?_append_right (Nat.le_refl _), Nat.sub_self]; rfl)
  refine ⟨l, xs, y, rfl, rfl, hx, by rw [hl]; exact hy, ?_⟩
  have hd' : DaAll C.K W.G xs.dropLast ds := by
    have := hd.dropLast
    rwa [List.dropLast_concat] at this
  exact hg W0 T σ (W.put l (.lst xs.dropLast) g1) Γ _ y _ (S.change (m' := .lst ds) hm g1 ⟨_, upd_same, hd'⟩) hyd fun σ' S' => k σ' _ S'
theorem q_pop {i j : Nat} {l : Addr} {ds : List PyData} {g : TG} {f : Ga → Ga} (S : Sta C W0 T σ W Γ M) (hi : Γ[i]? = some (some (.loc l))) (hm : M[j]? = some (l, .lst (ds ++ [d]))) (hg : GAs C g (.dat d) f) (k : ∀ σ' W', Sta C W0 T σ' W' (f Γ) (M.set j (l, .lst ds)) → tz D σ' W'.H) : tSeq (tAsg (tBM0 C.K "list" rPop (tVar i)) g) tz D σ W.H := s_pop (D := { D with nx := tz D }) S hi hm hg k
/-- l.pop() -/
theorem s_popDrop {i j : Nat} {l : Addr} {ds : List PyData} (S : Sta C W0 T σ W Γ M) (hi : Γ[i]? = some (some (.loc l))) (hm : M[j]? = some (l, .lst (ds ++ [d]))) (k : ∀ W', Sta C W0 T σ W' Γ (M.set j (l, .lst ds)) → D.nx σ W'.H) : tDrop (tBM0 C.K "list" rPop (tVar i)) D σ W.H := by
  obtain ⟨v, h1, h2⟩ := S.sl i _ hi
  have h2 : v = .ref l := h2
  subst h2
  obtain ⟨g1, _, xs, hx, hd⟩ := S.mu _ (List.mem_of_getElem? hm)
  refine ⟨_, h1, .inl ⟨rfl, _, SqL.of hx⟩, ?_⟩
  have hl : xs.length = ds.length + 1 := by rw [hd.length, List.length_append]; rfl
  obtain ⟨y, hy, hyd⟩ := hd.get (i := ds.length) (d := d) (by rw [List.getElem?_append_right (Nat.le_refl _), Nat.sub_self]; rfl)
  refine ⟨l, xs, y, rfl, rfl, hx, by rw [hl]; exact hy, ?_⟩
  have hd' : DaAll C.K W.G xs.dropLast ds := by
    have := hd.dropLast
    rwa [List.dropLast_concat] at this
  exact k (W.put l (.lst xs.dropLast) g1) (S.change hm g1 ⟨_, upd_same, hd'⟩)

/-! ### calls -/
/-- a def over data: what it is handed, when, what it hands back -/
def SpF (C : Cn) {α : Type} (args : α → List Sv) (pre : α → Prop) (res : α → Sv) : Sp := fun vs H Q _ => ∃ (W : Wo) (a : α), W.H = H ∧ Svs C W.G vs (args a) ∧ pre a ∧ ∀ v W', Le W W' → SvOk C W'.G v (res a) → Q v W'.H
theorem e_call {α : Type} {args : α → List Sv} {pre : α → Prop} {res : α → Sv} {t : TA} {E : XK} (a : α) (h : EvA C Γ M t (args a)) (hp : pre a) : EvS C Γ M (tCall (SpF C args pre res) [] E t) (res a) := fun W0 T σ W S Q k =>
  h W0 T σ W S _ fun vs W1 l1 ok => by
    rw [List.append_nil]
    exact ⟨W1, a, rfl, ok, hp, fun v W2 l2 ok2 => k v W2 (l1.trans l2) ok2⟩
theorem e_call1 {α : Type} {args : α → List Sv} {pre : α → Prop} {res : α → Sv} {t : TA} {E : XK} {ss : List Sv} {dv : V} {sv : Sv} (a : α) (h : EvA C Γ M t ss) (ha : args a = ss ++ [sv]) (hd : ∀ G, SvOk C G dv sv) (hp : pre a) : EvS C Γ M (tCall (SpF C args pre res) [dv] E t) (res a) := fun W0 T σ W S Q k =>
  h W0 T σ W S _ fun vs W1 l1 ok => by
    refine ⟨W1, a, rfl, ?_, hp, fun v W2 l2 ok2 => k v W2 (l1.trans l2) ok2⟩
    rw [ha]
    have : ∀ (vs : List V) (ss : List Sv), Svs C W1.G vs ss → Svs C W1.G (vs ++ [dv]) (ss ++ [sv]) := by
      intro vs ss h
      induction h with
      | nil => exact .cons (hd _) .nil
      | cons a b ih => exact .cons a ih
    exact this _ _ ok
theorem Svs.length {G : Hp} : ∀ {vs : List V} {ss : List Sv}, Svs C G vs ss → vs.length = ss.length
  | _, _, .nil => rfl
  | _, _, .cons _ t => by rw [List.length_cons, List.length_cons, Svs.length t]
theorem SpF.len {α : Type} {args : α → List Sv} {pre : α → Prop} {res : α → Sv} {n : Nat} (hn : ∀ a, (args a).length = n) {vs : List V} {H : Hp} {Q : VK} {E : XK} (h : SpF C args pre res vs H Q E) : vs.length = n := by
  obtain ⟨W, a, _, ok, _⟩ := h
  rw [ok.length, hn]
theorem sta_start {vs : List V} {ss : List Sv} (N : List Str) (h : Svs C W.G vs ss) : Sta C W [] (L2.start N vs) W (ss.map some ++ List.replicate (N.length - ss.length) none) [] := by
  refine ⟨Since.of (Le.refl W), fun p hp => (nomatch hp), ?_, fun i s e => ?_, fun p hp => (nomatch hp), List.nodup_nil⟩
  · unfold L2.start
    rw [List.length_append, List.length_append, List.length_map, List.length_map, List.length_replicate, List.length_replicate, h.length]
  · unfold L2.start
    have key : ∀ (vs : List V) (ss : List Sv), Svs C W.G vs ss → ∀ (i : Nat) (s : Sv), (ss.map some)[i]? = some (some s) → ∃ v, (vs.map some)[i]? = some (some v) ∧ SvOk C W.G v s := by
      intro vs ss h
      induction h with
      | nil => intro i s e; simp at e
      | cons a b ih =>
        intro i s e
        cases i with
        | zero => simp at e; subst e; exact ⟨_, rfl, a⟩
        | succ i => exact ih i s (by simpa using e)
    by_cases hi : i < (ss.map some).length
    · rw [List.getElem?_append_left hi] at e
      obtain ⟨v, e1, e2⟩ := key _ _ h i s e
      refine ⟨v, ?_, e2⟩
      rw [List.getElem?_append_left (by rw [List.length_map, h.length]; simpa using hi)]
      exact e1
    · rw [List.getElem?_append_right (by omega)] at e
      have := List.mem_of_getElem? e
      rw [List.mem_replicate] at this
      exact absurd this.2 (by simp)
end
end Dr
/-! loops over data -/
namespace Dr
open PySem PySem.Spec PyProof.Rows L2
universe u
section
variable {C : Cn} {W0 W : Wo} {T : Kn} {σ : L2.St} {Γ : Ga} {M : Ms} {ta te tc : TE} {s : Sv} {d e : PyData} {tt : TT} {b c : Bool} {D : Ends} {t1 t2 tz tb : TS}

/-- where a loop's turns begin: the state is told by an a with I -/
def At (C : Cn) (W0 : Wo) (T : Kn) {α : Type u} (Gm : α → Ga) (Mm : α → Ms) (I : α → Prop) : L2.St → Hp → Prop := fun σ H => ∃ W a, W.H = H ∧ I a ∧ Sta C W0 T σ W (Gm a) (Mm a)
theorem At.mk {α : Type u} {Gm : α → Ga} {Mm : α → Ms} {I : α → Prop} (a : α) (h : I a) (S : Sta C W0 T σ W (Gm a) (Mm a)) : At C W0 T Gm Mm I σ W.H := ⟨W, a, rfl, h, S⟩
def EndsAt (D : Ends) (N : L2.St → Hp → Prop) : Ends := { D with nx := N, ct := N, bk := D.nx }
section
variable {α : Type u} {β : Type} (enc : β → PyData) {xs : List β} {f : β → Ga → Ga} {g : TG} (Gm : α → Ga) (Mm : α → Ms) (I : Nat → α → Prop) (a0 : α)
theorem enc_at {ds : List β} {vs : List V} {G : Hp} {K : PySem.W.Frag} {i : Nat} {x : V} (h : DaAll K G vs (ds.map enc)) (e : vs[i]? = some x) : ∃ b, ds[i]? = some b ∧ Da K G x (enc b) := by
  obtain ⟨d, h1, h2⟩ := h.at e
  rw [List.getElem?_map] at h1
  cases q : ds[i]? with
  | none => rw [q] at h1; cases h1
  | some b => rw [q] at h1; cases h1; exact ⟨b, rfl, h2⟩
theorem known_lst {a : Addr} {vs : List V} {ds : List PyData} {K : PySem.W.Frag} {G : Hp} (h : Da K G (.ref a) (.list ds)) (k : G a = some (.lst vs)) : DaAll K G vs ds := by
  cases h with
  | @lst _ vs' _ hx hall =>
    rw [k] at hx
    injection (Option.some.inj hx) with q
    rw [q]
    exact hall
/-- a loop over things that are seen at each turn -/
theorem for_seen {J : It} {P : Nat → Prop} {H1 : Hp} (T' : Kn) (n : Nat) (S1 : Sta C W0 T' σ W (Gm a0) (Mm a0)) (i0 : I 0 a0)
    (see : ∀ i a σ' W', i ≤ n → Sta C W0 T' σ' W' (Gm a) (Mm a) → (i = n → J.stop i W'.H) ∧ (i < n → J.go i W'.H))
    (hs : ∀ i a x σ' W' H', i < n → I i a → Sta C W0 T' σ' W' (Gm a) (Mm a) → J.yld i W'.H x H' → g x σ' H' fun σ2 H2 => tb (EndsAt D (At C W0 T' Gm Mm (I (i + 1)))) σ2 H2)
    (hd : ∀ a σ' W', I n a → Sta C W0 T' σ' W' (Gm a) (Mm a) → D.nx σ' W'.H) :
    ∃ Wv : Nat → Nat → L2.St → Hp → Prop, (∃ m, Wv 0 m σ W.H) ∧ ∀ i m σ H, Wv i m σ H →
      (J.stop i H ∧ D.nx σ H) ∨ (J.go i H ∧ ∃ N : L2.St → Hp → Prop, (∀ σ' H', N σ' H' → ∃ m', m' < m ∧ Wv (i + 1) m' σ' H') ∧ ∀ x H', J.yld i H x H' → g x σ H' fun σ2 H2 => tb { D with nx := N, ct := N, bk := D.nx } σ2 H2) := by
  refine ⟨fun i m σ H => m = n - i ∧ i ≤ n ∧ At C W0 T' Gm Mm (I i) σ H, ⟨n, by simp, Nat.zero_le _, .mk a0 i0 S1⟩, ?_⟩
  rintro i m σ' H' ⟨rfl, hile, W', a', e, hI, S'⟩
  subst e
  obtain ⟨s1, s2⟩ := see i a' σ' W' hile S'
  by_cases hlt : i < n
  · exact .inr ⟨s2 hlt, At C W0 T' Gm Mm (I (i + 1)), fun σ' H' p' => ⟨n - (i + 1), by omega, rfl, hlt, p'⟩, fun x H' y => hs i a' x σ' W' H' hlt hI S' y⟩
  · have e : i = n := by omega
    subst e
    exact .inl ⟨s1 rfl, hd a' σ' W' hI S'⟩
/-- for g in a list of data -/
theorem s_forL (S : Sta C W0 T σ W Γ M) (h : EvS C Γ M te (.dat (.list (xs.map enc))))
    (h0 : ∀ σ W, Sta C W0 T σ W Γ M → Sta C W0 T σ W (Gm a0) (Mm a0)) (i0 : I 0 a0) (hg : ∀ x, GAs C g (.dat (enc x)) (f x))
    (hs : ∀ i a x T' σ W, xs[i]? = some x → I i a → Sta C W0 T' σ W (f x (Gm a)) (Mm a) → tb (EndsAt D (At C W0 T' Gm Mm (I (i + 1)))) σ W.H)
    (hd : ∀ a σ W, I xs.length a → Sta C W0 T σ W (Gm a) (Mm a) → D.nx σ W.H) : tFor (iList C.K te) g tb D σ W.H := by
  refine h W0 T σ W S _ fun v W1 l1 ok => ?_
  cases ok with
  | @lst a vs _ hx hall =>
    have S1 := h0 _ _ (S.le l1)
    refine ⟨a, rfl, ⟨vs, SqL.of (W1.fz _ _ hx)⟩, ?_⟩
    have S1' := S1.know (v := .ref a) (s := .dat (.list (xs.map enc))) (.lst hx hall)
    have see : ∀ {a' : α} {σ' : L2.St} {W' : Wo}, Sta C W0 ((.ref a, .dat (.list (xs.map enc))) :: T) σ' W' (Gm a') (Mm a') → ∃ vs, SqL C.K W'.H a vs ∧ DaAll C.K W'.G vs (xs.map enc) ∧ vs.length = xs.length := fun {a' σ' W'} S' => by
      have hk : Da C.K W'.G (.ref a) (.list (xs.map enc)) := S'.kn _ List.mem_cons_self
      cases hk with
      | @lst _ vs _ hx hall => exact ⟨vs, SqL.of (W'.fz _ _ hx), hall, by rw [hall.length, List.length_map]⟩
    refine for_seen (H1 := W1.H) (P := fun _ => True) Gm Mm I a0 ((.ref a, .dat (.list (xs.map enc))) :: T) xs.length S1' i0 (fun i a' σ' W' _ S' => ?_) (fun i a' x σ' W' H' hlt hI S' y => ?_) (fun a' σ' W' hI S' => hd a' σ' W' hI S'.unknow)
    · obtain ⟨vs, hx, hall, hl⟩ := see S'
      exact ⟨fun e => ⟨vs, hx, by omega⟩, fun e => ⟨vs, vs[i]'(by omega), hx, by simp [hl, e]⟩⟩
    · obtain ⟨vs, hx, hall, hl⟩ := see S'
      obtain ⟨e, y⟩ := y
      subst e
      obtain ⟨bb, hb, hxb⟩ := enc_at enc hall (y vs hx)
      exact hg bb W0 _ σ' W' _ _ x _ S' hxb fun σ2 S2 => hs i a' bb _ σ2 W' hb hI S2
theorem q_forL (S : Sta C W0 T σ W Γ M) (h : EvS C Γ M te (.dat (.list (xs.map enc))))
    (h0 : ∀ σ W, Sta C W0 T σ W Γ M → Sta C W0 T σ W (Gm a0) (Mm a0)) (i0 : I 0 a0) (hg : ∀ x, GAs C g (.dat (enc x)) (f x))
    (hs : ∀ i a x T' σ W, xs[i]? = some x → I i a → Sta C W0 T' σ W (f x (Gm a)) (Mm a) → tb (EndsAt { D with nx := tz D } (At C W0 T' Gm Mm (I (i + 1)))) σ W.H)
    (hd : ∀ a σ W, I xs.length a → Sta C W0 T σ W (Gm a) (Mm a) → tz D σ W.H) : tSeq (tFor (iList C.K te) g tb) tz D σ W.H := s_forL (D := { D with nx := tz D }) enc Gm Mm I a0 S h h0 i0 hg hs hd
/-- for g in an own list, which stays as it is meanwhile -/
theorem s_forO {n0 : Nat} {l : Addr} (S : Sta C W0 T σ W Γ M) (hi : Γ[n0]? = some (some (.loc l)))
    (hm : ∀ a, ∃ j : Nat, (Mm a)[j]? = some (l, Mo.lst (xs.map enc)))
    (h0 : ∀ σ W, Sta C W0 T σ W Γ M → Sta C W0 T σ W (Gm a0) (Mm a0)) (i0 : I 0 a0) (hg : ∀ x, GAs C g (.dat (enc x)) (f x))
    (hs : ∀ i a x σ W, xs[i]? = some x → I i a → Sta C W0 T σ W (f x (Gm a)) (Mm a) → tb (EndsAt D (At C W0 T Gm Mm (I (i + 1)))) σ W.H)
    (hd : ∀ a σ W, I xs.length a → Sta C W0 T σ W (Gm a) (Mm a) → D.nx σ W.H) : tFor (iList C.K (tVar n0)) g tb D σ W.H := by
  obtain ⟨v, h1, h2⟩ := S.sl n0 _ hi
  have h2 : v = .ref l := h2
  subst h2
  have S1 := h0 _ _ S
  have see : ∀ {a : α} {σ' : L2.St} {W' : Wo}, Sta C W0 T σ' W' (Gm a) (Mm a) → ∃ vs, SqL C.K W'.H l vs ∧ DaAll C.K W'.G vs (xs.map enc) ∧ vs.length = xs.length := fun {a σ' W'} S' => by
    obtain ⟨j, hj⟩ := hm a
    obtain ⟨_, _, vs, hx, hall⟩ := S'.mu _ (List.mem_of_getElem? hj)
    exact ⟨vs, SqL.of hx, hall, by rw [hall.length, List.length_map]⟩
  refine ⟨_, h1, l, rfl, ?_, ?_⟩
  · obtain ⟨vs, hx, _⟩ := see S1
    exact ⟨vs, hx⟩
  · refine for_seen (H1 := W.H) (P := fun _ => True) Gm Mm I a0 T xs.length S1 i0 (fun i a' σ' W' _ S' => ?_) (fun i a' x σ' W' H' hlt hI S' y => ?_) (fun a' σ' W' hI S' => hd a' σ' W' hI S')
    · obtain ⟨vs, hx, hall, hl⟩ := see S'
      exact ⟨fun e => ⟨vs, hx, by omega⟩, fun e => ⟨vs, vs[i]'(by omega), hx, by simp [hl, e]⟩⟩
    · obtain ⟨vs, hx, hall, hl⟩ := see S'
      obtain ⟨e, y⟩ := y
      subst e
      obtain ⟨bb, hb, hxb⟩ := enc_at enc hall (y vs hx)
      exact hg bb W0 _ σ' W' _ _ x _ S' hxb fun σ2 S2 => hs i a' bb σ2 W' hb hI S2
theorem q_forO {n0 : Nat} {l : Addr} (S : Sta C W0 T σ W Γ M) (hi : Γ[n0]? = some (some (.loc l)))
    (hm : ∀ a, ∃ j : Nat, (Mm a)[j]? = some (l, Mo.lst (xs.map enc)))
    (h0 : ∀ σ W, Sta C W0 T σ W Γ M → Sta C W0 T σ W (Gm a0) (Mm a0)) (i0 : I 0 a0) (hg : ∀ x, GAs C g (.dat (enc x)) (f x))
    (hs : ∀ i a x σ W, xs[i]? = some x → I i a → Sta C W0 T σ W (f x (Gm a)) (Mm a) → tb (EndsAt { D with nx := tz D } (At C W0 T Gm Mm (I (i + 1)))) σ W.H)
    (hd : ∀ a σ W, I xs.length a → Sta C W0 T σ W (Gm a) (Mm a) → tz D σ W.H) : tSeq (tFor (iList C.K (tVar n0)) g tb) tz D σ W.H := s_forO (D := { D with nx := tz D }) enc Gm Mm I a0 S hi hm h0 i0 hg hs hd
/-- for g in a tuple of data -/
theorem s_forT (S : Sta C W0 T σ W Γ M) (h : EvS C Γ M te (.dat (.tuple (xs.map enc))))
    (h0 : ∀ σ W, Sta C W0 T σ W Γ M → Sta C W0 T σ W (Gm a0) (Mm a0)) (i0 : I 0 a0) (hg : ∀ x, GAs C g (.dat (enc x)) (f x))
    (hs : ∀ i a x T' σ W, xs[i]? = some x → I i a → Sta C W0 T' σ W (f x (Gm a)) (Mm a) → tb (EndsAt D (At C W0 T' Gm Mm (I (i + 1)))) σ W.H)
    (hd : ∀ a σ W, I xs.length a → Sta C W0 T σ W (Gm a) (Mm a) → D.nx σ W.H) : tFor (iTup C.K te) g tb D σ W.H := by
  refine h W0 T σ W S _ fun v W1 l1 ok => ?_
  cases ok with
  | @tup a vs _ hx hall =>
    have S1 := h0 _ _ (S.le l1)
    refine ⟨a, rfl, ⟨vs, Same.seqT W1.fz hx⟩, ?_⟩
    have S1' := S1.know (v := .ref a) (s := .dat (.tuple (xs.map enc))) (.tup hx hall)
    have see : ∀ {a' : α} {σ' : L2.St} {W' : Wo}, Sta C W0 ((.ref a, .dat (.tuple (xs.map enc))) :: T) σ' W' (Gm a') (Mm a') → ∃ vs, SqT C.K W'.H a vs ∧ DaAll C.K W'.G vs (xs.map enc) ∧ vs.length = xs.length := fun {a' σ' W'} S' => by
      have hk : Da C.K W'.G (.ref a) (.tuple (xs.map enc)) := S'.kn _ List.mem_cons_self
      cases hk with
      | @tup _ vs _ hx hall => exact ⟨vs, Same.seqT W'.fz hx, hall, by rw [hall.length, List.length_map]⟩
    refine for_seen (H1 := W1.H) (P := fun _ => True) Gm Mm I a0 ((.ref a, .dat (.tuple (xs.map enc))) :: T) xs.length S1' i0 (fun i a' σ' W' _ S' => ?_) (fun i a' x σ' W' H' hlt hI S' y => ?_) (fun a' σ' W' hI S' => hd a' σ' W' hI S'.unknow)
    · obtain ⟨vs, hx, hall, hl⟩ := see S'
      exact ⟨fun e => ⟨vs, hx, by omega⟩, fun e => ⟨vs, vs[i]'(by omega), hx, by simp [hl, e]⟩⟩
    · obtain ⟨vs, hx, hall, hl⟩ := see S'
      obtain ⟨e, y⟩ := y
      subst e
      obtain ⟨bb, hb, hxb⟩ := enc_at enc hall (y vs hx)
      exact hg bb W0 _ σ' W' _ _ x _ S' hxb fun σ2 S2 => hs i a' bb _ σ2 W' hb hI S2
theorem q_forT (S : Sta C W0 T σ W Γ M) (h : EvS C Γ M te (.dat (.tuple (xs.map enc))))
    (h0 : ∀ σ W, Sta C W0 T σ W Γ M → Sta C W0 T σ W (Gm a0) (Mm a0)) (i0 : I 0 a0) (hg : ∀ x, GAs C g (.dat (enc x)) (f x))
    (hs : ∀ i a x T' σ W, xs[i]? = some x → I i a → Sta C W0 T' σ W (f x (Gm a)) (Mm a) → tb (EndsAt { D with nx := tz D } (At C W0 T' Gm Mm (I (i + 1)))) σ W.H)
    (hd : ∀ a σ W, I xs.length a → Sta C W0 T σ W (Gm a) (Mm a) → tz D σ W.H) : tSeq (tFor (iTup C.K te) g tb) tz D σ W.H := s_forT (D := { D with nx := tz D }) enc Gm Mm I a0 S h h0 i0 hg hs hd
/-- for g in reversed(a list of data) -/
theorem s_forR (S : Sta C W0 T σ W Γ M) (h : EvS C Γ M te (.dat (.list (xs.map enc))))
    (h0 : ∀ σ W, Sta C W0 T σ W Γ M → Sta C W0 T σ W (Gm a0) (Mm a0)) (i0 : I 0 a0) (hg : ∀ x, GAs C g (.dat (enc x)) (f x))
    (hs : ∀ i a x T' σ W, xs.reverse[i]? = some x → I i a → Sta C W0 T' σ W (f x (Gm a)) (Mm a) → tb (EndsAt D (At C W0 T' Gm Mm (I (i + 1)))) σ W.H)
    (hd : ∀ a σ W, I xs.length a → Sta C W0 T σ W (Gm a) (Mm a) → D.nx σ W.H) : tFor (iRev C.K (tCons te tNil)) g tb D σ W.H := by
  refine h W0 T σ W S _ fun v W1 l1 ok => ?_
  cases ok with
  | @lst a vs _ hx hall =>
    have S1 := h0 _ _ (S.le l1)
    have hl : vs.length = xs.length := by rw [hall.length, List.length_map]
    refine ⟨a, vs, rfl, SqL.of (W1.fz _ _ hx), ?_⟩
    rw [hl]
    have S1' := S1.know (v := .ref a) (s := .dat (.list (xs.map enc))) (.lst hx hall)
    have see : ∀ {a' : α} {σ' : L2.St} {W' : Wo}, Sta C W0 ((.ref a, .dat (.list (xs.map enc))) :: T) σ' W' (Gm a') (Mm a') → ∃ vs, SqL C.K W'.H a vs ∧ DaAll C.K W'.G vs (xs.map enc) ∧ vs.length = xs.length := fun {a' σ' W'} S' => by
      have hk : Da C.K W'.G (.ref a) (.list (xs.map enc)) := S'.kn _ List.mem_cons_self
      cases hk with
      | @lst _ vs _ hx hall => exact ⟨vs, SqL.of (W'.fz _ _ hx), hall, by rw [hall.length, List.length_map]⟩
    refine for_seen (H1 := W1.H) (P := fun _ => True) Gm Mm I a0 ((.ref a, .dat (.list (xs.map enc))) :: T) xs.length S1' i0 (fun i a' σ' W' _ S' => ?_) (fun i a' x σ' W' H' hlt hI S' y => ?_) (fun a' σ' W' hI S' => hd a' σ' W' hI S'.unknow)
    · obtain ⟨vs, hx, hall, hl⟩ := see S'
      exact ⟨fun e => by show xs.length ≤ i; omega, fun e => ⟨e, vs, vs[xs.length - 1 - i]'(by omega), hx, by simp⟩⟩
    · obtain ⟨vs, hx, hall, hl⟩ := see S'
      obtain ⟨e, y⟩ := y
      subst e
      obtain ⟨bb, hb, hxb⟩ := enc_at enc hall (y vs hx)
      have hb' : xs.reverse[i]? = some bb := by rw [List.getElem?_reverse hlt]; exact hb
      exact hg bb W0 _ σ' W' _ _ x _ S' hxb fun σ2 S2 => hs i a' bb _ σ2 W' hb' hI S2
/-- for i in range(n) -/
theorem s_forN {n : Nat} {j : Nat} {ta : TA} (S : Sta C W0 T σ W Γ M) (h : EvA C Γ M ta [.dat (.int (n : Int))]) (hn : n < 2 ^ 62)
    (h0 : ∀ σ W, Sta C W0 T σ W Γ M → Sta C W0 T σ W (Gm a0) (Mm a0)) (i0 : I 0 a0)
    (hs : ∀ i a σ W, i < n → I i a → Sta C W0 T σ W ((Gm a).set j (some (.dat (.int (i : Int))))) (Mm a) → tb (EndsAt D (At C W0 T Gm Mm (I (i + 1)))) σ W.H)
    (hd : ∀ a σ W, I n a → Sta C W0 T σ W (Gm a) (Mm a) → D.nx σ W.H) : tFor (iRng1 ta) (gName j) tb D σ W.H := by
  refine h W0 T σ W S _ fun vs W1 l1 ok => ?_
  cases ok with
  | cons a b =>
    cases a
    cases b
    have S1 := h0 _ _ (S.le l1)
    refine ⟨(n : Int), rfl, by omega, by omega, ?_⟩
    rw [Int.toNat_natCast]
    refine for_seen (H1 := W1.H) (P := fun _ => True) Gm Mm I a0 T n S1 i0 (fun i a' σ' W' _ S' => ⟨fun e => by show n ≤ i; omega, fun e => e⟩) (fun i a' x σ' W' H' hlt hI S' y => ?_) hd
    obtain ⟨e, y⟩ := y
    subst e y
    have S2 := S'.set j (v := .int (0 + (i : Int))) (s := .dat (.int (i : Int))) (by rw [Int.zero_add]; exact .int _)
    exact hs i a' _ W' hlt hI S2
theorem q_forN {n : Nat} {j : Nat} {ta : TA} (S : Sta C W0 T σ W Γ M) (h : EvA C Γ M ta [.dat (.int (n : Int))]) (hn : n < 2 ^ 62)
    (h0 : ∀ σ W, Sta C W0 T σ W Γ M → Sta C W0 T σ W (Gm a0) (Mm a0)) (i0 : I 0 a0)
    (hs : ∀ i a σ W, i < n → I i a → Sta C W0 T σ W ((Gm a).set j (some (.dat (.int (i : Int))))) (Mm a) → tb (EndsAt { D with nx := tz D } (At C W0 T Gm Mm (I (i + 1)))) σ W.H)
    (hd : ∀ a σ W, I n a → Sta C W0 T σ W (Gm a) (Mm a) → tz D σ W.H) : tSeq (tFor (iRng1 ta) (gName j) tb) tz D σ W.H := s_forN (D := { D with nx := tz D }) Gm Mm I a0 S h hn h0 i0 hs hd
/-- for i, x in enumerate(a list of data) -/
theorem s_forE (S : Sta C W0 T σ W Γ M) (h : EvS C Γ M te (.dat (.list (xs.map enc)))) {fi : Nat → β → Ga → Ga}
    (h0 : ∀ σ W, Sta C W0 T σ W Γ M → Sta C W0 T σ W (Gm a0) (Mm a0)) (i0 : I 0 a0) (hg : ∀ (i : Nat) x, GAs C g (.dat (.tuple [.int (i : Int), enc x])) (fi i x))
    (hs : ∀ i a x T' σ W, xs[i]? = some x → I i a → Sta C W0 T' σ W (fi i x (Gm a)) (Mm a) → tb (EndsAt D (At C W0 T' Gm Mm (I (i + 1)))) σ W.H)
    (hd : ∀ a σ W, I xs.length a → Sta C W0 T σ W (Gm a) (Mm a) → D.nx σ W.H) : tFor (iEnum C.K (tCons te tNil)) g tb D σ W.H := by
  refine h W0 T σ W S _ fun v W1 l1 ok => ?_
  cases ok with
  | @lst a vs _ hx hall =>
    have S1 := h0 _ _ (S.le l1)
    refine ⟨a, vs, rfl, SqL.of (W1.fz _ _ hx), ?_⟩
    have S1' := S1.know (v := .ref a) (s := .dat (.list (xs.map enc))) (.lst hx hall)
    have see : ∀ {a' : α} {σ' : L2.St} {W' : Wo}, Sta C W0 ((.ref a, .dat (.list (xs.map enc))) :: T) σ' W' (Gm a') (Mm a') → ∃ vs, SqL C.K W'.H a vs ∧ DaAll C.K W'.G vs (xs.map enc) ∧ vs.length = xs.length := fun {a' σ' W'} S' => by
      have hk : Da C.K W'.G (.ref a) (.list (xs.map enc)) := S'.kn _ List.mem_cons_self
      cases hk with
      | @lst _ vs _ hx hall => exact ⟨vs, SqL.of (W'.fz _ _ hx), hall, by rw [hall.length, List.length_map]⟩
    refine for_seen (H1 := W1.H) (P := fun _ => True) Gm Mm I a0 ((.ref a, .dat (.list (xs.map enc))) :: T) xs.length S1' i0 (fun i a' σ' W' _ S' => ?_) (fun i a' x σ' W' H' hlt hI S' y => ?_) (fun a' σ' W' hI S' => hd a' σ' W' hI S'.unknow)
    · obtain ⟨vs, hx, hall, hl⟩ := see S'
      exact ⟨fun e => ⟨vs, hx, by omega⟩, fun e => ⟨vs, vs[i]'(by omega), hx, by simp [hl, e]⟩⟩
    · obtain ⟨vs, hx, hall, hl⟩ := see S'
      obtain ⟨p, x', e1, hp, e2, y⟩ := y
      subst e1 e2
      obtain ⟨bb, hb, hxb⟩ := enc_at enc hall (y vs hx)
      have S3 := S'.le (Le.new (o := .tup [.int (i : Nat), x']) hp)
      refine hg i bb W0 _ σ' (W'.new p (.tup [.int (i : Nat), x'])) _ _ (.ref p) _ S3 (.tup (SqT.of upd_same) (.cons (.int _) (.cons (Da.mono (Same.add (Wo.gfree hp)) _ _ hxb) .nil))) fun σ2 S2 => hs i a' bb _ σ2 _ hb hI S2
theorem q_forE (S : Sta C W0 T σ W Γ M) (h : EvS C Γ M te (.dat (.list (xs.map enc)))) {fi : Nat → β → Ga → Ga}
    (h0 : ∀ σ W, Sta C W0 T σ W Γ M → Sta C W0 T σ W (Gm a0) (Mm a0)) (i0 : I 0 a0) (hg : ∀ (i : Nat) x, GAs C g (.dat (.tuple [.int (i : Int), enc x])) (fi i x))
    (hs : ∀ i a x T' σ W, xs[i]? = some x → I i a → Sta C W0 T' σ W (fi i x (Gm a)) (Mm a) → tb (EndsAt { D with nx := tz D } (At C W0 T' Gm Mm (I (i + 1)))) σ W.H)
    (hd : ∀ a σ W, I xs.length a → Sta C W0 T σ W (Gm a) (Mm a) → tz D σ W.H) : tSeq (tFor (iEnum C.K (tCons te tNil)) g tb) tz D σ W.H := s_forE (D := { D with nx := tz D }) enc Gm Mm I a0 S h h0 i0 hg hs hd
/-- for i, x in enumerate(a tuple of data) -/
theorem s_forET (S : Sta C W0 T σ W Γ M) (h : EvS C Γ M te (.dat (.tuple (xs.map enc)))) {fi : Nat → β → Ga → Ga}
    (h0 : ∀ σ W, Sta C W0 T σ W Γ M → Sta C W0 T σ W (Gm a0) (Mm a0)) (i0 : I 0 a0) (hg : ∀ (i : Nat) x, GAs C g (.dat (.tuple [.int (i : Int), enc x])) (fi i x))
    (hs : ∀ i a x T' σ W, xs[i]? = some x → I i a → Sta C W0 T' σ W (fi i x (Gm a)) (Mm a) → tb (EndsAt D (At C W0 T' Gm Mm (I (i + 1)))) σ W.H)
    (hd : ∀ a σ W, I xs.length a → Sta C W0 T σ W (Gm a) (Mm a) → D.nx σ W.H) : tFor (iEnumT C.K (tCons te tNil)) g tb D σ W.H := by
  refine h W0 T σ W S _ fun v W1 l1 ok => ?_
  cases ok with
  | @tup a vs _ hx hall =>
    have S1 := h0 _ _ (S.le l1)
    have hl : vs.length = xs.length := by rw [hall.length, List.length_map]
    refine ⟨a, vs, rfl, Same.seqT W1.fz hx, ?_⟩
    have S1' := S1.know (v := .ref a) (s := .dat (.tuple (xs.map enc))) (.tup hx hall)
    have see : ∀ {a' : α} {σ' : L2.St} {W' : Wo}, Sta C W0 ((.ref a, .dat (.tuple (xs.map enc))) :: T) σ' W' (Gm a') (Mm a') → ∃ vs, SqT C.K W'.H a vs ∧ DaAll C.K W'.G vs (xs.map enc) ∧ vs.length = xs.length := fun {a' σ' W'} S' => by
      have hk : Da C.K W'.G (.ref a) (.tuple (xs.map enc)) := S'.kn _ List.mem_cons_self
      cases hk with
      | @tup _ vs _ hx hall => exact ⟨vs, Same.seqT W'.fz hx, hall, by rw [hall.length, List.length_map]⟩
    refine for_seen (H1 := W1.H) (P := fun _ => True) Gm Mm I a0 ((.ref a, .dat (.tuple (xs.map enc))) :: T) xs.length S1' i0 (fun i a' σ' W' _ S' => ?_) (fun i a' x σ' W' H' hlt hI S' y => ?_) (fun a' σ' W' hI S' => hd a' σ' W' hI S'.unknow)
    · obtain ⟨vs, hx, hall, hl⟩ := see S'
      exact ⟨fun e => ⟨vs, hx, by omega⟩, fun e => ⟨vs, hx, by omega⟩⟩
    · obtain ⟨vs, hx, hall, hl⟩ := see S'
      obtain ⟨p, x', e1, hp, e2, y⟩ := y
      subst e1 e2
      obtain ⟨bb, hb, hxb⟩ := enc_at enc hall (y vs hx)
      have S3 := S'.le (Le.new (o := .tup [.int (i : Nat), x']) hp)
      refine hg i bb W0 _ σ' (W'.new p (.tup [.int (i : Nat), x'])) _ _ (.ref p) _ S3 (.tup (SqT.of upd_same) (.cons (.int _) (.cons (Da.mono (Same.add (Wo.gfree hp)) _ _ hxb) .nil))) fun σ2 S2 => hs i a' bb _ σ2 _ hb hI S2
theorem q_forET (S : Sta C W0 T σ W Γ M) (h : EvS C Γ M te (.dat (.tuple (xs.map enc)))) {fi : Nat → β → Ga → Ga}
    (h0 : ∀ σ W, Sta C W0 T σ W Γ M → Sta C W0 T σ W (Gm a0) (Mm a0)) (i0 : I 0 a0) (hg : ∀ (i : Nat) x, GAs C g (.dat (.tuple [.int (i : Int), enc x])) (fi i x))
    (hs : ∀ i a x T' σ W, xs[i]? = some x → I i a → Sta C W0 T' σ W (fi i x (Gm a)) (Mm a) → tb (EndsAt { D with nx := tz D } (At C W0 T' Gm Mm (I (i + 1)))) σ W.H)
    (hd : ∀ a σ W, I xs.length a → Sta C W0 T σ W (Gm a) (Mm a) → tz D σ W.H) : tSeq (tFor (iEnumT C.K (tCons te tNil)) g tb) tz D σ W.H := s_forET (D := { D with nx := tz D }) enc Gm Mm I a0 S h h0 i0 hg hs hd
end
/-- while -/
theorem s_while {α : Type u} (Gm : α → Ga) (Mm : α → Ms) (I : α → Prop) (μ : α → Nat) (a0 : α) (S : Sta C W0 T σ W Γ M) (h0 : ∀ σ W, Sta C W0 T σ W Γ M → Sta C W0 T σ W (Gm a0) (Mm a0)) (i0 : I a0)
    (ht : ∀ a, I a → ∃ b, EvT C (Gm a) (Mm a) tt b ∧ (b = true → ∀ σ W, Sta C W0 T σ W (Gm a) (Mm a) → tb (EndsAt D (At C W0 T Gm Mm fun a' => I a' ∧ μ a' < μ a)) σ W.H) ∧ (b = false → ∀ σ W, Sta C W0 T σ W (Gm a) (Mm a) → D.nx σ W.H)) : tWhile tt tb D σ W.H := by
  refine ⟨fun m σ H => ∃ W a, W.H = H ∧ I a ∧ m = μ a ∧ Sta C W0 T σ W (Gm a) (Mm a), ⟨μ a0, W, a0, rfl, i0, rfl, h0 _ _ S⟩, ?_⟩
  rintro m σ' H' ⟨W', a, e, hI, rfl, S'⟩
  subst e
  obtain ⟨b, h1, h2, h3⟩ := ht a hI
  refine h1 W0 T σ' W' S' _ fun W2 l2 => ?_
  cases b with
  | true => exact ⟨_, fun σ3 H3 ⟨W3, a', e, ⟨hI', hlt⟩, S3⟩ => ⟨μ a', hlt, W3, a', e, hI', rfl, S3⟩, h2 rfl σ' W2 (S'.le l2)⟩
  | false => exact h3 rfl σ' W2 (S'.le l2)
theorem q_while {α : Type u} (Gm : α → Ga) (Mm : α → Ms) (I : α → Prop) (μ : α → Nat) (a0 : α) (S : Sta C W0 T σ W Γ M) (h0 : ∀ σ W, Sta C W0 T σ W Γ M → Sta C W0 T σ W (Gm a0) (Mm a0)) (i0 : I a0)
    (ht : ∀ a, I a → ∃ b, EvT C (Gm a) (Mm a) tt b ∧ (b = true → ∀ σ W, Sta C W0 T σ W (Gm a) (Mm a) → tb (EndsAt { D with nx := tz D } (At C W0 T Gm Mm fun a' => I a' ∧ μ a' < μ a)) σ W.H) ∧ (b = false → ∀ σ W, Sta C W0 T σ W (Gm a) (Mm a) → tz D σ W.H)) : tSeq (tWhile tt tb) tz D σ W.H := s_while (D := { D with nx := tz D }) Gm Mm I μ a0 S h0 i0 ht
end
end Dr
/-! the program's things, typed, and as data -/
namespace Dr
open PySem

/-- a text that can be laid out -/
abbrev Nm := { s : Str // PyData.strOk s = true }
inductive Kw where
  | pair | first | second | same | none_ | tell | either | or_ | again | end_ | do_
  deriving DecidableEq
def Kw.str : Kw → Str
  | .pair => "pair" | .first => "first" | .second => "second" | .same => "same" | .none_ => "none" | .tell => "tell" | .either => "either" | .or_ => "or" | .again => "again" | .end_ => "end" | .do_ => "do"
def Kw.all : List Kw := [.pair, .first, .second, .same, .none_, .tell, .either, .or_, .again, .end_, .do_]
theorem Kw.mem (k : Kw) : k ∈ Kw.all := by cases k <;> decide
theorem Kw.str_all : (Kw.all.all fun a => Kw.all.all fun b => decide (a.str = b.str) == decide (a = b)) = true := by decide +kernel
theorem Kw.str_dec (a b : Kw) : decide (a.str = b.str) = decide (a = b) := by
  have h := List.all_eq_true.mp (List.all_eq_true.mp Kw.str_all a a.mem) b b.mem
  simpa using h
theorem Kw.str_inj {a b : Kw} (h : a.str = b.str) : a = b := by
  have := Kw.str_dec a b
  rw [decide_eq_true h] at this
  exact of_decide_eq_true this.symm
theorem Kw.ok_all : (Kw.all.all fun a => PyData.strOk a.str) = true := by decide +kernel
theorem Kw.ok (a : Kw) : PyData.strOk a.str = true := List.all_eq_true.mp Kw.ok_all a a.mem
inductive Line where
  | pair (x w y z : Nm)
  | first (x y : Nm)
  | second (x y : Nm)
  | same (x y : Nm)
  | none_ (x : Nm)
  | tell (y : Nm)
  | either | or_ | again | end_
  | do_ (n : Nm)
  deriving DecidableEq
def Line.kw : Line → Kw
  | .pair .. => .pair | .first .. => .first | .second .. => .second | .same .. => .same | .none_ _ => .none_ | .tell _ => .tell | .either => .either | .or_ => .or_ | .again => .again | .end_ => .end_ | .do_ _ => .do_
def Line.names : Line → List Nm
  | .pair x w y z => [x, w, y, z]
  | .first x y => [x, y]
  | .second x y => [x, y]
  | .same x y => [x, y]
  | .none_ x => [x]
  | .tell y => [y]
  | .either => [] | .or_ => [] | .again => [] | .end_ => []
  | .do_ n => [n]
def encN (n : Nm) : PyData := .str n.1
def Line.rest (l : Line) : List PyData := l.names.map encN
def encL (l : Line) : PyData := .tuple (.str l.kw.str :: l.rest)
abbrev Part := Nm × List Line
abbrev Prog := List Part
def encLs (ls : List Line) : PyData := .tuple (ls.map encL)
def encPart (p : Part) : PyData := .tuple [.str p.1.1, encLs p.2]
def encProg (p : Prog) : PyData := .tuple (p.map encPart)
abbrev Way := List (Nat × Nat)
def encPl (a : Nat × Nat) : PyData := .tuple [.int (a.1 : Int), .int (a.2 : Int)]
def encWay (w : Way) : PyData := .tuple (w.map encPl)
structure Spot where
  way : Way
  part : Nat
  k : Nat
  head : Bool
  deriving DecidableEq
def encSpot (s : Spot) : PyData := .tuple [encWay s.way, .int (s.part : Int), .int (s.k : Int), .bool s.head]
structure Seat where
  late : Nat
  n : Nat
  box : Nm
  deriving DecidableEq
def encSeat (s : Seat) : PyData := .tuple [.int (s.late : Int), .int (s.n : Int), .str s.box.1]
abbrev Thing := Option (Nat × Seat)
def encThing : Thing → PyData
  | none => .tuple []
  | some (l, s) => .tuple [.int (l : Int), encSeat s]
inductive Rule where
  | copy (a b : Seat)
  | push (a : Seat) (l : Nat) (b : Seat)
  | pop (a : Seat) (l : Nat) (b : Seat)
  | end_ (b : Seat)
  deriving DecidableEq
def encRule : Rule → PyData
  | .copy a b => .tuple [.str "copy", encSeat a, encSeat b]
  | .push a l b => .tuple [.str "push", encSeat a, .int (l : Int), encSeat b]
  | .pop a l b => .tuple [.str "pop", encSeat a, .int (l : Int), encSeat b]
  | .end_ b => .tuple [.str "end", encSeat b]
abbrev Move := Seat × Nat × Seat
def encMove (m : Move) : PyData := .tuple [encSeat m.1, .int (m.2.1 : Int), encSeat m.2.2]
structure Reader where
  ends : List Seat
  moves : List Move
def encReader (r : Reader) : PyData := .tuple [.list (r.ends.map encSeat), .list (r.moves.map encMove)]
def encLm (a : Nat × Seat) : PyData := .tuple [.int (a.1 : Int), encSeat a.2]
def encSS (a : Seat × Seat) : PyData := .tuple [encSeat a.1, encSeat a.2]
def encOp (o : Option (Nat × Nat)) : PyData := match o with
  | none => .none
  | some a => encPl a
def encOL (o : Option Line) : PyData := match o with
  | none => .none
  | some l => encL l
def encON (o : Option Nm) : PyData := match o with
  | none => .none
  | some l => .str l.1

/-! ### as keys -/
theorem int_inj {a b : Nat} (h : (a : Int) = (b : Int)) : a = b := by omega
theorem nk_int (a : Nat) : nkOf (.int (a : Int)) = .num a := by unfold nkOf; rfl
theorem nks2 (a b : PyData) : nkOf (.tuple [a, b]) = .tup [nkOf a, nkOf b] := by simp [nkOf, nksOf]
theorem nks3 (a b c : PyData) : nkOf (.tuple [a, b, c]) = .tup [nkOf a, nkOf b, nkOf c] := by simp [nkOf, nksOf]
theorem nks4 (a b c d : PyData) : nkOf (.tuple [a, b, c, d]) = .tup [nkOf a, nkOf b, nkOf c, nkOf d] := by simp [nkOf, nksOf]
theorem nk_pl (a : Nat × Nat) : nkOf (encPl a) = .tup [.num a.1, .num a.2] := by unfold encPl; rw [nks2, nk_int, nk_int]
theorem nk_seat (s : Seat) : nkOf (encSeat s) = .tup [.num s.late, .num s.n, .text s.box.1] := by unfold encSeat; rw [nks3, nk_int, nk_int]; simp [nkOf]
theorem nks_map {α : Type} (f : α → PyData) : ∀ xs : List α, nksOf (xs.map f) = xs.map fun x => nkOf (f x)
  | [] => by simp [nksOf]
  | x :: xs => by rw [List.map_cons, List.map_cons, nksOf, nks_map f xs]
theorem nk_way (w : Way) : nkOf (encWay w) = .tup (w.map fun a => .tup [.num a.1, .num a.2]) := by
  unfold encWay nkOf
  rw [nks_map]
  exact congrArg NestedKey.tup (List.map_congr_left fun a _ => nk_pl a)
theorem way_inj : ∀ {a b : Way}, (a.map fun a => NestedKey.tup [.num a.1, .num a.2]) = (b.map fun a => NestedKey.tup [.num a.1, .num a.2]) → a = b
  | [], [], _ => rfl
  | [], _ :: _, h => by simp at h
  | _ :: _, [], h => by simp at h
  | (x, y) :: a, (x', y') :: b, h => by
    simp only [List.map_cons, List.cons.injEq, NestedKey.tup.injEq, NestedKey.num.injEq, and_true] at h
    obtain ⟨⟨h1, h2⟩, h3⟩ := h
    rw [int_inj h1, int_inj h2, way_inj h3]
theorem seat_inj {a b : Seat} (h : nkOf (encSeat a) = nkOf (encSeat b)) : a = b := by
  rw [nk_seat, nk_seat] at h
  simp only [NestedKey.tup.injEq, List.cons.injEq, NestedKey.num.injEq, NestedKey.text.injEq, and_true] at h
  obtain ⟨h1, h2, h3⟩ := h
  cases a; cases b
  simp only [Seat.mk.injEq]
  exact ⟨int_inj h1, int_inj h2, Subtype.ext h3⟩
theorem spot_nk (s : Spot) : nkOf (encSpot s) = .tup [.tup (s.way.map fun a => .tup [.num a.1, .num a.2]), .num s.part, .num s.k, .num (if s.head = true then 1 else 0)] := by
  unfold encSpot
  rw [nks4, nk_way, nk_int, nk_int]
  simp [nkOf]
theorem spot_inj {a b : Spot} (h : nkOf (encSpot a) = nkOf (encSpot b)) : a = b := by
  rw [spot_nk, spot_nk] at h
  simp only [NestedKey.tup.injEq, List.cons.injEq, NestedKey.num.injEq, and_true] at h
  obtain ⟨h1, h2, h3, h4⟩ := h
  cases a; cases b
  simp only [Spot.mk.injEq]
  refine ⟨way_inj h1, int_inj h2, int_inj h3, ?_⟩
  rename_i x1 x2
  cases x1 <;> cases x2 <;> simp_all
theorem ss_nk (a : Seat × Seat) : nkOf (encSS a) = .tup [nkOf (encSeat a.1), nkOf (encSeat a.2)] := nks2 _ _
theorem ss_inj {a b : Seat × Seat} (h : nkOf (encSS a) = nkOf (encSS b)) : a = b := by
  rw [ss_nk, ss_nk] at h
  simp only [NestedKey.tup.injEq, List.cons.injEq, and_true] at h
  exact Prod.ext (seat_inj h.1) (seat_inj h.2)
theorem thing_inj {a b : Thing} (h : nkOf (encThing a) = nkOf (encThing b)) : a = b := by
  cases a with
  | none =>
    cases b with
    | none => rfl
    | some p => simp [encThing, nkOf, nksOf] at h
  | some p =>
    cases b with
    | none => simp [encThing, nkOf, nksOf] at h
    | some q =>
      obtain ⟨l, s⟩ := p
      obtain ⟨l', s'⟩ := q
      simp only [encThing] at h
      rw [nks2, nks2, nk_int, nk_int] at h
      simp only [NestedKey.tup.injEq, List.cons.injEq, NestedKey.num.injEq, and_true] at h
      rw [int_inj h.1, seat_inj h.2]
theorem depthAll_le {n : Nat} : ∀ {ks : List NestedKey}, (∀ k ∈ ks, k.depth ≤ n) → NestedKey.depthAll ks ≤ n
  | [], _ => by simp [NestedKey.depthAll]
  | k :: ks, h => by
    have h1 := h k List.mem_cons_self
    have h2 := depthAll_le (ks := ks) fun q m => h q (List.mem_cons_of_mem _ m)
    simp only [NestedKey.depthAll]
    omega
theorem keyables_map {α : Type} {f : α → PyData} (h : ∀ x, keyable (f x) = true) : ∀ xs : List α, keyables (xs.map f) = true
  | [] => by simp [keyables]
  | x :: xs => by rw [List.map_cons, keyables, h, keyables_map h xs]; rfl
theorem pl_ok (a : Nat × Nat) : keyable (encPl a) = true := by simp [encPl, keyable, keyables]
theorem way_ok (w : Way) : keyable (encWay w) = true := by unfold encWay keyable; exact keyables_map pl_ok w
theorem seat_ok (s : Seat) : keyable (encSeat s) = true := by simp [encSeat, keyable, keyables]
theorem seat_dp (s : Seat) : (nkOf (encSeat s)).depth ≤ 1 := by rw [nk_seat]; simp [NestedKey.depth, NestedKey.depthAll]
def ESpot : Enc Spot where
  d := encSpot
  ok := fun s => by simp [encSpot, keyable, keyables, way_ok]
  tup := fun s => by rw [spot_nk]; rfl
  dp := fun s => by
    rw [spot_nk]
    have h : NestedKey.depthAll (s.way.map fun a => NestedKey.tup [.num a.1, .num a.2]) ≤ 1 := depthAll_le fun k m => by
      obtain ⟨a, _, e⟩ := List.mem_map.mp m
      subst e
      simp [NestedKey.depth, NestedKey.depthAll]
    simp only [NestedKey.depth, NestedKey.depthAll]
    omega
  inj := fun _ _ => spot_inj
def ESeat : Enc Seat where
  d := encSeat
  ok := seat_ok
  tup := fun s => by rw [nk_seat]; rfl
  dp := fun s => Nat.le_trans (seat_dp s) (by decide)
  inj := fun _ _ => seat_inj
def ESS : Enc (Seat × Seat) where
  d := encSS
  ok := fun s => by simp [encSS, keyable, keyables, seat_ok]
  tup := fun s => by rw [ss_nk]; rfl
  dp := fun s => by
    rw [ss_nk]
    have h1 := seat_dp s.1
    have h2 := seat_dp s.2
    simp only [NestedKey.depth, NestedKey.depthAll]
    omega
  inj := fun _ _ => ss_inj
def EThing : Enc Thing where
  d := encThing
  ok := fun t => by
    cases t with
    | none => simp [encThing, keyable, keyables]
    | some p => simp [encThing, keyable, keyables, seat_ok]
  tup := fun t => by
    cases t with
    | none => simp [encThing, nkOf, isTup]
    | some p => simp [encThing, nkOf, isTup]
  dp := fun t => by
    cases t with
    | none => simp [encThing, nkOf, nksOf, NestedKey.depth, NestedKey.depthAll]
    | some p =>
      have h := seat_dp p.2
      simp only [encThing, nks2, nk_int, NestedKey.depth, NestedKey.depthAll]
      omega
  inj := fun _ _ => thing_inj

/-! ### flat -/
theorem depthAll_le' {n : Nat} : ∀ {ds : List PyData}, (∀ d ∈ ds, d.depth ≤ n) → PyData.depthAll ds ≤ n
  | [], _ => by simp [PyData.depthAll]
  | d :: ds, h => by
    have h1 := h d List.mem_cons_self
    have h2 := depthAll_le' (ds := ds) fun q m => h q (List.mem_cons_of_mem _ m)
    simp only [PyData.depthAll]
    omega
theorem layAll_of : ∀ {ds : List PyData}, (∀ d ∈ ds, d.canLay0 = true) → PyData.canLayAll0 ds = true
  | [], _ => by simp [PyData.canLayAll0]
  | d :: ds, h => by
    unfold PyData.canLayAll0
    rw [h d List.mem_cons_self, layAll_of fun q m => h q (List.mem_cons_of_mem _ m)]
    rfl
/-- flat to a depth -/
structure Fl (n : Nat) (d : PyData) : Prop where
  lay : d.canLay0 = true
  dp : d.depth ≤ n
theorem Fl.flat {n : Nat} {d : PyData} (h : Fl n d) (hn : n ≤ 40 := by decide) : Flat d := ⟨h.lay, Nat.le_trans h.dp hn⟩
theorem Fl.mono {n m : Nat} {d : PyData} (h : Fl n d) (hn : n ≤ m) : Fl m d := ⟨h.lay, Nat.le_trans h.dp hn⟩
theorem fl_int {n : Nat} (i : Int) : Fl n (.int i) := ⟨by simp [PyData.canLay0], by simp [PyData.depth]⟩
theorem fl_bool {n : Nat} (i : Bool) : Fl n (.bool i) := ⟨by simp [PyData.canLay0], by simp [PyData.depth]⟩
theorem fl_none {n : Nat} : Fl n .none := ⟨by simp [PyData.canLay0], by simp [PyData.depth]⟩
theorem fl_str {n : Nat} {x : Str} (h : PyData.strOk x = true) : Fl n (.str x) := ⟨by simp [PyData.canLay0, h], by simp [PyData.depth]⟩
theorem fl_tup {n : Nat} {ds : List PyData} (h : ∀ d ∈ ds, Fl n d) : Fl (n + 1) (.tuple ds) := ⟨by unfold PyData.canLay0; exact layAll_of fun d m => (h d m).lay, by simp only [PyData.depth]; have := depthAll_le' fun d m => (h d m).dp; omega⟩
theorem fl_list {n : Nat} {ds : List PyData} (h : ∀ d ∈ ds, Fl n d) : Fl (n + 1) (.list ds) := ⟨by unfold PyData.canLay0; exact layAll_of fun d m => (h d m).lay, by simp only [PyData.depth]; have := depthAll_le' fun d m => (h d m).dp; omega⟩
theorem fl_map {n : Nat} {α : Type} {f : α → PyData} (h : ∀ x, Fl n (f x)) (xs : List α) : ∀ d ∈ xs.map f, Fl n d := fun d m => by
  obtain ⟨x, _, e⟩ := List.mem_map.mp m
  subst e
  exact h x
theorem fl2 {n : Nat} {a b : PyData} (ha : Fl n a) (hb : Fl n b) : ∀ d ∈ [a, b], Fl n d := fun d m => by
  rcases List.mem_cons.mp m with e | m
  · rw [e]; exact ha
  · rw [List.mem_singleton.mp m]; exact hb
theorem fl3 {n : Nat} {a b c : PyData} (ha : Fl n a) (hb : Fl n b) (hc : Fl n c) : ∀ d ∈ [a, b, c], Fl n d := fun d m => by
  rcases List.mem_cons.mp m with e | m
  · rw [e]; exact ha
  · exact fl2 hb hc d m
theorem fl4 {n : Nat} {a b c e : PyData} (ha : Fl n a) (hb : Fl n b) (hc : Fl n c) (he : Fl n e) : ∀ d ∈ [a, b, c, e], Fl n d := fun d m => by
  rcases List.mem_cons.mp m with e | m
  · rw [e]; exact ha
  · exact fl3 hb hc he d m
theorem fl_pl (a : Nat × Nat) : Fl 1 (encPl a) := fl_tup (fl2 (fl_int _) (fl_int _))
theorem fl_way (w : Way) : Fl 2 (encWay w) := fl_tup (fl_map fl_pl w)
theorem fl_spot (s : Spot) : Fl 3 (encSpot s) := fl_tup (fl4 (fl_way _) (fl_int _) (fl_int _) (fl_bool _))
theorem fl_seat (s : Seat) : Fl 1 (encSeat s) := fl_tup (fl3 (fl_int _) (fl_int _) (fl_str s.box.2))
theorem fl_thing (t : Thing) : Fl 2 (encThing t) := by
  cases t with
  | none => exact fl_tup fun d m => nomatch m
  | some p => exact fl_tup (fl2 (fl_int _) (fl_seat _))
theorem fl_op (o : Option (Nat × Nat)) : Fl 1 (encOp o) := by
  cases o with
  | none => exact fl_none
  | some a => exact fl_pl a
theorem fl_ss (a : Seat × Seat) : Fl 2 (encSS a) := fl_tup (fl2 (fl_seat _) (fl_seat _))
theorem fl_line (l : Line) : Fl 1 (encL l) := fl_tup fun d m => by
  rcases List.mem_cons.mp m with e | m
  · rw [e]; exact fl_str (Kw.ok _)
  · exact fl_map (fun n => fl_str n.2) l.names d m
end Dr
/-! built-ins, slices, own dicts, comprehensions over data -/
namespace Dr
open PySem PySem.Spec PyProof.Rows L2

section
variable {X : Cx}
def rLenQ (K : PySem.W.Frag) : List V → Hp → VK → Prop := fun xs H Q => ∃ p ys, xs = [.ref p] ∧ (SqL K H p ys ∨ SqT K H p ys) ∧ Q (.int ys.length) H
theorem cr_len : CallR X (.builtin "len") (rLenQ X.K) := call_len_seq
def rMaxQ : List V → Hp → VK → Prop := fun xs H Q => ∃ i j, xs = [.int i, .int j] ∧ Q (.int (if j > i then j else i)) H
theorem cr_max (hc : X.calm = true) : CallR X (.builtin "max") rMaxQ := call_max2 hc
def rIntQ : List V → Hp → VK → Prop := fun xs H Q => (∃ i, xs = [.int i] ∧ Q (.int i) H) ∨ ∃ k, xs = [.bl k] ∧ Q (.int (if k then 1 else 0)) H
theorem cr_int : CallR X (.type "int") rIntQ := call_int1
def rTupQ (K : PySem.W.Frag) : List V → Hp → VK → Prop := fun xs H Q => ∃ p ys, xs = [.ref p] ∧ ((SqL K H p ys ∧ ∀ l, H l = none → Q (.ref l) (upd H l (.tup ys))) ∨ (SqT K H p ys ∧ Q (.ref p) H))
theorem cr_tup : CallR X (.type "tuple") (rTupQ X.K) := call_tuple_of
def rListQ (K : PySem.W.Frag) : List V → Hp → VK → Prop := fun xs H Q => ∃ p ys, xs = [.ref p] ∧ (SqL K H p ys ∨ SqT K H p ys) ∧ ∀ l, H l = none → Q (.ref l) (upd H l (.lst ys))
theorem cr_list : CallR X (.type "list") (rListQ X.K) := call_list_of
def rSortedQ : List V → Hp → VK → Prop := fun xs H Q => ∃ (a : Addr) (kvs : List (Key × V)) (ks : List Str), xs = [.ref a] ∧ Rd H a (.dK kvs) ∧ kvs.map (·.1) = ks.map Sum.inr ∧ ks.length < 64 ∧
    ∀ ys p, ys.Perm ks → sortedS ys = true → H p = none → Q (.ref p) (upd H p (.lst (ys.map V.str)))
theorem cr_sortedT (hc : X.calm = true) : CallR X (.builtin "sorted") rSortedQ := call_sortedD hc
end

/-- a slice's ends, of data -/
def cutP (xs : List PyData) (lo hi : Option Int) : List PyData := (xs.drop (HT.sIx xs.length 0 lo)).take (HT.sIx xs.length xs.length hi - HT.sIx xs.length 0 lo)
section
variable {C : Cn} {W0 W : Wo} {T : Kn} {σ : L2.St} {Γ : Ga} {M : Ms} {ta tb te tc : TE} {s : Sv} {d e : PyData} {tt tu : TT} {b c : Bool} {D : Ends} {t1 t2 tz : TS} {ds es : List PyData}

/-- a call on values -/
theorem e_cb1 {r : List V → Hp → VK → Prop} {sa : Sv} (ha : EvS C Γ M ta sa)
    (hr : ∀ W0 T σ W, Sta C W0 T σ W Γ M → ∀ x, SvOk C W.G x sa → ∀ Q : VK, (∀ v W', Le W W' → SvOk C W'.G v s → Q v W'.H) → r [x] W.H Q) : EvS C Γ M (tCB r (tCons ta tNil)) s := fun W0 T σ W S Q k =>
  ha W0 T σ W S _ fun x W1 l1 ok1 => hr W0 T σ W1 (S.le l1) x ok1 Q fun v W3 l3 ok3 => k v W3 (l1.trans l3) ok3
theorem e_lenT (ha : EvS C Γ M ta (.dat (.tuple ds))) : EvS C Γ M (tCB (rLenQ C.K) (tCons ta tNil)) (.dat (.int (ds.length : Int))) := e_cb1 ha fun W0 T σ W S x hx Q k => by
  cases hx with
  | @tup a vs _ hs hall => exact ⟨a, vs, rfl, .inr (Same.seqT W.fz hs), by rw [hall.length]; exact k _ W (Le.refl W) (.int _)⟩
theorem e_lenL (ha : EvS C Γ M ta (.dat (.list ds))) : EvS C Γ M (tCB (rLenQ C.K) (tCons ta tNil)) (.dat (.int (ds.length : Int))) := e_cb1 ha fun W0 T σ W S x hx Q k => by
  cases hx with
  | @lst a vs _ hs hall => exact ⟨a, vs, rfl, .inl (SqL.of (W.fz _ _ hs)), by rw [hall.length]; exact k _ W (Le.refl W) (.int _)⟩
theorem e_lenO {i j : Nat} {l : Addr} (h : Γ[i]? = some (some (.loc l))) (hm : M[j]? = some (l, .lst ds)) : EvS C Γ M (tCB (rLenQ C.K) (tCons (tVar i) tNil)) (.dat (.int (ds.length : Int))) := e_cb1 (e_var h) fun W0 T σ W S x hx Q k => by
  have hx : x = .ref l := hx
  subst hx
  obtain ⟨_, _, xs, hH, hall⟩ := S.mu _ (List.mem_of_getElem? hm)
  exact ⟨l, xs, rfl, .inl (SqL.of hH), by rw [hall.length]; exact k _ W (Le.refl W) (.int _)⟩
theorem e_lenS {ns : List Int} (ha : EvS C Γ M ta (.scr ns)) : EvS C Γ M (tCB (rLenQ C.K) (tCons ta tNil)) (.dat (.int (ns.length : Int))) := e_cb1 ha fun W0 T σ W S x hx Q k => by
  obtain ⟨a, rfl, hs⟩ := hx
  exact ⟨a, _, rfl, .inl (Same.seq W.fz hs), by rw [List.length_map]; exact k _ W (Le.refl W) (.int _)⟩
theorem e_ixS {ns : List Int} {i n : Int} (ha : EvS C Γ M ta (.scr ns)) (hb : EvS C Γ M tb (.dat (.int i))) (h : L2.atI ns i = some n) : EvS C Γ M (tOp (rIx C.K) ta tb) (.dat (.int n)) :=
  e_op2 ha hb fun W0 T σ W S x y hx hy Q k => by
    cases hy
    obtain ⟨a, rfl, hs⟩ := hx
    refine .inl ⟨a, _, i, .int n, rfl, rfl, Same.seq W.fz hs, ?_, k _ W (Le.refl W) (.int _)⟩
    unfold L2.atI at h ⊢
    rw [List.length_map]
    cases q : ixN ns.length i with
    | none => rw [q] at h; cases h
    | some j =>
      rw [q] at h
      show (ns.map V.int)[j]? = _
      rw [List.getElem?_map, show ns[j]? = some n from h]
      rfl
theorem e_max {i j : Int} (ha : EvS C Γ M ta (.dat (.int i))) (hb : EvS C Γ M tb (.dat (.int j))) : EvS C Γ M (tCB rMaxQ (tCons ta (tCons tb tNil))) (.dat (.int (if j > i then j else i))) := fun W0 T σ W S Q k =>
  ha W0 T σ W S _ fun x W1 l1 ok1 => hb W0 T σ W1 (S.le l1) _ fun y W2 l2 ok2 => by
    cases ok1; cases ok2
    exact ⟨i, j, rfl, k _ W2 (l1.trans l2) (.int _)⟩
theorem e_intB (ha : EvS C Γ M ta (.dat (.bool b))) : EvS C Γ M (tCB rIntQ (tCons ta tNil)) (.dat (.int (if b then 1 else 0))) := e_cb1 ha fun W0 T σ W S x hx Q k => by
  cases hx
  exact .inr ⟨b, rfl, k _ W (Le.refl W) (.int _)⟩
theorem e_tupL (ha : EvS C Γ M ta (.dat (.list ds))) : EvS C Γ M (tCB (rTupQ C.K) (tCons ta tNil)) (.dat (.tuple ds)) := e_cb1 ha fun W0 T σ W S x hx Q k => by
  cases hx with
  | @lst a vs _ hs hall => exact ⟨a, vs, rfl, .inl ⟨SqL.of (W.fz _ _ hs), fun l hl => k _ (W.new l (.tup vs)) (Le.new hl) (.tup (SqT.of upd_same) (DaAll.mono (Same.add (Wo.gfree hl)) _ _ hall))⟩⟩
theorem e_listT (ha : EvS C Γ M ta (.dat (.tuple ds))) : EvS C Γ M (tCB (rListQ C.K) (tCons ta tNil)) (.dat (.list ds)) := e_cb1 ha fun W0 T σ W S x hx Q k => by
  cases hx with
  | @tup a vs _ hs hall => exact ⟨a, vs, rfl, .inr (Same.seqT W.fz hs), fun l hl => k _ (W.new l (.lst vs)) (Le.new hl) (.lst upd_same (DaAll.mono (Same.add (Wo.gfree hl)) _ _ hall))⟩
theorem das_pair {K : PySem.W.Frag} {G : Hp} : ∀ {ds : List PyData} {xs : List V}, DaAll K G xs ds → Paired (Da K G) xs ds
  | [], _, h => by cases h; exact .nil
  | d :: ds, _, h => by
    cases h with
    | cons a b => exact .cons a (das_pair b)
theorem pair_das {K : PySem.W.Frag} {G : Hp} : ∀ {ds : List PyData} {xs : List V}, Paired (Da K G) xs ds → DaAll K G xs ds
  | _, _, .nil => .nil
  | _, _, .cons a b => .cons a (pair_das b)
theorem e_sortedL (ha : EvS C Γ M ta (.dat (.list ds))) (hs : CanSort ds) : EvS C Γ M (tCB (rSortedD C.K) (tCons ta tNil)) (.dat (.list (srt ds))) := e_cb1 ha fun W0 T σ W S x hx Q k => by
  cases hx with
  | @lst a vs _ hx hall => exact ⟨a, vs, ds, Da C.K W.G, rfl, fun x d h => Dp.mono W.fz _ _ (Da.dp _ _ h), SqL.of (W.fz _ _ hx), das_pair hall, hs, fun ys p hy hp => k _ (W.new p (.lst ys)) (Le.new hp) (.lst upd_same (DaAll.mono (Same.add (Wo.gfree hp)) _ _ (pair_das hy)))⟩
theorem e_sortedO {i j : Nat} {l : Addr} (h : Γ[i]? = some (some (.loc l))) (hm : M[j]? = some (l, .lst ds)) (hs : CanSort ds) : EvS C Γ M (tCB (rSortedD C.K) (tCons (tVar i) tNil)) (.dat (.list (srt ds))) := e_cb1 (e_var h) fun W0 T σ W S x hx Q k => by
  have hx : x = .ref l := hx
  subst hx
  obtain ⟨_, _, xs, hH, hall⟩ := S.mu _ (List.mem_of_getElem? hm)
  exact ⟨l, xs, ds, Da C.K W.G, rfl, fun x d h => Dp.mono W.fz _ _ (Da.dp _ _ h), SqL.of hH, das_pair hall, hs, fun ys p hy hp => k _ (W.new p (.lst ys)) (Le.new hp) (.lst upd_same (DaAll.mono (Same.add (Wo.gfree hp)) _ _ (pair_das hy)))⟩

/-! joining -/
theorem e_cat (ha : EvS C Γ M ta (.dat (.list ds))) (hb : EvS C Γ M tb (.dat (.list es))) (hz : ds.length + es.length ≤ sizeLine) : EvS C Γ M (tOp rCat ta tb) (.dat (.list (ds ++ es))) :=
  e_op2 ha hb fun W0 T σ W S x y hx hy Q k => by
    cases hx with
    | @lst a vs _ hx hall =>
      cases hy with
      | @lst a' vs' _ hx' hall' => exact ⟨a, a', vs, vs', rfl, rfl, W.fz _ _ hx, W.fz _ _ hx', by rw [hall.length, hall'.length]; exact hz, fun p hp => k _ (W.new p (.lst (vs ++ vs'))) (Le.new hp) (.lst upd_same (DaAll.mono (Same.add (Wo.gfree hp)) _ _ (hall.append hall')))⟩
theorem e_rep {n : Int} (ha : EvS C Γ M ta (.dat (.list ds))) (hb : EvS C Γ M tb (.dat (.int n))) (h1 : -(2 ^ 63) ≤ n) (h2 : n < 2 ^ 63) (hz : ds.length * n.toNat ≤ sizeLine) : EvS C Γ M (tOp rRep ta tb) (.dat (.list (List.replicate n.toNat ds).flatten)) :=
  e_op2 ha hb fun W0 T σ W S x y hx hy Q k => by
    cases hy
    cases hx with
    | @lst a vs _ hx hall => exact ⟨a, n, vs, rfl, rfl, W.fz _ _ hx, h1, h2, by rw [hall.length]; exact hz, fun p hp => k _ (W.new p (.lst (List.replicate n.toNat vs).flatten)) (Le.new hp) (.lst upd_same (DaAll.mono (Same.add (Wo.gfree hp)) _ _ (hall.rep _)))⟩
theorem e_catT (ha : EvS C Γ M ta (.dat (.tuple ds))) (hb : EvS C Γ M tb (.dat (.tuple es))) (hz : ds.length + es.length ≤ 1000) : EvS C Γ M (tOp (rCatA C.K) ta tb) (.dat (.tuple (ds ++ es))) :=
  e_op2 ha hb fun W0 T σ W S x y hx hy Q k => by
    cases hx with
    | @tup a vs _ hx hall =>
      cases hy with
      | @tup a' vs' _ hx' hall' =>
        refine ⟨a, a', vs, vs', rfl, rfl, Same.seqT W.fz hx, Same.seqT W.fz hx', ?_, fun e => ?_, fun _ e => ?_, fun _ _ p hp => ?_⟩
        · rw [hall.length, hall'.length]; exact Nat.le_of_lt (small1000 hz)
        · subst e
          cases ds with
          | nil => exact k _ W (Le.refl W) (.tup hx' hall')
          | cons _ _ => cases hall
        · subst e
          cases es with
          | nil => rw [List.append_nil] at k; exact k _ W (Le.refl W) (.tup hx hall)
          | cons _ _ => cases hall'
        · exact k _ (W.new p (.tup (vs ++ vs'))) (Le.new hp) (.tup (SqT.of upd_same) (DaAll.mono (Same.add (Wo.gfree hp)) _ _ (hall.append hall')))
/-! slices -/
def EvO (C : Cn) (Γ : Ga) (M : Ms) (to : TO) (o : Option Int) : Prop := ∀ W0 T σ W, Sta C W0 T σ W Γ M → ∀ Q : Option Int → Hp → Prop, (∀ W', Le W W' → Q o W'.H) → to σ W.H Q
theorem o_none : EvO C Γ M tNoPart none := fun W0 T σ W S Q k => k W (Le.refl W)
theorem o_some {i : Int} (h : EvS C Γ M te (.dat (.int i))) : EvO C Γ M (tPart te) (some i) := fun W0 T σ W S Q k => h W0 T σ W S _ fun v W1 l1 ok => by
  cases ok
  exact ⟨i, rfl, k W1 l1⟩
theorem e_slL {tl th : TO} {lo hi : Option Int} (ha : EvS C Γ M ta (.dat (.list ds))) (h1 : EvO C Γ M tl lo) (h2 : EvO C Γ M th hi) : EvS C Γ M (tSl (rSlL C.K) ta tl th) (.dat (.list (cutP ds lo hi))) := fun W0 T σ W S Q k =>
  ha W0 T σ W S _ fun x W1 l1 ok1 => h1 W0 T σ W1 (S.le l1) _ fun W2 l2 => h2 W0 T σ W2 ((S.le l1).le l2) _ fun W3 l3 => by
    cases ok1 with
    | @lst a vs _ hx hall =>
      have g := l2.gg.trans l3.gg
      refine ⟨a, vs, rfl, SqL.of (W3.fz _ _ (g _ _ hx)), fun p hp => k _ (W3.new p (.lst (cutV vs lo hi))) (((l1.trans l2).trans l3).trans (Le.new hp)) (.lst upd_same ?_)⟩
      unfold cutV cutP
      rw [hall.length]
      exact ((DaAll.mono (g.trans (Same.add (Wo.gfree hp))) _ _ hall).drop _).take _
theorem e_slT {tl th : TO} {lo hi : Option Int} (ha : EvS C Γ M ta (.dat (.tuple ds))) (h1 : EvO C Γ M tl lo) (h2 : EvO C Γ M th hi) : EvS C Γ M (tSl (rSlA C.K) ta tl th) (.dat (.tuple (cutP ds lo hi))) := fun W0 T σ W S Q k =>
  ha W0 T σ W S _ fun x W1 l1 ok1 => h1 W0 T σ W1 (S.le l1) _ fun W2 l2 => h2 W0 T σ W2 ((S.le l1).le l2) _ fun W3 l3 => by
    cases ok1 with
    | @tup a vs _ hx hall =>
      have g := l2.gg.trans l3.gg
      refine ⟨a, vs, rfl, Same.seqT W3.fz (Same.seqT g hx), fun hw => ?_, fun _ p hp => k _ (W3.new p (.tup (cutV vs lo hi))) (((l1.trans l2).trans l3).trans (Le.new hp)) (.tup (SqT.of upd_same) ?_)⟩
      · rw [hall.length] at hw
        have e : cutP ds lo hi = ds := by unfold cutP; rw [hw.1, hw.2]; simp
        rw [e] at k
        exact k _ W3 ((l1.trans l2).trans l3) (.tup (Same.seqT g hx) (DaAll.mono g _ _ hall))
      · unfold cutV cutP
        rw [hall.length]
        exact ((DaAll.mono (g.trans (Same.add (Wo.gfree hp))) _ _ hall).drop _).take _

/-! texts of lines -/
theorem e_word {l : Line} {x : Str} (k : Kw) (h : EvS C Γ M te (.dat (encL l))) (hs : x = k.str) : EvS C Γ M (tOp (rEqD C.K) (tOp (rIx C.K) te (tC (.int 0))) (tC (.str x))) (.dat (.bool (decide (l.kw = k)))) := by
  subst hs
  have := e_eq (e_ixT0 h) (e_str (x := k.str)) (fl_str (Kw.ok l.kw) : Fl 40 _).flat (fl_str (Kw.ok k) : Fl 40 _).flat
  refine this.to ?_
  show Sv.dat (.bool (l.kw.str == k.str)) = _
  rw [← Kw.str_dec, Bool.beq_eq_decide_eq]
theorem e_wordN {l : Line} {x : Str} (k : Kw) (h : EvS C Γ M te (.dat (encL l))) (hs : x = k.str) : EvS C Γ M (tOp (rNeD C.K) (tOp (rIx C.K) te (tC (.int 0))) (tC (.str x))) (.dat (.bool (!decide (l.kw = k)))) := by
  subst hs
  have := e_ne (e_ixT0 h) (e_str (x := k.str)) (fl_str (Kw.ok l.kw) : Fl 40 _).flat (fl_str (Kw.ok k) : Fl 40 _).flat
  refine this.to ?_
  show Sv.dat (.bool (!(l.kw.str == k.str))) = _
  rw [← Kw.str_dec, Bool.beq_eq_decide_eq]
theorem e_wordV {a : Kw} {x : Str} (k : Kw) (h : EvS C Γ M te (.dat (.str a.str))) (hs : x = k.str) : EvS C Γ M (tOp (rEqD C.K) te (tC (.str x))) (.dat (.bool (decide (a = k)))) := by
  subst hs
  have := e_eq h (e_str (x := k.str)) (fl_str (Kw.ok a) : Fl 40 _).flat (fl_str (Kw.ok k) : Fl 40 _).flat
  refine this.to ?_
  show Sv.dat (.bool (a.str == k.str)) = _
  rw [← Kw.str_dec, Bool.beq_eq_decide_eq]
end
end Dr
/-! the program's text, what the top has left, callees -/
namespace Dr
open PySem PySem.Spec PyProof.Rows L2

def top (i : Nat) : Stmt := PySem.Challenge.pw_doneroom_k37_whole_needs_by_meets.main.body.getD i (.Pass ⟨0, 0, 0, 0⟩)
abbrev s_end_of : Stmt := top 6
abbrev s_or_of : Stmt := top 7
abbrev s_head_of : Stmt := top 8
abbrev s_gives : Stmt := top 11
abbrev s_reads : Stmt := top 12
abbrev s_boxes_in : Stmt := top 13
abbrev s_number_of : Stmt := top 15
abbrev s_all_lines : Stmt := top 16
abbrev s_boxes_of : Stmt := top 17
abbrev s_words_of : Stmt := top 18
abbrev s_places_of : Stmt := top 19
abbrev s_first_spot : Stmt := top 21
abbrev s_place_of : Stmt := top 22
abbrev s_line_of : Stmt := top 23
abbrev s_behind_part : Stmt := top 24
abbrev s_behind_end : Stmt := top 25
abbrev s_next_spots : Stmt := top 26
abbrev s_Growing_init : Stmt := inClass (top 28) 0
abbrev s_Growing_lay : Stmt := inClass (top 28) 1
abbrev s_Growing_follow : Stmt := inClass (top 28) 2
abbrev s_Growing_grow : Stmt := inClass (top 28) 3
abbrev s_Growing_reader : Stmt := inClass (top 28) 4
abbrev s_least : Stmt := top 29
abbrev s_spots : Stmt := top 31
abbrev s_numbers_of : Stmt := top 33
abbrev s_box_rules : Stmt := top 34
abbrev s_hold_rules : Stmt := top 35
abbrev s_holds : Stmt := top 36
abbrev s_at_seat : Stmt := top 38
abbrev s_stepped : Stmt := top 40
abbrev s_meets : Stmt := top 41
abbrev s_want_rules : Stmt := top 43
abbrev s_wants : Stmt := top 44
abbrev s_look_at : Stmt := top 46
abbrev s_meets_at : Stmt := top 47
abbrev s_is_done : Stmt := top 48
abbrev s_law_cell : Stmt := top 50
abbrev s_law_names : Stmt := top 51
abbrev s_law_line : Stmt := top 52
abbrev s_law_body : Stmt := top 53
abbrev s_law_chain : Stmt := top 54
abbrev s_law_program : Stmt := top 55
abbrev s_law_meet : Stmt := top 56
abbrev s_law_late : Stmt := top 57
abbrev s_law : Stmt := top 58

abbrev FnP (K : PySem.W.Frag) (x qual : Str) (st : Stmt) (f : Addr) (fd : FuncData) : Prop := FunD K x qual (defArgs st) (defBody st) (defScope st) [] [] f fd
/-- the built-ins still stand, the two tuples of texts -/
structure Txt (K : PySem.W.Frag) (mg : Str → Option Value) (aO aG : Addr) : Prop where
  len : mg "len" = none
  range : mg "range" = none
  sorted : mg "sorted" = none
  enumerate : mg "enumerate" = none
  reversed : mg "reversed" = none
  list : mg "list" = none
  tuple : mg "tuple" = none
  int : mg "int" = none
  max : mg "max" = none
  isinstance : mg "isinstance" = none
  bool : mg "bool" = none
  OPENING : mg "OPENING" = some (.ref aO)
  GIVING : mg "GIVING" = some (.ref aG)
  OP : ∀ H, SqT K H aO [.str "either", .str "again"]
  GI : ∀ H, SqT K H aG [.str "pair", .str "first", .str "second", .str "same", .str "none"]
/-- a callee -/
structure Cal (P : Program) (w : World) (K : PySem.W.Frag) (mg : Str → Option Value) (base : Heap) (n : Nat) (x : Str) (ps : List Str) (sp : Sp) (f : Addr) (fd : FuncData) : Prop where
  F : FnOk P w K mg base CX0 n f fd ps sp
  m : mg x = some (.ref f)
  k : PySem.W.keepIn K (.ref f) = true
  b : Binds K fd ps []
abbrev C0 (P : Program) (w : World) (K : PySem.W.Frag) : Cn := ⟨P, w, K, fun _ => False⟩
theorem _root_.L2.Room.units65 {k : Nat} {A : Around} (h : Room k A) : A.units + 65 < cLine := by
  have := h.un
  omega
theorem _root_.L2.Room.units1 {k : Nat} {A : Around} (h : Room k A) : A.units + 1 < cLine := by
  have := h.un
  omega
theorem data_tup {K : PySem.W.Frag} {G : Hp} {a : Addr} {xs : List Str} (h : SqT K G a (xs.map V.str)) : Da K G (.ref a) (.tuple (xs.map PyData.str)) := by
  refine .tup h ?_
  clear h
  induction xs with
  | nil => exact .nil
  | cons x xs ih => exact .cons (.str x) ih

end Dr
namespace Dr
open PySem PySem.Spec PyProof.Rows L2

/-! blocks -/
def Kw.opens : Kw → Bool
  | .either => true
  | .again => true
  | _ => false
theorem opens_in (k : Kw) : strIn k.str ["either", "again"] = k.opens := by cases k <;> decide +kernel
def scanEnd : List Line → Nat → Nat → Option Nat
  | [], _, _ => none
  | l :: r, a, d => if d = 0 ∧ l.kw = .end_ then some a else scanEnd r (a + 1) (if l.kw.opens then d + 1 else if l.kw = .end_ then d - 1 else d)
def scanOr : List Line → Nat → Nat → Option Nat
  | [], _, _ => none
  | l :: r, a, d => if d = 0 ∧ l.kw = .or_ then some a else if d = 0 ∧ l.kw = .end_ then none else scanOr r (a + 1) (if l.kw.opens then d + 1 else if l.kw = .end_ then d - 1 else d)
def scanHead : List Line → Nat → Option Nat
  | [], _ => none
  | l :: r, d => if d = 0 ∧ l.kw.opens = true then some r.length else scanHead r (if l.kw = .end_ then d + 1 else if l.kw.opens then d - 1 else d)
def endOf (ls : List Line) (k : Nat) : Option Nat := scanEnd (ls.drop (k + 1)) (k + 1) 0
def orOf (ls : List Line) (k : Nat) : Option Nat := scanOr (ls.drop (k + 1)) (k + 1) 0
def headOf (ls : List Line) (k : Nat) : Option Nat := scanHead (ls.take k).reverse 0
theorem scanEnd_at : ∀ {ls : List Line} {a d r : Nat} (_ : scanEnd ls a d = some r), ∃ l t, ls = l :: t
  | [], _, _, _, h => nomatch h
  | l :: t, _, _, _, _ => ⟨l, t, rfl⟩
theorem drop_cons {α : Type} {ls : List α} {a : Nat} {l : α} {t : List α} (h : ls.drop a = l :: t) : ls[a]? = some l ∧ ls.drop (a + 1) = t := by
  have h1 : (ls.drop a)[0]? = some l := by rw [h]; rfl
  rw [List.getElem?_drop] at h1
  refine ⟨by simpa using h1, ?_⟩
  have := congrArg (List.drop 1) h
  rw [List.drop_drop] at this
  rw [this]; rfl
section
variable {P : Program} {w : World} {K : PySem.W.Frag} {mg : Str → Option Value} {base : Heap} {f : Addr} {fd : FuncData} {aO aG : Addr}
abbrev ArgLK (a : List Line × Nat) : List Sv := [.dat (encLs a.1), .dat (.int (a.2 : Int))]
abbrev sp_end_of (P : Program) (w : World) (K : PySem.W.Frag) : Sp := SpF (C0 P w K) (α := (List Line × Nat) × Nat) (fun a => ArgLK a.1) (fun a => endOf a.1.1 a.1.2 = some a.2) (fun a => .dat (.int (a.2 : Int)))
abbrev sp_or_of (P : Program) (w : World) (K : PySem.W.Frag) : Sp := SpF (C0 P w K) (α := (List Line × Nat) × Nat) (fun a => ArgLK a.1) (fun a => orOf a.1.1 a.1.2 = some a.2) (fun a => .dat (.int (a.2 : Int)))
abbrev sp_head_of (P : Program) (w : World) (K : PySem.W.Frag) : Sp := SpF (C0 P w K) (α := (List Line × Nat) × Nat) (fun a => ArgLK a.1) (fun a => headOf a.1.1 a.1.2 = some a.2 ∧ a.1.2 ≤ a.1.1.length) (fun a => .dat (.int (a.2 : Int)))
theorem e_line {C : Cn} {Γ : Ga} {M : Ms} {ta tb : TE} {ls : List Line} {i : Nat} {l : Line} (ha : EvS C Γ M ta (.dat (encLs ls))) (hb : EvS C Γ M tb (.dat (.int (i : Int)))) (h : ls[i]? = some l) : EvS C Γ M (tOp (rIx C.K) ta tb) (.dat (encL l)) :=
  e_ixT ha hb (atI_nat (by rw [List.getElem?_map, h]; rfl))
/-- x not in (texts) -/
theorem e_notInT {C : Cn} {Γ : Ga} {M : Ms} {ta tb : TE} {x : Str} {xs : List Str} (ha : EvS C Γ M ta (.dat (.str x))) (hb : EvS C Γ M tb (.dat (.tuple (xs.map .str)))) : EvS C Γ M (tOp (rIn C.K true) ta tb) (.dat (.bool (!strIn x xs))) :=
  e_op2 ha hb fun W0 T σ W S u v hu hv Q k => by
    cases hu
    cases hv with
    | @tup a vs _ hs hall =>
      have key : ∀ (xs : List Str) (vs : List V), DaAll C.K W.G vs (xs.map .str) → vs.all flatV = true ∧ inV (.str x) vs = strIn x xs := by
        intro xs
        induction xs with
        | nil => intro vs h; cases h; exact ⟨rfl, rfl⟩
        | cons y ys ih =>
          intro vs h
          cases h with
          | cons h1 h2 =>
            cases h1
            obtain ⟨i1, i2⟩ := ih _ h2
            refine ⟨by rw [List.all_cons, i1]; rfl, ?_⟩
            unfold inV strIn at *
            rw [List.any_cons, List.any_cons, i2]
            have : eqV (.str y) (.str x) = decide (y = x) := by
              unfold eqV
              by_cases q : y = x
              · subst q; simp
              · simp [q]
            rw [this]
      obtain ⟨k1, k2⟩ := key xs vs hall
      refine ⟨a, vs, rfl, .inr (Same.seqT W.fz hs), rfl, k1, ?_⟩
      rw [if_pos rfl, k2]
      exact k _ W (Le.refl W) (.bl _)
theorem e_opens {C : Cn} {Γ : Ga} {M : Ms} {ta : TE} {l : Line} {a : Addr} (ho : ∀ H, SqT C.K H a [.str "either", .str "again"]) (ha : EvS C Γ M ta (.dat (encL l))) : EvS C Γ M (tOp (rIn C.K false) (tOp (rIx C.K) ta (tC (.int 0))) (tC (.ref a))) (.dat (.bool l.kw.opens)) := by
  have := e_inT (x := l.kw.str) (xs := ["either", "again"]) (e_ixT0 ha) (e_known (v := .ref a) fun G => data_tup (xs := ["either", "again"]) (ho G))
  rw [opens_in] at this
  exact this
theorem sc_end_of : FnScope ["lines", "k", "deep", "at"] ["lines", "k"] (defScope s_end_of) := ⟨rfl, rfl, rfl, by decide +kernel, rfl, by decide +kernel, by decide +kernel⟩
theorem ok_end_of (T : Txt K mg aO aG) (F : FnP K "end_of" "end_of" s_end_of f fd) : FnOk P w K mg base CX0 1 f fd ["lines", "k"] (sp_end_of P w K) := by
  have nd := sc_end_of.nd
  have m_OPENING := T.OPENING
  refine F.ok sc_end_of (fun vs H Q E h => SpF.len (n := 2) (fun _ => rfl) h) (fun cdv A outer s H vs Q E hr h => ⟨_, PSs.nox
    (pss_cons (ps_set (i := 2) nd rfl (Or.inl rfl) pe_int)
    (pss_cons (ps_set (i := 3) nd rfl (Or.inl rfl) (pe_op op_add (pv 1) pe_int))
    (pss_cons (ps_while PassesOwn.never (PW.pt (pw_or (pt_cmpR op_gt (pv 2) pe_int (nomark _)) (pw_or1 (pt_cmpR (op_neD hr.units) (pe_ix ix_seq (pe_ix ix_seq (pv 0) (pv 3) (fun _ _ => rfl)) pe_int (fun _ _ => rfl)) pe_str (nomark _))))) (pss_cons (ps_if (pt_cmpR op_in_seq (pe_ix ix_seq (pe_ix ix_seq (pv 0) (pv 3) (fun _ _ => rfl)) pe_int (fun _ _ => rfl)) (pe_glob (v := .ref aO) (by rfl) m_OPENING rfl) (by rfl)) (pss_one (ps_set (i := 2) nd rfl (Or.inl rfl) (pe_op op_add (pv 2) pe_int))) (pss_one (ps_if (pt_cmpR (op_eqD hr.units) (pe_ix ix_seq (pe_ix ix_seq (pv 0) (pv 3) (fun _ _ => rfl)) pe_int (fun _ _ => rfl)) pe_str (nomark _)) (pss_one (ps_set (i := 2) nd rfl (Or.inl rfl) (pe_op op_sub (pv 2) pe_int))) pss_nil)))
    (pss_one (ps_set (i := 3) nd rfl (Or.inl rfl) (pe_op op_add (pv 3) pe_int)))))
    (pss_one (ps_ret (pv 3)))))), ?_⟩)
  obtain ⟨W, ⟨⟨ls, k⟩, r⟩, rfl, ok, hp, hq⟩ := h
  have S := sta_start ["lines", "k", "deep", "at"] ok
  refine q_set S e_int fun σ W S => ?_
  refine q_set S (e_add (e_var rfl) e_int) fun σ W S => ?_
  refine q_while (C := C0 P w K) (fun a : Nat × Nat => [some (.dat (encLs ls)), some (.dat (.int (k : Int))), some (.dat (.int (a.2 : Int))), some (.dat (.int (a.1 : Int)))]) (fun _ => [])
    (fun a => scanEnd (ls.drop a.1) a.1 a.2 = some r) (fun a => ls.length - a.1) (k + 1, 0) S (fun σ W S => S) hp fun ⟨a, d⟩ hI => ?_
  obtain ⟨l, t, e⟩ := scanEnd_at hI
  obtain ⟨e1, e2⟩ := drop_cons e
  have hlt := (List.getElem?_eq_some_iff.mp e1).1
  dsimp only at hI ⊢
  rw [e] at hI
  unfold scanEnd at hI
  refine ⟨_, t_or (t_B (e_gt (e_var rfl) e_int)) fun _ => t_B (e_wordN .end_ (e_line (e_var rfl) (e_var rfl) e1) rfl), fun hb σ W S => ?_, fun hb σ W S => ?_⟩
  · have hn : ¬ (d = 0 ∧ l.kw = .end_) := fun ⟨h1, h2⟩ => by subst h1; rw [h2] at hb; simp at hb
    rw [if_neg hn] at hI
    refine q_if S (t_B (e_opens T.OP (e_line (e_var rfl) (e_var rfl) e1))) (fun ho W S => ?_) (fun ho W S => ?_)
    · rw [if_pos ho] at hI
      refine s_set S (e_add (e_var rfl) e_int) fun σ W S => ?_
      refine s_set S (e_add (e_var rfl) e_int) fun σ W S => ?_
      exact At.mk (a + 1, d + 1) ⟨by show scanEnd (ls.drop (a + 1)) _ _ = _; rw [e2]; exact hI, by show ls.length - (a + 1) < ls.length - a; omega⟩ S
    · rw [if_neg (by rw [ho]; decide)] at hI
      refine s_when S (t_B (e_word .end_ (e_line (e_var rfl) (e_var rfl) e1) rfl)) (fun hk W S => ?_) (fun hk W S => ?_)
      · have hk := of_decide_eq_true hk
        rw [if_pos hk] at hI
        have hd : 1 ≤ d := by
          rcases Nat.eq_zero_or_pos d with z | z
          · exact absurd ⟨z, hk⟩ hn
          · exact z
        refine s_set S (e_sub (e_var rfl) e_int) fun σ W S => ?_
        refine s_set S (e_add (e_var rfl) e_int) fun σ W S => ?_
        have ed : ((d : Nat) : Int) - 1 = ((d - 1 : Nat) : Int) := by omega
        rw [ed] at S
        exact At.mk (a + 1, d - 1) ⟨by show scanEnd (ls.drop (a + 1)) _ _ = _; rw [e2]; exact hI, by show ls.length - (a + 1) < ls.length - a; omega⟩ S
      · have hk := of_decide_eq_false hk
        rw [if_neg hk] at hI
        refine s_set S (e_add (e_var rfl) e_int) fun σ W S => ?_
        exact At.mk (a + 1, d) ⟨by show scanEnd (ls.drop (a + 1)) _ _ = _; rw [e2]; exact hI, by show ls.length - (a + 1) < ls.length - a; omega⟩ S
  · have hn : d = 0 ∧ l.kw = .end_ := by
      simp only [Bool.or_eq_false_iff, decide_eq_false_iff_not, Bool.not_eq_false', decide_eq_true_eq] at hb
      exact ⟨by omega, hb.2⟩
    rw [if_pos hn] at hI
    cases hI
    refine s_ret S (e_var rfl) fun v W' si ok => ?_
    exact hq v W' (si.lep fun _ h => h) ok
theorem scanOr_at : ∀ {ls : List Line} {a d r : Nat} (_ : scanOr ls a d = some r), ∃ l t, ls = l :: t
  | [], _, _, _, h => nomatch h
  | l :: t, _, _, _, _ => ⟨l, t, rfl⟩
theorem sc_or_of : FnScope ["lines", "k", "deep", "at"] ["lines", "k"] (defScope s_or_of) := ⟨rfl, rfl, rfl, by decide +kernel, rfl, by decide +kernel, by decide +kernel⟩
theorem ok_or_of (T : Txt K mg aO aG) (F : FnP K "or_of" "or_of" s_or_of f fd) : FnOk P w K mg base CX0 1 f fd ["lines", "k"] (sp_or_of P w K) := by
  have nd := sc_or_of.nd
  have m_OPENING := T.OPENING
  refine F.ok sc_or_of (fun vs H Q E h => SpF.len (n := 2) (fun _ => rfl) h) (fun cdv A outer s H vs Q E hr h => ⟨_, PSs.nox
    (pss_cons (ps_set (i := 2) nd rfl (Or.inl rfl) pe_int)
    (pss_cons (ps_set (i := 3) nd rfl (Or.inl rfl) (pe_op op_add (pv 1) pe_int))
    (pss_cons (ps_while PassesOwn.never (PW.pt (pw_or (pt_cmpR op_gt (pv 2) pe_int (nomark _)) (pw_or1 (pt_cmpR (op_neD hr.units) (pe_ix ix_seq (pe_ix ix_seq (pv 0) (pv 3) (fun _ _ => rfl)) pe_int (fun _ _ => rfl)) pe_str (nomark _))))) (pss_cons (ps_if (pt_cmpR op_in_seq (pe_ix ix_seq (pe_ix ix_seq (pv 0) (pv 3) (fun _ _ => rfl)) pe_int (fun _ _ => rfl)) (pe_glob (v := .ref aO) (by rfl) m_OPENING rfl) (by rfl)) (pss_one (ps_set (i := 2) nd rfl (Or.inl rfl) (pe_op op_add (pv 2) pe_int))) (pss_one (ps_if (pt_cmpR (op_eqD hr.units) (pe_ix ix_seq (pe_ix ix_seq (pv 0) (pv 3) (fun _ _ => rfl)) pe_int (fun _ _ => rfl)) pe_str (nomark _)) (pss_one (ps_set (i := 2) nd rfl (Or.inl rfl) (pe_op op_sub (pv 2) pe_int))) pss_nil)))
    (pss_one (ps_set (i := 3) nd rfl (Or.inl rfl) (pe_op op_add (pv 3) pe_int)))))
    (pss_one (ps_ret (pv 3)))))), ?_⟩)
  obtain ⟨W, ⟨⟨ls, k⟩, r⟩, rfl, ok, hp, hq⟩ := h
  have S := sta_start ["lines", "k", "deep", "at"] ok
  refine q_set S e_int fun σ W S => ?_
  refine q_set S (e_add (e_var rfl) e_int) fun σ W S => ?_
  refine q_while (C := C0 P w K) (fun a : Nat × Nat => [some (.dat (encLs ls)), some (.dat (.int (k : Int))), some (.dat (.int (a.2 : Int))), some (.dat (.int (a.1 : Int)))]) (fun _ => [])
    (fun a => scanOr (ls.drop a.1) a.1 a.2 = some r) (fun a => ls.length - a.1) (k + 1, 0) S (fun σ W S => S) hp fun ⟨a, d⟩ hI => ?_
  obtain ⟨l, t, e⟩ := scanOr_at hI
  obtain ⟨e1, e2⟩ := drop_cons e
  have hlt := (List.getElem?_eq_some_iff.mp e1).1
  dsimp only at hI ⊢
  rw [e] at hI
  unfold scanOr at hI
  refine ⟨_, t_or (t_B (e_gt (e_var rfl) e_int)) fun _ => t_B (e_wordN .or_ (e_line (e_var rfl) (e_var rfl) e1) rfl), fun hb σ W S => ?_, fun hb σ W S => ?_⟩
  · have hn0 : ¬ (d = 0 ∧ l.kw = .or_) := fun ⟨h1, h2⟩ => by subst h1; rw [h2] at hb; simp at hb
    rw [if_neg hn0] at hI
    have hn : ¬ (d = 0 ∧ l.kw = .end_) := fun z => by rw [if_pos z] at hI; cases hI
    rw [if_neg hn] at hI
    refine q_if S (t_B (e_opens T.OP (e_line (e_var rfl) (e_var rfl) e1))) (fun ho W S => ?_) (fun ho W S => ?_)
    · rw [if_pos ho] at hI
      refine s_set S (e_add (e_var rfl) e_int) fun σ W S => ?_
      refine s_set S (e_add (e_var rfl) e_int) fun σ W S => ?_
      exact At.mk (a + 1, d + 1) ⟨by show scanOr (ls.drop (a + 1)) _ _ = _; rw [e2]; exact hI, by show ls.length - (a + 1) < ls.length - a; omega⟩ S
    · rw [if_neg (by rw [ho]; decide)] at hI
      refine s_when S (t_B (e_word .end_ (e_line (e_var rfl) (e_var rfl) e1) rfl)) (fun hk W S => ?_) (fun hk W S => ?_)
      · have hk := of_decide_eq_true hk
        rw [if_pos hk] at hI
        have hd : 1 ≤ d := by
          rcases Nat.eq_zero_or_pos d with z | z
          · exact absurd ⟨z, hk⟩ hn
          · exact z
        refine s_set S (e_sub (e_var rfl) e_int) fun σ W S => ?_
        refine s_set S (e_add (e_var rfl) e_int) fun σ W S => ?_
        have ed : ((d : Nat) : Int) - 1 = ((d - 1 : Nat) : Int) := by omega
        rw [ed] at S
        exact At.mk (a + 1, d - 1) ⟨by show scanOr (ls.drop (a + 1)) _ _ = _; rw [e2]; exact hI, by show ls.length - (a + 1) < ls.length - a; omega⟩ S
      · have hk := of_decide_eq_false hk
        rw [if_neg hk] at hI
        refine s_set S (e_add (e_var rfl) e_int) fun σ W S => ?_
        exact At.mk (a + 1, d) ⟨by show scanOr (ls.drop (a + 1)) _ _ = _; rw [e2]; exact hI, by show ls.length - (a + 1) < ls.length - a; omega⟩ S
  · have hn : d = 0 ∧ l.kw = .or_ := by
      simp only [Bool.or_eq_false_iff, decide_eq_false_iff_not, Bool.not_eq_false', decide_eq_true_eq] at hb
      exact ⟨by omega, hb.2⟩
    rw [if_pos hn] at hI
    cases hI
    refine s_ret S (e_var rfl) fun v W' si ok => ?_
    exact hq v W' (si.lep fun _ h => h) ok
theorem take_rev {α : Type} {ls : List α} {a : Nat} {l : α} {t : List α} (h : (ls.take a).reverse = l :: t) (ha : a ≤ ls.length) : ∃ b, a = b + 1 ∧ ls[b]? = some l ∧ (ls.take b).reverse = t := by
  cases a with
  | zero => simp at h
  | succ b =>
    have hb : b < ls.length := ha
    rw [List.take_succ, List.getElem?_eq_getElem hb] at h
    simp only [Option.toList_some, List.reverse_append, List.reverse_cons, List.reverse_nil, List.nil_append, List.singleton_append, List.cons.injEq] at h
    exact ⟨b, rfl, by rw [List.getElem?_eq_getElem hb, h.1], h.2⟩
theorem scanHead_at : ∀ {ls : List Line} {d r : Nat} (_ : scanHead ls d = some r), ∃ l t, ls = l :: t
  | [], _, _, h => nomatch h
  | l :: t, _, _, _ => ⟨l, t, rfl⟩
theorem e_opensN {C : Cn} {Γ : Ga} {M : Ms} {ta : TE} {l : Line} {a : Addr} (ho : ∀ H, SqT C.K H a [.str "either", .str "again"]) (ha : EvS C Γ M ta (.dat (encL l))) : EvS C Γ M (tOp (rIn C.K true) (tOp (rIx C.K) ta (tC (.int 0))) (tC (.ref a))) (.dat (.bool (!l.kw.opens))) := by
  have := e_notInT (x := l.kw.str) (xs := ["either", "again"]) (e_ixT0 ha) (e_known (v := .ref a) fun G => data_tup (xs := ["either", "again"]) (ho G))
  rw [opens_in] at this
  exact this
theorem sc_head_of : FnScope ["lines", "k", "deep", "at"] ["lines", "k"] (defScope s_head_of) := ⟨rfl, rfl, rfl, by decide +kernel, rfl, by decide +kernel, by decide +kernel⟩
theorem ok_head_of (T : Txt K mg aO aG) (F : FnP K "head_of" "head_of" s_head_of f fd) : FnOk P w K mg base CX0 1 f fd ["lines", "k"] (sp_head_of P w K) := by
  have nd := sc_head_of.nd
  have m_OPENING := T.OPENING
  refine F.ok sc_head_of (fun vs H Q E h => SpF.len (n := 2) (fun _ => rfl) h) (fun cdv A outer s H vs Q E hr h => ⟨_, PSs.nox
    (pss_cons (ps_set (i := 2) nd rfl (Or.inl rfl) pe_int)
    (pss_cons (ps_set (i := 3) nd rfl (Or.inl rfl) (pe_op op_sub (pv 1) pe_int))
    (pss_cons (ps_while PassesOwn.never (PW.pt (pw_or (pt_cmpR op_gt (pv 2) pe_int (nomark _)) (pw_or1 (pt_cmpR op_notIn_seq (pe_ix ix_seq (pe_ix ix_seq (pv 0) (pv 3) (fun _ _ => rfl)) pe_int (fun _ _ => rfl)) (pe_glob (v := .ref aO) (by rfl) m_OPENING rfl) (by rfl))))) (pss_cons (ps_if (pt_cmpR (op_eqD hr.units) (pe_ix ix_seq (pe_ix ix_seq (pv 0) (pv 3) (fun _ _ => rfl)) pe_int (fun _ _ => rfl)) pe_str (nomark _)) (pss_one (ps_set (i := 2) nd rfl (Or.inl rfl) (pe_op op_add (pv 2) pe_int))) (pss_one (ps_if (pt_cmpR op_in_seq (pe_ix ix_seq (pe_ix ix_seq (pv 0) (pv 3) (fun _ _ => rfl)) pe_int (fun _ _ => rfl)) (pe_glob (v := .ref aO) (by rfl) m_OPENING rfl) (by rfl)) (pss_one (ps_set (i := 2) nd rfl (Or.inl rfl) (pe_op op_sub (pv 2) pe_int))) pss_nil)))
    (pss_one (ps_set (i := 3) nd rfl (Or.inl rfl) (pe_op op_sub (pv 3) pe_int)))))
    (pss_one (ps_ret (pv 3)))))), ?_⟩)
  obtain ⟨W, ⟨⟨ls, k⟩, r⟩, rfl, ok, hp, hq⟩ := h
  have S := sta_start ["lines", "k", "deep", "at"] ok
  obtain ⟨hp, hk⟩ := hp
  refine q_set S e_int fun σ W S => ?_
  refine q_set S (e_sub (e_var rfl) e_int) fun σ W S => ?_
  refine q_while (C := C0 P w K) (fun a : Nat × Nat => [some (.dat (encLs ls)), some (.dat (.int (k : Int))), some (.dat (.int (a.2 : Int))), some (.dat (.int ((a.1 : Int) - 1)))]) (fun _ => [])
    (fun a => scanHead (ls.take a.1).reverse a.2 = some r ∧ a.1 ≤ ls.length) (fun a => a.1) (k, 0) S (fun σ W S => S) ⟨hp, hk⟩ fun ⟨a, d⟩ hI => ?_
  obtain ⟨hI, ha⟩ := hI
  obtain ⟨l, t, e⟩ := scanHead_at hI
  obtain ⟨b, rfl, e1, e2⟩ := take_rev e ha
  dsimp only at hI ⊢
  rw [e] at hI
  unfold scanHead at hI
  have eb : (((b + 1 : Nat) : Int) - 1) = (b : Int) := by omega
  simp only [eb]
  have hx : t.length = b := by rw [← e2, List.length_reverse, List.length_take]; have : b + 1 ≤ ls.length := ha; omega
  refine ⟨_, t_or (t_B (e_gt (e_var rfl) e_int)) fun _ => t_B (e_opensN T.OP (e_line (e_var rfl) (e_var rfl) e1)), fun hb σ W S => ?_, fun hb σ W S => ?_⟩
  · have hn : ¬ (d = 0 ∧ l.kw.opens = true) := fun ⟨h1, h2⟩ => by subst h1; rw [h2] at hb; simp at hb
    rw [if_neg hn] at hI
    refine q_if S (t_B (e_word .end_ (e_line (e_var rfl) (e_var rfl) e1) rfl)) (fun ho W S => ?_) (fun ho W S => ?_)
    · rw [if_pos (of_decide_eq_true ho)] at hI
      refine s_set S (e_add (e_var rfl) e_int) fun σ W S => ?_
      refine s_set S (e_sub (e_var rfl) e_int) fun σ W S => ?_
      exact At.mk (b, d + 1) ⟨⟨by show scanHead (ls.take b).reverse _ = _; rw [e2]; exact hI, by show b ≤ _; have : b + 1 ≤ ls.length := ha; omega⟩, by show b < b + 1; omega⟩ S
    · rw [if_neg (of_decide_eq_false ho)] at hI
      refine s_when S (t_B (e_opens T.OP (e_line (e_var rfl) (e_var rfl) e1))) (fun hk W S => ?_) (fun hk W S => ?_)
      · rw [if_pos hk] at hI
        have hd : 1 ≤ d := by
          rcases Nat.eq_zero_or_pos d with z | z
          · exact absurd ⟨z, hk⟩ hn
          · exact z
        refine s_set S (e_sub (e_var rfl) e_int) fun σ W S => ?_
        refine s_set S (e_sub (e_var rfl) e_int) fun σ W S => ?_
        have ed : ((d : Nat) : Int) - 1 = ((d - 1 : Nat) : Int) := by omega
        rw [ed] at S
        exact At.mk (b, d - 1) ⟨⟨by show scanHead (ls.take b).reverse _ = _; rw [e2]; exact hI, by show b ≤ _; have : b + 1 ≤ ls.length := ha; omega⟩, by show b < b + 1; omega⟩ S
      · rw [if_neg (by rw [hk]; decide)] at hI
        refine s_set S (e_sub (e_var rfl) e_int) fun σ W S => ?_
        exact At.mk (b, d) ⟨⟨by show scanHead (ls.take b).reverse _ = _; rw [e2]; exact hI, by show b ≤ _; have : b + 1 ≤ ls.length := ha; omega⟩, by show b < b + 1; omega⟩ S
  · have hn : d = 0 ∧ l.kw.opens = true := by
      simp only [Bool.or_eq_false_iff, decide_eq_false_iff_not, Bool.not_eq_false'] at hb
      exact ⟨by omega, hb.2⟩
    rw [if_pos hn] at hI
    have er : r = b := (Option.some.inj hI).symm.trans hx
    refine s_ret S (e_var rfl) fun v W' si ok => ?_
    exact hq v W' (si.lep fun _ h => h) (by show SvOk _ _ _ (.dat (.int (r : Int))); rw [er]; exact ok)
end
end Dr
namespace Dr
open PySem PySem.Spec PyProof.Rows L2

/-! lines -/
def Kw.gives : Kw → Bool
  | .pair => true | .first => true | .second => true | .same => true | .none_ => true
  | _ => false
theorem gives_in (k : Kw) : strIn k.str ["pair", "first", "second", "same", "none"] = k.gives := by cases k <;> decide +kernel
def Line.gives : Line → Option Nm
  | .pair x _ _ _ => some x | .first x _ => some x | .second x _ => some x | .same x _ => some x | .none_ x => some x
  | _ => none
def Line.reads : Line → Option Nm
  | .first _ y => some y | .second _ y => some y | .tell y => some y
  | _ => none
def Line.boxes : Line → List Nm
  | .pair x _ y z => [x, y, z]
  | .first x y => [x, y] | .second x y => [x, y] | .same x y => [x, y] | .none_ x => [x] | .tell y => [y]
  | _ => []
section
variable {P : Program} {w : World} {K : PySem.W.Frag} {mg : Str → Option Value} {base : Heap} {f : Addr} {fd : FuncData} {aO aG : Addr} {C : Cn} {Γ : Ga} {M : Ms} {ta : TE}
abbrev sp_gives (P : Program) (w : World) (K : PySem.W.Frag) : Sp := SpF (C0 P w K) (α := Line) (fun a => [.dat (encL a)]) (fun _ => True) (fun a => .dat (encON a.gives))
abbrev sp_reads (P : Program) (w : World) (K : PySem.W.Frag) : Sp := SpF (C0 P w K) (α := Line) (fun a => [.dat (encL a)]) (fun _ => True) (fun a => .dat (encON a.reads))
abbrev sp_boxes_in (P : Program) (w : World) (K : PySem.W.Frag) : Sp := SpF (C0 P w K) (α := Line) (fun a => [.dat (encL a)]) (fun _ => True) (fun a => .dat (.list (a.boxes.map encN)))
theorem e_gives {l : Line} {a : Addr} (ho : ∀ H, SqT C.K H a [.str "pair", .str "first", .str "second", .str "same", .str "none"]) (ha : EvS C Γ M ta (.dat (encL l))) : EvS C Γ M (tOp (rIn C.K false) (tOp (rIx C.K) ta (tC (.int 0))) (tC (.ref a))) (.dat (.bool l.kw.gives)) := by
  have := e_inT (x := l.kw.str) (xs := ["pair", "first", "second", "same", "none"]) (e_ixT0 ha) (e_known (v := .ref a) fun G => data_tup (xs := ["pair", "first", "second", "same", "none"]) (ho G))
  rw [gives_in] at this
  exact this
/-- item j of a line: its name -/
theorem e_nm {l : Line} {j : Nat} {i : Int} {n : Nm} (hi : i = ((j + 1 : Nat) : Int)) (ha : EvS C Γ M ta (.dat (encL l))) (h : l.names[j]? = some n) : EvS C Γ M (tOp (rIx C.K) ta (tC (.int i))) (.dat (encN n)) := by
  subst hi
  exact e_ixT ha e_int (atI_nat (by rw [List.getElem?_cons_succ]; unfold Line.rest; rw [List.getElem?_map, h]; rfl))
theorem sc_gives : FnScope ["line"] ["line"] (defScope s_gives) := ⟨rfl, rfl, rfl, by decide +kernel, rfl, by decide +kernel, by decide +kernel⟩
theorem ok_gives (T : Txt K mg aO aG) (F : FnP K "gives" "gives" s_gives f fd) : FnOk P w K mg base CX0 1 f fd ["line"] (sp_gives P w K) := by
  have nd := sc_gives.nd
  have m_GIVING := T.GIVING
  refine F.ok sc_gives (fun vs H Q E h => SpF.len (n := 1) (fun _ => rfl) h) (fun cdv A outer s H vs Q E hr h => ⟨_, PSs.nox
    (pss_cons (ps_if (pt_cmpR op_in_seq (pe_ix ix_seq (pv 0) pe_int (fun _ _ => rfl)) (pe_glob (v := .ref aG) (by rfl) m_GIVING rfl) (by rfl)) (pss_one (ps_ret (pe_ix ix_seq (pv 0) pe_int (fun _ _ => rfl)))) pss_nil)
    (pss_one (ps_ret pe_non))), ?_⟩)
  obtain ⟨W, l, rfl, ok, hp, hq⟩ := h
  have S := sta_start ["line"] ok
  refine q_when S (t_B (e_gives T.GI (e_var rfl))) (fun h W S => ?_) (fun h W S => ?_)
  · obtain ⟨n, e1, e2⟩ : ∃ n, l.names[0]? = some n ∧ l.gives = some n := by cases l <;> first | exact ⟨_, rfl, rfl⟩ | (exfalso; simp [Line.kw, Kw.gives] at h; done)
    refine s_ret S (e_nm (j := 0) rfl (e_var rfl) e1) fun v W' si ok => hq v W' (si.lep fun _ h => h) ?_
    show SvOk _ _ _ (.dat (encON l.gives))
    rw [e2]
    exact ok
  · have e2 : l.gives = none := by cases l <;> first | rfl | (exfalso; simp [Line.kw, Kw.gives] at h; done)
    refine s_ret S e_non fun v W' si ok => hq v W' (si.lep fun _ h => h) ?_
    show SvOk _ _ _ (.dat (encON l.gives))
    rw [e2]
    exact ok
theorem sc_reads : FnScope ["line"] ["line"] (defScope s_reads) := ⟨rfl, rfl, rfl, by decide +kernel, rfl, by decide +kernel, by decide +kernel⟩
theorem ok_reads (T : Txt K mg aO aG) (F : FnP K "reads" "reads" s_reads f fd) : FnOk P w K mg base CX0 1 f fd ["line"] (sp_reads P w K) := by
  have nd := sc_reads.nd
  refine F.ok sc_reads (fun vs H Q E h => SpF.len (n := 1) (fun _ => rfl) h) (fun cdv A outer s H vs Q E hr h => ⟨_, PSs.nox
    (pss_cons (ps_if (PW.pt (pw_or (pt_cmpR (op_eqD hr.units) (pe_ix ix_seq (pv 0) pe_int (fun _ _ => rfl)) pe_str (nomark _)) (pw_or1 (pt_cmpR (op_eqD hr.units) (pe_ix ix_seq (pv 0) pe_int (fun _ _ => rfl)) pe_str (nomark _))))) (pss_one (ps_ret (pe_ix ix_seq (pv 0) pe_int (fun _ _ => rfl)))) pss_nil)
    (pss_cons (ps_if (pt_cmpR (op_eqD hr.units) (pe_ix ix_seq (pv 0) pe_int (fun _ _ => rfl)) pe_str (nomark _)) (pss_one (ps_ret (pe_ix ix_seq (pv 0) pe_int (fun _ _ => rfl)))) pss_nil)
    (pss_one (ps_ret pe_non)))), ?_⟩)
  obtain ⟨W, l, rfl, ok, hp, hq⟩ := h
  have S := sta_start ["line"] ok
  refine q_when S (t_or (t_B (e_word .first (e_var rfl) rfl)) fun _ => t_B (e_word .second (e_var rfl) rfl)) (fun h W S => ?_) (fun h W S => ?_)
  · obtain ⟨n, e1, e2⟩ : ∃ n, l.names[1]? = some n ∧ l.reads = some n := by cases l <;> first | exact ⟨_, rfl, rfl⟩ | (exfalso; simp [Line.kw, Kw.gives] at h; done)
    refine s_ret S (e_nm (j := 1) rfl (e_var rfl) e1) fun v W' si ok => hq v W' (si.lep fun _ h => h) ?_
    show SvOk _ _ _ (.dat (encON l.reads))
    rw [e2]
    exact ok
  · refine q_when S (t_B (e_word .tell (e_var rfl) rfl)) (fun h2 W S => ?_) (fun h2 W S => ?_)
    · obtain ⟨n, e1, e2⟩ : ∃ n, l.names[0]? = some n ∧ l.reads = some n := by cases l <;> first | exact ⟨_, rfl, rfl⟩ | (exfalso; simp [Line.kw, Kw.gives] at h2; done)
      refine s_ret S (e_nm (j := 0) rfl (e_var rfl) e1) fun v W' si ok => hq v W' (si.lep fun _ h => h) ?_
      show SvOk _ _ _ (.dat (encON l.reads))
      rw [e2]
      exact ok
    · have e2 : l.reads = none := by cases l <;> first | rfl | (exfalso; simp [Line.kw, Kw.gives] at h; done) | (exfalso; simp [Line.kw, Kw.gives] at h2; done)
      refine s_ret S e_non fun v W' si ok => hq v W' (si.lep fun _ h => h) ?_
      show SvOk _ _ _ (.dat (encON l.reads))
      rw [e2]
      exact ok
theorem cut1 (d : PyData) (ds : List PyData) : cutP (d :: ds) (some 1) none = ds := by
  unfold cutP
  rw [show HT.sIx (d :: ds).length 0 (some 1) = 1 from by
    rw [show (1 : Int) = ((1 : Nat) : Int) from rfl, HT.sIx_nat, List.length_cons]; omega]
  simp [HT.sIx_none]
theorem e_lst0 : EvS C Γ M (tLst tNil) (.dat (.list [])) := e_lst (ds := []) a_nil (Nat.zero_le _)
theorem sc_boxes_in : FnScope ["line"] ["line"] (defScope s_boxes_in) := ⟨rfl, rfl, rfl, by decide +kernel, rfl, by decide +kernel, by decide +kernel⟩
theorem ok_boxes_in (T : Txt K mg aO aG) (F : FnP K "boxes_in" "boxes_in" s_boxes_in f fd) : FnOk P w K mg base CX0 1 f fd ["line"] (sp_boxes_in P w K) := by
  have nd := sc_boxes_in.nd
  have m_GIVING := T.GIVING
  have tx := T
  refine F.ok sc_boxes_in (fun vs H Q E h => SpF.len (n := 1) (fun _ => rfl) h) (fun cdv A outer s H vs Q E hr h => ⟨_, PSs.nox
    (pss_cons (ps_if (pt_cmpR (op_eqD hr.units) (pe_ix ix_seq (pv 0) pe_int (fun _ _ => rfl)) pe_str (nomark _)) (pss_one (ps_ret (pe_lst (pa_cons (pe_ix ix_seq (pv 0) pe_int (fun _ _ => rfl)) (pa_cons (pe_ix ix_seq (pv 0) pe_int (fun _ _ => rfl)) (pa_cons (pe_ix ix_seq (pv 0) pe_int (fun _ _ => rfl)) pa_nil)))))) pss_nil)
    (pss_cons (ps_if (PW.pt (pw_or (pt_cmpR op_in_seq (pe_ix ix_seq (pv 0) pe_int (fun _ _ => rfl)) (pe_glob (v := .ref aG) (by rfl) m_GIVING rfl) (by rfl)) (pw_or1 (pt_cmpR (op_eqD hr.units) (pe_ix ix_seq (pv 0) pe_int (fun _ _ => rfl)) pe_str (nomark _))))) (pss_one (ps_ret (pe_callTy cr_list (by rfl) tx.list (by decide +kernel) (pa_cons (pe_slice sl_tupA (pv 0) (po_some pe_int) po_none) pa_nil)))) pss_nil)
    (pss_one (ps_ret (pe_lst pa_nil))))), ?_⟩)
  obtain ⟨W, l, rfl, ok, hp, hq⟩ := h
  have S := sta_start ["line"] ok
  refine q_when S (t_B (e_word .pair (e_var rfl) rfl)) (fun h W S => ?_) (fun h W S => ?_)
  · obtain ⟨x, y, z, e1, e3, e4, e2⟩ : ∃ x y z, l.names[0]? = some x ∧ l.names[2]? = some y ∧ l.names[3]? = some z ∧ l.boxes = [x, y, z] := by cases l <;> first | exact ⟨_, _, _, rfl, rfl, rfl, rfl⟩ | (exfalso; simp [Line.kw, Kw.gives] at h; done)
    refine s_ret S (e_lst (ds := [encN x, encN y, encN z]) (a_cons (e_nm (j := 0) rfl (e_var rfl) e1) (a_cons (e_nm (j := 2) rfl (e_var rfl) e3) (a_cons (e_nm (j := 3) rfl (e_var rfl) e4) a_nil))) (by show 3 ≤ 1000; decide)) fun v W' si ok => hq v W' (si.lep fun _ h => h) ?_
    show SvOk _ _ _ (.dat (.list (l.boxes.map encN)))
    rw [e2]
    exact ok
  · refine q_when S (t_or (t_B (e_gives T.GI (e_var rfl))) fun _ => t_B (e_word .tell (e_var rfl) rfl)) (fun h2 W S => ?_) (fun h2 W S => ?_)
    · have e2 : l.boxes = l.names := by cases l <;> first | rfl | (exfalso; simp [Line.kw, Kw.gives] at h; done) | (exfalso; simp [Line.kw, Kw.gives] at h2; done)
      refine s_ret S (e_listT (e_slT (e_var rfl) (o_some e_int) o_none)) fun v W' si ok => hq v W' (si.lep fun _ h => h) ?_
      show SvOk _ _ _ (.dat (.list (l.boxes.map encN)))
      rw [cut1] at ok
      rw [e2]
      exact ok
    · have e2 : l.boxes = [] := by cases l <;> first | rfl | (exfalso; simp [Line.kw, Kw.gives] at h; done) | (exfalso; simp [Line.kw, Kw.gives] at h2; done)
      refine s_ret S e_lst0 fun v W' si ok => hq v W' (si.lep fun _ h => h) ?_
      show SvOk _ _ _ (.dat (.list (l.boxes.map encN)))
      rw [e2]
      exact ok
end
end Dr
/-! results told by a relation; own dicts -/
namespace Dr
open PySem PySem.Spec PyProof.Rows L2
universe u
mutual
theorem Da.of {K : PySem.W.Frag} {H : Hp} : ∀ (d : PyData) (v : V), Dp K H v d → keyable d = true → Da K H v d
  | .none, _, h, _ => by cases h; exact .non
  | .bool _, _, h, _ => by cases h; exact .bl _
  | .int _, _, h, _ => by cases h; exact .int _
  | .str _, _, h, _ => by cases h; exact .str _
  | .tuple ds, _, h, k => by
    cases h with
    | tup hs ha =>
      unfold keyable at k
      exact .tup hs (DaAll.of ds _ ha k)
  | .list _, _, _, k => by unfold keyable at k; cases k
  | .dict _, _, _, k => by unfold keyable at k; cases k
theorem DaAll.of {K : PySem.W.Frag} {H : Hp} : ∀ (ds : List PyData) (vs : List V), DpAll K H vs ds → keyables ds = true → DaAll K H vs ds
  | [], _, h, _ => by cases h; exact .nil
  | d :: ds, _, h, k => by
    cases h with
    | cons h1 h2 =>
      unfold keyables at k
      obtain ⟨k1, k2⟩ := Bool.and_eq_true_iff.mp k
      exact .cons (Da.of d _ h1 k1) (DaAll.of ds _ h2 k2)
end
section
variable {C : Cn} {W0 W : Wo} {T : Kn} {σ : L2.St} {Γ : Ga} {M : Ms} {ta tb te tc td tk tv tx ty : TE} {s : Sv} {d e : PyData} {tt tu : TT} {b c : Bool} {D : Ends} {t1 t2 tz tbd : TS} {ds es : List PyData} {R : Sv → Prop}

def EvP (C : Cn) (Γ : Ga) (M : Ms) (te : TE) (R : Sv → Prop) : Prop := ∀ W0 T σ W, Sta C W0 T σ W Γ M → ∀ Q : VK, (∀ s v W', Le W W' → R s → SvOk C W'.G v s → Q v W'.H) → te σ W.H Q
theorem EvS.p (h : EvS C Γ M te s) : EvP C Γ M te (· = s) := fun W0 T σ W S Q k => h W0 T σ W S Q fun v W' l ok => k s v W' l rfl ok
theorem EvP.imp {R' : Sv → Prop} (h : EvP C Γ M te R) (f : ∀ s, R s → R' s) : EvP C Γ M te R' := fun W0 T σ W S Q k => h W0 T σ W S Q fun s v W' l r ok => k s v W' l (f s r) ok
/-- only one outcome -/
theorem EvP.one (h : EvP C Γ M te R) (f : ∀ x, R x → x = s) : EvS C Γ M te s := fun W0 T σ W S Q k => h W0 T σ W S Q fun x v W' l r ok => k v W' l (f x r ▸ ok)
/-- a def whose result a relation tells -/
def SpR (C : Cn) {α : Type} (args : α → List Sv) (pre : α → Prop) (res : α → Sv → Prop) : Sp := fun vs H Q _ => ∃ (W : Wo) (a : α), W.H = H ∧ Svs C W.G vs (args a) ∧ pre a ∧ ∀ s v W', Le W W' → res a s → SvOk C W'.G v s → Q v W'.H
theorem SpR.len {α : Type} {args : α → List Sv} {pre : α → Prop} {res : α → Sv → Prop} {n : Nat} (hn : ∀ a, (args a).length = n) {vs : List V} {H : Hp} {Q : VK} {E : XK} (h : SpR C args pre res vs H Q E) : vs.length = n := by
  obtain ⟨W, a, _, ok, _⟩ := h
  rw [ok.length, hn]
theorem p_call {α : Type} {args : α → List Sv} {pre : α → Prop} {res : α → Sv → Prop} {t : TA} {E : XK} (a : α) (h : EvA C Γ M t (args a)) (hp : pre a) : EvP C Γ M (tCall (SpR C args pre res) [] E t) (res a) := fun W0 T σ W S Q k =>
  h W0 T σ W S _ fun vs W1 l1 ok => by
    rw [List.append_nil]
    exact ⟨W1, a, rfl, ok, hp, fun s v W2 l2 r ok2 => k s v W2 (l1.trans l2) r ok2⟩
theorem svs_snoc {G : Hp} {dv : V} {sv : Sv} (hd : SvOk C G dv sv) : ∀ {vs : List V} {ss : List Sv}, Svs C G vs ss → Svs C G (vs ++ [dv]) (ss ++ [sv])
  | _, _, .nil => .cons hd .nil
  | _, _, .cons a b => .cons a (svs_snoc hd b)
theorem p_call1 {α : Type} {args : α → List Sv} {pre : α → Prop} {res : α → Sv → Prop} {t : TA} {E : XK} {ss : List Sv} {dv : V} {sv : Sv} (a : α) (h : EvA C Γ M t ss) (ha : args a = ss ++ [sv]) (hd : ∀ G, SvOk C G dv sv) (hp : pre a) : EvP C Γ M (tCall (SpR C args pre res) [dv] E t) (res a) := fun W0 T σ W S Q k =>
  h W0 T σ W S _ fun vs W1 l1 ok => by
    refine ⟨W1, a, rfl, ?_, hp, fun s v W2 l2 r ok2 => k s v W2 (l1.trans l2) r ok2⟩
    rw [ha]
    exact svs_snoc (hd _) ok
/-- f(g(..)) with g told by a relation -/
theorem p_callP {α : Type} {args : α → List Sv} {pre : α → Prop} {res : α → Sv → Prop} {E : XK} {R' : Sv → Prop} (h : EvP C Γ M ta R) (hr : ∀ s, R s → ∃ a, args a = [s] ∧ pre a ∧ ∀ s', res a s' → R' s') : EvP C Γ M (tCall (SpR C args pre res) [] E (tCons ta tNil)) R' := fun W0 T σ W S Q k =>
  h W0 T σ W S _ fun s v W1 l1 r ok => by
    obtain ⟨a, e, hp, hs⟩ := hr s r
    refine ⟨W1, a, rfl, ?_, hp, fun s v W2 l2 r ok2 => k s v W2 (l1.trans l2) (hs s r) ok2⟩
    rw [e]
    exact .cons ok .nil
theorem s_setP {i : Nat} (S : Sta C W0 T σ W Γ M) (h : EvP C Γ M te R) (k : ∀ s, R s → ∀ σ' W', Sta C W0 T σ' W' (Γ.set i (some s)) M → D.nx σ' W'.H) : tAsg te (gName i) D σ W.H :=
  h W0 T σ W S _ fun s v W1 l1 r ok => k s r _ W1 ((S.le l1).set i ok)
theorem q_setP {i : Nat} (S : Sta C W0 T σ W Γ M) (h : EvP C Γ M te R) (k : ∀ s, R s → ∀ σ' W', Sta C W0 T σ' W' (Γ.set i (some s)) M → tz D σ' W'.H) : tSeq (tAsg te (gName i)) tz D σ W.H := s_setP (D := { D with nx := tz D }) S h k
theorem s_retP (S : Sta C W0 T σ W Γ M) (h : EvP C Γ M te R) (k : ∀ s v W', R s → Since C W0 W' → SvOk C W'.G v s → D.rt v W'.H) : tRet te D σ W.H := h W0 T σ W S _ fun s v W1 l1 r ok => k s v W1 r (S.since.le l1) ok
/-- a thing at hand, evaluated -/
def EvAt (C : Cn) (σ : L2.St) (W : Wo) (te : TE) (s : Sv) : Prop := ∀ Q : VK, (∀ v W', Le W W' → SvOk C W'.G v s → Q v W'.H) → te σ W.H Q
theorem EvS.at (h : EvS C Γ M te s) (S : Sta C W0 T σ W Γ M) : EvAt C σ W te s := fun Q k => h W0 T σ W S Q k
theorem EvAt.known {v : V} (h : SvOk C W.G v s) : EvAt C σ W (tC v) s := fun Q k => k v W (Le.refl W) h
section
variable {α : Type u} {β : Type} (enc : β → PyData) {xs : List β} {f : β → Ga → Ga} {g : TG} (Gm : α → Ga) (Mm : α → Ms) (I : Nat → α → Prop) (a0 : α)
theorem s_forLA (S : Sta C W0 T σ W Γ M) (h : EvAt C σ W te (.dat (.list (xs.map enc))))
    (h0 : ∀ σ W, Sta C W0 T σ W Γ M → Sta C W0 T σ W (Gm a0) (Mm a0)) (i0 : I 0 a0) (hg : ∀ x, GAs C g (.dat (enc x)) (f x))
    (hs : ∀ i a x T' σ W, xs[i]? = some x → I i a → Sta C W0 T' σ W (f x (Gm a)) (Mm a) → tbd (EndsAt D (At C W0 T' Gm Mm (I (i + 1)))) σ W.H)
    (hd : ∀ a σ W, I xs.length a → Sta C W0 T σ W (Gm a) (Mm a) → D.nx σ W.H) : tFor (iList C.K te) g tbd D σ W.H := by
  refine h _ fun v W1 l1 ok => ?_
  cases ok with
  | @lst a vs _ hx hall =>
    have S1 := h0 _ _ (S.le l1)
    refine ⟨a, rfl, ⟨vs, SqL.of (W1.fz _ _ hx)⟩, ?_⟩
    have S1' := S1.know (v := .ref a) (s := .dat (.list (xs.map enc))) (.lst hx hall)
    have see : ∀ {a' : α} {σ' : L2.St} {W' : Wo}, Sta C W0 ((.ref a, .dat (.list (xs.map enc))) :: T) σ' W' (Gm a') (Mm a') → ∃ vs, SqL C.K W'.H a vs ∧ DaAll C.K W'.G vs (xs.map enc) ∧ vs.length = xs.length := fun {a' σ' W'} S' => by
      have hk : Da C.K W'.G (.ref a) (.list (xs.map enc)) := S'.kn _ List.mem_cons_self
      cases hk with
      | @lst _ vs _ hx hall => exact ⟨vs, SqL.of (W'.fz _ _ hx), hall, by rw [hall.length, List.length_map]⟩
    refine for_seen (H1 := W1.H) (P := fun _ => True) Gm Mm I a0 ((.ref a, .dat (.list (xs.map enc))) :: T) xs.length S1' i0 (fun i a' σ' W' _ S' => ?_) (fun i a' x σ' W' H' hlt hI S' y => ?_) (fun a' σ' W' hI S' => hd a' σ' W' hI S'.unknow)
    · obtain ⟨vs, hx, hall, hl⟩ := see S'
      exact ⟨fun e => ⟨vs, hx, by omega⟩, fun e => ⟨vs, vs[i]'(by omega), hx, by simp [hl, e]⟩⟩
    · obtain ⟨vs, hx, hall, hl⟩ := see S'
      obtain ⟨e, y⟩ := y
      subst e
      obtain ⟨bb, hb, hxb⟩ := enc_at enc hall (y vs hx)
      exact hg bb W0 _ σ' W' _ _ x _ S' hxb fun σ2 S2 => hs i a' bb _ σ2 W' hb hI S2
end
/-- for g in a list of data told by a relation -/
theorem s_forLP {g : TG} (S : Sta C W0 T σ W Γ M) (h : EvP C Γ M te R)
    (k : ∀ s, R s → ∀ W, Sta C W0 T σ W Γ M → ∀ v, SvOk C W.G v s → tFor (iList C.K (tC v)) g tbd D σ W.H) : tFor (iList C.K te) g tbd D σ W.H :=
  h W0 T σ W S _ fun s v W1 l1 r ok => k s r W1 (S.le l1) v ok
theorem q_forLP {g : TG} (S : Sta C W0 T σ W Γ M) (h : EvP C Γ M te R)
    (k : ∀ s, R s → ∀ W, Sta C W0 T σ W Γ M → ∀ v, SvOk C W.G v s → tSeq (tFor (iList C.K (tC v)) g tbd) tz D σ W.H) : tSeq (tFor (iList C.K te) g tbd) tz D σ W.H :=
  h W0 T σ W S _ fun s v W1 l1 r ok => k s r W1 (S.le l1) v ok

/-! ### own dicts -/
section
variable {κ : Type} [DecidableEq κ] {E : Enc κ} {kvs : List (κ × Sv)} {ob : Option Obj} {l : Addr} {j i : Nat} {k : κ}
theorem pd_keys {G : Hp} : ∀ {kvs : List (κ × Sv)} {vs : List (κ × V)}, Pd (fun (p : κ × Sv) (q : κ × V) => p.1 = q.1 ∧ SvOk C G q.2 p.2) kvs vs → kvs.map (·.1) = vs.map (·.1)
  | _, _, .nil => rfl
  | _, _, .cons h t => by rw [List.map_cons, List.map_cons, h.1, pd_keys t]
theorem val_some {vs : List (κ × V)} : (valV vs k).isSome = decide (k ∈ vs.map (·.1)) := by
  induction vs with
  | nil => rfl
  | cons p ps ih =>
    by_cases e : p.1 = k
    · rw [valV_pos e]; subst e; simp
    · rw [valV_neg e, ih]
      have : ¬ k = p.1 := fun z => e z.symm
      simp [this]
theorem pd_val {G : Hp} : ∀ {kvs : List (κ × Sv)} {vs : List (κ × V)} {s : Sv}, Pd (fun (p : κ × Sv) (q : κ × V) => p.1 = q.1 ∧ SvOk C G q.2 p.2) kvs vs → kvs.lookup k = some s → ∃ v, valV vs k = some v ∧ SvOk C G v s
  | _, _, _, .nil, h => nomatch h
  | p :: ps, q :: qs, s, .cons h t, e => by
    by_cases z : q.1 = k
    · rw [valV_pos z]
      have : (p :: ps).lookup k = some p.2 := by
        rw [List.lookup_cons]
        have : (k == p.1) = true := by rw [h.1, z]; exact beq_self_eq_true k
        rw [this]
      rw [this] at e
      cases e
      exact ⟨q.2, rfl, h.2⟩
    · rw [valV_neg z]
      have : (p :: ps).lookup k = ps.lookup k := by
        rw [List.lookup_cons]
        have : (k == p.1) = false := beq_eq_false_iff_ne.mpr fun y => z (by rw [← h.1, ← y])
        rw [this]
      rw [this] at e
      exact pd_val t e
theorem pd_none {G : Hp} {kvs : List (κ × Sv)} {vs : List (κ × V)} (h : Pd (fun (p : κ × Sv) (q : κ × V) => p.1 = q.1 ∧ SvOk C G q.2 p.2) kvs vs) (e : k ∉ kvs.map (·.1)) : valV vs k = none := by
  have := val_some (vs := vs) (k := k)
  rw [← pd_keys h, decide_eq_false e] at this
  exact Option.not_isSome_iff_eq_none.mp (by rw [this]; decide)
theorem Pd.length {α β : Type} {R : α → β → Prop} : ∀ {as : List α} {bs : List β}, Pd R as bs → as.length = bs.length
  | _, _, .nil => rfl
  | _, _, .cons _ t => by rw [List.length_cons, List.length_cons, Pd.length t]
theorem pd_len {G : Hp} {kvs : List (κ × Sv)} {vs : List (κ × V)} (h : Pd (fun (p : κ × Sv) (q : κ × V) => p.1 = q.1 ∧ SvOk C G q.2 p.2) kvs vs) : kvs.length = vs.length := by
  have := congrArg List.length (pd_keys h)
  simpa using this
theorem pd_snoc {G : Hp} {v : V} {s : Sv} (hv : SvOk C G v s) : ∀ {kvs : List (κ × Sv)} {vs : List (κ × V)}, Pd (fun (p : κ × Sv) (q : κ × V) => p.1 = q.1 ∧ SvOk C G q.2 p.2) kvs vs → Pd (fun (p : κ × Sv) (q : κ × V) => p.1 = q.1 ∧ SvOk C G q.2 p.2) (kvs ++ [(k, s)]) (vs ++ [(k, v)])
  | _, _, .nil => .cons ⟨rfl, hv⟩ .nil
  | _, _, .cons h t => .cons h (pd_snoc hv t)
theorem putK_new {vs : List (κ × V)} {v : V} (h : valV vs k = none) : putK vs k v = vs ++ [(k, v)] := by
  unfold putK
  rw [valV_any, h]
  rfl
/-- k in d, an own dict -/
theorem e_inN (hk : EvS C Γ M tk (.dat (E.d k))) (hd : EvS C Γ M td (.loc l)) (hm : M[j]? = some (l, .dct κ E kvs ob)) : EvS C Γ M (tOp (rInN E C.P C.w C.K) tk td) (.dat (.bool (decide (k ∈ kvs.map (·.1))))) :=
  e_op2 hk hd fun W0 T σ W S x y hx hy Q q => by
    have hy : y = .ref l := hy
    subst hy
    obtain ⟨_, _, vs, h1, h2, _⟩ := S.mu _ (List.mem_of_getElem? hm)
    refine ⟨l, k, vs, W.G, rfl, W.fz, Da.dp _ _ hx, h1, ?_⟩
    rw [val_some, ← pd_keys h2]
    exact q _ W (Le.refl W) (.bl _)
theorem e_notInN (hk : EvS C Γ M tk (.dat (E.d k))) (hd : EvS C Γ M td (.loc l)) (hm : M[j]? = some (l, .dct κ E kvs ob)) : EvS C Γ M (tOp (rNotInN E C.P C.w C.K) tk td) (.dat (.bool (!decide (k ∈ kvs.map (·.1))))) :=
  e_op2 hk hd fun W0 T σ W S x y hx hy Q q => by
    have hy : y = .ref l := hy
    subst hy
    obtain ⟨_, _, vs, h1, h2, _⟩ := S.mu _ (List.mem_of_getElem? hm)
    refine ⟨l, k, vs, W.G, rfl, W.fz, Da.dp _ _ hx, h1, ?_⟩
    rw [val_some, ← pd_keys h2]
    exact q _ W (Le.refl W) (.bl _)
/-- d[k], an own dict -/
theorem e_atN (hd : EvS C Γ M td (.loc l)) (hk : EvS C Γ M tk (.dat (E.d k))) (hm : M[j]? = some (l, .dct κ E kvs ob)) (h : kvs.lookup k = some s) : EvS C Γ M (tOp (rIxN E C.P C.w C.K) td tk) s :=
  e_op2 hd hk fun W0 T σ W S x y hx hy Q q => by
    have hx : x = .ref l := hx
    subst hx
    obtain ⟨_, _, vs, h1, h2, _⟩ := S.mu _ (List.mem_of_getElem? hm)
    obtain ⟨v, e1, e2⟩ := pd_val h2 h
    exact ⟨l, k, vs, v, W.G, rfl, W.fz, Da.dp _ _ hy, h1, e1, q v W (Le.refl W) e2⟩
theorem paired_val {G : Hp} {K : PySem.W.Frag} : ∀ {kvs : List (κ × PyData)} {vs : List (κ × V)} {d : PyData}, Paired (fun (p : κ × PyData) (q : κ × V) => p.1 = q.1 ∧ Da K G q.2 p.2) kvs vs → kvs.lookup k = some d → ∃ v, valV vs k = some v ∧ Da K G v d
  | _, _, _, .nil, h => nomatch h
  | p :: ps, q :: qs, s, .cons h t, e => by
    by_cases z : q.1 = k
    · rw [valV_pos z]
      have : (p :: ps).lookup k = some p.2 := by
        rw [List.lookup_cons]
        have : (k == p.1) = true := by rw [h.1, z]; exact beq_self_eq_true k
        rw [this]
      rw [this] at e
      cases e
      exact ⟨q.2, rfl, h.2⟩
    · rw [valV_neg z]
      have : (p :: ps).lookup k = ps.lookup k := by
        rw [List.lookup_cons]
        have : (k == p.1) = false := beq_eq_false_iff_ne.mpr fun y => z (by rw [← h.1, ← y])
        rw [this]
      rw [this] at e
      exact paired_val t e
/-- d[k], a frozen dict -/
theorem e_atF {kds : List (κ × PyData)} (hd : EvS C Γ M td (.dic κ E kds)) (hk : EvS C Γ M tk (.dat (E.d k))) (h : kds.lookup k = some d) : EvS C Γ M (tOp (rIxN E C.P C.w C.K) td tk) (.dat d) :=
  e_op2 hd hk fun W0 T σ W S x y hx hy Q q => by
    obtain ⟨a, vs, rfl, h1, h2⟩ := hx
    obtain ⟨v, e1, e2⟩ := paired_val h2 h
    exact ⟨a, k, vs, v, W.G, rfl, W.fz, Da.dp _ _ hy, h1.same W.fz (Same.refl _), e1, q v W (Le.refl W) e2⟩
/-- x = {} -/
theorem s_newD (E : Enc κ) {i : Nat} (S : Sta C W0 T σ W Γ M) (q : ∀ l σ' W', Sta C W0 T σ' W' (Γ.set i (some (.loc l))) ((l, .dct κ E [] none) :: M) → D.nx σ' W'.H) : tAsg tNewN (gName i) D σ W.H := fun p hp hs => by
  have S' := S.own (o := dX p dEmpty) (m := .dct κ E [] none) hp ⟨[], DAt.nil hs upd_same, .nil, fun _ z => nomatch z⟩
  exact q p _ _ (S'.set i (s := .loc p) rfl)
theorem q_newD (E : Enc κ) {i : Nat} (S : Sta C W0 T σ W Γ M) (q : ∀ l σ' W', Sta C W0 T σ' W' (Γ.set i (some (.loc l))) ((l, .dct κ E [] none) :: M) → tz D σ' W'.H) : tSeq (tAsg tNewN (gName i)) tz D σ W.H := s_newD (D := { D with nx := tz D }) E S q
/-- d[k] = data or an own place, k new -/
theorem s_putN (S : Sta C W0 T σ W Γ M) (hv : EvS C Γ M tv s) (hd : EvS C Γ M td (.loc l)) (hk : EvS C Γ M tk (.dat (E.d k))) (hm : M[j]? = some (l, .dct κ E kvs ob)) (hn : k ∉ kvs.map (·.1)) (hz : kvs.length < sizeLine)
    (q : ∀ W', Sta C W0 T σ W' Γ (M.set j (l, .dct κ E (kvs ++ [(k, s)]) none)) → D.nx σ W'.H) : tAsg tv (gSub td tk (rSetN E C.P C.w C.K)) D σ W.H :=
  hv W0 T σ W S _ fun v W1 l1 ok1 => hd W0 T σ W1 (S.le l1) _ fun x W2 l2 hx => hk W0 T σ W2 ((S.le l1).le l2) _ fun y W3 l3 hy => by
    have hx : x = .ref l := hx
    subst hx
    have S3 := ((S.le l1).le l2).le l3
    obtain ⟨g, _, vs, h1, h2, _⟩ := S3.mu _ (List.mem_of_getElem? hm)
    have hvn := pd_none h2 hn
    refine ⟨l, k, vs, W3.G, rfl, W3.fz, Da.dp _ _ hy, h1, by rw [← pd_len h2]; exact hz, fun o ho => ?_⟩
    rw [putK_new hvn] at ho
    exact q (W3.put l (dX l o) g) (S3.change hm g ⟨_, ho, pd_snoc (ok1.mono (l2.gg.trans l3.gg)) h2, fun _ z => nomatch z⟩)
theorem q_putN (S : Sta C W0 T σ W Γ M) (hv : EvS C Γ M tv s) (hd : EvS C Γ M td (.loc l)) (hk : EvS C Γ M tk (.dat (E.d k))) (hm : M[j]? = some (l, .dct κ E kvs ob)) (hn : k ∉ kvs.map (·.1)) (hz : kvs.length < sizeLine)
    (q : ∀ W', Sta C W0 T σ W' Γ (M.set j (l, .dct κ E (kvs ++ [(k, s)]) none)) → tz D σ W'.H) : tSeq (tAsg tv (gSub td tk (rSetN E C.P C.w C.K))) tz D σ W.H := s_putN (D := { D with nx := tz D }) S hv hd hk hm hn hz q
/-- an own place is seen by nobody but through its slot: what is put into M anew -/
theorem get_set_other {M : Ms} {j i : Nat} {m : Addr × Mo} (h : i ≠ j) : (M.set j m)[i]? = M[i]? := List.getElem?_set_ne (Ne.symm h)

/-! for k in d -/
theorem keys_at {G : Hp} {K : PySem.W.Frag} {ys : List V} {ks : List κ} (h : KeysAt E K G ys ks) : ∀ {i : Nat} {x : V}, ys[i]? = some x → ∃ k, ks[i]? = some k ∧ Da K G x (E.d k) := by
  induction h with
  | nil => intro i x e; simp at e
  | cons a b ih =>
    intro i x e
    cases i with
    | zero => simp at e; subst e; exact ⟨_, rfl, Da.of _ _ a (E.ok _)⟩
    | succ i => exact ih (i := i) (by simpa using e)
end
end
end Dr
/-! loops over dicts, dicts of texts -/
namespace Dr
open PySem PySem.Spec PyProof.Rows L2
universe u
section
variable {C : Cn} {W0 W : Wo} {T : Kn} {σ : L2.St} {Γ : Ga} {M : Ms} {ta tb te tc td tk tv tx ty : TE} {s : Sv} {d e : PyData} {tt tu : TT} {b c : Bool} {D : Ends} {t1 t2 tz tbd : TS} {ds es : List PyData} {R : Sv → Prop}
theorem Sta.unk {T' : Kn} (S : Sta C W0 T' σ W Γ M) (h : ∀ p ∈ T, p ∈ T') : Sta C W0 T σ W Γ M := ⟨S.since, fun q hq => S.kn q (h q hq), S.len, S.sl, S.mu, S.nd⟩
theorem Sta.knows (S : Sta C W0 T σ W Γ M) {T' : Kn} (h : ∀ p ∈ T', SvOk C W.G p.1 p.2) : Sta C W0 (T' ++ T) σ W Γ M :=
  ⟨S.since, fun p hp => (List.mem_append.mp hp).elim (h p) (S.kn p), S.len, S.sl, S.mu, S.nd⟩
theorem paired_keys {κ α β : Type} {R : α → β → Prop} : ∀ {xs : List (κ × α)} {ys : List (κ × β)}, Paired (fun (p : κ × α) (q : κ × β) => p.1 = q.1 ∧ R p.2 q.2) xs ys → xs.map (·.1) = ys.map (·.1)
  | _, _, .nil => rfl
  | _, _, .cons a b => by rw [List.map_cons, List.map_cons, a.1, paired_keys b]
theorem pd_keys0 {κ : Type} {G : Hp} : ∀ {kvs : List (κ × Sv)} {vs : List (κ × V)}, Pd (fun (p : κ × Sv) (q : κ × V) => p.1 = q.1 ∧ SvOk C G q.2 p.2) kvs vs → kvs.map (·.1) = vs.map (·.1)
  | _, _, .nil => rfl
  | _, _, .cons h t => by rw [List.map_cons, List.map_cons, h.1, pd_keys0 t]
theorem das_strs {K : PySem.W.Frag} {G : Hp} : ∀ ys : List Str, DaAll K G (ys.map V.str) (ys.map PyData.str)
  | [] => .nil
  | y :: ys => .cons (.str y) (das_strs ys)
section
variable {κ : Type} {E : Enc κ} {α : Type u} {f : κ → Ga → Ga} {g : TG} {l : Addr} {j : Nat} {kvs : List (κ × Sv)} {ob : Option Obj} (Gm : α → Ga) (I : Nat → α → Prop) (a0 : α)
def keyKn (E : Enc κ) (ys : List V) (ks : List κ) : Kn := (ys.zip ks).map fun p => (p.1, .dat (E.d p.2))
theorem keyKn_ok {G : Hp} {ys : List V} {ks : List κ} (h : KeysAt E C.K G ys ks) : ∀ p ∈ keyKn E ys ks, SvOk C G p.1 p.2 := by
  induction h with
  | nil => intro p hp; exact nomatch hp
  | cons a b ih =>
    intro p hp
    rcases List.mem_cons.mp (show p ∈ (_, _) :: keyKn E _ _ from hp) with e | hp
    · subst e; exact Da.of _ _ a (E.ok _)
    · exact ih p hp
theorem keyKn_at {G : Hp} {K : PySem.W.Frag} {ys : List V} {ks : List κ} (h : KeysAt E K G ys ks) : ∀ {i : Nat} {x : V}, ys[i]? = some x → ∃ k, ks[i]? = some k ∧ (x, Sv.dat (E.d k)) ∈ keyKn E ys ks := by
  induction h with
  | nil => intro i x e; simp at e
  | cons a b ih =>
    intro i x e
    cases i with
    | zero => simp at e; subst e; exact ⟨_, rfl, List.mem_cons_self⟩
    | succ i => obtain ⟨k, h1, h2⟩ := ih (i := i) (by simpa using e); exact ⟨k, h1, List.mem_cons_of_mem _ h2⟩
/-- for k in a frozen dict -/
theorem s_forDF {kds : List (κ × PyData)} (Mm : α → Ms) (S : Sta C W0 T σ W Γ M) (h : EvS C Γ M te (.dic κ E kds))
    (h0 : ∀ σ W, Sta C W0 T σ W Γ M → Sta C W0 T σ W (Gm a0) (Mm a0)) (i0 : I 0 a0) (hg : ∀ k, GAs C g (.dat (E.d k)) (f k))
    (hs : ∀ i a k T' σ W, (kds.map (·.1))[i]? = some k → I i a → Sta C W0 T' σ W (f k (Gm a)) (Mm a) → tbd (EndsAt D (At C W0 T' Gm Mm (I (i + 1)))) σ W.H)
    (hd : ∀ a σ W, I kds.length a → Sta C W0 T σ W (Gm a) (Mm a) → D.nx σ W.H) : tFor (iKeysN E C.P C.w C.K te) g tbd D σ W.H := by
  refine h W0 T σ W S _ fun v W1 l1 ok => ?_
  obtain ⟨a, vs, rfl, hd1, hp⟩ := ok
  have S1 := h0 _ _ (S.le l1)
  have hkeys := paired_keys (R := fun d v => Da C.K W1.G v d) hp
  refine ⟨a, vs, W1.G, rfl, W1.fz, hd1.same W1.fz (Same.refl _), fun o ys ho hk => ?_⟩
  obtain ⟨o', xs, e1, _⟩ := hd1
  have eo : W1.G a = some (dX a o) := by rw [e1]; rw [W1.fz _ _ e1] at ho; exact ho
  have hl : ys.length = kds.length := by
    have := Paired.length hk
    rw [this, ← hkeys, List.length_map]
  have S1' : Sta C W0 ((V.ref a, Sv.obj a (dX a o)) :: keyKn E ys (vs.map (·.1)) ++ T) σ W1 (Gm a0) (Mm a0) := S1.knows (T' := (V.ref a, Sv.obj a (dX a o)) :: keyKn E ys (vs.map (·.1))) fun p hp => by
    rcases List.mem_cons.mp hp with e | hp
    · subst e; exact ⟨rfl, eo⟩
    · exact keyKn_ok hk p hp
  refine for_seen (H1 := W1.H) (P := fun _ => True) Gm Mm I a0 _ kds.length S1' i0 (fun i a' σ' W' _ S' => ?_) (fun i a' x σ' W' H' hlt hI S' y => ?_) (fun a' σ' W' hI S' => hd a' σ' W' hI (S'.unk fun p hp => List.mem_append_right _ hp))
  · have hx : SvOk C W'.G (V.ref a) (.obj a (dX a o)) := S'.kn (V.ref a, Sv.obj a (dX a o)) (List.mem_append_left _ List.mem_cons_self)
    have hx := W'.fz _ _ hx.2
    exact ⟨fun e => ⟨hx, by omega⟩, fun e => ⟨hx, by omega⟩⟩
  · obtain ⟨e, y⟩ := y
    subst e
    obtain ⟨k, h1, h2⟩ := keyKn_at hk y
    rw [← hkeys] at h1
    have hxk : SvOk C W'.G x (.dat (E.d k)) := S'.kn (x, Sv.dat (E.d k)) (List.mem_append_left _ (List.mem_cons_of_mem _ h2))
    exact hg k W0 _ σ' W' _ _ x _ S' hxk fun σ2 S2 => hs i a' k _ σ2 W' h1 hI S2
theorem q_forDF {kds : List (κ × PyData)} (Mm : α → Ms) (S : Sta C W0 T σ W Γ M) (h : EvS C Γ M te (.dic κ E kds))
    (h0 : ∀ σ W, Sta C W0 T σ W Γ M → Sta C W0 T σ W (Gm a0) (Mm a0)) (i0 : I 0 a0) (hg : ∀ k, GAs C g (.dat (E.d k)) (f k))
    (hs : ∀ i a k T' σ W, (kds.map (·.1))[i]? = some k → I i a → Sta C W0 T' σ W (f k (Gm a)) (Mm a) → tbd (EndsAt { D with nx := tz D } (At C W0 T' Gm Mm (I (i + 1)))) σ W.H)
    (hd : ∀ a σ W, I kds.length a → Sta C W0 T σ W (Gm a) (Mm a) → tz D σ W.H) : tSeq (tFor (iKeysN E C.P C.w C.K te) g tbd) tz D σ W.H := s_forDF (D := { D with nx := tz D }) Gm I a0 Mm S h h0 i0 hg hs hd
/-- for k in an own dict that does not change -/
theorem s_forDO (Mm : Obj → α → Ms) (S : Sta C W0 T σ W Γ M) (h : EvS C Γ M te (.loc l)) (hm : M[j]? = some (l, .dct κ E kvs ob)) (hm' : ∀ o a, ∃ j' : Nat, (Mm o a)[j']? = some (l, Mo.dct κ E kvs (some o)))
    (h0 : ∀ o σ W, Sta C W0 T σ W Γ (M.set j (l, .dct κ E kvs (some o))) → Sta C W0 T σ W (Gm a0) (Mm o a0)) (i0 : I 0 a0) (hg : ∀ k, GAs C g (.dat (E.d k)) (f k))
    (hs : ∀ o i a k T' σ W, (kvs.map (·.1))[i]? = some k → I i a → Sta C W0 T' σ W (f k (Gm a)) (Mm o a) → tbd (EndsAt D (At C W0 T' Gm (Mm o) (I (i + 1)))) σ W.H)
    (hd : ∀ o a σ W, I kvs.length a → Sta C W0 T σ W (Gm a) (Mm o a) → D.nx σ W.H) : tFor (iKeysN E C.P C.w C.K te) g tbd D σ W.H := by
  refine h W0 T σ W S _ fun v W1 l1 ok => ?_
  have ok : v = .ref l := ok
  subst ok
  have Sa := S.le l1
  obtain ⟨_, _, vs, hd1, hp, _⟩ := Sa.mu _ (List.mem_of_getElem? hm)
  have hkeys := pd_keys0 hp
  refine ⟨l, vs, W1.G, rfl, W1.fz, hd1, fun o ys ho hk => ?_⟩
  have Sb : Sta C W0 T σ W1 Γ (M.set j (l, .dct κ E kvs (some o))) := Sa.resay hm fun ⟨vs, a1, a2, a3⟩ => ⟨vs, a1, a2, fun o' e => by cases e; exact ho⟩
  have S1 := h0 o _ _ Sb
  have hl : ys.length = kvs.length := by
    have := Paired.length hk
    rw [this, ← hkeys, List.length_map]
  have S1' : Sta C W0 (keyKn E ys (vs.map (·.1)) ++ T) σ W1 (Gm a0) (Mm o a0) := S1.knows (keyKn_ok hk)
  have see : ∀ {a' : α} {σ' : L2.St} {W' : Wo} {T' : Kn}, Sta C W0 T' σ' W' (Gm a') (Mm o a') → W'.H l = some (dX l o) := fun {a' σ' W' T'} S' => by
    obtain ⟨j', hj⟩ := hm' o a'
    obtain ⟨_, _, _, _, _, h3⟩ := S'.mu _ (List.mem_of_getElem? hj)
    exact h3 o rfl
  refine for_seen (H1 := W1.H) (P := fun _ => True) Gm (Mm o) I a0 _ kvs.length S1' i0 (fun i a' σ' W' _ S' => ?_) (fun i a' x σ' W' H' hlt hI S' y => ?_) (fun a' σ' W' hI S' => hd o a' σ' W' hI (S'.unk fun p hp => List.mem_append_right _ hp))
  · have hx := see S'
    exact ⟨fun e => ⟨hx, by omega⟩, fun e => ⟨hx, by omega⟩⟩
  · obtain ⟨e, y⟩ := y
    subst e
    obtain ⟨k, h1, h2⟩ := keyKn_at hk y
    rw [← hkeys] at h1
    have hxk : SvOk C W'.G x (.dat (E.d k)) := S'.kn (x, Sv.dat (E.d k)) (List.mem_append_left _ h2)
    exact hg k W0 _ σ' W' _ _ x _ S' hxk fun σ2 S2 => hs o i a' k _ σ2 W' h1 hI S2
theorem q_forDO (Mm : Obj → α → Ms) (S : Sta C W0 T σ W Γ M) (h : EvS C Γ M te (.loc l)) (hm : M[j]? = some (l, .dct κ E kvs ob)) (hm' : ∀ o a, ∃ j' : Nat, (Mm o a)[j']? = some (l, Mo.dct κ E kvs (some o)))
    (h0 : ∀ o σ W, Sta C W0 T σ W Γ (M.set j (l, .dct κ E kvs (some o))) → Sta C W0 T σ W (Gm a0) (Mm o a0)) (i0 : I 0 a0) (hg : ∀ k, GAs C g (.dat (E.d k)) (f k))
    (hs : ∀ o i a k T' σ W, (kvs.map (·.1))[i]? = some k → I i a → Sta C W0 T' σ W (f k (Gm a)) (Mm o a) → tbd (EndsAt { D with nx := tz D } (At C W0 T' Gm (Mm o) (I (i + 1)))) σ W.H)
    (hd : ∀ o a σ W, I kvs.length a → Sta C W0 T σ W (Gm a) (Mm o a) → tz D σ W.H) : tSeq (tFor (iKeysN E C.P C.w C.K te) g tbd) tz D σ W.H := s_forDO (D := { D with nx := tz D }) Gm I a0 Mm S h hm hm' h0 i0 hg hs hd
end

/-! ### dicts of texts -/
def txtM (ks : List Str) : Mo := .txt (ks.map fun k => (k, .bool true))
def addS (ks : List Str) (k : Str) : List Str := if k ∈ ks then ks else ks ++ [k]
theorem addS_mem {ks : List Str} {k x : Str} : x ∈ addS ks k ↔ x ∈ ks ∨ x = k := by
  unfold addS
  split
  · rename_i h
    exact ⟨.inl, fun z => z.elim id fun e => e ▸ h⟩
  · simp
theorem addS_nodup {ks : List Str} {k : Str} (h : ks.Nodup) : (addS ks k).Nodup := by
  unfold addS
  split
  · exact h
  · rename_i q
    rw [List.nodup_append]
    exact ⟨h, by simp, fun a ha b hb e => q (by rw [List.mem_singleton.mp hb] at e; exact e ▸ ha)⟩
theorem txt_at {G : Hp} {K : PySem.W.Frag} : ∀ {ks : List Str} {vs : List (Key × V)}, Paired (fun (p : Str × PyData) (q : Key × V) => q.1 = Sum.inr p.1 ∧ Da K G q.2 p.2) (ks.map fun k => (k, .bool true)) vs → vs = ks.map fun k => (Sum.inr k, V.bl true)
  | [], _, .nil => rfl
  | k :: ks, q :: qs, .cons h t => by
    obtain ⟨h1, h2⟩ := h
    obtain ⟨q1, q2⟩ := q
    cases h2
    have h1 : q1 = Sum.inr k := h1
    subst h1
    rw [txt_at t]
    rfl
theorem at_txt {G : Hp} {K : PySem.W.Frag} : ∀ {ks : List Str}, Paired (fun (p : Str × PyData) (q : Key × V) => q.1 = Sum.inr p.1 ∧ Da K G q.2 p.2) (ks.map fun k => (k, .bool true)) (ks.map fun k => (Sum.inr k, V.bl true))
  | [] => .nil
  | k :: ks => .cons ⟨rfl, .bl true⟩ at_txt
theorem put_txt {ks : List Str} {k : Str} : putK (ks.map fun k => ((Sum.inr k : Key), V.bl true)) (Sum.inr k) (V.bl true) = (addS ks k).map fun k => ((Sum.inr k : Key), V.bl true) := by
  unfold putK addS
  by_cases q : k ∈ ks
  · have h1 : ((ks.map fun k => ((Sum.inr k : Key), V.bl true)).any fun kv => decide (kv.1 = Sum.inr k)) = true := by
      rw [List.any_map, List.any_eq_true]
      exact ⟨k, q, by simp⟩
    rw [if_pos h1, if_pos q, List.map_map]
    refine List.map_congr_left fun x _ => ?_
    show (if (Sum.inr x : Key) = Sum.inr k then _ else _) = _
    split <;> rfl
  · have h1 : ¬ ((ks.map fun k => ((Sum.inr k : Key), V.bl true)).any fun kv => decide (kv.1 = Sum.inr k)) = true := by
      rw [List.any_map, List.any_eq_true]
      rintro ⟨x, hx, e⟩
      simp at e
      exact q (e ▸ hx)
    rw [if_neg h1, if_neg q, List.map_append]
    rfl
theorem s_newT {i : Nat} (S : Sta C W0 T σ W Γ M) (q : ∀ l σ' W', Sta C W0 T σ' W' (Γ.set i (some (.loc l))) ((l, txtM []) :: M) → D.nx σ' W'.H) : tAsg tDNewK (gName i) D σ W.H := fun p hp => by
  have S' := S.own (o := .dK []) (m := txtM []) hp ⟨[], upd_same, .nil⟩
  exact q p _ _ (S'.set i (s := .loc p) rfl)
theorem q_newT {i : Nat} (S : Sta C W0 T σ W Γ M) (q : ∀ l σ' W', Sta C W0 T σ' W' (Γ.set i (some (.loc l))) ((l, txtM []) :: M) → tz D σ' W'.H) : tSeq (tAsg tDNewK (gName i)) tz D σ W.H := s_newT (D := { D with nx := tz D }) S q
/-- d[text] = True -/
theorem s_putT {i j : Nat} {l : Addr} {ks : List Str} {k : Str} (S : Sta C W0 T σ W Γ M) (hi : Γ[i]? = some (some (.loc l))) (hm : M[j]? = some (l, txtM ks)) (hk : EvS C Γ M tk (.dat (.str k))) (hz : ks.length < sizeLine)
    (q : ∀ W', Sta C W0 T σ W' Γ (M.set j (l, txtM (addS ks k))) → D.nx σ W'.H) : sDPut (tVar i) tk (tC (.bl true)) D σ W.H := by
  obtain ⟨v, h1, h2⟩ := S.sl i _ hi
  have h2 : v = .ref l := h2
  subst h2
  refine ⟨_, h1, hk W0 T σ W S _ fun y W1 l1 ok => ?_⟩
  cases ok
  have S1 := S.le l1
  obtain ⟨g, _, vs, hx, hp⟩ := S1.mu _ (List.mem_of_getElem? hm)
  have e := txt_at hp
  subst e
  refine ⟨l, _, rfl, DPut.k (k := Sum.inr k) hx (by rw [List.length_map]; exact hz), ?_⟩
  rw [put_txt]
  exact q (W1.put l (.dK ((addS ks k).map fun k => ((Sum.inr k : Key), V.bl true))) g) (S1.change hm g ⟨_, upd_same, at_txt⟩)
/-- sorted(d) -/
theorem p_sortedT {i j : Nat} {l : Addr} {ks : List Str} (hi : Γ[i]? = some (some (.loc l))) (hm : M[j]? = some (l, txtM ks)) (h64 : ks.length < 64) : EvP C Γ M (tCB rSortedQ (tCons (tVar i) tNil)) (fun s => ∃ ys : List Str, ys.Perm ks ∧ s = .dat (.list (ys.map .str))) := fun W0 T σ W S Q k => by
  obtain ⟨v, h1, h2⟩ := S.sl i _ hi
  have h2 : v = .ref l := h2
  subst h2
  obtain ⟨g, _, vs, hx, hp⟩ := S.mu _ (List.mem_of_getElem? hm)
  have e := txt_at hp
  subst e
  refine ⟨_, h1, l, _, ks, rfl, .inl hx, by rw [List.map_map]; rfl, h64, fun ys p hy _ hp => ?_⟩
  refine k _ _ (W.new p (.lst (ys.map V.str))) (Le.new hp) ⟨ys, hy, rfl⟩ (.lst upd_same (das_strs ys))
end
end Dr
namespace Dr
open PySem PySem.Spec PyProof.Rows L2

/-! programs -/
inductive Wk : Ga → Ga → Prop
  | nil : Wk [] []
  | keep {x : Option Sv} {a b : Ga} : Wk a b → Wk (x :: a) (x :: b)
  | drop {x : Option Sv} {a b : Ga} : Wk a b → Wk (none :: a) (x :: b)
theorem Wk.len {a b : Ga} (h : Wk a b) : a.length = b.length := by
  induction h with
  | nil => rfl
  | keep _ ih => simp [ih]
  | drop _ ih => simp [ih]
theorem Wk.at {a b : Ga} (h : Wk a b) : ∀ (i : Nat) (s : Sv), a[i]? = some (some s) → b[i]? = some (some s) := by
  induction h with
  | nil => intro i s e; exact e
  | keep _ ih =>
    intro i s e
    cases i with
    | zero => exact e
    | succ i => exact ih i s e
  | drop _ ih =>
    intro i s e
    cases i with
    | zero => cases e
    | succ i => exact ih i s e
theorem Sta.w {C : Cn} {W0 W : Wo} {T : Kn} {σ : L2.St} {Γ Γ' : Ga} {M : Ms} (S : Sta C W0 T σ W Γ M) (h : Wk Γ' Γ := by repeat (first | exact Wk.nil | apply Wk.keep | apply Wk.drop)) : Sta C W0 T σ W Γ' M := S.weak h.len h.at

def numOf (p : Prog) (n : Nm) : Option Nat := p.findIdx? fun pt => decide (pt.1 = n)
def allLines (p : Prog) : List Line := p.flatMap (·.2)
def Line.word : Line → Option Nm
  | .pair _ w _ _ => some w
  | _ => none
theorem nm_dec (a b : Nm) : (a.1 == b.1) = decide (a = b) := by
  by_cases h : a = b
  · subst h; simp
  · have : ¬ a.1 = b.1 := fun z => h (Subtype.ext z)
    simp [h, this]
abbrev txtN (a : List Nm) : Mo := txtM (a.map (·.1))
theorem nodup_len {α : Type} [DecidableEq α] : ∀ {a b : List α}, a.Nodup → (∀ x ∈ a, x ∈ b) → a.length ≤ b.length
  | [], _, _, _ => Nat.zero_le _
  | x :: a, b, h, k => by
    rw [List.nodup_cons] at h
    have hx := k x List.mem_cons_self
    have := nodup_len (a := a) (b := b.erase x) h.2 fun y hy => by
      have ne : y ≠ x := fun e => h.1 (e ▸ hy)
      exact (List.mem_erase_of_ne ne).mpr (k y (List.mem_cons_of_mem _ hy))
    rw [List.length_erase_of_mem hx] at this
    have hp : 0 < b.length := List.length_pos_of_mem hx
    rw [List.length_cons]
    omega
def addN (ks : List Nm) (k : Nm) : List Nm := if k ∈ ks then ks else ks ++ [k]
theorem addN_mem {ks : List Nm} {k x : Nm} : x ∈ addN ks k ↔ x ∈ ks ∨ x = k := by
  unfold addN
  split
  · rename_i h
    exact ⟨.inl, fun z => z.elim id fun e => e ▸ h⟩
  · simp
theorem addN_nodup {ks : List Nm} {k : Nm} (h : ks.Nodup) : (addN ks k).Nodup := by
  unfold addN
  split
  · exact h
  · rename_i q
    rw [List.nodup_append]
    exact ⟨h, by simp, fun a ha b hb e => q (by rw [List.mem_singleton.mp hb] at e; exact e ▸ ha)⟩
theorem addN_val {ks : List Nm} {k : Nm} : addS (ks.map (·.1)) k.1 = (addN ks k).map (·.1) := by
  unfold addS addN
  have : k.1 ∈ ks.map (·.1) ↔ k ∈ ks := by
    rw [List.mem_map]
    exact ⟨fun ⟨a, ha, e⟩ => (Subtype.ext e : a = k) ▸ ha, fun h => ⟨k, h, rfl⟩⟩
  by_cases q : k ∈ ks
  · rw [if_pos q, if_pos (this.mpr q)]
  · rw [if_neg q, if_neg (fun z => q (this.mp z)), List.map_append]
    rfl
theorem nm_nodup {ks : List Nm} (h : ks.Nodup) : (ks.map (·.1)).Nodup := by
  unfold List.Nodup at *
  rw [List.pairwise_map]
  exact h.imp fun ne e => ne (Subtype.ext e)
theorem nm_mem {ks : List Nm} {k : Nm} : k.1 ∈ ks.map (·.1) ↔ k ∈ ks := by
  rw [List.mem_map]
  exact ⟨fun ⟨a, ha, e⟩ => (Subtype.ext e : a = k) ▸ ha, fun h => ⟨k, h, rfl⟩⟩
theorem perm_nm {ks : List Nm} (hk : ks.Nodup) {ys : List Str} (h : ys.Perm (ks.map (·.1))) : ∃ bs : List Nm, ys = bs.map (·.1) ∧ bs.Nodup ∧ ∀ b, b ∈ bs ↔ b ∈ ks := by
  have hs : ∀ y ∈ ys, PyData.strOk y = true := fun y hy => by
    obtain ⟨n, _, e⟩ := List.mem_map.mp (h.mem_iff.mp hy)
    subst e
    exact n.2
  have e : (ys.attach.map fun y => (⟨y.1, hs y.1 y.2⟩ : Nm)).map (·.1) = ys := by
    rw [List.map_map]; exact List.attach_map_subtype_val ys
  refine ⟨ys.attach.map fun y => ⟨y.1, hs y.1 y.2⟩, e.symm, ?_, fun b => ?_⟩
  · refine nodup_of_map (·.1) ?_
    rw [e]
    exact h.nodup_iff.mpr (nm_nodup hk)
  · rw [← nm_mem, e, h.mem_iff, nm_mem]
section
variable {P : Program} {w : World} {K : PySem.W.Frag} {mg : Str → Option Value} {base : Heap} {f : Addr} {fd : FuncData} {aO aG : Addr} {C : Cn} {Γ : Ga} {M : Ms} {ta tb : TE}
abbrev sp_number_of (P : Program) (w : World) (K : PySem.W.Frag) : Sp := SpF (C0 P w K) (α := (Prog × Nm) × Nat) (fun a => [.dat (encProg a.1.1), .dat (encN a.1.2)]) (fun a => numOf a.1.1 a.1.2 = some a.2) (fun a => .dat (.int (a.2 : Int)))
abbrev sp_all_lines (P : Program) (w : World) (K : PySem.W.Frag) : Sp := SpF (C0 P w K) (α := Prog) (fun a => [.dat (encProg a)]) (fun a => (allLines a).length ≤ 1000) (fun a => .dat (.list ((allLines a).map encL)))
abbrev isBoxes (p : Prog) (bs : List Nm) : Prop := bs.Nodup ∧ ∀ b, b ∈ bs ↔ ∃ l ∈ allLines p, b ∈ l.boxes
abbrev isWords (p : Prog) (bs : List Nm) : Prop := bs.Nodup ∧ ∀ b, b ∈ bs ↔ ∃ l ∈ allLines p, l.word = some b
abbrev few (p : Prog) (N : List Nm) : Prop := (allLines p).length ≤ 1000 ∧ N.length < 64 ∧ (∀ l ∈ allLines p, ∀ b ∈ l.boxes, b ∈ N) ∧ (∀ l ∈ allLines p, ∀ b, l.word = some b → b ∈ N)
abbrev sp_boxes_of (P : Program) (w : World) (K : PySem.W.Frag) : Sp := SpR (C0 P w K) (α := Prog) (fun a => [.dat (encProg a)]) (fun a => ∃ N, few a N) (fun a s => ∃ bs, isBoxes a bs ∧ s = .dat (.list (bs.map encN)))
abbrev sp_words_of (P : Program) (w : World) (K : PySem.W.Frag) : Sp := SpR (C0 P w K) (α := Prog) (fun a => [.dat (encProg a)]) (fun a => ∃ N, few a N) (fun a s => ∃ bs, isWords a bs ∧ s = .dat (.list (bs.map encN)))
abbrev isPlaces (p : Prog) (xs : List (Nat × Nat)) : Prop := ∀ x, x ∈ xs ↔ ∃ pt, p[x.1]? = some pt ∧ x.2 ≤ pt.2.length
abbrev sp_places_of (P : Program) (w : World) (K : PySem.W.Frag) : Sp := SpR (C0 P w K) (α := Prog) (fun a => [.dat (encProg a)]) (fun a => a.length ≤ 10 ∧ ∀ pt ∈ a, pt.2.length ≤ 1000) (fun a s => ∃ xs, isPlaces a xs ∧ xs.length ≤ 20000 ∧ s = .dat (.list (xs.map encPl)))
theorem e_eqN {a b : Nm} (ha : EvS C Γ M ta (.dat (encN a))) (hb : EvS C Γ M tb (.dat (encN b))) : EvS C Γ M (tOp (rEqD C.K) ta tb) (.dat (.bool (decide (a = b)))) := by
  refine (e_eq ha hb (fl_str a.2 : Fl 40 _).flat (fl_str b.2 : Fl 40 _).flat).to ?_
  show Sv.dat (.bool (a.1 == b.1)) = _
  rw [nm_dec]
theorem sc_number_of : FnScope ["program", "name", "number", "part"] ["program", "name"] (defScope s_number_of) := ⟨rfl, rfl, rfl, by decide +kernel, rfl, by decide +kernel, by decide +kernel⟩
theorem ok_number_of (T : Txt K mg aO aG) (F : FnP K "number_of" "number_of" s_number_of f fd) : FnOk P w K mg base CX0 1 f fd ["program", "name"] (sp_number_of P w K) := by
  have nd := sc_number_of.nd
  have tx := T
  refine F.ok sc_number_of (fun vs H Q E h => SpF.len (n := 2) (fun _ => rfl) h) (fun cdv A outer s H vs Q E hr h => ⟨_, PSs.nox
    (pss_cons (ps_for PassesOwn.never rfl (pi_enumT (by rfl) tx.enumerate (pa_cons (pv 0) pa_nil)) (pg_tup rfl (pgs_cons (pg_name (i := 2) nd rfl (Or.inl rfl)) (pgs_cons (pg_name (i := 3) nd rfl (Or.inl rfl)) pgs_nil))) (pss_one (ps_if (pt_cmpR (op_eqD hr.units) (pe_ix ix_seq (pv 3) pe_int (fun _ _ => rfl)) (pv 1) (nomark _)) (pss_one (ps_ret (pv 2))) pss_nil)))
    (pss_one (ps_ret pe_non))), ?_⟩)
  obtain ⟨W, ⟨⟨p, n⟩, j⟩, rfl, ok, hp, hq⟩ := h
  have S := sta_start ["program", "name", "number", "part"] ok
  have hp : numOf p n = some j := hp
  obtain ⟨hj, h1, h2⟩ := List.findIdx?_eq_some_iff_getElem.mp hp
  refine q_forET (C := C0 P w K) (xs := p) encPart (fun _ : Unit => [some (.dat (encProg p)), some (.dat (encN n)), none, none]) (fun _ => []) (fun i _ => i ≤ j) () S (e_var rfl) (fun σ W S => S) (Nat.zero_le _) (fun i x => g_tup2) (fun i a x T' σ W hx hI S => ?_) (fun a σ W hI S => ?_)
  · refine s_when S (t_B (e_eqN (a := x.1) (e_ixT0 (e_var rfl)) (e_var rfl))) (fun h W S => ?_) (fun h W S => ?_)
    · have h := of_decide_eq_true h
      have : i = j := by
        rcases Nat.lt_or_eq_of_le hI with z | z
        · have h3 := h2 i z
          have : p[i]'(by omega) = x := by
            have := List.getElem?_eq_getElem (show i < p.length by omega)
            rw [hx] at this
            exact (Option.some.inj this).symm
          rw [this] at h3
          simp [h] at h3
        · exact z
      refine s_ret S (e_var rfl) fun v W' si ok => ?_
      exact hq v W' (si.lep fun _ h => h) (by show SvOk _ _ _ (.dat (.int (j : Int))); rw [← this]; exact ok)
    · have h := of_decide_eq_false h
      refine At.mk () ?_ S.w
      show i + 1 ≤ j
      rcases Nat.lt_or_eq_of_le hI with z | z
      · exact z
      · exfalso
        subst z
        have : p[i] = x := by
          have := List.getElem?_eq_getElem hj
          rw [hx] at this
          exact (Option.some.inj this).symm
        rw [this] at h1
        exact h (of_decide_eq_true h1)
  · have hI : p.length ≤ j := hI
    omega
theorem sc_all_lines : FnScope ["program", "found", "part"] ["program"] (defScope s_all_lines) := ⟨rfl, rfl, rfl, by decide +kernel, rfl, by decide +kernel, by decide +kernel⟩
theorem ok_all_lines (T : Txt K mg aO aG) (F : FnP K "all_lines" "all_lines" s_all_lines f fd) : FnOk P w K mg base CX0 1 f fd ["program"] (sp_all_lines P w K) := by
  have nd := sc_all_lines.nd
  refine F.ok sc_all_lines (fun vs H Q E h => SpF.len (n := 1) (fun _ => rfl) h) (fun cdv A outer s H vs Q E hr h => ⟨_, PSs.nox
    (pss_cons (ps_set (i := 1) nd rfl (Or.inl rfl) (pe_lst pa_nil))
    (pss_cons (ps_for PassesOwn.never rfl (pi_tup (pv 0)) (pg_name (i := 2) nd rfl (Or.inl rfl)) (pss_one (ps_expr (pe_bm PySem.F.plainAttrs_list PySem.F.slot_list_extend PySem.F.type_list_extend mt_extendT (pv 1) (pa_cons (pe_ix ix_seq (pv 2) pe_int (fun _ _ => rfl)) pa_nil)))))
    (pss_one (ps_ret (pv 1))))), ?_⟩)
  obtain ⟨W, p, rfl, ok, hp, hq⟩ := h
  have S := sta_start ["program", "found", "part"] ok
  refine q_newL S fun l σ W S => ?_
  refine q_forT (C := C0 P w K) (xs := p) encPart (fun _ : List Line => [some (.dat (encProg p)), some (.loc l), none]) (fun a => [(l, .lst (a.map encL))]) (fun i a => a = allLines (p.take i)) [] S (e_var rfl) (fun σ W S => S) (by simp [allLines]) (fun x => g_name) (fun i a x T' σ W hx hI S => ?_) (fun a σ W hI S => ?_)
  · have e1 : p.take (i + 1) = p.take i ++ [x] := by rw [List.take_succ, hx]; rfl
    have e2 : allLines (p.take (i + 1)) = a ++ x.2 := by rw [e1, hI]; simp [allLines]
    have hz : a.length + x.2.length ≤ 1000 := by
      have h3 : p = p.take (i + 1) ++ p.drop (i + 1) := (List.take_append_drop ..).symm
      have h4 : (allLines p).length = (allLines (p.take (i + 1))).length + (allLines (p.drop (i + 1))).length := by
        rw [h3]
        unfold allLines
        rw [List.flatMap_append, List.length_append]
        simp
      rw [e2, List.length_append] at h4
      omega
    refine s_extT (es := x.2.map encL) (j := 0) S rfl rfl (e_ixT1 (e_var rfl)) (by rw [List.length_map, List.length_map]; exact Nat.le_trans hz (by decide)) fun W S => ?_
    rw [← List.map_append] at S
    exact At.mk (a ++ x.2) e2.symm S.w
  · rw [List.take_length] at hI
    subst hI
    refine s_retO (j := 0) S rfl rfl (fun h => h) fun v W' si ok => hq v W' (si.lep fun _ h => h) ok
theorem take_succ_at {α : Type} {xs : List α} {i : Nat} {x : α} (h : xs[i]? = some x) : xs.take (i + 1) = xs.take i ++ [x] := by rw [List.take_succ, h]; rfl
theorem mem_take_succ {α : Type} {xs : List α} {i : Nat} {x y : α} (h : xs[i]? = some x) : y ∈ xs.take (i + 1) ↔ y ∈ xs.take i ∨ y = x := by rw [take_succ_at h, List.mem_append, List.mem_singleton]
theorem sc_boxes_of : FnScope ["program", "found", "line", "box"] ["program"] (defScope s_boxes_of) := ⟨rfl, rfl, rfl, by decide +kernel, rfl, by decide +kernel, by decide +kernel⟩
theorem ok_boxes_of {fal fbx : Addr} {dal dbx : FuncData} (T : Txt K mg aO aG) (c_all_lines : Cal P w K mg base 1 "all_lines" ["program"] (sp_all_lines P w K) fal dal) (c_boxes_in : Cal P w K mg base 1 "boxes_in" ["line"] (sp_boxes_in P w K) fbx dbx) (F : FnP K "boxes_of" "boxes_of" s_boxes_of f fd) : FnOk P w K mg base CX0 2 f fd ["program"] (sp_boxes_of P w K) := by
  have nd := sc_boxes_of.nd
  have tx := T
  refine F.ok sc_boxes_of (fun vs H Q E h => SpR.len (n := 1) (fun _ => rfl) h) (fun cdv A outer s H vs Q E hr h => ⟨_, PSs.nox
    (pss_cons (ps_set (i := 1) nd rfl (Or.inl rfl) pe_dnewK)
    (pss_cons (ps_for PassesOwn.never rfl (pi_list (pe_call c_all_lines.F (hr.mono (by decide)) (by rfl) c_all_lines.m c_all_lines.k c_all_lines.b .nil pass0 (pa_cons (pv 0) pa_nil))) (pg_name (i := 2) nd rfl (Or.inl rfl)) (pss_one (ps_for PassesOwn.never rfl (pi_list (pe_call c_boxes_in.F (hr.mono (by decide)) (by rfl) c_boxes_in.m c_boxes_in.k c_boxes_in.b .nil pass0 (pa_cons (pv 2) pa_nil))) (pg_name (i := 3) nd rfl (Or.inl rfl)) (pss_one (ps_dput hr.units1 (pv 1) (pv 3) pe_bl rfl)))))
    (pss_one (ps_ret (pe_callB (cr_sortedT rfl) (by rfl) tx.sorted (by decide +kernel) (pa_cons (pv 1) pa_nil)))))), ?_⟩)
  obtain ⟨W, p, rfl, ok, hp, hq⟩ := h
  have S := sta_start ["program", "found", "line", "box"] ok
  obtain ⟨N, hn1, hn2, hn3, _⟩ := hp
  refine q_newT S fun l σ W S => ?_
  refine q_forL (C := C0 P w K) (xs := allLines p) encL (fun _ : List Nm => [some (.dat (encProg p)), some (.loc l), none, none]) (fun a => [(l, txtN a)])
    (fun i a => a.Nodup ∧ ∀ b, b ∈ a ↔ ∃ l ∈ (allLines p).take i, b ∈ l.boxes) [] S (e_call p (a_cons (e_var rfl) a_nil) hn1) (fun σ W S => S) ⟨List.nodup_nil, by simp⟩ (fun x => g_name) (fun i a x T' σ W hx hI S => ?_) (fun a σ W hI S => ?_)
  · have hxm : x ∈ allLines p := List.mem_of_getElem? hx
    refine s_forL (C := C0 P w K) (xs := x.boxes) encN (fun _ : List Nm => [some (.dat (encProg p)), some (.loc l), some (.dat (encL x)), none]) (fun a => [(l, txtN a)])
      (fun j a => a.Nodup ∧ ∀ b, b ∈ a ↔ (∃ l ∈ (allLines p).take i, b ∈ l.boxes) ∨ b ∈ x.boxes.take j) a S (e_call x (a_cons (e_var rfl) a_nil) trivial) (fun σ W S => S) ⟨hI.1, by simpa using hI.2⟩ (fun x => g_name) (fun j a y T' σ W hy hJ S => ?_) (fun a σ W hJ S => ?_)
    · have ha : ∀ b ∈ a, b ∈ N := fun b hb => by
        rcases (hJ.2 b).mp hb with ⟨l, hl, hb⟩ | hb
        · exact hn3 l (List.mem_of_mem_take hl) b hb
        · exact hn3 x hxm b (List.mem_of_mem_take hb)
      have hlen : a.length < 64 := Nat.lt_of_le_of_lt (nodup_len hJ.1 ha) hn2
      refine s_putT (j := 0) (k := y.1) S rfl rfl (e_var rfl) (by rw [List.length_map]; exact Nat.lt_trans hlen (by decide)) fun W S => ?_
      rw [addN_val] at S
      refine At.mk (addN a y) ⟨addN_nodup hJ.1, fun b => ?_⟩ S.w
      rw [addN_mem, hJ.2, mem_take_succ hy, or_assoc]
    · rw [List.take_length] at hJ
      refine At.mk a ⟨hJ.1, fun b => ?_⟩ S.w
      rw [hJ.2]
      constructor
      · rintro (⟨l, h1, h2⟩ | h2)
        · exact ⟨l, (mem_take_succ hx).mpr (.inl h1), h2⟩
        · exact ⟨x, (mem_take_succ hx).mpr (.inr rfl), h2⟩
      · rintro ⟨l, h1, h2⟩
        rcases (mem_take_succ hx).mp h1 with h1 | h1
        · exact .inl ⟨l, h1, h2⟩
        · exact .inr (h1 ▸ h2)
  · rw [List.take_length] at hI
    have hlen : a.length < 64 := Nat.lt_of_le_of_lt (nodup_len hI.1 fun b hb => by
      obtain ⟨l, hl, hb⟩ := (hI.2 b).mp hb
      exact hn3 l hl b hb) hn2
    refine s_retP S (p_sortedT (j := 0) rfl rfl (by rw [List.length_map]; exact hlen)) fun s v W' r si ok => ?_
    obtain ⟨ys, hy, e⟩ := r
    obtain ⟨bs, e1, e2, e3⟩ := perm_nm hI.1 hy
    refine hq s v W' (si.lep fun _ h => h) ⟨bs, ⟨e2, fun b => (e3 b).trans (hI.2 b)⟩, ?_⟩ ok
    rw [e, e1, List.map_map]
    rfl
end
end Dr
namespace Dr
open PySem PySem.Spec PyProof.Rows L2

section
variable {P : Program} {w : World} {K : PySem.W.Frag} {mg : Str → Option Value} {base : Heap} {f : Addr} {fd : FuncData} {aO aG : Addr} {C : Cn} {Γ : Ga} {M : Ms} {ta tb : TE}
theorem word_some {l : Line} : l.kw = .pair → ∃ n, l.names[1]? = some n ∧ l.word = some n := by
  intro h
  cases l <;> first | exact ⟨_, rfl, rfl⟩ | (exfalso; simp [Line.kw] at h; done)
theorem word_none {l : Line} : l.kw ≠ .pair → l.word = none := by
  intro h
  cases l <;> first | rfl | (exfalso; simp [Line.kw] at h; done)
theorem sc_words_of : FnScope ["program", "found", "line"] ["program"] (defScope s_words_of) := ⟨rfl, rfl, rfl, by decide +kernel, rfl, by decide +kernel, by decide +kernel⟩
theorem ok_words_of {fal : Addr} {dal : FuncData} (T : Txt K mg aO aG) (c_all_lines : Cal P w K mg base 1 "all_lines" ["program"] (sp_all_lines P w K) fal dal) (F : FnP K "words_of" "words_of" s_words_of f fd) : FnOk P w K mg base CX0 2 f fd ["program"] (sp_words_of P w K) := by
  have nd := sc_words_of.nd
  have tx := T
  refine F.ok sc_words_of (fun vs H Q E h => SpR.len (n := 1) (fun _ => rfl) h) (fun cdv A outer s H vs Q E hr h => ⟨_, PSs.nox
    (pss_cons (ps_set (i := 1) nd rfl (Or.inl rfl) pe_dnewK)
    (pss_cons (ps_for PassesOwn.never rfl (pi_list (pe_call c_all_lines.F (hr.mono (by decide)) (by rfl) c_all_lines.m c_all_lines.k c_all_lines.b .nil pass0 (pa_cons (pv 0) pa_nil))) (pg_name (i := 2) nd rfl (Or.inl rfl)) (pss_one (ps_if (pt_cmpR (op_eqD hr.units) (pe_ix ix_seq (pv 2) pe_int (fun _ _ => rfl)) pe_str (nomark _)) (pss_one (ps_dput hr.units1 (pv 1) (pe_ix ix_seq (pv 2) pe_int (fun _ _ => rfl)) pe_bl rfl)) pss_nil)))
    (pss_one (ps_ret (pe_callB (cr_sortedT rfl) (by rfl) tx.sorted (by decide +kernel) (pa_cons (pv 1) pa_nil)))))), ?_⟩)
  obtain ⟨W, p, rfl, ok, hp, hq⟩ := h
  have S := sta_start ["program", "found", "line"] ok
  obtain ⟨N, hn1, hn2, _, hn3⟩ := hp
  refine q_newT S fun l σ W S => ?_
  refine q_forL (C := C0 P w K) (xs := allLines p) encL (fun _ : List Nm => [some (.dat (encProg p)), some (.loc l), none]) (fun a => [(l, txtN a)])
    (fun i a => a.Nodup ∧ ∀ b, b ∈ a ↔ ∃ l ∈ (allLines p).take i, l.word = some b) [] S (e_call p (a_cons (e_var rfl) a_nil) hn1) (fun σ W S => S) ⟨List.nodup_nil, by simp⟩ (fun x => g_name) (fun i a x T' σ W hx hI S => ?_) (fun a σ W hI S => ?_)
  · have hxm : x ∈ allLines p := List.mem_of_getElem? hx
    have ha : ∀ b ∈ a, b ∈ N := fun b hb => by
      obtain ⟨l, hl, hb⟩ := (hI.2 b).mp hb
      exact hn3 l (List.mem_of_mem_take hl) b hb
    have hlen : a.length < 64 := Nat.lt_of_le_of_lt (nodup_len hI.1 ha) hn2
    refine s_when S (t_B (e_word .pair (e_var rfl) rfl)) (fun h W S => ?_) (fun h W S => ?_)
    · obtain ⟨n, e1, e2⟩ := word_some (of_decide_eq_true h)
      refine s_putT (j := 0) (k := n.1) S rfl rfl (e_nm (j := 1) rfl (e_var rfl) e1) (by rw [List.length_map]; exact Nat.lt_trans hlen (by decide)) fun W S => ?_
      rw [addN_val] at S
      refine At.mk (addN a n) ⟨addN_nodup hI.1, fun b => ?_⟩ S.w
      rw [addN_mem, hI.2]
      constructor
      · rintro (⟨l, h1, h2⟩ | h2)
        · exact ⟨l, (mem_take_succ hx).mpr (.inl h1), h2⟩
        · exact ⟨x, (mem_take_succ hx).mpr (.inr rfl), h2 ▸ e2⟩
      · rintro ⟨l, h1, h2⟩
        rcases (mem_take_succ hx).mp h1 with h1 | h1
        · exact .inl ⟨l, h1, h2⟩
        · subst h1; rw [e2] at h2; cases h2; exact .inr rfl
    · have e2 := word_none (of_decide_eq_false h)
      refine At.mk a ⟨hI.1, fun b => ?_⟩ S.w
      rw [hI.2]
      constructor
      · rintro ⟨l, h1, h2⟩
        exact ⟨l, (mem_take_succ hx).mpr (.inl h1), h2⟩
      · rintro ⟨l, h1, h2⟩
        rcases (mem_take_succ hx).mp h1 with h1 | h1
        · exact ⟨l, h1, h2⟩
        · subst h1; rw [e2] at h2; cases h2
  · rw [List.take_length] at hI
    have hlen : a.length < 64 := Nat.lt_of_le_of_lt (nodup_len hI.1 fun b hb => by
      obtain ⟨l, hl, hb⟩ := (hI.2 b).mp hb
      exact hn3 l hl b hb) hn2
    refine s_retP S (p_sortedT (j := 0) rfl rfl (by rw [List.length_map]; exact hlen)) fun s v W' r si ok => ?_
    obtain ⟨ys, hy, e⟩ := r
    obtain ⟨bs, e1, e2, e3⟩ := perm_nm hI.1 hy
    refine hq s v W' (si.lep fun _ h => h) ⟨bs, ⟨e2, fun b => (e3 b).trans (hI.2 b)⟩, ?_⟩ ok
    rw [e, e1, List.map_map]
    rfl
theorem int_add1 {n : Nat} : ((n : Nat) : Int) + 1 = ((n + 1 : Nat) : Int) := by omega
theorem sc_places_of : FnScope ["program", "found", "number", "part", "k"] ["program"] (defScope s_places_of) := ⟨rfl, rfl, rfl, by decide +kernel, rfl, by decide +kernel, by decide +kernel⟩
theorem ok_places_of (T : Txt K mg aO aG) (F : FnP K "places_of" "places_of" s_places_of f fd) : FnOk P w K mg base CX0 1 f fd ["program"] (sp_places_of P w K) := by
  have nd := sc_places_of.nd
  have tx := T
  refine F.ok sc_places_of (fun vs H Q E h => SpR.len (n := 1) (fun _ => rfl) h) (fun cdv A outer s H vs Q E hr h => ⟨_, PSs.nox
    (pss_cons (ps_set (i := 1) nd rfl (Or.inl rfl) (pe_lst pa_nil))
    (pss_cons (ps_for PassesOwn.never rfl (pi_enumT (by rfl) tx.enumerate (pa_cons (pv 0) pa_nil)) (pg_tup rfl (pgs_cons (pg_name (i := 2) nd rfl (Or.inl rfl)) (pgs_cons (pg_name (i := 3) nd rfl (Or.inl rfl)) pgs_nil))) (pss_one (ps_for PassesOwn.never rfl (pi_range1 (by rfl) tx.range (pa_cons (pe_op op_add (pe_callB cr_len (by rfl) tx.len PySem.boot_len (pa_cons (pe_ix ix_seq (pv 3) pe_int (fun _ _ => rfl)) pa_nil)) pe_int) pa_nil)) (pg_name (i := 4) nd rfl (Or.inl rfl)) (pss_one (ps_expr (pe_bm PySem.F.plainAttrs_list PySem.F.slot_list_append PySem.F.type_list_append mt_append (pv 1) (pa_cons (pe_tup (pa_cons (pv 2) (pa_cons (pv 4) pa_nil))) pa_nil)))))))
    (pss_one (ps_ret (pv 1))))), ?_⟩)
  obtain ⟨W, p, rfl, ok, hp, hq⟩ := h
  have S := sta_start ["program", "found", "number", "part", "k"] ok
  obtain ⟨hp1, hp2⟩ := hp
  refine q_newL S fun l σ W S => ?_
  refine q_forET (C := C0 P w K) (xs := p) encPart (fun _ : List (Nat × Nat) => [some (.dat (encProg p)), some (.loc l), none, none, none]) (fun a => [(l, .lst (a.map encPl))])
    (fun i a => a.length ≤ i * 2000 ∧ ∀ x, x ∈ a ↔ x.1 < i ∧ ∃ pt, p[x.1]? = some pt ∧ x.2 ≤ pt.2.length) [] S (e_var rfl) (fun σ W S => S) ⟨Nat.zero_le _, by simp⟩ (fun i x => g_tup2) (fun i a x T' σ W hx hI S => ?_) (fun a σ W hI S => ?_)
  · have hl := hp2 x (List.mem_of_getElem? hx)
    have hi : i < 10 := Nat.lt_of_lt_of_le (List.getElem?_eq_some_iff.mp hx).1 hp1
    have hn : EvA (C0 P w K) (((([some (.dat (encProg p)), some (.loc l), none, none, none] : Ga).set 2 (some (.dat (.int (i : Int))))).set 3 (some (.dat (encPart x))))) [(l, .lst (a.map encPl))] (tCons (tOp (rI0 fun i j => .int (i + j)) (tCB (rLenQ K) (tCons (tOp (rIx K) (tVar 3) (tC (.int 1))) tNil)) (tC (.int 1))) tNil) [.dat (.int ((x.2.length + 1 : Nat) : Int))] := by
      refine a_cons ?_ a_nil
      refine EvS.to (e_add (e_lenT (ds := x.2.map encL) (e_ixT1 (C := C0 P w K) (e_var rfl))) e_int) ?_
      rw [List.length_map, int_add1]
    refine s_forN (C := C0 P w K) (n := x.2.length + 1) (fun _ : List (Nat × Nat) => [some (.dat (encProg p)), some (.loc l), some (.dat (.int (i : Int))), some (.dat (encPart x)), none]) (fun a => [(l, .lst (a.map encPl))])
      (fun j a => a.length ≤ i * 2000 + j ∧ ∀ x, x ∈ a ↔ (x.1 < i ∧ ∃ pt, p[x.1]? = some pt ∧ x.2 ≤ pt.2.length) ∨ (x.1 = i ∧ x.2 < j)) a S hn (by omega) (fun σ W S => S) ⟨hI.1, by simpa using hI.2⟩ (fun j a σ W hj hJ S => ?_) (fun a σ W hJ S => ?_)
    · refine s_app (d := encPl (i, j)) (j := 0) S rfl rfl (e_tup (ds := [.int (i : Int), .int (j : Int)]) (a_cons (e_var rfl) (a_cons (e_var rfl) a_nil)) (by show 2 ≤ 1000; decide)) (by rw [List.length_map]; have := hJ.1; show a.length < 16777216; omega) fun W S => ?_
      have e : a.map encPl ++ [encPl (i, j)] = (a ++ [(i, j)]).map encPl := by rw [List.map_append]; rfl
      rw [e] at S
      refine At.mk (a ++ [(i, j)]) ⟨by have := hJ.1; rw [List.length_append, List.length_singleton]; omega, fun y => ?_⟩ S.w
      rw [List.mem_append, hJ.2, List.mem_singleton]
      constructor
      · rintro ((h | h) | h)
        · exact .inl h
        · exact .inr ⟨h.1, by omega⟩
        · subst h; exact .inr ⟨rfl, Nat.lt_succ_self _⟩
      · rintro (h | ⟨h1, h2⟩)
        · exact .inl (.inl h)
        · rcases Nat.lt_or_eq_of_le (Nat.le_of_lt_succ h2) with z | z
          · exact .inl (.inr ⟨h1, z⟩)
          · exact .inr (Prod.ext h1 z)
    · refine At.mk a ⟨by have := hJ.1; omega, fun y => ?_⟩ S.w
      rw [hJ.2]
      constructor
      · rintro (⟨h1, h2⟩ | ⟨h1, h2⟩)
        · exact ⟨by omega, h2⟩
        · exact ⟨by omega, x, by rw [h1]; exact hx, by omega⟩
      · rintro ⟨h1, pt, h2, h3⟩
        rcases Nat.lt_or_eq_of_le (Nat.le_of_lt_succ h1) with z | z
        · exact .inl ⟨z, pt, h2, h3⟩
        · rw [z, hx] at h2
          cases h2
          exact .inr ⟨z, by omega⟩
  · refine s_retO (j := 0) S rfl rfl (fun h => h) fun v W' si ok => ?_
    refine hq _ v W' (si.lep fun _ h => h) ⟨a, fun x => ?_, by have := hI.1; omega, rfl⟩ ok
    rw [hI.2]
    exact ⟨fun h => h.2, fun ⟨pt, h1, h2⟩ => ⟨(List.getElem?_eq_some_iff.mp h1).1, pt, h1, h2⟩⟩
end
end Dr
namespace Dr
open PySem PySem.Spec PyProof.Rows L2

/-! flows -/
def lnAt (p : Prog) (i k : Nat) : Option Line := (p[i]?).bind fun pt => pt.2[k]?
def lineOf (p : Prog) (s : Spot) : Option Line := if s.head = true then none else lnAt p s.part s.k
def placeOf (s : Spot) : Option (Nat × Nat) := if s.head = true then none else some (s.part, s.k)
def behindPart (way : Way) : List Spot := match way.getLast? with
  | none => []
  | some a => [⟨way.dropLast, a.1, a.2 + 1, false⟩]
def behindEnd (way : Way) (part : Nat) (ls : List Line) (k h : Nat) : List Spot := if ls[h]? = some .again then [⟨way, part, h, true⟩] else [⟨way, part, k + 1, false⟩]
def stepLine (p : Prog) (s : Spot) (ls : List Line) : Line → List Spot
  | .either => [⟨s.way, s.part, s.k + 1, false⟩, ⟨s.way, s.part, (orOf ls s.k).getD 0 + 1, false⟩]
  | .or_ => [⟨s.way, s.part, (endOf ls s.k).getD 0 + 1, false⟩]
  | .again => [⟨s.way, s.part, s.k, true⟩]
  | .end_ => behindEnd s.way s.part ls s.k ((headOf ls s.k).getD 0)
  | .do_ n => [⟨s.way ++ [(s.part, s.k)], (numOf p n).getD 0, 0, false⟩]
  | _ => [⟨s.way, s.part, s.k + 1, false⟩]
def nextsL (p : Prog) (s : Spot) (ls : List Line) : List Spot :=
  if s.head = true then [⟨s.way, s.part, (endOf ls s.k).getD 0 + 1, false⟩, ⟨s.way, s.part, s.k + 1, false⟩]
  else match ls[s.k]? with
    | none => behindPart s.way
    | some l => stepLine p s ls l
def nexts (p : Prog) (s : Spot) : List Spot := match p[s.part]? with
  | none => []
  | some pt => nextsL p s pt.2
/-- blocks stand rightly, each do names a part behind -/
structure OkP (p : Prog) : Prop where
  or_ : ∀ {i : Nat} {pt : Part} {k : Nat}, p[i]? = some pt → pt.2[k]? = some .either → ∃ o, orOf pt.2 k = some o
  end_ : ∀ {i : Nat} {pt : Part} {k : Nat}, p[i]? = some pt → pt.2[k]? = some .or_ ∨ pt.2[k]? = some .again → ∃ o, endOf pt.2 k = some o
  head : ∀ {i : Nat} {pt : Part} {k : Nat}, p[i]? = some pt → pt.2[k]? = some .end_ → ∃ o, headOf pt.2 k = some o
  do_ : ∀ {i : Nat} {pt : Part} {k : Nat} {n : Nm}, p[i]? = some pt → pt.2[k]? = some (.do_ n) → ∃ j, numOf p n = some j ∧ i < j
  few : p.length ≤ 3
  ne : p ≠ []
  short : ∀ pt ∈ p, pt.2.length ≤ 100
inductive OkWay (p : Prog) : Way → Nat → Prop
  | nil : OkWay p [] 0
  | snoc {w : Way} {i k j : Nat} {n : Nm} : OkWay p w i → lnAt p i k = some (.do_ n) → numOf p n = some j → i < j → OkWay p (w ++ [(i, k)]) j
theorem OkWay.len {p : Prog} {w : Way} {i : Nat} (h : OkWay p w i) : w.length ≤ i := by
  induction h with
  | nil => exact Nat.zero_le _
  | snoc _ _ _ hlt ih => rw [List.length_append, List.length_singleton]; omega
structure OkSpot (p : Prog) (s : Spot) : Prop where
  way : OkWay p s.way s.part
  part : ∃ pt, p[s.part]? = some pt ∧ s.k ≤ pt.2.length ∧ (s.head = true → pt.2[s.k]? = some .again)
theorem scanEnd_lt : ∀ {ls : List Line} {a d r : Nat}, scanEnd ls a d = some r → r < a + ls.length
  | [], _, _, _, h => nomatch h
  | l :: t, a, d, r, h => by
    unfold scanEnd at h
    split at h
    · cases h; rw [List.length_cons]; omega
    · have := scanEnd_lt h; rw [List.length_cons]; omega
theorem scanOr_lt : ∀ {ls : List Line} {a d r : Nat}, scanOr ls a d = some r → r < a + ls.length
  | [], _, _, _, h => nomatch h
  | l :: t, a, d, r, h => by
    unfold scanOr at h
    split at h
    · cases h; rw [List.length_cons]; omega
    · split at h
      · cases h
      · have := scanOr_lt h; rw [List.length_cons]; omega
theorem scanHead_lt : ∀ {ls : List Line} {d r : Nat}, scanHead ls d = some r → r < ls.length
  | [], _, _, h => nomatch h
  | l :: t, d, r, h => by
    unfold scanHead at h
    split at h
    · cases h; rw [List.length_cons]; omega
    · have := scanHead_lt h; rw [List.length_cons]; omega
theorem endOf_lt {ls : List Line} {k r : Nat} (h : endOf ls k = some r) (hk : k < ls.length) : r < ls.length := by
  have := scanEnd_lt h
  rw [List.length_drop] at this
  omega
theorem orOf_lt {ls : List Line} {k r : Nat} (h : orOf ls k = some r) (hk : k < ls.length) : r < ls.length := by
  have := scanOr_lt h
  rw [List.length_drop] at this
  omega
theorem headOf_lt {ls : List Line} {k r : Nat} (h : headOf ls k = some r) : r < ls.length := by
  have := scanHead_lt h
  rw [List.length_reverse, List.length_take] at this
  omega
theorem numOf_lt {p : Prog} {n : Nm} {j : Nat} (h : numOf p n = some j) : j < p.length := (List.findIdx?_eq_some_iff_getElem.mp h).1
theorem behind_ok {p : Prog} {y : Way} {m : Nat} {t : Spot} (hw : OkWay p y m) (ht : t ∈ behindPart y) : OkSpot p t := by
  cases hw with
  | nil => simp [behindPart] at ht
  | @snoc w i k j n hw' hln hnum hlt =>
    simp only [behindPart] at ht
    rw [List.getLast?_append, List.getLast?_singleton] at ht
    simp only [Option.some_or, List.dropLast_concat, List.mem_singleton] at ht
    subst ht
    unfold lnAt at hln
    cases hpi : p[i]? with
    | none => rw [hpi] at hln; cases hln
    | some pt' =>
      rw [hpi] at hln
      have := (List.getElem?_eq_some_iff.mp (show pt'.2[k]? = _ from hln)).1
      exact ⟨hw', pt', hpi, by show k + 1 ≤ _; omega, fun z => nomatch z⟩
theorem nexts_ok {p : Prog} (O : OkP p) {s t : Spot} (h : OkSpot p s) (ht : t ∈ nexts p s) : OkSpot p t := by
  obtain ⟨hw, pt, hp, hk, hh⟩ := h
  unfold nexts at ht
  rw [hp] at ht
  simp only [nextsL] at ht
  by_cases hd : s.head = true
  · rw [if_pos hd] at ht
    have hk' := (List.getElem?_eq_some_iff.mp (hh hd)).1
    obtain ⟨e, he⟩ := O.end_ hp (.inr (hh hd))
    rw [he] at ht
    have := endOf_lt he hk'
    rcases List.mem_cons.mp ht with z | z
    · subst z; exact ⟨hw, pt, hp, by show e + 1 ≤ _; omega, fun z => nomatch z⟩
    · rw [List.mem_singleton.mp z]; exact ⟨hw, pt, hp, by show s.k + 1 ≤ _; omega, fun z => nomatch z⟩
  · rw [if_neg hd] at ht
    cases hl : pt.2[s.k]? with
    | none =>
      rw [hl] at ht
      exact behind_ok hw ht
    | some l =>
      rw [hl] at ht
      have hk' := (List.getElem?_eq_some_iff.mp hl).1
      have one : ∀ {m : Nat}, m < pt.2.length → OkSpot p ⟨s.way, s.part, m + 1, false⟩ := fun hm => ⟨hw, pt, hp, hm, fun z => nomatch z⟩
      cases l with
      | either =>
        obtain ⟨o, ho⟩ := O.or_ hp hl
        simp only [stepLine, ho, Option.getD_some] at ht
        rcases List.mem_cons.mp ht with z | z
        · subst z; exact one hk'
        · rw [List.mem_singleton.mp z]; exact one (orOf_lt ho hk')
      | or_ =>
        obtain ⟨o, ho⟩ := O.end_ hp (.inl hl)
        simp only [stepLine, ho, Option.getD_some, List.mem_singleton] at ht
        subst ht; exact one (endOf_lt ho hk')
      | again =>
        simp only [stepLine, List.mem_singleton] at ht
        subst ht; exact ⟨hw, pt, hp, hk, fun _ => hl⟩
      | end_ =>
        obtain ⟨o, ho⟩ := O.head hp hl
        simp only [stepLine, ho, Option.getD_some, behindEnd] at ht
        split at ht
        · rename_i hag
          rw [List.mem_singleton] at ht
          subst ht; exact ⟨hw, pt, hp, Nat.le_of_lt (headOf_lt ho), fun _ => hag⟩
        · rw [List.mem_singleton] at ht
          subst ht; exact one hk'
      | do_ n =>
        obtain ⟨j, hj, hlt⟩ := O.do_ hp hl
        simp only [stepLine, hj, Option.getD_some, List.mem_singleton] at ht
        subst ht
        have := numOf_lt hj
        exact ⟨.snoc hw (by unfold lnAt; rw [hp]; exact hl) hj hlt, p[j], List.getElem?_eq_getElem this, Nat.zero_le _, fun z => nomatch z⟩
      | pair _ _ _ _ => simp only [stepLine, List.mem_singleton] at ht; subst ht; exact one hk'
      | first _ _ => simp only [stepLine, List.mem_singleton] at ht; subst ht; exact one hk'
      | second _ _ => simp only [stepLine, List.mem_singleton] at ht; subst ht; exact one hk'
      | same _ _ => simp only [stepLine, List.mem_singleton] at ht; subst ht; exact one hk'
      | none_ _ => simp only [stepLine, List.mem_singleton] at ht; subst ht; exact one hk'
      | tell _ => simp only [stepLine, List.mem_singleton] at ht; subst ht; exact one hk'
theorem nexts_len (p : Prog) (s : Spot) : (nexts p s).length ≤ 2 := by
  unfold nexts
  split
  · exact Nat.zero_le _
  · unfold nextsL
    split
    · exact Nat.le_refl _
    · split
      · unfold behindPart; split <;> simp
      · rename_i l _
        cases l <;> simp [stepLine, behindEnd] <;> split <;> simp
section
variable {P : Program} {w : World} {K : PySem.W.Frag} {mg : Str → Option Value} {base : Heap} {f : Addr} {fd : FuncData} {aO aG : Addr} {C : Cn} {Γ : Ga} {M : Ms} {ta tb tc te : TE}
abbrev sp_first_spot (P : Program) (w : World) (K : PySem.W.Frag) : Sp := SpF (C0 P w K) (α := Unit) (fun _ => []) (fun _ => True) (fun _ => .dat (encSpot ⟨[], 0, 0, false⟩))
abbrev sp_place_of (P : Program) (w : World) (K : PySem.W.Frag) : Sp := SpF (C0 P w K) (α := Spot) (fun a => [.dat (encSpot a)]) (fun _ => True) (fun a => .dat (encOp (placeOf a)))
abbrev sp_line_of (P : Program) (w : World) (K : PySem.W.Frag) : Sp := SpF (C0 P w K) (α := Prog × Spot) (fun a => [.dat (encProg a.1), .dat (encSpot a.2)]) (fun a => ∃ pt, a.1[a.2.part]? = some pt ∧ a.2.k ≤ pt.2.length) (fun a => .dat (encOL (lineOf a.1 a.2)))
abbrev sp_behind_part (P : Program) (w : World) (K : PySem.W.Frag) : Sp := SpF (C0 P w K) (α := Way) (fun a => [.dat (encWay a)]) (fun _ => True) (fun a => .dat (.list ((behindPart a).map encSpot)))
abbrev sp_behind_end (P : Program) (w : World) (K : PySem.W.Frag) : Sp := SpF (C0 P w K) (α := (Way × Nat) × (List Line × Nat) × Nat) (fun a => [.dat (encWay a.1.1), .dat (.int (a.1.2 : Int)), .dat (encLs a.2.1.1), .dat (.int (a.2.1.2 : Int))]) (fun a => headOf a.2.1.1 a.2.1.2 = some a.2.2 ∧ a.2.1.2 ≤ a.2.1.1.length) (fun a => .dat (.list ((behindEnd a.1.1 a.1.2 a.2.1.1 a.2.1.2 a.2.2).map encSpot)))
abbrev sp_next_spots (P : Program) (w : World) (K : PySem.W.Frag) : Sp := SpF (C0 P w K) (α := Prog × Spot) (fun a => [.dat (encProg a.1), .dat (encSpot a.2)]) (fun a => OkP a.1 ∧ OkSpot a.1 a.2) (fun a => .dat (.list ((nexts a.1 a.2).map encSpot)))
theorem sc_first_spot : FnScope [] [] (defScope s_first_spot) := ⟨rfl, rfl, rfl, by decide +kernel, rfl, by decide +kernel, by decide +kernel⟩
theorem ok_first_spot (F : FnP K "first_spot" "first_spot" s_first_spot f fd) : FnOk P w K mg base CX0 1 f fd [] (sp_first_spot P w K) := by
  have nd := sc_first_spot.nd
  refine F.ok sc_first_spot (fun vs H Q E h => SpF.len (n := 0) (fun _ => rfl) h) (fun cdv A outer s H vs Q E hr h => ⟨_, PSs.nox
    (pss_one (ps_ret (pe_tup (pa_cons (pe_tup pa_nil) (pa_cons pe_int (pa_cons pe_int (pa_cons pe_bl pa_nil))))))), ?_⟩)
  obtain ⟨W, p, rfl, ok, hp, hq⟩ := h
  have S := sta_start [] ok
  refine s_ret S (e_tup (ds := [.tuple [], .int 0, .int 0, .bool false]) (a_cons (e_tup (ds := []) a_nil (Nat.zero_le _)) (a_cons e_int (a_cons e_int (a_cons e_bl a_nil)))) (by show 4 ≤ 1000; decide)) fun v W' si ok => ?_
  exact hq v W' (si.lep fun _ h => h) ok
/-- a spot's items -/
theorem e_sp0 {s : Spot} (h : EvS C Γ M ta (.dat (encSpot s))) : EvS C Γ M (tOp (rIx C.K) ta (tC (.int 0))) (.dat (encWay s.way)) := e_ixT0 h
theorem e_sp1 {s : Spot} (h : EvS C Γ M ta (.dat (encSpot s))) : EvS C Γ M (tOp (rIx C.K) ta (tC (.int 1))) (.dat (.int (s.part : Int))) := e_ixT1 h
theorem e_sp2 {s : Spot} (h : EvS C Γ M ta (.dat (encSpot s))) : EvS C Γ M (tOp (rIx C.K) ta (tC (.int 2))) (.dat (.int (s.k : Int))) := e_ixT2 h
theorem e_sp3 {s : Spot} (h : EvS C Γ M ta (.dat (encSpot s))) : EvS C Γ M (tOp (rIx C.K) ta (tC (.int 3))) (.dat (.bool s.head)) := e_ixT3 h
theorem e_eqI {i j : Nat} (ha : EvS C Γ M ta (.dat (.int (i : Int)))) (hb : EvS C Γ M tb (.dat (.int (j : Int)))) : EvS C Γ M (tOp (rEqD C.K) ta tb) (.dat (.bool (decide (i = j)))) := by
  refine (e_eq ha hb (fl_int _ : Fl 1 _).flat (fl_int _ : Fl 1 _).flat).to ?_
  show Sv.dat (.bool ((i : Int) == (j : Int))) = _
  rw [Bool.beq_eq_decide_eq]
  have : ((i : Int) = (j : Int)) ↔ i = j := by omega
  simp only [this]
theorem sc_place_of : FnScope ["spot"] ["spot"] (defScope s_place_of) := ⟨rfl, rfl, rfl, by decide +kernel, rfl, by decide +kernel, by decide +kernel⟩
theorem ok_place_of (F : FnP K "place_of" "place_of" s_place_of f fd) : FnOk P w K mg base CX0 1 f fd ["spot"] (sp_place_of P w K) := by
  have nd := sc_place_of.nd
  refine F.ok sc_place_of (fun vs H Q E h => SpF.len (n := 1) (fun _ => rfl) h) (fun cdv A outer s H vs Q E hr h => ⟨_, PSs.nox
    (pss_cons (ps_if (pt_val (pe_ix ix_seq (pv 0) pe_int (fun _ _ => rfl))) (pss_one (ps_ret pe_non)) pss_nil)
    (pss_one (ps_ret (pe_tup (pa_cons (pe_ix ix_seq (pv 0) pe_int (fun _ _ => rfl)) (pa_cons (pe_ix ix_seq (pv 0) pe_int (fun _ _ => rfl)) pa_nil)))))), ?_⟩)
  obtain ⟨W, p, rfl, ok, hp, hq⟩ := h
  have S := sta_start ["spot"] ok
  refine q_when S (t_B (e_sp3 (s := p) (e_var rfl))) (fun h W S => ?_) (fun h W S => ?_)
  · refine s_ret S e_non fun v W' si ok => ?_
    refine hq v W' (si.lep fun _ h => h) ?_
    show SvOk _ _ _ (.dat (encOp (placeOf p)))
    rw [placeOf, if_pos h]
    exact ok
  · refine s_ret S (e_tup (ds := [.int (p.part : Int), .int (p.k : Int)]) (a_cons (e_sp1 (s := p) (e_var rfl)) (a_cons (e_sp2 (s := p) (e_var rfl)) a_nil)) (by show 2 ≤ 1000; decide)) fun v W' si ok => ?_
    refine hq v W' (si.lep fun _ h => h) ?_
    show SvOk _ _ _ (.dat (encOp (placeOf p)))
    rw [placeOf, if_neg (by rw [h]; decide)]
    exact ok
/-- the lines of a part of a program -/
theorem e_part {p : Prog} {i : Nat} {pt : Part} (h : EvS C Γ M ta (.dat (encProg p))) (hi : EvS C Γ M tb (.dat (.int (i : Int)))) (e : p[i]? = some pt) : EvS C Γ M (tOp (rIx C.K) (tOp (rIx C.K) ta tb) (tC (.int 1))) (.dat (encLs pt.2)) :=
  e_ixT1 (a := .str pt.1.1) (ds := []) (e_ixT h hi (atI_nat (by rw [List.getElem?_map, e]; rfl)))
theorem e_lenLs {ls : List Line} (h : EvS C Γ M ta (.dat (encLs ls))) : EvS C Γ M (tCB (rLenQ C.K) (tCons ta tNil)) (.dat (.int (ls.length : Int))) := (e_lenT h).to (by rw [List.length_map])
theorem sc_line_of : FnScope ["program", "spot", "lines"] ["program", "spot"] (defScope s_line_of) := ⟨rfl, rfl, rfl, by decide +kernel, rfl, by decide +kernel, by decide +kernel⟩
theorem ok_line_of (T : Txt K mg aO aG) (F : FnP K "line_of" "line_of" s_line_of f fd) : FnOk P w K mg base CX0 1 f fd ["program", "spot"] (sp_line_of P w K) := by
  have nd := sc_line_of.nd
  have tx := T
  refine F.ok sc_line_of (fun vs H Q E h => SpF.len (n := 2) (fun _ => rfl) h) (fun cdv A outer s H vs Q E hr h => ⟨_, PSs.nox
    (pss_cons (ps_set (i := 2) nd rfl (Or.inl rfl) (pe_ix ix_seq (pe_ix ix_seq (pv 0) (pe_ix ix_seq (pv 1) pe_int (fun _ _ => rfl)) (fun _ _ => rfl)) pe_int (fun _ _ => rfl)))
    (pss_cons (ps_if (PW.pt (pw_or (pt_val (pe_ix ix_seq (pv 1) pe_int (fun _ _ => rfl))) (pw_or1 (pt_cmpR (op_eqD hr.units) (pe_ix ix_seq (pv 1) pe_int (fun _ _ => rfl)) (pe_callB cr_len (by rfl) tx.len PySem.boot_len (pa_cons (pv 2) pa_nil)) (nomark _))))) (pss_one (ps_ret pe_non)) pss_nil)
    (pss_one (ps_ret (pe_ix ix_seq (pv 2) (pe_ix ix_seq (pv 1) pe_int (fun _ _ => rfl)) (fun _ _ => rfl)))))), ?_⟩)
  obtain ⟨W, ⟨p, s⟩, rfl, ok, hp, hq⟩ := h
  obtain ⟨pt, hp1, hp2⟩ := hp
  have hp1 : p[s.part]? = some pt := hp1
  have hp2 : s.k ≤ pt.2.length := hp2
  have S := sta_start ["program", "spot", "lines"] ok
  refine q_set S (e_part (e_var rfl) (e_sp1 (s := s) (e_var rfl)) hp1) fun σ W S => ?_
  refine q_when S (t_or (t_B (e_sp3 (s := s) (e_var rfl))) fun _ => t_B (e_eqI (e_sp2 (s := s) (e_var rfl)) (e_lenLs (e_var rfl)))) (fun h W S => ?_) (fun h W S => ?_)
  · refine s_ret S e_non fun v W' si ok => ?_
    refine hq v W' (si.lep fun _ h => h) ?_
    show SvOk _ _ _ (.dat (encOL (lineOf p s)))
    have e : lineOf p s = none := by
      unfold lineOf
      split
      · rfl
      · rename_i hn
        unfold lnAt
        rw [hp1]
        have hn' : s.head = false := by simpa using hn
        rw [hn', Bool.false_or] at h
        show pt.2[s.k]? = none
        exact List.getElem?_eq_none (by rw [of_decide_eq_true h]; exact Nat.le_refl _)
    rw [e]
    exact ok
  · rw [Bool.or_eq_false_iff] at h
    have hne := of_decide_eq_false h.2
    have hlt : s.k < pt.2.length := by omega
    have e1 := List.getElem?_eq_getElem hlt
    refine s_ret S (e_line (e_var rfl) (e_sp2 (s := s) (e_var rfl)) e1) fun v W' si ok => ?_
    refine hq v W' (si.lep fun _ h => h) ?_
    show SvOk _ _ _ (.dat (encOL (lineOf p s)))
    have e : lineOf p s = some pt.2[s.k] := by
      unfold lineOf
      rw [if_neg (by rw [h.1]; decide)]
      unfold lnAt
      rw [hp1]
      exact e1
    rw [e]
    exact ok
theorem e_mk {way : Way} {part k : Nat} {hd : Bool} (h1 : EvS C Γ M ta (.dat (encWay way))) (h2 : EvS C Γ M tb (.dat (.int (part : Int)))) (h3 : EvS C Γ M tc (.dat (.int (k : Int)))) : EvS C Γ M (tTup (tCons ta (tCons tb (tCons tc (tCons (tC (.bl hd)) tNil))))) (.dat (encSpot ⟨way, part, k, hd⟩)) :=
  e_tup (ds := [encWay way, .int (part : Int), .int (k : Int), .bool hd]) (a_cons h1 (a_cons h2 (a_cons h3 (a_cons e_bl a_nil)))) (by show 4 ≤ 1000; decide)
theorem e_one {s : Spot} (h : EvS C Γ M ta (.dat (encSpot s))) : EvS C Γ M (tLst (tCons ta tNil)) (.dat (.list ([s].map encSpot))) := e_lst (ds := [encSpot s]) (a_cons h a_nil) (by show 1 ≤ 1000; decide)
theorem e_two {s t : Spot} (h : EvS C Γ M ta (.dat (encSpot s))) (h2 : EvS C Γ M tb (.dat (encSpot t))) : EvS C Γ M (tLst (tCons ta (tCons tb tNil))) (.dat (.list ([s, t].map encSpot))) := e_lst (ds := [encSpot s, encSpot t]) (a_cons h (a_cons h2 a_nil)) (by show 2 ≤ 1000; decide)
theorem e_add1 {k : Nat} (h : EvS C Γ M ta (.dat (.int (k : Int)))) : EvS C Γ M (tOp (rI0 fun i j => .int (i + j)) ta (tC (.int 1))) (.dat (.int ((k + 1 : Nat) : Int))) := (e_add h e_int).to (by rw [int_add1])
theorem e_neg {i : Int} (h : EvS C Γ M ta (.dat (.int i))) : EvS C Γ M (tUn (rU fun i => .int (-i)) ta) (.dat (.int (-i))) := fun W0 T σ W S Q k => h W0 T σ W S _ fun v W1 l1 ok => by
  cases ok
  exact ⟨i, rfl, k _ W1 l1 (.int _)⟩
theorem cutLast (ds : List PyData) (x : PyData) : cutP (ds ++ [x]) none (some (-1)) = ds := by
  unfold cutP
  have : HT.sIx (ds ++ [x]).length (ds ++ [x]).length (some (-1)) = ds.length := by
    show (if (-1 : Int) < 0 then ((-1 : Int) + ((ds ++ [x]).length : Int)).toNat else min (-1 : Int).toNat (ds ++ [x]).length) = _
    rw [if_pos (by decide), List.length_append, List.length_singleton]
    omega
  rw [this, HT.sIx_none]
  simp
theorem atLast (ds : List PyData) (x : PyData) : L2.atI (ds ++ [x]) (-1) = some x := by
  unfold L2.atI ixN
  rw [List.length_append, List.length_singleton]
  rw [if_neg (by decide), if_pos (by omega)]
  have h2 : (-1 + ((ds.length + 1 : Nat) : Int)).toNat = ds.length := by omega
  rw [h2]
  simp
theorem sc_behind_part : FnScope ["way", "part", "k"] ["way"] (defScope s_behind_part) := ⟨rfl, rfl, rfl, by decide +kernel, rfl, by decide +kernel, by decide +kernel⟩
theorem ok_behind_part (F : FnP K "behind_part" "behind_part" s_behind_part f fd) : FnOk P w K mg base CX0 1 f fd ["way"] (sp_behind_part P w K) := by
  have nd := sc_behind_part.nd
  refine F.ok sc_behind_part (fun vs H Q E h => SpF.len (n := 1) (fun _ => rfl) h) (fun cdv A outer s H vs Q E hr h => ⟨_, PSs.nox
    (pss_cons (ps_if (pt_cmpR (op_eqD hr.units) (pv 0) (pe_tup pa_nil) (nomark _)) (pss_one (ps_ret (pe_lst pa_nil))) pss_nil)
    (pss_cons (ps_asg (pe_ix ix_seq (pv 0) (pe_un un_neg pe_int) (fun _ _ => rfl)) (pg_tup rfl (pgs_cons (pg_name (i := 1) nd rfl (Or.inl rfl)) (pgs_cons (pg_name (i := 2) nd rfl (Or.inl rfl)) pgs_nil))))
    (pss_one (ps_ret (pe_lst (pa_cons (pe_tup (pa_cons (pe_slice sl_tupA (pv 0) po_none (po_some (pe_un un_neg pe_int))) (pa_cons (pv 1) (pa_cons (pe_op op_add (pv 2) pe_int) (pa_cons pe_bl pa_nil))))) pa_nil)))))), ?_⟩)
  obtain ⟨W, y, rfl, ok, hp, hq⟩ := h
  have S := sta_start ["way", "part", "k"] ok
  refine q_when S (t_B (e_eq (e := .tuple []) (e_var rfl) (e_tup (ds := []) a_nil (Nat.zero_le _)) (fl_way y).flat (fl_way []).flat)) (fun h W S => ?_) (fun h W S => ?_)
  · have e : y = [] := by
      cases y with
      | nil => rfl
      | cons a b => exact absurd h (by simp [encWay, PyData.eqv, PyData.eqvAll])
    refine s_ret S e_lst0 fun v W' si ok => ?_
    refine hq v W' (si.lep fun _ h => h) ?_
    show SvOk _ _ _ (.dat (.list ((behindPart y).map encSpot)))
    rw [e]
    exact ok
  · rcases List.eq_nil_or_concat y with e | ⟨z, a, e⟩
    · exact absurd h (by rw [e]; simp [encWay, PyData.eqv, PyData.eqvAll])
    · rw [List.concat_eq_append] at e
      have ey : encWay y = .tuple (z.map encPl ++ [encPl a]) := by rw [e, encWay, List.map_append]; rfl
      refine q_asg S (e_ixT (d := encPl a) ((e_var (s := .dat (encWay y)) rfl).to (by rw [ey])) (e_neg e_int) (atLast _ _)) g_tup2 fun σ W S => ?_
      have hsl : EvS (C0 P w K) (((([some (.dat (encWay y)), none, none] : Ga).set 1 (some (.dat (.int (a.1 : Int))))).set 2 (some (.dat (.int (a.2 : Int)))))) [] (tSl (rSlA K) (tVar 0) tNoPart (tPart (tUn (rU fun i => .int (-i)) (tC (.int 1))))) (.dat (encWay z)) := by
        have := e_slT (C := C0 P w K) (Γ := ((([some (.dat (encWay y)), none, none] : Ga).set 1 (some (.dat (.int (a.1 : Int))))).set 2 (some (.dat (.int (a.2 : Int)))))) (M := []) ((e_var (i := 0) (s := .dat (encWay y)) rfl).to (by rw [ey])) o_none (o_some (e_neg (i := 1) e_int))
        rw [cutLast] at this
        exact this
      refine s_ret S (e_one (e_mk hsl (e_var rfl) (e_add1 (e_var rfl)))) fun v W' si ok => ?_
      refine hq v W' (si.lep fun _ h => h) ?_
      show SvOk _ _ _ (.dat (.list ((behindPart y).map encSpot)))
      have : behindPart y = [⟨z, a.1, a.2 + 1, false⟩] := by rw [e]; simp [behindPart]
      rw [this]
      exact ok
end
end Dr
namespace Dr
open PySem PySem.Spec PyProof.Rows L2

/-! spots -/
def spot0 : Spot := ⟨[], 0, 0, false⟩
def spLoop (p : Prog) : Nat → List Spot → List Spot → List Spot
  | 0, found, _ => found
  | _ + 1, found, [] => found
  | n + 1, found, s :: rest => if s ∈ found then spLoop p n found rest else spLoop p n (found ++ [s]) (nexts p s ++ rest)
def spotsOf (p : Prog) : List Spot := spLoop p 1000 [] [spot0]
structure Small (p : Prog) : Prop where
  all : ∃ U : List Spot, U.length ≤ 120 ∧ ∀ s, OkSpot p s → s ∈ U
  flat : ∃ U : List Spot, U.length ≤ 60 ∧ ∀ s, OkSpot p s → s.head = false → s ∈ U
theorem ok_spot0 {p : Prog} (O : OkP p) : OkSpot p spot0 := by
  cases p with
  | nil => exact absurd rfl O.ne
  | cons a b => exact ⟨.nil, a, rfl, Nat.zero_le _, fun z => nomatch z⟩
structure Clos (p : Prog) (found wt : List Spot) : Prop where
  nd : found.Nodup
  ok : ∀ s ∈ found, OkSpot p s
  okw : ∀ s ∈ wt, OkSpot p s
  cl : ∀ s ∈ found, ∀ t ∈ nexts p s, t ∈ found ∨ t ∈ wt
  st : spot0 ∈ found ∨ spot0 ∈ wt
theorem Clos.len {p : Prog} {found wt : List Spot} (c : Clos p found wt) (m : Small p) : found.length ≤ 120 := by
  obtain ⟨U, h1, h2⟩ := m.all
  exact Nat.le_trans (nodup_len c.nd fun s hs => h2 s (c.ok s hs)) h1
theorem Clos.skip {p : Prog} {found rest : List Spot} {s : Spot} (c : Clos p found (s :: rest)) (h : s ∈ found) : Clos p found rest := by
  have sub : ∀ t, t ∈ found ∨ t ∈ s :: rest → t ∈ found ∨ t ∈ rest := fun t z => by
    rcases z with z | z
    · exact .inl z
    · rcases List.mem_cons.mp z with e | z
      · exact .inl (e ▸ h)
      · exact .inr z
  exact ⟨c.nd, c.ok, fun t ht => c.okw t (List.mem_cons_of_mem _ ht), fun t ht u hu => sub u (c.cl t ht u hu), sub _ c.st⟩
theorem Clos.add {p : Prog} (O : OkP p) {found rest : List Spot} {s : Spot} (c : Clos p found (s :: rest)) (h : s ∉ found) : Clos p (found ++ [s]) (nexts p s ++ rest) := by
  have os := c.okw s List.mem_cons_self
  have sub : ∀ t, t ∈ found ∨ t ∈ s :: rest → t ∈ found ++ [s] ∨ t ∈ nexts p s ++ rest := fun t z => by
    rcases z with z | z
    · exact .inl (List.mem_append_left _ z)
    · rcases List.mem_cons.mp z with e | z
      · exact .inl (List.mem_append_right _ (e ▸ List.mem_singleton_self _))
      · exact .inr (List.mem_append_right _ z)
  refine ⟨?_, fun t ht => ?_, fun t ht => ?_, fun t ht u hu => ?_, sub _ c.st⟩
  · rw [List.nodup_append]
    exact ⟨c.nd, by simp, fun a ha b hb e => h (by rw [List.mem_singleton.mp hb] at e; exact e ▸ ha)⟩
  · rcases List.mem_append.mp ht with z | z
    · exact c.ok t z
    · rw [List.mem_singleton.mp z]; exact os
  · rcases List.mem_append.mp ht with z | z
    · exact nexts_ok O os z
    · exact c.okw t (List.mem_cons_of_mem _ z)
  · rcases List.mem_append.mp ht with z | z
    · exact sub u (c.cl t z u hu)
    · rw [List.mem_singleton.mp z] at hu
      exact .inr (List.mem_append_left _ hu)
theorem spLoop_clos {p : Prog} (O : OkP p) (m : Small p) : ∀ (n : Nat) (found wt : List Spot), Clos p found wt → 3 * (120 - found.length) + wt.length + 1 ≤ n → Clos p (spLoop p n found wt) []
  | 0, found, wt, c, h => by omega
  | n + 1, found, [], c, h => c
  | n + 1, found, s :: rest, c, h => by
    unfold spLoop
    split
    · rename_i hs
      refine spLoop_clos O m n found rest (c.skip hs) ?_
      rw [List.length_cons] at h
      omega
    · rename_i hs
      have c' := c.add O hs
      refine spLoop_clos O m n _ _ c' ?_
      have h1 := c'.len m
      have h2 := nexts_len p s
      rw [List.length_append, List.length_singleton] at h1
      rw [List.length_cons] at h
      rw [List.length_append, List.length_append, List.length_singleton]
      omega
theorem clos0 {p : Prog} (O : OkP p) : Clos p [] [spot0] := ⟨List.nodup_nil, fun s h => (nomatch h), fun s h => (List.mem_singleton.mp h) ▸ ok_spot0 O, fun s h => (nomatch h), .inr (List.mem_singleton_self _)⟩
theorem spots_clos {p : Prog} (O : OkP p) (m : Small p) : Clos p (spotsOf p) [] := spLoop_clos O m _ _ _ (clos0 O) (by simp)
def numsOf (p : Prog) : List (Spot × PyData) := (spotsOf p).zipIdx.map fun a => (a.1, .int (a.2 : Int))
theorem eqv_nil (ds : List PyData) : PyData.eqv (.list ds) (.list []) = ds.isEmpty := by
  cases ds <;> simp [PyData.eqv, PyData.eqvAll]
section
variable {P : Program} {w : World} {K : PySem.W.Frag} {mg : Str → Option Value} {base : Heap} {f f1 f2 f3 f4 f5 : Addr} {fd d1 d2 d3 d4 d5 : FuncData} {aO aG : Addr} {C : Cn} {Γ : Ga} {M : Ms} {ta tb tc te : TE}
abbrev sp_spots (P : Program) (w : World) (K : PySem.W.Frag) : Sp := SpF (C0 P w K) (α := Prog) (fun a => [.dat (encProg a)]) (fun a => OkP a ∧ Small a) (fun a => .dat (.list ((spotsOf a).map encSpot)))
abbrev sp_numbers_of (P : Program) (w : World) (K : PySem.W.Frag) : Sp := SpF (C0 P w K) (α := Prog) (fun a => [.dat (encProg a)]) (fun a => OkP a ∧ Small a) (fun a => .dic Spot ESpot (numsOf a))
theorem kw_again {l : Line} (h : l.kw = .again) : l = .again := by cases l <;> first | rfl | (exfalso; simp [Line.kw] at h; done)
theorem sc_behind_end : FnScope ["way", "part", "lines", "k", "head"] ["way", "part", "lines", "k"] (defScope s_behind_end) := ⟨rfl, rfl, rfl, by decide +kernel, rfl, by decide +kernel, by decide +kernel⟩
theorem ok_behind_end (c_head_of : Cal P w K mg base 1 "head_of" ["lines", "k"] (sp_head_of P w K) f1 d1) (F : FnP K "behind_end" "behind_end" s_behind_end f fd) : FnOk P w K mg base CX0 2 f fd ["way", "part", "lines", "k"] (sp_behind_end P w K) := by
  have nd := sc_behind_end.nd
  refine F.ok sc_behind_end (fun vs H Q E h => SpF.len (n := 4) (fun _ => rfl) h) (fun cdv A outer s H vs Q E hr h => ⟨_, PSs.nox
    (pss_cons (ps_set (i := 4) nd rfl (Or.inl rfl) (pe_call c_head_of.F (hr.mono (by decide)) (by rfl) c_head_of.m c_head_of.k c_head_of.b .nil pass0 (pa_cons (pv 2) (pa_cons (pv 3) pa_nil))))
    (pss_cons (ps_if (pt_cmpR (op_eqD hr.units) (pe_ix ix_seq (pe_ix ix_seq (pv 2) (pv 4) (fun _ _ => rfl)) pe_int (fun _ _ => rfl)) pe_str (nomark _)) (pss_one (ps_ret (pe_lst (pa_cons (pe_tup (pa_cons (pv 0) (pa_cons (pv 1) (pa_cons (pv 4) (pa_cons pe_bl pa_nil))))) pa_nil)))) pss_nil)
    (pss_one (ps_ret (pe_lst (pa_cons (pe_tup (pa_cons (pv 0) (pa_cons (pv 1) (pa_cons (pe_op op_add (pv 3) pe_int) (pa_cons pe_bl pa_nil))))) pa_nil)))))), ?_⟩)
  obtain ⟨W, ⟨⟨y, i⟩, ⟨ls, k⟩, hh⟩, rfl, ok, hp, hq⟩ := h
  obtain ⟨hp, hk⟩ := hp
  have hp : headOf ls k = some hh := hp
  have S := sta_start ["way", "part", "lines", "k", "head"] ok
  refine q_set S (e_call ((ls, k), hh) (a_cons (e_var rfl) (a_cons (e_var rfl) a_nil)) ⟨hp, hk⟩) fun σ W S => ?_
  have e1 := List.getElem?_eq_getElem (headOf_lt hp)
  refine q_when S (t_B (e_word .again (e_line (e_var rfl) (e_var rfl) e1) rfl)) (fun h W S => ?_) (fun h W S => ?_)
  · refine s_ret S (e_one (e_mk (e_var rfl) (e_var rfl) (e_var rfl))) fun v W' si ok => ?_
    refine hq v W' (si.lep fun _ h => h) ?_
    show SvOk _ _ _ (.dat (.list ((behindEnd y i ls k hh).map encSpot)))
    rw [behindEnd, if_pos (by rw [e1, kw_again (of_decide_eq_true h)])]
    exact ok
  · refine s_ret S (e_one (e_mk (e_var rfl) (e_var rfl) (e_add1 (e_var rfl)))) fun v W' si ok => ?_
    refine hq v W' (si.lep fun _ h => h) ?_
    show SvOk _ _ _ (.dat (.list ((behindEnd y i ls k hh).map encSpot)))
    rw [behindEnd, if_neg (by rw [e1]; intro z; exact of_decide_eq_false h (by rw [Option.some.inj z]; rfl))]
    exact ok
theorem sc_next_spots : FnScope ["program", "spot", "way", "part", "k", "head", "lines", "word"] ["program", "spot"] (defScope s_next_spots) := ⟨rfl, rfl, rfl, by decide +kernel, rfl, by decide +kernel, by decide +kernel⟩
theorem ok_next_spots (T : Txt K mg aO aG) (c_end_of : Cal P w K mg base 1 "end_of" ["lines", "k"] (sp_end_of P w K) f1 d1) (c_or_of : Cal P w K mg base 1 "or_of" ["lines", "k"] (sp_or_of P w K) f2 d2) (c_behind_part : Cal P w K mg base 1 "behind_part" ["way"] (sp_behind_part P w K) f3 d3)
    (c_behind_end : Cal P w K mg base 2 "behind_end" ["way", "part", "lines", "k"] (sp_behind_end P w K) f4 d4) (c_number_of : Cal P w K mg base 1 "number_of" ["program", "name"] (sp_number_of P w K) f5 d5) (F : FnP K "next_spots" "next_spots" s_next_spots f fd) : FnOk P w K mg base CX0 3 f fd ["program", "spot"] (sp_next_spots P w K) := by
  have nd := sc_next_spots.nd
  have tx := T
  refine F.ok sc_next_spots (fun vs H Q E h => SpF.len (n := 2) (fun _ => rfl) h) (fun cdv A outer s H vs Q E hr h => ⟨_, PSs.nox
    (pss_cons (ps_asg (pv 1) (pg_tup rfl (pgs_cons (pg_name (i := 2) nd rfl (Or.inl rfl)) (pgs_cons (pg_name (i := 3) nd rfl (Or.inl rfl)) (pgs_cons (pg_name (i := 4) nd rfl (Or.inl rfl)) (pgs_cons (pg_name (i := 5) nd rfl (Or.inl rfl)) pgs_nil))))))
    (pss_cons (ps_set (i := 6) nd rfl (Or.inl rfl) (pe_ix ix_seq (pe_ix ix_seq (pv 0) (pv 3) (fun _ _ => rfl)) pe_int (fun _ _ => rfl)))
    (pss_cons (ps_if (pt_val (pv 5)) (pss_one (ps_ret (pe_lst (pa_cons (pe_tup (pa_cons (pv 2) (pa_cons (pv 3) (pa_cons (pe_op op_add (pe_call c_end_of.F (hr.mono (by decide)) (by rfl) c_end_of.m c_end_of.k c_end_of.b .nil pass0 (pa_cons (pv 6) (pa_cons (pv 4) pa_nil))) pe_int) (pa_cons pe_bl pa_nil))))) (pa_cons (pe_tup (pa_cons (pv 2) (pa_cons (pv 3) (pa_cons (pe_op op_add (pv 4) pe_int) (pa_cons pe_bl pa_nil))))) pa_nil))))) pss_nil)
    (pss_cons (ps_if (pt_cmpR (op_eqD hr.units) (pv 4) (pe_callB cr_len (by rfl) tx.len PySem.boot_len (pa_cons (pv 6) pa_nil)) (nomark _)) (pss_one (ps_ret (pe_call c_behind_part.F (hr.mono (by decide)) (by rfl) c_behind_part.m c_behind_part.k c_behind_part.b .nil pass0 (pa_cons (pv 2) pa_nil)))) pss_nil)
    (pss_cons (ps_set (i := 7) nd rfl (Or.inl rfl) (pe_ix ix_seq (pe_ix ix_seq (pv 6) (pv 4) (fun _ _ => rfl)) pe_int (fun _ _ => rfl)))
    (pss_cons (ps_if (pt_cmpR (op_eqD hr.units) (pv 7) pe_str (nomark _)) (pss_one (ps_ret (pe_lst (pa_cons (pe_tup (pa_cons (pv 2) (pa_cons (pv 3) (pa_cons (pe_op op_add (pv 4) pe_int) (pa_cons pe_bl pa_nil))))) (pa_cons (pe_tup (pa_cons (pv 2) (pa_cons (pv 3) (pa_cons (pe_op op_add (pe_call c_or_of.F (hr.mono (by decide)) (by rfl) c_or_of.m c_or_of.k c_or_of.b .nil pass0 (pa_cons (pv 6) (pa_cons (pv 4) pa_nil))) pe_int) (pa_cons pe_bl pa_nil))))) pa_nil))))) pss_nil)
    (pss_cons (ps_if (pt_cmpR (op_eqD hr.units) (pv 7) pe_str (nomark _)) (pss_one (ps_ret (pe_lst (pa_cons (pe_tup (pa_cons (pv 2) (pa_cons (pv 3) (pa_cons (pe_op op_add (pe_call c_end_of.F (hr.mono (by decide)) (by rfl) c_end_of.m c_end_of.k c_end_of.b .nil pass0 (pa_cons (pv 6) (pa_cons (pv 4) pa_nil))) pe_int) (pa_cons pe_bl pa_nil))))) pa_nil)))) pss_nil)
    (pss_cons (ps_if (pt_cmpR (op_eqD hr.units) (pv 7) pe_str (nomark _)) (pss_one (ps_ret (pe_lst (pa_cons (pe_tup (pa_cons (pv 2) (pa_cons (pv 3) (pa_cons (pv 4) (pa_cons pe_bl pa_nil))))) pa_nil)))) pss_nil)
    (pss_cons (ps_if (pt_cmpR (op_eqD hr.units) (pv 7) pe_str (nomark _)) (pss_one (ps_ret (pe_call c_behind_end.F (hr.mono (by decide)) (by rfl) c_behind_end.m c_behind_end.k c_behind_end.b .nil pass0 (pa_cons (pv 2) (pa_cons (pv 3) (pa_cons (pv 6) (pa_cons (pv 4) pa_nil))))))) pss_nil)
    (pss_cons (ps_if (pt_cmpR (op_eqD hr.units) (pv 7) pe_str (nomark _)) (pss_one (ps_ret (pe_lst (pa_cons (pe_tup (pa_cons (pe_op op_catA (pv 2) (pe_tup (pa_cons (pe_tup (pa_cons (pv 3) (pa_cons (pv 4) pa_nil))) pa_nil))) (pa_cons (pe_call c_number_of.F (hr.mono (by decide)) (by rfl) c_number_of.m c_number_of.k c_number_of.b .nil pass0 (pa_cons (pv 0) (pa_cons (pe_ix ix_seq (pe_ix ix_seq (pv 6) (pv 4) (fun _ _ => rfl)) pe_int (fun _ _ => rfl)) pa_nil))) (pa_cons pe_int (pa_cons pe_bl pa_nil))))) pa_nil)))) pss_nil)
    (pss_one (ps_ret (pe_lst (pa_cons (pe_tup (pa_cons (pv 2) (pa_cons (pv 3) (pa_cons (pe_op op_add (pv 4) pe_int) (pa_cons pe_bl pa_nil))))) pa_nil)))))))))))))), ?_⟩)
  obtain ⟨W, ⟨p, s⟩, rfl, ok, ⟨O, OS⟩, hq⟩ := h
  have O : OkP p := O
  have OS : OkSpot p s := OS
  have hq : ∀ v W', Le W W' → SvOk (C0 P w K) W'.G v (.dat (.list ((nexts p s).map encSpot))) → Q v W'.H := hq
  have hwl := OS.way.len
  obtain ⟨hw, pt, hp, hk, hh⟩ := OS
  have hpl := (List.getElem?_eq_some_iff.mp hp).1
  have hnx : nexts p s = nextsL p s pt.2 := by unfold nexts; rw [hp]
  rw [hnx] at hq
  have S := sta_start ["program", "spot", "way", "part", "k", "head", "lines", "word"] ok
  refine q_asg S (e_var (s := .dat (encSpot s)) rfl) g_tup4 fun σ W S => ?_
  refine q_set S (e_part (e_var rfl) (e_var rfl) hp) fun σ W S => ?_
  refine q_when S (t_B (e_var (s := .dat (.bool s.head)) rfl)) (fun h W S => ?_) (fun h W S => ?_)
  · obtain ⟨e, he⟩ := O.end_ hp (.inr (hh h))
    refine s_ret S (e_two (e_mk (e_var rfl) (e_var rfl) (e_add1 (e_call ((pt.2, s.k), e) (a_cons (e_var rfl) (a_cons (e_var rfl) a_nil)) he))) (e_mk (e_var rfl) (e_var rfl) (e_add1 (e_var rfl)))) fun v W' si ok => ?_
    refine hq v W' (si.lep fun _ h => h) ?_
    rw [nextsL, if_pos h, he]
    exact ok
  · have hh' : ¬ s.head = true := by rw [h]; decide
    rw [nextsL, if_neg hh'] at hq
    refine q_when S (t_B (e_eqI (e_var rfl) (e_lenLs (e_var rfl)))) (fun h2 W S => ?_) (fun h2 W S => ?_)
    · have h2 := of_decide_eq_true h2
      rw [List.getElem?_eq_none (by omega)] at hq
      refine s_ret S (e_call s.way (a_cons (e_var rfl) a_nil) trivial) fun v W' si ok => ?_
      exact hq v W' (si.lep fun _ h => h) ok
    · have h2 := of_decide_eq_false h2
      have hlt : s.k < pt.2.length := by omega
      have e1 := List.getElem?_eq_getElem hlt
      revert e1
      generalize pt.2[s.k] = l
      intro e1
      rw [e1] at hq
      have hq : ∀ v W', Le _ W' → SvOk (C0 P w K) W'.G v (.dat (.list ((stepLine p s pt.2 l).map encSpot))) → Q v W'.H := hq
      refine q_set S (e_ixT0 (e_line (e_var rfl) (e_var rfl) e1)) fun σ W S => ?_
      refine q_when S (t_B (e_wordV .either (e_var rfl) rfl)) (fun hk W S => ?_) (fun hk1 W S => ?_)
      · have el : l = .either := by have := of_decide_eq_true hk; cases l <;> first | rfl | (exfalso; simp [Line.kw] at this; done)
        rw [el] at e1 hq
        obtain ⟨o, ho⟩ := O.or_ hp e1
        refine s_ret S (e_two (e_mk (e_var rfl) (e_var rfl) (e_add1 (e_var rfl))) (e_mk (e_var rfl) (e_var rfl) (e_add1 (e_call ((pt.2, s.k), o) (a_cons (e_var rfl) (a_cons (e_var rfl) a_nil)) ho)))) fun v W' si ok => ?_
        refine hq v W' (si.lep fun _ h => h) ?_
        rw [stepLine, ho]
        exact ok
      refine q_when S (t_B (e_wordV .or_ (e_var rfl) rfl)) (fun hk W S => ?_) (fun hk2 W S => ?_)
      · have el : l = .or_ := by have := of_decide_eq_true hk; cases l <;> first | rfl | (exfalso; simp [Line.kw] at this; done)
        rw [el] at e1 hq
        obtain ⟨o, ho⟩ := O.end_ hp (.inl e1)
        refine s_ret S (e_one (e_mk (e_var rfl) (e_var rfl) (e_add1 (e_call ((pt.2, s.k), o) (a_cons (e_var rfl) (a_cons (e_var rfl) a_nil)) ho)))) fun v W' si ok => ?_
        refine hq v W' (si.lep fun _ h => h) ?_
        rw [stepLine, ho]
        exact ok
      refine q_when S (t_B (e_wordV .again (e_var rfl) rfl)) (fun hk W S => ?_) (fun hk3 W S => ?_)
      · have el : l = .again := by have := of_decide_eq_true hk; cases l <;> first | rfl | (exfalso; simp [Line.kw] at this; done)
        rw [el] at e1 hq
        refine s_ret S (e_one (e_mk (e_var rfl) (e_var rfl) (e_var rfl))) fun v W' si ok => ?_
        exact hq v W' (si.lep fun _ h => h) ok
      refine q_when S (t_B (e_wordV .end_ (e_var rfl) rfl)) (fun hk W S => ?_) (fun hk4 W S => ?_)
      · have el : l = .end_ := by have := of_decide_eq_true hk; cases l <;> first | rfl | (exfalso; simp [Line.kw] at this; done)
        rw [el] at e1 hq
        obtain ⟨o, ho⟩ := O.head hp e1
        refine s_ret S (e_call ((s.way, s.part), (pt.2, s.k), o) (a_cons (e_var rfl) (a_cons (e_var rfl) (a_cons (e_var rfl) (a_cons (e_var rfl) a_nil)))) ⟨ho, Nat.le_of_lt hlt⟩) fun v W' si ok => ?_
        refine hq v W' (si.lep fun _ h => h) ?_
        rw [stepLine, ho]
        exact ok
      refine q_when S (t_B (e_wordV .do_ (e_var rfl) rfl)) (fun hk W S => ?_) (fun hk5 W S => ?_)
      · obtain ⟨n, el⟩ : ∃ n, l = .do_ n := by have := of_decide_eq_true hk; cases l <;> first | exact ⟨_, rfl⟩ | (exfalso; simp [Line.kw] at this; done)
        rw [el] at e1 hq
        obtain ⟨j, hj, _⟩ := O.do_ hp e1
        have hfew := O.few
        refine s_ret S (e_one (e_mk (way := s.way ++ [(s.part, s.k)]) ?_ (e_call ((p, n), j) (a_cons (e_var rfl) (a_cons (e_nm (j := 0) rfl (e_line (e_var rfl) (e_var rfl) e1) rfl) a_nil)) hj) (k := 0) e_int)) fun v W' si ok => ?_
        · refine EvS.to (e_catT (ds := s.way.map encPl) (es := [encPl (s.part, s.k)]) (e_var rfl) (e_tup (ds := [encPl (s.part, s.k)]) (a_cons (e_tup (ds := [.int (s.part : Int), .int (s.k : Int)]) (a_cons (e_var rfl) (a_cons (e_var rfl) a_nil)) (by show 2 ≤ 1000; decide)) a_nil) (by show 1 ≤ 1000; decide)) ?_) ?_
          · rw [List.length_map, List.length_singleton]; omega
          · show _ = Sv.dat (.tuple ((s.way ++ [(s.part, s.k)]).map encPl)); rw [List.map_append]; rfl
        · refine hq v W' (si.lep fun _ h => h) ?_
          rw [stepLine, hj]
          exact ok
      · refine s_ret S (e_one (e_mk (e_var rfl) (e_var rfl) (e_add1 (e_var rfl)))) fun v W' si ok => ?_
        refine hq v W' (si.lep fun _ h => h) ?_
        have : stepLine p s pt.2 l = [⟨s.way, s.part, s.k + 1, false⟩] := by
          cases l <;> first | rfl | (exfalso; simp [Line.kw] at hk1; done) | (exfalso; simp [Line.kw] at hk2; done) | (exfalso; simp [Line.kw] at hk3; done) | (exfalso; simp [Line.kw] at hk4; done) | (exfalso; simp [Line.kw] at hk5; done)
        rw [this]
        exact ok
theorem snd_reverse {α β : Type} (f : α → β) (s : α) (rest : List α) : ((s :: rest).reverse.map f) = rest.reverse.map f ++ [f s] := by rw [List.reverse_cons, List.map_append]; rfl
theorem sc_spots : FnScope ["program", "found", "met", "waiting", "spot", "other"] ["program"] (defScope s_spots) := ⟨rfl, rfl, rfl, by decide +kernel, rfl, by decide +kernel, by decide +kernel⟩
theorem ok_spots (T : Txt K mg aO aG) (c_first_spot : Cal P w K mg base 1 "first_spot" [] (sp_first_spot P w K) f1 d1) (c_next_spots : Cal P w K mg base 3 "next_spots" ["program", "spot"] (sp_next_spots P w K) f2 d2) (F : FnP K "spots" "spots" s_spots f fd) : FnOk P w K mg base CX0 4 f fd ["program"] (sp_spots P w K) := by
  have nd := sc_spots.nd
  have tx := T
  refine F.ok sc_spots (fun vs H Q E h => SpF.len (n := 1) (fun _ => rfl) h) (fun cdv A outer s H vs Q E hr h => ⟨_, PSs.nox
    (pss_cons (ps_set (i := 1) nd rfl (Or.inl rfl) (pe_lst pa_nil))
    (pss_cons (ps_set (i := 2) nd rfl (Or.inl rfl) pe_newN)
    (pss_cons (ps_set (i := 3) nd rfl (Or.inl rfl) (pe_lst (pa_cons (pe_call0 c_first_spot.F (hr.mono (by decide)) (by rfl) c_first_spot.m c_first_spot.k c_first_spot.b .nil pass0) pa_nil)))
    (pss_cons (ps_while PassesOwn.never (pt_cmpR (op_neD hr.units) (pv 3) (pe_lst pa_nil) (nomark _)) (pss_cons (ps_set (i := 4) nd rfl (Or.inl rfl) (pe_bm0 PySem.F.plainAttrs_list PySem.F.slot_list_pop PySem.F.type_list_pop mt_pop (pv 3)))
    (pss_one (ps_if (pt_cmpR (op_notInN ESpot hr.units) (pv 4) (pv 2) (by rfl)) (pss_cons (ps_asg pe_bl (pg_sub (pv 2) (pv 4) (set_N ESpot hr.units)))
    (pss_cons (ps_expr (pe_bm PySem.F.plainAttrs_list PySem.F.slot_list_append PySem.F.type_list_append mt_append (pv 1) (pa_cons (pv 4) pa_nil)))
    (pss_one (ps_for PassesOwn.never rfl (pi_reversed (by rfl) tx.reversed (pa_cons (pe_call c_next_spots.F (hr.mono (by decide)) (by rfl) c_next_spots.m c_next_spots.k c_next_spots.b .nil pass0 (pa_cons (pv 0) (pa_cons (pv 4) pa_nil))) pa_nil)) (pg_name (i := 5) nd rfl (Or.inl rfl)) (pss_one (ps_expr (pe_bm PySem.F.plainAttrs_list PySem.F.slot_list_append PySem.F.type_list_append mt_append (pv 3) (pa_cons (pv 5) pa_nil)))))))) pss_nil))))
    (pss_one (ps_ret (pv 1))))))), ?_⟩)
  obtain ⟨W, p, rfl, ok, ⟨O, m⟩, hq⟩ := h
  have S := sta_start ["program", "found", "met", "waiting", "spot", "other"] ok
  refine q_newL S fun lf σ W S => ?_
  refine q_newD ESpot S fun lm σ W S => ?_
  refine q_newLs (ds := [encSpot spot0]) S (a_cons (e_call () a_nil trivial) a_nil) (by show 1 ≤ 1000; decide) fun lw σ W S => ?_
  refine q_while (C := C0 P w K) (α := Nat × List Spot × List Spot) (fun _ => [some (.dat (encProg p)), some (.loc lf), some (.loc lm), some (.loc lw), none, none])
    (fun a => [(lw, .lst (a.2.2.reverse.map encSpot)), (lm, .dct Spot ESpot (a.2.1.map fun s => (s, .dat (.bool true))) none), (lf, .lst (a.2.1.map encSpot))])
    (fun a => spLoop p a.1 a.2.1 a.2.2 = spotsOf p ∧ Clos p a.2.1 a.2.2 ∧ 3 * (120 - a.2.1.length) + a.2.2.length + 1 ≤ a.1 ∧ a.1 ≤ 1000) (fun a => a.1) (1000, [], [spot0]) S (fun σ W S => S) ⟨rfl, clos0 O, by simp, Nat.le_refl _⟩ fun ⟨n, found, wt⟩ hI0 => ?_
  obtain ⟨hL, hc, hn, hn2⟩ := hI0
  dsimp only at hL hc hn hn2 ⊢
  have hmet : ∀ s : Spot, (s ∈ (found.map fun s => (s, Sv.dat (.bool true))).map (·.1)) ↔ s ∈ found := fun s => by rw [List.map_map]; simp
  refine ⟨_, t_B (e_nev (v_own (j := 0) rfl rfl) e_lst0.v (fl_list (fl_map fl_spot _)).flat (fl_list (n := 3) (ds := []) (fun d h => nomatch h)).flat), fun hb σ W S => ?_, fun hb σ W S => ?_⟩
  · rw [eqv_nil] at hb
    cases n with
    | zero => omega
    | succ n =>
    cases wt with
    | nil => simp at hb
    | cons s rest =>
    rw [snd_reverse] at S
    have hlen := hc.len m
    refine q_pop (j := 0) S rfl rfl (g_name (s := .dat (encSpot s))) fun σ W S => ?_
    refine s_when S (t_B (e_notInN (E := ESpot) (k := s) (j := 1) (e_var rfl) (e_var rfl) rfl)) (fun h W S => ?_) (fun h W S => ?_)
    · have hs : s ∉ found := by simpa using h
      have hc' := hc.add O hs
      have hL' : spLoop p n (found ++ [s]) (nexts p s ++ rest) = spotsOf p := by rw [← hL, spLoop, if_neg hs]
      have hlen' := hc'.len m
      have hnl := nexts_len p s
      refine q_putN (E := ESpot) (k := s) (j := 1) S e_bl (e_var rfl) (e_var rfl) rfl (by rw [hmet]; exact hs) (by rw [List.length_map]; exact Nat.lt_of_le_of_lt hlen (by decide)) fun W S => ?_
      refine q_app (j := 2) S rfl rfl (e_var rfl) (by rw [List.length_map]; exact Nat.lt_of_le_of_lt hlen (by decide)) fun W S => ?_
      refine s_forR (C := C0 P w K) (xs := nexts p s) encSpot (fun _ : List Spot => [some (.dat (encProg p)), some (.loc lf), some (.loc lm), some (.loc lw), none, none])
        (fun a => [(lw, .lst (a.reverse.map encSpot)), (lm, .dct Spot ESpot ((found ++ [s]).map fun s => (s, .dat (.bool true))) none), (lf, .lst ((found ++ [s]).map encSpot))])
        (fun i a => a = ((nexts p s).reverse.take i).reverse ++ rest) rest S (e_call (p, s) (a_cons (e_var rfl) (a_cons (e_var rfl) a_nil)) ⟨O, hc.okw s List.mem_cons_self⟩)
        (fun σ W S => by rw [List.map_append, List.map_append]; exact S.w) (by simp) (fun x => g_name) (fun i a x T' σ W hx hI S => ?_) (fun a σ W hI S => ?_)
      · have hz : (a.reverse.map encSpot).length < sizeLine := by
          rw [List.length_map, List.length_reverse, hI, List.length_append, List.length_reverse, List.length_take, List.length_reverse]
          have : rest.length ≤ 1000 := by
            rw [List.length_cons] at hn
            omega
          show _ < 16777216
          omega
        refine s_app (j := 0) S rfl rfl (e_var rfl) hz fun W S => ?_
        rw [show a.reverse.map encSpot ++ [encSpot x] = (x :: a).reverse.map encSpot from (snd_reverse _ _ _).symm] at S
        refine At.mk (x :: a) ?_ S.w
        rw [take_succ_at hx, List.reverse_append, hI]
        rfl
      · rw [show (nexts p s).length = (nexts p s).reverse.length by rw [List.length_reverse], List.take_length, List.reverse_reverse] at hI
        subst hI
        refine At.mk (n, found ++ [s], nexts p s ++ rest) ⟨⟨hL', hc', ?_, by show n ≤ 1000; omega⟩, Nat.lt_succ_self n⟩ S.w
        rw [List.length_cons] at hn
        show 3 * (120 - (found ++ [s]).length) + (nexts p s ++ rest).length + 1 ≤ n
        rw [List.length_append, List.length_append, List.length_singleton] at *
        omega
    · have hs : s ∈ found := by simpa using h
      have hL' : spLoop p n found rest = spotsOf p := by rw [← hL, spLoop, if_pos hs]
      refine At.mk (n, found, rest) ⟨⟨hL', hc.skip hs, ?_, by show n ≤ 1000; omega⟩, Nat.lt_succ_self n⟩ S.w
      rw [List.length_cons] at hn
      show 3 * (120 - found.length) + rest.length + 1 ≤ n
      omega
  · rw [eqv_nil] at hb
    cases n with
    | zero => omega
    | succ n =>
    cases wt with
    | cons s rest => simp at hb
    | nil =>
    have e : found = spotsOf p := hL
    subst e
    refine s_retO (j := 2) S rfl rfl (fun h => h) fun v W' si ok => ?_
    exact hq v W' (si.lep fun _ h => h) ok
end
end Dr
/-! comprehensions over lists of data -/
namespace Dr
open PySem PySem.Spec PyProof.Rows L2
section
variable {C : Cn} {W0 W : Wo} {T : Kn} {σ : L2.St} {Γ : Ga} {M : Ms} {tl te : TE} {s : Sv} {tt : TT} {D : Ends} {tz : TS} {β : Type} {enc : β → PyData} {xs : List β} {g : TG} {vs : List Nat} {keep : β → Bool} {out : β → PyData} {Γw : Ga} {Γ2 : β → Ga}
theorem lc_list {Q : VK} (S : Sta C W0 T σ W Γ M) (h : EvAt C σ W tl (.dat (.list (xs.map enc))))
    (hw : ∀ T W M, Sta C W0 T σ W Γ M → Sta C W0 T (wipe σ vs) W Γw M)
    (hg : ∀ x T W M v (Q : L2.St → Hp → Prop), Sta C W0 T (wipe σ vs) W Γw M → SvOk C W.G v (.dat (enc x)) → (∀ σ2, Sta C W0 T σ2 W (Γ2 x) M → wipe σ2 vs = wipe σ vs → Q σ2 W.H) → g v (wipe σ vs) W.H Q)
    (ht : ∀ x M, x ∈ xs → EvT C (Γ2 x) M tt (keep x)) (he : ∀ x M, x ∈ xs → keep x = true → EvS C (Γ2 x) M te (.dat (out x))) (hz : xs.length ≤ sizeLine)
    (k : ∀ Dd W', Sta C W0 T σ W' Γ ((Dd, .lst ((xs.filter keep).map out)) :: M) → Q (.ref Dd) W'.H) : tLc (iList C.K tl) g tt te vs σ W.H Q := by
  refine h _ fun v W1 l1 ok => ?_
  cases ok with
  | @lst a vs1 _ hx hall =>
    have S1 := S.le l1
    refine ⟨a, rfl, ⟨vs1, SqL.of (W1.fz _ _ hx)⟩, fun Dd hD => ?_⟩
    have S1' := S1.know (v := .ref a) (s := .dat (.list (xs.map enc))) (.lst hx hall)
    have S2 := S1'.own (o := .lst []) (m := .lst []) hD ⟨[], upd_same, .nil⟩
    have see : ∀ {M' : Ms} {σ' : L2.St} {W' : Wo}, Sta C W0 ((.ref a, .dat (.list (xs.map enc))) :: T) σ' W' Γ M' → ∃ vs, SqL C.K W'.H a vs ∧ DaAll C.K W'.G vs (xs.map enc) ∧ vs.length = xs.length := fun {M' σ' W'} S' => by
      have hk : Da C.K W'.G (.ref a) (.list (xs.map enc)) := S'.kn _ List.mem_cons_self
      cases hk with
      | @lst _ vs _ hx hall => exact ⟨vs, SqL.of (W'.fz _ _ hx), hall, by rw [hall.length, List.length_map]⟩
    refine ⟨fun i m H => m = xs.length - i ∧ i ≤ xs.length ∧ ∃ W', W'.H = H ∧ Sta C W0 ((.ref a, .dat (.list (xs.map enc))) :: T) σ W' Γ ((Dd, .lst (((xs.take i).filter keep).map out)) :: M), ⟨xs.length, by simp, Nat.zero_le _, _, rfl, S2⟩, ?_⟩
    rintro i m H ⟨rfl, hile, W', e, S'⟩
    subst e
    obtain ⟨vs2, hx2, hall2, hl2⟩ := see S'
    by_cases hlt : i < xs.length
    · refine .inr ⟨⟨vs2, vs2[i]'(by omega), hx2, by simp [hl2, hlt]⟩, fun H' => ∃ W', W'.H = H' ∧ Sta C W0 ((.ref a, .dat (.list (xs.map enc))) :: T) σ W' Γ ((Dd, .lst (((xs.take (i + 1)).filter keep).map out)) :: M), fun H' p' => ⟨xs.length - (i + 1), by omega, rfl, hlt, p'⟩, fun x H' y => ?_⟩
      obtain ⟨e, y⟩ := y
      subst e
      obtain ⟨bb, hb, hxb⟩ := enc_at enc hall2 (y vs2 hx2)
      have hbm := List.mem_of_getElem? hb
      have et : (xs.take (i + 1)).filter keep = (xs.take i).filter keep ++ (if keep bb = true then [bb] else []) := by
        rw [take_succ_at hb, List.filter_append]
        congr 1
        rw [List.filter_cons, List.filter_nil]
      refine hg bb _ W' _ x _ (hw _ _ _ S') hxb fun σ2 Sg ew => ⟨ew, ht bb _ hbm W0 _ σ2 W' Sg _ fun W3 l3 => ?_⟩
      by_cases kb : keep bb = true
      · rw [if_pos kb]
        refine he bb _ hbm kb W0 _ σ2 W3 (Sg.le l3) _ fun y W4 l4 oky => ?_
        have S4 := (S'.le l3).le l4
        obtain ⟨g4, _, acc, hacc, hda⟩ := S4.mu _ List.mem_cons_self
        have hlen : acc.length < sizeLine := by
          rw [hda.length, List.length_map]
          have h1 := List.length_filter_le keep (xs.take i)
          rw [List.length_take] at h1
          omega
        refine ⟨acc, hacc, hlen, W4.put Dd (.lst (acc ++ [y])) g4, rfl, ?_⟩
        have := S4.change (j := 0) (m' := .lst (((xs.take (i + 1)).filter keep).map out)) rfl g4 ⟨acc ++ [y], upd_same, by rw [et, if_pos kb, List.map_append]; exact hda.append (.one oky)⟩
        exact this
      · rw [if_neg kb]
        refine ⟨W3, rfl, ?_⟩
        rw [et, if_neg kb, List.append_nil]
        exact S'.le l3
    · have e : i = xs.length := by omega
      subst e
      rw [List.take_length] at S'
      exact .inl ⟨⟨vs2, hx2, by omega⟩, k Dd W' S'.unknow⟩
theorem Sta.wipe1 (S : Sta C W0 T σ W Γ M) (i : Nat) : Sta C W0 T (σ.set i none) W (Γ.set i none) M := by
  refine ⟨S.since, S.kn, by rw [List.length_set, List.length_set]; exact S.len, fun j s e => ?_, S.mu, S.nd⟩
  by_cases q : i = j
  · subst q
    have hi : i < Γ.length := by
      have := (List.getElem?_eq_some_iff.mp e).1
      simpa using this
    rw [List.getElem?_set_self hi] at e
    cases e
  · rw [List.getElem?_set_ne q] at e
    obtain ⟨u, h1, h2⟩ := S.sl j s e
    exact ⟨u, by rw [List.getElem?_set_ne q]; exact h1, h2⟩
theorem wipe_idem1 {σ : L2.St} {i : Nat} {v : Option V} : wipe ((wipe σ [i]).set i v) [i] = wipe σ [i] := by
  show ((σ.set i none).set i v).set i none = σ.set i none
  rw [List.set_set, List.set_set]
/-- [e for x in l if t], x a name -/
theorem lc_name {Q : VK} {i : Nat} (S : Sta C W0 T σ W Γ M) (h : EvAt C σ W tl (.dat (.list (xs.map enc))))
    (ht : ∀ x M, x ∈ xs → EvT C (Γ.set i (some (.dat (enc x)))) M tt (keep x)) (he : ∀ x M, x ∈ xs → keep x = true → EvS C (Γ.set i (some (.dat (enc x)))) M te (.dat (out x))) (hz : xs.length ≤ sizeLine)
    (k : ∀ Dd W', Sta C W0 T σ W' Γ ((Dd, .lst ((xs.filter keep).map out)) :: M) → Q (.ref Dd) W'.H) : tLc (iList C.K tl) (gName i) tt te [i] σ W.H Q := by
  refine lc_list (Γw := Γ.set i none) (Γ2 := fun x => Γ.set i (some (.dat (enc x)))) S h (fun T W M S => S.wipe1 i) (fun x T W M v Q S hv k => k _ ?_ wipe_idem1) ht he hz k
  have := S.set i hv
  rw [List.set_set] at this
  exact this
theorem q_lcSet {i j : Nat} (S : Sta C W0 T σ W Γ M) (h : EvS C Γ M tl (.dat (.list (xs.map enc))))
    (ht : ∀ x M, x ∈ xs → EvT C (Γ.set i (some (.dat (enc x)))) M tt (keep x)) (he : ∀ x M, x ∈ xs → keep x = true → EvS C (Γ.set i (some (.dat (enc x)))) M te (.dat (out x))) (hz : xs.length ≤ sizeLine)
    (k : ∀ Dd σ' W', Sta C W0 T σ' W' (Γ.set j (some (.loc Dd))) ((Dd, .lst ((xs.filter keep).map out)) :: M) → tz D σ' W'.H) : tSeq (tAsg (tLc (iList C.K tl) (gName i) tt te [i]) (gName j)) tz D σ W.H :=
  lc_name (Q := fun v H => tz D (σ.set j (some v)) H) S (h.at S) ht he hz fun Dd W' S' => k Dd _ W' (S'.set j (s := .loc Dd) rfl)
/-- a comprehension's outcome as data -/
theorem e_lcOf {te : TE} {d : List PyData} (hA : ∀ a, ¬ C.A a) (h : ∀ W0 T σ W, Sta C W0 T σ W Γ [] → ∀ Q : VK, (∀ Dd W', Sta C W0 T σ W' Γ [(Dd, .lst d)] → Q (.ref Dd) W'.H) → te σ W.H Q) : EvS C Γ M te (.dat (.list d)) := fun W0 T σ W S Q k => by
  have Sb : Sta C W T σ W Γ [] := ⟨Since.of (Le.refl W), S.kn, S.len, S.sl, fun p hp => (nomatch hp), List.nodup_nil⟩
  refine h W T σ W Sb Q fun Dd W' S' => ?_
  have hn := (S'.mu _ List.mem_cons_self).2.1.resolve_right (hA _)
  obtain ⟨W2, e, S2, ok⟩ := S'.freeze (j := 0) rfl hn
  rw [← e]
  exact k _ W2 (S2.since.lep hA) ok
theorem e_lc1 {i : Nat} (hA : ∀ a, ¬ C.A a) (h : EvS C Γ [] tl (.dat (.list (xs.map enc))))
    (ht : ∀ x M, x ∈ xs → EvT C (Γ.set i (some (.dat (enc x)))) M tt (keep x)) (he : ∀ x M, x ∈ xs → keep x = true → EvS C (Γ.set i (some (.dat (enc x)))) M te (.dat (out x))) (hz : xs.length ≤ sizeLine) : EvS C Γ M (tLc (iList C.K tl) (gName i) tt te [i]) (.dat (.list ((xs.filter keep).map out))) :=
  e_lcOf hA fun W0 T σ W S Q k => lc_name S (h.at S) ht he hz k
/-- a 3-tuple of names -/
theorem wipe3 {σ : L2.St} {i j k : Nat} (h1 : i ≠ j) (h2 : i ≠ k) (h3 : j ≠ k) {a b c : Option V} : wipe ((((wipe σ [i, j, k]).set i a).set j b).set k c) [i, j, k] = wipe σ [i, j, k] := by
  show (((((((σ.set k none).set j none).set i none).set i a).set j b).set k c).set k none |>.set j none |>.set i none) = ((σ.set k none).set j none).set i none
  refine List.ext_getElem? fun n => ?_
  simp only [List.getElem?_set, List.length_set]
  repeat' split
  all_goals first | rfl | (exfalso; omega) | simp_all
end
end Dr
namespace Dr
open PySem PySem.Spec PyProof.Rows L2

/-! rules -/
def extraH (l : Line) (h t : Nat × Nat) : List Rule := match l with
  | .pair x _ y z => [.push ⟨h.1, h.2, y⟩ 1 ⟨t.1, t.2, x⟩, .push ⟨h.1, h.2, z⟩ 2 ⟨t.1, t.2, x⟩]
  | .same x y => [.copy ⟨h.1, h.2, y⟩ ⟨t.1, t.2, x⟩]
  | .first x y => [.pop ⟨h.1, h.2, y⟩ 1 ⟨t.1, t.2, x⟩]
  | .second x y => [.pop ⟨h.1, h.2, y⟩ 2 ⟨t.1, t.2, x⟩]
  | _ => []
def extraO (f : Line → List Rule) : Option Line → List Rule
  | none => []
  | some l => f l
def freshOf (o : Option Line) : Option Nm := o.bind Line.gives
def copies (bs : List Nm) (o : Option Line) (h t : Nat × Nat) : List Rule := (bs.filter fun b => !decide (some b = freshOf o)).map fun b => .copy ⟨h.1, h.2, b⟩ ⟨t.1, t.2, b⟩
def boxRules (bs : List Nm) (o : Option Line) (h t : Nat × Nat) : List Rule := copies bs o h t ++ extraO (fun l => extraH l h t) o
def readW (l : Line) (h : Nat) : List Rule := match l.reads with
  | none => []
  | some b => [.end_ ⟨0, h, b⟩]
def extraW (l : Line) (h t : Nat) : List Rule := match l with
  | .same x y => [.copy ⟨0, t, x⟩ ⟨0, h, y⟩]
  | .first x y => [.push ⟨0, t, x⟩ 1 ⟨0, h, y⟩]
  | .second x y => [.push ⟨0, t, x⟩ 2 ⟨0, h, y⟩]
  | .pair x _ y z => [.pop ⟨0, t, x⟩ 1 ⟨0, h, y⟩, .pop ⟨0, t, x⟩ 2 ⟨0, h, z⟩]
  | _ => []
def wantRules (bs : List Nm) (o : Option Line) (h t : Nat) : List Rule := copies bs o (0, t) (0, h) ++ extraO (fun l => readW l h ++ extraW l h t) o
section
variable {P : Program} {w : World} {K : PySem.W.Frag} {mg : Str → Option Value} {base : Heap} {f f1 f2 f3 f4 f5 : Addr} {fd d1 d2 d3 d4 d5 : FuncData} {aO aG : Addr} {C : Cn} {Γ : Ga} {M : Ms} {ta tb tc te : TE}
abbrev sp_box_rules (P : Program) (w : World) (K : PySem.W.Frag) : Sp := SpF (C0 P w K) (α := (List Nm × Option Line) × (Nat × Nat) × (Nat × Nat)) (fun a => [.dat (.list (a.1.1.map encN)), .dat (encOL a.1.2), .dat (encPl a.2.1), .dat (encPl a.2.2)]) (fun a => a.1.1.length < 64) (fun a => .dat (.list ((boxRules a.1.1 a.1.2 a.2.1 a.2.2).map encRule)))
abbrev sp_want_rules (P : Program) (w : World) (K : PySem.W.Frag) : Sp := SpF (C0 P w K) (α := (List Nm × Option Line) × Nat × Nat) (fun a => [.dat (.list (a.1.1.map encN)), .dat (encOL a.1.2), .dat (.int (a.2.1 : Int)), .dat (.int (a.2.2 : Int))]) (fun a => a.1.1.length < 64) (fun a => .dat (.list ((wantRules a.1.1 a.1.2 a.2.1 a.2.2).map encRule)))
theorem idx_keys {α β : Type} {f : Nat → β} : ∀ (xs : List α) (n : Nat), ((xs.zipIdx n).map fun a => (a.1, f a.2)).map (·.1) = xs
  | [], _ => rfl
  | x :: xs, n => by rw [List.zipIdx_cons, List.map_cons, List.map_cons, idx_keys xs (n + 1)]
theorem nums_keys (p : Prog) : (numsOf p).map (·.1) = spotsOf p := idx_keys (f := fun i : Nat => PyData.int (i : Int)) (spotsOf p) 0
theorem nums_at {p : Prog} {i : Nat} {s : Spot} (h : (spotsOf p)[i]? = some s) : (numsOf p)[i]? = some (s, .int (i : Int)) := by
  unfold numsOf
  rw [List.getElem?_map, List.getElem?_zipIdx, h]
  simp
theorem sc_numbers_of : FnScope ["program", "found", "number", "spot"] ["program"] (defScope s_numbers_of) := ⟨rfl, rfl, rfl, by decide +kernel, rfl, by decide +kernel, by decide +kernel⟩
theorem ok_numbers_of (T : Txt K mg aO aG) (c_spots : Cal P w K mg base 4 "spots" ["program"] (sp_spots P w K) f1 d1) (F : FnP K "numbers_of" "numbers_of" s_numbers_of f fd) : FnOk P w K mg base CX0 5 f fd ["program"] (sp_numbers_of P w K) := by
  have nd := sc_numbers_of.nd
  have tx := T
  refine F.ok sc_numbers_of (fun vs H Q E h => SpF.len (n := 1) (fun _ => rfl) h) (fun cdv A outer s H vs Q E hr h => ⟨_, PSs.nox
    (pss_cons (ps_set (i := 1) nd rfl (Or.inl rfl) pe_newN)
    (pss_cons (ps_for PassesOwn.never rfl (pi_enum (by rfl) tx.enumerate (pa_cons (pe_call c_spots.F (hr.mono (by decide)) (by rfl) c_spots.m c_spots.k c_spots.b .nil pass0 (pa_cons (pv 0) pa_nil)) pa_nil)) (pg_tup rfl (pgs_cons (pg_name (i := 2) nd rfl (Or.inl rfl)) (pgs_cons (pg_name (i := 3) nd rfl (Or.inl rfl)) pgs_nil))) (pss_one (ps_asg (pv 2) (pg_sub (pv 1) (pv 3) (set_N ESpot hr.units)))))
    (pss_one (ps_ret (pv 1))))), ?_⟩)
  obtain ⟨W, p, rfl, ok, ⟨O, m⟩, hq⟩ := h
  have cl := spots_clos O m
  have S := sta_start ["program", "found", "number", "spot"] ok
  refine q_newD ESpot S fun l σ W S => ?_
  refine q_forE (C := C0 P w K) (xs := spotsOf p) encSpot (fun _ : Unit × Nat => [some (.dat (encProg p)), some (.loc l), none, none]) (fun a => [(l, .dct Spot ESpot (((numsOf p).take a.2).map fun q => (q.1, .dat q.2)) none)])
    (fun i a => a.2 = i) ((), 0) S (e_call p (a_cons (e_var rfl) a_nil) ⟨O, m⟩) (fun σ W S => S) rfl (fun i x => g_tup2) (fun i a x T' σ W hx hI S => ?_) (fun a σ W hI S => ?_)
  · obtain ⟨u, i'⟩ := a
    have hI : i' = i := hI
    subst hI
    have hk : (((numsOf p).take i').map fun q => (q.1, Sv.dat q.2)).map (·.1) = (spotsOf p).take i' := by
      rw [List.map_map, ← nums_keys, List.map_take]
      rfl
    have hlt := (List.getElem?_eq_some_iff.mp hx).1
    refine s_putN (E := ESpot) (k := x) (j := 0) S (e_var rfl) (e_var rfl) (e_var rfl) rfl (by
      rw [hk]
      intro hm
      obtain ⟨j, hj, e⟩ := List.mem_iff_getElem.mp hm
      rw [List.length_take] at hj
      rw [List.getElem_take] at e
      have h1 : (spotsOf p)[j]? = some x := by rw [List.getElem?_eq_getElem (by omega), e]
      have := nd_ix cl.nd h1 hx
      omega) (by rw [List.length_map, List.length_take]; have := cl.len m; show _ < 16777216; omega) fun W S => ?_
    have e : ((numsOf p).take i').map (fun q => (q.1, Sv.dat q.2)) ++ [(x, Sv.dat (.int (i' : Int)))] = ((numsOf p).take (i' + 1)).map fun q => (q.1, Sv.dat q.2) := by
      rw [take_succ_at (nums_at hx), List.map_append]
      rfl
    rw [e] at S
    exact At.mk ((), i' + 1) rfl S.w
  · have hI : a.2 = (spotsOf p).length := hI
    have hl : (numsOf p).length = (spotsOf p).length := by rw [← nums_keys, List.length_map]
    rw [hI, ← hl, List.take_length] at S
    refine s_retD (j := 0) S rfl rfl (fun h => h) fun v W' si ok => ?_
    exact hq v W' (si.lep fun _ h => h) ok
theorem e_seat {a : Nat × Nat} {b : Nm} (ha : EvS C Γ M ta (.dat (encPl a))) (hb : EvS C Γ M tb (.dat (encN b))) : EvS C Γ M (tOp (rCatA C.K) ta (tTup (tCons tb tNil))) (.dat (encSeat ⟨a.1, a.2, b⟩)) :=
  e_catT (ds := [.int (a.1 : Int), .int (a.2 : Int)]) (es := [encN b]) ha (e_tup (ds := [encN b]) (a_cons hb a_nil) (by show 1 ≤ 1000; decide)) (by show 2 + 1 ≤ 1000; decide)
theorem e_seat3 {a b : Nat} {n : Nm} (ha : EvS C Γ M ta (.dat (.int (a : Int)))) (hb : EvS C Γ M tb (.dat (.int (b : Int)))) (hc : EvS C Γ M tc (.dat (encN n))) : EvS C Γ M (tTup (tCons ta (tCons tb (tCons tc tNil)))) (.dat (encSeat ⟨a, b, n⟩)) :=
  e_tup (ds := [.int (a : Int), .int (b : Int), encN n]) (a_cons ha (a_cons hb (a_cons hc a_nil))) (by show 3 ≤ 1000; decide)
theorem e_rcopy {a b : Seat} (ha : EvS C Γ M ta (.dat (encSeat a))) (hb : EvS C Γ M tb (.dat (encSeat b))) : EvS C Γ M (tTup (tCons (tC (.str "copy")) (tCons ta (tCons tb tNil)))) (.dat (encRule (.copy a b))) :=
  e_tup (ds := [.str "copy", encSeat a, encSeat b]) (a_cons e_str (a_cons ha (a_cons hb a_nil))) (by show 3 ≤ 1000; decide)
theorem e_rend {b : Seat} (hb : EvS C Γ M tb (.dat (encSeat b))) : EvS C Γ M (tTup (tCons (tC (.str "end")) (tCons tb tNil))) (.dat (encRule (.end_ b))) :=
  e_tup (ds := [.str "end", encSeat b]) (a_cons e_str (a_cons hb a_nil)) (by show 2 ≤ 1000; decide)
theorem e_rpush {a b : Seat} {l : Nat} (ha : EvS C Γ M ta (.dat (encSeat a))) (hl : EvS C Γ M tc (.dat (.int (l : Int)))) (hb : EvS C Γ M tb (.dat (encSeat b))) : EvS C Γ M (tTup (tCons (tC (.str "push")) (tCons ta (tCons tc (tCons tb tNil))))) (.dat (encRule (.push a l b))) :=
  e_tup (ds := [.str "push", encSeat a, .int (l : Int), encSeat b]) (a_cons e_str (a_cons ha (a_cons hl (a_cons hb a_nil)))) (by show 4 ≤ 1000; decide)
theorem e_rpop {a b : Seat} {l : Nat} (ha : EvS C Γ M ta (.dat (encSeat a))) (hl : EvS C Γ M tc (.dat (.int (l : Int)))) (hb : EvS C Γ M tb (.dat (encSeat b))) : EvS C Γ M (tTup (tCons (tC (.str "pop")) (tCons ta (tCons tc (tCons tb tNil))))) (.dat (encRule (.pop a l b))) :=
  e_tup (ds := [.str "pop", encSeat a, .int (l : Int), encSeat b]) (a_cons e_str (a_cons ha (a_cons hl (a_cons hb a_nil)))) (by show 4 ≤ 1000; decide)
theorem eqv_on (b : Nm) (o : Option Nm) : PyData.eqv (encN b) (encON o) = decide (some b = o) := by
  cases o with
  | none => simp [encN, encON, PyData.eqv]
  | some c =>
    show (b.1 == c.1) = _
    rw [nm_dec]
    simp
theorem fl_on (o : Option Nm) : Fl 1 (encON o) := by
  cases o with
  | none => exact fl_none
  | some n => exact fl_str n.2
theorem e_neON {b : Nm} {o : Option Nm} (ha : EvS C Γ M ta (.dat (encN b))) (hb : EvS C Γ M tb (.dat (encON o))) : EvS C Γ M (tOp (rNeD C.K) ta tb) (.dat (.bool (!decide (some b = o)))) :=
  (e_ne ha hb (fl_str b.2 : Fl 1 _).flat (fl_on o).flat).to (by rw [eqv_on])
theorem isN_ol (o : Option Line) : isNone (encOL o) = o.isNone := by cases o <;> rfl
theorem isN_on (o : Option Nm) : isNone (encON o) = o.isNone := by cases o <;> rfl
theorem e_12 {b : Bool} (h : EvS C Γ M ta (.dat (.bool b))) : EvS C Γ M (tOp (rI0 fun i j => .int (i + j)) (tC (.int 1)) (tCB rIntQ (tCons ta tNil))) (.dat (.int ((if b = true then 2 else 1 : Nat) : Int))) :=
  (e_add e_int (e_intB h)).to (by cases b <;> rfl)
theorem copies_len (bs : List Nm) (o : Option Line) (h t : Nat × Nat) : (copies bs o h t).length ≤ bs.length := by
  unfold copies
  rw [List.length_map]
  exact List.length_filter_le ..
theorem few_copies {bs : List Nm} {o : Option Line} {h t : Nat × Nat} {n : Nat} (hb : bs.length < 64) (hn : n ≤ 10) : ((copies bs o h t).map encRule).length + n < sizeLine := by
  rw [List.length_map]
  have := copies_len bs o h t
  show _ < 16777216
  omega
theorem kw_pair {l : Line} (h : l.kw = .pair) : ∃ x w y z, l = .pair x w y z := by cases l <;> first | exact ⟨_, _, _, _, rfl⟩ | (exfalso; simp [Line.kw] at h; done)
theorem kw_same {l : Line} (h : l.kw = .same) : ∃ x y, l = .same x y := by cases l <;> first | exact ⟨_, _, rfl⟩ | (exfalso; simp [Line.kw] at h; done)
theorem kw_first {l : Line} (h : l.kw = .first) : ∃ x y, l = .first x y := by cases l <;> first | exact ⟨_, _, rfl⟩ | (exfalso; simp [Line.kw] at h; done)
theorem kw_second {l : Line} (h : l.kw = .second) : ∃ x y, l = .second x y := by cases l <;> first | exact ⟨_, _, rfl⟩ | (exfalso; simp [Line.kw] at h; done)
theorem sc_box_rules : FnScope ["boxes", "line", "here", "there", "fresh", "rules", "box"] ["boxes", "line", "here", "there"] (defScope s_box_rules) := ⟨rfl, rfl, rfl, by decide +kernel, rfl, by decide +kernel, by decide +kernel⟩
theorem ok_box_rules (T : Txt K mg aO aG) (c_gives : Cal P w K mg base 1 "gives" ["line"] (sp_gives P w K) f1 d1) (F : FnP K "box_rules" "box_rules" s_box_rules f fd) : FnOk P w K mg base CX0 2 f fd ["boxes", "line", "here", "there"] (sp_box_rules P w K) := by
  have nd := sc_box_rules.nd
  have tx := T
  refine F.ok sc_box_rules (fun vs H Q E h => SpF.len (n := 4) (fun _ => rfl) h) (fun cdv A outer s H vs Q E hr h => ⟨_, PSs.nox
    (pss_cons (ps_set (i := 4) nd rfl (Or.inr rfl) pe_non)
    (pss_cons (ps_if (pt_cmp (pc_notN (pv 1)) rfl) (pss_one (ps_set (i := 4) nd rfl (Or.inr rfl) (pe_call c_gives.F (hr.mono (by decide)) (by rfl) c_gives.m c_gives.k c_gives.b .nil pass0 (pa_cons (pv 1) pa_nil)))) pss_nil)
    (pss_cons (ps_setLc (i := 5) (own := [("box", 6)]) rfl nd rfl rfl (sw_true rfl rfl rfl (by decide +kernel)) (pi_list (pv 0)) (blkOk_by (own := [("box", 6)]) (N := ["boxes", "line", "here", "there", "fresh", "rules", "box"]) (sc := defScope s_box_rules) (by decide +kernel)) (fun _ _ _ _ _ => (pg_name (i := 6) nd rfl (Or.inl rfl))) (fun _ _ _ _ _ => (pts_one (pt_cmpR (r := rNeD K) (op_neD hr.units) (pv 6) (pv 4) (nomark _)))) (fun _ _ _ _ _ => (pe_tup (pa_cons pe_str (pa_cons (pe_op (r := rCatA K) op_catA (pv 2) (pe_tup (pa_cons (pv 6) pa_nil))) (pa_cons (pe_op (r := rCatA K) op_catA (pv 3) (pe_tup (pa_cons (pv 6) pa_nil))) pa_nil))))))
    (pss_cons (ps_if (PW.pt (pw_or (pt_cmp (pc_isN (pv 4)) rfl) (pw_or1 (pt_cmpR (op_eqD hr.units) (pe_ix ix_seq (pv 1) pe_int (fun _ _ => rfl)) pe_str (nomark _))))) (pss_one (ps_ret (pv 5))) pss_nil)
    (pss_cons (ps_if (pt_cmpR (op_eqD hr.units) (pe_ix ix_seq (pv 1) pe_int (fun _ _ => rfl)) pe_str (nomark _)) (pss_cons (ps_expr (pe_bm PySem.F.plainAttrs_list PySem.F.slot_list_append PySem.F.type_list_append mt_append (pv 5) (pa_cons (pe_tup (pa_cons pe_str (pa_cons (pe_op (r := rCatA K) op_catA (pv 2) (pe_tup (pa_cons (pe_ix ix_seq (pv 1) pe_int (fun _ _ => rfl)) pa_nil))) (pa_cons pe_int (pa_cons (pe_op (r := rCatA K) op_catA (pv 3) (pe_tup (pa_cons (pv 4) pa_nil))) pa_nil))))) pa_nil)))
    (pss_one (ps_expr (pe_bm PySem.F.plainAttrs_list PySem.F.slot_list_append PySem.F.type_list_append mt_append (pv 5) (pa_cons (pe_tup (pa_cons pe_str (pa_cons (pe_op (r := rCatA K) op_catA (pv 2) (pe_tup (pa_cons (pe_ix ix_seq (pv 1) pe_int (fun _ _ => rfl)) pa_nil))) (pa_cons pe_int (pa_cons (pe_op (r := rCatA K) op_catA (pv 3) (pe_tup (pa_cons (pv 4) pa_nil))) pa_nil))))) pa_nil))))) (pss_one (ps_if (pt_cmpR (op_eqD hr.units) (pe_ix ix_seq (pv 1) pe_int (fun _ _ => rfl)) pe_str (nomark _)) (pss_one (ps_expr (pe_bm PySem.F.plainAttrs_list PySem.F.slot_list_append PySem.F.type_list_append mt_append (pv 5) (pa_cons (pe_tup (pa_cons pe_str (pa_cons (pe_op (r := rCatA K) op_catA (pv 2) (pe_tup (pa_cons (pe_ix ix_seq (pv 1) pe_int (fun _ _ => rfl)) pa_nil))) (pa_cons (pe_op (r := rCatA K) op_catA (pv 3) (pe_tup (pa_cons (pv 4) pa_nil))) pa_nil)))) pa_nil)))) (pss_one (ps_expr (pe_bm PySem.F.plainAttrs_list PySem.F.slot_list_append PySem.F.type_list_append mt_append (pv 5) (pa_cons (pe_tup (pa_cons pe_str (pa_cons (pe_op (r := rCatA K) op_catA (pv 2) (pe_tup (pa_cons (pe_ix ix_seq (pv 1) pe_int (fun _ _ => rfl)) pa_nil))) (pa_cons (pe_op op_add pe_int (pe_callTy cr_int (by rfl) tx.int (by decide +kernel) (pa_cons (pe_cmpR (op_eqD hr.units) (pe_ix ix_seq (pv 1) pe_int (fun _ _ => rfl)) pe_str (nomark _)) pa_nil))) (pa_cons (pe_op (r := rCatA K) op_catA (pv 3) (pe_tup (pa_cons (pv 4) pa_nil))) pa_nil))))) pa_nil)))))))
    (pss_one (ps_ret (pv 5)))))))), ?_⟩)
  obtain ⟨W, ⟨⟨bs, ol⟩, h, t⟩, rfl, ok, hp, hq⟩ := h
  have hp : bs.length < 64 := hp
  have S := sta_start ["boxes", "line", "here", "there", "fresh", "rules", "box"] ok
  have hcopy : ∀ {Γ : Ga} {b : Nm} (M : Ms), Γ[2]? = some (some (.dat (encPl h))) → Γ[3]? = some (some (.dat (encPl t))) → Γ[6]? = some (some (.dat (encN b))) → EvS (C0 P w K) Γ M (tTup (tCons (tC (.str "copy")) (tCons (tOp (rCatA K) (tVar 2) (tTup (tCons (tVar 6) tNil))) (tCons (tOp (rCatA K) (tVar 3) (tTup (tCons (tVar 6) tNil))) tNil)))) (.dat (encRule (.copy ⟨h.1, h.2, b⟩ ⟨t.1, t.2, b⟩))) :=
    fun M e1 e2 e3 => e_rcopy (e_seat (C := C0 P w K) (e_var e1) (e_var e3)) (e_seat (C := C0 P w K) (e_var e2) (e_var e3))
  refine q_set S e_non fun σ W S => ?_
  cases ol with
  | none =>
    refine q_when S (t_B (e_notN (e_var rfl))) (fun hb W S => nomatch hb) (fun hb W S => ?_)
    refine q_lcSet (C := C0 P w K) (enc := encN) (xs := bs) (keep := fun b => !decide (some b = freshOf none)) (out := fun b => encRule (.copy ⟨h.1, h.2, b⟩ ⟨t.1, t.2, b⟩)) S (e_var rfl) (fun x M hx => t_B (e_neON (o := none) (e_var rfl) (e_var rfl))) (fun x M hx hk => hcopy M rfl rfl rfl) (Nat.le_of_lt (Nat.lt_trans hp (by decide))) fun Dd σ W S => ?_
    refine q_when S (t_or (c := true) (t_B (e_isN (e_var rfl))) fun hb => nomatch hb) (fun hb W S => ?_) (fun hb W S => ?_)
    · refine s_retO (j := 0) S rfl rfl (fun h => h) fun v W' si ok => ?_
      refine hq v W' (si.lep fun _ h => h) ?_
      show SvOk _ _ _ (.dat (.list ((copies bs none h t ++ []).map encRule)))
      rw [List.append_nil, copies, List.map_map]
      exact ok
    · simp [isNone] at hb
  | some l =>
    refine q_when S (t_B (e_notN (e_var rfl))) (fun hb W S => ?_) (fun hb W S => nomatch hb)
    refine s_set S (e_call l (a_cons (e_var rfl) a_nil) trivial) fun σ W S => ?_
    refine q_lcSet (C := C0 P w K) (enc := encN) (xs := bs) (keep := fun b => !decide (some b = freshOf (some l))) (out := fun b => encRule (.copy ⟨h.1, h.2, b⟩ ⟨t.1, t.2, b⟩)) S (e_var rfl) (fun x M hx => t_B (e_neON (o := l.gives) (e_var rfl) (e_var rfl))) (fun x M hx hk => hcopy M rfl rfl rfl) (Nat.le_of_lt (Nat.lt_trans hp (by decide))) fun Dd σ W S => ?_
    have ec : (bs.filter fun b => !decide (some b = freshOf (some l))).map (fun b => encRule (.copy ⟨h.1, h.2, b⟩ ⟨t.1, t.2, b⟩)) = (copies bs (some l) h t).map encRule := by rw [copies, List.map_map]; rfl
    rw [ec] at S
    have hq : ∀ v W', Le _ W' → SvOk (C0 P w K) W'.G v (.dat (.list ((copies bs (some l) h t ++ extraH l h t).map encRule))) → Q v W'.H := hq
    rw [List.map_append] at hq
    refine q_when S (t_or (t_B (e_isN (e_var rfl))) fun _ => t_B (e_word .none_ (e_var rfl) rfl)) (fun hb W S => ?_) (fun hb W S => ?_)
    · have ex : extraH l h t = [] := by
        cases l <;> first | rfl | (exfalso; simp [Line.kw, isNone, encON, Line.gives] at hb; done)
      rw [ex, List.map_nil, List.append_nil] at hq
      refine s_retO (j := 0) S rfl rfl (fun h => h) fun v W' si ok => ?_
      exact hq v W' (si.lep fun _ h => h) ok
    · refine q_if S (t_B (e_word .pair (e_var rfl) rfl)) (fun hk W S => ?_) (fun hk1 W S => ?_)
      · obtain ⟨x, w, y, z, rfl⟩ := kw_pair (of_decide_eq_true hk)
        refine q_app (j := 0) S rfl rfl (e_rpush (a := ⟨h.1, h.2, y⟩) (l := 1) (b := ⟨t.1, t.2, x⟩) (e_seat (e_var rfl) (e_nm (j := 2) rfl (e_var (s := .dat (encL (.pair x w y z))) rfl) rfl)) e_int (e_seat (e_var rfl) (e_var rfl))) (few_copies (n := 0) hp (by decide)) fun W S => ?_
        refine s_app (j := 0) S rfl rfl (e_rpush (a := ⟨h.1, h.2, z⟩) (l := 2) (b := ⟨t.1, t.2, x⟩) (e_seat (e_var rfl) (e_nm (j := 3) rfl (e_var (s := .dat (encL (.pair x w y z))) rfl) rfl)) e_int (e_seat (e_var rfl) (e_var rfl))) (by rw [List.length_append]; exact few_copies (n := 1) hp (by decide)) fun W S => ?_
        refine s_retO (j := 0) S rfl rfl (fun h => h) fun v W' si ok => ?_
        exact hq v W' (si.lep fun _ h => h) (by rw [List.append_assoc] at ok; exact ok)
      refine s_if S (t_B (e_word .same (e_var rfl) rfl)) (fun hk W S => ?_) (fun hk2 W S => ?_)
      · obtain ⟨x, y, rfl⟩ := kw_same (of_decide_eq_true hk)
        refine s_app (j := 0) S rfl rfl (e_rcopy (a := ⟨h.1, h.2, y⟩) (b := ⟨t.1, t.2, x⟩) (e_seat (e_var rfl) (e_nm (j := 1) rfl (e_var (s := .dat (encL (.same x y))) rfl) rfl)) (e_seat (e_var rfl) (e_var rfl))) (few_copies (n := 0) hp (by decide)) fun W S => ?_
        refine s_retO (j := 0) S rfl rfl (fun h => h) fun v W' si ok => ?_
        exact hq v W' (si.lep fun _ h => h) ok
      · by_cases k1 : l.kw = .first
        · obtain ⟨x, y, rfl⟩ := kw_first k1
          refine s_app (j := 0) S rfl rfl (e_rpop (a := ⟨h.1, h.2, y⟩) (b := ⟨t.1, t.2, x⟩) (l := 1) (e_seat (e_var rfl) (e_nm (j := 1) rfl (e_var (s := .dat (encL (.first x y))) rfl) rfl)) (e_12 (e_word .second (e_var (s := .dat (encL (.first x y))) rfl) rfl)) (e_seat (e_var rfl) (e_var rfl))) (few_copies (n := 0) hp (by decide)) fun W S => ?_
          refine s_retO (j := 0) S rfl rfl (fun h => h) fun v W' si ok => ?_
          exact hq v W' (si.lep fun _ h => h) ok
        · by_cases k2 : l.kw = .second
          · obtain ⟨x, y, rfl⟩ := kw_second k2
            refine s_app (j := 0) S rfl rfl (e_rpop (a := ⟨h.1, h.2, y⟩) (b := ⟨t.1, t.2, x⟩) (l := 2) (e_seat (e_var rfl) (e_nm (j := 1) rfl (e_var (s := .dat (encL (.second x y))) rfl) rfl)) (e_12 (e_word .second (e_var (s := .dat (encL (.second x y))) rfl) rfl)) (e_seat (e_var rfl) (e_var rfl))) (few_copies (n := 0) hp (by decide)) fun W S => ?_
            refine s_retO (j := 0) S rfl rfl (fun h => h) fun v W' si ok => ?_
            exact hq v W' (si.lep fun _ h => h) ok
          · exfalso
            cases l <;> simp [Line.kw, isNone, encON, Line.gives] at hb hk1 hk2 k1 k2
end
end Dr
namespace Dr
open PySem PySem.Spec PyProof.Rows L2

section
variable {P : Program} {w : World} {K : PySem.W.Frag} {mg : Str → Option Value} {base : Heap} {f f1 f2 f3 f4 f5 f6 : Addr} {fd d1 d2 d3 d4 d5 d6 : FuncData} {aO aG : Addr} {C : Cn} {Γ : Ga} {M : Ms} {ta tb tc te : TE}
theorem q_whenK {W0 W : Wo} {T : Kn} {σ : L2.St} {tt : TT} {b : Bool} {t1 tz : TS} {D : Ends} (Pj : L2.St → Wo → Prop) (S : Sta C W0 T σ W Γ M) (h : EvT C Γ M tt b) (k : ∀ σ W, Pj σ W → tz D σ W.H)
    (h1 : b = true → ∀ W', Sta C W0 T σ W' Γ M → (∀ σ W, Pj σ W → tz D σ W.H) → t1 { D with nx := tz D } σ W'.H) (h2 : b = false → ∀ W', Sta C W0 T σ W' Γ M → Pj σ W') : tSeq (tIfS tt t1 tNext) tz D σ W.H :=
  q_when S h (fun hb W' S' => h1 hb W' S' k) (fun hb W' S' => k σ W' (h2 hb W' S'))
theorem sc_want_rules : FnScope ["boxes", "line", "here", "there", "fresh", "rules", "box"] ["boxes", "line", "here", "there"] (defScope s_want_rules) := ⟨rfl, rfl, rfl, by decide +kernel, rfl, by decide +kernel, by decide +kernel⟩
theorem ok_want_rules (T : Txt K mg aO aG) (c_gives : Cal P w K mg base 1 "gives" ["line"] (sp_gives P w K) f1 d1) (c_reads : Cal P w K mg base 1 "reads" ["line"] (sp_reads P w K) f2 d2) (F : FnP K "want_rules" "want_rules" s_want_rules f fd) : FnOk P w K mg base CX0 2 f fd ["boxes", "line", "here", "there"] (sp_want_rules P w K) := by
  have nd := sc_want_rules.nd
  have tx := T
  refine F.ok sc_want_rules (fun vs H Q E h => SpF.len (n := 4) (fun _ => rfl) h) (fun cdv A outer s H vs Q E hr h => ⟨_, PSs.nox
    (pss_cons (ps_set (i := 4) nd rfl (Or.inr rfl) pe_non)
    (pss_cons (ps_if (pt_cmp (pc_notN (pv 1)) rfl) (pss_one (ps_set (i := 4) nd rfl (Or.inr rfl) (pe_call c_gives.F (hr.mono (by decide)) (by rfl) c_gives.m c_gives.k c_gives.b .nil pass0 (pa_cons (pv 1) pa_nil)))) pss_nil)
    (pss_cons (ps_setLc (i := 5) (own := [("box", 6)]) rfl nd rfl rfl (sw_true rfl rfl rfl (by decide +kernel)) (pi_list (pv 0)) (blkOk_by (own := [("box", 6)]) (N := ["boxes", "line", "here", "there", "fresh", "rules", "box"]) (sc := defScope s_want_rules) (by decide +kernel)) (fun _ _ _ _ _ => (pg_name (i := 6) nd rfl (Or.inl rfl))) (fun _ _ _ _ _ => (pts_one (pt_cmpR (r := rNeD K) (op_neD hr.units) (pv 6) (pv 4) (nomark _)))) (fun _ _ _ _ _ => (pe_tup (pa_cons pe_str (pa_cons (pe_tup (pa_cons pe_int (pa_cons (pv 3) (pa_cons (pv 6) pa_nil)))) (pa_cons (pe_tup (pa_cons pe_int (pa_cons (pv 2) (pa_cons (pv 6) pa_nil)))) pa_nil))))))
    (pss_cons (ps_if (pt_cmp (pc_isN (pv 1)) rfl) (pss_one (ps_ret (pv 5))) pss_nil)
    (pss_cons (ps_if (pt_cmp (pc_notN (pe_call c_reads.F (hr.mono (by decide)) (by rfl) c_reads.m c_reads.k c_reads.b .nil pass0 (pa_cons (pv 1) pa_nil))) rfl) (pss_one (ps_expr (pe_bm PySem.F.plainAttrs_list PySem.F.slot_list_append PySem.F.type_list_append mt_append (pv 5) (pa_cons (pe_tup (pa_cons pe_str (pa_cons (pe_tup (pa_cons pe_int (pa_cons (pv 2) (pa_cons (pe_call c_reads.F (hr.mono (by decide)) (by rfl) c_reads.m c_reads.k c_reads.b .nil pass0 (pa_cons (pv 1) pa_nil)) pa_nil)))) pa_nil))) pa_nil)))) pss_nil)
    (pss_cons (ps_if (pt_cmpR (op_eqD hr.units) (pe_ix ix_seq (pv 1) pe_int (fun _ _ => rfl)) pe_str (nomark _)) (pss_one (ps_expr (pe_bm PySem.F.plainAttrs_list PySem.F.slot_list_append PySem.F.type_list_append mt_append (pv 5) (pa_cons (pe_tup (pa_cons pe_str (pa_cons (pe_tup (pa_cons pe_int (pa_cons (pv 3) (pa_cons (pv 4) pa_nil)))) (pa_cons (pe_tup (pa_cons pe_int (pa_cons (pv 2) (pa_cons (pe_ix ix_seq (pv 1) pe_int (fun _ _ => rfl)) pa_nil)))) pa_nil)))) pa_nil)))) (pss_one (ps_if (PW.pt (pw_or (pt_cmpR (op_eqD hr.units) (pe_ix ix_seq (pv 1) pe_int (fun _ _ => rfl)) pe_str (nomark _)) (pw_or1 (pt_cmpR (op_eqD hr.units) (pe_ix ix_seq (pv 1) pe_int (fun _ _ => rfl)) pe_str (nomark _))))) (pss_one (ps_expr (pe_bm PySem.F.plainAttrs_list PySem.F.slot_list_append PySem.F.type_list_append mt_append (pv 5) (pa_cons (pe_tup (pa_cons pe_str (pa_cons (pe_tup (pa_cons pe_int (pa_cons (pv 3) (pa_cons (pv 4) pa_nil)))) (pa_cons (pe_op op_add pe_int (pe_callTy cr_int (by rfl) tx.int (by decide +kernel) (pa_cons (pe_cmpR (op_eqD hr.units) (pe_ix ix_seq (pv 1) pe_int (fun _ _ => rfl)) pe_str (nomark _)) pa_nil))) (pa_cons (pe_tup (pa_cons pe_int (pa_cons (pv 2) (pa_cons (pe_ix ix_seq (pv 1) pe_int (fun _ _ => rfl)) pa_nil)))) pa_nil))))) pa_nil)))) (pss_one (ps_if (pt_cmpR (op_eqD hr.units) (pe_ix ix_seq (pv 1) pe_int (fun _ _ => rfl)) pe_str (nomark _)) (pss_cons (ps_expr (pe_bm PySem.F.plainAttrs_list PySem.F.slot_list_append PySem.F.type_list_append mt_append (pv 5) (pa_cons (pe_tup (pa_cons pe_str (pa_cons (pe_tup (pa_cons pe_int (pa_cons (pv 3) (pa_cons (pv 4) pa_nil)))) (pa_cons pe_int (pa_cons (pe_tup (pa_cons pe_int (pa_cons (pv 2) (pa_cons (pe_ix ix_seq (pv 1) pe_int (fun _ _ => rfl)) pa_nil)))) pa_nil))))) pa_nil)))
    (pss_one (ps_expr (pe_bm PySem.F.plainAttrs_list PySem.F.slot_list_append PySem.F.type_list_append mt_append (pv 5) (pa_cons (pe_tup (pa_cons pe_str (pa_cons (pe_tup (pa_cons pe_int (pa_cons (pv 3) (pa_cons (pv 4) pa_nil)))) (pa_cons pe_int (pa_cons (pe_tup (pa_cons pe_int (pa_cons (pv 2) (pa_cons (pe_ix ix_seq (pv 1) pe_int (fun _ _ => rfl)) pa_nil)))) pa_nil))))) pa_nil))))) pss_nil)))))
    (pss_one (ps_ret (pv 5))))))))), ?_⟩)
  obtain ⟨Wz, ⟨⟨bs, ol⟩, h, t⟩, rfl, ok, hp, hq⟩ := h
  have hp : bs.length < 64 := hp
  have S := sta_start ["boxes", "line", "here", "there", "fresh", "rules", "box"] ok
  have hcopy : ∀ {Γ : Ga} {b : Nm} (M : Ms), Γ[2]? = some (some (.dat (.int (h : Int)))) → Γ[3]? = some (some (.dat (.int (t : Int)))) → Γ[6]? = some (some (.dat (encN b))) → EvS (C0 P w K) Γ M (tTup (tCons (tC (.str "copy")) (tCons (tTup (tCons (tC (.int 0)) (tCons (tVar 3) (tCons (tVar 6) tNil)))) (tCons (tTup (tCons (tC (.int 0)) (tCons (tVar 2) (tCons (tVar 6) tNil)))) tNil)))) (.dat (encRule (.copy ⟨0, t, b⟩ ⟨0, h, b⟩))) :=
    fun M e1 e2 e3 => e_rcopy (e_seat3 (a := 0) e_int (e_var e2) (e_var e3)) (e_seat3 (a := 0) e_int (e_var e1) (e_var e3))
  refine q_set S e_non fun σ W S => ?_
  cases ol with
  | none =>
    refine q_when S (t_B (e_notN (e_var rfl))) (fun hb W S => nomatch hb) (fun hb W S => ?_)
    refine q_lcSet (C := C0 P w K) (enc := encN) (xs := bs) (keep := fun b => !decide (some b = freshOf none)) (out := fun b => encRule (.copy ⟨0, t, b⟩ ⟨0, h, b⟩)) S (e_var rfl) (fun x M hx => t_B (e_neON (o := none) (e_var rfl) (e_var rfl))) (fun x M hx hk => hcopy M rfl rfl rfl) (Nat.le_of_lt (Nat.lt_trans hp (by decide))) fun Dd σ W S => ?_
    refine q_when S (t_B (e_isN (e_var rfl))) (fun hb W S => ?_) (fun hb W S => nomatch hb)
    refine s_retO (j := 0) S rfl rfl (fun h => h) fun v W' si ok => ?_
    refine hq v W' (si.lep fun _ h => h) ?_
    show SvOk _ _ _ (.dat (.list ((copies bs none (0, t) (0, h) ++ []).map encRule)))
    rw [List.append_nil, copies, List.map_map]
    exact ok
  | some l =>
    refine q_when S (t_B (e_notN (e_var rfl))) (fun hb W S => ?_) (fun hb W S => nomatch hb)
    refine s_set S (e_call l (a_cons (e_var rfl) a_nil) trivial) fun σ W S => ?_
    refine q_lcSet (C := C0 P w K) (enc := encN) (xs := bs) (keep := fun b => !decide (some b = freshOf (some l))) (out := fun b => encRule (.copy ⟨0, t, b⟩ ⟨0, h, b⟩)) S (e_var rfl) (fun x M hx => t_B (e_neON (o := l.gives) (e_var rfl) (e_var rfl))) (fun x M hx hk => hcopy M rfl rfl rfl) (Nat.le_of_lt (Nat.lt_trans hp (by decide))) fun Dd σ W S => ?_
    have ec : (bs.filter fun b => !decide (some b = freshOf (some l))).map (fun b => encRule (.copy ⟨0, t, b⟩ ⟨0, h, b⟩)) = (copies bs (some l) (0, t) (0, h)).map encRule := by rw [copies, List.map_map]; rfl
    rw [ec] at S
    have hq : ∀ v W', Le _ W' → SvOk (C0 P w K) W'.G v (.dat (.list ((copies bs (some l) (0, t) (0, h) ++ (readW l h ++ extraW l h t)).map encRule))) → Q v W'.H := hq
    have finish : ∀ {σ W M} {xs : List Rule}, Sta (C0 P w K) Wz [] σ W [some (.dat (.list (bs.map encN))), some (.dat (encL l)), some (.dat (.int (h : Int))), some (.dat (.int (t : Int))), some (.dat (encON l.gives)), some (.loc Dd), none] ((Dd, .lst (xs.map encRule)) :: M) → xs = copies bs (some l) (0, t) (0, h) ++ (readW l h ++ extraW l h t) → tRet (tVar 5) { nx := fun _ H' => Q .non H', rt := Q } σ W.H := fun {σ W M xs} S e => by
      subst e
      refine s_retO (j := 0) S rfl rfl (fun h => h) fun v W' si ok => ?_
      exact hq v W' (si.lep fun _ h => h) ok
    refine q_when S (t_B (e_isN (e_var rfl))) (fun hb W S => nomatch hb) (fun hb W S => ?_)
    have hcl := copies_len bs (some l) (0, t) (0, h)
    refine q_whenK (fun σ W => Sta (C0 P w K) Wz [] σ W [some (.dat (.list (bs.map encN))), some (.dat (encL l)), some (.dat (.int (h : Int))), some (.dat (.int (t : Int))), some (.dat (encON l.gives)), some (.loc Dd), none] [(Dd, .lst ((copies bs (some l) (0, t) (0, h) ++ readW l h).map encRule))]) S (t_B (e_notN (e_call l (a_cons (e_var rfl) a_nil) trivial))) (fun σ W S => ?_) (fun hb W S kk => ?_) (fun hb W S => ?_)
    · have hl : (copies bs (some l) (0, t) (0, h) ++ readW l h).length ≤ 100 := by
        have : (readW l h).length ≤ 1 := by unfold readW; split <;> simp
        rw [List.length_append]
        omega
      obtain ⟨xs, e⟩ : ∃ xs, xs = copies bs (some l) (0, t) (0, h) ++ readW l h := ⟨_, rfl⟩
      rw [← e] at S hl
      have hz : ∀ n : Nat, n ≤ 10 → (xs.map encRule).length + n < sizeLine := fun n hn => by rw [List.length_map]; show _ < 16777216; omega
      refine q_if S (t_B (e_word .same (e_var (C := C0 P w K) rfl) rfl)) (fun hk W S => ?_) (fun hk1 W S => ?_)
      · obtain ⟨x, y, rfl⟩ := kw_same (of_decide_eq_true hk)
        refine s_app (j := 0) S rfl rfl (e_rcopy (a := ⟨0, t, x⟩) (b := ⟨0, h, y⟩) (e_seat3 (a := 0) e_int (e_var rfl) (e_var rfl)) (e_seat3 (a := 0) e_int (e_var rfl) (e_nm (j := 1) rfl (e_var (s := .dat (encL (.same x y))) rfl) rfl))) (hz 0 (by decide)) fun W S => ?_
        exact finish (xs := xs ++ [.copy ⟨0, t, x⟩ ⟨0, h, y⟩]) (by rw [List.map_append]; exact S) (by rw [e, List.append_assoc]; rfl)
      refine s_if S (t_or (t_B (e_word .first (e_var (C := C0 P w K) rfl) rfl)) fun _ => t_B (e_word .second (e_var (C := C0 P w K) rfl) rfl)) (fun hk W S => ?_) (fun hk2 W S => ?_)
      · by_cases k1 : l.kw = .first
        · obtain ⟨x, y, rfl⟩ := kw_first k1
          refine s_app (j := 0) S rfl rfl (e_rpush (a := ⟨0, t, x⟩) (b := ⟨0, h, y⟩) (l := 1) (e_seat3 (a := 0) e_int (e_var rfl) (e_var rfl)) (e_12 (e_word .second (e_var (s := .dat (encL (.first x y))) rfl) rfl)) (e_seat3 (a := 0) e_int (e_var rfl) (e_nm (j := 1) rfl (e_var (s := .dat (encL (.first x y))) rfl) rfl))) (hz 0 (by decide)) fun W S => ?_
          exact finish (xs := xs ++ [.push ⟨0, t, x⟩ 1 ⟨0, h, y⟩]) (by rw [List.map_append]; exact S) (by rw [e, List.append_assoc]; rfl)
        · have k2 : l.kw = .second := by
            rw [decide_eq_false k1, Bool.false_or] at hk
            exact of_decide_eq_true hk
          obtain ⟨x, y, rfl⟩ := kw_second k2
          refine s_app (j := 0) S rfl rfl (e_rpush (a := ⟨0, t, x⟩) (b := ⟨0, h, y⟩) (l := 2) (e_seat3 (a := 0) e_int (e_var rfl) (e_var rfl)) (e_12 (e_word .second (e_var (s := .dat (encL (.second x y))) rfl) rfl)) (e_seat3 (a := 0) e_int (e_var rfl) (e_nm (j := 1) rfl (e_var (s := .dat (encL (.second x y))) rfl) rfl))) (hz 0 (by decide)) fun W S => ?_
          exact finish (xs := xs ++ [.push ⟨0, t, x⟩ 2 ⟨0, h, y⟩]) (by rw [List.map_append]; exact S) (by rw [e, List.append_assoc]; rfl)
      · refine s_when S (t_B (e_word .pair (e_var (C := C0 P w K) rfl) rfl)) (fun hk W S => ?_) (fun hk3 W S => ?_)
        · obtain ⟨x, w', y, z, rfl⟩ := kw_pair (of_decide_eq_true hk)
          refine q_app (j := 0) S rfl rfl (e_rpop (a := ⟨0, t, x⟩) (b := ⟨0, h, y⟩) (l := 1) (e_seat3 (a := 0) e_int (e_var rfl) (e_var rfl)) e_int (e_seat3 (a := 0) e_int (e_var rfl) (e_nm (j := 2) rfl (e_var (s := .dat (encL (.pair x w' y z))) rfl) rfl))) (hz 0 (by decide)) fun W S => ?_
          refine s_app (j := 0) S rfl rfl (e_rpop (a := ⟨0, t, x⟩) (b := ⟨0, h, z⟩) (l := 2) (e_seat3 (a := 0) e_int (e_var rfl) (e_var rfl)) e_int (e_seat3 (a := 0) e_int (e_var rfl) (e_nm (j := 3) rfl (e_var (s := .dat (encL (.pair x w' y z))) rfl) rfl))) (by rw [List.length_append]; exact hz 1 (by decide)) fun W S => ?_
          exact finish (xs := xs ++ [.pop ⟨0, t, x⟩ 1 ⟨0, h, y⟩, .pop ⟨0, t, x⟩ 2 ⟨0, h, z⟩]) (by rw [List.map_append]; exact (by rw [List.append_assoc] at S; exact S)) (by rw [e, List.append_assoc]; rfl)
        · refine finish S ?_
          have : extraW l h t = [] := by
            cases l <;> first | rfl | (exfalso; simp [Line.kw] at hk1; done) | (exfalso; simp [Line.kw] at hk2; done) | (exfalso; simp [Line.kw] at hk3; done)
          rw [e, this, List.append_nil]
    · obtain ⟨n, e1⟩ : ∃ n, l.reads = some n := by
        cases q : l.reads with
        | none => simp only [q] at hb; cases hb
        | some n => exact ⟨n, rfl⟩
      have er : readW l h = [.end_ ⟨0, h, n⟩] := by rw [readW, e1]
      refine s_app (j := 0) S rfl rfl (e_rend (b := ⟨0, h, n⟩) (e_seat3 (a := 0) e_int (e_var rfl) ((e_call l (a_cons (e_var rfl) a_nil) trivial).to (by show Sv.dat (encON l.reads) = _; rw [e1]; rfl)))) (few_copies (n := 0) hp (by decide)) fun W S => ?_
      refine kk _ _ ?_
      rw [er, List.map_append]
      exact S
    · have er : readW l h = [] := by
        rw [readW]
        cases q : l.reads with
        | none => rfl
        | some n => simp only [q] at hb; cases hb
      rw [er, List.append_nil]
      exact S
end
end Dr
namespace Dr
open PySem PySem.Spec PyProof.Rows L2

/-! the rules of a program -/
inductive Thg (rs : List Rule) : Seat → Thing → Prop
  | end_ {b : Seat} : .end_ b ∈ rs → Thg rs b none
  | copy {a b : Seat} {t : Thing} : .copy a b ∈ rs → Thg rs a t → Thg rs b t
  | push {a b : Seat} {l : Nat} {t : Thing} : .push a l b ∈ rs → Thg rs a t → Thg rs b (some (l, a))
  | pop {a b s : Seat} {l : Nat} {t : Thing} : .pop a l b ∈ rs → Thg rs a (some (l, s)) → Thg rs s t → Thg rs b t
structure IsLeast (rs : List Rule) (r : Reader) : Prop where
  nde : r.ends.Nodup
  ndm : r.moves.Nodup
  ends : ∀ s, s ∈ r.ends ↔ Thg rs s none
  moves : ∀ m : Move, m ∈ r.moves ↔ Thg rs m.1 (some m.2)
def Rule.inU (U : List Seat) : Rule → Prop
  | .copy a b => a ∈ U ∧ b ∈ U
  | .push a l b => a ∈ U ∧ b ∈ U ∧ (l = 1 ∨ l = 2)
  | .pop a l b => a ∈ U ∧ b ∈ U ∧ (l = 1 ∨ l = 2)
  | .end_ b => b ∈ U
structure OkRules (rs : List Rule) : Prop where
  len : rs.length ≤ 1000000
  uni : ∃ U : List Seat, U.length ≤ 1000 ∧ ∀ r ∈ rs, r.inU U
structure Good (p : Prog) : Prop where
  ok : OkP p
  small : Small p
  boxes : ∃ B : List Nm, B.length ≤ 3 ∧ ∀ l ∈ allLines p, ∀ b ∈ l.boxes, b ∈ B
  words : ∃ N : List Nm, N.length ≤ 10 ∧ ∀ l ∈ allLines p, ∀ b, l.word = some b → b ∈ N
theorem allLines_len : ∀ {p : Prog} {n : Nat}, (∀ pt ∈ p, pt.2.length ≤ n) → (allLines p).length ≤ p.length * n
  | [], n, _ => by simp [allLines]
  | a :: p, n, h => by
    have h1 := h a List.mem_cons_self
    have h2 := allLines_len (p := p) fun pt hp => h pt (List.mem_cons_of_mem _ hp)
    unfold allLines at *
    rw [List.flatMap_cons, List.length_append, List.length_cons, Nat.succ_mul]
    omega
theorem Good.few {p : Prog} (g : Good p) : ∃ N, few p N := by
  obtain ⟨B, b1, b2⟩ := g.boxes
  obtain ⟨N, n1, n2⟩ := g.words
  refine ⟨B ++ N, ?_, by rw [List.length_append]; omega, fun l hl b hb => List.mem_append_left _ (b2 l hl b hb), fun l hl b hb => List.mem_append_right _ (n2 l hl b hb)⟩
  have h1 := allLines_len g.ok.short
  have h2 := g.ok.few
  have h3 := Nat.mul_le_mul_right 100 h2
  omega
theorem Good.boxlen {p : Prog} (g : Good p) {bs : List Nm} (h : isBoxes p bs) : bs.length ≤ 3 := by
  obtain ⟨B, b1, b2⟩ := g.boxes
  refine Nat.le_trans (nodup_len h.1 fun b hb => ?_) b1
  obtain ⟨l, hl, hb⟩ := (h.2 b).mp hb
  exact b2 l hl b hb
def come (pl : Option (Nat × Nat)) (t : Spot) : Nat := if (!isNone (encOp pl) && decide (placeOf t = pl)) = true then 1 else 0
def idx (p : Prog) (t : Spot) : Nat := (spotsOf p).idxOf t
def madeH (wd : Nm) (o : Option Line) (c j : Nat) : List Rule := match o with
  | some (.pair x w _ _) => if w = wd then [.end_ ⟨c, j, x⟩] else []
  | _ => []
def stepH (p : Prog) (wd : Nm) (pl : Option (Nat × Nat)) (bs : List Nm) (s : Spot) (i : Nat) (t : Spot) : List Rule :=
  ([0, 1] : List Nat).flatMap (fun l => boxRules bs (lineOf p s) (l, i) (max l (come pl t), idx p t)) ++ madeH wd (lineOf p s) (come pl t) (idx p t)
def spotH (p : Prog) (wd : Nm) (pl : Option (Nat × Nat)) (bs : List Nm) (a : Spot × Nat) : List Rule := (nexts p a.1).flatMap (stepH p wd pl bs a.1 a.2)
def holdRules (p : Prog) (wd : Nm) (pl : Option (Nat × Nat)) (bs : List Nm) : List Rule := (spotsOf p).zipIdx.flatMap (spotH p wd pl bs)
def spotW (p : Prog) (bs : List Nm) (a : Spot × Nat) : List Rule := (nexts p a.1).flatMap fun t => wantRules bs (lineOf p a.1) a.2 (idx p t)
def wishRules (p : Prog) (bs : List Nm) : List Rule := (spotsOf p).zipIdx.flatMap (spotW p bs)
theorem flat_len {α β : Type} {f : α → List β} {n : Nat} : ∀ {xs : List α}, (∀ x ∈ xs, (f x).length ≤ n) → (xs.flatMap f).length ≤ xs.length * n
  | [], _ => by simp
  | x :: xs, h => by
    have h1 := h x List.mem_cons_self
    have h2 := flat_len (xs := xs) fun y hy => h y (List.mem_cons_of_mem _ hy)
    rw [List.flatMap_cons, List.length_append, List.length_cons, Nat.succ_mul]
    omega
theorem boxRules_len {bs : List Nm} {o : Option Line} {h t : Nat × Nat} (hb : bs.length ≤ 3) : (boxRules bs o h t).length ≤ 5 := by
  unfold boxRules
  have := copies_len bs o h t
  have h2 : (extraO (fun l => extraH l h t) o).length ≤ 2 := by
    cases o with
    | none => exact Nat.zero_le _
    | some l => cases l <;> simp [extraO, extraH]
  rw [List.length_append]
  omega
theorem wantRules_len {bs : List Nm} {o : Option Line} {h t : Nat} (hb : bs.length ≤ 3) : (wantRules bs o h t).length ≤ 6 := by
  unfold wantRules
  have := copies_len bs o (0, t) (0, h)
  have h2 : (extraO (fun l => readW l h ++ extraW l h t) o).length ≤ 3 := by
    cases o with
    | none => exact Nat.zero_le _
    | some l => cases l <;> simp [extraO, extraW, readW, Line.reads]
  rw [List.length_append]
  omega
theorem madeH_len {wd : Nm} {o : Option Line} {c j : Nat} : (madeH wd o c j).length ≤ 1 := by
  unfold madeH
  split
  · split <;> simp
  · simp
theorem stepH_len {p : Prog} {wd : Nm} {pl : Option (Nat × Nat)} {bs : List Nm} {s t : Spot} {i : Nat} (hb : bs.length ≤ 3) : (stepH p wd pl bs s i t).length ≤ 11 := by
  unfold stepH
  have h1 := madeH_len (wd := wd) (o := lineOf p s) (c := come pl t) (j := idx p t)
  have h2 := flat_len (f := fun l => boxRules bs (lineOf p s) (l, i) (max l (come pl t), idx p t)) (n := 5) (xs := [0, 1]) fun x _ => boxRules_len hb
  rw [List.length_append]
  have : ([0, 1] : List Nat).length = 2 := rfl
  omega
theorem spotH_len {p : Prog} {wd : Nm} {pl : Option (Nat × Nat)} {bs : List Nm} {a : Spot × Nat} (hb : bs.length ≤ 3) : (spotH p wd pl bs a).length ≤ 22 := by
  unfold spotH
  have := flat_len (f := stepH p wd pl bs a.1 a.2) (n := 11) (xs := nexts p a.1) fun x _ => stepH_len hb
  have h2 := nexts_len p a.1
  omega
theorem spotW_len {p : Prog} {bs : List Nm} {a : Spot × Nat} (hb : bs.length ≤ 3) : (spotW p bs a).length ≤ 12 := by
  unfold spotW
  have := flat_len (f := fun t => wantRules bs (lineOf p a.1) a.2 (idx p t)) (n := 6) (xs := nexts p a.1) fun x _ => wantRules_len hb
  have h2 := nexts_len p a.1
  omega
theorem flat_take {α β : Type} {f : α → List β} {xs : List α} {i : Nat} {x : α} (h : xs[i]? = some x) : (xs.take (i + 1)).flatMap f = (xs.take i).flatMap f ++ f x := by
  rw [take_succ_at h, List.flatMap_append]
  simp
theorem nums_lookup {p : Prog} {t : Spot} (h : t ∈ spotsOf p) : (numsOf p).lookup t = some (.int (idx p t : Int)) := by
  unfold numsOf idx
  have key : ∀ (xs : List Spot) (n : Nat), t ∈ xs → ((xs.zipIdx n).map fun a => (a.1, PyData.int (a.2 : Int))).lookup t = some (.int ((n + xs.idxOf t : Nat) : Int)) := by
    intro xs
    induction xs with
    | nil => intro n h; cases h
    | cons x xs ih =>
      intro n h
      rw [List.zipIdx_cons, List.map_cons, List.lookup_cons]
      by_cases e : t = x
      · subst e
        simp
      · have h' : t ∈ xs := (List.mem_cons.mp h).resolve_left e
        have : (t == x) = false := beq_eq_false_iff_ne.mpr e
        rw [this, ih (n + 1) h', List.idxOf_cons]
        have : (x == t) = false := beq_eq_false_iff_ne.mpr (Ne.symm e)
        rw [this]
        simp only [cond_false, Option.some.injEq, PyData.int.injEq, Int.natCast_inj]
        omega
  have := key (spotsOf p) 0 h
  rw [Nat.zero_add] at this
  exact this
theorem idx_at {p : Prog} {i : Nat} {s : Spot} (nd : (spotsOf p).Nodup) (h : (spotsOf p)[i]? = some s) : idx p s = i := by
  have h1 : s ∈ spotsOf p := List.mem_of_getElem? h
  have h2 : (spotsOf p)[(spotsOf p).idxOf s]? = some s := by
    rw [List.getElem?_eq_getElem (List.idxOf_lt_length_iff.mpr h1), List.getElem_idxOf]
  exact (nd_ix nd h2 h)
theorem zip_at {p : Prog} {i : Nat} {s : Spot} (h : (spotsOf p)[i]? = some s) : (spotsOf p).zipIdx[i]? = some (s, i) := by
  rw [List.getElem?_zipIdx, h]; simp
section
variable {P : Program} {w : World} {K : PySem.W.Frag} {mg : Str → Option Value} {base : Heap} {f f1 f2 f3 f4 f5 f6 : Addr} {fd d1 d2 d3 d4 d5 d6 : FuncData} {aO aG : Addr} {C : Cn} {Γ : Ga} {M : Ms} {ta tb tc te : TE}
abbrev sp_least (P : Program) (w : World) (K : PySem.W.Frag) : Sp := SpR (C0 P w K) (α := List Rule) (fun a => [.dat (.list (a.map encRule))]) OkRules (fun a s => ∃ r, IsLeast a r ∧ s = .dat (encReader r))
abbrev ArgH (a : Prog × Nm × Option (Nat × Nat)) : List Sv := [.dat (encProg a.1), .dat (encN a.2.1), .dat (encOp a.2.2)]
abbrev sp_hold_rules (P : Program) (w : World) (K : PySem.W.Frag) : Sp := SpR (C0 P w K) (α := Prog × Nm × Option (Nat × Nat)) ArgH (fun a => Good a.1) (fun a s => ∃ bs, isBoxes a.1 bs ∧ s = .dat (.list ((holdRules a.1 a.2.1 a.2.2 bs).map encRule)))
abbrev sp_holds (P : Program) (w : World) (K : PySem.W.Frag) : Sp := SpR (C0 P w K) (α := Prog × Nm × Option (Nat × Nat)) ArgH (fun a => Good a.1) (fun a s => ∃ bs r, isBoxes a.1 bs ∧ IsLeast (holdRules a.1 a.2.1 a.2.2 bs) r ∧ s = .dat (encReader r))
abbrev sp_wants (P : Program) (w : World) (K : PySem.W.Frag) : Sp := SpR (C0 P w K) (α := Prog) (fun a => [.dat (encProg a)]) Good (fun a s => ∃ bs r, isBoxes a bs ∧ IsLeast (wishRules a bs) r ∧ s = .dat (encReader r))
theorem Sta.reslot {W0 W : Wo} {T : Kn} {σ : L2.St} (S : Sta C W0 T σ W Γ M) {i : Nat} {v : V} {s : Sv} (hv : σ[i]? = some (some v)) (h : SvOk C W.G v s) : Sta C W0 T σ W (Γ.set i (some s)) M := by
  refine ⟨S.since, S.kn, by rw [List.length_set]; exact S.len, fun j t e => ?_, S.mu, S.nd⟩
  by_cases q : i = j
  · subst q
    have hi : i < Γ.length := by
      have := (List.getElem?_eq_some_iff.mp e).1
      simpa using this
    rw [List.getElem?_set_self hi] at e
    cases e
    exact ⟨v, hv, h⟩
  · rw [List.getElem?_set_ne q] at e
    exact S.sl j t e
/-- an own list frozen, its slot holding data then -/
theorem Sta.fzSlot {W0 W : Wo} {T : Kn} {σ : L2.St} (S : Sta C W0 T σ W Γ M) {i j : Nat} {l : Addr} {ds : List PyData} (hi : Γ[i]? = some (some (.loc l))) (hm : M[j]? = some (l, .lst ds)) (hA : ¬ C.A l) :
    ∃ W', W'.H = W.H ∧ Sta C W0 T σ W' (Γ.set i (some (.dat (.list ds)))) (M.eraseIdx j) := by
  obtain ⟨v, h1, h2⟩ := S.sl i _ hi
  have h2 : v = .ref l := h2
  subst h2
  have hn := (S.mu _ (List.mem_of_getElem? hm)).2.1.resolve_right hA
  obtain ⟨W', e, S', ok⟩ := S.freeze hm hn
  exact ⟨W', e, S'.reslot h1 ok⟩
theorem q_fz {W0 W : Wo} {T : Kn} {σ : L2.St} {G : Hp → Prop} (S : Sta C W0 T σ W Γ M) {i j : Nat} {l : Addr} {ds : List PyData} (hi : Γ[i]? = some (some (.loc l))) (hm : M[j]? = some (l, .lst ds)) (hA : ¬ C.A l) (k : ∀ W', Sta C W0 T σ W' (Γ.set i (some (.dat (.list ds)))) (M.eraseIdx j) → G W'.H) : G W.H := by
  obtain ⟨W', e, S'⟩ := S.fzSlot hi hm hA
  rw [← e]
  exact k W' S'
end
end Dr
namespace Dr
open PySem PySem.Spec PyProof.Rows L2

section
variable {P : Program} {w : World} {K : PySem.W.Frag} {mg : Str → Option Value} {base : Heap} {f f1 f2 f3 f4 f5 f6 : Addr} {fd d1 d2 d3 d4 d5 d6 : FuncData} {aO aG : Addr} {C : Cn} {Γ : Ga} {M : Ms} {ta tb tc te : TE}
theorem e_op_dat {o : Option (Nat × Nat)} : Fl 1 (encOp o) := fl_op o
theorem eqv_op (a b : Option (Nat × Nat)) : PyData.eqv (encOp a) (encOp b) = decide (a = b) := by
  cases a with
  | none => cases b <;> simp [encOp, encPl, PyData.eqv]
  | some a =>
    cases b with
    | none => simp [encOp, encPl, PyData.eqv]
    | some b =>
      obtain ⟨a1, a2⟩ := a
      obtain ⟨b1, b2⟩ := b
      have h1 : PyData.eqv (encOp (some (a1, a2))) (encOp (some (b1, b2))) = (((a1 : Int) == (b1 : Int)) && ((a2 : Int) == (b2 : Int))) := by
        simp [encOp, encPl, PyData.eqv, PyData.eqvAll]
      rw [h1]
      by_cases e1 : a1 = b1 <;> by_cases e2 : a2 = b2 <;> simp [e1, e2] <;> (intros; omega)
theorem e_num {p : Prog} {t : Spot} (hd : EvS C Γ M ta (.dic Spot ESpot (numsOf p))) (hk : EvS C Γ M tb (.dat (encSpot t))) (h : t ∈ spotsOf p) : EvS C Γ M (tOp (rIxN ESpot C.P C.w C.K) ta tb) (.dat (.int (idx p t : Int))) :=
  e_atF hd (k := t) hk (nums_lookup h)
theorem max_int {a b : Nat} : (if (b : Int) > (a : Int) then (b : Int) else (a : Int)) = ((max a b : Nat) : Int) := by
  split <;> omega
theorem e_pair2 {a b : Nat} (ha : EvS C Γ M ta (.dat (.int (a : Int)))) (hb : EvS C Γ M tb (.dat (.int (b : Int)))) : EvS C Γ M (tTup (tCons ta (tCons tb tNil))) (.dat (encPl (a, b))) :=
  e_tup (ds := [.int (a : Int), .int (b : Int)]) (a_cons ha (a_cons hb a_nil)) (by show 2 ≤ 1000; decide)
theorem e_come {pl : Option (Nat × Nat)} {t : Spot} (hp : EvS C Γ M ta (.dat (encOp pl))) (ht : EvS C Γ M tb (.dat (encOp (placeOf t)))) : EvS C Γ M (tCB rIntQ (tCons (tAndV (tNotN ta) (tOp (rEqD C.K) tb ta)) tNil)) (.dat (.int (come pl t : Int))) := by
  refine (e_intB (e_andV (e_notN hp) fun _ => e_eq ht hp (fl_op _).flat (fl_op _).flat)).to ?_
  rw [eqv_op]
  unfold come
  split <;> rfl
theorem line_ok {p : Prog} {s : Spot} (h : OkSpot p s) : ∃ pt, p[s.part]? = some pt ∧ s.k ≤ pt.2.length := let ⟨pt, a, b, _⟩ := h.part; ⟨pt, a, b⟩
def encI (n : Nat) : PyData := .int (n : Int)
theorem sc_hold_rules : FnScope ["program", "word", "place", "boxes", "numbers", "rules", "spot", "line", "behind", "come", "late"] ["program", "word", "place"] (defScope s_hold_rules) := ⟨rfl, rfl, rfl, by decide +kernel, rfl, by decide +kernel, by decide +kernel⟩
theorem ok_hold_rules (T : Txt K mg aO aG) (c_boxes_of : Cal P w K mg base 2 "boxes_of" ["program"] (sp_boxes_of P w K) f1 d1) (c_numbers_of : Cal P w K mg base 5 "numbers_of" ["program"] (sp_numbers_of P w K) f2 d2) (c_line_of : Cal P w K mg base 1 "line_of" ["program", "spot"] (sp_line_of P w K) f3 d3)
    (c_next_spots : Cal P w K mg base 3 "next_spots" ["program", "spot"] (sp_next_spots P w K) f4 d4) (c_place_of : Cal P w K mg base 1 "place_of" ["spot"] (sp_place_of P w K) f5 d5) (c_box_rules : Cal P w K mg base 2 "box_rules" ["boxes", "line", "here", "there"] (sp_box_rules P w K) f6 d6)
    (F : FnP K "hold_rules" "hold_rules" s_hold_rules f fd) : FnOk P w K mg base CX0 6 f fd ["program", "word", "place"] (sp_hold_rules P w K) := by
  have nd := sc_hold_rules.nd
  have tx := T
  refine F.ok sc_hold_rules (fun vs H Q E h => SpR.len (n := 3) (fun _ => rfl) h) (fun cdv A outer s H vs Q E hr h => ⟨_, PSs.nox
    (pss_cons (ps_set (i := 3) nd rfl (Or.inl rfl) (pe_call c_boxes_of.F (hr.mono (by decide)) (by rfl) c_boxes_of.m c_boxes_of.k c_boxes_of.b .nil pass0 (pa_cons (pv 0) pa_nil)))
    (pss_cons (ps_set (i := 4) nd rfl (Or.inl rfl) (pe_call c_numbers_of.F (hr.mono (by decide)) (by rfl) c_numbers_of.m c_numbers_of.k c_numbers_of.b .nil pass0 (pa_cons (pv 0) pa_nil)))
    (pss_cons (ps_set (i := 5) nd rfl (Or.inl rfl) (pe_lst pa_nil))
    (pss_cons (ps_for PassesOwn.never rfl ((pi_keysN ESpot) (pv 4)) (pg_name (i := 6) nd rfl (Or.inl rfl)) (pss_cons (ps_set (i := 7) nd rfl (Or.inl rfl) (pe_call c_line_of.F (hr.mono (by decide)) (by rfl) c_line_of.m c_line_of.k c_line_of.b .nil pass0 (pa_cons (pv 0) (pa_cons (pv 6) pa_nil))))
    (pss_one (ps_for PassesOwn.never rfl (pi_list (pe_call c_next_spots.F (hr.mono (by decide)) (by rfl) c_next_spots.m c_next_spots.k c_next_spots.b .nil pass0 (pa_cons (pv 0) (pa_cons (pv 6) pa_nil)))) (pg_name (i := 8) nd rfl (Or.inl rfl)) (pss_cons (ps_set (i := 9) nd rfl (Or.inl rfl) (pe_callTy cr_int (by rfl) tx.int (by decide +kernel) (pa_cons (pe_and (pe_cmp (pc_notN (pv 2)) rfl) (pe_one (pe_cmpR (op_eqD hr.units) (pe_call c_place_of.F (hr.mono (by decide)) (by rfl) c_place_of.m c_place_of.k c_place_of.b .nil pass0 (pa_cons (pv 8) pa_nil)) (pv 2) (nomark _)))) pa_nil)))
    (pss_cons (ps_for PassesOwn.never rfl (pi_tup (pe_tup (pa_cons pe_int (pa_cons pe_int pa_nil)))) (pg_name (i := 10) nd rfl (Or.inl rfl)) (pss_one (ps_expr (pe_bm PySem.F.plainAttrs_list PySem.F.slot_list_extend PySem.F.type_list_extend mt_extend (pv 5) (pa_cons (pe_call c_box_rules.F (hr.mono (by decide)) (by rfl) c_box_rules.m c_box_rules.k c_box_rules.b .nil pass0 (pa_cons (pv 3) (pa_cons (pv 7) (pa_cons (pe_tup (pa_cons (pv 10) (pa_cons (pe_ixN ESpot hr.units (pv 4) (pv 6) (fun _ _ => rfl)) pa_nil))) (pa_cons (pe_tup (pa_cons (pe_callB (cr_max rfl) (by rfl) tx.max (by decide +kernel) (pa_cons (pv 10) (pa_cons (pv 9) pa_nil))) (pa_cons (pe_ixN ESpot hr.units (pv 4) (pv 8) (fun _ _ => rfl)) pa_nil))) pa_nil))))) pa_nil)))))
    (pss_one (ps_if (PW.pt (pw_and (pt_cmp (pc_notN (pv 7)) rfl) (pw_and (pt_cmpR (op_eqD hr.units) (pe_ix ix_seq (pv 7) pe_int (fun _ _ => rfl)) pe_str (nomark _)) (pw_and1 (pt_cmpR (op_eqD hr.units) (pe_ix ix_seq (pv 7) pe_int (fun _ _ => rfl)) (pv 1) (nomark _)))))) (pss_one (ps_expr (pe_bm PySem.F.plainAttrs_list PySem.F.slot_list_append PySem.F.type_list_append mt_append (pv 5) (pa_cons (pe_tup (pa_cons pe_str (pa_cons (pe_tup (pa_cons (pv 9) (pa_cons (pe_ixN ESpot hr.units (pv 4) (pv 8) (fun _ _ => rfl)) (pa_cons (pe_ix ix_seq (pv 7) pe_int (fun _ _ => rfl)) pa_nil)))) pa_nil))) pa_nil)))) pss_nil))))))))
    (pss_one (ps_ret (pv 5))))))), ?_⟩)
  obtain ⟨Wz, ⟨p, wd, pl⟩, rfl, ok, g, hq⟩ := h
  have g : Good p := g
  have cl := spots_clos g.ok g.small
  have hlen := cl.len g.small
  have S := sta_start ["program", "word", "place", "boxes", "numbers", "rules", "spot", "line", "behind", "come", "late"] ok
  refine q_setP S (p_call p (a_cons (e_var rfl) a_nil) g.few) fun bx hbx σ W S => ?_
  obtain ⟨bs, hbs, rfl⟩ := hbx
  have hb3 := g.boxlen hbs
  refine q_set S (e_call p (a_cons (e_var rfl) a_nil) ⟨g.ok, g.small⟩) fun σ W S => ?_
  refine q_newL S fun l σ W S => ?_
  refine q_forDF (C := C0 P w K) (E := ESpot) (kds := numsOf p) (fun _ : List Rule => [some (.dat (encProg p)), some (.dat (encN wd)), some (.dat (encOp pl)), some (.dat (.list (bs.map encN))), some (.dic Spot ESpot (numsOf p)), some (.loc l), none, none, none, none, none])
    (fun i a => a = ((spotsOf p).zipIdx.take i).flatMap (spotH p wd pl bs)) [] (fun a => [(l, .lst (a.map encRule))]) S (e_var rfl) (fun σ W S => S) rfl (fun k => g_name) (fun i a s T' σ W hs hI S => ?_) (fun a σ W hI S => ?_)
  · rw [nums_keys] at hs
    have hsm : s ∈ spotsOf p := List.mem_of_getElem? hs
    have os := cl.ok s hsm
    have his := idx_at cl.nd hs
    have hil : i < 120 := Nat.lt_of_lt_of_le (List.getElem?_eq_some_iff.mp hs).1 hlen
    have hal : a.length ≤ i * 22 := by
      rw [hI]
      have := flat_len (f := spotH p wd pl bs) (n := 22) (xs := (spotsOf p).zipIdx.take i) fun x _ => spotH_len hb3
      rw [List.length_take] at this
      have h2 : min i (spotsOf p).zipIdx.length * 22 ≤ i * 22 := Nat.mul_le_mul_right 22 (Nat.min_le_left ..)
      omega
    refine q_set S (e_call (p, s) (a_cons (e_var rfl) (a_cons (e_var rfl) a_nil)) (line_ok os)) fun σ W S => ?_
    refine s_forL (C := C0 P w K) (xs := nexts p s) encSpot (fun _ : List Rule => [some (.dat (encProg p)), some (.dat (encN wd)), some (.dat (encOp pl)), some (.dat (.list (bs.map encN))), some (.dic Spot ESpot (numsOf p)), some (.loc l), some (.dat (encSpot s)), some (.dat (encOL (lineOf p s))), none, none, none])
      (fun a => [(l, .lst (a.map encRule))]) (fun j b => b = a ++ ((nexts p s).take j).flatMap (stepH p wd pl bs s i)) a S (e_call (p, s) (a_cons (e_var rfl) (a_cons (e_var rfl) a_nil)) ⟨g.ok, os⟩) (fun σ W S => S) (by simp) (fun k => g_name) (fun j b t T' σ W ht hJ S => ?_) (fun b σ W hJ S => ?_)
    · have htm : t ∈ spotsOf p := (cl.cl s hsm t (List.mem_of_getElem? ht)).resolve_right (fun z => nomatch z)
      have hjl : j < 2 := Nat.lt_of_lt_of_le (List.getElem?_eq_some_iff.mp ht).1 (nexts_len p s)
      have hbl : b.length ≤ i * 22 + j * 11 := by
        rw [hJ, List.length_append]
        have := flat_len (f := stepH p wd pl bs s i) (n := 11) (xs := (nexts p s).take j) fun x _ => stepH_len hb3
        rw [List.length_take] at this
        have h2 : min j (nexts p s).length * 11 ≤ j * 11 := Nat.mul_le_mul_right 11 (Nat.min_le_left ..)
        omega
      refine q_set S (e_come (e_var rfl) (e_call t (a_cons (e_var rfl) a_nil) trivial)) fun σ W S => ?_
      refine q_forT (C := C0 P w K) (xs := [0, 1]) encI (fun _ : List Rule => [some (.dat (encProg p)), some (.dat (encN wd)), some (.dat (encOp pl)), some (.dat (.list (bs.map encN))), some (.dic Spot ESpot (numsOf p)), some (.loc l), some (.dat (encSpot s)), some (.dat (encOL (lineOf p s))), some (.dat (encSpot t)), some (.dat (.int (come pl t : Int))), none])
        (fun a => [(l, .lst (a.map encRule))]) (fun k c => c = b ++ (([0, 1] : List Nat).take k).flatMap (fun l => boxRules bs (lineOf p s) (l, i) (max l (come pl t), idx p t))) b S (e_tup (ds := [.int 0, .int 1]) (a_cons e_int (a_cons e_int a_nil)) (by show 2 ≤ 1000; decide)) (fun σ W S => S) (by simp) (fun k => g_name) (fun k c y T' σ W hy hK S => ?_) (fun c σ W hK S => ?_)
      · have hcl : c.length ≤ i * 22 + j * 11 + k * 5 := by
          rw [hK, List.length_append]
          have := flat_len (f := fun l => boxRules bs (lineOf p s) (l, i) (max l (come pl t), idx p t)) (n := 5) (xs := ([0, 1] : List Nat).take k) fun x _ => boxRules_len hb3
          rw [List.length_take] at this
          have h2 : min k ([0, 1] : List Nat).length * 5 ≤ k * 5 := Nat.mul_le_mul_right 5 (Nat.min_le_left ..)
          omega
        have hkl : k < 2 := (List.getElem?_eq_some_iff.mp hy).1
        have hbx := boxRules_len (o := lineOf p s) (h := (y, i)) (t := (max y (come pl t), idx p t)) hb3
        refine s_extL (es := (boxRules bs (lineOf p s) (y, i) (max y (come pl t), idx p t)).map encRule) (j := 0) S rfl rfl
          (e_call ((bs, lineOf p s), (y, i), (max y (come pl t), idx p t)) (a_cons (e_var rfl) (a_cons (e_var rfl) (a_cons (e_pair2 (e_var rfl) ((e_num (e_var rfl) (e_var rfl) hsm).to (by rw [his]))) (a_cons (e_pair2 ((e_max (e_var rfl) (e_var rfl)).to (by rw [max_int])) (e_num (e_var rfl) (e_var rfl) htm)) a_nil)))) (by show bs.length < 64; omega))
          (by rw [List.length_map, List.length_map]; show _ ≤ 16777216; omega) fun W S => ?_
        rw [← List.map_append] at S
        refine At.mk (c ++ boxRules bs (lineOf p s) (y, i) (max y (come pl t), idx p t)) ?_ S.w
        rw [flat_take hy, hK, List.append_assoc]
      · have hK : c = b ++ ([0, 1] : List Nat).flatMap (fun l => boxRules bs (lineOf p s) (l, i) (max l (come pl t), idx p t)) := hK
        have hcl : c.length ≤ i * 22 + j * 11 + 10 := by
          rw [hK, List.length_append]
          have := flat_len (f := fun l => boxRules bs (lineOf p s) (l, i) (max l (come pl t), idx p t)) (n := 5) (xs := ([0, 1] : List Nat)) fun x _ => boxRules_len hb3
          have h2 : ([0, 1] : List Nat).length = 2 := rfl
          omega
        have fin : ∀ (m : List Rule), madeH wd (lineOf p s) (come pl t) (idx p t) = m → (b ++ ([0, 1] : List Nat).flatMap (fun l => boxRules bs (lineOf p s) (l, i) (max l (come pl t), idx p t))) ++ m = a ++ ((nexts p s).take (j + 1)).flatMap (stepH p wd pl bs s i) := fun m e => by
          rw [flat_take ht, hJ, ← e]
          simp only [stepH, List.append_assoc]
        cases hln : lineOf p s with
        | none =>
          rw [hln] at S
          refine s_when S (t_and (c := true) (t_B (e_notN (e_var rfl))) fun z => nomatch z) (fun z W S => nomatch z) (fun z W S => ?_)
          refine At.mk c ?_ S.w
          have := fin [] (by rw [hln]; rfl)
          rw [List.append_nil] at this
          rw [hK]; exact this
        | some ln =>
          rw [hln] at S
          by_cases hk : ln.kw = .pair
          · obtain ⟨x, wd', y, z, rfl⟩ := kw_pair hk
            refine s_when S (t_and (t_B (e_notN (e_var rfl))) fun _ => t_and (t_B (e_word .pair (e_var rfl) rfl)) fun _ => t_B (e_eqN (a := wd') (b := wd) (e_nm (l := .pair x wd' y z) (j := 1) rfl (e_var rfl) rfl) (e_var rfl))) (fun hz W S => ?_) (fun hz W S => ?_)
            · have ew : wd' = wd := of_decide_eq_true (by simpa [isNone, encOL, encL, Line.kw] using hz)
              refine s_app (j := 0) S rfl rfl (e_rend (b := ⟨come pl t, idx p t, x⟩) (e_seat3 (e_var rfl) (e_num (e_var rfl) (e_var rfl) htm) (e_nm (l := .pair x wd' y z) (j := 0) rfl (e_var rfl) rfl))) (by rw [List.length_map]; show _ < 16777216; omega) fun W S => ?_
              rw [show c.map encRule ++ [encRule (.end_ ⟨come pl t, idx p t, x⟩)] = (c ++ [Rule.end_ ⟨come pl t, idx p t, x⟩]).map encRule by rw [List.map_append]; rfl] at S
              refine At.mk (c ++ [Rule.end_ ⟨come pl t, idx p t, x⟩]) ?_ S.w
              rw [hK]
              exact fin _ (by rw [hln, madeH, if_pos ew])
            · have ew : ¬ wd' = wd := fun e => by simp [isNone, encOL, encL, Line.kw, e] at hz
              refine At.mk c ?_ S.w
              have := fin [] (by rw [hln, madeH, if_neg ew])
              rw [List.append_nil] at this
              rw [hK]; exact this
          · refine s_when S (t_and (b := true) (c := false) (t_B (e_notN (d := encOL (some ln)) (e_var rfl))) fun _ => ((t_and (c := true) (t_B (e_word (l := ln) .pair (e_var rfl) rfl)) fun z => absurd (of_decide_eq_true z) hk).to (by rw [decide_eq_false hk]; rfl))) (fun z W S => nomatch z) (fun z W S => ?_)
            refine At.mk c ?_ S.w
            have := fin [] (by rw [hln]; cases ln <;> first | rfl | exact absurd rfl hk)
            rw [List.append_nil] at this
            rw [hK]; exact this
    · rw [List.take_length] at hJ
      refine At.mk b ?_ S.w
      rw [flat_take (zip_at hs), ← hI, hJ]
      rfl
  · have hl : (numsOf p).length = (spotsOf p).zipIdx.length := by unfold numsOf; rw [List.length_map]
    rw [hl, List.take_length] at hI
    refine s_retO (j := 0) S rfl rfl (fun h => h) fun v W' si ok => ?_
    exact hq _ v W' (si.lep fun _ h => h) ⟨bs, hbs, by rw [hI]; rfl⟩ ok
end
end Dr
namespace Dr
open PySem PySem.Spec PyProof.Rows L2

theorem mem_zip {p : Prog} {a : Spot × Nat} : a ∈ (spotsOf p).zipIdx ↔ (spotsOf p)[a.2]? = some a.1 := by
  rw [show a = (a.1, a.2) from rfl, List.mem_zipIdx_iff_getElem?]
theorem mem_box {bs : List Nm} {o : Option Line} {h t : Nat × Nat} {r : Rule} : r ∈ boxRules bs o h t ↔ (∃ b, b ∈ bs ∧ some b ≠ freshOf o ∧ r = .copy ⟨h.1, h.2, b⟩ ⟨t.1, t.2, b⟩) ∨ ∃ l, o = some l ∧ r ∈ extraH l h t := by
  unfold boxRules copies
  rw [List.mem_append, List.mem_map]
  constructor
  · rintro (⟨b, hb, e⟩ | h)
    · rw [List.mem_filter] at hb
      exact .inl ⟨b, hb.1, by simpa using hb.2, e.symm⟩
    · cases o with
      | none => cases h
      | some l => exact .inr ⟨l, rfl, h⟩
  · rintro (⟨b, h1, h2, e⟩ | ⟨l, e, h⟩)
    · exact .inl ⟨b, List.mem_filter.mpr ⟨h1, by simpa using h2⟩, e.symm⟩
    · subst e; exact .inr h
theorem mem_want {bs : List Nm} {o : Option Line} {h t : Nat} {r : Rule} : r ∈ wantRules bs o h t ↔ (∃ b, b ∈ bs ∧ some b ≠ freshOf o ∧ r = .copy ⟨0, t, b⟩ ⟨0, h, b⟩) ∨ ∃ l, o = some l ∧ (r ∈ readW l h ∨ r ∈ extraW l h t) := by
  unfold wantRules copies
  rw [List.mem_append, List.mem_map]
  constructor
  · rintro (⟨b, hb, e⟩ | h)
    · rw [List.mem_filter] at hb
      exact .inl ⟨b, hb.1, by simpa using hb.2, e.symm⟩
    · cases o with
      | none => cases h
      | some l => exact .inr ⟨l, rfl, List.mem_append.mp h⟩
  · rintro (⟨b, h1, h2, e⟩ | ⟨l, e, h⟩)
    · exact .inl ⟨b, List.mem_filter.mpr ⟨h1, by simpa using h2⟩, e.symm⟩
    · subst e; exact .inr (List.mem_append.mpr h)
theorem mem_hold {p : Prog} {wd : Nm} {pl : Option (Nat × Nat)} {bs : List Nm} {r : Rule} : r ∈ holdRules p wd pl bs ↔ ∃ i s t, (spotsOf p)[i]? = some s ∧ t ∈ nexts p s ∧
    ((∃ l, (l = 0 ∨ l = 1) ∧ r ∈ boxRules bs (lineOf p s) (l, i) (max l (come pl t), idx p t)) ∨ r ∈ madeH wd (lineOf p s) (come pl t) (idx p t)) := by
  unfold holdRules spotH stepH
  simp only [List.mem_flatMap, List.mem_append]
  constructor
  · rintro ⟨a, ha, t, ht, h⟩
    refine ⟨a.2, a.1, t, mem_zip.mp ha, ht, ?_⟩
    rcases h with ⟨l, hl, h⟩ | h
    · exact .inl ⟨l, by simpa using hl, h⟩
    · exact .inr h
  · rintro ⟨i, s, t, hs, ht, h⟩
    refine ⟨(s, i), mem_zip.mpr hs, t, ht, ?_⟩
    rcases h with ⟨l, hl, h⟩ | h
    · exact .inl ⟨l, by simpa using hl, h⟩
    · exact .inr h
theorem mem_wish {p : Prog} {bs : List Nm} {r : Rule} : r ∈ wishRules p bs ↔ ∃ i s t, (spotsOf p)[i]? = some s ∧ t ∈ nexts p s ∧ r ∈ wantRules bs (lineOf p s) i (idx p t) := by
  unfold wishRules spotW
  simp only [List.mem_flatMap]
  constructor
  · rintro ⟨a, ha, t, ht, h⟩
    exact ⟨a.2, a.1, t, mem_zip.mp ha, ht, h⟩
  · rintro ⟨i, s, t, hs, ht, h⟩
    exact ⟨(s, i), mem_zip.mpr hs, t, ht, h⟩
def seatU (bs : List Nm) : List Seat := ([0, 1] : List Nat).flatMap fun l => (List.range 120).flatMap fun n => bs.map fun b => ⟨l, n, b⟩
theorem mem_seatU {bs : List Nm} {s : Seat} (h1 : s.late ≤ 1) (h2 : s.n < 120) (h3 : s.box ∈ bs) : s ∈ seatU bs := by
  unfold seatU
  simp only [List.mem_flatMap, List.mem_map, List.mem_range]
  exact ⟨s.late, by rcases Nat.le_one_iff_eq_zero_or_eq_one.mp h1 with e | e <;> simp [e], s.n, h2, s.box, h3, rfl⟩
theorem seatU_len {bs : List Nm} (h : bs.length ≤ 3) : (seatU bs).length ≤ 1000 := by
  unfold seatU
  have h1 : ∀ l : Nat, ((List.range 120).flatMap fun n => bs.map fun b => (⟨l, n, b⟩ : Seat)).length ≤ 120 * 3 := fun l => by
    have := flat_len (f := fun n => bs.map fun b => (⟨l, n, b⟩ : Seat)) (n := 3) (xs := List.range 120) fun x _ => by rw [List.length_map]; exact h
    rw [List.length_range] at this
    exact this
  have := flat_len (f := fun l => (List.range 120).flatMap fun n => bs.map fun b => (⟨l, n, b⟩ : Seat)) (n := 120 * 3) (xs := ([0, 1] : List Nat)) fun x _ => h1 x
  exact Nat.le_trans this (by decide)
theorem lnAt_mem {p : Prog} {i k : Nat} {l : Line} (h : lnAt p i k = some l) : l ∈ allLines p := by
  unfold lnAt at h
  cases q : p[i]? with
  | none => rw [q] at h; cases h
  | some pt =>
    rw [q] at h
    unfold allLines
    exact List.mem_flatMap.mpr ⟨pt, List.mem_of_getElem? q, List.mem_of_getElem? h⟩
theorem lineOf_mem {p : Prog} {s : Spot} {l : Line} (h : lineOf p s = some l) : l ∈ allLines p := by
  unfold lineOf at h
  split at h
  · cases h
  · exact lnAt_mem h
theorem line_box {p : Prog} {bs : List Nm} (hb : isBoxes p bs) {s : Spot} {l : Line} (h : lineOf p s = some l) {b : Nm} (hm : b ∈ l.boxes) : b ∈ bs := (hb.2 b).mpr ⟨l, lineOf_mem h, hm⟩
theorem come_le {pl : Option (Nat × Nat)} {t : Spot} : come pl t ≤ 1 := by unfold come; split <;> simp
theorem idx_lt {p : Prog} {t : Spot} (h : t ∈ spotsOf p) : idx p t < (spotsOf p).length := List.idxOf_lt_length_iff.mpr h
theorem next_in {p : Prog} (g : Good p) {i : Nat} {s t : Spot} (hs : (spotsOf p)[i]? = some s) (ht : t ∈ nexts p s) : t ∈ spotsOf p :=
  ((spots_clos g.ok g.small).cl s (List.mem_of_getElem? hs) t ht).resolve_right fun z => nomatch z
theorem ok_hold {p : Prog} (g : Good p) {wd : Nm} {pl : Option (Nat × Nat)} {bs : List Nm} (hb : isBoxes p bs) : OkRules (holdRules p wd pl bs) := by
  have cl := spots_clos g.ok g.small
  have hlen := cl.len g.small
  have hb3 := g.boxlen hb
  refine ⟨?_, seatU bs, seatU_len hb3, fun r hr => ?_⟩
  · have := flat_len (f := spotH p wd pl bs) (n := 22) (xs := (spotsOf p).zipIdx) fun x _ => spotH_len hb3
    rw [List.length_zipIdx] at this
    unfold holdRules
    omega
  · obtain ⟨i, s, t, hs, ht, h⟩ := mem_hold.mp hr
    have hi : i < 120 := Nat.lt_of_lt_of_le (List.getElem?_eq_some_iff.mp hs).1 hlen
    have htm := next_in g hs ht
    have hj : idx p t < 120 := Nat.lt_of_lt_of_le (idx_lt htm) hlen
    have hc := come_le (pl := pl) (t := t)
    rcases h with ⟨l, hl, h⟩ | h
    · have hl1 : l ≤ 1 := by omega
      have hm1 : max l (come pl t) ≤ 1 := by omega
      rcases mem_box.mp h with ⟨b, h1, _, e⟩ | ⟨ln, e, h⟩
      · subst e; exact ⟨mem_seatU hl1 hi h1, mem_seatU hm1 hj h1⟩
      · have lb : ∀ {b : Nm}, b ∈ ln.boxes → b ∈ bs := fun hm => line_box hb e hm
        cases ln <;> simp only [extraH, List.mem_cons, List.not_mem_nil, or_false] at h
        · rcases h with h | h <;> subst h
          · exact ⟨mem_seatU hl1 hi (lb (by simp [Line.boxes])), mem_seatU hm1 hj (lb (by simp [Line.boxes])), .inl rfl⟩
          · exact ⟨mem_seatU hl1 hi (lb (by simp [Line.boxes])), mem_seatU hm1 hj (lb (by simp [Line.boxes])), .inr rfl⟩
        · subst h; exact ⟨mem_seatU hl1 hi (lb (by simp [Line.boxes])), mem_seatU hm1 hj (lb (by simp [Line.boxes])), .inl rfl⟩
        · subst h; exact ⟨mem_seatU hl1 hi (lb (by simp [Line.boxes])), mem_seatU hm1 hj (lb (by simp [Line.boxes])), .inr rfl⟩
        · subst h; exact ⟨mem_seatU hl1 hi (lb (by simp [Line.boxes])), mem_seatU hm1 hj (lb (by simp [Line.boxes]))⟩
    · unfold madeH at h
      split at h
      · rename_i x wd' y z e
        split at h
        · rw [List.mem_singleton] at h
          subst h
          exact mem_seatU hc hj (line_box hb e (by simp [Line.boxes]))
        · cases h
      · cases h
theorem reads_box {l : Line} {b : Nm} (h : l.reads = some b) : b ∈ l.boxes := by
  cases l <;> simp [Line.reads] at h <;> subst h <;> simp [Line.boxes]
theorem ok_wish {p : Prog} (g : Good p) {bs : List Nm} (hb : isBoxes p bs) : OkRules (wishRules p bs) := by
  have cl := spots_clos g.ok g.small
  have hlen := cl.len g.small
  have hb3 := g.boxlen hb
  refine ⟨?_, seatU bs, seatU_len hb3, fun r hr => ?_⟩
  · have := flat_len (f := spotW p bs) (n := 12) (xs := (spotsOf p).zipIdx) fun x _ => spotW_len hb3
    rw [List.length_zipIdx] at this
    unfold wishRules
    omega
  · obtain ⟨i, s, t, hs, ht, h⟩ := mem_wish.mp hr
    have hi : i < 120 := Nat.lt_of_lt_of_le (List.getElem?_eq_some_iff.mp hs).1 hlen
    have htm := next_in g hs ht
    have hj : idx p t < 120 := Nat.lt_of_lt_of_le (idx_lt htm) hlen
    have z1 : 0 ≤ 1 := by decide
    rcases mem_want.mp h with ⟨b, h1, _, e⟩ | ⟨ln, e, h⟩
    · subst e; exact ⟨mem_seatU z1 hj h1, mem_seatU z1 hi h1⟩
    · have lb : ∀ {b : Nm}, b ∈ ln.boxes → b ∈ bs := fun hm => line_box hb e hm
      rcases h with h | h
      · unfold readW at h
        split at h
        · cases h
        · rename_i b hbb
          rw [List.mem_singleton] at h
          subst h
          exact mem_seatU z1 hi (lb (reads_box hbb))
      · cases ln <;> simp only [extraW, List.mem_cons, List.not_mem_nil, or_false] at h
        · rcases h with h | h <;> subst h
          · exact ⟨mem_seatU z1 hj (lb (by simp [Line.boxes])), mem_seatU z1 hi (lb (by simp [Line.boxes])), .inl rfl⟩
          · exact ⟨mem_seatU z1 hj (lb (by simp [Line.boxes])), mem_seatU z1 hi (lb (by simp [Line.boxes])), .inr rfl⟩
        · subst h; exact ⟨mem_seatU z1 hj (lb (by simp [Line.boxes])), mem_seatU z1 hi (lb (by simp [Line.boxes])), .inl rfl⟩
        · subst h; exact ⟨mem_seatU z1 hj (lb (by simp [Line.boxes])), mem_seatU z1 hi (lb (by simp [Line.boxes])), .inr rfl⟩
        · subst h; exact ⟨mem_seatU z1 hj (lb (by simp [Line.boxes])), mem_seatU z1 hi (lb (by simp [Line.boxes]))⟩
section
variable {P : Program} {w : World} {K : PySem.W.Frag} {mg : Str → Option Value} {base : Heap} {f f1 f2 f3 f4 f5 f6 : Addr} {fd d1 d2 d3 d4 d5 d6 : FuncData} {aO aG : Addr} {C : Cn} {Γ : Ga} {M : Ms} {ta tb tc te : TE}
theorem sc_holds : FnScope ["program", "word", "place"] ["program", "word", "place"] (defScope s_holds) := ⟨rfl, rfl, rfl, by decide +kernel, rfl, by decide +kernel, by decide +kernel⟩
theorem ok_holds {dvs : List V} {kws : List (Str × V)} (c_hold_rules : Cal P w K mg base 6 "hold_rules" ["program", "word", "place"] (sp_hold_rules P w K) f1 d1) (c_least : Cal P w K mg base 6 "least" ["rules"] (sp_least P w K) f2 d2)
    (F : FunD K "holds" "holds" (defArgs s_holds) (defBody s_holds) (defScope s_holds) dvs kws f fd) : FnOk P w K mg base CX0 7 f fd ["program", "word", "place"] (sp_holds P w K) := by
  have nd := sc_holds.nd
  refine F.ok sc_holds (fun vs H Q E h => SpR.len (n := 3) (fun _ => rfl) h) (fun cdv A outer s H vs Q E hr h => ⟨_, PSs.nox
    (pss_one (ps_ret (pe_call c_least.F (hr.mono (by decide)) (by rfl) c_least.m c_least.k c_least.b .nil pass0 (pa_cons (pe_call c_hold_rules.F (hr.mono (by decide)) (by rfl) c_hold_rules.m c_hold_rules.k c_hold_rules.b .nil pass0 (pa_cons (pv 0) (pa_cons (pv 1) (pa_cons (pv 2) pa_nil)))) pa_nil)))), ?_⟩)
  obtain ⟨Wz, ⟨p, wd, pl⟩, rfl, ok, g, hq⟩ := h
  have g : Good p := g
  have S := sta_start ["program", "word", "place"] ok
  refine s_retP (R := fun s => ∃ bs r, isBoxes p bs ∧ IsLeast (holdRules p wd pl bs) r ∧ s = .dat (encReader r)) S (p_callP (p_call (p, wd, pl) (a_cons (e_var rfl) (a_cons (e_var rfl) (a_cons (e_var rfl) a_nil))) g) fun s ⟨bs, hb, e⟩ => ?_) fun s v W' r si ok => ?_
  · subst e
    exact ⟨holdRules p wd pl bs, rfl, ok_hold g hb, fun s' ⟨r, hr, e⟩ => ⟨bs, r, hb, hr, e⟩⟩
  · exact hq s v W' (si.lep fun _ h => h) r ok
theorem sc_wants : FnScope ["program", "boxes", "numbers", "rules", "spot", "behind"] ["program"] (defScope s_wants) := ⟨rfl, rfl, rfl, by decide +kernel, rfl, by decide +kernel, by decide +kernel⟩
theorem ok_wants (T : Txt K mg aO aG) (c_boxes_of : Cal P w K mg base 2 "boxes_of" ["program"] (sp_boxes_of P w K) f1 d1) (c_numbers_of : Cal P w K mg base 5 "numbers_of" ["program"] (sp_numbers_of P w K) f2 d2) (c_line_of : Cal P w K mg base 1 "line_of" ["program", "spot"] (sp_line_of P w K) f3 d3)
    (c_next_spots : Cal P w K mg base 3 "next_spots" ["program", "spot"] (sp_next_spots P w K) f4 d4) (c_want_rules : Cal P w K mg base 2 "want_rules" ["boxes", "line", "here", "there"] (sp_want_rules P w K) f5 d5) (c_least : Cal P w K mg base 6 "least" ["rules"] (sp_least P w K) f6 d6)
    (F : FnP K "wants" "wants" s_wants f fd) : FnOk P w K mg base CX0 7 f fd ["program"] (sp_wants P w K) := by
  have nd := sc_wants.nd
  have tx := T
  refine F.ok sc_wants (fun vs H Q E h => SpR.len (n := 1) (fun _ => rfl) h) (fun cdv A outer s H vs Q E hr h => ⟨_, PSs.nox
    (pss_cons (ps_set (i := 1) nd rfl (Or.inl rfl) (pe_call c_boxes_of.F (hr.mono (by decide)) (by rfl) c_boxes_of.m c_boxes_of.k c_boxes_of.b .nil pass0 (pa_cons (pv 0) pa_nil)))
    (pss_cons (ps_set (i := 2) nd rfl (Or.inl rfl) (pe_call c_numbers_of.F (hr.mono (by decide)) (by rfl) c_numbers_of.m c_numbers_of.k c_numbers_of.b .nil pass0 (pa_cons (pv 0) pa_nil)))
    (pss_cons (ps_set (i := 3) nd rfl (Or.inl rfl) (pe_lst pa_nil))
    (pss_cons (ps_for PassesOwn.never rfl ((pi_keysN ESpot) (pv 2)) (pg_name (i := 4) nd rfl (Or.inl rfl)) (pss_one (ps_for PassesOwn.never rfl (pi_list (pe_call c_next_spots.F (hr.mono (by decide)) (by rfl) c_next_spots.m c_next_spots.k c_next_spots.b .nil pass0 (pa_cons (pv 0) (pa_cons (pv 4) pa_nil)))) (pg_name (i := 5) nd rfl (Or.inl rfl)) (pss_one (ps_expr (pe_bm PySem.F.plainAttrs_list PySem.F.slot_list_extend PySem.F.type_list_extend mt_extend (pv 3) (pa_cons (pe_call c_want_rules.F (hr.mono (by decide)) (by rfl) c_want_rules.m c_want_rules.k c_want_rules.b .nil pass0 (pa_cons (pv 1) (pa_cons (pe_call c_line_of.F (hr.mono (by decide)) (by rfl) c_line_of.m c_line_of.k c_line_of.b .nil pass0 (pa_cons (pv 0) (pa_cons (pv 4) pa_nil))) (pa_cons (pe_ixN ESpot hr.units (pv 2) (pv 4) (fun _ _ => rfl)) (pa_cons (pe_ixN ESpot hr.units (pv 2) (pv 5) (fun _ _ => rfl)) pa_nil))))) pa_nil)))))))
    (pss_one (ps_ret (pe_call c_least.F (hr.mono (by decide)) (by rfl) c_least.m c_least.k c_least.b .nil pass0 (pa_cons (pv 3) pa_nil)))))))), ?_⟩)
  obtain ⟨Wz, p, rfl, ok, g, hq⟩ := h
  have g : Good p := g
  have cl := spots_clos g.ok g.small
  have hlen := cl.len g.small
  have S := sta_start ["program", "boxes", "numbers", "rules", "spot", "behind"] ok
  refine q_setP S (p_call p (a_cons (e_var rfl) a_nil) g.few) fun bx hbx σ W S => ?_
  obtain ⟨bs, hbs, rfl⟩ := hbx
  have hb3 := g.boxlen hbs
  refine q_set S (e_call p (a_cons (e_var rfl) a_nil) ⟨g.ok, g.small⟩) fun σ W S => ?_
  refine q_newL S fun l σ W S => ?_
  refine q_forDF (C := C0 P w K) (E := ESpot) (kds := numsOf p) (fun _ : List Rule => [some (.dat (encProg p)), some (.dat (.list (bs.map encN))), some (.dic Spot ESpot (numsOf p)), some (.loc l), none, none])
    (fun i a => a = ((spotsOf p).zipIdx.take i).flatMap (spotW p bs)) [] (fun a => [(l, .lst (a.map encRule))]) S (e_var rfl) (fun σ W S => S) rfl (fun k => g_name) (fun i a s T' σ W hs hI S => ?_) (fun a σ W hI S => ?_)
  · rw [nums_keys] at hs
    have hsm : s ∈ spotsOf p := List.mem_of_getElem? hs
    have os := cl.ok s hsm
    have his := idx_at cl.nd hs
    have hil : i < 120 := Nat.lt_of_lt_of_le (List.getElem?_eq_some_iff.mp hs).1 hlen
    have hal : a.length ≤ i * 12 := by
      rw [hI]
      have := flat_len (f := spotW p bs) (n := 12) (xs := (spotsOf p).zipIdx.take i) fun x _ => spotW_len hb3
      rw [List.length_take] at this
      have h2 : min i (spotsOf p).zipIdx.length * 12 ≤ i * 12 := Nat.mul_le_mul_right 12 (Nat.min_le_left ..)
      omega
    refine s_forL (C := C0 P w K) (xs := nexts p s) encSpot (fun _ : List Rule => [some (.dat (encProg p)), some (.dat (.list (bs.map encN))), some (.dic Spot ESpot (numsOf p)), some (.loc l), some (.dat (encSpot s)), none])
      (fun a => [(l, .lst (a.map encRule))]) (fun j b => b = a ++ ((nexts p s).take j).flatMap (fun t => wantRules bs (lineOf p s) i (idx p t))) a S (e_call (p, s) (a_cons (e_var rfl) (a_cons (e_var rfl) a_nil)) ⟨g.ok, os⟩) (fun σ W S => S) (by simp) (fun k => g_name) (fun j b t T' σ W ht hJ S => ?_) (fun b σ W hJ S => ?_)
    · have htm : t ∈ spotsOf p := (cl.cl s hsm t (List.mem_of_getElem? ht)).resolve_right (fun z => nomatch z)
      have hjl : j < 2 := Nat.lt_of_lt_of_le (List.getElem?_eq_some_iff.mp ht).1 (nexts_len p s)
      have hbl : b.length ≤ i * 12 + j * 6 := by
        rw [hJ, List.length_append]
        have := flat_len (f := fun t => wantRules bs (lineOf p s) i (idx p t)) (n := 6) (xs := (nexts p s).take j) fun x _ => wantRules_len hb3
        rw [List.length_take] at this
        have h2 : min j (nexts p s).length * 6 ≤ j * 6 := Nat.mul_le_mul_right 6 (Nat.min_le_left ..)
        omega
      have hbx := wantRules_len (o := lineOf p s) (h := i) (t := idx p t) hb3
      refine s_extL (es := (wantRules bs (lineOf p s) i (idx p t)).map encRule) (j := 0) S rfl rfl
        (e_call ((bs, lineOf p s), i, idx p t) (a_cons (e_var rfl) (a_cons (e_call (p, s) (a_cons (e_var rfl) (a_cons (e_var rfl) a_nil)) (line_ok os)) (a_cons ((e_num (e_var rfl) (e_var rfl) hsm).to (by rw [his])) (a_cons (e_num (e_var rfl) (e_var rfl) htm) a_nil)))) (by show bs.length < 64; omega))
        (by rw [List.length_map, List.length_map]; show _ ≤ 16777216; omega) fun W S => ?_
      rw [← List.map_append] at S
      refine At.mk (b ++ wantRules bs (lineOf p s) i (idx p t)) ?_ S.w
      rw [flat_take ht, hJ, List.append_assoc]
    · rw [List.take_length] at hJ
      refine At.mk b ?_ S.w
      rw [flat_take (zip_at hs), ← hI, hJ]
      rfl
  · have hl : (numsOf p).length = (spotsOf p).zipIdx.length := by unfold numsOf; rw [List.length_map]
    rw [hl, List.take_length] at hI
    have hI : a = wishRules p bs := hI
    subst hI
    refine q_fz S (i := 3) (j := 0) rfl rfl (fun h => h) fun W S => ?_
    refine s_retP S (p_call (wishRules p bs) (a_cons (e_var rfl) a_nil) (ok_wish g hbs)) fun s v W' r si ok => ?_
    obtain ⟨r, h1, h2⟩ := r
    exact hq s v W' (si.lep fun _ h => h) ⟨bs, r, hbs, h1, h2⟩ ok
end
end Dr
namespace Dr
open PySem PySem.Spec PyProof.Rows L2

/-! growing, purely -/
structure Pst where
  al : List (Seat × Thing)
  kn : List (Seat × Seat)
  rl : List Rule
  fr : List (Seat × Thing)
def thingsAt (al : List (Seat × Thing)) (s : Seat) : List Thing := (al.filter fun x => decide (x.1 = s)).map (·.2)
def folAt (kn : List (Seat × Seat)) (s : Seat) : List Seat := (kn.filter fun x => decide (x.1 = s)).map (·.2)
def Rule.src : Rule → Seat
  | .copy a _ => a
  | .push a _ _ => a
  | .pop a _ _ => a
  | .end_ b => b
def rulesAt (rl : List Rule) (s : Seat) : List Rule := rl.filter fun r => decide (r.src = s)
theorem mem_thingsAt {al : List (Seat × Thing)} {s : Seat} {t : Thing} : t ∈ thingsAt al s ↔ (s, t) ∈ al := by
  unfold thingsAt
  rw [List.mem_map]
  constructor
  · rintro ⟨x, hx, e⟩
    rw [List.mem_filter] at hx
    have := of_decide_eq_true hx.2
    obtain ⟨a, b⟩ := x
    subst this e
    exact hx.1
  · intro h
    exact ⟨(s, t), List.mem_filter.mpr ⟨h, decide_eq_true rfl⟩, rfl⟩
theorem mem_folAt {kn : List (Seat × Seat)} {s b : Seat} : b ∈ folAt kn s ↔ (s, b) ∈ kn := by
  unfold folAt
  rw [List.mem_map]
  constructor
  · rintro ⟨x, hx, e⟩
    rw [List.mem_filter] at hx
    have := of_decide_eq_true hx.2
    obtain ⟨a, b⟩ := x
    subst this e
    exact hx.1
  · intro h
    exact ⟨(s, b), List.mem_filter.mpr ⟨h, decide_eq_true rfl⟩, rfl⟩
theorem mem_rulesAt {rl : List Rule} {s : Seat} {r : Rule} : r ∈ rulesAt rl s ↔ r ∈ rl ∧ r.src = s := by
  unfold rulesAt
  rw [List.mem_filter]
  simp
def layP (p : Pst) (s : Seat) (t : Thing) : Pst := if (s, t) ∈ p.al then p else { p with al := p.al ++ [(s, t)], fr := p.fr ++ [(s, t)] }
def laysP (p : Pst) (b : Seat) (ts : List Thing) : Pst := ts.foldl (fun q t => layP q b t) p
def knowP (p : Pst) (a b : Seat) : Pst := { p with kn := p.kn ++ [(a, b)] }
def followP (p : Pst) (a b : Seat) : Pst := if (a, b) ∈ p.kn then p else laysP (knowP p a b) b (thingsAt p.al a)
def procRule (s : Seat) (t : Thing) (p : Pst) (r : Rule) : Pst := match r with
  | .push _ l b => layP p b (some (l, s))
  | .pop _ l b => (match t with
    | some (l', s') => if l' = l then followP p s' b else p
    | none => p)
  | _ => p
def sendP (p : Pst) (t : Thing) (bs : List Seat) : Pst := bs.foldl (fun q b => layP q b t) p
def procP (p : Pst) (s : Seat) (t : Thing) : Pst := (rulesAt p.rl s).foldl (procRule s t) (sendP p t (folAt p.kn s))
def initRule (p : Pst) (r : Rule) : Pst := match r with
  | .copy a b => followP p a b
  | .end_ b => layP p b none
  | r => { p with rl := p.rl ++ [r] }
def initP (rs : List Rule) : Pst := rs.foldl initRule ⟨[], [], [], []⟩

/-! ### what grows -/
structure Ext (p q : Pst) : Prop where
  al : ∀ x ∈ p.al, x ∈ q.al
  kn : ∀ x ∈ p.kn, x ∈ q.kn
  rl : q.rl = p.rl
  fr : ∀ x ∈ p.fr, x ∈ q.fr
  nw : ∀ x ∈ q.al, x ∈ p.al ∨ x ∈ q.fr
  ct : q.al.length + p.fr.length = p.al.length + q.fr.length
theorem Ext.refl (p : Pst) : Ext p p := ⟨fun _ h => h, fun _ h => h, rfl, fun _ h => h, fun _ h => .inl h, rfl⟩
theorem Ext.trans {p q r : Pst} (a : Ext p q) (b : Ext q r) : Ext p r := ⟨fun x h => b.al x (a.al x h), fun x h => b.kn x (a.kn x h), b.rl.trans a.rl, fun x h => b.fr x (a.fr x h), fun x h => by
  rcases b.nw x h with h | h
  · rcases a.nw x h with h | h
    · exact .inl h
    · exact .inr (b.fr x h)
  · exact .inr h, by have := a.ct; have := b.ct; omega⟩
theorem lay_ext (p : Pst) (s : Seat) (t : Thing) : Ext p (layP p s t) := by
  unfold layP
  split
  · exact Ext.refl p
  · refine ⟨fun x h => List.mem_append_left _ h, fun _ h => h, rfl, fun x h => List.mem_append_left _ h, fun x h => ?_, ?_⟩
    · rcases List.mem_append.mp h with h | h
      · exact .inl h
      · exact .inr (List.mem_append_right _ h)
    · simp only [List.length_append, List.length_singleton]; omega
theorem lay_in (p : Pst) (s : Seat) (t : Thing) : (s, t) ∈ (layP p s t).al := by
  unfold layP
  split
  · assumption
  · exact List.mem_append_right _ (List.mem_singleton_self _)
theorem lay_kn (p : Pst) (s : Seat) (t : Thing) : (layP p s t).kn = p.kn := by unfold layP; split <;> rfl
theorem lays_ext (b : Seat) : ∀ (ts : List Thing) (p : Pst), Ext p (laysP p b ts)
  | [], p => Ext.refl p
  | t :: ts, p => (lay_ext p b t).trans (lays_ext b ts (layP p b t))
theorem lays_kn (b : Seat) : ∀ (ts : List Thing) (p : Pst), (laysP p b ts).kn = p.kn
  | [], p => rfl
  | t :: ts, p => (lays_kn b ts (layP p b t)).trans (lay_kn p b t)
theorem lays_in (b : Seat) : ∀ (ts : List Thing) (p : Pst) (t : Thing), t ∈ ts → (b, t) ∈ (laysP p b ts).al
  | t :: ts, p, u, h => by
    rcases List.mem_cons.mp h with e | h
    · subst e; exact (lays_ext b ts (layP p b u)).al _ (lay_in p b u)
    · exact lays_in b ts (layP p b t) u h
theorem send_ext (t : Thing) : ∀ (bs : List Seat) (p : Pst), Ext p (sendP p t bs)
  | [], p => Ext.refl p
  | b :: bs, p => (lay_ext p b t).trans (send_ext t bs (layP p b t))
theorem send_kn (t : Thing) : ∀ (bs : List Seat) (p : Pst), (sendP p t bs).kn = p.kn
  | [], p => rfl
  | b :: bs, p => (send_kn t bs (layP p b t)).trans (lay_kn p b t)
theorem send_in (t : Thing) : ∀ (bs : List Seat) (p : Pst) (b : Seat), b ∈ bs → (b, t) ∈ (sendP p t bs).al
  | b :: bs, p, u, h => by
    rcases List.mem_cons.mp h with e | h
    · subst e; exact (send_ext t bs (layP p u t)).al _ (lay_in p u t)
    · exact send_in t bs (layP p b t) u h
theorem know_ext (p : Pst) (a b : Seat) : Ext p (knowP p a b) := ⟨fun _ h => h, fun x h => List.mem_append_left _ h, rfl, fun _ h => h, fun _ h => .inl h, rfl⟩
theorem follow_ext (p : Pst) (a b : Seat) : Ext p (followP p a b) := by
  unfold followP
  split
  · exact Ext.refl p
  · exact (know_ext p a b).trans (lays_ext b _ _)
theorem follow_in (p : Pst) (a b : Seat) : (a, b) ∈ (followP p a b).kn := by
  unfold followP
  split
  · assumption
  · rw [lays_kn]; exact List.mem_append_right _ (List.mem_singleton_self _)
theorem rule_ext (s : Seat) (t : Thing) (p : Pst) (r : Rule) : Ext p (procRule s t p r) := by
  unfold procRule
  split
  · exact lay_ext ..
  · split
    · split
      · exact follow_ext ..
      · exact Ext.refl p
    · exact Ext.refl p
  · exact Ext.refl p
theorem rules_ext (s : Seat) (t : Thing) : ∀ (rs : List Rule) (p : Pst), Ext p (rs.foldl (procRule s t) p)
  | [], p => Ext.refl p
  | r :: rs, p => (rule_ext s t p r).trans (rules_ext s t rs (procRule s t p r))

/-! ### nothing is missed -/
def doneP (p : Pst) (s : Seat) (t : Thing) : Rule → Prop
  | .push _ l b => (b, some (l, s)) ∈ p.al
  | .pop _ l b => ∀ s', t = some (l, s') → (s', b) ∈ p.kn
  | _ => True
theorem doneP.mono {p q : Pst} (e : Ext p q) {s : Seat} {t : Thing} {r : Rule} (h : doneP p s t r) : doneP q s t r := by
  cases r with
  | push a l b => exact e.al _ h
  | pop a l b => exact fun s' z => e.kn _ (h s' z)
  | _ => trivial
structure Comp (p : Pst) (pr : Seat × Thing → Prop) : Prop where
  kn : ∀ a b t, (a, b) ∈ p.kn → (a, t) ∈ p.al → (b, t) ∈ p.al ∨ (a, t) ∈ p.fr ∨ pr (a, t)
  rl : ∀ s t r, (s, t) ∈ p.al → r ∈ p.rl → r.src = s → doneP p s t r ∨ (s, t) ∈ p.fr ∨ pr (s, t)
theorem Comp.ext {p q : Pst} {pr : Seat × Thing → Prop} (c : Comp p pr) (e : Ext p q) (hk : ∀ a b, (a, b) ∈ q.kn → (a, b) ∈ p.kn ∨ ∀ t, (a, t) ∈ p.al → (b, t) ∈ q.al) : Comp q pr := by
  refine ⟨fun a b t h1 h2 => ?_, fun s t r h1 h2 h3 => ?_⟩
  · rcases e.nw _ h2 with h2 | h2
    · rcases hk a b h1 with h1 | h1
      · rcases c.kn a b t h1 h2 with z | z | z
        · exact .inl (e.al _ z)
        · exact .inr (.inl (e.fr _ z))
        · exact .inr (.inr z)
      · exact .inl (h1 t h2)
    · exact .inr (.inl h2)
  · rcases e.nw _ h1 with h1 | h1
    · rw [e.rl] at h2
      rcases c.rl s t r h1 h2 h3 with z | z | z
      · exact .inl (z.mono e)
      · exact .inr (.inl (e.fr _ z))
      · exact .inr (.inr z)
    · exact .inr (.inl h1)
theorem lay_comp {p : Pst} {pr : Seat × Thing → Prop} (c : Comp p pr) (s : Seat) (t : Thing) : Comp (layP p s t) pr := c.ext (lay_ext p s t) fun a b h => .inl (by rw [lay_kn] at h; exact h)
theorem send_comp {p : Pst} {pr : Seat × Thing → Prop} (c : Comp p pr) (t : Thing) (bs : List Seat) : Comp (sendP p t bs) pr := c.ext (send_ext t bs p) fun a b h => .inl (by rw [send_kn] at h; exact h)
theorem follow_comp {p : Pst} {pr : Seat × Thing → Prop} (c : Comp p pr) (x y : Seat) : Comp (followP p x y) pr := by
  refine c.ext (follow_ext p x y) fun a b h => ?_
  unfold followP at h ⊢
  split at h
  · rename_i hk; rw [if_pos hk]; exact .inl h
  · rename_i hk
    rw [if_neg hk]
    rw [lays_kn] at h
    rcases List.mem_append.mp h with h | h
    · exact .inl h
    · have := List.mem_singleton.mp h
      cases this
      exact .inr fun t ht => lays_in _ _ _ _ (mem_thingsAt.mpr ht)
theorem rule_comp {p : Pst} {pr : Seat × Thing → Prop} (c : Comp p pr) (s : Seat) (t : Thing) (r : Rule) : Comp (procRule s t p r) pr := by
  unfold procRule
  split
  · exact lay_comp c ..
  · split
    · split
      · exact follow_comp c ..
      · exact c
    · exact c
  · exact c
theorem rules_comp {pr : Seat × Thing → Prop} (s : Seat) (t : Thing) : ∀ (rs : List Rule) (p : Pst), Comp p pr → Comp (rs.foldl (procRule s t) p) pr
  | [], _, c => c
  | r :: rs, p, c => rules_comp s t rs _ (rule_comp c s t r)
/-- the followers of s have t -/
def Sent (p : Pst) (s : Seat) (t : Thing) : Prop := (s, t) ∈ p.al ∧ ∀ b, (s, b) ∈ p.kn → (b, t) ∈ p.al
theorem Sent.lay {p : Pst} {s : Seat} {t : Thing} (h : Sent p s t) (x : Seat) (u : Thing) : Sent (layP p x u) s t :=
  ⟨(lay_ext p x u).al _ h.1, fun b hb => (lay_ext p x u).al _ (h.2 b (by rw [lay_kn] at hb; exact hb))⟩
theorem Sent.follow {p : Pst} {s : Seat} {t : Thing} (h : Sent p s t) (x y : Seat) : Sent (followP p x y) s t := by
  refine ⟨(follow_ext p x y).al _ h.1, fun b hb => ?_⟩
  unfold followP at hb ⊢
  split at hb
  · rename_i hk; rw [if_pos hk]; exact h.2 b hb
  · rename_i hk
    rw [if_neg hk]
    rw [lays_kn] at hb
    rcases List.mem_append.mp hb with hb | hb
    · exact ((know_ext p x y).trans (lays_ext _ _ _)).al _ (h.2 b hb)
    · have := List.mem_singleton.mp hb
      cases this
      exact lays_in _ _ _ _ (mem_thingsAt.mpr h.1)
theorem rules_done (s : Seat) (t : Thing) : ∀ (rs : List Rule) (p : Pst), Sent p s t → Sent (rs.foldl (procRule s t) p) s t ∧ ∀ r ∈ rs, doneP (rs.foldl (procRule s t) p) s t r
  | [], p, h => ⟨h, fun _ z => nomatch z⟩
  | r :: rs, p, h => by
    have h1 : Sent (procRule s t p r) s t := by
      unfold procRule
      split
      · exact h.lay ..
      · split
        · split
          · exact h.follow ..
          · exact h
        · exact h
      · exact h
    have h2 : doneP (procRule s t p r) s t r := by
      cases r with
      | push a l b => exact lay_in ..
      | pop a l b =>
        intro s' e
        subst e
        simp only [procRule, if_true]
        exact follow_in ..
      | _ => trivial
    obtain ⟨i1, i2⟩ := rules_done s t rs _ h1
    refine ⟨i1, fun r' hr => ?_⟩
    rcases List.mem_cons.mp hr with e | hr
    · subst e; exact h2.mono (rules_ext s t rs _)
    · exact i2 r' hr
theorem proc_ext (p : Pst) (s : Seat) (t : Thing) : Ext p (procP p s t) := (send_ext t _ p).trans (rules_ext s t _ _)
def no : Seat × Thing → Prop := fun _ => False
theorem proc_comp {p : Pst} {s : Seat} {t : Thing} (c : Comp p (· = (s, t))) (hin : (s, t) ∈ p.al) : Comp (procP p s t) no := by
  have c1 := send_comp c t (folAt p.kn s)
  have s1 : Sent (sendP p t (folAt p.kn s)) s t := ⟨(send_ext t _ p).al _ hin, fun b hb => by
    rw [send_kn] at hb
    exact send_in t _ _ _ (mem_folAt.mpr hb)⟩
  have c2 := rules_comp s t (rulesAt p.rl s) _ c1
  obtain ⟨s2, d2⟩ := rules_done s t (rulesAt p.rl s) _ s1
  have e2 := proc_ext p s t
  refine ⟨fun a b u h1 h2 => ?_, fun a u r h1 h2 h3 => ?_⟩
  · rcases c2.kn a b u h1 h2 with z | z | z
    · exact .inl z
    · exact .inr (.inl z)
    · cases z; exact .inl (s2.2 b h1)
  · rcases c2.rl a u r h1 h2 h3 with z | z | z
    · exact .inl z
    · exact .inr (.inl z)
    · cases z
      have h2 : r ∈ p.rl := by rw [← e2.rl]; exact h2
      exact .inl (d2 r (mem_rulesAt.mpr ⟨h2, h3⟩))
theorem pop_comp {p : Pst} {f : List (Seat × Thing)} {s : Seat} {t : Thing} (c : Comp p no) (e : p.fr = f ++ [(s, t)]) : Comp { p with fr := f } (· = (s, t)) := by
  have key : ∀ x, x ∈ p.fr → x ∈ f ∨ x = (s, t) := fun x h => by
    rw [e] at h
    rcases List.mem_append.mp h with h | h
    · exact .inl h
    · exact .inr (List.mem_singleton.mp h)
  refine ⟨fun a b u h1 h2 => ?_, fun a u r h1 h2 h3 => ?_⟩
  · rcases c.kn a b u h1 h2 with z | z | z
    · exact .inl z
    · exact .inr (key _ z)
    · exact z.elim
  · rcases c.rl a u r h1 h2 h3 with z | z | z
    · refine .inl ?_
      cases r <;> exact z
    · exact .inr (key _ z)
    · exact z.elim

/-! ### nothing but what is derived -/
structure Snd (rs : List Rule) (p : Pst) : Prop where
  al : ∀ s t, (s, t) ∈ p.al → Thg rs s t
  kn : ∀ a b, (a, b) ∈ p.kn → ∀ t, Thg rs a t → Thg rs b t
  rl : ∀ r ∈ p.rl, r ∈ rs
theorem lay_snd {rs : List Rule} {p : Pst} (h : Snd rs p) {s : Seat} {t : Thing} (ht : Thg rs s t) : Snd rs (layP p s t) := by
  unfold layP
  split
  · exact h
  · refine ⟨fun a u z => ?_, h.kn, h.rl⟩
    rcases List.mem_append.mp z with z | z
    · exact h.al a u z
    · cases List.mem_singleton.mp z; exact ht
theorem lays_snd {rs : List Rule} (b : Seat) : ∀ (ts : List Thing) (p : Pst), Snd rs p → (∀ t ∈ ts, Thg rs b t) → Snd rs (laysP p b ts)
  | [], _, h, _ => h
  | t :: ts, p, h, k => lays_snd b ts _ (lay_snd h (k t List.mem_cons_self)) fun u hu => k u (List.mem_cons_of_mem _ hu)
theorem send_snd {rs : List Rule} (t : Thing) : ∀ (bs : List Seat) (p : Pst), Snd rs p → (∀ b ∈ bs, Thg rs b t) → Snd rs (sendP p t bs)
  | [], _, h, _ => h
  | b :: bs, p, h, k => send_snd t bs _ (lay_snd h (k b List.mem_cons_self)) fun u hu => k u (List.mem_cons_of_mem _ hu)
theorem follow_snd {rs : List Rule} {p : Pst} (h : Snd rs p) {a b : Seat} (hk : ∀ t, Thg rs a t → Thg rs b t) : Snd rs (followP p a b) := by
  unfold followP
  split
  · exact h
  · refine lays_snd b _ _ ⟨h.al, fun x y z => ?_, h.rl⟩ fun t ht => hk t (h.al a t (mem_thingsAt.mp ht))
    rcases List.mem_append.mp z with z | z
    · exact h.kn x y z
    · cases List.mem_singleton.mp z; exact hk
theorem rules_snd {rs : List Rule} (s : Seat) (t : Thing) (ht : Thg rs s t) : ∀ (qs : List Rule) (p : Pst), Snd rs p → (∀ r ∈ qs, r ∈ rs ∧ r.src = s) → Snd rs (qs.foldl (procRule s t) p)
  | [], _, h, _ => h
  | r :: qs, p, h, k => by
    obtain ⟨k1, k2⟩ := k r List.mem_cons_self
    refine rules_snd s t ht qs _ ?_ fun u hu => k u (List.mem_cons_of_mem _ hu)
    cases r with
    | push a l b =>
      have k2 : a = s := k2
      subst k2
      exact lay_snd h (.push k1 ht)
    | pop a l b =>
      have k2 : a = s := k2
      subst k2
      simp only [procRule]
      split
      · split
        · rename_i l' s' e
          subst e
          exact follow_snd h fun u hu => .pop k1 ht hu
        · exact h
      · exact h
    | copy a b => exact h
    | end_ b => exact h
theorem proc_snd {rs : List Rule} {p : Pst} (h : Snd rs p) {s : Seat} {t : Thing} (ht : Thg rs s t) : Snd rs (procP p s t) :=
  rules_snd s t ht _ _ (send_snd t _ _ h fun b hb => h.kn s b (mem_folAt.mp hb) t ht) fun r hr => ⟨h.rl r (mem_rulesAt.mp hr).1, (mem_rulesAt.mp hr).2⟩
theorem init_snd {rs : List Rule} : ∀ (qs : List Rule) (p : Pst), Snd rs p → (∀ r ∈ qs, r ∈ rs) → Snd rs (qs.foldl initRule p)
  | [], _, h, _ => h
  | r :: qs, p, h, k => by
    have k1 := k r List.mem_cons_self
    refine init_snd qs _ ?_ fun u hu => k u (List.mem_cons_of_mem _ hu)
    have more : ∀ r, r ∈ rs → Snd rs { p with rl := p.rl ++ [r] } := fun r hr => ⟨h.al, h.kn, fun x hx => by
      rcases List.mem_append.mp hx with hx | hx
      · exact h.rl x hx
      · rw [List.mem_singleton.mp hx]; exact hr⟩
    cases r with
    | copy a b => exact follow_snd h fun t ht => .copy k1 ht
    | end_ b => exact lay_snd h (.end_ k1)
    | push a l b => exact more _ k1
    | pop a l b => exact more _ k1
/-- all is fresh, all rules are told -/
structure Told (qs : List Rule) (p : Pst) : Prop where
  fr : ∀ x ∈ p.al, x ∈ p.fr
  cp : ∀ a b, .copy a b ∈ qs → (a, b) ∈ p.kn
  en : ∀ b, .end_ b ∈ qs → (b, none) ∈ p.al
  pu : ∀ a l b, .push a l b ∈ qs → .push a l b ∈ p.rl
  po : ∀ a l b, .pop a l b ∈ qs → .pop a l b ∈ p.rl
theorem Told.ext {qs : List Rule} {p q : Pst} (h : Told qs p) (e : Ext p q) : Told qs q := ⟨fun x hx => (e.nw x hx).elim (fun z => e.fr x (h.fr x z)) id, fun a b z => e.kn _ (h.cp a b z), fun b z => e.al _ (h.en b z), fun a l b z => by rw [e.rl]; exact h.pu a l b z, fun a l b z => by rw [e.rl]; exact h.po a l b z⟩
theorem told_snoc {qs : List Rule} {p : Pst} (h : Told qs p) (r : Rule) : Told (qs ++ [r]) (initRule p r) := by
  have sp : ∀ {x : Rule}, x ∈ qs ++ [r] → x ∈ qs ∨ x = r := fun {x} hx => by
    rcases List.mem_append.mp hx with hx | hx
    · exact .inl hx
    · exact .inr (List.mem_singleton.mp hx)
  have more : ∀ r, (∀ a b, r ≠ .copy a b) → (∀ b, r ≠ .end_ b) → Told (qs ++ [r]) { p with rl := p.rl ++ [r] } := fun r n1 n2 => by
    have sp : ∀ {x : Rule}, x ∈ qs ++ [r] → x ∈ qs ∨ x = r := fun {x} hx => by
      rcases List.mem_append.mp hx with hx | hx
      · exact .inl hx
      · exact .inr (List.mem_singleton.mp hx)
    refine ⟨h.fr, fun a b z => ?_, fun b z => ?_, fun a l b z => ?_, fun a l b z => ?_⟩
    · rcases sp z with z | z
      · exact h.cp a b z
      · exact absurd z.symm (n1 a b)
    · rcases sp z with z | z
      · exact h.en b z
      · exact absurd z.symm (n2 b)
    · rcases sp z with z | z
      · exact List.mem_append_left _ (h.pu a l b z)
      · exact List.mem_append_right _ (by rw [z]; exact List.mem_singleton_self _)
    · rcases sp z with z | z
      · exact List.mem_append_left _ (h.po a l b z)
      · exact List.mem_append_right _ (by rw [z]; exact List.mem_singleton_self _)
  cases r with
  | copy x y =>
    have h' := h.ext (follow_ext p x y)
    refine ⟨h'.fr, fun a b z => ?_, fun b z => ?_, fun a l b z => ?_, fun a l b z => ?_⟩
    · rcases sp z with z | z
      · exact h'.cp a b z
      · cases z; exact follow_in ..
    · rcases sp z with z | z
      · exact h'.en b z
      · cases z
    · rcases sp z with z | z
      · exact h'.pu a l b z
      · cases z
    · rcases sp z with z | z
      · exact h'.po a l b z
      · cases z
  | end_ y =>
    have h' := h.ext (lay_ext p y none)
    refine ⟨h'.fr, fun a b z => ?_, fun b z => ?_, fun a l b z => ?_, fun a l b z => ?_⟩
    · rcases sp z with z | z
      · exact h'.cp a b z
      · cases z
    · rcases sp z with z | z
      · exact h'.en b z
      · cases z; exact lay_in ..
    · rcases sp z with z | z
      · exact h'.pu a l b z
      · cases z
    · rcases sp z with z | z
      · exact h'.po a l b z
      · cases z
  | push a l b => exact more _ (fun _ _ z => by cases z) (fun _ z => by cases z)
  | pop a l b => exact more _ (fun _ _ z => by cases z) (fun _ z => by cases z)
theorem told_init (rs : List Rule) : ∀ (qs ps : List Rule) (p : Pst), ps ++ qs = rs → Told ps p → Told rs (qs.foldl initRule p)
  | [], ps, p, e, h => by rw [List.append_nil] at e; subst e; exact h
  | r :: qs, ps, p, e, h => told_init rs qs (ps ++ [r]) _ (by rw [← e, List.append_assoc]; rfl) (told_snoc h r)
structure GInv (rs : List Rule) (p : Pst) : Prop where
  snd : Snd rs p
  comp : Comp p no
  cp : ∀ a b, .copy a b ∈ rs → (a, b) ∈ p.kn
  en : ∀ b, .end_ b ∈ rs → (b, none) ∈ p.al
  pu : ∀ a l b, .push a l b ∈ rs → .push a l b ∈ p.rl
  po : ∀ a l b, .pop a l b ∈ rs → .pop a l b ∈ p.rl
  frs : ∀ x ∈ p.fr, x ∈ p.al
theorem init_frs : ∀ (qs : List Rule) (p : Pst), (∀ x ∈ p.fr, x ∈ p.al) → ∀ x ∈ (qs.foldl initRule p).fr, x ∈ (qs.foldl initRule p).al := by
  have lay : ∀ (p : Pst) (s : Seat) (t : Thing), (∀ x ∈ p.fr, x ∈ p.al) → ∀ x ∈ (layP p s t).fr, x ∈ (layP p s t).al := by
    intro p s t h
    unfold layP
    split
    · exact h
    · intro x hx
      rcases List.mem_append.mp hx with hx | hx
      · exact List.mem_append_left _ (h x hx)
      · exact List.mem_append_right _ hx
  have lays : ∀ (b : Seat) (ts : List Thing) (p : Pst), (∀ x ∈ p.fr, x ∈ p.al) → ∀ x ∈ (laysP p b ts).fr, x ∈ (laysP p b ts).al := by
    intro b ts
    induction ts with
    | nil => intro p h; exact h
    | cons t ts ih => intro p h; exact ih _ (lay p b t h)
  intro qs
  induction qs with
  | nil => intro p h; exact h
  | cons r qs ih =>
    intro p h
    refine ih _ ?_
    cases r with
    | copy a b =>
      show ∀ x ∈ (followP p a b).fr, x ∈ (followP p a b).al
      unfold followP
      split
      · exact h
      · exact lays _ _ _ h
    | end_ b => exact lay p b none h
    | push a l b => exact h
    | pop a l b => exact h
theorem ginv_init (rs : List Rule) : GInv rs (initP rs) := by
  have h1 : Snd rs (initP rs) := init_snd rs _ ⟨fun _ _ z => (nomatch z), fun _ _ z => (nomatch z), fun _ z => (nomatch z)⟩ fun _ h => h
  have h2 : Told rs (initP rs) := told_init rs rs [] _ rfl ⟨fun _ z => (nomatch z), fun _ _ z => (nomatch z), fun _ z => (nomatch z), fun _ _ _ z => (nomatch z), fun _ _ _ z => (nomatch z)⟩
  exact ⟨h1, ⟨fun a b t _ h => .inr (.inl (h2.fr _ h)), fun s t r h _ _ => .inr (.inl (h2.fr _ h))⟩, h2.cp, h2.en, h2.pu, h2.po, init_frs rs _ fun _ z => nomatch z⟩
theorem ginv_done {rs : List Rule} {p : Pst} (h : GInv rs p) (e : p.fr = []) : ∀ s t, (s, t) ∈ p.al ↔ Thg rs s t := by
  refine fun s t => ⟨h.snd.al s t, fun d => ?_⟩
  have nf : ∀ x, x ∉ p.fr := fun x z => by rw [e] at z; cases z
  induction d with
  | end_ hr => exact h.en _ hr
  | @copy a b t hr _ ih => exact ((h.comp.kn a b t (h.cp a b hr) ih).resolve_right fun z => z.elim (nf _) id)
  | @push a b l t hr _ ih => exact ((h.comp.rl a t _ ih (h.pu a l b hr) rfl).resolve_right fun z => z.elim (nf _) id)
  | @pop a b s l t hr _ _ ih1 ih2 =>
    have h1 := ((h.comp.rl a _ _ ih1 (h.po a l b hr) rfl).resolve_right fun z => z.elim (nf _) id)
    exact ((h.comp.kn s b t (h1 s rfl) ih2).resolve_right fun z => z.elim (nf _) id)
end Dr
namespace Dr
open PySem PySem.Spec PyProof.Rows L2

/-! sizes of growing -/
def okT (U : List Seat) : Thing → Prop
  | none => True
  | some (l, s) => (l = 1 ∨ l = 2) ∧ s ∈ U
structure PI (U : List Seat) (p : Pst) : Prop where
  nda : p.al.Nodup
  al : ∀ x ∈ p.al, x.1 ∈ U ∧ okT U x.2
  ndk : p.kn.Nodup
  kn : ∀ x ∈ p.kn, x.1 ∈ U ∧ x.2 ∈ U
  rl : ∀ r ∈ p.rl, r.inU U
  fr : p.fr.length ≤ p.al.length
  frs : ∀ x ∈ p.fr, x ∈ p.al
theorem lay_pi {U : List Seat} {p : Pst} (h : PI U p) {s : Seat} {t : Thing} (hs : s ∈ U) (ht : okT U t) : PI U (layP p s t) := by
  unfold layP
  split
  · exact h
  · rename_i hn
    refine ⟨?_, fun x hx => ?_, h.ndk, h.kn, h.rl, ?_, fun x hx => ?_⟩
    · rw [List.nodup_append]
      exact ⟨h.nda, by simp, fun a ha b hb e => hn (by rw [List.mem_singleton.mp hb] at e; exact e ▸ ha)⟩
    · rcases List.mem_append.mp hx with hx | hx
      · exact h.al x hx
      · rw [List.mem_singleton.mp hx]; exact ⟨hs, ht⟩
    · simp only [List.length_append, List.length_singleton]; have := h.fr; omega
    · rcases List.mem_append.mp hx with hx | hx
      · exact List.mem_append_left _ (h.frs x hx)
      · exact List.mem_append_right _ hx
theorem lays_pi {U : List Seat} {b : Seat} (hb : b ∈ U) : ∀ (ts : List Thing) (p : Pst), PI U p → (∀ t ∈ ts, okT U t) → PI U (laysP p b ts)
  | [], _, h, _ => h
  | t :: ts, p, h, k => lays_pi hb ts _ (lay_pi h hb (k t List.mem_cons_self)) fun u hu => k u (List.mem_cons_of_mem _ hu)
theorem send_pi {U : List Seat} {t : Thing} (ht : okT U t) : ∀ (bs : List Seat) (p : Pst), PI U p → (∀ b ∈ bs, b ∈ U) → PI U (sendP p t bs)
  | [], _, h, _ => h
  | b :: bs, p, h, k => send_pi ht bs _ (lay_pi h (k b List.mem_cons_self) ht) fun u hu => k u (List.mem_cons_of_mem _ hu)
theorem know_pi {U : List Seat} {p : Pst} (h : PI U p) {a b : Seat} (ha : a ∈ U) (hb : b ∈ U) (hn : (a, b) ∉ p.kn) : PI U (knowP p a b) := by
  refine ⟨h.nda, h.al, ?_, fun x hx => ?_, h.rl, h.fr, h.frs⟩
  · show (p.kn ++ [(a, b)]).Nodup
    rw [List.nodup_append]
    exact ⟨h.ndk, by simp, fun x hx y hy e => hn (by rw [List.mem_singleton.mp hy] at e; exact e ▸ hx)⟩
  · rcases List.mem_append.mp hx with hx | hx
    · exact h.kn x hx
    · rw [List.mem_singleton.mp hx]; exact ⟨ha, hb⟩
theorem follow_pi {U : List Seat} {p : Pst} (h : PI U p) {a b : Seat} (ha : a ∈ U) (hb : b ∈ U) : PI U (followP p a b) := by
  unfold followP
  split
  · exact h
  · rename_i hn
    exact lays_pi hb _ _ (know_pi h ha hb hn) fun t ht => (h.al _ (mem_thingsAt.mp ht)).2
theorem rule_pi {U : List Seat} {p : Pst} (h : PI U p) {s : Seat} {t : Thing} (hs : s ∈ U) (ht : okT U t) {r : Rule} (hr : r.inU U) : PI U (procRule s t p r) := by
  unfold procRule
  split
  · exact lay_pi h hr.2.1 ⟨hr.2.2, hs⟩
  · split
    · split
      · exact follow_pi h ht.2 hr.2.1
      · exact h
    · exact h
  · exact h
theorem rules_pi {U : List Seat} {s : Seat} {t : Thing} (hs : s ∈ U) (ht : okT U t) : ∀ (qs : List Rule) (p : Pst), PI U p → (∀ r ∈ qs, r.inU U) → PI U (qs.foldl (procRule s t) p)
  | [], _, h, _ => h
  | r :: qs, p, h, k => rules_pi hs ht qs _ (rule_pi h hs ht (k r List.mem_cons_self)) fun u hu => k u (List.mem_cons_of_mem _ hu)
theorem pop_pi {U : List Seat} {p : Pst} (h : PI U p) {f : List (Seat × Thing)} {x : Seat × Thing} (e : p.fr = f ++ [x]) : PI U { p with fr := f } := by
  refine ⟨h.nda, h.al, h.ndk, h.kn, h.rl, ?_, fun y hy => h.frs y (by rw [e]; exact List.mem_append_left _ hy)⟩
  have := h.fr
  rw [e, List.length_append, List.length_singleton] at this
  show f.length ≤ p.al.length
  omega
theorem proc_pi {U : List Seat} {p : Pst} (h : PI U p) {s : Seat} {t : Thing} (hs : s ∈ U) (ht : okT U t) : PI U (procP p s t) :=
  rules_pi hs ht _ _ (send_pi ht _ _ h fun b hb => (h.kn _ (mem_folAt.mp hb)).2) fun r hr => h.rl r (mem_rulesAt.mp hr).1
theorem initR_pi {U : List Seat} {p : Pst} (h : PI U p) {r : Rule} (hr : r.inU U) : PI U (initRule p r) := by
  have more : PI U { p with rl := p.rl ++ [r] } := ⟨h.nda, h.al, h.ndk, h.kn, fun x hx => by
    rcases List.mem_append.mp hx with hx | hx
    · exact h.rl x hx
    · rw [List.mem_singleton.mp hx]; exact hr, h.fr, h.frs⟩
  cases r with
  | copy a b => exact follow_pi h hr.1 hr.2
  | end_ b => exact lay_pi h hr trivial
  | push a l b => exact more
  | pop a l b => exact more
theorem pi_al {U : List Seat} {p : Pst} (h : PI U p) (hU : U.length ≤ 1000) : p.al.length ≤ 2001000 := by
  have hs : ∀ x ∈ p.al, x ∈ U.flatMap fun s => (none :: U.flatMap fun u => [some (1, u), some (2, u)]).map fun t => (s, t) := fun x hx => by
    obtain ⟨h1, h2⟩ := h.al x hx
    obtain ⟨s, t⟩ := x
    refine List.mem_flatMap.mpr ⟨s, h1, List.mem_map.mpr ⟨t, ?_, rfl⟩⟩
    cases t with
    | none => exact List.mem_cons_self
    | some q =>
      obtain ⟨l, u⟩ := q
      refine List.mem_cons_of_mem _ (List.mem_flatMap.mpr ⟨u, h2.2, ?_⟩)
      rcases h2.1 with e | e <;> simp [e]
  refine Nat.le_trans (nodup_len h.nda hs) ?_
  have h1 : ∀ s : Seat, ((none :: U.flatMap fun u => ([some (1, u), some (2, u)] : List Thing)).map fun t => (s, t)).length ≤ 2001 := fun s => by
    rw [List.length_map, List.length_cons]
    have := flat_len (f := fun u => ([some (1, u), some (2, u)] : List Thing)) (n := 2) (xs := U) fun x _ => Nat.le_refl _
    omega
  have := flat_len (f := fun s => (none :: U.flatMap fun u => ([some (1, u), some (2, u)] : List Thing)).map fun t => (s, t)) (n := 2001) (xs := U) fun x _ => h1 x
  have h2 := Nat.mul_le_mul_right 2001 hU
  omega
theorem pi_kn {U : List Seat} {p : Pst} (h : PI U p) (hU : U.length ≤ 1000) : p.kn.length ≤ 1000000 := by
  have hs : ∀ x ∈ p.kn, x ∈ U.flatMap fun s => U.map fun t => (s, t) := fun x hx => by
    obtain ⟨h1, h2⟩ := h.kn x hx
    obtain ⟨s, t⟩ := x
    exact List.mem_flatMap.mpr ⟨s, h1, List.mem_map.mpr ⟨t, h2, rfl⟩⟩
  refine Nat.le_trans (nodup_len h.ndk hs) ?_
  have := flat_len (f := fun s => U.map fun t => (s, t)) (n := 1000) (xs := U) fun x _ => by rw [List.length_map]; exact hU
  have h2 := Nat.mul_le_mul_right 1000 hU
  omega
theorem ginv_step {rs : List Rule} {p : Pst} (h : GInv rs p) {U : List Seat} (hp : PI U p) {f : List (Seat × Thing)} {s : Seat} {t : Thing} (e : p.fr = f ++ [(s, t)]) : GInv rs (procP { p with fr := f } s t) := by
  have hin : (s, t) ∈ p.al := h.frs _ (by rw [e]; exact List.mem_append_right _ (List.mem_singleton_self _))
  have hu := hp.al _ hin
  have ex := proc_ext { p with fr := f } s t
  have s0 : Snd rs { p with fr := f } := ⟨h.snd.al, h.snd.kn, h.snd.rl⟩
  have pi := proc_pi (pop_pi hp e) hu.1 hu.2
  exact ⟨proc_snd s0 (h.snd.al s t hin), proc_comp (pop_comp h.comp e) hin, fun a b z => ex.kn _ (h.cp a b z), fun b z => ex.al _ (h.en b z), fun a l b z => by rw [ex.rl]; exact h.pu a l b z, fun a l b z => by rw [ex.rl]; exact h.po a l b z, pi.frs⟩
theorem pi_nil (U : List Seat) : PI U ⟨[], [], [], []⟩ := ⟨List.nodup_nil, fun _ z => (nomatch z), List.nodup_nil, fun _ z => (nomatch z), fun _ z => (nomatch z), Nat.le_refl _, fun _ z => (nomatch z)⟩
theorem things_len {al : List (Seat × Thing)} {s : Seat} : (thingsAt al s).length ≤ al.length := by unfold thingsAt; rw [List.length_map]; exact List.length_filter_le ..
theorem fol_len {al : List (Seat × Seat)} {s : Seat} : (folAt al s).length ≤ al.length := by unfold folAt; rw [List.length_map]; exact List.length_filter_le ..
theorem rulesAt_len {al : List Rule} {s : Seat} : (rulesAt al s).length ≤ al.length := by unfold rulesAt; exact List.length_filter_le ..
theorem things_snoc {al : List (Seat × Thing)} {s s' : Seat} {t : Thing} : thingsAt (al ++ [(s, t)]) s' = thingsAt al s' ++ (if s = s' then [t] else []) := by
  unfold thingsAt
  rw [List.filter_append, List.map_append]
  congr 1
  by_cases e : s = s' <;> simp [e]
theorem fol_snoc {al : List (Seat × Seat)} {s s' : Seat} {t : Seat} : folAt (al ++ [(s, t)]) s' = folAt al s' ++ (if s = s' then [t] else []) := by
  unfold folAt
  rw [List.filter_append, List.map_append]
  congr 1
  by_cases e : s = s' <;> simp [e]
theorem rules_snoc {al : List Rule} {s' : Seat} {r : Rule} : rulesAt (al ++ [r]) s' = rulesAt al s' ++ (if r.src = s' then [r] else []) := by
  unfold rulesAt
  rw [List.filter_append]
  congr 1
  by_cases e : r.src = s' <;> simp [e]
end Dr
namespace Dr
open PySem PySem.Spec PyProof.Rows L2

/-! growing, in the heap -/
structure Gad where
  self : Addr
  dx : Addr
  t : Addr
  fo : Addr
  kn : Addr
  ru : Addr
  fr : Addr
structure Gst where
  p : Pst
  tk : List (Seat × Addr)
  fk : List (Seat × Addr)
  rk : List (Seat × Addr)
def flds (A : Gad) : List (Str × V) := [("things", .ref A.t), ("followers", .ref A.fo), ("known", .ref A.kn), ("rules", .ref A.ru), ("fresh", .ref A.fr)]
def locs (ks : List (Seat × Addr)) : List (Seat × Sv) := ks.map fun p => (p.1, .loc p.2)
def encFr (x : Seat × Thing) : PyData := .tuple [encSeat x.1, encThing x.2]
def tM (al : List (Seat × Thing)) (q : Seat × Addr) : Addr × Mo := (q.2, .dct Thing EThing ((thingsAt al q.1).map fun t => (t, .dat (.bool true))) none)
def fM (kn : List (Seat × Seat)) (q : Seat × Addr) : Addr × Mo := (q.2, .lst ((folAt kn q.1).map encSeat))
def rM (rl : List Rule) (q : Seat × Addr) : Addr × Mo := (q.2, .lst ((rulesAt rl q.1).map encRule))
def inM (g : Gst) : Ms := g.tk.map (tM g.p.al) ++ (g.fk.map (fM g.p.kn) ++ g.rk.map (rM g.p.rl))
def Mg (cg : Addr) (A : Gad) (g : Gst) : Ms :=
  (A.self, .raw (.ins cg A.dx (flds A))) :: (A.dx, .raw (.own A.self)) :: (A.t, .dct Seat ESeat (locs g.tk) none) :: (A.fo, .dct Seat ESeat (locs g.fk) none) ::
  (A.kn, .dct (Seat × Seat) ESS (g.p.kn.map fun k => (k, .dat (.bool true))) none) :: (A.ru, .dct Seat ESeat (locs g.rk) none) :: (A.fr, .lst (g.p.fr.map encFr)) :: inM g
structure GI (U : List Seat) (g : Gst) : Prop where
  tu : ∀ s ∈ g.tk.map (·.1), s ∈ U
  fu : ∀ s ∈ g.fk.map (·.1), s ∈ U
  ru : ∀ s ∈ g.rk.map (·.1), s ∈ U
  tn : (g.tk.map (·.1)).Nodup
  fn : (g.fk.map (·.1)).Nodup
  rn : (g.rk.map (·.1)).Nodup
  ta : ∀ x ∈ g.p.al, x.1 ∈ g.tk.map (·.1)
  fa : ∀ x ∈ g.p.kn, x.1 ∈ g.fk.map (·.1)
  ra : ∀ r ∈ g.p.rl, r.src ∈ g.rk.map (·.1)
theorem locs_keys (ks : List (Seat × Addr)) : (locs ks).map (·.1) = ks.map (·.1) := by unfold locs; rw [List.map_map]; rfl
theorem locs_lookup {s : Seat} {a : Addr} : ∀ {ks : List (Seat × Addr)} {i : Nat}, (ks.map (·.1)).Nodup → ks[i]? = some (s, a) → (locs ks).lookup s = some (.loc a)
  | [], i, _, h => by simp at h
  | q :: ks, i, nd, h => by
    rw [List.map_cons, List.nodup_cons] at nd
    show List.lookup s ((q.1, Sv.loc q.2) :: locs ks) = _
    rw [List.lookup_cons]
    cases i with
    | zero =>
      simp at h
      subst h
      simp
    | succ i =>
      have h : ks[i]? = some (s, a) := by simpa using h
      have hm : s ∈ ks.map (·.1) := List.mem_map.mpr ⟨(s, a), List.mem_of_getElem? h, rfl⟩
      have : (s == q.1) = false := beq_eq_false_iff_ne.mpr fun e => nd.1 (e ▸ hm)
      rw [this]
      exact locs_lookup nd.2 h
theorem key_ix {ks : List (Seat × Addr)} {s : Seat} (h : s ∈ ks.map (·.1)) : ∃ (i : Nat) (a : Addr), ks[i]? = some (s, a) := by
  obtain ⟨q, hq, e⟩ := List.mem_map.mp h
  obtain ⟨i, hi⟩ := List.mem_iff_getElem?.mp hq
  exact ⟨i, q.2, by rw [hi, ← e]⟩
section
variable {P : Program} {w : World} {K : PySem.W.Frag} {mg : Str → Option Value} {base : Heap} {f f1 f2 f3 f4 f5 f6 : Addr} {fd d1 d2 d3 d4 d5 d6 : FuncData} {aO aG cg : Addr} {C : Cn} {Γ : Ga} {M M' : Ms} {ta tb tc td te tk tv : TE} {W0 W : Wo} {T : Kn} {σ : L2.St} {s : Sv} {D : Ends} {tz : TS} {d : PyData}
theorem Sta.perm (S : Sta C W0 T σ W Γ M) (h : M.Perm M') : Sta C W0 T σ W Γ M' := ⟨S.since, S.kn, S.len, S.sl, fun p hp => S.mu p (h.mem_iff.mpr hp), (h.map _).nodup_iff.mp S.nd⟩
theorem set_map {α : Type} {β : Type 1} {F F' : α → β} {xs : List α} {i : Nat} {y : β} (h1 : ∀ (j : Nat) (x : α), xs[j]? = some x → j ≠ i → F x = F' x) (h2 : ∀ x, xs[i]? = some x → y = F' x) : (xs.map F).set i y = xs.map F' := by
  refine List.ext_getElem? fun j => ?_
  by_cases q : i = j
  · subst q
    rw [List.getElem?_set, if_pos rfl, List.length_map, List.getElem?_map]
    split
    · rename_i hi
      rw [List.getElem?_eq_getElem hi]
      exact congrArg some (h2 _ (List.getElem?_eq_getElem hi))
    · rename_i hi
      rw [List.getElem?_eq_none (by omega)]; rfl
  · rw [List.getElem?_set_ne q, List.getElem?_map, List.getElem?_map]
    cases hx : xs[j]? with
    | none => rfl
    | some x => exact congrArg some (h1 j x hx (Ne.symm q))
/-- a field read -/
theorem e_fld {l0 l dx : Addr} {fs : List (Str × V)} {x : Str} (ho : EvS C Γ M te (.loc l0)) (hm : (l0, Mo.raw (.ins cg dx fs)) ∈ M) (cl : Cls C.K cg) (na : NoAttr C.K cg x) (hl : fs.lookup x = some (.ref l)) : EvS C Γ M (tFld C.K te x) (.loc l) := fun W0 T σ W S Q k =>
  ho W0 T σ W S _ fun v W1 l1 ok => by
    have ok : v = .ref l0 := ok
    subst ok
    have S1 := S.le l1
    exact ⟨l0, cg, dx, fs, _, rfl, (S1.mu _ hm).2.2, cl, na, hl, k _ W1 l1 rfl⟩
/-- o.append(e) -/
theorem s_appG {j : Nat} {l : Addr} {ds : List PyData} (S : Sta C W0 T σ W Γ M) (ho : EvS C Γ M td (.loc l)) (hm : M[j]? = some (l, .lst ds)) (h : EvS C Γ M te (.dat d)) (hz : ds.length < sizeLine) (k : ∀ W', Sta C W0 T σ W' Γ (M.set j (l, .lst (ds ++ [d]))) → D.nx σ W'.H) : tDrop (tBM C.K "list" rAppend td (tCons te tNil)) D σ W.H :=
  ho W0 T σ W S _ fun x W1 l1 hx => by
    have hx : x = .ref l := hx
    subst hx
    have S1 := S.le l1
    obtain ⟨g0, _, xs0, hx0, _⟩ := S1.mu _ (List.mem_of_getElem? hm)
    refine ⟨.inl ⟨rfl, _, SqL.of hx0⟩, ?_⟩
    refine h W0 T σ W1 S1 _ fun v W2 l2 ok => ?_
    have S2 := S1.le l2
    obtain ⟨g1, _, xs, hx, hd⟩ := S2.mu _ (List.mem_of_getElem? hm)
    refine ⟨l, xs, v, rfl, rfl, hx, by rw [hd.length]; exact hz, ?_⟩
    exact k (W2.put l (.lst (xs ++ [v])) g1) (S2.change hm g1 ⟨_, upd_same, hd.append (.one ok)⟩)
theorem q_appG {j : Nat} {l : Addr} {ds : List PyData} (S : Sta C W0 T σ W Γ M) (ho : EvS C Γ M td (.loc l)) (hm : M[j]? = some (l, .lst ds)) (h : EvS C Γ M te (.dat d)) (hz : ds.length < sizeLine) (k : ∀ W', Sta C W0 T σ W' Γ (M.set j (l, .lst (ds ++ [d]))) → tz D σ W'.H) : tSeq (tDrop (tBM C.K "list" rAppend td (tCons te tNil))) tz D σ W.H := s_appG (D := { D with nx := tz D }) S ho hm h hz k
section
variable {κ κ2 : Type} [DecidableEq κ] {E : Enc κ} {kvs : List (κ × Sv)} {ob : Option Obj} {l : Addr} {j : Nat} {k : κ}
/-- a new own object put into an own dict -/
theorem putOwn {o : HO} {m : Mo} {p : Addr} (S1 : Sta C W0 T σ W Γ ((p, m) :: M)) (hd : EvS C Γ ((p, m) :: M) td (.loc l)) (hk : EvS C Γ ((p, m) :: M) tk (.dat (E.d k))) (hm : M[j]? = some (l, .dct κ E kvs ob)) (hn : k ∉ kvs.map (·.1)) (hz : kvs.length < sizeLine)
    (q : ∀ W', Sta C W0 T σ W' Γ ((p, m) :: M.set j (l, .dct κ E (kvs ++ [(k, .loc p)]) none)) → D.nx σ W'.H) : gSub td tk (rSetN E C.P C.w C.K) (.ref p) σ W.H D.nx :=
  hd W0 T σ W S1 _ fun x W2 l2 hx => hk W0 T σ W2 (S1.le l2) _ fun y W3 l3 hy => by
    have hx : x = .ref l := hx
    subst hx
    have S3 := (S1.le l2).le l3
    have hm' : ((p, m) :: M)[j + 1]? = some (l, .dct κ E kvs ob) := hm
    obtain ⟨g, _, vs, h1, h2, _⟩ := S3.mu _ (List.mem_of_getElem? hm')
    have hvn := pd_none h2 hn
    refine ⟨l, k, vs, W3.G, rfl, W3.fz, Da.dp _ _ hy, h1, by rw [← pd_len h2]; exact hz, fun o ho => ?_⟩
    rw [putK_new hvn] at ho
    exact q (W3.put l (dX l o) g) (S3.change hm' g ⟨_, ho, pd_snoc (show SvOk C W3.G (.ref p) (.loc p) from rfl) h2, fun _ z => nomatch z⟩)
theorem s_putD (E2 : Enc κ2) (S : Sta C W0 T σ W Γ M) (hd : ∀ p : Addr, EvS C Γ ((p, .dct κ2 E2 [] none) :: M) td (.loc l)) (hk : ∀ p : Addr, EvS C Γ ((p, .dct κ2 E2 [] none) :: M) tk (.dat (E.d k))) (hm : M[j]? = some (l, .dct κ E kvs ob)) (hn : k ∉ kvs.map (·.1)) (hz : kvs.length < sizeLine)
    (q : ∀ p W', Sta C W0 T σ W' Γ ((p, .dct κ2 E2 [] none) :: M.set j (l, .dct κ E (kvs ++ [(k, .loc p)]) none)) → D.nx σ W'.H) : tAsg tNewN (gSub td tk (rSetN E C.P C.w C.K)) D σ W.H := fun p hp hs =>
  putOwn (o := dX p dEmpty) (S.own (o := dX p dEmpty) (m := .dct κ2 E2 [] none) hp ⟨[], DAt.nil hs upd_same, .nil, fun _ z => nomatch z⟩) (hd p) (hk p) hm hn hz (q p)
theorem s_putL (S : Sta C W0 T σ W Γ M) (hd : ∀ p : Addr, EvS C Γ ((p, .lst []) :: M) td (.loc l)) (hk : ∀ p : Addr, EvS C Γ ((p, .lst []) :: M) tk (.dat (E.d k))) (hm : M[j]? = some (l, .dct κ E kvs ob)) (hn : k ∉ kvs.map (·.1)) (hz : kvs.length < sizeLine)
    (q : ∀ p W', Sta C W0 T σ W' Γ ((p, .lst []) :: M.set j (l, .dct κ E (kvs ++ [(k, .loc p)]) none)) → D.nx σ W'.H) : tAsg (tLst tNil) (gSub td tk (rSetN E C.P C.w C.K)) D σ W.H :=
  ⟨Nat.zero_le _, fun p hp => putOwn (o := .lst []) (S.own (o := .lst []) (m := .lst []) hp ⟨[], upd_same, .nil⟩) (hd p) (hk p) hm hn hz (q p)⟩
end

/-! ### what a method promises -/
def addrs (M : Ms) : List Addr := M.map (·.1)
abbrev cA (P : Program) (w : World) (K : PySem.W.Frag) (M : Ms) : Cn := ⟨P, w, K, fun b => b ∈ addrs M⟩
structure GOk (C : Cn) (W : Wo) (M : Ms) : Prop where
  mu : ∀ p ∈ M, W.G p.1 = none ∧ MoOk C W p.1 p.2
  nd : (M.map (·.1)).Nodup
theorem svok_A {A A' : Addr → Prop} {G : Hp} {v : V} {s : Sv} (h : SvOk ⟨P, w, K, A⟩ G v s) : SvOk ⟨P, w, K, A'⟩ G v s := by cases s <;> exact h
theorem mook_A {A A' : Addr → Prop} {l : Addr} {m : Mo} (h : MoOk ⟨P, w, K, A⟩ W l m) : MoOk ⟨P, w, K, A'⟩ W l m := by
  cases m with
  | lst ds => exact h
  | dct κ E kvs ob => obtain ⟨vs, h1, h2, h3⟩ := h; exact ⟨vs, h1, Pd.mapP h2 fun _ _ z => ⟨z.1, svok_A z.2⟩, h3⟩
  | txt kvs => exact h
  | raw o => exact h
structure Chg (P : Program) (w : World) (K : PySem.W.Frag) (M M' : Ms) (W W' : Wo) : Prop where
  since : Since (cA P w K M) W W'
  ok : GOk (C0 P w K) W' M'
  nw : ∀ p ∈ M', p.1 ∈ addrs M ∨ W.H p.1 = none
/-- a method over a growing: its arguments, when, what becomes of it -/
def SpG (P : Program) (w : World) (K : PySem.W.Frag) (cg : Addr) {α : Type} (args : α → List Sv) (pre : Gst → α → Prop) (post : Gst → α → Gst → Prop) : Sp := fun vs H Q _ => ∃ (W : Wo) (A : Gad) (g : Gst) (a : α), W.H = H ∧ Svs (C0 P w K) W.G vs (.loc A.self :: args a) ∧ GOk (C0 P w K) W (Mg cg A g) ∧ pre g a ∧
  ∀ W' g', post g a g' → Chg P w K (Mg cg A g) (Mg cg A g') W W' → Q .non W'.H
theorem SpG.len {α : Type} {args : α → List Sv} {pre : Gst → α → Prop} {post : Gst → α → Gst → Prop} {n : Nat} (hn : ∀ a, (args a).length = n) {vs : List V} {H : Hp} {Q : VK} {E : XK} (h : SpG P w K cg args pre post vs H Q E) : vs.length = n + 1 := by
  obtain ⟨W, A, g, a, _, ok, _⟩ := h
  rw [ok.length, List.length_cons, hn]
theorem sta_meth {vs : List V} {ss : List Sv} {M : Ms} (N : List Str) (h : Svs (C0 P w K) W.G vs ss) (ok : GOk (C0 P w K) W M) : Sta (cA P w K M) W [] (L2.start N vs) W (ss.map some ++ List.replicate (N.length - ss.length) none) M := by
  have S := sta_start N h
  refine ⟨Since.of (Le.refl W), fun p hp => (nomatch hp), S.len, fun i s e => ?_, fun p hp => ⟨(ok.mu p hp).1, .inr (List.mem_map_of_mem hp), mook_A (ok.mu p hp).2⟩, ok.nd⟩
  obtain ⟨v, h1, h2⟩ := S.sl i s e
  exact ⟨v, h1, svok_A h2⟩
theorem Sta.chg {M M' : Ms} (S : Sta (cA P w K M) W0 T σ W Γ M') : Chg P w K M M' W0 W :=
  ⟨S.since, ⟨fun p hp => ⟨(S.mu p hp).1, mook_A (S.mu p hp).2.2⟩, S.nd⟩, fun p hp => (S.mu p hp).2.1.elim .inr .inl⟩
/-- after a method -/
theorem Sta.after {A : Addr → Prop} {W' : Wo} {Ma Mb M2 : Ms} (S : Sta ⟨P, w, K, A⟩ W0 T σ W Γ (Ma ++ M2)) (c : Chg P w K Ma Mb W W') : Sta ⟨P, w, K, A⟩ W0 T σ W' Γ (Mb ++ M2) := by
  have hnd := S.nd
  rw [List.map_append, List.nodup_append] at hnd
  obtain ⟨n1, n2, n3⟩ := hnd
  have own : ∀ b ∈ addrs Ma, W0.H b = none ∨ A b := fun b hb => by
    obtain ⟨p, hp, e⟩ := List.mem_map.mp hb
    rw [← e]
    exact (S.mu p (List.mem_append_left _ hp)).2.1
  refine ⟨⟨fun b o n h => ?_, fun b o h => ?_, S.since.gg.trans c.since.gg, fun b o h => ?_⟩, fun p hp => (S.kn p hp).mono c.since.gg, S.len, fun i s e => ?_, fun p hp => ?_, ?_⟩
  · refine c.since.hh b o (fun hb => ?_) (S.since.hh b o n h)
    rcases own b hb with z | z
    · rw [z] at h; cases h
    · exact n z
  · obtain ⟨o', h'⟩ := S.since.th b o h
    exact c.since.th b o' h'
  · rcases c.since.nw b o h with h | h
    · exact S.since.nw b o h
    · exact .inr (S.fresh0 h)
  · obtain ⟨v, h1, h2⟩ := S.sl i s e
    exact ⟨v, h1, h2.mono c.since.gg⟩
  · rcases List.mem_append.mp hp with hp | hp
    · obtain ⟨h1, h2⟩ := c.ok.mu p hp
      refine ⟨h1, ?_, mook_A h2⟩
      rcases c.nw p hp with z | z
      · exact own _ z
      · exact .inl (S.fresh0 z)
    · obtain ⟨h1, h2, h3⟩ := S.mu p (List.mem_append_right _ hp)
      obtain ⟨o, ho⟩ := h3.there
      have hna : p.1 ∉ addrs Ma := fun z => n3 _ z _ (List.mem_map_of_mem hp) rfl
      refine ⟨?_, h2, h3.mono ((c.since.hh _ _ hna ho).trans ho.symm) c.since.gg⟩
      cases q : W'.G p.1 with
      | none => rfl
      | some u =>
        rcases c.since.nw _ _ q with z | z
        · rw [h1] at z; cases z
        · rw [ho] at z; cases z
  · rw [List.map_append, List.nodup_append]
    refine ⟨c.ok.nd, n2, fun a ha b hb e => ?_⟩
    obtain ⟨p, hp, ep⟩ := List.mem_map.mp ha
    rcases c.nw p hp with z | z
    · rw [ep] at z; exact n3 a z b hb e
    · obtain ⟨q, hq, eq⟩ := List.mem_map.mp hb
      obtain ⟨o, ho⟩ := (S.mu q (List.mem_append_right _ hq)).2.2.there
      rw [ep, e, ← eq, ho] at z
      cases z
theorem s_meth {α : Type} {args : α → List Sv} {pre : Gst → α → Prop} {post : Gst → α → Gst → Prop} {Aa : Addr → Prop} {A : Gad} {g : Gst} {M2 : Ms} {t : TA} {E : XK} {m : Str} (a : α) (S : Sta ⟨P, w, K, Aa⟩ W0 T σ W Γ (Mg cg A g ++ M2)) (ho : EvS ⟨P, w, K, Aa⟩ Γ (Mg cg A g ++ M2) te (.loc A.self)) (hf : (flds A).lookup m = none) (h : EvA ⟨P, w, K, Aa⟩ Γ (Mg cg A g ++ M2) t (args a)) (hp : pre g a)
    (k : ∀ W' g', post g a g' → Sta ⟨P, w, K, Aa⟩ W0 T σ W' Γ (Mg cg A g' ++ M2) → D.nx σ W'.H) : tDrop (tMeth cg m (SpG P w K cg args pre post) [] E te t) D σ W.H :=
  ho W0 T σ W S _ fun x W1 l1 hx => by
    have hx : x = .ref A.self := hx
    subst hx
    have S1 := S.le l1
    have hs : W1.H A.self = some (.ins cg A.dx (flds A)) := (S1.mu _ (List.mem_append_left _ List.mem_cons_self)).2.2
    refine ⟨A.self, A.dx, flds A, rfl, hs, hf, h W0 T σ W1 S1 _ fun vs W2 l2 ok => ?_⟩
    have S2 := S1.le l2
    rw [List.append_nil]
    have hnd := S2.nd
    rw [List.map_append, List.nodup_append] at hnd
    refine ⟨W2, A, g, a, rfl, .cons rfl (Pd.mapP ok fun _ _ z => svok_A z), ⟨fun p hp => ⟨(S2.mu p (List.mem_append_left _ hp)).1, mook_A (S2.mu p (List.mem_append_left _ hp)).2.2⟩, hnd.1⟩, hp, fun W' g' hpost c => k W' g' hpost (S2.after c)⟩
end
end Dr
namespace Dr
open PySem PySem.Spec PyProof.Rows L2

/-! lay, follow -/
theorem Mg_t {cg : Addr} {A : Gad} {g : Gst} {i : Nat} {s : Seat} {a : Addr} (h : g.tk[i]? = some (s, a)) : (Mg cg A g)[i + 7]? = some (a, .dct Thing EThing ((thingsAt g.p.al s).map fun t => (t, .dat (.bool true))) none) := by
  show (inM g)[i]? = _
  have hi := (List.getElem?_eq_some_iff.mp h).1
  unfold inM
  rw [List.getElem?_append_left (by rw [List.length_map]; exact hi), List.getElem?_map, h]
  rfl
theorem Mg_f {cg : Addr} {A : Gad} {g : Gst} {i : Nat} {s : Seat} {a : Addr} (h : g.fk[i]? = some (s, a)) : (Mg cg A g)[g.tk.length + i + 7]? = some (a, .lst ((folAt g.p.kn s).map encSeat)) := by
  show (inM g)[g.tk.length + i]? = _
  have hi := (List.getElem?_eq_some_iff.mp h).1
  unfold inM
  rw [List.getElem?_append_right (by rw [List.length_map]; omega), List.length_map, Nat.add_sub_cancel_left, List.getElem?_append_left (by rw [List.length_map]; exact hi), List.getElem?_map, h]
  rfl
theorem Mg_r {cg : Addr} {A : Gad} {g : Gst} {i : Nat} {s : Seat} {a : Addr} (h : g.rk[i]? = some (s, a)) : (Mg cg A g)[g.tk.length + (g.fk.length + i) + 7]? = some (a, .lst ((rulesAt g.p.rl s).map encRule)) := by
  show (inM g)[g.tk.length + (g.fk.length + i)]? = _
  unfold inM
  rw [List.getElem?_append_right (by rw [List.length_map]; omega), List.length_map, Nat.add_sub_cancel_left, List.getElem?_append_right (by rw [List.length_map]; omega), List.length_map, Nat.add_sub_cancel_left, List.getElem?_map, h]
  rfl
theorem key_ne {ks : List (Seat × Addr)} (nd : (ks.map (·.1)).Nodup) {i j : Nat} {s : Seat} {a : Addr} {x : Seat × Addr} (h : ks[i]? = some (s, a)) (hj : ks[j]? = some x) (ne : j ≠ i) : s ≠ x.1 := fun e => by
  have e1 : (ks.map (·.1))[i]? = some s := by rw [List.getElem?_map, h]; rfl
  have e2 : (ks.map (·.1))[j]? = some s := by rw [List.getElem?_map, hj, e]; rfl
  exact ne (nd_ix nd e2 e1)
theorem inM_setT {g : Gst} {i : Nat} {s : Seat} {a : Addr} {t : Thing} {fr : List (Seat × Thing)} (nd : (g.tk.map (·.1)).Nodup) (h : g.tk[i]? = some (s, a)) :
    (inM g).set i (a, .dct Thing EThing (((thingsAt g.p.al s).map fun t => (t, .dat (.bool true))) ++ [(t, .dat (.bool true))]) none) = inM { g with p := { g.p with al := g.p.al ++ [(s, t)], fr := fr } } := by
  have hi := (List.getElem?_eq_some_iff.mp h).1
  unfold inM
  rw [List.set_append_left _ _ (by rw [List.length_map]; exact hi)]
  congr 1
  refine set_map (fun j x hj ne => ?_) fun x hx => ?_
  · unfold tM
    rw [things_snoc, if_neg (key_ne nd h hj ne), List.append_nil]
  · rw [h] at hx
    cases hx
    unfold tM
    rw [things_snoc, if_pos rfl, List.map_append]
    rfl
theorem inM_setF {g : Gst} {i : Nat} {s b : Seat} {a : Addr} (nd : (g.fk.map (·.1)).Nodup) (h : g.fk[i]? = some (s, a)) :
    (inM g).set (g.tk.length + i) (a, .lst ((folAt g.p.kn s).map encSeat ++ [encSeat b])) = inM { g with p := { g.p with kn := g.p.kn ++ [(s, b)] } } := by
  have hi := (List.getElem?_eq_some_iff.mp h).1
  unfold inM
  rw [List.set_append_right _ _ (by rw [List.length_map]; omega), List.length_map, Nat.add_sub_cancel_left, List.set_append_left _ _ (by rw [List.length_map]; exact hi)]
  congr 2
  refine set_map (fun j x hj ne => ?_) fun x hx => ?_
  · unfold fM
    rw [fol_snoc, if_neg (key_ne nd h hj ne), List.append_nil]
  · rw [h] at hx
    cases hx
    unfold fM
    rw [fol_snoc, if_pos rfl, List.map_append]
    rfl
theorem inM_setR {g : Gst} {i : Nat} {s : Seat} {r : Rule} {a : Addr} (nd : (g.rk.map (·.1)).Nodup) (h : g.rk[i]? = some (s, a)) (hr : r.src = s) :
    (inM g).set (g.tk.length + (g.fk.length + i)) (a, .lst ((rulesAt g.p.rl s).map encRule ++ [encRule r])) = inM { g with p := { g.p with rl := g.p.rl ++ [r] } } := by
  unfold inM
  rw [List.set_append_right _ _ (by rw [List.length_map]; omega), List.length_map, Nat.add_sub_cancel_left, List.set_append_right _ _ (by rw [List.length_map]; omega), List.length_map, Nat.add_sub_cancel_left]
  congr 2
  refine set_map (fun j x hj ne => ?_) fun x hx => ?_
  · unfold rM
    rw [rules_snoc, if_neg (by rw [hr]; exact key_ne nd h hj ne), List.append_nil]
  · rw [h] at hx
    cases hx
    unfold rM
    rw [rules_snoc, if_pos hr, List.map_append]
    rfl
structure Gc (K : PySem.W.Frag) (cg : Addr) : Prop where
  cl : Cls K cg
  nt : NoAttr K cg "things"
  nf : NoAttr K cg "followers"
  nk : NoAttr K cg "known"
  nr : NoAttr K cg "rules"
  nh : NoAttr K cg "fresh"
theorem keys_small {U : List Seat} (hU : U.length ≤ 1000) {ks : List (Seat × Addr)} (nd : (ks.map (·.1)).Nodup) (h : ∀ s ∈ ks.map (·.1), s ∈ U) : (locs ks).length < sizeLine := by
  have := nodup_len nd h
  unfold locs
  rw [List.length_map] at *
  show _ < 16777216
  omega
theorem keys_snoc {U : List Seat} {ks : List (Seat × Addr)} {s : Seat} {p : Addr} (nd : (ks.map (·.1)).Nodup) (h : ∀ s ∈ ks.map (·.1), s ∈ U) (hn : s ∉ ks.map (·.1)) (hs : s ∈ U) : ((ks ++ [(s, p)]).map (·.1)).Nodup ∧ (∀ x ∈ (ks ++ [(s, p)]).map (·.1), x ∈ U) ∧ s ∈ (ks ++ [(s, p)]).map (·.1) ∧ ∀ x ∈ ks.map (·.1), x ∈ (ks ++ [(s, p)]).map (·.1) := by
  rw [List.map_append]
  refine ⟨?_, fun x hx => ?_, List.mem_append_right _ (List.mem_singleton_self _), fun x hx => List.mem_append_left _ hx⟩
  · rw [List.nodup_append]
    exact ⟨nd, by simp, fun a ha b hb e => hn (by have e : a = s := e.trans (List.mem_singleton.mp hb); exact e ▸ ha)⟩
  · rcases List.mem_append.mp hx with hx | hx
    · exact h x hx
    · rw [List.mem_singleton.mp hx]; exact hs
section
variable {P : Program} {w : World} {K : PySem.W.Frag} {mg : Str → Option Value} {base : Heap} {f f1 f2 f3 f4 f5 f6 : Addr} {fd d1 d2 d3 d4 d5 d6 : FuncData} {aO aG cg : Addr} {C : Cn} {Γ : Ga} {M M' : Ms} {ta tb tc td te tk tv : TE} {W0 W : Wo} {T : Kn} {σ : L2.St} {s : Sv} {D : Ends} {tz : TS} {d : PyData}
abbrev ArgST (a : List Seat × Seat × Thing) : List Sv := [.dat (encSeat a.2.1), .dat (encThing a.2.2)]
abbrev ArgSS (a : List Seat × Seat × Seat) : List Sv := [.dat (encSeat a.2.1), .dat (encSeat a.2.2)]
abbrev sp_lay (P : Program) (w : World) (K : PySem.W.Frag) (cg : Addr) : Sp := SpG P w K cg (α := List Seat × Seat × Thing) ArgST (fun g a => a.1.length ≤ 1000 ∧ GI a.1 g ∧ PI a.1 g.p ∧ a.2.1 ∈ a.1 ∧ okT a.1 a.2.2) (fun g a g' => g'.p = layP g.p a.2.1 a.2.2 ∧ GI a.1 g' ∧ g'.fk = g.fk ∧ g'.rk = g.rk)
abbrev sp_follow (P : Program) (w : World) (K : PySem.W.Frag) (cg : Addr) : Sp := SpG P w K cg (α := List Seat × Seat × Seat) ArgSS (fun g a => a.1.length ≤ 1000 ∧ GI a.1 g ∧ PI a.1 g.p ∧ a.2.1 ∈ a.1 ∧ a.2.2 ∈ a.1) (fun g a g' => g'.p = followP g.p a.2.1 a.2.2 ∧ GI a.1 g' ∧ g'.rk = g.rk)
theorem tkeys (al : List Thing) : (al.map fun t => (t, Sv.dat (.bool true))).map (·.1) = al := by rw [List.map_map]; exact List.map_id'' (fun _ => rfl) al
theorem Mg_addT {A : Gad} {g : Gst} {s : Seat} {p : Addr} (h : thingsAt g.p.al s = []) :
    ((p, Mo.dct Thing EThing [] none) :: (Mg cg A g).set 2 (A.t, .dct Seat ESeat (locs g.tk ++ [(s, .loc p)]) none)).Perm (Mg cg A { g with tk := g.tk ++ [(s, p)] }) := by
  have e1 : locs (g.tk ++ [(s, p)]) = locs g.tk ++ [(s, .loc p)] := by unfold locs; rw [List.map_append]; rfl
  have e2 : inM { g with tk := g.tk ++ [(s, p)] } = g.tk.map (tM g.p.al) ++ (p, Mo.dct Thing EThing [] none) :: (g.fk.map (fM g.p.kn) ++ g.rk.map (rM g.p.rl)) := by
    show (g.tk ++ [(s, p)]).map (tM g.p.al) ++ _ = _
    rw [List.map_append, List.append_assoc]
    congr 1
    show (p, Mo.dct Thing EThing ((thingsAt g.p.al s).map _) none) :: _ = _
    rw [h]
    rfl
  unfold Mg
  rw [e1, e2]
  exact (List.perm_middle (l₁ := (A.self, Mo.raw (.ins cg A.dx (flds A))) :: (A.dx, Mo.raw (.own A.self)) :: (A.t, Mo.dct Seat ESeat (locs g.tk ++ [(s, .loc p)]) none) :: (A.fo, Mo.dct Seat ESeat (locs g.fk) none) ::
    (A.kn, Mo.dct (Seat × Seat) ESS (g.p.kn.map fun k => (k, .dat (.bool true))) none) :: (A.ru, Mo.dct Seat ESeat (locs g.rk) none) :: (A.fr, Mo.lst (g.p.fr.map encFr)) :: g.tk.map (tM g.p.al))).symm
theorem Mg_addF {A : Gad} {g : Gst} {s : Seat} {p : Addr} (h : folAt g.p.kn s = []) :
    ((p, Mo.lst []) :: (Mg cg A g).set 3 (A.fo, .dct Seat ESeat (locs g.fk ++ [(s, .loc p)]) none)).Perm (Mg cg A { g with fk := g.fk ++ [(s, p)] }) := by
  have e1 : locs (g.fk ++ [(s, p)]) = locs g.fk ++ [(s, .loc p)] := by unfold locs; rw [List.map_append]; rfl
  have e2 : inM { g with fk := g.fk ++ [(s, p)] } = (g.tk.map (tM g.p.al) ++ g.fk.map (fM g.p.kn)) ++ (p, Mo.lst []) :: g.rk.map (rM g.p.rl) := by
    show _ ++ ((g.fk ++ [(s, p)]).map (fM g.p.kn) ++ _) = _
    rw [List.map_append, List.append_assoc, List.append_assoc]
    congr 2
    show (p, Mo.lst ((folAt g.p.kn s).map encSeat)) :: _ = _
    rw [h]
    rfl
  have e3 : inM g = (g.tk.map (tM g.p.al) ++ g.fk.map (fM g.p.kn)) ++ g.rk.map (rM g.p.rl) := by unfold inM; rw [List.append_assoc]
  unfold Mg
  rw [e1, e2, e3]
  exact (List.perm_middle (l₁ := (A.self, Mo.raw (.ins cg A.dx (flds A))) :: (A.dx, Mo.raw (.own A.self)) :: (A.t, Mo.dct Seat ESeat (locs g.tk) none) :: (A.fo, Mo.dct Seat ESeat (locs g.fk ++ [(s, .loc p)]) none) ::
    (A.kn, Mo.dct (Seat × Seat) ESS (g.p.kn.map fun k => (k, .dat (.bool true))) none) :: (A.ru, Mo.dct Seat ESeat (locs g.rk) none) :: (A.fr, Mo.lst (g.p.fr.map encFr)) :: (g.tk.map (tM g.p.al) ++ g.fk.map (fM g.p.kn)))).symm
theorem Mg_addR {A : Gad} {g : Gst} {s : Seat} {p : Addr} (h : rulesAt g.p.rl s = []) :
    ((p, Mo.lst []) :: (Mg cg A g).set 5 (A.ru, .dct Seat ESeat (locs g.rk ++ [(s, .loc p)]) none)).Perm (Mg cg A { g with rk := g.rk ++ [(s, p)] }) := by
  have e1 : locs (g.rk ++ [(s, p)]) = locs g.rk ++ [(s, .loc p)] := by unfold locs; rw [List.map_append]; rfl
  have e2 : inM { g with rk := g.rk ++ [(s, p)] } = inM g ++ [(p, Mo.lst [])] := by
    show _ ++ (_ ++ (g.rk ++ [(s, p)]).map (rM g.p.rl)) = _
    unfold inM
    rw [List.map_append, List.append_assoc, List.append_assoc]
    congr 3
    show [(p, Mo.lst ((rulesAt g.p.rl s).map encRule))] = _
    rw [h]
    rfl
  unfold Mg
  rw [e1, e2]
  have := (List.perm_middle (a := (p, Mo.lst [])) (l₁ := (A.self, Mo.raw (.ins cg A.dx (flds A))) :: (A.dx, Mo.raw (.own A.self)) :: (A.t, Mo.dct Seat ESeat (locs g.tk) none) :: (A.fo, Mo.dct Seat ESeat (locs g.fk) none) ::
    (A.kn, Mo.dct (Seat × Seat) ESS (g.p.kn.map fun k => (k, .dat (.bool true))) none) :: (A.ru, Mo.dct Seat ESeat (locs g.rk ++ [(s, .loc p)]) none) :: (A.fr, Mo.lst (g.p.fr.map encFr)) :: inM g) (l₂ := [])).symm
  rw [List.append_nil] at this
  exact this
theorem sc_Growing_lay : FnScope ["self", "seat", "thing"] ["self", "seat", "thing"] (defScope s_Growing_lay) := ⟨rfl, rfl, rfl, by decide +kernel, rfl, by decide +kernel, by decide +kernel⟩
theorem ok_lay (G : Gc K cg) (F : FnP K "lay" "Growing.lay" s_Growing_lay f fd) : FnOk P w K mg base CX0 1 f fd ["self", "seat", "thing"] (sp_lay P w K cg) := by
  have nd := sc_Growing_lay.nd
  refine F.ok sc_Growing_lay (fun vs H Q E h => SpG.len (n := 2) (fun _ => rfl) h) (fun cdv A outer s H vs Q E hr h => ⟨_, PSs.nox
    (pss_cons (ps_if (pt_cmpR (op_notInN ESeat hr.units) (pv 1) (pe_fld (pv 0) rfl) (by rfl)) (pss_one (ps_asg pe_newN (pg_sub (pe_fld (pv 0) rfl) (pv 1) (set_N ESeat hr.units)))) pss_nil)
    (pss_one (ps_if (pt_cmpR (op_notInN EThing hr.units) (pv 2) (pe_ixN ESeat hr.units (pe_fld (pv 0) rfl) (pv 1) (fun _ _ => rfl)) (by rfl)) (pss_cons (ps_asg pe_bl (pg_sub (pe_ixN ESeat hr.units (pe_fld (pv 0) rfl) (pv 1) (fun _ _ => rfl)) (pv 2) (set_N EThing hr.units)))
    (pss_one (ps_expr (pe_bm PySem.F.plainAttrs_list PySem.F.slot_list_append PySem.F.type_list_append mt_append (pe_fld (pv 0) rfl) (pa_cons (pe_tup (pa_cons (pv 1) (pa_cons (pv 2) pa_nil))) pa_nil))))) pss_nil))), ?_⟩)
  obtain ⟨Wz, A, g, ⟨U, seat, thing⟩, rfl, ok, gok, ⟨hU, gi, pi, hs, ht⟩, hq⟩ := h
  dsimp only at hU gi pi hs ht
  have S := sta_meth ["self", "seat", "thing"] ok gok
  have ft : ∀ {Γ : Ga} {M : Ms}, Γ[0]? = some (some (.loc A.self)) → (A.self, Mo.raw (.ins cg A.dx (flds A))) ∈ M → EvS (cA P w K (Mg cg A g)) Γ M (tFld K (tVar 0) "things") (.loc A.t) := fun e hm => e_fld (C := cA P w K (Mg cg A g)) (e_var e) hm G.cl G.nt rfl
  refine q_whenK (fun σ W => ∃ g', g'.p = g.p ∧ GI U g' ∧ seat ∈ g'.tk.map (·.1) ∧ (g'.fk = g.fk ∧ g'.rk = g.rk) ∧ Sta (cA P w K (Mg cg A g)) Wz [] σ W [some (.loc A.self), some (.dat (encSeat seat)), some (.dat (encThing thing))] (Mg cg A g')) S
    (t_B (e_notInN (E := ESeat) (k := seat) (j := 2) (e_var rfl) (ft rfl List.mem_cons_self) rfl)) (fun σ W hj => ?_) (fun hb W S kk => ?_) (fun hb W S => ?_)
  · obtain ⟨g', hp, gi', hin, hkk, S⟩ := hj
    obtain ⟨i, a, hi⟩ := key_ix hin
    have hth : EvS (cA P w K (Mg cg A g)) [some (.loc A.self), some (.dat (encSeat seat)), some (.dat (encThing thing))] (Mg cg A g') (tOp (rIxN ESeat P w K) (tFld K (tVar 0) "things") (tVar 1)) (.loc a) :=
      e_atN (C := cA P w K (Mg cg A g)) (E := ESeat) (k := seat) (j := 2) (ft rfl List.mem_cons_self) (e_var rfl) rfl (locs_lookup gi'.tn hi)
    have hal := pi_al pi hU
    have hfr := pi.fr
    refine s_when S (t_B (e_notInN (E := EThing) (k := thing) (j := i + 7) (e_var rfl) hth (Mg_t hi))) (fun hb W S => ?_) (fun hb W S => ?_)
    · rw [tkeys] at hb
      have hn : (seat, thing) ∉ g.p.al := fun z => by
        have := mem_thingsAt.mpr z
        rw [← hp] at this
        simp [this] at hb
      refine q_putN (E := EThing) (k := thing) (j := i + 7) S e_bl hth (e_var rfl) (Mg_t hi) (by rw [tkeys]; simpa using hb) (by rw [List.length_map]; have := things_len (al := g'.p.al) (s := seat); rw [hp] at this ⊢; show _ < 16777216; omega) fun W S => ?_
      refine s_appG (j := 6) S (e_fld (e_var rfl) List.mem_cons_self G.cl G.nh rfl) rfl (e_tup (ds := [encSeat seat, encThing thing]) (a_cons (e_var rfl) (a_cons (e_var rfl) a_nil)) (by show 2 ≤ 1000; decide)) (by rw [List.length_map, hp]; show _ < 16777216; omega) fun W S => ?_
      have e0 : layP g.p seat thing = { g'.p with al := g'.p.al ++ [(seat, thing)], fr := g'.p.fr ++ [(seat, thing)] } := by rw [hp, layP, if_neg hn]
      have e2 := inM_setT (t := thing) (fr := g'.p.fr ++ [(seat, thing)]) gi'.tn hi
      have eM : ((Mg cg A g').set (i + 7) (a, .dct Thing EThing (((thingsAt g'.p.al seat).map fun t => (t, .dat (.bool true))) ++ [(thing, .dat (.bool true))]) none)).set 6 (A.fr, .lst (g'.p.fr.map encFr ++ [encFr (seat, thing)])) = Mg cg A { g' with p := layP g.p seat thing } := by
        rw [e0]
        unfold Mg
        rw [← e2, List.map_append]
        rfl
      replace S := eM ▸ S
      refine hq W { g' with p := layP g.p seat thing } ⟨rfl, ?_, hkk⟩ S.chg
      · have e : layP g.p seat thing = { g.p with al := g.p.al ++ [(seat, thing)], fr := g.p.fr ++ [(seat, thing)] } := by rw [layP, if_neg hn]
        rw [e]
        refine ⟨gi'.tu, gi'.fu, gi'.ru, gi'.tn, gi'.fn, gi'.rn, fun x hx => ?_, fun x hx => gi'.fa x (by rw [hp]; exact hx), fun x hx => gi'.ra x (by rw [hp]; exact hx)⟩
        rcases List.mem_append.mp hx with hx | hx
        · exact gi'.ta x (by rw [hp]; exact hx)
        · rw [List.mem_singleton.mp hx]; exact hin
    · rw [tkeys] at hb
      have hn : (seat, thing) ∈ g.p.al := by
        have : thing ∈ thingsAt g'.p.al seat := by simpa using hb
        rw [hp] at this
        exact mem_thingsAt.mp this
      have e : layP g.p seat thing = g.p := by rw [layP, if_pos hn]
      exact hq W g' ⟨hp.trans e.symm, gi', hkk⟩ S.chg
  · rw [locs_keys] at hb
    have hn : seat ∉ g.tk.map (·.1) := by simpa using hb
    obtain ⟨k1, k2, k3, k4⟩ := keys_snoc (p := 0) gi.tn gi.tu hn hs
    have hemp : thingsAt g.p.al seat = [] := by
      rw [List.eq_nil_iff_forall_not_mem]
      exact fun t z => hn (gi.ta _ (mem_thingsAt.mp z))
    refine s_putD (κ := Seat) (E := ESeat) (k := seat) (j := 2) EThing S (fun p => ft rfl (List.mem_cons_of_mem _ List.mem_cons_self)) (fun p => e_var rfl) rfl (by rw [locs_keys]; exact hn) (keys_small hU gi.tn gi.tu) fun p W S => ?_
    obtain ⟨k1, k2, k3, k4⟩ := keys_snoc (p := p) gi.tn gi.tu hn hs
    exact kk _ _ ⟨{ g with tk := g.tk ++ [(seat, p)] }, rfl, ⟨k2, gi.fu, gi.ru, k1, gi.fn, gi.rn, fun x hx => k4 _ (gi.ta x hx), gi.fa, gi.ra⟩, k3, ⟨rfl, rfl⟩, S.perm (Mg_addT hemp)⟩
  · rw [locs_keys] at hb
    exact ⟨g, rfl, gi, by simpa using hb, ⟨rfl, rfl⟩, S⟩
end
end Dr
namespace Dr
open PySem PySem.Spec PyProof.Rows L2

section
variable {P : Program} {w : World} {K : PySem.W.Frag} {mg : Str → Option Value} {base : Heap} {f f1 f2 f3 f4 f5 f6 : Addr} {fd d1 d2 d3 d4 d5 d6 : FuncData} {aO aG cg : Addr} {C : Cn} {Γ : Ga} {M M' : Ms} {ta tb tc td te tk tv ty : TE} {W0 W : Wo} {T : Kn} {σ : L2.St} {s : Sv} {D : Ends} {tz tbd : TS} {d : PyData}
theorem s_meth0 {α : Type} {args : α → List Sv} {pre : Gst → α → Prop} {post : Gst → α → Gst → Prop} {Aa : Addr → Prop} {A : Gad} {g : Gst} {t : TA} {E : XK} {m : Str} (a : α) (S : Sta ⟨P, w, K, Aa⟩ W0 T σ W Γ (Mg cg A g)) (ho : EvS ⟨P, w, K, Aa⟩ Γ (Mg cg A g) te (.loc A.self)) (hf : (flds A).lookup m = none) (h : EvA ⟨P, w, K, Aa⟩ Γ (Mg cg A g) t (args a)) (hp : pre g a)
    (k : ∀ W' g', post g a g' → Sta ⟨P, w, K, Aa⟩ W0 T σ W' Γ (Mg cg A g') → D.nx σ W'.H) : tDrop (tMeth cg m (SpG P w K cg args pre post) [] E te t) D σ W.H := by
  refine s_meth (M2 := []) a (by rw [List.append_nil]; exact S) (by rw [List.append_nil]; exact ho) hf (by rw [List.append_nil]; exact h) hp fun W' g' hp' S' => ?_
  rw [List.append_nil] at S'
  exact k W' g' hp' S'
theorem keys_das {κ : Type} {E : Enc κ} {G : Hp} {K : PySem.W.Frag} {ys : List V} {ks : List κ} (h : KeysAt E K G ys ks) : DaAll K G ys (ks.map E.d) := by
  induction h with
  | nil => exact .nil
  | cons a b ih => exact .cons (Da.of _ _ a (E.ok _)) ih
/-- list(d.get(k, {})): d's values are own dicts -/
theorem e_listGet {κ κ2 : Type} [DecidableEq κ] {E : Enc κ} {E2 : Enc κ2} {kvs : List (κ × Sv)} {ob : Option Obj} {l : Addr} {j : Nat} {k : κ} {ts : List κ2} (hd : EvS C Γ M td (.loc l)) (hk : EvS C Γ M tk (.dat (E.d k))) (hm : M[j]? = some (l, .dct κ E kvs ob))
    (hc : (∃ (a : Addr) (i : Nat) (kv2 : List (κ2 × Sv)) (o2 : Option Obj), kvs.lookup k = some (.loc a) ∧ M[i]? = some (a, .dct κ2 E2 kv2 o2) ∧ kv2.map (·.1) = ts) ∨ (k ∉ kvs.map (·.1) ∧ ts = [])) :
    EvS C Γ M (tCB (rListN E2 C.P C.w C.K) (tCons (tGetN E C.P C.w C.K td tk tNewN) tNil)) (.dat (.list (ts.map E2.d))) := fun W0 T σ W S Q q =>
  hd W0 T σ W S _ fun x W1 l1 hx => by
    have hx : x = .ref l := hx
    subst hx
    have S1 := S.le l1
    obtain ⟨_, _, vs1, h1, _, _⟩ := S1.mu _ (List.mem_of_getElem? hm)
    refine ⟨l, rfl, ⟨vs1, W1.G, h1, W1.fz⟩, hk W0 T σ W1 S1 _ fun y W2 l2 hy p hp hsys => ?_⟩
    have S2 := S1.le l2
    have S3 := S2.own (o := dX p dEmpty) (m := .dct κ2 E2 [] none) hp ⟨[], DAt.nil hsys upd_same, .nil, fun _ z => nomatch z⟩
    have l3 : Le W2 (W2.put p (dX p dEmpty) (Wo.gfree hp)) := Le.put hp
    have hm' : ((p, Mo.dct κ2 E2 [] none) :: M)[j + 1]? = some (l, .dct κ E kvs ob) := hm
    obtain ⟨_, _, vs, g1, g2, _⟩ := S3.mu _ (List.mem_of_getElem? hm')
    refine ⟨k, vs, (W2.put p (dX p dEmpty) (Wo.gfree hp)).G, (W2.put p (dX p dEmpty) (Wo.gfree hp)).fz, Da.dp _ _ hy, g1, ?_⟩
    have fin : ∀ (a : Addr) (kv2 : List (κ2 × Sv)) (o2 : Option Obj), MoOk C (W2.put p (dX p dEmpty) (Wo.gfree hp)) a (.dct κ2 E2 kv2 o2) → kv2.map (·.1) = ts → rListN E2 C.P C.w C.K [.ref a] (W2.put p (dX p dEmpty) (Wo.gfree hp)).H Q := fun a kv2 o2 ⟨vs2, b1, b2, _⟩ hts => by
      refine ⟨a, vs2, _, rfl, (W2.put p (dX p dEmpty) (Wo.gfree hp)).fz, b1, fun ys p2 hys hp2 => ?_⟩
      refine q _ ((W2.put p (dX p dEmpty) (Wo.gfree hp)).new p2 (.lst ys)) (((l1.trans l2).trans l3).trans (Le.new hp2)) (.lst upd_same ?_)
      rw [← pd_keys0 b2, hts] at hys
      exact DaAll.mono (Same.add (Wo.gfree hp2)) _ _ (keys_das hys)
    rcases hc with ⟨a, i, kv2, o2, c1, c2, c3⟩ | ⟨c1, c2⟩
    · obtain ⟨v, e1, e2⟩ := pd_val g2 c1
      have e2 : v = .ref a := e2
      subst e2
      rw [e1]
      have hi' : ((p, Mo.dct κ2 E2 [] none) :: M)[i + 1]? = some (a, .dct κ2 E2 kv2 o2) := c2
      exact fin a kv2 o2 (S3.mu _ (List.mem_of_getElem? hi')).2.2 c3
    · rw [pd_none g2 c1]
      exact fin p [] none (S3.mu _ List.mem_cons_self).2.2 c2.symm
/-- for g in d.get(k, []): d's values are own lists -/
theorem s_forGet {κ : Type} [DecidableEq κ] {E : Enc κ} {kvs : List (κ × Sv)} {ob : Option Obj} {l : Addr} {j : Nat} {k : κ} {α β : Type} (enc : β → PyData) {xs : List β} {fg : β → Ga → Ga} {g : TG} (Gm : α → Ga) (Mm : α → Ms) (I : Nat → α → Prop) (a0 : α)
    (S : Sta C W0 T σ W Γ M) (hd : EvS C Γ M td (.loc l)) (hk : EvS C Γ M tk (.dat (E.d k))) (hm : M[j]? = some (l, .dct κ E kvs ob))
    (hc : (∃ a : Addr, kvs.lookup k = some (.loc a) ∧ (∀ x, ∃ i : Nat, (Mm x)[i]? = some (a, Mo.lst (xs.map enc)))) ∨ (k ∉ kvs.map (·.1) ∧ xs = []))
    (h0 : ∀ σ W, Sta C W0 T σ W Γ M → Sta C W0 T σ W (Gm a0) (Mm a0)) (i0 : I 0 a0) (hg : ∀ x, GAs C g (.dat (enc x)) (fg x))
    (hs : ∀ i a x σ W, xs[i]? = some x → I i a → Sta C W0 T σ W (fg x (Gm a)) (Mm a) → tbd (EndsAt D (At C W0 T Gm Mm (I (i + 1)))) σ W.H)
    (hdn : ∀ a σ W, I xs.length a → Sta C W0 T σ W (Gm a) (Mm a) → D.nx σ W.H) : tFor (iList C.K (tGetN E C.P C.w C.K td tk (tLst tNil))) g tbd D σ W.H :=
  hd W0 T σ W S _ fun x W1 l1 hx => by
    have hx : x = .ref l := hx
    subst hx
    have S1 := S.le l1
    obtain ⟨_, _, vs1, h1, _, _⟩ := S1.mu _ (List.mem_of_getElem? hm)
    refine ⟨l, rfl, ⟨vs1, W1.G, h1, W1.fz⟩, hk W0 T σ W1 S1 _ fun y W2 l2 hy => ⟨Nat.zero_le _, fun p hp => ?_⟩⟩
    have S2 := S1.le l2
    have S3 := S2.own (o := .lst []) (m := .lst []) hp ⟨[], upd_same, .nil⟩
    have hm' : ((p, Mo.lst []) :: M)[j + 1]? = some (l, .dct κ E kvs ob) := hm
    obtain ⟨_, _, vs, g1, g2, _⟩ := S3.mu _ (List.mem_of_getElem? hm')
    refine ⟨k, vs, (W2.put p (.lst []) (Wo.gfree hp)).G, (W2.put p (.lst []) (Wo.gfree hp)).fz, Da.dp _ _ hy, g1, ?_⟩
    have S4 : Sta C W0 T σ (W2.put p (.lst []) (Wo.gfree hp)) Γ M := S3.forget (List.sublist_cons_self ..)
    have S5 := h0 _ _ S4
    rcases hc with ⟨a, c1, c2⟩ | ⟨c1, c2⟩
    · obtain ⟨v, e1, e2⟩ := pd_val g2 c1
      have e2 : v = .ref a := e2
      subst e2
      rw [e1]
      have see : ∀ {a' : α} {σ' : L2.St} {W' : Wo}, Sta C W0 T σ' W' (Gm a') (Mm a') → ∃ vs, SqL C.K W'.H a vs ∧ DaAll C.K W'.G vs (xs.map enc) ∧ vs.length = xs.length := fun {a' σ' W'} S' => by
        obtain ⟨i, hi⟩ := c2 a'
        obtain ⟨_, _, vs, hx, hall⟩ := S'.mu _ (List.mem_of_getElem? hi)
        exact ⟨vs, SqL.of hx, hall, by rw [hall.length, List.length_map]⟩
      obtain ⟨vs0, hx0, _⟩ := see S5
      refine ⟨a, rfl, ⟨vs0, hx0⟩, ?_⟩
      refine for_seen (H1 := W1.H) (P := fun _ => True) Gm Mm I a0 T xs.length S5 i0 (fun i a' σ' W' _ S' => ?_) (fun i a' x σ' W' H' hlt hI S' y => ?_) (fun a' σ' W' hI S' => hdn a' σ' W' hI S')
      · obtain ⟨vs, hx, hall, hl⟩ := see S'
        exact ⟨fun e => ⟨vs, hx, by omega⟩, fun e => ⟨vs, vs[i]'(by omega), hx, by simp [hl, e]⟩⟩
      · obtain ⟨vs, hx, hall, hl⟩ := see S'
        obtain ⟨e, y⟩ := y
        subst e
        obtain ⟨bb, hb, hxb⟩ := enc_at enc hall (y vs hx)
        exact hg bb W0 _ σ' W' _ _ x _ S' hxb fun σ2 S2 => hs i a' bb σ2 W' hb hI S2
    · subst c2
      rw [pd_none g2 c1]
      have hpl : (W2.put p (.lst []) (Wo.gfree hp)).H p = some (.lst []) := upd_same
      refine ⟨p, rfl, ⟨[], SqL.of hpl⟩, fun i m σ' H' => i = 0 ∧ σ' = σ ∧ H' = (W2.put p (.lst []) (Wo.gfree hp)).H, ⟨0, rfl, rfl, rfl⟩, ?_⟩
      rintro i m σ' H' ⟨rfl, rfl, rfl⟩
      exact .inl ⟨⟨[], SqL.of hpl, Nat.le_refl _⟩, hdn a0 _ _ i0 S5⟩
theorem q_forGet {κ : Type} [DecidableEq κ] {E : Enc κ} {kvs : List (κ × Sv)} {ob : Option Obj} {l : Addr} {j : Nat} {k : κ} {α β : Type} (enc : β → PyData) {xs : List β} {fg : β → Ga → Ga} {g : TG} (Gm : α → Ga) (Mm : α → Ms) (I : Nat → α → Prop) (a0 : α)
    (S : Sta C W0 T σ W Γ M) (hd : EvS C Γ M td (.loc l)) (hk : EvS C Γ M tk (.dat (E.d k))) (hm : M[j]? = some (l, .dct κ E kvs ob))
    (hc : (∃ a : Addr, kvs.lookup k = some (.loc a) ∧ (∀ x, ∃ i : Nat, (Mm x)[i]? = some (a, Mo.lst (xs.map enc)))) ∨ (k ∉ kvs.map (·.1) ∧ xs = []))
    (h0 : ∀ σ W, Sta C W0 T σ W Γ M → Sta C W0 T σ W (Gm a0) (Mm a0)) (i0 : I 0 a0) (hg : ∀ x, GAs C g (.dat (enc x)) (fg x))
    (hs : ∀ i a x σ W, xs[i]? = some x → I i a → Sta C W0 T σ W (fg x (Gm a)) (Mm a) → tbd (EndsAt { D with nx := tz D } (At C W0 T Gm Mm (I (i + 1)))) σ W.H)
    (hdn : ∀ a σ W, I xs.length a → Sta C W0 T σ W (Gm a) (Mm a) → tz D σ W.H) : tSeq (tFor (iList C.K (tGetN E C.P C.w C.K td tk (tLst tNil))) g tbd) tz D σ W.H := s_forGet (D := { D with nx := tz D }) enc Gm Mm I a0 S hd hk hm hc h0 i0 hg hs hdn
theorem s_popG {j : Nat} {l : Addr} {ds : List PyData} {g : TG} {fg : Ga → Ga} (S : Sta C W0 T σ W Γ M) (ho : EvS C Γ M td (.loc l)) (hm : M[j]? = some (l, .lst (ds ++ [d]))) (hg : GAs C g (.dat d) fg) (k : ∀ σ' W', Sta C W0 T σ' W' (fg Γ) (M.set j (l, .lst ds)) → D.nx σ' W'.H) : tAsg (tBM0 C.K "list" rPop td) g D σ W.H :=
  ho W0 T σ W S _ fun x W1 l1 hx => by
    have hx : x = .ref l := hx
    subst hx
    have S1 := S.le l1
    obtain ⟨g1, _, xs, hx, hd⟩ := S1.mu _ (List.mem_of_getElem? hm)
    refine ⟨.inl ⟨rfl, _, SqL.of hx⟩, ?_⟩
    have hl : xs.length = ds.length + 1 := by rw [hd.length, List.length_append]; rfl
    obtain ⟨y, hy, hyd⟩ := hd.get (i := ds.length) (d := d) (by rw [List.getElem?_append_right (Nat.le_refl _), Nat.sub_self]; rfl)
    refine ⟨l, xs, y, rfl, rfl, hx, by rw [hl]; exact hy, ?_⟩
    have hd' : DaAll C.K W1.G xs.dropLast ds := by
      have := hd.dropLast
      rwa [List.dropLast_concat] at this
    exact hg W0 T σ (W1.put l (.lst xs.dropLast) g1) Γ _ y _ (S1.change (m' := .lst ds) hm g1 ⟨_, upd_same, hd'⟩) hyd fun σ' S' => k σ' _ S'
theorem q_popG {j : Nat} {l : Addr} {ds : List PyData} {g : TG} {fg : Ga → Ga} (S : Sta C W0 T σ W Γ M) (ho : EvS C Γ M td (.loc l)) (hm : M[j]? = some (l, .lst (ds ++ [d]))) (hg : GAs C g (.dat d) fg) (k : ∀ σ' W', Sta C W0 T σ' W' (fg Γ) (M.set j (l, .lst ds)) → tz D σ' W'.H) : tSeq (tAsg (tBM0 C.K "list" rPop td) g) tz D σ W.H := s_popG (D := { D with nx := tz D }) S ho hm hg k
theorem v_loc {l : Addr} {ds : List PyData} (ho : EvS C Γ M td (.loc l)) (hm : (l, Mo.lst ds) ∈ M) : EvV C Γ M td (.list ds) := fun W0 T σ W S Q k => ho W0 T σ W S Q fun v W1 l1 hx => by
  have hx : v = .ref l := hx
  subst hx
  obtain ⟨_, _, xs, hx, hd⟩ := (S.le l1).mu _ hm
  exact k _ W1 l1 (.lst hx (DaAll.mono W1.fz _ _ hd))
theorem e_ss {a b : Seat} (ha : EvS C Γ M ta (.dat (encSeat a))) (hb : EvS C Γ M tb (.dat (encSeat b))) : EvS C Γ M (tTup (tCons ta (tCons tb tNil))) (.dat (ESS.d (a, b))) :=
  e_tup (ds := [encSeat a, encSeat b]) (a_cons ha (a_cons hb a_nil)) (by show 2 ≤ 1000; decide)
theorem skeys {kn : List (Seat × Seat)} : (kn.map fun t => (t, Sv.dat (.bool true))).map (·.1) = kn := by rw [List.map_map]; exact List.map_id'' (fun _ => rfl) kn
theorem Mg_addF4 {A : Gad} {g : Gst} {s : Seat} {p : Addr} {X : Addr × Mo} (h : folAt g.p.kn s = []) :
    ((p, Mo.lst []) :: ((Mg cg A g).set 4 X).set 3 (A.fo, .dct Seat ESeat (locs g.fk ++ [(s, .loc p)]) none)).Perm ((Mg cg A { g with fk := g.fk ++ [(s, p)] }).set 4 X) := by
  have e1 : locs (g.fk ++ [(s, p)]) = locs g.fk ++ [(s, .loc p)] := by unfold locs; rw [List.map_append]; rfl
  have e2 : inM { g with fk := g.fk ++ [(s, p)] } = (g.tk.map (tM g.p.al) ++ g.fk.map (fM g.p.kn)) ++ (p, Mo.lst []) :: g.rk.map (rM g.p.rl) := by
    show _ ++ ((g.fk ++ [(s, p)]).map (fM g.p.kn) ++ _) = _
    rw [List.map_append, List.append_assoc, List.append_assoc]
    congr 2
    show (p, Mo.lst ((folAt g.p.kn s).map encSeat)) :: _ = _
    rw [h]
    rfl
  have e3 : inM g = (g.tk.map (tM g.p.al) ++ g.fk.map (fM g.p.kn)) ++ g.rk.map (rM g.p.rl) := by unfold inM; rw [List.append_assoc]
  unfold Mg
  rw [e1, e2, e3]
  exact (List.perm_middle (l₁ := (A.self, Mo.raw (.ins cg A.dx (flds A))) :: (A.dx, Mo.raw (.own A.self)) :: (A.t, Mo.dct Seat ESeat (locs g.tk) none) :: (A.fo, Mo.dct Seat ESeat (locs g.fk ++ [(s, .loc p)]) none) ::
    X :: (A.ru, Mo.dct Seat ESeat (locs g.rk) none) :: (A.fr, Mo.lst (g.p.fr.map encFr)) :: (g.tk.map (tM g.p.al) ++ g.fk.map (fM g.p.kn)))).symm
theorem sc_Growing_follow : FnScope ["self", "one", "other", "thing"] ["self", "one", "other"] (defScope s_Growing_follow) := ⟨rfl, rfl, rfl, by decide +kernel, rfl, by decide +kernel, by decide +kernel⟩
theorem ok_follow (G : Gc K cg) (T : Txt K mg aO aG) (me_lay : Meth K cg "lay" f1) (F_lay : FnOk P w K mg base CX0 1 f1 d1 ["self", "seat", "thing"] (sp_lay P w K cg)) (b_lay : Binds K d1 ["self", "seat", "thing"] []) (F : FnP K "follow" "Growing.follow" s_Growing_follow f fd) : FnOk P w K mg base CX0 2 f fd ["self", "one", "other"] (sp_follow P w K cg) := by
  have nd := sc_Growing_follow.nd
  have tx := T
  have cl := G.cl
  refine F.ok sc_Growing_follow (fun vs H Q E h => SpG.len (n := 2) (fun _ => rfl) h) (fun cdv A outer s H vs Q E hr h => ⟨_, PSs.nox
    (pss_one (ps_if (pt_cmpR (op_notInN ESS hr.units) (pe_tup (pa_cons (pv 1) (pa_cons (pv 2) pa_nil))) (pe_fld (pv 0) rfl) (by rfl)) (pss_cons (ps_asg pe_bl (pg_sub (pe_fld (pv 0) rfl) (pe_tup (pa_cons (pv 1) (pa_cons (pv 2) pa_nil))) (set_N ESS hr.units)))
    (pss_cons (ps_if (pt_cmpR (op_notInN ESeat hr.units) (pv 1) (pe_fld (pv 0) rfl) (by rfl)) (pss_one (ps_asg (pe_lst pa_nil) (pg_sub (pe_fld (pv 0) rfl) (pv 1) (set_N ESeat hr.units)))) pss_nil)
    (pss_cons (ps_expr (pe_bm PySem.F.plainAttrs_list PySem.F.slot_list_append PySem.F.type_list_append mt_append (pe_ixN ESeat hr.units (pe_fld (pv 0) rfl) (pv 1) (fun _ _ => rfl)) (pa_cons (pv 2) pa_nil)))
    (pss_one (ps_for PassesOwn.never rfl (pi_list (pe_callTy (cr_listN EThing rfl) (by rfl) tx.list (by decide +kernel) (pa_cons (pe_getN ESeat hr.units (pe_fld (pv 0) rfl) (pv 1) pe_newN ⟨rfl, rfl, rfl, rfl⟩) pa_nil))) (pg_name (i := 3) nd rfl (Or.inl rfl)) (pss_one (ps_expr (pe_meth (pv 0) cl me_lay F_lay (hr.mono (by decide)) b_lay .nil pass0 (pa_cons (pv 2) (pa_cons (pv 3) pa_nil)))))))))) pss_nil)), ?_⟩)
  obtain ⟨Wz, A, g, ⟨U, one, other⟩, rfl, ok, gok, ⟨hU, gi, pi, hs, ht⟩, hq⟩ := h
  dsimp only at hU gi pi hs ht
  have S := sta_meth ["self", "one", "other", "thing"] ok gok
  have ff : ∀ {Γ : Ga} {M : Ms}, Γ[0]? = some (some (.loc A.self)) → (A.self, Mo.raw (.ins cg A.dx (flds A))) ∈ M → EvS (cA P w K (Mg cg A g)) Γ M (tFld K (tVar 0) "followers") (.loc A.fo) := fun e hm => e_fld (C := cA P w K (Mg cg A g)) (e_var e) hm G.cl G.nf rfl
  have fk : ∀ {Γ : Ga} {M : Ms}, Γ[0]? = some (some (.loc A.self)) → (A.self, Mo.raw (.ins cg A.dx (flds A))) ∈ M → EvS (cA P w K (Mg cg A g)) Γ M (tFld K (tVar 0) "known") (.loc A.kn) := fun e hm => e_fld (C := cA P w K (Mg cg A g)) (e_var e) hm G.cl G.nk rfl
  have ft : ∀ {Γ : Ga} {M : Ms}, Γ[0]? = some (some (.loc A.self)) → (A.self, Mo.raw (.ins cg A.dx (flds A))) ∈ M → EvS (cA P w K (Mg cg A g)) Γ M (tFld K (tVar 0) "things") (.loc A.t) := fun e hm => e_fld (C := cA P w K (Mg cg A g)) (e_var e) hm G.cl G.nt rfl
  have hkl := pi_kn pi hU
  refine s_when S (t_B (e_notInN (E := ESS) (k := (one, other)) (j := 4) (e_ss (e_var rfl) (e_var rfl)) (fk rfl List.mem_cons_self) rfl)) (fun hb W S => ?_) (fun hb W S => ?_)
  · rw [skeys] at hb
    have hn : (one, other) ∉ g.p.kn := by simpa using hb
    refine q_putN (E := ESS) (k := (one, other)) (j := 4) S e_bl (fk rfl List.mem_cons_self) (e_ss (e_var rfl) (e_var rfl)) rfl (by rw [skeys]; exact hn) (by rw [List.length_map]; show _ < 16777216; omega) fun W S => ?_
    refine q_whenK (fun σ W => ∃ g', g'.p = g.p ∧ GI U g' ∧ one ∈ g'.fk.map (·.1) ∧ g'.rk = g.rk ∧ Sta (cA P w K (Mg cg A g)) Wz [] σ W [some (.loc A.self), some (.dat (encSeat one)), some (.dat (encSeat other)), none] ((Mg cg A g').set 4 (A.kn, .dct (Seat × Seat) ESS ((g.p.kn.map fun k => (k, .dat (.bool true))) ++ [((one, other), .dat (.bool true))]) none))) S
      (t_B (e_notInN (E := ESeat) (k := one) (j := 3) (e_var rfl) (ff rfl List.mem_cons_self) rfl)) (fun σ W hj => ?_) (fun hb W S kk => ?_) (fun hb W S => ?_)
    · obtain ⟨g', hp, gi', hin, hkk, S⟩ := hj
      obtain ⟨i, a, hi⟩ := key_ix hin
      have hfa : ((Mg cg A g').set 4 (A.kn, .dct (Seat × Seat) ESS ((g.p.kn.map fun k => (k, .dat (.bool true))) ++ [((one, other), .dat (.bool true))]) none))[g'.tk.length + i + 7]? = some (a, .lst ((folAt g'.p.kn one).map encSeat)) := by
        rw [List.getElem?_set_ne (by omega)]
        exact Mg_f hi
      refine q_appG (j := g'.tk.length + i + 7) S (e_atN (E := ESeat) (k := one) (j := 3) (ff rfl List.mem_cons_self) (e_var rfl) rfl (locs_lookup gi'.fn hi)) hfa (e_var rfl) (by rw [List.length_map]; have := fol_len (al := g'.p.kn) (s := one); rw [hp] at this ⊢; show _ < 16777216; omega) fun W S => ?_
      have e2 := inM_setF (b := other) gi'.fn hi
      have eM : ((Mg cg A g').set 4 (A.kn, .dct (Seat × Seat) ESS ((g.p.kn.map fun k => (k, .dat (.bool true))) ++ [((one, other), .dat (.bool true))]) none)).set (g'.tk.length + i + 7) (a, .lst ((folAt g'.p.kn one).map encSeat ++ [encSeat other])) = Mg cg A { g' with p := knowP g.p one other } := by
        unfold Mg
        rw [← hp]
        show _ = _ :: _ :: _ :: _ :: (A.kn, Mo.dct (Seat × Seat) ESS ((g'.p.kn ++ [(one, other)]).map fun k => (k, .dat (.bool true))) none) :: _ :: _ :: inM { g' with p := { g'.p with kn := g'.p.kn ++ [(one, other)] } }
        rw [← e2, List.map_append]
        rfl
      replace S := eM ▸ S
      have gi2 : GI U { g' with p := knowP g.p one other } := ⟨gi'.tu, gi'.fu, gi'.ru, gi'.tn, gi'.fn, gi'.rn, fun x hx => gi'.ta x (by rw [hp]; exact hx), fun x hx => by
        rcases List.mem_append.mp hx with hx | hx
        · exact gi'.fa x (by rw [hp]; exact hx)
        · rw [List.mem_singleton.mp hx]; exact hin, fun x hx => gi'.ra x (by rw [hp]; exact hx)⟩
      have pi2 := know_pi pi hs ht hn
      have hal := pi_al pi hU
      have hls : EvS (cA P w K (Mg cg A g)) [some (.loc A.self), some (.dat (encSeat one)), some (.dat (encSeat other)), none] (Mg cg A { g' with p := knowP g.p one other }) (tCB (rListN EThing P w K) (tCons (tGetN ESeat P w K (tFld K (tVar 0) "things") (tVar 1) tNewN) tNil)) (.dat (.list ((thingsAt g.p.al one).map encThing))) := by
        refine e_listGet (C := cA P w K (Mg cg A g)) (E := ESeat) (E2 := EThing) (k := one) (j := 2) (ft rfl List.mem_cons_self) (e_var rfl) rfl ?_
        by_cases q : one ∈ g'.tk.map (·.1)
        · obtain ⟨i2, a2, hi2⟩ := key_ix q
          exact .inl ⟨a2, i2 + 7, _, none, locs_lookup gi'.tn hi2, Mg_t hi2, tkeys _⟩
        · refine .inr ⟨by rw [locs_keys]; exact q, ?_⟩
          rw [List.eq_nil_iff_forall_not_mem]
          exact fun t z => q (gi'.ta (one, t) (by rw [hp]; exact mem_thingsAt.mp z))
      refine s_forL (C := cA P w K (Mg cg A g)) (xs := thingsAt g.p.al one) encThing (fun _ : Gst => [some (.loc A.self), some (.dat (encSeat one)), some (.dat (encSeat other)), none]) (fun g => Mg cg A g)
        (fun i h => GI U h ∧ h.p = laysP (knowP g.p one other) other ((thingsAt g.p.al one).take i) ∧ h.rk = g.rk) { g' with p := knowP g.p one other } S hls (fun σ W S => S) ⟨gi2, rfl, hkk⟩ (fun x => g_name) (fun i h t T' σ W hx hI S => ?_) (fun h σ W hI S => ?_)
      · obtain ⟨gh, ph, rh⟩ := hI
        have hok : ∀ u ∈ thingsAt g.p.al one, okT U u := fun u hu => (pi.al _ (mem_thingsAt.mp hu)).2
        have pih : PI U h.p := by rw [ph]; exact lays_pi ht _ _ pi2 fun u hu => hok u (List.mem_of_mem_take hu)
        refine s_meth0 (U, other, t) S (e_var rfl) rfl (a_cons (e_var rfl) (a_cons (e_var rfl) a_nil)) ⟨hU, gh, pih, ht, hok t (List.mem_of_getElem? hx)⟩ fun W' g'' hpost S => ?_
        refine At.mk g'' ⟨hpost.2.1, ?_, hpost.2.2.2.trans rh⟩ S.w
        rw [take_succ_at hx, hpost.1, ph]
        simp [laysP, List.foldl_append]
      · rw [List.take_length] at hI
        refine hq W h ⟨?_, hI.1, hI.2.2⟩ S.chg
        rw [hI.2.1, followP, if_neg hn]
    · rw [locs_keys] at hb
      have hnk : one ∉ g.fk.map (·.1) := by simpa using hb
      have hemp : folAt g.p.kn one = [] := by
        rw [List.eq_nil_iff_forall_not_mem]
        exact fun t z => hnk (gi.fa _ (mem_folAt.mp z))
      refine s_putL (κ := Seat) (E := ESeat) (k := one) (j := 3) S (fun p => ff rfl (List.mem_cons_of_mem _ List.mem_cons_self)) (fun p => e_var rfl) rfl (by rw [locs_keys]; exact hnk) (keys_small hU gi.fn gi.fu) fun p W S => ?_
      obtain ⟨k1, k2, k3, k4⟩ := keys_snoc (p := p) gi.fn gi.fu hnk hs
      exact kk _ _ ⟨{ g with fk := g.fk ++ [(one, p)] }, rfl, ⟨gi.tu, k2, gi.ru, gi.tn, k1, gi.rn, gi.ta, fun x hx => k4 _ (gi.fa x hx), gi.ra⟩, k3, rfl, S.perm (Mg_addF4 hemp)⟩
    · rw [locs_keys] at hb
      exact ⟨g, rfl, gi, by simpa using hb, rfl, S⟩
  · rw [skeys] at hb
    have hn : (one, other) ∈ g.p.kn := by simpa using hb
    exact hq W g ⟨by rw [followP, if_pos hn], gi, rfl⟩ S.chg
end
end Dr
namespace Dr
open PySem PySem.Spec PyProof.Rows L2

/-! grow -/
def isPP : Rule → Prop
  | .push _ _ _ => True
  | .pop _ _ _ => True
  | _ => False
structure PP where
  b : Bool
  a : Seat
  l : Nat
  o : Seat
def PP.rule (x : PP) : Rule := if x.b = true then .push x.a x.l x.o else .pop x.a x.l x.o
def PP.word (x : PP) : Str := if x.b = true then "push" else "pop"
def encPP (x : PP) : PyData := .tuple [.str x.word, encSeat x.a, .int (x.l : Int), encSeat x.o]
theorem enc_rule (x : PP) : encRule x.rule = encPP x := by
  unfold PP.rule encPP PP.word
  cases x.b <;> rfl
theorem pps_of : ∀ {rs : List Rule}, (∀ r ∈ rs, isPP r) → ∃ xs : List PP, rs = xs.map PP.rule
  | [], _ => ⟨[], rfl⟩
  | r :: rs, h => by
    obtain ⟨xs, e⟩ := pps_of (rs := rs) fun x hx => h x (List.mem_cons_of_mem _ hx)
    have hr := h r List.mem_cons_self
    cases r with
    | push a l b => exact ⟨⟨true, a, l, b⟩ :: xs, by rw [e]; rfl⟩
    | pop a l b => exact ⟨⟨false, a, l, b⟩ :: xs, by rw [e]; rfl⟩
    | copy a b => exact hr.elim
    | end_ b => exact hr.elim
theorem enc_pps (xs : List PP) : (xs.map PP.rule).map encRule = xs.map encPP := by
  rw [List.map_map]
  exact List.map_congr_left fun x _ => enc_rule x
theorem eqv_none (t : Thing) : PyData.eqv (encThing t) (.tuple []) = t.isNone := by
  cases t with
  | none => simp [encThing, PyData.eqv, PyData.eqvAll]
  | some p => simp [encThing, PyData.eqv, PyData.eqvAll]
theorem fl_fr (x : Seat × Thing) : Fl 3 (encFr x) := fl_tup (fl2 ((fl_seat _).mono (by decide)) (fl_thing _))
section
variable {P : Program} {w : World} {K : PySem.W.Frag} {mg : Str → Option Value} {base : Heap} {f f1 f2 f3 f4 f5 f6 : Addr} {fd d1 d2 d3 d4 d5 d6 : FuncData} {aO aG cg : Addr} {C : Cn} {Γ : Ga} {M M' : Ms} {ta tb tc td te tk tv ty : TE} {W0 W : Wo} {T : Kn} {σ : L2.St} {s : Sv} {D : Ends} {tz tbd : TS} {d : PyData}
theorem e_word2 {x y : Str} {b : Bool} (h : EvS C Γ M te (.dat (.str x))) (hx : PyData.strOk x = true) (hy : PyData.strOk y = true) (hb : (x == y) = b) : EvS C Γ M (tOp (rEqD C.K) te (tC (.str y))) (.dat (.bool b)) :=
  (e_eq h (e_str (x := y)) (fl_str hx : Fl 1 _).flat (fl_str hy : Fl 1 _).flat).to (by show Sv.dat (.bool (x == y)) = _; rw [hb])
theorem Mg_same {A : Gad} {g g' : Gst} (h1 : g'.p.al = g.p.al) (h2 : g'.p.kn = g.p.kn) (h3 : g'.p.rl = g.p.rl) (h4 : g'.tk = g.tk) (h5 : g'.fk = g.fk) (h6 : g'.rk = g.rk) : (Mg cg A g).set 6 (A.fr, .lst (g'.p.fr.map encFr)) = Mg cg A g' := by
  unfold Mg inM
  rw [h1, h2, h3, h4, h5, h6]
  rfl
structure SpGrow (U : List Seat) (rs : List Rule) (g : Gst) : Prop where
  hU : U.length ≤ 1000
  gi : GI U g
  pi : PI U g.p
  inv : GInv rs g.p
  pp : ∀ r ∈ g.p.rl, isPP r
abbrev sp_grow (P : Program) (w : World) (K : PySem.W.Frag) (cg : Addr) : Sp := SpG P w K cg (α := List Seat × List Rule) (fun _ => []) (fun g a => SpGrow a.1 a.2 g) (fun g a g' => SpGrow a.1 a.2 g' ∧ g'.p.fr = [])
theorem sc_Growing_grow : FnScope ["self", "seat", "thing", "other", "word", "one", "letter"] ["self"] (defScope s_Growing_grow) := ⟨rfl, rfl, rfl, by decide +kernel, rfl, by decide +kernel, by decide +kernel⟩
theorem ok_grow (G : Gc K cg) (T : Txt K mg aO aG) (me_lay : Meth K cg "lay" f1) (F_lay : FnOk P w K mg base CX0 1 f1 d1 ["self", "seat", "thing"] (sp_lay P w K cg)) (b_lay : Binds K d1 ["self", "seat", "thing"] []) (me_follow : Meth K cg "follow" f2) (F_follow : FnOk P w K mg base CX0 2 f2 d2 ["self", "one", "other"] (sp_follow P w K cg)) (b_follow : Binds K d2 ["self", "one", "other"] [])
    (F : FnP K "grow" "Growing.grow" s_Growing_grow f fd) : FnOk P w K mg base CX0 3 f fd ["self"] (sp_grow P w K cg) := by
  have nd := sc_Growing_grow.nd
  have tx := T
  have cl := G.cl
  refine F.ok sc_Growing_grow (fun vs H Q E h => SpG.len (n := 0) (fun _ => rfl) h) (fun cdv A outer s H vs Q E hr h => ⟨_, PSs.nox
    (pss_one (ps_while PassesOwn.never (pt_cmpR (op_neD hr.units) (pe_fld (pv 0) rfl) (pe_lst pa_nil) (nomark _)) (pss_cons (ps_asg (pe_bm0 PySem.F.plainAttrs_list PySem.F.slot_list_pop PySem.F.type_list_pop mt_pop (pe_fld (pv 0) rfl)) (pg_tup rfl (pgs_cons (pg_name (i := 1) nd rfl (Or.inl rfl)) (pgs_cons (pg_name (i := 2) nd rfl (Or.inl rfl)) pgs_nil))))
    (pss_cons (ps_for PassesOwn.never rfl (pi_list (pe_getN ESeat hr.units (pe_fld (pv 0) rfl) (pv 1) (pe_lst pa_nil) ⟨rfl, rfl, rfl, rfl⟩)) (pg_name (i := 3) nd rfl (Or.inl rfl)) (pss_one (ps_expr (pe_meth (pv 0) cl me_lay F_lay (hr.mono (by decide)) b_lay .nil pass0 (pa_cons (pv 3) (pa_cons (pv 2) pa_nil))))))
    (pss_one (ps_for PassesOwn.never rfl (pi_list (pe_getN ESeat hr.units (pe_fld (pv 0) rfl) (pv 1) (pe_lst pa_nil) ⟨rfl, rfl, rfl, rfl⟩)) (pg_tup rfl (pgs_cons (pg_name (i := 4) nd rfl (Or.inl rfl)) (pgs_cons (pg_name (i := 5) nd rfl (Or.inl rfl)) (pgs_cons (pg_name (i := 6) nd rfl (Or.inl rfl)) (pgs_cons (pg_name (i := 3) nd rfl (Or.inl rfl)) pgs_nil))))) (pss_one (ps_if (pt_cmpR (op_eqD hr.units) (pv 4) pe_str (nomark _)) (pss_one (ps_expr (pe_meth (pv 0) cl me_lay F_lay (hr.mono (by decide)) b_lay .nil pass0 (pa_cons (pv 3) (pa_cons (pe_tup (pa_cons (pv 6) (pa_cons (pv 1) pa_nil))) pa_nil))))) (pss_one (ps_if (PW.pt (pw_and (pt_cmpR (op_neD hr.units) (pv 2) (pe_tup pa_nil) (nomark _)) (pw_and1 (pt_cmpR (op_eqD hr.units) (pe_ix ix_seq (pv 2) pe_int (fun _ _ => rfl)) (pv 6) (nomark _))))) (pss_one (ps_expr (pe_meth (pv 0) cl me_follow F_follow (hr.mono (by decide)) b_follow .nil pass0 (pa_cons (pe_ix ix_seq (pv 2) pe_int (fun _ _ => rfl)) (pa_cons (pv 3) pa_nil))))) pss_nil)))))))))), ?_⟩)
  obtain ⟨Wz, A, g, ⟨U, rs⟩, rfl, ok, gok, gg, hq⟩ := h
  have gg : SpGrow U rs g := gg
  have S := sta_meth ["self", "seat", "thing", "other", "word", "one", "letter"] ok gok
  have fld : ∀ {Γ : Ga} {M : Ms} {x : Str} {l : Addr}, Γ[0]? = some (some (.loc A.self)) → (A.self, Mo.raw (.ins cg A.dx (flds A))) ∈ M → NoAttr K cg x → (flds A).lookup x = some (.ref l) → EvS (cA P w K (Mg cg A g)) Γ M (tFld K (tVar 0) x) (.loc l) := fun e hm na hl => e_fld (C := cA P w K (Mg cg A g)) (e_var e) hm G.cl na hl
  refine s_while (C := cA P w K (Mg cg A g)) (fun _ : Gst => [some (.loc A.self), none, none, none, none, none, none]) (fun h => Mg cg A h) (fun h => SpGrow U rs h) (fun h => 2001000 - (h.p.al.length - h.p.fr.length)) g S (fun σ W S => S) gg fun h gh => ?_
  obtain ⟨hU, gi, pi, inv, pp⟩ := gh
  refine ⟨_, t_B (e_nev (v_loc (fld rfl List.mem_cons_self G.nh rfl) (List.mem_of_getElem? (i := 6) rfl)) e_lst0.v (fl_list (fl_map fl_fr _)).flat (fl_list (n := 3) (ds := []) (fun d h => nomatch h)).flat), fun hb σ W S => ?_, fun hb σ W S => ?_⟩
  · rw [eqv_nil] at hb
    rcases List.eq_nil_or_concat h.p.fr with e | ⟨f0, x, e⟩
    · rw [e] at hb; cases hb
    rw [List.concat_eq_append] at e
    obtain ⟨seat, thing⟩ := x
    have hin : (seat, thing) ∈ h.p.al := pi.frs _ (by rw [e]; exact List.mem_append_right _ (List.mem_singleton_self _))
    obtain ⟨hsU, htU⟩ := pi.al _ hin
    have hsU : seat ∈ U := hsU
    have htU : okT U thing := htU
    have hfr6 : (Mg cg A h)[6]? = some (A.fr, .lst (f0.map encFr ++ [encFr (seat, thing)])) := by
      show some (A.fr, Mo.lst (h.p.fr.map encFr)) = _
      rw [e, List.map_append]
      rfl
    have pi0 := pop_pi pi e
    have inv1 := ginv_step inv pi e
    have pi1 := proc_pi pi0 hsU htU
    have ext1 := proc_ext { h.p with fr := f0 } seat thing
    refine q_popG (j := 6) (d := encFr (seat, thing)) S (fld rfl List.mem_cons_self G.nh rfl) hfr6 g_tup2 fun σ W S => ?_
    have eM : (Mg cg A h).set 6 (A.fr, .lst (f0.map encFr)) = Mg cg A { h with p := { h.p with fr := f0 } } := Mg_same (g := h) (g' := { h with p := { h.p with fr := f0 } }) rfl rfl rfl rfl rfl rfl
    replace S := eM ▸ S
    have gi0 : GI U { h with p := { h.p with fr := f0 } } := ⟨gi.tu, gi.fu, gi.ru, gi.tn, gi.fn, gi.rn, gi.ta, gi.fa, gi.ra⟩
    obtain ⟨p0, ep0⟩ : ∃ p0, p0 = ({ h.p with fr := f0 } : Pst) := ⟨_, rfl⟩
    rw [← ep0] at S gi0 pi0 inv1 pi1 ext1
    have hrl : p0.rl = h.p.rl := by rw [ep0]
    -- the followers
    refine q_forGet (C := cA P w K (Mg cg A g)) (E := ESeat) (k := seat) (j := 3) (xs := folAt p0.kn seat) encSeat (fun _ : { q : Gst // q.fk = h.fk ∧ q.rk = h.rk ∧ q.p.kn = p0.kn } => [some (.loc A.self), some (.dat (encSeat seat)), some (.dat (encThing thing)), none, none, none, none]) (fun q => Mg cg A q.1)
      (fun i q => GI U q.1 ∧ q.1.p = sendP p0 thing ((folAt p0.kn seat).take i)) ⟨{ h with p := p0 }, rfl, rfl, rfl⟩ S (fld rfl List.mem_cons_self G.nf rfl) (e_var rfl) rfl ?_ (fun σ W S => S) ⟨gi0, rfl⟩ (fun x => g_name) (fun i q b σ W hx hI S => ?_) (fun q σ W hI S => ?_)
    · by_cases z : seat ∈ h.fk.map (·.1)
      · obtain ⟨i, a, hi⟩ := key_ix z
        refine .inl ⟨a, locs_lookup gi.fn hi, fun q => ⟨q.1.tk.length + i + 7, ?_⟩⟩
        have := Mg_f (cg := cg) (A := A) (g := q.1) (i := i) (s := seat) (a := a) (by rw [q.2.1]; exact hi)
        rw [q.2.2.2] at this
        exact this
      · refine .inr ⟨by rw [locs_keys]; exact z, ?_⟩
        rw [List.eq_nil_iff_forall_not_mem]
        exact fun t y => z (gi.fa (seat, t) (by rw [ep0] at y; exact mem_folAt.mp y))
    · obtain ⟨q, hqf, hqr, hqk⟩ := q
      obtain ⟨gq, pq⟩ := hI
      have gq : GI U q := gq
      have pq : q.p = sendP p0 thing ((folAt p0.kn seat).take i) := pq
      have hbU : ∀ b ∈ folAt p0.kn seat, b ∈ U := fun b hb => (pi0.kn _ (mem_folAt.mp hb)).2
      have piq : PI U q.p := by rw [pq]; exact send_pi htU _ _ pi0 fun u hu => hbU u (List.mem_of_mem_take hu)
      refine s_meth0 (U, b, thing) S (e_var rfl) rfl (a_cons (e_var rfl) (a_cons (e_var rfl) a_nil)) ⟨hU, gq, piq, hbU b (List.mem_of_getElem? hx), htU⟩ fun W' g'' hpost S => ?_
      obtain ⟨po1, po2, po3, po4⟩ := hpost
      refine At.mk ⟨g'', po3.trans hqf, po4.trans hqr, by rw [po1, lay_kn]; exact hqk⟩ ⟨po2, ?_⟩ S.w
      show g''.p = _
      rw [take_succ_at hx, po1, pq]
      simp [sendP, List.foldl_append]
    rw [List.take_length] at hI
    obtain ⟨q, hqf, hqr, hqk⟩ := q
    obtain ⟨gq, pq⟩ := hI
    have gq : GI U q := gq
    have pq : q.p = sendP p0 thing (folAt p0.kn seat) := pq
    have hqrl : q.p.rl = h.p.rl := by rw [pq, (send_ext thing _ p0).rl, hrl]
    have piq : PI U q.p := by rw [pq]; exact send_pi htU _ _ pi0 fun u hu => (pi0.kn _ (mem_folAt.mp hu)).2
    obtain ⟨xs, hxs⟩ := pps_of (rs := rulesAt h.p.rl seat) fun r hr => pp r (mem_rulesAt.mp hr).1
    have hxU : ∀ x ∈ xs, x.a = seat ∧ x.o ∈ U ∧ (x.l = 1 ∨ x.l = 2) := fun x hx => by
      have hm : x.rule ∈ rulesAt h.p.rl seat := by rw [hxs]; exact List.mem_map_of_mem hx
      obtain ⟨m1, m2⟩ := mem_rulesAt.mp hm
      have m3 := pi.rl _ m1
      unfold PP.rule at m2 m3
      split at m2
      · rw [if_pos (by assumption)] at m3; exact ⟨m2, m3.2.1, m3.2.2⟩
      · rw [if_neg (by assumption)] at m3; exact ⟨m2, m3.2.1, m3.2.2⟩
    -- the rules
    refine s_forGet (C := cA P w K (Mg cg A g)) (E := ESeat) (k := seat) (j := 5) (xs := xs) encPP (fun _ : { q : Gst // q.rk = h.rk ∧ q.p.rl = h.p.rl } => [some (.loc A.self), some (.dat (encSeat seat)), some (.dat (encThing thing)), none, none, none, none]) (fun q => Mg cg A q.1)
      (fun i r => GI U r.1 ∧ PI U r.1.p ∧ r.1.p = ((xs.take i).map PP.rule).foldl (procRule seat thing) q.p) ⟨q, hqr, hqrl⟩ S (fld rfl List.mem_cons_self G.nr rfl) (e_var rfl) rfl ?_ (fun σ W S => S) ⟨gq, piq, rfl⟩ (fun x => g_tup4) (fun i r x σ W hx hI S => ?_) (fun r σ W hI S => ?_)
    · by_cases z : seat ∈ h.rk.map (·.1)
      · obtain ⟨i, a, hi⟩ := key_ix z
        refine .inl ⟨a, by show (locs q.rk).lookup seat = _; rw [hqr]; exact locs_lookup gi.rn hi, fun r => ⟨r.1.tk.length + (r.1.fk.length + i) + 7, ?_⟩⟩
        have := Mg_r (cg := cg) (A := A) (g := r.1) (i := i) (s := seat) (a := a) (by rw [r.2.1]; exact hi)
        rw [r.2.2, hxs, enc_pps] at this
        exact this
      · refine .inr ⟨by show seat ∉ (locs q.rk).map (·.1); rw [locs_keys, hqr]; exact z, ?_⟩
        rw [List.eq_nil_iff_forall_not_mem]
        intro x hx
        have hm : x.rule ∈ rulesAt h.p.rl seat := by rw [hxs]; exact List.mem_map_of_mem hx
        obtain ⟨m1, m2⟩ := mem_rulesAt.mp hm
        exact z (m2 ▸ gi.ra _ m1)
    · obtain ⟨r, hrr, hrl2⟩ := r
      obtain ⟨gr, pir, pr⟩ := hI
      have gr : GI U r := gr
      have pir : PI U r.p := pir
      have pr : r.p = ((xs.take i).map PP.rule).foldl (procRule seat thing) q.p := pr
      obtain ⟨x1, x2, x3⟩ := hxU x (List.mem_of_getElem? hx)
      have et : ((xs.take (i + 1)).map PP.rule).foldl (procRule seat thing) q.p = procRule seat thing r.p x.rule := by
        rw [take_succ_at hx, List.map_append, List.foldl_append, ← pr]
        rfl
      have next : ∀ {σ : L2.St} {W : Wo} (g'' : Gst), g''.p = procRule seat thing r.p x.rule → GI U g'' → g''.rk = r.rk → Sta (cA P w K (Mg cg A g)) Wz [] σ W [some (.loc A.self), some (.dat (encSeat seat)), some (.dat (encThing thing)), some (.dat (encSeat x.o)), some (.dat (.str x.word)), some (.dat (encSeat x.a)), some (.dat (.int (x.l : Int)))] (Mg cg A g'') →
          At (cA P w K (Mg cg A g)) Wz [] (fun _ : { q : Gst // q.rk = h.rk ∧ q.p.rl = h.p.rl } => [some (.loc A.self), some (.dat (encSeat seat)), some (.dat (encThing thing)), none, none, none, none]) (fun q => Mg cg A q.1) (fun r => GI U r.1 ∧ PI U r.1.p ∧ r.1.p = ((xs.take (i + 1)).map PP.rule).foldl (procRule seat thing) q.p) σ W.H := fun {σ W} g'' e1 e2 e3 S => by
        have hrU : x.rule.inU U := by unfold PP.rule; split <;> exact ⟨x1 ▸ hsU, x2, x3⟩
        exact At.mk ⟨g'', e3.trans hrr, by rw [e1, (rule_ext seat thing r.p x.rule).rl]; exact hrl2⟩ ⟨e2, by show PI U g''.p; rw [e1]; exact rule_pi pir hsU htU hrU, by show g''.p = _; rw [et]; exact e1⟩ S.w
      obtain ⟨xb, xa, xl, xo⟩ := x
      cases xb with
      | true =>
        refine s_if S (t_B (e_word2 (x := "push") (b := true) (e_var rfl) (by decide +kernel) (by decide +kernel) (by decide +kernel))) (fun _ W S => ?_) (fun hb W S => nomatch hb)
        refine s_meth0 (U, xo, some (xl, seat)) S (e_var rfl) rfl (a_cons (e_var rfl) (a_cons (e_tup (ds := [.int (xl : Int), encSeat seat]) (a_cons (e_var rfl) (a_cons (e_var rfl) a_nil)) (by show 2 ≤ 1000; decide)) a_nil)) ⟨hU, gr, pir, x2, x3, hsU⟩ fun W' g'' hpost S => ?_
        exact next g'' hpost.1 hpost.2.1 hpost.2.2.2 S
      | false =>
        refine s_if S (t_B (e_word2 (x := "pop") (b := false) (e_var rfl) (by decide +kernel) (by decide +kernel) (by decide +kernel))) (fun hb W S => nomatch hb) (fun _ W S => ?_)
        have hth : EvS (cA P w K (Mg cg A g)) [some (.loc A.self), some (.dat (encSeat seat)), some (.dat (encThing thing)), some (.dat (encSeat xo)), some (.dat (.str "pop")), some (.dat (encSeat xa)), some (.dat (.int (xl : Int)))] (Mg cg A r) (tOp (rNeD K) (tVar 2) (tTup tNil)) (.dat (.bool (!thing.isNone))) :=
          (e_ne (C := cA P w K (Mg cg A g)) (e := .tuple []) (e_var rfl) (e_tup (ds := []) a_nil (Nat.zero_le _)) (fl_thing _).flat (fl_thing none).flat).to (by rw [eqv_none])
        cases thing with
        | none =>
          refine s_when S (t_and (c := true) (t_B hth) fun z => nomatch z) (fun z W S => nomatch z) (fun _ W S => ?_)
          exact next r rfl gr rfl S
        | some q2 =>
          obtain ⟨l', s'⟩ := q2
          refine s_when S (t_and (t_B hth) fun _ => t_B (e_eqI (i := l') (j := xl) (e_ixT0 (e_var (s := .dat (encThing (some (l', s')))) rfl)) (e_var rfl))) (fun hz W S => ?_) (fun hz W S => ?_)
          · have el : l' = xl := of_decide_eq_true (by simpa using hz)
            refine s_meth0 (U, s', xo) S (e_var rfl) rfl (a_cons (e_ixT1 (e_var (s := .dat (encThing (some (l', s')))) rfl)) (a_cons (e_var rfl) a_nil)) ⟨hU, gr, pir, htU.2, x2⟩ fun W' g'' hpost S => ?_
            refine next g'' ?_ hpost.2.1 hpost.2.2 S
            rw [hpost.1]
            show followP r.p s' xo = if l' = xl then followP r.p s' xo else r.p
            rw [if_pos el]
          · have el : ¬ l' = xl := fun z => by simp [z] at hz
            refine next r ?_ gr rfl S
            show r.p = if l' = xl then followP r.p s' xo else r.p
            rw [if_neg el]
    rw [List.take_length] at hI
    obtain ⟨r, hrr, hrl2⟩ := r
    obtain ⟨gr, pir, pr⟩ := hI
    have gr : GI U r := gr
    have pir : PI U r.p := pir
    have er : r.p = procP p0 seat thing := by
      rw [procP, hrl, hxs, ← pq]
      exact pr
    have hct := ext1.ct
    have hal := pi_al pir hU
    refine At.mk r ⟨⟨hU, gr, pir, by rw [er]; exact inv1, fun x hx => pp x (by rw [← hrl2]; exact hx)⟩, ?_⟩ S.w
    show 2001000 - (r.p.al.length - r.p.fr.length) < 2001000 - (h.p.al.length - h.p.fr.length)
    have h1 := pir.fr
    have h2 := pi.fr
    have h3 : p0.al = h.p.al := by rw [ep0]
    have h4 : p0.fr.length + 1 = h.p.fr.length := by rw [ep0, e, List.length_append, List.length_singleton]
    rw [← er, h3] at hct
    omega
  · rw [eqv_nil] at hb
    have e : h.p.fr = [] := by simpa using hb
    exact hq W h ⟨⟨hU, gi, pi, inv, pp⟩, e⟩ S.chg
end
end Dr
namespace Dr
open PySem PySem.Spec PyProof.Rows L2

/-! reader -/
theorem perm_map_inv {α β : Type} {f : α → β} {ys : List β} {zs : List β} (h : ys.Perm zs) : ∀ {xs : List α}, zs = xs.map f → ∃ xs' : List α, ys = xs'.map f ∧ xs'.Perm xs := by
  induction h with
  | nil =>
    intro xs e
    cases xs with
    | nil => exact ⟨[], rfl, .nil⟩
    | cons a b => cases e
  | cons x _ ih =>
    intro xs e
    cases xs with
    | nil => cases e
    | cons a b =>
      rw [List.map_cons, List.cons.injEq] at e
      obtain ⟨xs', e1, e2⟩ := ih e.2
      exact ⟨a :: xs', by rw [List.map_cons, e.1, e1], e2.cons a⟩
  | swap x y l =>
    intro xs e
    match xs, e with
    | a :: b :: c, e =>
      rw [List.map_cons, List.map_cons, List.cons.injEq, List.cons.injEq] at e
      exact ⟨b :: a :: c, by rw [List.map_cons, List.map_cons, e.1, e.2.1, e.2.2], .swap ..⟩
  | trans _ _ ih1 ih2 =>
    intro xs e
    obtain ⟨x1, e1, p1⟩ := ih2 e
    obtain ⟨x2, e2, p2⟩ := ih1 e1
    exact ⟨x2, e2, p2.trans p1⟩
theorem srt_map {α : Type} {f : α → PyData} (xs : List α) : ∃ xs' : List α, srt (xs.map f) = xs'.map f ∧ xs'.Perm xs := perm_map_inv (srt_perm _) rfl
def endsAt (al : List (Seat × Thing)) (s : Seat) : List Seat := ((thingsAt al s).filter fun t => t.isNone).map fun _ => s
def movesAt (al : List (Seat × Thing)) (s : Seat) : List Move := (thingsAt al s).filterMap fun t => t.map fun q => (s, q.1, q.2)
theorem seat_can (xs : List Seat) : CanSort (xs.map encSeat) := ⟨PySem.W.AllAlike.of fun a b => by simp [encSeat, PySem.W.alike, PySem.W.alikeAll], PySem.W.Sortable.tuples fun a => ⟨_, _, rfl⟩, fun d hd => by
  obtain ⟨a, _, rfl⟩ := List.mem_map.mp hd
  exact Nat.le_trans (fl_seat a).dp (by decide)⟩
theorem fl_move (m : Move) : Fl 2 (encMove m) := fl_tup (fl3 (fl_seat _) (fl_int _) (fl_seat _))
theorem move_can (xs : List Move) : CanSort (xs.map encMove) := ⟨PySem.W.AllAlike.of fun a b => by simp [encMove, encSeat, PySem.W.alike, PySem.W.alikeAll], PySem.W.Sortable.tuples fun a => ⟨_, _, rfl⟩, fun d hd => by
  obtain ⟨a, _, rfl⟩ := List.mem_map.mp hd
  exact Nat.le_trans (fl_move a).dp (by decide)⟩
theorem things_nodup {al : List (Seat × Thing)} (h : al.Nodup) (s : Seat) : (thingsAt al s).Nodup := by
  unfold thingsAt
  have h1 := h.sublist (List.filter_sublist (l := al) (p := fun x => decide (x.1 = s)))
  have : ∀ (xs : List (Seat × Thing)), xs.Nodup → (∀ x ∈ xs, x.1 = s) → (xs.map (·.2)).Nodup := by
    intro xs
    induction xs with
    | nil => intro _ _; exact List.nodup_nil
    | cons x xs ih =>
      intro nd hs
      rw [List.nodup_cons] at nd
      rw [List.map_cons, List.nodup_cons]
      refine ⟨fun z => ?_, ih nd.2 fun y hy => hs y (List.mem_cons_of_mem _ hy)⟩
      obtain ⟨y, hy, e⟩ := List.mem_map.mp z
      have : y = x := Prod.ext ((hs y (List.mem_cons_of_mem _ hy)).trans (hs x List.mem_cons_self).symm) e
      exact nd.1 (this ▸ hy)
  exact this _ h1 fun x hx => of_decide_eq_true (List.mem_filter.mp hx).2
theorem flat_nodup {α β : Type} {f : α → List β} : ∀ {xs : List α}, xs.Nodup → (∀ x ∈ xs, (f x).Nodup) → (∀ x ∈ xs, ∀ y ∈ xs, ∀ b, b ∈ f x → b ∈ f y → x = y) → (xs.flatMap f).Nodup
  | [], _, _, _ => List.nodup_nil
  | x :: xs, nd, h1, h2 => by
    rw [List.nodup_cons] at nd
    rw [List.flatMap_cons, List.nodup_append]
    refine ⟨h1 x List.mem_cons_self, flat_nodup nd.2 (fun y hy => h1 y (List.mem_cons_of_mem _ hy)) fun y hy z hz => h2 y (List.mem_cons_of_mem _ hy) z (List.mem_cons_of_mem _ hz), fun a ha b hb e => ?_⟩
    obtain ⟨y, hy, hb⟩ := List.mem_flatMap.mp hb
    subst e
    exact nd.1 (h2 x List.mem_cons_self y (List.mem_cons_of_mem _ hy) a ha hb ▸ hy)
theorem mem_endsAt {al : List (Seat × Thing)} {s b : Seat} : b ∈ endsAt al s ↔ b = s ∧ (s, none) ∈ al := by
  unfold endsAt
  rw [List.mem_map]
  constructor
  · rintro ⟨t, ht, e⟩
    obtain ⟨h1, h2⟩ := List.mem_filter.mp ht
    cases t with
    | none => exact ⟨e.symm, mem_thingsAt.mp h1⟩
    | some q => cases h2
  · rintro ⟨e, h⟩
    exact ⟨none, List.mem_filter.mpr ⟨mem_thingsAt.mpr h, rfl⟩, e.symm⟩
theorem mem_movesAt {al : List (Seat × Thing)} {s : Seat} {m : Move} : m ∈ movesAt al s ↔ m.1 = s ∧ (s, some m.2) ∈ al := by
  unfold movesAt
  rw [List.mem_filterMap]
  constructor
  · rintro ⟨t, ht, e⟩
    cases t with
    | none => cases e
    | some q => cases e; exact ⟨rfl, mem_thingsAt.mp ht⟩
  · rintro ⟨e, h⟩
    refine ⟨some m.2, mem_thingsAt.mpr h, ?_⟩
    subst e
    rfl
theorem ends_nodup {al : List (Seat × Thing)} (h : al.Nodup) (s : Seat) : (endsAt al s).Nodup := by
  unfold endsAt
  have h1 := (things_nodup h s).sublist (List.filter_sublist (l := thingsAt al s) (p := fun t => t.isNone))
  have h2 : ∀ t ∈ (thingsAt al s).filter fun t => t.isNone, t = none := fun t ht => by
    have := (List.mem_filter.mp ht).2
    cases t with
    | none => rfl
    | some q => cases this
  revert h1 h2
  generalize (thingsAt al s).filter (fun t => t.isNone) = xs
  intro h1 h2
  match xs, h1, h2 with
  | [], _, _ => exact List.nodup_nil
  | [x], _, _ => simp
  | x :: y :: r, h1, h2 =>
    have e1 := h2 x List.mem_cons_self
    have e2 := h2 y (List.mem_cons_of_mem _ List.mem_cons_self)
    rw [List.nodup_cons] at h1
    exact absurd (by rw [e1, e2]; exact List.mem_cons_self) h1.1
theorem fm_nodup {α β : Type} {f : α → Option β} (inj : ∀ a b c, f a = some c → f b = some c → a = b) : ∀ {xs : List α}, xs.Nodup → (xs.filterMap f).Nodup
  | [], _ => List.nodup_nil
  | x :: xs, nd => by
    rw [List.nodup_cons] at nd
    cases q : f x with
    | none => rw [List.filterMap_cons_none q]; exact fm_nodup inj nd.2
    | some c =>
      rw [List.filterMap_cons_some q, List.nodup_cons]
      refine ⟨fun z => ?_, fm_nodup inj nd.2⟩
      obtain ⟨y, hy, e⟩ := List.mem_filterMap.mp z
      exact nd.1 (inj x y c q e ▸ hy)
theorem moves_nodup {al : List (Seat × Thing)} (h : al.Nodup) (s : Seat) : (movesAt al s).Nodup := by
  refine fm_nodup (fun a b c h1 h2 => ?_) (things_nodup h s)
  cases a with
  | none => cases h1
  | some q =>
    cases b with
    | none => cases h2
    | some q2 =>
      have h1 := Option.some.inj h1
      have h2 := Option.some.inj h2
      rw [← h1] at h2
      obtain ⟨q1, q3⟩ := q
      obtain ⟨q4, q5⟩ := q2
      simp only [Prod.mk.injEq] at h2
      rw [h2.2.1, h2.2.2]
structure IsRd (al : List (Seat × Thing)) (r : Reader) : Prop where
  nde : r.ends.Nodup
  ndm : r.moves.Nodup
  ends : ∀ s, s ∈ r.ends ↔ (s, none) ∈ al
  moves : ∀ m : Move, m ∈ r.moves ↔ (m.1, some m.2) ∈ al
theorem set_self {α : Type _} {M : List α} {n : Nat} {x : α} (h : M[n]? = some x) : M.set n x = M := by
  refine List.ext_getElem? fun i => ?_
  by_cases q : n = i
  · subst q
    rw [List.getElem?_set_self (List.getElem?_eq_some_iff.mp h).1, h]
  · rw [List.getElem?_set_ne q]
section
variable {P : Program} {w : World} {K : PySem.W.Frag} {mg : Str → Option Value} {base : Heap} {f f1 f2 f3 f4 f5 f6 : Addr} {fd d1 d2 d3 d4 d5 d6 : FuncData} {aO aG cg : Addr} {C : Cn} {Γ : Ga} {M M' : Ms} {ta tb tc td te tk tv ty : TE} {W0 W : Wo} {T : Kn} {σ : L2.St} {s : Sv} {D : Ends} {tz tbd : TS} {d : PyData}
def sp_reader (P : Program) (w : World) (K : PySem.W.Frag) (cg : Addr) : Sp := fun vs H Q _ => ∃ (W : Wo) (A : Gad) (g : Gst) (U : List Seat), W.H = H ∧ Svs (C0 P w K) W.G vs [.loc A.self] ∧ GOk (C0 P w K) W (Mg cg A g) ∧ U.length ≤ 1000 ∧ GI U g ∧ PI U g.p ∧
  ∀ W' v r, Since (cA P w K (Mg cg A g)) W W' → IsRd g.p.al r → SvOk (C0 P w K) W'.G v (.dat (encReader r)) → Q v W'.H
theorem sc_Growing_reader : FnScope ["self", "ends", "moves", "seat", "thing"] ["self"] (defScope s_Growing_reader) := ⟨rfl, rfl, rfl, by decide +kernel, rfl, by decide +kernel, by decide +kernel⟩
theorem ok_reader (G : Gc K cg) (T : Txt K mg aO aG) (F : FnP K "reader" "Growing.reader" s_Growing_reader f fd) : FnOk P w K mg base CX0 1 f fd ["self"] (sp_reader P w K cg) := by
  have nd := sc_Growing_reader.nd
  have tx := T
  have cl := G.cl
  refine F.ok sc_Growing_reader (fun vs H Q E h => by obtain ⟨W, A, g, U, _, ok, _⟩ := h; exact ok.length) (fun cdv A outer s H vs Q E hr h => ⟨_, PSs.nox
    (pss_cons (ps_set (i := 1) nd rfl (Or.inl rfl) (pe_lst pa_nil))
    (pss_cons (ps_set (i := 2) nd rfl (Or.inl rfl) (pe_lst pa_nil))
    (pss_cons (ps_for PassesOwn.never rfl ((pi_keysN ESeat) (pe_fld (pv 0) rfl)) (pg_name (i := 3) nd rfl (Or.inl rfl)) (pss_one (ps_for PassesOwn.never rfl ((pi_keysN EThing) (pe_ixN ESeat hr.units (pe_fld (pv 0) rfl) (pv 3) (fun _ _ => rfl))) (pg_name (i := 4) nd rfl (Or.inl rfl)) (pss_one (ps_if (pt_cmpR (op_eqD hr.units) (pv 4) (pe_tup pa_nil) (nomark _)) (pss_one (ps_expr (pe_bm PySem.F.plainAttrs_list PySem.F.slot_list_append PySem.F.type_list_append mt_append (pv 1) (pa_cons (pv 3) pa_nil)))) (pss_one (ps_expr (pe_bm PySem.F.plainAttrs_list PySem.F.slot_list_append PySem.F.type_list_append mt_append (pv 2) (pa_cons (pe_tup (pa_cons (pv 3) (pa_cons (pe_ix ix_seq (pv 4) pe_int (fun _ _ => rfl)) (pa_cons (pe_ix ix_seq (pv 4) pe_int (fun _ _ => rfl)) pa_nil)))) pa_nil)))))))))
    (pss_one (ps_ret (pe_tup (pa_cons (pe_callB (cr_sortedD hr.units) (by rfl) tx.sorted (by decide +kernel) (pa_cons (pv 1) pa_nil)) (pa_cons (pe_callB (cr_sortedD hr.units) (by rfl) tx.sorted (by decide +kernel) (pa_cons (pv 2) pa_nil)) pa_nil)))))))), ?_⟩)
  obtain ⟨Wz, A, g, U, rfl, ok, gok, hU, gi, pi, hq⟩ := h
  have S := sta_meth ["self", "ends", "moves", "seat", "thing"] ok gok
  have fld : ∀ {Γ : Ga} {M : Ms} {x : Str} {l : Addr}, Γ[0]? = some (some (.loc A.self)) → (A.self, Mo.raw (.ins cg A.dx (flds A))) ∈ M → NoAttr K cg x → (flds A).lookup x = some (.ref l) → EvS (cA P w K (Mg cg A g)) Γ M (tFld K (tVar 0) x) (.loc l) := fun e hm na hl => e_fld (C := cA P w K (Mg cg A g)) (e_var e) hm G.cl na hl
  have hal := pi_al pi hU
  -- the whole lists
  have kn : g.tk.map (·.1) = (locs g.tk).map (·.1) := (locs_keys _).symm
  have ndE : ((g.tk.map (·.1)).flatMap (endsAt g.p.al)).Nodup := flat_nodup gi.tn (fun s _ => ends_nodup pi.nda s) fun x _ y _ b h1 h2 => (mem_endsAt.mp h1).1.symm.trans (mem_endsAt.mp h2).1
  have ndM : ((g.tk.map (·.1)).flatMap (movesAt g.p.al)).Nodup := flat_nodup gi.tn (fun s _ => moves_nodup pi.nda s) fun x _ y _ b h1 h2 => (mem_movesAt.mp h1).1.symm.trans (mem_movesAt.mp h2).1
  have lenE : ((g.tk.map (·.1)).flatMap (endsAt g.p.al)).length ≤ 1000 := Nat.le_trans (nodup_len ndE fun b hb => by
    obtain ⟨s, hs, hb⟩ := List.mem_flatMap.mp hb
    rw [(mem_endsAt.mp hb).1]; exact gi.tu s hs) hU
  have lenM : ((g.tk.map (·.1)).flatMap (movesAt g.p.al)).length ≤ 2001000 := by
    have h1 : (((g.tk.map (·.1)).flatMap (movesAt g.p.al)).map fun m : Move => (m.1, (some m.2 : Thing))).Nodup := by
      unfold List.Nodup at *
      rw [List.pairwise_map]
      exact ndM.imp fun ne e => ne (by simpa [Prod.ext_iff] using e)
    have h2 := nodup_len h1 (b := g.p.al) fun x hx => by
      obtain ⟨m, hm, e⟩ := List.mem_map.mp hx
      obtain ⟨s, hs, hm⟩ := List.mem_flatMap.mp hm
      obtain ⟨e1, e2⟩ := mem_movesAt.mp hm
      rw [← e, e1]; exact e2
    rw [List.length_map] at h2
    omega
  have pre : ∀ {β : Type} (fx : Seat → List β) (i : Nat), (((g.tk.map (·.1)).take i).flatMap fx).length ≤ ((g.tk.map (·.1)).flatMap fx).length := fun fx i => by
    have e : g.tk.map (·.1) = (g.tk.map (·.1)).take i ++ (g.tk.map (·.1)).drop i := (List.take_append_drop ..).symm
    have := congrArg (fun l => (l.flatMap fx).length) e
    simp only [List.flatMap_append, List.length_append] at this
    omega
  refine q_newL S fun le σ W S => ?_
  refine q_newL S fun lm σ W S => ?_
  refine q_forDO (C := cA P w K (Mg cg A g)) (E := ESeat) (kvs := locs g.tk) (l := A.t) (j := 4) (fun _ : List Seat × List Move => [some (.loc A.self), some (.loc le), some (.loc lm), none, none])
    (fun i a => a.1 = ((g.tk.map (·.1)).take i).flatMap (endsAt g.p.al) ∧ a.2 = ((g.tk.map (·.1)).take i).flatMap (movesAt g.p.al)) ([], [])
    (fun o a => (lm, .lst (a.2.map encMove)) :: (le, .lst (a.1.map encSeat)) :: (Mg cg A g).set 2 (A.t, .dct Seat ESeat (locs g.tk) (some o))) S (fld rfl (List.mem_cons_of_mem _ (List.mem_cons_of_mem _ List.mem_cons_self)) G.nt rfl) rfl (fun o a => ⟨4, rfl⟩)
    (fun o σ W S => S) ⟨rfl, rfl⟩ (fun k => g_name) (fun o i a seat T' σ W hx hI S => ?_) (fun o a σ W hI S => ?_)
  · rw [locs_keys] at hx
    obtain ⟨ix, ax, hi⟩ := key_ix (List.mem_of_getElem? hx)
    obtain ⟨E0, V0⟩ := a
    obtain ⟨hE, hV⟩ := hI
    have hE : E0 = ((g.tk.map (·.1)).take i).flatMap (endsAt g.p.al) := hE
    have hV : V0 = ((g.tk.map (·.1)).take i).flatMap (movesAt g.p.al) := hV
    have hE1 : E0 ++ endsAt g.p.al seat = ((g.tk.map (·.1)).take (i + 1)).flatMap (endsAt g.p.al) := by rw [flat_take hx, hE]
    have hV1 : V0 ++ movesAt g.p.al seat = ((g.tk.map (·.1)).take (i + 1)).flatMap (movesAt g.p.al) := by rw [flat_take hx, hV]
    have lE1 : (E0 ++ endsAt g.p.al seat).length ≤ 1000 := by rw [hE1]; exact Nat.le_trans (pre (endsAt g.p.al) (i + 1)) lenE
    have lV1 : (V0 ++ movesAt g.p.al seat).length ≤ 2001000 := by rw [hV1]; exact Nat.le_trans (pre (movesAt g.p.al) (i + 1)) lenM
    rw [List.length_append] at lE1 lV1
    have hMt : ((Mg cg A g).set 2 (A.t, .dct Seat ESeat (locs g.tk) (some o)))[ix + 7]? = some (ax, .dct Thing EThing ((thingsAt g.p.al seat).map fun t => (t, .dat (.bool true))) none) := by
      rw [List.getElem?_set_ne (by omega)]
      exact Mg_t hi
    refine s_forDO (C := cA P w K (Mg cg A g)) (E := EThing) (kvs := (thingsAt g.p.al seat).map fun t => (t, Sv.dat (.bool true))) (l := ax) (j := ix + 9) (fun _ : List Seat × List Move => [some (.loc A.self), some (.loc le), some (.loc lm), some (.dat (encSeat seat)), none])
      (fun k a => a.1 = E0 ++ (((thingsAt g.p.al seat).take k).filter fun t => t.isNone).map (fun _ => seat) ∧ a.2 = V0 ++ ((thingsAt g.p.al seat).take k).filterMap fun t => t.map fun q => (seat, q.1, q.2)) (E0, V0)
      (fun o2 a => (lm, .lst (a.2.map encMove)) :: (le, .lst (a.1.map encSeat)) :: ((Mg cg A g).set 2 (A.t, .dct Seat ESeat (locs g.tk) (some o))).set (ix + 7) (ax, .dct Thing EThing ((thingsAt g.p.al seat).map fun t => (t, .dat (.bool true))) (some o2))) S
      (e_atN (E := ESeat) (k := seat) (j := 4) (fld rfl (List.mem_cons_of_mem _ (List.mem_cons_of_mem _ List.mem_cons_self)) G.nt rfl) (e_var rfl) rfl (locs_lookup gi.tn hi)) hMt (fun o2 a => ⟨ix + 9, ?_⟩) (fun o2 σ W S => S) ⟨by simp, by simp⟩ (fun k => g_name) (fun o2 k a t T' σ W ht hK S => ?_) (fun o2 a σ W hK S => ?_)
    · show (((Mg cg A g).set 2 (A.t, .dct Seat ESeat (locs g.tk) (some o))).set (ix + 7) _)[ix + 7]? = _
      rw [List.getElem?_set_self (List.getElem?_eq_some_iff.mp hMt).1]
    · rw [tkeys] at ht
      obtain ⟨E1, V1⟩ := a
      obtain ⟨kE, kV⟩ := hK
      have kE : E1 = E0 ++ (((thingsAt g.p.al seat).take k).filter fun t => t.isNone).map (fun _ => seat) := kE
      have kV : V1 = V0 ++ ((thingsAt g.p.al seat).take k).filterMap fun t => t.map fun q => (seat, q.1, q.2) := kV
      have tl := things_len (al := g.p.al) (s := seat)
      have b1 : E1.length ≤ 2002000 := by
        rw [kE, List.length_append, List.length_map]
        have := List.length_filter_le (fun t : Thing => t.isNone) ((thingsAt g.p.al seat).take k)
        rw [List.length_take] at this
        omega
      have b2 : V1.length ≤ 4002000 := by
        rw [kV, List.length_append]
        have := List.length_filterMap_le (fun t : Thing => t.map fun q => (seat, q.1, q.2)) ((thingsAt g.p.al seat).take k)
        rw [List.length_take] at this
        omega
      refine s_if S (t_B (e_eq (e := .tuple []) (e_var (s := .dat (encThing t)) rfl) (e_tup (ds := []) a_nil (Nat.zero_le _)) (fl_thing _).flat (fl_thing none).flat)) (fun hb W S => ?_) (fun hb W S => ?_)
      · rw [eqv_none] at hb
        have et : t = none := Option.isNone_iff_eq_none.mp hb
        subst et
        refine s_app (j := 1) S rfl rfl (e_var rfl) (by rw [List.length_map]; show E1.length < 16777216; omega) fun W S => ?_
        rw [show E1.map encSeat ++ [encSeat seat] = (E1 ++ [seat]).map encSeat by rw [List.map_append]; rfl] at S
        refine At.mk (E1 ++ [seat], V1) ⟨?_, ?_⟩ S.w
        · show E1 ++ [seat] = _
          rw [take_succ_at ht, List.filter_append, List.map_append, kE, List.append_assoc]; rfl
        · show V1 = _
          rw [take_succ_at ht, List.filterMap_append, kV]; simp
      · rw [eqv_none] at hb
        cases t with
        | none => cases hb
        | some q2 =>
          obtain ⟨l', s'⟩ := q2
          refine s_app (j := 0) S rfl rfl (e_tup (ds := [encSeat seat, .int (l' : Int), encSeat s']) (a_cons (e_var rfl) (a_cons (e_ixT0 (e_var (s := .dat (encThing (some (l', s')))) rfl)) (a_cons (e_ixT1 (e_var (s := .dat (encThing (some (l', s')))) rfl)) a_nil))) (by show 3 ≤ 1000; decide)) (by rw [List.length_map]; show V1.length < 16777216; omega) fun W S => ?_
          rw [show V1.map encMove ++ [.tuple [encSeat seat, .int (l' : Int), encSeat s']] = (V1 ++ [(seat, l', s')]).map encMove by rw [List.map_append]; rfl] at S
          refine At.mk (E1, V1 ++ [(seat, l', s')]) ⟨?_, ?_⟩ S.w
          · show E1 = _
            rw [take_succ_at ht, List.filter_append, kE]; simp
          · show V1 ++ [(seat, l', s')] = _
            rw [take_succ_at ht, List.filterMap_append, kV, List.append_assoc]; rfl
    · obtain ⟨E1, V1⟩ := a
      obtain ⟨kE, kV⟩ := hK
      rw [List.length_map, List.take_length] at kE kV
      have hback := S.resay (j := ix + 9) (m' := .dct Thing EThing ((thingsAt g.p.al seat).map fun t => (t, .dat (.bool true))) none) (l := ax) (m := .dct Thing EThing ((thingsAt g.p.al seat).map fun t => (t, .dat (.bool true))) (some o2)) (by
        show (((Mg cg A g).set 2 (A.t, .dct Seat ESeat (locs g.tk) (some o))).set (ix + 7) _)[ix + 7]? = _
        rw [List.getElem?_set_self (List.getElem?_eq_some_iff.mp hMt).1]) fun ⟨vs, a1, a2, a3⟩ => ⟨vs, a1, a2, fun _ z => nomatch z⟩
      have eM : (((Mg cg A g).set 2 (A.t, .dct Seat ESeat (locs g.tk) (some o))).set (ix + 7) (ax, .dct Thing EThing ((thingsAt g.p.al seat).map fun t => (t, .dat (.bool true))) (some o2))).set (ix + 7) (ax, .dct Thing EThing ((thingsAt g.p.al seat).map fun t => (t, .dat (.bool true))) none) = (Mg cg A g).set 2 (A.t, .dct Seat ESeat (locs g.tk) (some o)) := by
        rw [List.set_set, set_self hMt]
      have S2 : Sta (cA P w K (Mg cg A g)) Wz T' σ W [some (.loc A.self), some (.loc le), some (.loc lm), some (.dat (encSeat seat)), none] ((lm, .lst (V1.map encMove)) :: (le, .lst (E1.map encSeat)) :: ((((Mg cg A g).set 2 (A.t, .dct Seat ESeat (locs g.tk) (some o))).set (ix + 7) (ax, .dct Thing EThing ((thingsAt g.p.al seat).map fun t => (t, .dat (.bool true))) (some o2))).set (ix + 7) (ax, .dct Thing EThing ((thingsAt g.p.al seat).map fun t => (t, .dat (.bool true))) none))) := hback
      rw [eM] at S2
      refine At.mk (E1, V1) ⟨?_, ?_⟩ S2.w
      · rw [← hE1]; exact kE
      · rw [← hV1]; exact kV
  · obtain ⟨E1, V1⟩ := a
    obtain ⟨kE, kV⟩ := hI
    have hll : (locs g.tk).length = (g.tk.map (·.1)).length := by unfold locs; rw [List.length_map, List.length_map]
    rw [hll, List.take_length] at kE kV
    have kE : E1 = (g.tk.map (·.1)).flatMap (endsAt g.p.al) := kE
    have kV : V1 = (g.tk.map (·.1)).flatMap (movesAt g.p.al) := kV
    obtain ⟨Es, e1, p1⟩ := srt_map (f := encSeat) E1
    obtain ⟨Vs, e2, p2⟩ := srt_map (f := encMove) V1
    refine s_ret S (e_tup (ds := [.list (Es.map encSeat), .list (Vs.map encMove)]) (a_cons ((e_sortedO (j := 1) rfl rfl (seat_can E1)).to (by rw [e1])) (a_cons ((e_sortedO (j := 0) rfl rfl (move_can V1)).to (by rw [e2])) a_nil)) (by show 2 ≤ 1000; decide)) fun v W' si ok => ?_
    refine hq W' v ⟨Es, Vs⟩ si ⟨?_, ?_, fun s => ?_, fun m => ?_⟩ (svok_A ok)
    · exact p1.nodup_iff.mpr (by rw [kE]; exact ndE)
    · exact p2.nodup_iff.mpr (by rw [kV]; exact ndM)
    · show s ∈ Es ↔ _
      rw [p1.mem_iff, kE, List.mem_flatMap]
      constructor
      · rintro ⟨x, _, h⟩
        obtain ⟨h1, h2⟩ := mem_endsAt.mp h
        rw [h1]; exact h2
      · intro h
        exact ⟨s, gi.ta _ h, mem_endsAt.mpr ⟨rfl, h⟩⟩
    · show m ∈ Vs ↔ _
      rw [p2.mem_iff, kV, List.mem_flatMap]
      constructor
      · rintro ⟨x, _, h⟩
        obtain ⟨h1, h2⟩ := mem_movesAt.mp h
        rw [h1]; exact h2
      · intro h
        exact ⟨m.1, gi.ta _ h, mem_movesAt.mpr ⟨rfl, h⟩⟩
end
end Dr
namespace Dr
open PySem PySem.Spec PyProof.Rows L2

/-! making, least -/
theorem perm7 {α : Type _} (a b c d e f g : α) : [a, b, c, d, e, f, g].Perm [f, g, e, d, c, b, a] := (List.reverse_perm [a, b, c, d, e, f, g]).symm.trans (List.Perm.swap f g [e, d, c, b, a])
theorem initR_pp {p : Pst} (h : ∀ r ∈ p.rl, isPP r) (r : Rule) : ∀ x ∈ (initRule p r).rl, isPP x := by
  have more : isPP r → ∀ x ∈ p.rl ++ [r], isPP x := fun hr x hx => by
    rcases List.mem_append.mp hx with hx | hx
    · exact h x hx
    · rw [List.mem_singleton.mp hx]; exact hr
  cases r with
  | copy a b => intro x hx; rw [show (initRule p (.copy a b)).rl = p.rl from (follow_ext p a b).rl] at hx; exact h x hx
  | end_ b => intro x hx; rw [show (initRule p (.end_ b)).rl = p.rl from (lay_ext p b none).rl] at hx; exact h x hx
  | push a l b => exact more trivial
  | pop a l b => exact more trivial
theorem init_pp : ∀ (qs : List Rule) (p : Pst), (∀ r ∈ p.rl, isPP r) → ∀ r ∈ (qs.foldl initRule p).rl, isPP r
  | [], _, h => h
  | r :: qs, p, h => init_pp qs _ (initR_pp h r)
section
variable {P : Program} {w : World} {K : PySem.W.Frag} {mg : Str → Option Value} {base : Heap} {f f1 f2 f3 f4 f5 f6 : Addr} {fd d1 d2 d3 d4 d5 d6 : FuncData} {aO aG cg : Addr} {C : Cn} {Γ : Ga} {M M' : Ms} {ta tb tc td te tk tv ty : TE} {W0 W : Wo} {T : Kn} {σ : L2.St} {s : Sv} {D : Ends} {tz tbd : TS} {d : PyData}
theorem q_fldD {κ : Type} (E : Enc κ) {j : Nat} {l0 dx : Addr} {fs : List (Str × V)} {x : Str} (S : Sta C W0 T σ W Γ M) (ho : ∀ p : Addr, EvS C Γ ((p, .dct κ E [] none) :: M) te (.loc l0)) (hm : M[j]? = some (l0, .raw (.ins cg dx fs))) (cl : Cls C.K cg) (na : NoAttr C.K cg x) (hl : fs.length < 1000)
    (k : ∀ p W', Sta C W0 T σ W' Γ ((p, .dct κ E [] none) :: M.set j (l0, .raw (.ins cg dx (putF x (.ref p) fs)))) → tz D σ W'.H) : tSeq (sFld C.K te tNewN x) tz D σ W.H := fun p hp hs => by
  have S1 := S.own (o := dX p dEmpty) (m := .dct κ E [] none) hp ⟨[], DAt.nil hs upd_same, .nil, fun _ z => nomatch z⟩
  refine ho p W0 T σ _ S1 _ fun v W2 l2 hv => ?_
  have hv : v = .ref l0 := hv
  subst hv
  have S2 := S1.le l2
  have hm' : ((p, Mo.dct κ E [] none) :: M)[j + 1]? = some (l0, .raw (.ins cg dx fs)) := hm
  obtain ⟨g, _, h⟩ := S2.mu _ (List.mem_of_getElem? hm')
  exact ⟨l0, cg, dx, fs, rfl, h, cl, na, hl, k p (W2.put l0 (.ins cg dx (putF x (.ref p) fs)) g) (S2.change hm' g upd_same)⟩
theorem q_fldL {j : Nat} {l0 dx : Addr} {fs : List (Str × V)} {x : Str} (S : Sta C W0 T σ W Γ M) (ho : ∀ p : Addr, EvS C Γ ((p, .lst []) :: M) te (.loc l0)) (hm : M[j]? = some (l0, .raw (.ins cg dx fs))) (cl : Cls C.K cg) (na : NoAttr C.K cg x) (hl : fs.length < 1000)
    (k : ∀ p W', Sta C W0 T σ W' Γ ((p, .lst []) :: M.set j (l0, .raw (.ins cg dx (putF x (.ref p) fs)))) → tz D σ W'.H) : tSeq (sFld C.K te (tLst tNil) x) tz D σ W.H := ⟨Nat.zero_le _, fun p hp => by
  have S1 := S.own (o := .lst []) (m := .lst []) hp ⟨[], upd_same, .nil⟩
  refine ho p W0 T σ _ S1 _ fun v W2 l2 hv => ?_
  have hv : v = .ref l0 := hv
  subst hv
  have S2 := S1.le l2
  have hm' : ((p, Mo.lst []) :: M)[j + 1]? = some (l0, .raw (.ins cg dx fs)) := hm
  obtain ⟨g, _, h⟩ := S2.mu _ (List.mem_of_getElem? hm')
  exact ⟨l0, cg, dx, fs, rfl, h, cl, na, hl, k p (W2.put l0 (.ins cg dx (putF x (.ref p) fs)) g) (S2.change hm' g upd_same)⟩⟩
abbrev rawM (cg x dx : Addr) : Ms := [(x, .raw (.ins cg dx [])), (dx, .raw (.own x))]
def sp_init (P : Program) (w : World) (K : PySem.W.Frag) (cg : Addr) : Sp := fun vs H Q _ => ∃ (W : Wo) (x dx : Addr) (rs : List Rule) (U : List Seat), W.H = H ∧ Svs (C0 P w K) W.G vs [.loc x, .dat (.list (rs.map encRule))] ∧ GOk (C0 P w K) W (rawM cg x dx) ∧ U.length ≤ 1000 ∧ rs.length ≤ 1000000 ∧ (∀ r ∈ rs, r.inU U) ∧
  ∀ W' A g, A.self = x → Chg P w K (rawM cg x dx) (Mg cg A g) W W' → GI U g → PI U g.p → g.p = initP rs → Q .non W'.H
def gad (x dx t fo kn ru fr : Addr) : Gad := ⟨x, dx, t, fo, kn, ru, fr⟩
theorem sc_Growing_init : FnScope ["self", "rules", "rule"] ["self", "rules"] (defScope s_Growing_init) := ⟨rfl, rfl, rfl, by decide +kernel, rfl, by decide +kernel, by decide +kernel⟩
theorem ok_init (G : Gc K cg) (T : Txt K mg aO aG) (me_lay : Meth K cg "lay" f1) (F_lay : FnOk P w K mg base CX0 1 f1 d1 ["self", "seat", "thing"] (sp_lay P w K cg)) (b_lay : Binds K d1 ["self", "seat", "thing"] []) (me_follow : Meth K cg "follow" f2) (F_follow : FnOk P w K mg base CX0 2 f2 d2 ["self", "one", "other"] (sp_follow P w K cg)) (b_follow : Binds K d2 ["self", "one", "other"] [])
    (F : FnP K "__init__" "Growing.__init__" s_Growing_init f fd) : FnOk P w K mg base CX0 3 f fd ["self", "rules"] (sp_init P w K cg) := by
  have nd := sc_Growing_init.nd
  have tx := T
  have cl := G.cl
  refine F.ok sc_Growing_init (fun vs H Q E h => by obtain ⟨W, x, dx, rs, U, _, ok, _⟩ := h; exact ok.length) (fun cdv A outer s H vs Q E hr h => ⟨_, PSs.nox
    (pss_cons (ps_fld (pv 0) pe_newN rfl)
    (pss_cons (ps_fld (pv 0) pe_newN rfl)
    (pss_cons (ps_fld (pv 0) pe_newN rfl)
    (pss_cons (ps_fld (pv 0) pe_newN rfl)
    (pss_cons (ps_fld (pv 0) (pe_lst pa_nil) rfl)
    (pss_one (ps_for PassesOwn.never rfl (pi_list (pv 1)) (pg_name (i := 2) nd rfl (Or.inl rfl)) (pss_one (ps_if (pt_cmpR (op_eqD hr.units) (pe_ix ix_seq (pv 2) pe_int (fun _ _ => rfl)) pe_str (nomark _)) (pss_one (ps_expr (pe_meth (pv 0) cl me_follow F_follow (hr.mono (by decide)) b_follow .nil pass0 (pa_cons (pe_ix ix_seq (pv 2) pe_int (fun _ _ => rfl)) (pa_cons (pe_ix ix_seq (pv 2) pe_int (fun _ _ => rfl)) pa_nil))))) (pss_one (ps_if (pt_cmpR (op_eqD hr.units) (pe_ix ix_seq (pv 2) pe_int (fun _ _ => rfl)) pe_str (nomark _)) (pss_one (ps_expr (pe_meth (pv 0) cl me_lay F_lay (hr.mono (by decide)) b_lay .nil pass0 (pa_cons (pe_ix ix_seq (pv 2) pe_int (fun _ _ => rfl)) (pa_cons (pe_tup pa_nil) pa_nil))))) (pss_cons (ps_if (pt_cmpR (op_notInN ESeat hr.units) (pe_ix ix_seq (pv 2) pe_int (fun _ _ => rfl)) (pe_fld (pv 0) rfl) (by rfl)) (pss_one (ps_asg (pe_lst pa_nil) (pg_sub (pe_fld (pv 0) rfl) (pe_ix ix_seq (pv 2) pe_int (fun _ _ => rfl)) (set_N ESeat hr.units)))) pss_nil)
    (pss_one (ps_expr (pe_bm PySem.F.plainAttrs_list PySem.F.slot_list_append PySem.F.type_list_append mt_append (pe_ixN ESeat hr.units (pe_fld (pv 0) rfl) (pe_ix ix_seq (pv 2) pe_int (fun _ _ => rfl)) (fun _ _ => rfl)) (pa_cons (pv 2) pa_nil)))))))))))))))), ?_⟩)
  obtain ⟨Wz, x, dx, rs, U, rfl, ok, gok, hU, hlen, hin, hq⟩ := h
  have S := sta_meth ["self", "rules", "rule"] ok gok
  refine q_fldD ESeat (j := 0) S (fun p => e_var rfl) rfl cl G.nt (by show 0 < 1000; decide) fun at_ W S => ?_
  refine q_fldD ESeat (j := 1) S (fun p => e_var rfl) rfl cl G.nf (by show 1 < 1000; decide) fun af W S => ?_
  refine q_fldD ESS (j := 2) S (fun p => e_var rfl) rfl cl G.nk (by show 2 < 1000; decide) fun ak W S => ?_
  refine q_fldD ESeat (j := 3) S (fun p => e_var rfl) rfl cl G.nr (by show 3 < 1000; decide) fun ar W S => ?_
  refine q_fldL (j := 4) S (fun p => e_var rfl) rfl cl G.nh (by show 4 < 1000; decide) fun ah W S => ?_
  have S : Sta (cA P w K (rawM cg x dx)) Wz [] (L2.start ["self", "rules", "rule"] vs) W [some (.loc x), some (.dat (.list (rs.map encRule))), none] (Mg cg ⟨x, dx, at_, af, ak, ar, ah⟩ ⟨⟨[], [], [], []⟩, [], [], []⟩) := S.perm (perm7 ..)
  obtain ⟨A, eA⟩ : ∃ A : Gad, A = ⟨x, dx, at_, af, ak, ar, ah⟩ := ⟨_, rfl⟩
  have eAx : A.self = x := by rw [eA]
  rw [← eA] at S
  have fld : ∀ {Γ : Ga} {M : Ms} {y : Str} {l : Addr}, Γ[0]? = some (some (.loc x)) → (A.self, Mo.raw (.ins cg A.dx (flds A))) ∈ M → NoAttr K cg y → (flds A).lookup y = some (.ref l) → EvS (cA P w K (rawM cg x dx)) Γ M (tFld K (tVar 0) y) (.loc l) := fun e hm na hl => e_fld (C := cA P w K (rawM cg x dx)) (e_var e) (by rw [eAx] at hm; exact hm) G.cl na hl
  refine s_forL (C := cA P w K (rawM cg x dx)) (xs := rs) encRule (fun _ : Gst => [some (.loc x), some (.dat (.list (rs.map encRule))), none]) (fun g => Mg cg A g)
    (fun i g => GI U g ∧ PI U g.p ∧ g.p.rl.length ≤ i ∧ g.p = (rs.take i).foldl initRule ⟨[], [], [], []⟩) ⟨⟨[], [], [], []⟩, [], [], []⟩ S (e_var rfl) (fun σ W S => S)
    ⟨⟨fun _ z => (nomatch z), fun _ z => (nomatch z), fun _ z => (nomatch z), List.nodup_nil, List.nodup_nil, List.nodup_nil, fun _ z => (nomatch z), fun _ z => (nomatch z), fun _ z => (nomatch z)⟩, pi_nil U, Nat.le_refl _, rfl⟩ (fun y => g_name) (fun i g r T' σ W hr' hI S => ?_) (fun g σ W hI S => ?_)
  · obtain ⟨gi, pi, hl, ep⟩ := hI
    have hrU := hin r (List.mem_of_getElem? hr')
    have hil := (List.getElem?_eq_some_iff.mp hr').1
    have et : (rs.take (i + 1)).foldl initRule ⟨[], [], [], []⟩ = initRule g.p r := by
      rw [take_succ_at hr', List.foldl_append, ← ep]
      rfl
    have pi2 := initR_pi pi hrU
    have next : ∀ {σ : L2.St} {W : Wo} (g'' : Gst), g''.p = initRule g.p r → GI U g'' → (initRule g.p r).rl.length ≤ i + 1 → Sta (cA P w K (rawM cg x dx)) Wz T' σ W [some (.loc x), some (.dat (.list (rs.map encRule))), some (.dat (encRule r))] (Mg cg A g'') →
        At (cA P w K (rawM cg x dx)) Wz T' (fun _ : Gst => [some (.loc x), some (.dat (.list (rs.map encRule))), none]) (fun g => Mg cg A g) (fun g => GI U g ∧ PI U g.p ∧ g.p.rl.length ≤ i + 1 ∧ g.p = (rs.take (i + 1)).foldl initRule ⟨[], [], [], []⟩) σ W.H := fun {σ W} g'' e1 e2 e3 S =>
      At.mk g'' ⟨e2, by rw [e1]; exact pi2, by rw [e1]; exact e3, by rw [et]; exact e1⟩ S.w
    have slf : ∀ {M : Ms}, EvS (cA P w K (rawM cg x dx)) [some (.loc x), some (.dat (.list (rs.map encRule))), some (.dat (encRule r))] M (tVar 0) (.loc A.self) := fun {M} => by rw [eAx]; exact e_var rfl
    cases r with
    | copy a b =>
      refine s_if S (t_B (e_word2 (x := "copy") (b := true) (e_ixT0 (e_var (s := .dat (encRule (.copy a b))) rfl)) (by decide +kernel) (by decide +kernel) (by decide +kernel))) (fun _ W S => ?_) (fun hb W S => nomatch hb)
      refine s_meth0 (U, a, b) S slf rfl (a_cons (e_ixT1 (e_var (s := .dat (encRule (.copy a b))) rfl)) (a_cons (e_ixT2 (e_var (s := .dat (encRule (.copy a b))) rfl)) a_nil)) ⟨hU, gi, pi, hrU.1, hrU.2⟩ fun W' g'' hpost S => ?_
      exact next g'' hpost.1 hpost.2.1 (by rw [show (initRule g.p (.copy a b)).rl = g.p.rl from (follow_ext g.p a b).rl]; omega) S
    | end_ b =>
      refine s_if S (t_B (e_word2 (x := "end") (b := false) (e_ixT0 (e_var (s := .dat (encRule (.end_ b))) rfl)) (by decide +kernel) (by decide +kernel) (by decide +kernel))) (fun hb W S => nomatch hb) (fun _ W S => ?_)
      refine s_if S (t_B (e_word2 (x := "end") (b := true) (e_ixT0 (e_var (s := .dat (encRule (.end_ b))) rfl)) (by decide +kernel) (by decide +kernel) (by decide +kernel))) (fun _ W S => ?_) (fun hb W S => nomatch hb)
      refine s_meth0 (U, b, none) S slf rfl (a_cons (e_ixT1 (e_var (s := .dat (encRule (.end_ b))) rfl)) (a_cons (e_tup (ds := []) a_nil (Nat.zero_le _)) a_nil)) ⟨hU, gi, pi, hrU, trivial⟩ fun W' g'' hpost S => ?_
      exact next g'' hpost.1 hpost.2.1 (by rw [show (initRule g.p (.end_ b)).rl = g.p.rl from (lay_ext g.p b none).rl]; omega) S
    | push a l b =>
      refine s_if S (t_B (e_word2 (x := "push") (b := false) (e_ixT0 (e_var (s := .dat (encRule (.push a l b))) rfl)) (by decide +kernel) (by decide +kernel) (by decide +kernel))) (fun hb W S => nomatch hb) (fun _ W S => ?_)
      refine s_if S (t_B (e_word2 (x := "push") (b := false) (e_ixT0 (e_var (s := .dat (encRule (.push a l b))) rfl)) (by decide +kernel) (by decide +kernel) (by decide +kernel))) (fun hb W S => nomatch hb) (fun _ W S => ?_)
      refine q_whenK (fun σ W => ∃ g', g'.p = g.p ∧ GI U g' ∧ a ∈ g'.rk.map (·.1) ∧ Sta (cA P w K (rawM cg x dx)) Wz T' σ W [some (.loc x), some (.dat (.list (rs.map encRule))), some (.dat (encRule (.push a l b)))] (Mg cg A g')) S
        (t_B (e_notInN (E := ESeat) (k := a) (j := 5) (e_ixT1 (e_var (s := .dat (encRule (.push a l b))) rfl)) (fld rfl List.mem_cons_self G.nr rfl) rfl)) (fun σ W hj => ?_) (fun hb W S kk => ?_) (fun hb W S => ?_)
      · obtain ⟨g', hp, gi', hina, S⟩ := hj
        obtain ⟨ix, ax, hi⟩ := key_ix hina
        refine s_appG (j := g'.tk.length + (g'.fk.length + ix) + 7) S (e_atN (E := ESeat) (k := a) (j := 5) (fld rfl List.mem_cons_self G.nr rfl) (e_ixT1 (e_var (s := .dat (encRule (.push a l b))) rfl)) rfl (locs_lookup gi'.rn hi)) (Mg_r hi) (e_var rfl) (by rw [List.length_map]; have := rulesAt_len (al := g'.p.rl) (s := a); rw [hp] at this ⊢; show _ < 16777216; omega) fun W S => ?_
        have e2 := inM_setR (r := (.push a l b)) gi'.rn hi rfl
        have eM : (Mg cg A g').set (g'.tk.length + (g'.fk.length + ix) + 7) (ax, .lst ((rulesAt g'.p.rl a).map encRule ++ [encRule (.push a l b)])) = Mg cg A { g' with p := initRule g.p (.push a l b) } := by
          rw [← hp]
          unfold Mg
          show _ = _ :: _ :: _ :: _ :: _ :: _ :: _ :: inM { g' with p := { g'.p with rl := g'.p.rl ++ [(.push a l b)] } }
          rw [← e2]
          rfl
        replace S := eM ▸ S
        refine next { g' with p := initRule g.p (.push a l b) } rfl ⟨gi'.tu, gi'.fu, gi'.ru, gi'.tn, gi'.fn, gi'.rn, fun y hy => gi'.ta y (by rw [hp]; exact hy), fun y hy => gi'.fa y (by rw [hp]; exact hy), fun y hy => ?_⟩ (by show (g.p.rl ++ [_]).length ≤ _; rw [List.length_append, List.length_singleton]; omega) S
        rcases List.mem_append.mp hy with hy | hy
        · exact gi'.ra y (by rw [hp]; exact hy)
        · rw [List.mem_singleton.mp hy]; exact hina
      · rw [locs_keys] at hb
        have hnk : a ∉ g.rk.map (·.1) := by simpa using hb
        have hemp : rulesAt g.p.rl a = [] := by
          rw [List.eq_nil_iff_forall_not_mem]
          exact fun t z => hnk (by have := gi.ra _ (mem_rulesAt.mp z).1; rw [(mem_rulesAt.mp z).2] at this; exact this)
        refine s_putL (κ := Seat) (E := ESeat) (k := a) (j := 5) S (fun p => fld rfl (List.mem_cons_of_mem _ List.mem_cons_self) G.nr rfl) (fun p => e_ixT1 (e_var (s := .dat (encRule (.push a l b))) rfl)) rfl (by rw [locs_keys]; exact hnk) (keys_small hU gi.rn gi.ru) fun p W S => ?_
        obtain ⟨k1, k2, k3, k4⟩ := keys_snoc (p := p) gi.rn gi.ru hnk hrU.1
        exact kk _ _ ⟨{ g with rk := g.rk ++ [(a, p)] }, rfl, ⟨gi.tu, gi.fu, k2, gi.tn, gi.fn, k1, gi.ta, gi.fa, fun y hy => k4 _ (gi.ra y hy)⟩, k3, S.perm (Mg_addR hemp)⟩
      · rw [locs_keys] at hb
        exact ⟨g, rfl, gi, by simpa using hb, S⟩
    | pop a l b =>
      refine s_if S (t_B (e_word2 (x := "pop") (b := false) (e_ixT0 (e_var (s := .dat (encRule (.pop a l b))) rfl)) (by decide +kernel) (by decide +kernel) (by decide +kernel))) (fun hb W S => nomatch hb) (fun _ W S => ?_)
      refine s_if S (t_B (e_word2 (x := "pop") (b := false) (e_ixT0 (e_var (s := .dat (encRule (.pop a l b))) rfl)) (by decide +kernel) (by decide +kernel) (by decide +kernel))) (fun hb W S => nomatch hb) (fun _ W S => ?_)
      refine q_whenK (fun σ W => ∃ g', g'.p = g.p ∧ GI U g' ∧ a ∈ g'.rk.map (·.1) ∧ Sta (cA P w K (rawM cg x dx)) Wz T' σ W [some (.loc x), some (.dat (.list (rs.map encRule))), some (.dat (encRule (.pop a l b)))] (Mg cg A g')) S
        (t_B (e_notInN (E := ESeat) (k := a) (j := 5) (e_ixT1 (e_var (s := .dat (encRule (.pop a l b))) rfl)) (fld rfl List.mem_cons_self G.nr rfl) rfl)) (fun σ W hj => ?_) (fun hb W S kk => ?_) (fun hb W S => ?_)
      · obtain ⟨g', hp, gi', hina, S⟩ := hj
        obtain ⟨ix, ax, hi⟩ := key_ix hina
        refine s_appG (j := g'.tk.length + (g'.fk.length + ix) + 7) S (e_atN (E := ESeat) (k := a) (j := 5) (fld rfl List.mem_cons_self G.nr rfl) (e_ixT1 (e_var (s := .dat (encRule (.pop a l b))) rfl)) rfl (locs_lookup gi'.rn hi)) (Mg_r hi) (e_var rfl) (by rw [List.length_map]; have := rulesAt_len (al := g'.p.rl) (s := a); rw [hp] at this ⊢; show _ < 16777216; omega) fun W S => ?_
        have e2 := inM_setR (r := (.pop a l b)) gi'.rn hi rfl
        have eM : (Mg cg A g').set (g'.tk.length + (g'.fk.length + ix) + 7) (ax, .lst ((rulesAt g'.p.rl a).map encRule ++ [encRule (.pop a l b)])) = Mg cg A { g' with p := initRule g.p (.pop a l b) } := by
          rw [← hp]
          unfold Mg
          show _ = _ :: _ :: _ :: _ :: _ :: _ :: _ :: inM { g' with p := { g'.p with rl := g'.p.rl ++ [(.pop a l b)] } }
          rw [← e2]
          rfl
        replace S := eM ▸ S
        refine next { g' with p := initRule g.p (.pop a l b) } rfl ⟨gi'.tu, gi'.fu, gi'.ru, gi'.tn, gi'.fn, gi'.rn, fun y hy => gi'.ta y (by rw [hp]; exact hy), fun y hy => gi'.fa y (by rw [hp]; exact hy), fun y hy => ?_⟩ (by show (g.p.rl ++ [_]).length ≤ _; rw [List.length_append, List.length_singleton]; omega) S
        rcases List.mem_append.mp hy with hy | hy
        · exact gi'.ra y (by rw [hp]; exact hy)
        · rw [List.mem_singleton.mp hy]; exact hina
      · rw [locs_keys] at hb
        have hnk : a ∉ g.rk.map (·.1) := by simpa using hb
        have hemp : rulesAt g.p.rl a = [] := by
          rw [List.eq_nil_iff_forall_not_mem]
          exact fun t z => hnk (by have := gi.ra _ (mem_rulesAt.mp z).1; rw [(mem_rulesAt.mp z).2] at this; exact this)
        refine s_putL (κ := Seat) (E := ESeat) (k := a) (j := 5) S (fun p => fld rfl (List.mem_cons_of_mem _ List.mem_cons_self) G.nr rfl) (fun p => e_ixT1 (e_var (s := .dat (encRule (.pop a l b))) rfl)) rfl (by rw [locs_keys]; exact hnk) (keys_small hU gi.rn gi.ru) fun p W S => ?_
        obtain ⟨k1, k2, k3, k4⟩ := keys_snoc (p := p) gi.rn gi.ru hnk hrU.1
        exact kk _ _ ⟨{ g with rk := g.rk ++ [(a, p)] }, rfl, ⟨gi.tu, gi.fu, k2, gi.tn, gi.fn, k1, gi.ta, gi.fa, fun y hy => k4 _ (gi.ra y hy)⟩, k3, S.perm (Mg_addR hemp)⟩
      · rw [locs_keys] at hb
        exact ⟨g, rfl, gi, by simpa using hb, S⟩
  · rw [List.take_length] at hI
    exact hq W A g eAx S.chg hI.1 hI.2.1 hI.2.2.2
end
end Dr
namespace Dr
open PySem PySem.Spec PyProof.Rows L2

section
variable {P : Program} {w : World} {K : PySem.W.Frag} {mg : Str → Option Value} {base : Heap} {f f1 f2 f3 f4 f5 f6 : Addr} {fd d1 d2 d3 d4 d5 d6 : FuncData} {aO aG cg : Addr} {C : Cn} {Γ : Ga} {M M' : Ms} {ta tb tc td te tk tv ty : TE} {W0 W : Wo} {T : Kn} {σ : L2.St} {s : Sv} {D : Ends} {tz tbd : TS} {d : PyData}
theorem isleast {rs : List Rule} {p : Pst} {r : Reader} (h : GInv rs p) (e : p.fr = []) (hr : IsRd p.al r) : IsLeast rs r :=
  ⟨hr.nde, hr.ndm, fun s => (hr.ends s).trans (ginv_done h e _ _), fun m => (hr.moves m).trans (ginv_done h e _ _)⟩
theorem q_make {Ma : Ms} {i : Nat} {t : TA} {E : XK} (rs : List Rule) (U : List Seat) (S : Sta (C0 P w K) W0 T σ W Γ []) (h : EvA (C0 P w K) Γ [] t [.dat (.list (rs.map encRule))]) (hU : U.length ≤ 1000) (hl : rs.length ≤ 1000000) (hin : ∀ r ∈ rs, r.inU U)
    (k : ∀ A g σ' W', GI U g → PI U g.p → g.p = initP rs → Sta (C0 P w K) W0 T σ' W' (Γ.set i (some (.loc A.self))) (Mg cg A g) → tz D σ' W'.H) : tSeq (tAsg (tMake cg (sp_init P w K cg) [] E t) (gName i)) tz D σ W.H :=
  h W0 T σ W S _ fun vs W1 l1 ok x dx hx hdx ne => by
    have S1 := S.le l1
    have S2 := S1.own (o := .own x) (m := .raw (.own x)) hdx upd_same
    have hx2 : (W1.put dx (.own x) (Wo.gfree hdx)).H x = none := by show upd W1.H dx _ x = none; rw [upd_ne (Ne.symm ne)]; exact hx
    have S3 := S2.own (o := .ins cg dx []) (m := .raw (.ins cg dx [])) hx2 upd_same
    rw [List.append_nil]
    have lle : Le W1 ((W1.put dx (.own x) (Wo.gfree hdx)).put x (.ins cg dx []) (Wo.gfree hx2)) := (Le.put hdx).trans (Le.put hx2)
    refine ⟨(W1.put dx (.own x) (Wo.gfree hdx)).put x (.ins cg dx []) (Wo.gfree hx2), x, dx, rs, U, rfl, .cons rfl (Svs.mono lle.gg ok), ⟨fun p hp => ⟨(S3.mu p hp).1, (S3.mu p hp).2.2⟩, S3.nd⟩, hU, hl, hin, fun W' A g eA c gi pi ep => ⟨rfl, ?_⟩⟩
    have S4 : Sta ⟨P, w, K, fun _ => False⟩ W0 T σ ((W1.put dx (.own x) (Wo.gfree hdx)).put x (.ins cg dx []) (Wo.gfree hx2)) Γ (rawM cg x dx ++ []) := by rw [List.append_nil]; exact S3
    have S5 := S4.after c
    rw [List.append_nil] at S5
    refine k A g _ W' gi pi ep ?_
    rw [eA]
    exact S5.set i (s := .loc x) rfl
theorem sc_least : FnScope ["rules", "growing"] ["rules"] (defScope s_least) := ⟨rfl, rfl, rfl, by decide +kernel, rfl, by decide +kernel, by decide +kernel⟩
theorem ok_least (G : Gc K cg) (m_Growing : mg "Growing" = some (.ref cg)) (mk_Growing : Mk K cg f1) (F_Growing : FnOk P w K mg base CX0 3 f1 d1 ["self", "rules"] (sp_init P w K cg)) (b_Growing : Binds K d1 ["self", "rules"] [])
    (me_grow : Meth K cg "grow" f2) (F_grow : FnOk P w K mg base CX0 3 f2 d2 ["self"] (sp_grow P w K cg)) (b_grow : Binds K d2 ["self"] []) (me_reader : Meth K cg "reader" f3) (F_reader : FnOk P w K mg base CX0 1 f3 d3 ["self"] (sp_reader P w K cg)) (b_reader : Binds K d3 ["self"] [])
    (F : FnP K "least" "least" s_least f fd) : FnOk P w K mg base CX0 6 f fd ["rules"] (sp_least P w K) := by
  have nd := sc_least.nd
  have cl := G.cl
  refine F.ok sc_least (fun vs H Q E h => SpR.len (n := 1) (fun _ => rfl) h) (fun cdv A outer s H vs Q E hr h => ⟨_, PSs.nox
    (pss_cons (ps_set (i := 1) nd rfl (Or.inl rfl) (pe_make mk_Growing F_Growing (hr.mono (by decide)) (by rfl) m_Growing b_Growing .nil pass0 (pa_cons (pv 0) pa_nil)))
    (pss_cons (ps_expr (pe_meth0 (pv 1) cl me_grow F_grow (hr.mono (by decide)) b_grow .nil pass0))
    (pss_one (ps_ret (pe_meth0 (pv 1) cl me_reader F_reader (hr.mono (by decide)) b_reader .nil pass0))))), ?_⟩)
  obtain ⟨Wz, rs, rfl, ok, hp, hq⟩ := h
  obtain ⟨hlen, U, hU, hin⟩ := hp
  have S := sta_start ["rules", "growing"] ok
  refine q_make (Ma := []) rs U S (a_cons (e_var rfl) a_nil) hU hlen hin fun A g σ W gi pi ep S => ?_
  refine s_meth0 (D := { nx := _, rt := _ }) (U, rs) S (e_var rfl) rfl a_nil ⟨hU, gi, pi, by rw [ep]; exact ginv_init rs, by rw [ep]; exact init_pp rs _ fun _ z => nomatch z⟩ fun W' g' hpost S => ?_
  obtain ⟨gg, hfr⟩ := hpost
  show tMeth cg "reader" (sp_reader P w K cg) [] _ (tVar 1) tNil σ W'.H Q
  unfold tMeth
  refine (e_var (C := C0 P w K) (i := 1) (s := .loc A.self) rfl) Wz _ σ W' S _ fun v W1 l1 hv => ?_
  have hv : v = .ref A.self := hv
  subst hv
  have S1 := S.le l1
  refine ⟨A.self, A.dx, flds A, rfl, (S1.mu _ List.mem_cons_self).2.2, rfl, ?_⟩
  refine ⟨W1, A, g', U, rfl, .cons rfl .nil, ⟨fun p hp => ⟨(S1.mu p hp).1, (S1.mu p hp).2.2⟩, S1.nd⟩, hU, gg.gi, gg.pi, fun W2 v r si hr ok => ?_⟩
  refine hq _ v W2 ?_ ⟨r, isleast gg.inv hfr hr, rfl⟩ ok
  refine ⟨fun b o hb => si.hh b o (fun hm => ?_) (S1.since.hh b o (fun h => h) hb), S1.since.gg.trans si.gg, fun b o hb => ?_⟩
  · obtain ⟨p, hp, e⟩ := List.mem_map.mp hm
    have := (S1.mu p hp).2.1.resolve_right fun h => h
    rw [e, hb] at this
    cases this
  · rcases si.nw b o hb with z | z
    · exact S1.since.nw b o z
    · exact .inr (S1.fresh0 z)
end
end Dr
namespace Dr
open PySem PySem.Spec PyProof.Rows L2

/-! readers read -/
def movesOf (r : Reader) (s : Seat) : List (Nat × Seat) := (r.moves.filter fun m => decide (m.1 = s)).map (·.2)
theorem mem_movesOf {r : Reader} {s : Seat} {x : Nat × Seat} : x ∈ movesOf r s ↔ (s, x) ∈ r.moves := by
  unfold movesOf
  rw [List.mem_map]
  constructor
  · rintro ⟨m, hm, e⟩
    obtain ⟨h1, h2⟩ := List.mem_filter.mp hm
    have := of_decide_eq_true h2
    obtain ⟨a, b⟩ := m
    subst this e
    exact h1
  · intro h
    exact ⟨(s, x), List.mem_filter.mpr ⟨h, decide_eq_true rfl⟩, rfl⟩
theorem movesOf_nodup {r : Reader} (h : r.moves.Nodup) (s : Seat) : (movesOf r s).Nodup := by
  unfold movesOf
  have h1 := h.sublist (List.filter_sublist (l := r.moves) (p := fun m => decide (m.1 = s)))
  have h2 : ∀ m ∈ r.moves.filter fun m => decide (m.1 = s), m.1 = s := fun m hm => of_decide_eq_true (List.mem_filter.mp hm).2
  revert h1 h2
  generalize r.moves.filter (fun m => decide (m.1 = s)) = xs
  intro h1 h2
  induction xs with
  | nil => exact List.nodup_nil
  | cons x xs ih =>
    rw [List.nodup_cons] at h1
    rw [List.map_cons, List.nodup_cons]
    refine ⟨fun z => ?_, ih h1.2 fun y hy => h2 y (List.mem_cons_of_mem _ hy)⟩
    obtain ⟨y, hy, e⟩ := List.mem_map.mp z
    have : y = x := Prod.ext ((h2 y (List.mem_cons_of_mem _ hy)).trans (h2 x List.mem_cons_self).symm) e
    exact h1.1 (this ▸ hy)
noncomputable def atMoves (r : Reader) (s : Seat) : List (Nat × Seat) := (srt_map (f := encLm) (movesOf r s)).choose
theorem atMoves_srt (r : Reader) (s : Seat) : srt ((movesOf r s).map encLm) = (atMoves r s).map encLm := (srt_map (f := encLm) (movesOf r s)).choose_spec.1
theorem atMoves_perm (r : Reader) (s : Seat) : (atMoves r s).Perm (movesOf r s) := (srt_map (f := encLm) (movesOf r s)).choose_spec.2
theorem mem_atMoves {r : Reader} {s : Seat} {x : Nat × Seat} : x ∈ atMoves r s ↔ (s, x) ∈ r.moves := (atMoves_perm r s).mem_iff.trans mem_movesOf
theorem fl_lm (m : Nat × Seat) : Fl 2 (encLm m) := fl_tup (fl2 (fl_int _) (fl_seat _))
theorem lm_can (xs : List (Nat × Seat)) : CanSort (xs.map encLm) := ⟨PySem.W.AllAlike.of fun a b => by simp [encLm, encSeat, PySem.W.alike, PySem.W.alikeAll], PySem.W.Sortable.tuples fun a => ⟨_, _, rfl⟩, fun d hd => by
  obtain ⟨a, _, rfl⟩ := List.mem_map.mp hd
  exact Nat.le_trans (fl_lm a).dp (by decide)⟩
noncomputable def encAt (r : Reader) (s : Seat) : PyData := .tuple [.bool (decide (s ∈ r.ends)), .list ((atMoves r s).map encLm)]
def encSt (x : Nat × Seat × Seat) : PyData := .tuple [.int (x.1 : Int), encSS x.2]
noncomputable def stepOf (r q : Reader) (x : Seat × Seat) : List (Nat × Seat × Seat) := (atMoves r x.1).flatMap fun a => ((atMoves q x.2).filter fun b => decide (b.1 = a.1)).map fun b => (a.1, a.2, b.2)
theorem mem_stepOf {r q : Reader} {x : Seat × Seat} {y : Nat × Seat × Seat} : y ∈ stepOf r q x ↔ (x.1, y.1, y.2.1) ∈ r.moves ∧ (x.2, y.1, y.2.2) ∈ q.moves := by
  unfold stepOf
  rw [List.mem_flatMap]
  constructor
  · rintro ⟨a, ha, h⟩
    obtain ⟨b, hb, e⟩ := List.mem_map.mp h
    obtain ⟨h1, h2⟩ := List.mem_filter.mp hb
    have h2 := of_decide_eq_true h2
    subst e
    refine ⟨mem_atMoves.mp ha, ?_⟩
    have := mem_atMoves.mp h1
    obtain ⟨b1, b2⟩ := b
    have h2 : b1 = a.1 := h2
    subst h2
    exact this
  · rintro ⟨h1, h2⟩
    exact ⟨(y.1, y.2.1), mem_atMoves.mpr h1, List.mem_map.mpr ⟨(y.1, y.2.2), List.mem_filter.mpr ⟨mem_atMoves.mpr h2, decide_eq_true rfl⟩, rfl⟩⟩
/-- targets of few kinds -/
structure Tame (r : Reader) (U : List (Nat × Seat)) : Prop where
  nd : r.moves.Nodup
  to : ∀ m ∈ r.moves, m.2 ∈ U
  len : r.moves.length ≤ 16000000
theorem Tame.at {r : Reader} {U : List (Nat × Seat)} (h : Tame r U) (s : Seat) : (atMoves r s).length ≤ U.length := by
  rw [(atMoves_perm r s).length_eq]
  exact nodup_len (movesOf_nodup h.nd s) fun x hx => h.to _ (mem_movesOf.mp hx)
theorem stepOf_len {r q : Reader} {U V : List (Nat × Seat)} (h : Tame r U) (k : Tame q V) (x : Seat × Seat) : (stepOf r q x).length ≤ U.length * V.length := by
  unfold stepOf
  refine Nat.le_trans (flat_len (n := V.length) fun a _ => ?_) (Nat.mul_le_mul_right _ (h.at x.1))
  rw [List.length_map]
  exact Nat.le_trans (List.length_filter_le ..) (k.at x.2)
section
variable {P : Program} {w : World} {K : PySem.W.Frag} {mg : Str → Option Value} {base : Heap} {f f1 f2 f3 f4 f5 f6 : Addr} {fd d1 d2 d3 d4 d5 d6 : FuncData} {aO aG cg : Addr} {C : Cn} {Γ : Ga} {M M' : Ms} {ta tb tc td te tk tv ty tl : TE} {W0 W : Wo} {T : Kn} {σ : L2.St} {s : Sv} {D : Ends} {tz tbd : TS} {d : PyData} {tt : TT}
/-- [e for (x, y, z) in l if t] -/
theorem q_lc3 {β : Type} {enc : β → PyData} {d1 d2 d3 : β → PyData} {xs : List β} {keep : β → Bool} {out : β → PyData} {i j k l : Nat} (hij : i ≠ j) (hik : i ≠ k) (hjk : j ≠ k) (he3 : ∀ x, enc x = .tuple [d1 x, d2 x, d3 x]) (S : Sta C W0 T σ W Γ M) (h : EvS C Γ M tl (.dat (.list (xs.map enc))))
    (ht : ∀ x M, x ∈ xs → EvT C ((((((Γ.set k none).set j none).set i none).set i (some (.dat (d1 x)))).set j (some (.dat (d2 x)))).set k (some (.dat (d3 x)))) M tt (keep x))
    (he : ∀ x M, x ∈ xs → keep x = true → EvS C ((((((Γ.set k none).set j none).set i none).set i (some (.dat (d1 x)))).set j (some (.dat (d2 x)))).set k (some (.dat (d3 x)))) M te (.dat (out x))) (hz : xs.length ≤ sizeLine)
    (kk : ∀ Dd σ' W', Sta C W0 T σ' W' (Γ.set l (some (.loc Dd))) ((Dd, .lst ((xs.filter keep).map out)) :: M) → tz D σ' W'.H) : tSeq (tAsg (tLc (iList C.K tl) (gTup C.K 3 (gCons (gName i) (gCons (gName j) (gCons (gName k) gNil)))) tt te [i, j, k]) (gName l)) tz D σ W.H := by
  refine lc_list (Q := fun v H => tz D (σ.set l (some v)) H) (vs := [i, j, k]) (Γw := ((Γ.set k none).set j none).set i none) (Γ2 := fun x => (((((Γ.set k none).set j none).set i none).set i (some (.dat (d1 x)))).set j (some (.dat (d2 x)))).set k (some (.dat (d3 x)))) S (h.at S) (fun T W M S => ((S.wipe1 k).wipe1 j).wipe1 i) (fun x T W M v Q S hv kq => ?_) ht he hz fun Dd W' S' => kk Dd _ W' (S'.set l (s := .loc Dd) rfl)
  rw [he3] at hv
  cases hv with
  | tup hs hall =>
    cases hall with
    | cons a1 r1 =>
      cases r1 with
      | cons a2 r2 =>
        cases r2 with
        | cons a3 r3 =>
          cases r3
          exact ⟨_, _, rfl, Same.seqT W.fz hs, rfl, _, _, rfl, _, _, rfl, _, _, rfl, rfl, kq _ (((S.set i (s := .dat (d1 x)) a1).set j (s := .dat (d2 x)) a2).set k (s := .dat (d3 x)) a3) (wipe3 hij hik hjk)⟩
theorem e_rd1 {r : Reader} (h : EvS C Γ M ta (.dat (encReader r))) : EvS C Γ M (tOp (rIx C.K) ta (tC (.int 1))) (.dat (.list (r.moves.map encMove))) := e_ixT1 h
theorem e_rd0 {r : Reader} (h : EvS C Γ M ta (.dat (encReader r))) : EvS C Γ M (tOp (rIx C.K) ta (tC (.int 0))) (.dat (.list (r.ends.map encSeat))) := e_ixT0 h
theorem eqv_seat (a b : Seat) : PyData.eqv (encSeat a) (encSeat b) = decide (a = b) := by
  obtain ⟨a1, a2, a3⟩ := a
  obtain ⟨b1, b2, b3⟩ := b
  have h1 : PyData.eqv (encSeat ⟨a1, a2, a3⟩) (encSeat ⟨b1, b2, b3⟩) = (((a1 : Int) == (b1 : Int)) && (((a2 : Int) == (b2 : Int)) && (a3.1 == b3.1))) := by
    simp [encSeat, PyData.eqv, PyData.eqvAll]
  rw [h1, nm_dec]
  by_cases e1 : a1 = b1 <;> by_cases e2 : a2 = b2 <;> by_cases e3 : a3 = b3 <;> simp [e1, e2, e3] <;> (intros; omega)
theorem any_seat (xs : List Seat) (s : Seat) : ((xs.map encSeat).any fun z => PyData.eqv z (encSeat s)) = decide (s ∈ xs) := by
  induction xs with
  | nil => rfl
  | cons x xs ih =>
    rw [List.map_cons, List.any_cons, ih, eqv_seat]
    by_cases e : x = s
    · subst e; simp
    · have : ¬ s = x := fun z => e z.symm
      simp [e, this]
abbrev sp_at_seat (P : Program) (w : World) (K : PySem.W.Frag) : Sp := SpF (C0 P w K) (α := Reader × Seat) (fun a => [.dat (encReader a.1), .dat (encSeat a.2)]) (fun a => a.1.moves.length ≤ 16000000) (fun a => .dat (encAt a.1 a.2))
theorem sc_at_seat : FnScope ["reader", "seat", "moves", "one", "letter", "other"] ["reader", "seat"] (defScope s_at_seat) := ⟨rfl, rfl, rfl, by decide +kernel, rfl, by decide +kernel, by decide +kernel⟩
theorem ok_at_seat (T : Txt K mg aO aG) (F : FnP K "at_seat" "at_seat" s_at_seat f fd) : FnOk P w K mg base CX0 1 f fd ["reader", "seat"] (sp_at_seat P w K) := by
  have nd := sc_at_seat.nd
  have tx := T
  refine F.ok sc_at_seat (fun vs H Q E h => SpF.len (n := 2) (fun _ => rfl) h) (fun cdv A outer s H vs Q E hr h => ⟨_, PSs.nox
    (pss_cons (ps_setLc (i := 2) (own := [("one", 3), ("letter", 4), ("other", 5)]) rfl nd rfl rfl (sw_true rfl rfl rfl (by decide +kernel)) (pi_list (pe_ix ix_seq (pv 0) pe_int (fun _ _ => rfl))) (blkOk_by (own := [("one", 3), ("letter", 4), ("other", 5)]) (N := ["reader", "seat", "moves", "one", "letter", "other"]) (sc := defScope s_at_seat) (by decide +kernel)) (fun _ _ _ _ _ => (show PG _ _ (gTup K 3 (gCons (gName 3) (gCons (gName 4) (gCons (gName 5) gNil)))) from (pg_tup rfl (pgs_cons (pg_name (i := 3) nd rfl (Or.inl rfl)) (pgs_cons (pg_name (i := 4) nd rfl (Or.inl rfl)) (pgs_cons (pg_name (i := 5) nd rfl (Or.inl rfl)) pgs_nil)))))) (fun _ _ _ _ _ => (pts_one (pt_cmpR (r := rEqD K) (op_eqD hr.units) (pv 3) (pv 1) (nomark _)))) (fun _ _ _ _ _ => (pe_tup (pa_cons (pv 4) (pa_cons (pv 5) pa_nil)))))
    (pss_one (ps_ret (pe_tup (pa_cons (pe_cmpR (op_inD hr.units65) (pv 1) (pe_ix ix_seq (pv 0) pe_int (fun _ _ => rfl)) (by rfl)) (pa_cons (pe_callB (cr_sortedD hr.units) (by rfl) tx.sorted (by decide +kernel) (pa_cons (pv 2) pa_nil)) pa_nil)))))), ?_⟩)
  obtain ⟨Wz, ⟨r, seat⟩, rfl, ok, hp, hq⟩ := h
  have hp : r.moves.length ≤ 16000000 := hp
  have S := sta_start ["reader", "seat", "moves", "one", "letter", "other"] ok
  refine q_lc3 (C := C0 P w K) (enc := encMove) (d1 := fun m => encSeat m.1) (d2 := fun m => .int (m.2.1 : Int)) (d3 := fun m => encSeat m.2.2) (xs := r.moves) (keep := fun m => decide (m.1 = seat)) (out := fun m => encLm m.2) (by decide) (by decide) (by decide) (fun x => rfl) S (e_rd1 (e_var rfl))
    (fun x M hx => t_B ((e_eq (e_var (s := .dat (encSeat x.1)) rfl) (e_var (s := .dat (encSeat seat)) rfl) (fl_seat _).flat (fl_seat _).flat).to (by rw [eqv_seat]))) (fun x M hx hk => e_tup (ds := [.int (x.2.1 : Int), encSeat x.2.2]) (a_cons (e_var rfl) (a_cons (e_var rfl) a_nil)) (by show 2 ≤ 1000; decide)) (Nat.le_trans hp (by decide)) fun Dd σ W S => ?_
  have e1 : (r.moves.filter fun m => decide (m.1 = seat)).map (fun m => encLm m.2) = (movesOf r seat).map encLm := by unfold movesOf; rw [List.map_map]; rfl
  rw [e1] at S
  refine s_ret S (e_tup (ds := [.bool (decide (seat ∈ r.ends)), .list ((atMoves r seat).map encLm)]) (a_cons ((e_inD (e_var rfl) (e_rd0 (e_var rfl)) (fl_seat _).flat (fl_list (fl_map fl_seat _)).flat).to (by rw [any_seat])) (a_cons ((e_sortedO (j := 0) rfl rfl (lm_can _)).to (by rw [atMoves_srt])) a_nil)) (by show 2 ≤ 1000; decide)) fun v W' si ok => ?_
  exact hq v W' (si.lep fun _ h => h) ok
theorem e_at0 {r : Reader} {s : Seat} (h : EvS C Γ M ta (.dat (encAt r s))) : EvS C Γ M (tOp (rIx C.K) ta (tC (.int 0))) (.dat (.bool (decide (s ∈ r.ends)))) := e_ixT0 h
theorem e_at1 {r : Reader} {s : Seat} (h : EvS C Γ M ta (.dat (encAt r s))) : EvS C Γ M (tOp (rIx C.K) ta (tC (.int 1))) (.dat (.list ((atMoves r s).map encLm))) := e_ixT1 h
theorem e_ss0 {x : Seat × Seat} (h : EvS C Γ M ta (.dat (encSS x))) : EvS C Γ M (tOp (rIx C.K) ta (tC (.int 0))) (.dat (encSeat x.1)) := e_ixT0 h
theorem e_ss1 {x : Seat × Seat} (h : EvS C Γ M ta (.dat (encSS x))) : EvS C Γ M (tOp (rIx C.K) ta (tC (.int 1))) (.dat (encSeat x.2)) := e_ixT1 h
abbrev sp_stepped (P : Program) (w : World) (K : PySem.W.Frag) : Sp := SpF (C0 P w K) (α := Reader × Reader × (Seat × Seat)) (fun a => [.dat (encReader a.1), .dat (encReader a.2.1), .dat (encSS a.2.2)]) (fun a => ∃ U V, Tame a.1 U ∧ Tame a.2.1 V ∧ U.length * V.length ≤ 4000) (fun a => .dat (.list ((stepOf a.1 a.2.1 a.2.2).map encSt)))
theorem sc_stepped : FnScope ["one", "other", "pair", "found", "moves", "letter", "seat", "sign", "place"] ["one", "other", "pair"] (defScope s_stepped) := ⟨rfl, rfl, rfl, by decide +kernel, rfl, by decide +kernel, by decide +kernel⟩
theorem ok_stepped (c_at_seat : Cal P w K mg base 1 "at_seat" ["reader", "seat"] (sp_at_seat P w K) f1 d1) (F : FnP K "stepped" "stepped" s_stepped f fd) : FnOk P w K mg base CX0 2 f fd ["one", "other", "pair"] (sp_stepped P w K) := by
  have nd := sc_stepped.nd
  refine F.ok sc_stepped (fun vs H Q E h => SpF.len (n := 3) (fun _ => rfl) h) (fun cdv A outer s H vs Q E hr h => ⟨_, PSs.nox
    (pss_cons (ps_set (i := 3) nd rfl (Or.inl rfl) (pe_lst pa_nil))
    (pss_cons (ps_set (i := 4) nd rfl (Or.inl rfl) (pe_ix ix_seq (pe_call c_at_seat.F (hr.mono (by decide)) (by rfl) c_at_seat.m c_at_seat.k c_at_seat.b .nil pass0 (pa_cons (pv 1) (pa_cons (pe_ix ix_seq (pv 2) pe_int (fun _ _ => rfl)) pa_nil))) pe_int (fun _ _ => rfl)))
    (pss_cons (ps_for PassesOwn.never rfl (pi_list (pe_ix ix_seq (pe_call c_at_seat.F (hr.mono (by decide)) (by rfl) c_at_seat.m c_at_seat.k c_at_seat.b .nil pass0 (pa_cons (pv 0) (pa_cons (pe_ix ix_seq (pv 2) pe_int (fun _ _ => rfl)) pa_nil))) pe_int (fun _ _ => rfl))) (pg_tup rfl (pgs_cons (pg_name (i := 5) nd rfl (Or.inl rfl)) (pgs_cons (pg_name (i := 6) nd rfl (Or.inl rfl)) pgs_nil))) (pss_one (ps_for PassesOwn.never rfl (pi_list (pv 4)) (pg_tup rfl (pgs_cons (pg_name (i := 7) nd rfl (Or.inl rfl)) (pgs_cons (pg_name (i := 8) nd rfl (Or.inl rfl)) pgs_nil))) (pss_one (ps_if (pt_cmpR (op_eqD hr.units) (pv 7) (pv 5) (nomark _)) (pss_one (ps_expr (pe_bm PySem.F.plainAttrs_list PySem.F.slot_list_append PySem.F.type_list_append mt_append (pv 3) (pa_cons (pe_tup (pa_cons (pv 5) (pa_cons (pe_tup (pa_cons (pv 6) (pa_cons (pv 8) pa_nil))) pa_nil))) pa_nil)))) pss_nil)))))
    (pss_one (ps_ret (pv 3)))))), ?_⟩)
  obtain ⟨Wz, ⟨r, q, x⟩, rfl, ok, ⟨U, V, tu, tv, hUV⟩, hq⟩ := h
  have tu : Tame r U := tu
  have tv : Tame q V := tv
  have S := sta_start ["one", "other", "pair", "found", "moves", "letter", "seat", "sign", "place"] ok
  have hlen := stepOf_len tu tv x
  refine q_newL S fun l σ W S => ?_
  refine q_set S (e_at1 (e_call (q, x.2) (a_cons (e_var rfl) (a_cons (e_ss1 (x := x) (e_var rfl)) a_nil)) tv.len)) fun σ W S => ?_
  refine q_forL (C := C0 P w K) (xs := atMoves r x.1) encLm (fun _ : List (Nat × Seat × Seat) => [some (.dat (encReader r)), some (.dat (encReader q)), some (.dat (encSS x)), some (.loc l), some (.dat (.list ((atMoves q x.2).map encLm))), none, none, none, none]) (fun a => [(l, .lst (a.map encSt))])
    (fun i a => a = ((atMoves r x.1).take i).flatMap fun a => ((atMoves q x.2).filter fun b => decide (b.1 = a.1)).map fun b => (a.1, a.2, b.2)) [] S (e_at1 (e_call (r, x.1) (a_cons (e_var rfl) (a_cons (e_ss0 (x := x) (e_var rfl)) a_nil)) tu.len)) (fun σ W S => S) rfl (fun x => g_tup2) (fun i a m T' σ W hm hI S => ?_) (fun a σ W hI S => ?_)
  · have hI1 : a ++ ((atMoves q x.2).filter fun b => decide (b.1 = m.1)).map (fun b => (m.1, m.2, b.2)) = ((atMoves r x.1).take (i + 1)).flatMap fun a => ((atMoves q x.2).filter fun b => decide (b.1 = a.1)).map fun b => (a.1, a.2, b.2) := by rw [flat_take hm, hI]
    have hb : a.length + (((atMoves q x.2).filter fun b => decide (b.1 = m.1)).map (fun b => (m.1, m.2, b.2))).length ≤ 4000 := by
      have := congrArg List.length hI1
      rw [List.length_append] at this
      rw [this]
      have e : stepOf r q x = ((atMoves r x.1).take (i + 1)).flatMap (fun a => ((atMoves q x.2).filter fun b => decide (b.1 = a.1)).map fun b => (a.1, a.2, b.2)) ++ ((atMoves r x.1).drop (i + 1)).flatMap (fun a => ((atMoves q x.2).filter fun b => decide (b.1 = a.1)).map fun b => (a.1, a.2, b.2)) := by
        rw [← List.flatMap_append, List.take_append_drop]
        rfl
      have := congrArg List.length e
      rw [List.length_append] at this
      omega
    refine s_forL (C := C0 P w K) (xs := atMoves q x.2) encLm (fun _ : List (Nat × Seat × Seat) => [some (.dat (encReader r)), some (.dat (encReader q)), some (.dat (encSS x)), some (.loc l), some (.dat (.list ((atMoves q x.2).map encLm))), some (.dat (.int (m.1 : Int))), some (.dat (encSeat m.2)), none, none]) (fun a => [(l, .lst (a.map encSt))])
      (fun j b => b = a ++ (((atMoves q x.2).take j).filter fun b => decide (b.1 = m.1)).map fun b => (m.1, m.2, b.2)) a S (e_var rfl) (fun σ W S => S) (by simp) (fun x => g_tup2) (fun j b n T' σ W hn hJ S => ?_) (fun b σ W hJ S => ?_)
    · have hbl : b.length ≤ 8000 := by
        rw [hJ, List.length_append, List.length_map]
        have h1 := List.length_filter_le (fun b : Nat × Seat => decide (b.1 = m.1)) ((atMoves q x.2).take j)
        rw [List.length_take] at h1
        have h2 := tv.at x.2
        have h3 : 1 ≤ U.length := by
          have h4 := tu.at x.1
          have := (List.getElem?_eq_some_iff.mp hm).1
          omega
        have h5 : V.length ≤ U.length * V.length := Nat.le_mul_of_pos_left _ h3
        omega
      refine s_when S (t_B (e_eqI (i := n.1) (j := m.1) (e_var rfl) (e_var rfl))) (fun hb W S => ?_) (fun hb W S => ?_)
      · refine s_app (j := 0) S rfl rfl (e_tup (ds := [.int (m.1 : Int), encSS (m.2, n.2)]) (a_cons (e_var rfl) (a_cons (e_ss (a := m.2) (b := n.2) (e_var rfl) (e_var rfl)) a_nil)) (by show 2 ≤ 1000; decide)) (by rw [List.length_map]; show b.length < 16777216; omega) fun W S => ?_
        rw [show b.map encSt ++ [.tuple [.int (m.1 : Int), encSS (m.2, n.2)]] = (b ++ [(m.1, m.2, n.2)]).map encSt by rw [List.map_append]; rfl] at S
        refine At.mk (b ++ [(m.1, m.2, n.2)]) ?_ S.w
        rw [take_succ_at hn, List.filter_append, List.map_append, hJ, List.append_assoc]
        congr 2
        rw [List.filter_cons, if_pos hb]
        rfl
      · refine At.mk b ?_ S.w
        rw [take_succ_at hn, List.filter_append, List.map_append, hJ]
        have : List.filter (fun b : Nat × Seat => decide (b.1 = m.1)) [n] = [] := by rw [List.filter_cons, if_neg (by rw [hb]; decide)]; rfl
        rw [this, List.map_nil, List.append_nil]
    · rw [List.take_length] at hJ
      refine At.mk b ?_ S.w
      rw [← hI1]; exact hJ
  · rw [List.take_length] at hI
    refine s_retO (j := 0) S rfl rfl (fun h => h) fun v W' si ok => ?_
    refine hq v W' (si.lep fun _ h => h) ?_
    rw [hI] at ok
    exact ok
end
end Dr
namespace Dr
open PySem PySem.Spec PyProof.Rows L2

/-! meets -/
inductive PReach (r q : Reader) (x0 : Seat × Seat) : Seat × Seat → Prop
  | start : PReach r q x0 x0
  | step {x : Seat × Seat} {l : Nat} {a b : Seat} : PReach r q x0 x → (x.1, l, a) ∈ r.moves → (x.2, l, b) ∈ q.moves → PReach r q x0 (a, b)
def Both (r q : Reader) (x : Seat × Seat) : Prop := x.1 ∈ r.ends ∧ x.2 ∈ q.ends
def Goal (r q : Reader) (x0 : Seat × Seat) : Prop := ∃ x, PReach r q x0 x ∧ Both r q x
abbrev PB := List Nat × (Seat × Seat)
def encPB (y : PB) : PyData := .tuple [.list (y.1.map encI), encSS y.2]
theorem fl_pb (y : PB) : Fl 3 (encPB y) := fl_tup (fl2 ((fl_list (n := 1) (fl_map (fun n => fl_int _) _))) (fl_ss _))
theorem alike_encI (xs ys : List Nat) : PySem.W.alikeAll (xs.map encI) (ys.map encI) = true := by
  have := PySem.W.alike_ints (xs.map fun n : Nat => (n : Int)) (ys.map fun n : Nat => (n : Int))
  rw [List.map_map, List.map_map] at this
  exact this
theorem pb_can (xs : List PB) : CanSort (xs.map encPB) := ⟨PySem.W.AllAlike.of fun a b => by simp [encPB, encSS, encSeat, PySem.W.alike, PySem.W.alikeAll, alike_encI], PySem.W.Sortable.tuples fun a => ⟨_, _, rfl⟩, fun d hd => by
  obtain ⟨a, _, rfl⟩ := List.mem_map.mp hd
  exact Nat.le_trans (fl_pb a).dp (by decide)⟩
noncomputable def behindOf (r q : Reader) (y : PB) : List PB := (stepOf r q y.2).map fun z => (y.1 ++ [z.1], z.2)
structure MI (r q : Reader) (x0 : Seat × Seat) (known : List (Seat × Seat)) (layer : List PB) : Prop where
  nd : known.Nodup
  lnd : (layer.map (·.2)).Nodup
  reach : ∀ x ∈ known, PReach r q x0 x
  sub : ∀ y ∈ layer, y.2 ∈ known
  st : x0 ∈ known
  done : ∀ x ∈ known, x ∉ layer.map (·.2) → ¬ Both r q x ∧ ∀ z ∈ stepOf r q x, z.2 ∈ known
  path : ∀ y ∈ layer, y.1.length ≤ known.length
theorem reach_in {r q : Reader} {U V : List (Nat × Seat)} (tu : Tame r U) (tv : Tame q V) {x0 x : Seat × Seat} (h : PReach r q x0 x) : x ∈ x0 :: (U.map (·.2)).flatMap fun a => (V.map (·.2)).map fun b => (a, b) := by
  cases h with
  | start => exact List.mem_cons_self
  | @step x l a b _ h1 h2 =>
    refine List.mem_cons_of_mem _ (List.mem_flatMap.mpr ⟨a, List.mem_map.mpr ⟨_, tu.to _ h1, rfl⟩, List.mem_map.mpr ⟨b, List.mem_map.mpr ⟨_, tv.to _ h2, rfl⟩, rfl⟩⟩)
theorem known_len {r q : Reader} {U V : List (Nat × Seat)} (tu : Tame r U) (tv : Tame q V) (hUV : U.length * V.length ≤ 4000) {x0 : Seat × Seat} {known : List (Seat × Seat)} (nd : known.Nodup) (hr : ∀ x ∈ known, PReach r q x0 x) : known.length ≤ 4001 := by
  refine Nat.le_trans (nodup_len nd fun x hx => reach_in tu tv (hr x hx)) ?_
  rw [List.length_cons]
  have := flat_len (f := fun a => (V.map (·.2)).map fun b => (a, b)) (n := V.length) (xs := U.map (·.2)) fun a _ => by rw [List.length_map, List.length_map]; exact Nat.le_refl _
  rw [List.length_map] at this
  omega
theorem no_goal {r q : Reader} {x0 : Seat × Seat} {known : List (Seat × Seat)} (m : MI r q x0 known []) : ¬ Goal r q x0 := by
  rintro ⟨x, hx, hb⟩
  have : x ∈ known := by
    clear hb
    induction hx with
    | start => exact m.st
    | @step x l a b _ h1 h2 ih => exact (m.done x ih (fun z => nomatch z)).2 (l, a, b) (mem_stepOf.mpr ⟨h1, h2⟩)
  exact (m.done x this (fun z => nomatch z)).1 hb
section
variable {P : Program} {w : World} {K : PySem.W.Frag} {mg : Str → Option Value} {base : Heap} {f f1 f2 f3 f4 f5 f6 : Addr} {fd d1 d2 d3 d4 d5 d6 : FuncData} {aO aG cg : Addr} {C : Cn} {Γ : Ga} {M M' : Ms} {ta tb tc td te tk tv ty tl : TE} {W0 W : Wo} {T : Kn} {σ : L2.St} {s : Sv} {D : Ends} {tz tbd : TS} {d : PyData} {tt : TT}
theorem q_disp {κ : Type} [DecidableEq κ] {E : Enc κ} {k : κ} {i : Nat} (S : Sta C W0 T σ W Γ M) (hk : ∀ M', EvS C Γ M' tk (.dat (E.d k))) (q : ∀ l σ' W', Sta C W0 T σ' W' (Γ.set i (some (.loc l))) ((l, .dct κ E [(k, .dat (.bool true))] none) :: M) → tz D σ' W'.H) : tSeq (tAsg (tDispN E C.P C.w C.K tk (tC (.bl true))) (gName i)) tz D σ W.H := fun p hp => by
  have S1 := S.own (o := dX p dEmpty) (m := .raw (dX p dEmpty)) hp upd_same
  refine hk _ W0 T σ _ S1 _ fun x W2 l2 hx => ?_
  have S2 := S1.le l2
  obtain ⟨g, _, h⟩ := S2.mu _ List.mem_cons_self
  refine ⟨h, k, W2.G, W2.fz, Da.dp _ _ hx, fun ob hob => ?_⟩
  have S3 := S2.change (j := 0) (m' := .dct κ E [(k, .dat (.bool true))] none) rfl g ⟨_, hob, .cons ⟨rfl, .bl true⟩ .nil, fun _ z => nomatch z⟩
  exact q p _ (W2.put p (dX p ob) g) (S3.set i (s := .loc p) rfl)
abbrev sp_meets (P : Program) (w : World) (K : PySem.W.Frag) : Sp := SpR (C0 P w K) (α := (Reader × Reader) × (Seat × Seat)) (fun a => [.dat (encReader a.1.1), .dat (encSeat a.2.1), .dat (encReader a.1.2), .dat (encSeat a.2.2)])
  (fun a => ∃ U V, Tame a.1.1 U ∧ Tame a.1.2 V ∧ U.length * V.length ≤ 4000) (fun a s => (∃ ds : List Nat, s = .dat (.list (ds.map encI)) ∧ Goal a.1.1 a.1.2 a.2) ∨ (s = .dat .none ∧ ¬ Goal a.1.1 a.1.2 a.2))
theorem sc_meets : FnScope ["one", "seat", "other", "other_seat", "known", "layer", "behind", "path", "pair", "letter", "step"] ["one", "seat", "other", "other_seat"] (defScope s_meets) := ⟨rfl, rfl, rfl, by decide +kernel, rfl, by decide +kernel, by decide +kernel⟩
theorem ok_meets (T : Txt K mg aO aG) (c_at_seat : Cal P w K mg base 1 "at_seat" ["reader", "seat"] (sp_at_seat P w K) f1 d1) (c_stepped : Cal P w K mg base 2 "stepped" ["one", "other", "pair"] (sp_stepped P w K) f2 d2) (F : FnP K "meets" "meets" s_meets f fd) : FnOk P w K mg base CX0 3 f fd ["one", "seat", "other", "other_seat"] (sp_meets P w K) := by
  have nd := sc_meets.nd
  have tx := T
  refine F.ok sc_meets (fun vs H Q E h => SpR.len (n := 4) (fun _ => rfl) h) (fun cdv A outer s H vs Q E hr h => ⟨_, PSs.nox
    (pss_cons (ps_set (i := 4) nd rfl (Or.inl rfl) (pe_dispN ESS hr.units (pe_tup (pa_cons (pv 1) (pa_cons (pv 3) pa_nil))) pe_bl))
    (pss_cons (ps_set (i := 5) nd rfl (Or.inl rfl) (pe_lst (pa_cons (pe_tup (pa_cons (pe_lst pa_nil) (pa_cons (pe_tup (pa_cons (pv 1) (pa_cons (pv 3) pa_nil))) pa_nil))) pa_nil)))
    (pss_cons (ps_while PassesOwn.never (pt_cmpR (op_neD hr.units) (pv 5) (pe_lst pa_nil) (nomark _)) (pss_cons (ps_set (i := 6) nd rfl (Or.inl rfl) (pe_lst pa_nil))
    (pss_cons (ps_for PassesOwn.never rfl (pi_list (pv 5)) (pg_tup rfl (pgs_cons (pg_name (i := 7) nd rfl (Or.inl rfl)) (pgs_cons (pg_name (i := 8) nd rfl (Or.inl rfl)) pgs_nil))) (pss_one (ps_if (PW.pt (pw_and (pt_val (pe_ix ix_seq (pe_call c_at_seat.F (hr.mono (by decide)) (by rfl) c_at_seat.m c_at_seat.k c_at_seat.b .nil pass0 (pa_cons (pv 0) (pa_cons (pe_ix ix_seq (pv 8) pe_int (fun _ _ => rfl)) pa_nil))) pe_int (fun _ _ => rfl))) (pw_and1 (pt_val (pe_ix ix_seq (pe_call c_at_seat.F (hr.mono (by decide)) (by rfl) c_at_seat.m c_at_seat.k c_at_seat.b .nil pass0 (pa_cons (pv 2) (pa_cons (pe_ix ix_seq (pv 8) pe_int (fun _ _ => rfl)) pa_nil))) pe_int (fun _ _ => rfl)))))) (pss_one (ps_ret (pv 7))) pss_nil)))
    (pss_cons (ps_for PassesOwn.never rfl (pi_list (pv 5)) (pg_tup rfl (pgs_cons (pg_name (i := 7) nd rfl (Or.inl rfl)) (pgs_cons (pg_name (i := 8) nd rfl (Or.inl rfl)) pgs_nil))) (pss_one (ps_for PassesOwn.never rfl (pi_list (pe_call c_stepped.F (hr.mono (by decide)) (by rfl) c_stepped.m c_stepped.k c_stepped.b .nil pass0 (pa_cons (pv 0) (pa_cons (pv 2) (pa_cons (pv 8) pa_nil))))) (pg_tup rfl (pgs_cons (pg_name (i := 9) nd rfl (Or.inl rfl)) (pgs_cons (pg_name (i := 10) nd rfl (Or.inl rfl)) pgs_nil))) (pss_one (ps_expr (pe_bm PySem.F.plainAttrs_list PySem.F.slot_list_append PySem.F.type_list_append mt_append (pv 6) (pa_cons (pe_tup (pa_cons (pe_op op_cat (pv 7) (pe_lst (pa_cons (pv 9) pa_nil))) (pa_cons (pv 10) pa_nil))) pa_nil)))))))
    (pss_cons (ps_set (i := 5) nd rfl (Or.inl rfl) (pe_lst pa_nil))
    (pss_one (ps_for PassesOwn.never rfl (pi_list (pe_callB (cr_sortedD hr.units) (by rfl) tx.sorted (by decide +kernel) (pa_cons (pv 6) pa_nil))) (pg_tup rfl (pgs_cons (pg_name (i := 7) nd rfl (Or.inl rfl)) (pgs_cons (pg_name (i := 8) nd rfl (Or.inl rfl)) pgs_nil))) (pss_one (ps_if (pt_cmpR (op_notInN ESS hr.units) (pv 8) (pv 4) (by rfl)) (pss_cons (ps_asg pe_bl (pg_sub (pv 4) (pv 8) (set_N ESS hr.units)))
    (pss_one (ps_expr (pe_bm PySem.F.plainAttrs_list PySem.F.slot_list_append PySem.F.type_list_append mt_append (pv 5) (pa_cons (pe_tup (pa_cons (pv 7) (pa_cons (pv 8) pa_nil))) pa_nil))))) pss_nil)))))))))
    (pss_one (ps_ret pe_non))))), ?_⟩)
  obtain ⟨Wz, ⟨⟨r, q⟩, x0⟩, rfl, ok, ⟨U, V, tu, tv, hUV⟩, hq⟩ := h
  have tu : Tame r U := tu
  have tv : Tame q V := tv
  have S := sta_start ["one", "seat", "other", "other_seat", "known", "layer", "behind", "path", "pair", "letter", "step"] ok
  refine q_disp (E := ESS) (k := x0) S (fun M => e_ss (a := x0.1) (b := x0.2) (e_var rfl) (e_var rfl)) fun lk σ W S => ?_
  refine q_newLs (ds := [encPB ([], x0)]) S (a_cons (e_tup (ds := [.list [], encSS x0]) (a_cons e_lst0 (a_cons (e_ss (a := x0.1) (b := x0.2) (e_var rfl) (e_var rfl)) a_nil)) (by show 2 ≤ 1000; decide)) a_nil) (by show 1 ≤ 1000; decide) fun ll σ W S => ?_
  refine q_while (C := C0 P w K) (fun a : Addr × List (Seat × Seat) × List PB => [some (.dat (encReader r)), some (.dat (encSeat x0.1)), some (.dat (encReader q)), some (.dat (encSeat x0.2)), some (.loc lk), some (.loc a.1), none, none, none, none, none])
    (fun a => [(a.1, .lst (a.2.2.map encPB)), (lk, .dct (Seat × Seat) ESS (a.2.1.map fun x => (x, .dat (.bool true))) none)]) (fun a => MI r q x0 a.2.1 a.2.2) (fun a => 2 * (4002 - a.2.1.length) + (if a.2.2 = [] then 0 else 1)) (ll, [x0], [([], x0)]) S (fun σ W S => S)
    ⟨by simp, by simp, fun x hx => (List.mem_singleton.mp hx) ▸ .start, fun y hy => by rw [List.mem_singleton.mp hy]; exact List.mem_singleton_self _, List.mem_singleton_self _, fun x hx hn => absurd (by rw [List.mem_singleton.mp hx]; exact List.mem_singleton_self _) hn, fun y hy => by rw [List.mem_singleton.mp hy]; exact Nat.zero_le _⟩ fun ⟨la, known, layer⟩ mi => ?_
  dsimp only at mi ⊢
  have kl := known_len tu tv hUV mi.nd mi.reach
  have lyl : layer.length ≤ 4001 := by
    have := nodup_len mi.lnd (b := known) fun x hx => by obtain ⟨y, hy, e⟩ := List.mem_map.mp hx; exact e ▸ mi.sub y hy
    rw [List.length_map] at this
    omega
  refine ⟨_, t_B (e_nev (v_own (j := 0) rfl rfl) e_lst0.v (fl_list (fl_map fl_pb _)).flat (fl_list (n := 3) (ds := []) (fun d h => nomatch h)).flat), fun hb σ W S => ?_, fun hb σ W S => ?_⟩
  · rw [eqv_nil] at hb
    have hne : layer ≠ [] := fun e => by rw [e] at hb; cases hb
    refine q_newL S fun lb σ W S => ?_
    -- is it met?
    refine q_forO (C := C0 P w K) (xs := layer) encPB (fun _ : Unit => [some (.dat (encReader r)), some (.dat (encSeat x0.1)), some (.dat (encReader q)), some (.dat (encSeat x0.2)), some (.loc lk), some (.loc la), some (.loc lb), none, none, none, none])
      (fun _ => [(lb, .lst []), (la, .lst (layer.map encPB)), (lk, .dct (Seat × Seat) ESS (known.map fun x => (x, .dat (.bool true))) none)]) (fun i _ => ∀ y ∈ layer.take i, ¬ Both r q y.2) () S rfl (fun _ => ⟨1, rfl⟩) (fun σ W S => S) (fun y hy => by simp at hy) (fun x => g_tup2) (fun i a y σ W hy hI S => ?_) (fun _ σ W hI S => ?_)
    · refine s_when S (t_and (t_B (e_at0 (e_call (r, y.2.1) (a_cons (e_var rfl) (a_cons (e_ss0 (x := y.2) (e_var rfl)) a_nil)) tu.len))) fun _ => t_B (e_at0 (e_call (q, y.2.2) (a_cons (e_var rfl) (a_cons (e_ss1 (x := y.2) (e_var rfl)) a_nil)) tv.len))) (fun hb W S => ?_) (fun hb W S => ?_)
      · rw [Bool.and_eq_true, decide_eq_true_eq, decide_eq_true_eq] at hb
        refine s_ret S (e_var (s := .dat (.list (y.1.map encI))) rfl) fun v W' si ok => ?_
        exact hq _ v W' (si.lep fun _ h => h) (.inl ⟨y.1, rfl, y.2, mi.reach _ (mi.sub y (List.mem_of_getElem? hy)), hb⟩) ok
      · refine At.mk () (fun z hz => ?_) S.w
        rcases (mem_take_succ hy).mp hz with hz | hz
        · exact hI z hz
        · subst hz
          intro hB
          rw [decide_eq_true hB.1, decide_eq_true hB.2] at hb
          cases hb
    rw [List.take_length] at hI
    -- one letter further
    refine q_forO (C := C0 P w K) (xs := layer) encPB (fun _ : List PB => [some (.dat (encReader r)), some (.dat (encSeat x0.1)), some (.dat (encReader q)), some (.dat (encSeat x0.2)), some (.loc lk), some (.loc la), some (.loc lb), none, none, none, none])
      (fun a => [(lb, .lst (a.map encPB)), (la, .lst (layer.map encPB)), (lk, .dct (Seat × Seat) ESS (known.map fun x => (x, .dat (.bool true))) none)]) (fun i a => a = (layer.take i).flatMap (behindOf r q)) [] S rfl (fun _ => ⟨1, rfl⟩) (fun σ W S => S) rfl (fun x => g_tup2) (fun i a y σ W hy hJ S => ?_) (fun bh σ W hJ S => ?_)
    · have hil := (List.getElem?_eq_some_iff.mp hy).1
      have hal : a.length ≤ i * 4000 := by
        rw [hJ]
        have := flat_len (f := behindOf r q) (n := 4000) (xs := layer.take i) fun y _ => by unfold behindOf; rw [List.length_map]; exact Nat.le_trans (stepOf_len tu tv _) hUV
        rw [List.length_take, Nat.min_eq_left (Nat.le_of_lt hil)] at this
        exact this
      have hyl := mi.path y (List.mem_of_getElem? hy)
      have hsl := Nat.le_trans (stepOf_len tu tv y.2) hUV
      refine s_forL (C := C0 P w K) (xs := stepOf r q y.2) encSt (fun _ : List PB => [some (.dat (encReader r)), some (.dat (encSeat x0.1)), some (.dat (encReader q)), some (.dat (encSeat x0.2)), some (.loc lk), some (.loc la), some (.loc lb), some (.dat (.list (y.1.map encI))), some (.dat (encSS y.2)), none, none])
        (fun b => [(lb, .lst (b.map encPB)), (la, .lst (layer.map encPB)), (lk, .dct (Seat × Seat) ESS (known.map fun x => (x, .dat (.bool true))) none)]) (fun j b => b = a ++ ((stepOf r q y.2).take j).map fun z => (y.1 ++ [z.1], z.2)) a S (e_call (r, q, y.2) (a_cons (e_var rfl) (a_cons (e_var rfl) (a_cons (e_var rfl) a_nil))) ⟨U, V, tu, tv, hUV⟩) (fun σ W S => S) (by simp) (fun x => g_tup2) (fun j b z T' σ W hz hK S => ?_) (fun b σ W hK S => ?_)
      · have hbl : b.length ≤ i * 4000 + 4000 := by
          rw [hK, List.length_append, List.length_map, List.length_take]
          omega
        refine s_app (j := 0) S rfl rfl (e_tup (ds := [.list ((y.1 ++ [z.1]).map encI), encSS z.2]) (a_cons (EvS.to (e_cat (ds := y.1.map encI) (es := [encI z.1]) (e_var rfl) (e_lst (ds := [encI z.1]) (a_cons (e_var rfl) a_nil) (by show 1 ≤ 1000; decide)) (by rw [List.length_map]; show y.1.length + 1 ≤ 16777216; omega)) (by rw [List.map_append]; rfl)) (a_cons (e_var rfl) a_nil)) (by show 2 ≤ 1000; decide)) (by rw [List.length_map]; show b.length < 16777216; omega) fun W S => ?_
        rw [show b.map encPB ++ [.tuple [.list ((y.1 ++ [z.1]).map encI), encSS z.2]] = (b ++ [(y.1 ++ [z.1], z.2)]).map encPB from (List.map_append (f := encPB) (l₁ := b) (l₂ := [(y.1 ++ [z.1], z.2)])).symm] at S
        refine At.mk (b ++ [(y.1 ++ [z.1], z.2)]) ?_ S.w
        rw [take_succ_at hz, List.map_append, hK, List.append_assoc]
        rfl
      · rw [List.take_length] at hK
        refine At.mk b ?_ S.w
        rw [flat_take hy, ← hJ]
        exact hK
    rw [List.take_length] at hJ
    obtain ⟨bs, e1, p1⟩ := srt_map (f := encPB) bh
    have hbsm : ∀ z, z ∈ bs ↔ ∃ y ∈ layer, ∃ u ∈ stepOf r q y.2, z = (y.1 ++ [u.1], u.2) := fun z => by
      rw [p1.mem_iff, hJ, List.mem_flatMap]
      unfold behindOf
      simp only [List.mem_map]
      constructor
      · rintro ⟨y, hy, u, hu, e⟩; exact ⟨y, hy, u, hu, e.symm⟩
      · rintro ⟨y, hy, u, hu, e⟩; exact ⟨y, hy, u, hu, e.symm⟩
    refine q_newL S fun l2 σ W S => ?_
    refine s_forL (C := C0 P w K) (xs := bs) encPB (fun _ : List (Seat × Seat) × List PB => [some (.dat (encReader r)), some (.dat (encSeat x0.1)), some (.dat (encReader q)), some (.dat (encSeat x0.2)), some (.loc lk), some (.loc l2), some (.loc lb), none, none, none, none])
      (fun a => [(l2, .lst (a.2.map encPB)), (lb, .lst (bh.map encPB)), (la, .lst (layer.map encPB)), (lk, .dct (Seat × Seat) ESS (a.1.map fun x => (x, .dat (.bool true))) none)])
      (fun i a => a.1 = known ++ a.2.map (·.2) ∧ a.1.Nodup ∧ (∀ z ∈ a.2, z ∈ bs) ∧ (∀ z ∈ bs.take i, z.2 ∈ a.1)) (known, []) S ((e_sortedO (i := 6) (j := 1) rfl rfl (pb_can bh)).to (by rw [e1])) (fun σ W S => S) ⟨by simp, mi.nd, fun z hz => (nomatch hz), by simp⟩ (fun x => g_tup2) (fun i a z T' σ W hz hI3 S => ?_) (fun a σ W hI3 S => ?_)
    · obtain ⟨kn, ly⟩ := a
      obtain ⟨j1, j2, j3, j4⟩ := hI3
      have j1 : kn = known ++ ly.map (·.2) := j1
      have j2 : kn.Nodup := j2
      have hzm := List.mem_of_getElem? hz
      have hreach : ∀ u ∈ bs, PReach r q x0 u.2 := fun u hu => by
        obtain ⟨y, hy, v, hv, e⟩ := (hbsm u).mp hu
        obtain ⟨h1, h2⟩ := mem_stepOf.mp hv
        rw [e]
        exact .step (mi.reach _ (mi.sub y hy)) h1 h2
      have hrk : ∀ x ∈ kn, PReach r q x0 x := fun x hx => by
        rw [j1] at hx
        rcases List.mem_append.mp hx with hx | hx
        · exact mi.reach x hx
        · obtain ⟨u, hu, e⟩ := List.mem_map.mp hx
          exact e ▸ hreach u (j3 u hu)
      have knl := known_len tu tv hUV j2 hrk
      have lyl2 : ly.length ≤ kn.length := by rw [j1, List.length_append, List.length_map]; omega
      have kk : (kn.map fun x => (x, Sv.dat (.bool true))).map (·.1) = kn := by rw [List.map_map]; exact List.map_id'' (fun _ => rfl) kn
      refine s_when S (t_B (e_notInN (E := ESS) (k := z.2) (j := 3) (e_var rfl) (e_var rfl) rfl)) (fun hb W S => ?_) (fun hb W S => ?_)
      · rw [kk] at hb
        have hn : z.2 ∉ kn := by simpa using hb
        refine q_putN (E := ESS) (k := z.2) (j := 3) S e_bl (e_var rfl) (e_var rfl) rfl (by rw [kk]; exact hn) (by rw [List.length_map]; show kn.length < 16777216; omega) fun W S => ?_
        refine s_app (j := 0) S rfl rfl (e_tup (ds := [.list (z.1.map encI), encSS z.2]) (a_cons (e_var rfl) (a_cons (e_var rfl) a_nil)) (by show 2 ≤ 1000; decide)) (by rw [List.length_map]; show ly.length < 16777216; omega) fun W S => ?_
        have S2 : Sta (C0 P w K) Wz T' σ W [some (.dat (encReader r)), some (.dat (encSeat x0.1)), some (.dat (encReader q)), some (.dat (encSeat x0.2)), some (.loc lk), some (.loc l2), some (.loc lb), some (.dat (.list (z.1.map encI))), some (.dat (encSS z.2)), none, none] [(l2, .lst ((ly ++ [z]).map encPB)), (lb, .lst (bh.map encPB)), (la, .lst (layer.map encPB)), (lk, .dct (Seat × Seat) ESS ((kn ++ [z.2]).map fun x => (x, .dat (.bool true))) none)] := by
          rw [List.map_append, List.map_append]
          exact S
        refine At.mk (kn ++ [z.2], ly ++ [z]) ⟨?_, ?_, fun u hu => ?_, fun u hu => ?_⟩ S2.w
        · show kn ++ [z.2] = _
          rw [j1, List.map_append, List.append_assoc]
          rfl
        · show (kn ++ [z.2]).Nodup
          rw [List.nodup_append]
          exact ⟨j2, by simp, fun a ha b hb e => hn (by rw [List.mem_singleton.mp hb] at e; exact e ▸ ha)⟩
        · rcases List.mem_append.mp hu with hu | hu
          · exact j3 u hu
          · rw [List.mem_singleton.mp hu]; exact hzm
        · rcases (mem_take_succ hz).mp hu with hu | hu
          · exact List.mem_append_left _ (j4 u hu)
          · rw [hu]; exact List.mem_append_right _ (List.mem_singleton_self _)
      · rw [kk] at hb
        have hn : z.2 ∈ kn := by simpa using hb
        refine At.mk (kn, ly) ⟨j1, j2, j3, fun u hu => ?_⟩ S.w
        rcases (mem_take_succ hz).mp hu with hu | hu
        · exact j4 u hu
        · rw [hu]; exact hn
    · obtain ⟨kn, ly⟩ := a
      obtain ⟨j1, j2, j3, j4⟩ := hI3
      have j1 : kn = known ++ ly.map (·.2) := j1
      have j2 : kn.Nodup := j2
      rw [List.take_length] at j4
      have j4 : ∀ z ∈ bs, z.2 ∈ kn := j4
      have j3 : ∀ z ∈ ly, z ∈ bs := j3
      have hln : kn.length = known.length + ly.length := by rw [j1, List.length_append, List.length_map]
      have hkk : ∀ x ∈ known, x ∈ kn := fun x hx => by rw [j1]; exact List.mem_append_left _ hx
      have hlk : ∀ y ∈ ly, y.2 ∈ kn := fun y hy => by rw [j1]; exact List.mem_append_right _ (List.mem_map.mpr ⟨y, hy, rfl⟩)
      have hrk : ∀ x ∈ kn, PReach r q x0 x := fun x hx => by
        rw [j1] at hx
        rcases List.mem_append.mp hx with hx | hx
        · exact mi.reach x hx
        · obtain ⟨u, hu, e⟩ := List.mem_map.mp hx
          obtain ⟨y, hy, v, hv, e2⟩ := (hbsm u).mp (j3 u hu)
          obtain ⟨h1, h2⟩ := mem_stepOf.mp hv
          rw [← e, e2]
          exact .step (mi.reach _ (mi.sub y hy)) h1 h2
      have knl := known_len tu tv hUV j2 hrk
      refine At.mk (l2, kn, ly) ⟨⟨j2, ?_, hrk, hlk, hkk _ mi.st, fun x hx hn => ?_, fun y hy => ?_⟩, ?_⟩ ((S.forget (M' := [(l2, .lst (ly.map encPB)), (lk, .dct (Seat × Seat) ESS (kn.map fun x => (x, .dat (.bool true))) none)]) ?_).w)
      · rw [j1, List.nodup_append] at j2
        exact j2.2.1
      · have hxk : x ∈ known := by
          have hx : x ∈ kn := hx
          rw [j1] at hx
          exact (List.mem_append.mp hx).resolve_right hn
        by_cases hxl : x ∈ layer.map (·.2)
        · obtain ⟨y, hy, e⟩ := List.mem_map.mp hxl
          have e : y.2 = x := e
          subst e
          exact ⟨hI y hy, fun u hu => j4 (y.1 ++ [u.1], u.2) ((hbsm _).mpr ⟨y, hy, u, hu, rfl⟩)⟩
        · obtain ⟨d1, d2⟩ := mi.done x hxk hxl
          exact ⟨d1, fun u hu => hkk _ (d2 u hu)⟩
      · have hy : y ∈ ly := hy
        obtain ⟨y0, hy0, v, hv, e2⟩ := (hbsm y).mp (j3 y hy)
        have := mi.path y0 hy0
        have hpos : 0 < ly.length := List.length_pos_of_mem hy
        show y.1.length ≤ kn.length
        rw [e2, List.length_append, List.length_singleton, hln]
        omega
      · show 2 * (4002 - kn.length) + (if ly = [] then 0 else 1) < 2 * (4002 - known.length) + (if layer = [] then 0 else 1)
        rw [if_neg hne]
        split
        · rename_i e; rw [e, List.length_nil] at hln; omega
        · rename_i e
          have : 0 < ly.length := List.length_pos_iff.mpr e
          omega
      · exact .cons_cons _ (.cons _ (.cons _ (List.Sublist.refl _)))
  · rw [eqv_nil] at hb
    have e : layer = [] := by simpa using hb
    refine s_ret S e_non fun v W' si ok => ?_
    exact hq _ v W' (si.lep fun _ h => h) (.inr ⟨rfl, by rw [e] at mi; exact no_goal mi⟩) ok
end
end Dr
namespace Dr
open PySem PySem.Spec PyProof.Rows L2

/-! the plain law -/
inductive Der (rs : List Rule) : Seat → List Nat → Prop
  | end_ {b : Seat} : .end_ b ∈ rs → Der rs b []
  | copy {a b : Seat} {π : List Nat} : .copy a b ∈ rs → Der rs a π → Der rs b π
  | push {a b : Seat} {l : Nat} {π : List Nat} : .push a l b ∈ rs → Der rs a π → Der rs b (l :: π)
  | pop {a b : Seat} {l : Nat} {π : List Nat} : .pop a l b ∈ rs → Der rs a (l :: π) → Der rs b π
def Acc (r : Reader) : Seat → List Nat → Prop
  | s, [] => s ∈ r.ends
  | s, l :: π => ∃ a, (s, l, a) ∈ r.moves ∧ Acc r a π
theorem acc_mono {rs : List Rule} {r : Reader} (h : IsLeast rs r) {a b : Seat} (hk : ∀ t, Thg rs a t → Thg rs b t) : ∀ π, Acc r a π → Acc r b π
  | [], z => (h.ends b).mpr (hk none ((h.ends a).mp z))
  | l :: π, ⟨c, h1, h2⟩ => ⟨c, (h.moves (b, l, c)).mpr (hk _ ((h.moves (a, l, c)).mp h1)), h2⟩
theorem acc_thg {rs : List Rule} {r : Reader} (h : IsLeast rs r) {a : Seat} : ∀ π, Acc r a π → ∃ t, Thg rs a t
  | [], z => ⟨none, (h.ends a).mp z⟩
  | l :: π, ⟨c, h1, _⟩ => ⟨_, (h.moves (a, l, c)).mp h1⟩
theorem der_acc {rs : List Rule} {r : Reader} (h : IsLeast rs r) {s : Seat} {π : List Nat} (d : Der rs s π) : Acc r s π := by
  induction d with
  | end_ hr => exact (h.ends _).mpr (.end_ hr)
  | copy hr _ ih => exact acc_mono h (fun t ht => .copy hr ht) _ ih
  | @push a b l π hr _ ih =>
    obtain ⟨t, ht⟩ := acc_thg h _ ih
    exact ⟨a, (h.moves (b, l, a)).mpr (.push hr ht), ih⟩
  | @pop a b l π hr _ ih =>
    obtain ⟨c, h1, h2⟩ := ih
    exact acc_mono h (fun t ht => .pop hr ((h.moves (a, l, c)).mp h1) ht) _ h2
theorem thg_der {rs : List Rule} {s : Seat} {t : Thing} (d : Thg rs s t) : (t = none → Der rs s []) ∧ ∀ l a, t = some (l, a) → ∀ π, Der rs a π → Der rs s (l :: π) := by
  induction d with
  | end_ hr => exact ⟨fun _ => .end_ hr, fun _ _ z => (nomatch z)⟩
  | copy hr _ ih => exact ⟨fun e => .copy hr (ih.1 e), fun l a e π h => .copy hr (ih.2 l a e π h)⟩
  | push hr _ _ => exact ⟨fun z => (nomatch z), fun l a e π h => by cases e; exact .push hr h⟩
  | @pop a b s l t hr _ _ ih1 ih2 =>
    exact ⟨fun e => .pop hr (ih1.2 l s rfl _ (ih2.1 e)), fun l' a' e π h => .pop hr (ih1.2 l s rfl _ (ih2.2 l' a' e π h))⟩
theorem acc_der {rs : List Rule} {r : Reader} (h : IsLeast rs r) : ∀ (π : List Nat) (s : Seat), Acc r s π → Der rs s π
  | [], s, z => (thg_der ((h.ends s).mp z)).1 rfl
  | l :: π, s, ⟨c, h1, h2⟩ => (thg_der ((h.moves (s, l, c)).mp h1)).2 l c rfl π (acc_der h π c h2)
theorem goal_acc {r q : Reader} {x0 : Seat × Seat} : Goal r q x0 ↔ ∃ π, Acc r x0.1 π ∧ Acc q x0.2 π := by
  constructor
  · rintro ⟨x, hx, hb⟩
    have : ∀ π, Acc r x.1 π ∧ Acc q x.2 π → ∃ π, Acc r x0.1 π ∧ Acc q x0.2 π := by
      clear hb
      induction hx with
      | start => exact fun π h => ⟨π, h⟩
      | @step x l a b _ h1 h2 ih => exact fun π h => ih (l :: π) ⟨⟨a, h1, h.1⟩, ⟨b, h2, h.2⟩⟩
    exact this [] hb
  · rintro ⟨π, h⟩
    have : ∀ (π : List Nat) (x : Seat × Seat), PReach r q x0 x → Acc r x.1 π ∧ Acc q x.2 π → Goal r q x0 := by
      intro π
      induction π with
      | nil => exact fun x hx h => ⟨x, hx, h⟩
      | cons l π ih =>
        rintro x hx ⟨⟨a, a1, a2⟩, ⟨b, b1, b2⟩⟩
        exact ih (a, b) (.step hx a1 b1) ⟨a2, b2⟩
    exact this π x0 .start h
/-- what a box's room can be reached at, run by run -/
inductive RL (p : Prog) (wd : Nm) (pl : Option (Nat × Nat)) : Nat → Spot → Nm → List Nat → Prop
  | start {s t : Spot} {x y z : Nm} : s ∈ spotsOf p → lineOf p s = some (.pair x wd y z) → t ∈ nexts p s → RL p wd pl (come pl t) t x []
  | copy {l : Nat} {s t : Spot} {b : Nm} {π : List Nat} : RL p wd pl l s b π → t ∈ nexts p s → some b ≠ freshOf (lineOf p s) → RL p wd pl (max l (come pl t)) t b π
  | pairL {l : Nat} {s t : Spot} {x w y z : Nm} {π : List Nat} : RL p wd pl l s y π → t ∈ nexts p s → lineOf p s = some (.pair x w y z) → RL p wd pl (max l (come pl t)) t x (1 :: π)
  | pairR {l : Nat} {s t : Spot} {x w y z : Nm} {π : List Nat} : RL p wd pl l s z π → t ∈ nexts p s → lineOf p s = some (.pair x w y z) → RL p wd pl (max l (come pl t)) t x (2 :: π)
  | same {l : Nat} {s t : Spot} {x y : Nm} {π : List Nat} : RL p wd pl l s y π → t ∈ nexts p s → lineOf p s = some (.same x y) → RL p wd pl (max l (come pl t)) t x π
  | first {l : Nat} {s t : Spot} {x y : Nm} {π : List Nat} : RL p wd pl l s y (1 :: π) → t ∈ nexts p s → lineOf p s = some (.first x y) → RL p wd pl (max l (come pl t)) t x π
  | second {l : Nat} {s t : Spot} {x y : Nm} {π : List Nat} : RL p wd pl l s y (2 :: π) → t ∈ nexts p s → lineOf p s = some (.second x y) → RL p wd pl (max l (come pl t)) t x π
inductive WC (p : Prog) : Spot → Nm → List Nat → Prop
  | read {s t : Spot} {l : Line} {b : Nm} : lineOf p s = some l → l.reads = some b → t ∈ nexts p s → WC p s b []
  | copy {s t : Spot} {b : Nm} {π : List Nat} : t ∈ nexts p s → some b ≠ freshOf (lineOf p s) → WC p t b π → WC p s b π
  | pairL {s t : Spot} {x w y z : Nm} {π : List Nat} : t ∈ nexts p s → lineOf p s = some (.pair x w y z) → WC p t x (1 :: π) → WC p s y π
  | pairR {s t : Spot} {x w y z : Nm} {π : List Nat} : t ∈ nexts p s → lineOf p s = some (.pair x w y z) → WC p t x (2 :: π) → WC p s z π
  | same {s t : Spot} {x y : Nm} {π : List Nat} : t ∈ nexts p s → lineOf p s = some (.same x y) → WC p t x π → WC p s y π
  | first {s t : Spot} {x y : Nm} {π : List Nat} : t ∈ nexts p s → lineOf p s = some (.first x y) → WC p t x π → WC p s y (1 :: π)
  | second {s t : Spot} {x y : Nm} {π : List Nat} : t ∈ nexts p s → lineOf p s = some (.second x y) → WC p t x π → WC p s y (2 :: π)
def MeetSem (p : Prog) (wd : Nm) (pl : Nat × Nat) : Prop := ∃ s b π, s ∈ spotsOf p ∧ placeOf s = some pl ∧ RL p wd none 0 s b π ∧ WC p s b π
def LateSem (p : Prog) (wd : Nm) (pl : Nat × Nat) : Prop := ∃ s b l, RL p wd (some pl) 1 s b [] ∧ lineOf p s = some l ∧ l.reads = some b
theorem come_none (t : Spot) : come none t = 0 := by unfold come; rfl
theorem come_some {pl : Nat × Nat} {t : Spot} : come (some pl) t = 1 ↔ placeOf t = some pl := by
  unfold come
  have : isNone (encOp (some pl)) = false := rfl
  rw [this]
  by_cases h : placeOf t = some pl <;> simp [h]
theorem RL.none {p : Prog} {wd : Nm} {l : Nat} {s : Spot} {b : Nm} {π : List Nat} (h : RL p wd none l s b π) : l = 0 := by
  induction h with
  | start _ _ _ => exact come_none _
  | copy _ _ _ ih => rw [ih, come_none]; rfl
  | pairL _ _ _ ih => rw [ih, come_none]; rfl
  | pairR _ _ _ ih => rw [ih, come_none]; rfl
  | same _ _ _ ih => rw [ih, come_none]; rfl
  | first _ _ _ ih => rw [ih, come_none]; rfl
  | second _ _ _ ih => rw [ih, come_none]; rfl
theorem RL.le {p : Prog} {wd : Nm} {pl : Option (Nat × Nat)} {l : Nat} {s : Spot} {b : Nm} {π : List Nat} (h : RL p wd pl l s b π) : l ≤ 1 := by
  have m : ∀ {l : Nat} {t : Spot}, l ≤ 1 → max l (come pl t) ≤ 1 := fun {l t} hl => by have := come_le (pl := pl) (t := t); omega
  induction h with
  | start _ _ _ => exact come_le
  | copy _ _ _ ih => exact m ih
  | pairL _ _ _ ih => exact m ih
  | pairR _ _ _ ih => exact m ih
  | same _ _ _ ih => exact m ih
  | first _ _ _ ih => exact m ih
  | second _ _ _ ih => exact m ih
theorem next_mem {p : Prog} (g : Good p) {s t : Spot} (hs : s ∈ spotsOf p) (ht : t ∈ nexts p s) : t ∈ spotsOf p := by
  obtain ⟨i, hi⟩ := List.mem_iff_getElem?.mp hs
  exact next_in g hi ht
theorem RL.spot {p : Prog} (g : Good p) {wd : Nm} {pl : Option (Nat × Nat)} {l : Nat} {s : Spot} {b : Nm} {π : List Nat} (h : RL p wd pl l s b π) : s ∈ spotsOf p := by
  induction h with
  | start h1 _ h2 => exact next_mem g h1 h2
  | copy _ h _ ih => exact next_mem g ih h
  | pairL _ h _ ih => exact next_mem g ih h
  | pairR _ h _ ih => exact next_mem g ih h
  | same _ h _ ih => exact next_mem g ih h
  | first _ h _ ih => exact next_mem g ih h
  | second _ h _ ih => exact next_mem g ih h
def isBox (p : Prog) (b : Nm) : Prop := ∃ l ∈ allLines p, b ∈ l.boxes
theorem lbox {p : Prog} {s : Spot} {l : Line} {b : Nm} (h : lineOf p s = some l) (hb : b ∈ l.boxes) : isBox p b := ⟨l, lineOf_mem h, hb⟩
theorem RL.box {p : Prog} {wd : Nm} {pl : Option (Nat × Nat)} {l : Nat} {s : Spot} {b : Nm} {π : List Nat} (h : RL p wd pl l s b π) : isBox p b := by
  induction h with
  | start _ h _ => exact lbox h (by simp [Line.boxes])
  | copy _ _ _ ih => exact ih
  | pairL _ _ h _ => exact lbox h (by simp [Line.boxes])
  | pairR _ _ h _ => exact lbox h (by simp [Line.boxes])
  | same _ _ h _ => exact lbox h (by simp [Line.boxes])
  | first _ _ h _ => exact lbox h (by simp [Line.boxes])
  | second _ _ h _ => exact lbox h (by simp [Line.boxes])
theorem WC.box {p : Prog} {s : Spot} {b : Nm} {π : List Nat} (h : WC p s b π) : isBox p b := by
  induction h with
  | read h h2 _ => exact lbox h (reads_box h2)
  | copy _ _ _ ih => exact ih
  | pairL _ h _ _ => exact lbox h (by simp [Line.boxes])
  | pairR _ h _ _ => exact lbox h (by simp [Line.boxes])
  | same _ h _ _ => exact lbox h (by simp [Line.boxes])
  | first _ h _ _ => exact lbox h (by simp [Line.boxes])
  | second _ h _ _ => exact lbox h (by simp [Line.boxes])
/-- a run gone on: where it was late, it was at the place before -/
theorem late_seen {p : Prog} (g : Good p) {wd : Nm} {pl : Nat × Nat} {l : Nat} {s : Spot} {b : Nm} {π : List Nat} (h : RL p wd (some pl) l s b π) :
    RL p wd none 0 s b π ∧ (l = 1 → ∃ s1 b1 π1, s1 ∈ spotsOf p ∧ placeOf s1 = some pl ∧ RL p wd none 0 s1 b1 π1 ∧ (WC p s b π → WC p s1 b1 π1)) := by
  have up : ∀ {s t : Spot} {b c : Nm} {π ρ : List Nat} {l : Nat}, RL p wd none 0 t c ρ → (WC p t c ρ → WC p s b π) → (l = 1 → ∃ s1 b1 π1, s1 ∈ spotsOf p ∧ placeOf s1 = some pl ∧ RL p wd none 0 s1 b1 π1 ∧ (WC p s b π → WC p s1 b1 π1)) → max l (come (some pl) t) = 1 →
      ∃ s1 b1 π1, s1 ∈ spotsOf p ∧ placeOf s1 = some pl ∧ RL p wd none 0 s1 b1 π1 ∧ (WC p t c ρ → WC p s1 b1 π1) := fun {s t b c π ρ l} h1 h2 h3 h4 => by
    by_cases e : come (some pl) t = 1
    · exact ⟨t, c, ρ, h1.spot g, come_some.mp e, h1, id⟩
    · have := come_le (pl := some pl) (t := t)
      obtain ⟨s1, b1, π1, k1, k2, k3, k4⟩ := h3 (by omega)
      exact ⟨s1, b1, π1, k1, k2, k3, fun z => k4 (h2 z)⟩
  have z0 : ∀ (t : Spot), max 0 (come none t) = 0 := fun t => by rw [come_none]; rfl
  induction h with
  | @start s t x y z h1 h2 h3 =>
    have r : RL p wd none 0 t x [] := by have := RL.start (pl := none) h1 h2 h3; rw [come_none] at this; exact this
    exact ⟨r, fun e => ⟨t, x, [], r.spot g, come_some.mp e, r, id⟩⟩
  | @copy l s t b π _ h1 h2 ih =>
    have r := RL.copy ih.1 h1 h2
    rw [z0] at r
    exact ⟨r, up r (fun z => .copy h1 h2 z) ih.2⟩
  | pairL _ h1 h2 ih =>
    have r := RL.pairL ih.1 h1 h2
    rw [z0] at r
    exact ⟨r, up r (fun z => .pairL h1 h2 z) ih.2⟩
  | pairR _ h1 h2 ih =>
    have r := RL.pairR ih.1 h1 h2
    rw [z0] at r
    exact ⟨r, up r (fun z => .pairR h1 h2 z) ih.2⟩
  | same _ h1 h2 ih =>
    have r := RL.same ih.1 h1 h2
    rw [z0] at r
    exact ⟨r, up r (fun z => .same h1 h2 z) ih.2⟩
  | first _ h1 h2 ih =>
    have r := RL.first ih.1 h1 h2
    rw [z0] at r
    exact ⟨r, up r (fun z => .first h1 h2 z) ih.2⟩
  | second _ h1 h2 ih =>
    have r := RL.second ih.1 h1 h2
    rw [z0] at r
    exact ⟨r, up r (fun z => .second h1 h2 z) ih.2⟩
theorem late_of {p : Prog} {wd : Nm} (pl : Nat × Nat) {l : Nat} {s : Spot} {b : Nm} {π : List Nat} (h : RL p wd none l s b π) : ∃ l', RL p wd (some pl) l' s b π ∧ (placeOf s = some pl → l' = 1) := by
  have one : ∀ {l : Nat} {t : Spot} {c : Nm} {ρ : List Nat}, RL p wd (some pl) (max l (come (some pl) t)) t c ρ → ∃ l', RL p wd (some pl) l' t c ρ ∧ (placeOf t = some pl → l' = 1) := fun {l t c ρ} r => ⟨_, r, fun e => by
    have h1 := come_some.mpr e
    have h2 := r.le
    omega⟩
  induction h with
  | start h1 h2 h3 => exact ⟨_, .start h1 h2 h3, fun e => come_some.mpr e⟩
  | copy _ h1 h2 ih => obtain ⟨l', r, _⟩ := ih; exact one (.copy r h1 h2)
  | pairL _ h1 h2 ih => obtain ⟨l', r, _⟩ := ih; exact one (.pairL r h1 h2)
  | pairR _ h1 h2 ih => obtain ⟨l', r, _⟩ := ih; exact one (.pairR r h1 h2)
  | same _ h1 h2 ih => obtain ⟨l', r, _⟩ := ih; exact one (.same r h1 h2)
  | first _ h1 h2 ih => obtain ⟨l', r, _⟩ := ih; exact one (.first r h1 h2)
  | second _ h1 h2 ih => obtain ⟨l', r, _⟩ := ih; exact one (.second r h1 h2)
theorem late_goes {p : Prog} {wd : Nm} {pl : Nat × Nat} {s : Spot} {b : Nm} {π : List Nat} (w : WC p s b π) : RL p wd (some pl) 1 s b π → LateSem p wd pl := by
  have m1 : ∀ {t : Spot} {c : Nm} {ρ : List Nat}, RL p wd (some pl) (max 1 (come (some pl) t)) t c ρ → RL p wd (some pl) 1 t c ρ := fun {t c ρ} r => by
    have h2 := r.le
    have : max 1 (come (some pl) t) = 1 := by omega
    rw [this] at r
    exact r
  induction w with
  | read h1 h2 _ => exact fun r => ⟨_, _, _, r, h1, h2⟩
  | copy h1 h2 _ ih => exact fun r => ih (m1 (.copy r h1 h2))
  | pairL h1 h2 _ ih => exact fun r => ih (m1 (.pairL r h1 h2))
  | pairR h1 h2 _ ih => exact fun r => ih (m1 (.pairR r h1 h2))
  | same h1 h2 _ ih => exact fun r => ih (m1 (.same r h1 h2))
  | first h1 h2 _ ih => exact fun r => ih (m1 (.first r h1 h2))
  | second h1 h2 _ ih => exact fun r => ih (m1 (.second r h1 h2))
theorem reads_next {p : Prog} {s : Spot} {l : Line} {b : Nm} (h : lineOf p s = some l) (hb : l.reads = some b) : ∃ t, t ∈ nexts p s := by
  unfold lineOf at h
  split at h
  · cases h
  · rename_i hd
    unfold lnAt at h
    unfold nexts
    cases q : p[s.part]? with
    | none => rw [q] at h; cases h
    | some pt =>
      rw [q] at h
      have h : pt.2[s.k]? = some l := h
      simp only [nextsL]
      rw [if_neg hd, h]
      cases l <;> first | exact ⟨_, List.mem_singleton_self _⟩ | (simp [Line.reads] at hb; done)
theorem plain_law {p : Prog} (g : Good p) {wd : Nm} {pl : Nat × Nat} : LateSem p wd pl ↔ MeetSem p wd pl := by
  constructor
  · rintro ⟨s, b, l, r, h1, h2⟩
    obtain ⟨s1, b1, π1, k1, k2, k3, k4⟩ := (late_seen g r).2 rfl
    obtain ⟨t, ht⟩ := reads_next h1 h2
    exact ⟨s1, b1, π1, k1, k2, k3, k4 (.read h1 h2 ht)⟩
  · rintro ⟨s, b, π, h1, h2, h3, h4⟩
    obtain ⟨l', r, e⟩ := late_of pl h3
    rw [e h2] at r
    exact late_goes h4 r
end Dr
namespace Dr
open PySem PySem.Spec PyProof.Rows L2

/-! what the rules derive -/
theorem idx_get {p : Prog} {t : Spot} (h : t ∈ spotsOf p) : (spotsOf p)[idx p t]? = some t := by
  unfold idx
  rw [List.getElem?_eq_getElem (List.idxOf_lt_length_iff.mpr h), List.getElem_idxOf]
theorem der_rl {p : Prog} (g : Good p) {wd : Nm} {pl : Option (Nat × Nat)} {bs : List Nm} {x : Seat} {π : List Nat} (d : Der (holdRules p wd pl bs) x π) : ∃ s, (spotsOf p)[x.n]? = some s ∧ RL p wd pl x.late s x.box π := by
  have same : ∀ {i : Nat} {s s' : Spot}, (spotsOf p)[i]? = some s → (spotsOf p)[i]? = some s' → s' = s := fun h1 h2 => by rw [h1] at h2; exact (Option.some.inj h2).symm
  induction d with
  | @end_ b hr =>
    obtain ⟨i, s, t, hs, ht, h⟩ := mem_hold.mp hr
    have htm := next_in g hs ht
    rcases h with ⟨l, hl, h⟩ | h
    · rcases mem_box.mp h with ⟨c, h1, _, e⟩ | ⟨ln, e, h⟩
      · cases e
      · cases ln <;> simp [extraH] at h
    · unfold madeH at h
      split at h
      · rename_i x w y z e
        split at h
        · rename_i ew
          subst ew
          have := List.mem_singleton.mp h
          cases this
          exact ⟨t, idx_get htm, .start (List.mem_of_getElem? hs) e ht⟩
        · cases h
      · cases h
  | @copy a b π hr _ ih =>
    obtain ⟨s', hs', r⟩ := ih
    obtain ⟨i, s, t, hs, ht, h⟩ := mem_hold.mp hr
    have htm := next_in g hs ht
    rcases h with ⟨l, hl, h⟩ | h
    · rcases mem_box.mp h with ⟨c, h1, h2, e⟩ | ⟨ln, e, h⟩
      · cases e
        have := same hs hs'
        subst this
        exact ⟨t, idx_get htm, .copy r ht h2⟩
      · cases ln <;> simp [extraH] at h
        obtain ⟨e1, e2⟩ := h
        subst e1 e2
        have := same hs hs'
        subst this
        exact ⟨t, idx_get htm, .same r ht e⟩
    · unfold madeH at h
      split at h
      · split at h
        · exact absurd (List.mem_singleton.mp h) (by simp)
        · cases h
      · cases h
  | @push a b l0 π hr _ ih =>
    obtain ⟨s', hs', r⟩ := ih
    obtain ⟨i, s, t, hs, ht, h⟩ := mem_hold.mp hr
    have htm := next_in g hs ht
    rcases h with ⟨l, hl, h⟩ | h
    · rcases mem_box.mp h with ⟨c, h1, h2, e⟩ | ⟨ln, e, h⟩
      · cases e
      · cases ln <;> simp [extraH] at h
        rcases h with ⟨e1, e2, e3⟩ | ⟨e1, e2, e3⟩
        · subst e1 e2 e3
          have := same hs hs'
          subst this
          exact ⟨t, idx_get htm, .pairL r ht e⟩
        · subst e1 e2 e3
          have := same hs hs'
          subst this
          exact ⟨t, idx_get htm, .pairR r ht e⟩
    · unfold madeH at h
      split at h
      · split at h
        · exact absurd (List.mem_singleton.mp h) (by simp)
        · cases h
      · cases h
  | @pop a b l0 π hr _ ih =>
    obtain ⟨s', hs', r⟩ := ih
    obtain ⟨i, s, t, hs, ht, h⟩ := mem_hold.mp hr
    have htm := next_in g hs ht
    rcases h with ⟨l, hl, h⟩ | h
    · rcases mem_box.mp h with ⟨c, h1, h2, e⟩ | ⟨ln, e, h⟩
      · cases e
      · cases ln <;> simp [extraH] at h
        all_goals
          obtain ⟨e1, e2, e3⟩ := h
          subst e1 e2 e3
          have := same hs hs'
          subst this
          first | exact ⟨t, idx_get htm, .first r ht e⟩ | exact ⟨t, idx_get htm, .second r ht e⟩
    · unfold madeH at h
      split at h
      · split at h
        · exact absurd (List.mem_singleton.mp h) (by simp)
        · cases h
      · cases h
theorem rl_der {p : Prog} (g : Good p) {wd : Nm} {pl : Option (Nat × Nat)} {bs : List Nm} (hb : isBoxes p bs) {l : Nat} {s : Spot} {b : Nm} {π : List Nat} (h : RL p wd pl l s b π) : Der (holdRules p wd pl bs) ⟨l, idx p s, b⟩ π := by
  have rule : ∀ {s t : Spot} {l : Nat} {r : Rule}, s ∈ spotsOf p → l ≤ 1 → t ∈ nexts p s → r ∈ boxRules bs (lineOf p s) (l, idx p s) (max l (come pl t), idx p t) → r ∈ holdRules p wd pl bs := fun {s t l r} hs hl ht hr =>
    mem_hold.mpr ⟨idx p s, s, t, idx_get hs, ht, .inl ⟨l, by omega, hr⟩⟩
  induction h with
  | @start s t x y z h1 h2 h3 => exact .end_ (mem_hold.mpr ⟨idx p s, s, t, idx_get h1, h3, .inr (by rw [h2, madeH, if_pos rfl]; exact List.mem_singleton_self _)⟩)
  | copy r h1 h2 ih => exact .copy (rule (r.spot g) r.le h1 (mem_box.mpr (.inl ⟨_, (hb.2 _).mpr r.box, h2, rfl⟩))) ih
  | pairL r h1 h2 ih => exact .push (rule (r.spot g) r.le h1 (mem_box.mpr (.inr ⟨_, h2, by simp [extraH]⟩))) ih
  | pairR r h1 h2 ih => exact .push (rule (r.spot g) r.le h1 (mem_box.mpr (.inr ⟨_, h2, by simp [extraH]⟩))) ih
  | same r h1 h2 ih => exact .copy (rule (r.spot g) r.le h1 (mem_box.mpr (.inr ⟨_, h2, by simp [extraH]⟩))) ih
  | first r h1 h2 ih => exact .pop (rule (r.spot g) r.le h1 (mem_box.mpr (.inr ⟨_, h2, by simp [extraH]⟩))) ih
  | second r h1 h2 ih => exact .pop (rule (r.spot g) r.le h1 (mem_box.mpr (.inr ⟨_, h2, by simp [extraH]⟩))) ih
theorem der_wc {p : Prog} (g : Good p) {bs : List Nm} {x : Seat} {π : List Nat} (d : Der (wishRules p bs) x π) : ∃ s, (spotsOf p)[x.n]? = some s ∧ WC p s x.box π := by
  have same : ∀ {s' t : Spot}, t ∈ spotsOf p → (spotsOf p)[idx p t]? = some s' → s' = t := fun h1 h2 => by rw [idx_get h1] at h2; exact (Option.some.inj h2).symm
  induction d with
  | @end_ b hr =>
    obtain ⟨i, s, t, hs, ht, h⟩ := mem_wish.mp hr
    rcases mem_want.mp h with ⟨c, h1, _, e⟩ | ⟨ln, e, h⟩
    · cases e
    · rcases h with h | h
      · unfold readW at h
        split at h
        · cases h
        · rename_i c hc
          have := List.mem_singleton.mp h
          cases this
          exact ⟨s, hs, .read e hc ht⟩
      · cases ln <;> simp [extraW] at h
  | @copy a b π hr _ ih =>
    obtain ⟨s', hs', r⟩ := ih
    obtain ⟨i, s, t, hs, ht, h⟩ := mem_wish.mp hr
    have htm := next_in g hs ht
    rcases mem_want.mp h with ⟨c, h1, h2, e⟩ | ⟨ln, e, h⟩
    · cases e
      have := same htm hs'
      subst this
      exact ⟨s, hs, .copy ht h2 r⟩
    · rcases h with h | h
      · unfold readW at h
        split at h
        · cases h
        · exact absurd (List.mem_singleton.mp h) (by simp)
      · cases ln <;> simp [extraW] at h
        obtain ⟨e1, e2⟩ := h
        subst e1 e2
        have := same htm hs'
        subst this
        exact ⟨s, hs, .same ht e r⟩
  | @push a b l0 π hr _ ih =>
    obtain ⟨s', hs', r⟩ := ih
    obtain ⟨i, s, t, hs, ht, h⟩ := mem_wish.mp hr
    have htm := next_in g hs ht
    rcases mem_want.mp h with ⟨c, h1, h2, e⟩ | ⟨ln, e, h⟩
    · cases e
    · rcases h with h | h
      · unfold readW at h
        split at h
        · cases h
        · exact absurd (List.mem_singleton.mp h) (by simp)
      · cases ln <;> simp [extraW] at h
        all_goals
          obtain ⟨e1, e2, e3⟩ := h
          subst e1 e2 e3
          have := same htm hs'
          subst this
          first | exact ⟨s, hs, .first ht e r⟩ | exact ⟨s, hs, .second ht e r⟩
  | @pop a b l0 π hr _ ih =>
    obtain ⟨s', hs', r⟩ := ih
    obtain ⟨i, s, t, hs, ht, h⟩ := mem_wish.mp hr
    have htm := next_in g hs ht
    rcases mem_want.mp h with ⟨c, h1, h2, e⟩ | ⟨ln, e, h⟩
    · cases e
    · rcases h with h | h
      · unfold readW at h
        split at h
        · cases h
        · exact absurd (List.mem_singleton.mp h) (by simp)
      · cases ln <;> simp [extraW] at h
        rcases h with ⟨e1, e2, e3⟩ | ⟨e1, e2, e3⟩
        · subst e1 e2 e3
          have := same htm hs'
          subst this
          exact ⟨s, hs, .pairL ht e r⟩
        · subst e1 e2 e3
          have := same htm hs'
          subst this
          exact ⟨s, hs, .pairR ht e r⟩
theorem wc_der {p : Prog} (g : Good p) {bs : List Nm} (hb : isBoxes p bs) {s : Spot} {b : Nm} {π : List Nat} (h : WC p s b π) : s ∈ spotsOf p → Der (wishRules p bs) ⟨0, idx p s, b⟩ π := by
  have rule : ∀ {s t : Spot} {r : Rule}, s ∈ spotsOf p → t ∈ nexts p s → r ∈ wantRules bs (lineOf p s) (idx p s) (idx p t) → r ∈ wishRules p bs := fun {s t r} hs ht hr => mem_wish.mpr ⟨idx p s, s, t, idx_get hs, ht, hr⟩
  induction h with
  | read h1 h2 h3 => exact fun hs => .end_ (rule hs h3 (mem_want.mpr (.inr ⟨_, h1, .inl (by rw [readW, h2]; exact List.mem_singleton_self _)⟩)))
  | copy h1 h2 w ih => exact fun hs => .copy (rule hs h1 (mem_want.mpr (.inl ⟨_, (hb.2 _).mpr w.box, h2, rfl⟩))) (ih (next_mem g hs h1))
  | pairL h1 h2 w ih => exact fun hs => .pop (rule hs h1 (mem_want.mpr (.inr ⟨_, h2, .inr (by simp [extraW])⟩))) (ih (next_mem g hs h1))
  | pairR h1 h2 w ih => exact fun hs => .pop (rule hs h1 (mem_want.mpr (.inr ⟨_, h2, .inr (by simp [extraW])⟩))) (ih (next_mem g hs h1))
  | same h1 h2 w ih => exact fun hs => .copy (rule hs h1 (mem_want.mpr (.inr ⟨_, h2, .inr (by simp [extraW])⟩))) (ih (next_mem g hs h1))
  | first h1 h2 w ih => exact fun hs => .push (rule hs h1 (mem_want.mpr (.inr ⟨_, h2, .inr (by simp [extraW])⟩))) (ih (next_mem g hs h1))
  | second h1 h2 w ih => exact fun hs => .push (rule hs h1 (mem_want.mpr (.inr ⟨_, h2, .inr (by simp [extraW])⟩))) (ih (next_mem g hs h1))
/-- the readers as told by the rules -/
structure IsHeld (p : Prog) (wd : Nm) (pl : Option (Nat × Nat)) (r : Reader) : Prop where
  ex : ∃ bs, isBoxes p bs ∧ IsLeast (holdRules p wd pl bs) r
structure IsWish (p : Prog) (r : Reader) : Prop where
  ex : ∃ bs, isBoxes p bs ∧ IsLeast (wishRules p bs) r
theorem goal_meet {p : Prog} (g : Good p) {wd : Nm} {r q : Reader} (h : IsHeld p wd none r) (k : IsWish p q) {n : Nat} {s : Spot} (hs : (spotsOf p)[n]? = some s) {b : Nm} : Goal r q (⟨0, n, b⟩, ⟨0, n, b⟩) ↔ ∃ π, RL p wd none 0 s b π ∧ WC p s b π := by
  obtain ⟨bs, hb, hr⟩ := h.ex
  obtain ⟨bs2, hb2, hq⟩ := k.ex
  have cl := spots_clos g.ok g.small
  have hi := idx_at cl.nd hs
  have hsm := List.mem_of_getElem? hs
  rw [goal_acc]
  constructor
  · rintro ⟨π, h1, h2⟩
    obtain ⟨s1, e1, r1⟩ := der_rl g (acc_der hr π _ h1)
    obtain ⟨s2, e2, r2⟩ := der_wc g (acc_der hq π _ h2)
    have e1 : (spotsOf p)[n]? = some s1 := e1
    have e2 : (spotsOf p)[n]? = some s2 := e2
    rw [hs] at e1 e2
    cases e1
    cases e2
    exact ⟨π, r1, r2⟩
  · rintro ⟨π, h1, h2⟩
    refine ⟨π, ?_, ?_⟩
    · have := der_acc hr (rl_der g hb h1)
      rw [hi] at this
      exact this
    · have := der_acc hq (wc_der g hb2 h2 hsm)
      rw [hi] at this
      exact this
theorem late_end {p : Prog} (g : Good p) {wd : Nm} {pl : Nat × Nat} {r : Reader} (h : IsHeld p wd (some pl) r) : (∃ x ∈ r.ends, x.late = 1 ∧ ∃ s l, (spotsOf p)[x.n]? = some s ∧ lineOf p s = some l ∧ l.reads = some x.box) ↔ LateSem p wd pl := by
  obtain ⟨bs, hb, hr⟩ := h.ex
  constructor
  · rintro ⟨x, hx, e1, s, l, e2, e3, e4⟩
    obtain ⟨s1, e5, r1⟩ := der_rl g (acc_der hr [] x hx)
    rw [e2] at e5
    cases e5
    rw [e1] at r1
    exact ⟨s, x.box, l, r1, e3, e4⟩
  · rintro ⟨s, b, l, r1, e3, e4⟩
    exact ⟨⟨1, idx p s, b⟩, der_acc hr (rl_der g hb r1), rfl, s, l, idx_get (r1.spot g), e3, e4⟩
end Dr
namespace Dr
open PySem PySem.Spec PyProof.Rows L2

/-! few targets -/
def isP (p : Prog) (s : Spot) : Bool := match lineOf p s with
  | some (.pair _ _ _ _) => true
  | _ => false
def isF (p : Prog) (s : Spot) : Bool := match lineOf p s with
  | some (.first _ _) => true
  | some (.second _ _) => true
  | _ => false
def heldU1 (p : Prog) (a : Spot × Nat) : List (Nat × Seat) := match lineOf p a.1 with
  | some (.pair _ _ y z) => [(1, ⟨0, a.2, y⟩), (2, ⟨0, a.2, z⟩)]
  | _ => []
def wishU1 (p : Prog) (a : Spot × Nat) : List (Nat × Seat) := match lineOf p a.1 with
  | some (.first x _) => (nexts p a.1).map fun t => (1, ⟨0, idx p t, x⟩)
  | some (.second x _) => (nexts p a.1).map fun t => (2, ⟨0, idx p t, x⟩)
  | _ => []
def heldU (p : Prog) : List (Nat × Seat) := (spotsOf p).zipIdx.flatMap (heldU1 p)
def wishU (p : Prog) : List (Nat × Seat) := (spotsOf p).zipIdx.flatMap (wishU1 p)
theorem flat_filter {α β γ : Type} {f : α → List β} {P : γ → Bool} {k : α → γ} {c : Nat} (h : ∀ x, (f x).length ≤ if P (k x) = true then c else 0) : ∀ xs : List α, (xs.flatMap f).length ≤ c * ((xs.map k).filter P).length
  | [] => by simp
  | x :: xs => by
    have h1 := h x
    have h2 := flat_filter (f := f) (P := P) (k := k) h xs
    rw [List.flatMap_cons, List.length_append, List.map_cons, List.filter_cons]
    split
    · rename_i e
      rw [if_pos e] at h1
      rw [List.length_cons, Nat.mul_succ]
      omega
    · rename_i e
      rw [if_neg e] at h1
      omega
theorem filter_two {γ : Type} {P Q R : γ → Bool} (h1 : ∀ x, P x = true → R x = true ∧ Q x = false) (h2 : ∀ x, Q x = true → R x = true) : ∀ xs : List γ, (xs.filter P).length + (xs.filter Q).length ≤ (xs.filter R).length
  | [] => by simp
  | x :: xs => by
    have ih := filter_two (P := P) (Q := Q) (R := R) h1 h2 xs
    rw [List.filter_cons, List.filter_cons, List.filter_cons]
    cases hp : P x with
    | true =>
      obtain ⟨r, q⟩ := h1 x hp
      rw [r, q]
      simp only [if_true, Bool.false_eq_true, if_false, List.length_cons]
      omega
    | false =>
      cases hq : Q x with
      | true =>
        rw [h2 x hq]
        simp only [if_true, Bool.false_eq_true, if_false, List.length_cons]
        omega
      | false =>
        simp only [Bool.false_eq_true, if_false]
        split
        · rw [List.length_cons]; omega
        · omega
theorem zip_fst (xs : List Spot) : (xs.zipIdx).map (·.1) = xs := by
  have : ∀ (xs : List Spot) (n : Nat), (xs.zipIdx n).map (·.1) = xs := by
    intro xs
    induction xs with
    | nil => intro n; rfl
    | cons x xs ih => intro n; rw [List.zipIdx_cons, List.map_cons, ih]
  exact this xs 0
theorem line_head {p : Prog} {s : Spot} {l : Line} (h : lineOf p s = some l) : s.head = false := by
  unfold lineOf at h
  split at h
  · cases h
  · rename_i e; simpa using e
theorem next_one {p : Prog} {s : Spot} {l : Line} (h : lineOf p s = some l) (hl : (∃ x y, l = .first x y) ∨ ∃ x y, l = .second x y) : (nexts p s).length ≤ 1 := by
  have hd := line_head h
  unfold lineOf at h
  rw [if_neg (by rw [hd]; decide)] at h
  unfold lnAt at h
  unfold nexts
  cases q : p[s.part]? with
  | none => exact Nat.zero_le _
  | some pt =>
    rw [q] at h
    have h : pt.2[s.k]? = some l := h
    simp only [nextsL]
    rw [if_neg (by rw [hd]; decide), h]
    rcases hl with ⟨x, y, rfl⟩ | ⟨x, y, rfl⟩ <;> exact Nat.le_refl 1
theorem mul_le {P F : Nat} (h : P + F ≤ 60) : (2 * P) * (1 * F) ≤ 4000 := by
  have h1 : ∀ P : Fin 61, (2 * P.val) * (60 - P.val) ≤ 4000 := by decide
  have h2 := h1 ⟨P, by omega⟩
  have h3 : (2 * P) * (1 * F) ≤ (2 * P) * (60 - P) := Nat.mul_le_mul_left _ (by omega)
  exact Nat.le_trans h3 h2
theorem few_targets {p : Prog} (g : Good p) : (heldU p).length * (wishU p).length ≤ 4000 := by
  have cl := spots_clos g.ok g.small
  obtain ⟨U, u1, u2⟩ := g.small.flat
  have hP : (heldU p).length ≤ 2 * ((spotsOf p).filter (isP p)).length := by
    have := flat_filter (f := heldU1 p) (P := isP p) (k := fun a : Spot × Nat => a.1) (c := 2) (fun a => by
      unfold heldU1 isP
      split
      · simp
      · exact Nat.zero_le _) (spotsOf p).zipIdx
    rw [zip_fst] at this
    exact this
  have hF : (wishU p).length ≤ 1 * ((spotsOf p).filter (isF p)).length := by
    have := flat_filter (f := wishU1 p) (P := isF p) (k := fun a : Spot × Nat => a.1) (c := 1) (fun a => by
      unfold wishU1 isF
      split
      · rename_i x y e
        rw [List.length_map, if_pos rfl]
        exact next_one e (.inl ⟨x, y, rfl⟩)
      · rename_i x y e
        rw [List.length_map, if_pos rfl]
        exact next_one e (.inr ⟨x, y, rfl⟩)
      · exact Nat.zero_le _) (spotsOf p).zipIdx
    rw [zip_fst] at this
    exact this
  have hPF := filter_two (P := isP p) (Q := isF p) (R := fun s => !s.head) (fun s h => by
    unfold isP at h
    split at h
    · rename_i e
      refine ⟨by rw [line_head e]; rfl, ?_⟩
      unfold isF
      rw [e]
    · cases h) (fun s h => by
    unfold isF at h
    split at h
    · rename_i e; rw [line_head e]; rfl
    · rename_i e; rw [line_head e]; rfl
    · cases h) (spotsOf p)
  have hR : ((spotsOf p).filter fun s => !s.head).length ≤ 60 := Nat.le_trans (nodup_len (cl.nd.sublist List.filter_sublist) fun s hs => by
    obtain ⟨h1, h2⟩ := List.mem_filter.mp hs
    exact u2 s (cl.ok s h1) (by simpa using h2)) u1
  exact Nat.le_trans (Nat.mul_le_mul hP hF) (mul_le (by omega))
theorem heldU_len {p : Prog} (g : Good p) : (heldU p).length ≤ 240 := by
  have := flat_len (f := heldU1 p) (n := 2) (xs := (spotsOf p).zipIdx) fun a _ => by unfold heldU1; split <;> simp
  rw [List.length_zipIdx] at this
  have h2 := (spots_clos g.ok g.small).len g.small
  unfold heldU
  omega
theorem wishU_len {p : Prog} (g : Good p) : (wishU p).length ≤ 240 := by
  have := flat_len (f := wishU1 p) (n := 2) (xs := (spotsOf p).zipIdx) fun a _ => by
    unfold wishU1
    split
    · rw [List.length_map]; exact nexts_len ..
    · rw [List.length_map]; exact nexts_len ..
    · exact Nat.zero_le _
  rw [List.length_zipIdx] at this
  have h2 := (spots_clos g.ok g.small).len g.small
  unfold wishU
  omega
theorem thg_in {rs : List Rule} {U : List Seat} (h : ∀ r ∈ rs, r.inU U) {s : Seat} {t : Thing} (d : Thg rs s t) : s ∈ U := by
  cases d with
  | end_ hr => exact h _ hr
  | copy hr _ => exact (h _ hr).2
  | push hr _ => exact (h _ hr).2.1
  | pop hr _ _ => exact (h _ hr).2.1
theorem thg_push {rs : List Rule} {s : Seat} {t : Thing} (d : Thg rs s t) : ∀ l a, t = some (l, a) → ∃ b u, .push a l b ∈ rs ∧ Thg rs a u := by
  induction d with
  | end_ hr => exact fun _ _ z => nomatch z
  | copy _ _ ih => exact ih
  | @push a b l t hr d _ => exact fun l' a' e => by cases e; exact ⟨b, t, hr, d⟩
  | pop _ _ _ _ ih => exact ih
theorem thg_late {p : Prog} {wd : Nm} {bs : List Nm} {s : Seat} {t : Thing} (d : Thg (holdRules p wd none bs) s t) : s.late = 0 := by
  have key : ∀ {r : Rule}, r ∈ holdRules p wd none bs → (∀ a b, r = .copy a b → b.late = a.late) ∧ (∀ a l b, r = .push a l b → b.late = a.late) ∧ (∀ a l b, r = .pop a l b → b.late = a.late) ∧ ∀ b, r = .end_ b → b.late = 0 := fun {r} hr => by
    obtain ⟨i, s, t, hs, ht, h⟩ := mem_hold.mp hr
    have e0 : ∀ l : Nat, max l (come none t) = l := fun l => by rw [come_none]; omega
    rcases h with ⟨l, hl, h⟩ | h
    · rw [e0] at h
      rcases mem_box.mp h with ⟨c, h1, _, e⟩ | ⟨ln, e, h⟩
      · subst e
        exact ⟨fun a b z => by cases z; rfl, fun _ _ _ z => (nomatch z), fun _ _ _ z => (nomatch z), fun _ z => (nomatch z)⟩
      · cases ln <;> simp only [extraH, List.mem_cons, List.not_mem_nil, or_false] at h
        · rcases h with h | h <;> subst h <;> exact ⟨fun _ _ z => (nomatch z), fun a l b z => by cases z; rfl, fun _ _ _ z => (nomatch z), fun _ z => (nomatch z)⟩
        all_goals
          subst h
          first
            | exact ⟨fun a b z => by cases z; rfl, fun _ _ _ z => (nomatch z), fun _ _ _ z => (nomatch z), fun _ z => (nomatch z)⟩
            | exact ⟨fun _ _ z => (nomatch z), fun _ _ _ z => (nomatch z), fun a l b z => by cases z; rfl, fun _ z => (nomatch z)⟩
    · unfold madeH at h
      split at h
      · split at h
        · have := List.mem_singleton.mp h
          subst this
          exact ⟨fun _ _ z => (nomatch z), fun _ _ _ z => (nomatch z), fun _ _ _ z => (nomatch z), fun b z => by cases z; exact come_none t⟩
        · cases h
      · cases h
  induction d with
  | end_ hr => exact (key hr).2.2.2 _ rfl
  | copy hr _ ih => exact ((key hr).1 _ _ rfl).trans ih
  | push hr _ ih => exact ((key hr).2.1 _ _ _ rfl).trans ih
  | pop hr _ _ ih _ => exact ((key hr).2.2.1 _ _ _ rfl).trans ih
theorem moves_len {rs : List Rule} {r : Reader} (h : IsLeast rs r) (o : OkRules rs) {V : List (Nat × Seat)} (hV : V.length ≤ 240) (ht : ∀ m ∈ r.moves, m.2 ∈ V) : r.moves.length ≤ 16000000 := by
  obtain ⟨U, u1, u2⟩ := o.uni
  have hs : ∀ m ∈ r.moves, m ∈ U.flatMap fun s => V.map fun v => ((s, v) : Move) := fun m hm =>
    List.mem_flatMap.mpr ⟨m.1, thg_in u2 ((h.moves m).mp hm), List.mem_map.mpr ⟨m.2, ht m hm, rfl⟩⟩
  refine Nat.le_trans (nodup_len h.ndm hs) ?_
  have := flat_len (f := fun s => V.map fun v => ((s, v) : Move)) (n := 240) (xs := U) fun x _ => by rw [List.length_map]; exact hV
  have h2 := Nat.mul_le_mul_right 240 u1
  omega
theorem held_tame {p : Prog} (g : Good p) {wd : Nm} {r : Reader} (h : IsHeld p wd none r) : Tame r (heldU p) := by
  obtain ⟨bs, hb, hr⟩ := h.ex
  have to : ∀ m ∈ r.moves, m.2 ∈ heldU p := fun m hm => by
    obtain ⟨b, u, h1, h2⟩ := thg_push ((hr.moves m).mp hm) m.2.1 m.2.2 rfl
    have hl := thg_late h2
    obtain ⟨i, s, t, hs, ht, h⟩ := mem_hold.mp h1
    refine List.mem_flatMap.mpr ⟨(s, i), mem_zip.mpr hs, ?_⟩
    obtain ⟨m1, l, a⟩ := m
    rcases h with ⟨l', hl', h⟩ | h
    · rcases mem_box.mp h with ⟨c, _, _, e⟩ | ⟨ln, e, h⟩
      · cases e
      · cases ln <;> simp [extraH] at h
        have hl : a.late = 0 := hl
        rcases h with ⟨e1, e2, _⟩ | ⟨e1, e2, _⟩
        · rw [e1] at hl
          have hl : l' = 0 := hl
          subst hl
          unfold heldU1
          rw [e]
          show (l, a) ∈ [_, _]
          rw [e1, e2]
          exact List.mem_cons_self
        · rw [e1] at hl
          have hl : l' = 0 := hl
          subst hl
          unfold heldU1
          rw [e]
          show (l, a) ∈ [_, _]
          rw [e1, e2]
          exact List.mem_cons_of_mem _ List.mem_cons_self
    · unfold madeH at h
      split at h
      · split at h
        · exact absurd (List.mem_singleton.mp h) (by simp)
        · cases h
      · cases h
  exact ⟨hr.ndm, to, moves_len hr (ok_hold g hb) (heldU_len g) to⟩
theorem wish_tame {p : Prog} (g : Good p) {r : Reader} (h : IsWish p r) : Tame r (wishU p) := by
  obtain ⟨bs, hb, hr⟩ := h.ex
  have to : ∀ m ∈ r.moves, m.2 ∈ wishU p := fun m hm => by
    obtain ⟨b, u, h1, h2⟩ := thg_push ((hr.moves m).mp hm) m.2.1 m.2.2 rfl
    obtain ⟨i, s, t, hs, ht, h⟩ := mem_wish.mp h1
    refine List.mem_flatMap.mpr ⟨(s, i), mem_zip.mpr hs, ?_⟩
    obtain ⟨m1, l, a⟩ := m
    rcases mem_want.mp h with ⟨c, _, _, e⟩ | ⟨ln, e, h⟩
    · cases e
    · rcases h with h | h
      · unfold readW at h
        split at h
        · cases h
        · exact absurd (List.mem_singleton.mp h) (by simp)
      · cases ln <;> simp [extraW] at h
        all_goals
          obtain ⟨e1, e2, _⟩ := h
          unfold wishU1
          rw [e]
          show (l, a) ∈ List.map _ _
          rw [e1, e2]
          exact List.mem_map.mpr ⟨t, ht, rfl⟩
  exact ⟨hr.ndm, to, moves_len hr (ok_wish g hb) (wishU_len g) to⟩
end Dr
namespace Dr
open PySem PySem.Spec PyProof.Rows L2

/-! needs -/
open Classical in
noncomputable def decB (q : Prop) : Bool := decide q
theorem decB_true {q : Prop} (h : q) : decB q = true := @decide_eq_true q (Classical.propDecidable q) h
theorem decB_false {q : Prop} (h : ¬ q) : decB q = false := @decide_eq_false q (Classical.propDecidable q) h
section
variable {P : Program} {w : World} {K : PySem.W.Frag} {mg : Str → Option Value} {base : Heap} {f f1 f2 f3 f4 f5 f6 : Addr} {fd d1 d2 d3 d4 d5 d6 : FuncData} {aO aG cg : Addr} {C : Cn} {Γ : Ga} {M M' : Ms} {ta tb tc td te tk tv ty tl : TE} {W0 W : Wo} {T : Kn} {σ : L2.St} {s : Sv} {D : Ends} {tz tbd : TS} {d : PyData} {tt : TT} {R R1 R2 R3 : Sv → Prop}
theorem e_notInP {b : Bool} (ha : EvS C Γ M ta (.dat d)) (hb : EvP C Γ M tb R) (fd : Flat d) (hR : ∀ s, R s → ∃ ds, s = .dat (.list ds) ∧ Flat (.list ds) ∧ (!ds.any fun z => PyData.eqv z d) = b) : EvS C Γ M (tOp (rNotInD C.K) ta tb) (.dat (.bool b)) := fun W0 T σ W S Q k =>
  ha W0 T σ W S _ fun x W1 l1 ok1 => hb W0 T σ W1 (S.le l1) _ fun s y W2 l2 r ok2 => by
    obtain ⟨ds, e, fe, eb⟩ := hR s r
    subst e
    refine ⟨d, ds, Dp.mono (l2.gg.trans W2.fz) _ _ (Da.dp _ _ ok1), Dp.mono W2.fz _ _ (Da.dp _ _ ok2), shaped_of fd, shaped_of fe, ?_⟩
    rw [eb]
    exact k _ W2 (l1.trans l2) (.bl b)
theorem e_notNP {b : Bool} (h : EvP C Γ M te R) (hR : ∀ s, R s → ∃ d, s = .dat d ∧ (!isNone d) = b) : EvS C Γ M (tNotN te) (.dat (.bool b)) := fun W0 T σ W S Q k => h W0 T σ W S _ fun s v W1 l1 r ok => by
  obtain ⟨d, e, eb⟩ := hR s r
  subst e
  rw [non_iff ok, eb]
  exact k _ W1 l1 (.bl _)
/-- arguments told by relations -/
def EvAP (C : Cn) (Γ : Ga) (M : Ms) (t : TA) (R : List Sv → Prop) : Prop := ∀ W0 T σ W, Sta C W0 T σ W Γ M → ∀ Q : List V → Hp → Prop, (∀ ss vs W', Le W W' → R ss → Svs C W'.G vs ss → Q vs W'.H) → t σ W.H Q
theorem ap_nil : EvAP C Γ M tNil (· = []) := fun W0 T σ W S Q k => k [] _ W (Le.refl W) rfl .nil
theorem ap_cons {tr : TA} {Rr : List Sv → Prop} (h : EvP C Γ M te R) (hr : EvAP C Γ M tr Rr) : EvAP C Γ M (tCons te tr) (fun ss => ∃ s r, ss = s :: r ∧ R s ∧ Rr r) := fun W0 T σ W S Q k =>
  h W0 T σ W S _ fun s v W1 l1 r1 ok1 => hr W0 T σ W1 (S.le l1) _ fun ss vs W2 l2 r2 ok2 => k _ _ W2 (l1.trans l2) ⟨s, ss, rfl, r1, r2⟩ (.cons (ok1.mono l2.gg) ok2)
theorem p_callA {α : Type} {args : α → List Sv} {pre : α → Prop} {res : α → Sv → Prop} {t : TA} {E : XK} {Rr : List Sv → Prop} {R' : Sv → Prop} (h : EvAP C Γ M t Rr) (hr : ∀ ss, Rr ss → ∃ a, args a = ss ∧ pre a ∧ ∀ s', res a s' → R' s') : EvP C Γ M (tCall (SpR C args pre res) [] E t) R' := fun W0 T σ W S Q k =>
  h W0 T σ W S _ fun ss vs W1 l1 r ok => by
    obtain ⟨a, e, hp, hs⟩ := hr ss r
    rw [List.append_nil]
    exact ⟨W1, a, rfl, by rw [e]; exact ok, hp, fun s v W2 l2 r ok2 => k s v W2 (l1.trans l2) (hs s r) ok2⟩
abbrev isWord (p : Prog) (wd : Nm) : Prop := ∃ l ∈ allLines p, l.word = some wd
abbrev isPlace (p : Prog) (pl : Nat × Nat) : Prop := ∃ pt, p[pl.1]? = some pt ∧ pl.2 ≤ pt.2.length
abbrev ArgL (a : Prog × Nm × (Nat × Nat)) : List Sv := [.dat (encProg a.1), .dat (encN a.2.1), .dat (encPl a.2.2)]
abbrev sp_look_at (P : Program) (w : World) (K : PySem.W.Frag) : Sp := SpF (C0 P w K) (α := Prog × Nm × (Nat × Nat)) ArgL (fun a => Good a.1 ∧ isWord a.1 a.2.1 ∧ isPlace a.1 a.2.2) (fun _ => .dat .none)
theorem any_nm (xs : List Nm) (n : Nm) : ((xs.map encN).any fun z => PyData.eqv z (encN n)) = decide (n ∈ xs) := by
  induction xs with
  | nil => rfl
  | cons x xs ih =>
    rw [List.map_cons, List.any_cons, ih, show PyData.eqv (encN x) (encN n) = (x.1 == n.1) from rfl, nm_dec]
    by_cases e : x = n
    · subst e; simp
    · have : ¬ n = x := fun z => e z.symm
      simp [e, this]
theorem any_pl (xs : List (Nat × Nat)) (n : Nat × Nat) : ((xs.map encPl).any fun z => PyData.eqv z (encPl n)) = decide (n ∈ xs) := by
  induction xs with
  | nil => rfl
  | cons x xs ih =>
    rw [List.map_cons, List.any_cons, ih, show PyData.eqv (encPl x) (encPl n) = PyData.eqv (encOp (some x)) (encOp (some n)) from rfl, eqv_op]
    by_cases e : x = n
    · subst e; simp
    · have : ¬ n = x := fun z => e z.symm
      simp [e, this]
theorem fl_nms (xs : List Nm) : Flat (.list (xs.map encN)) := (fl_list (n := 1) (fl_map (fun n => fl_str n.2) xs)).flat
theorem fl_pls (xs : List (Nat × Nat)) : Flat (.list (xs.map encPl)) := (fl_list (n := 1) (fl_map fl_pl xs)).flat
theorem Good.pls {p : Prog} (g : Good p) : p.length ≤ 10 ∧ ∀ pt ∈ p, pt.2.length ≤ 1000 := ⟨Nat.le_trans g.ok.few (by decide), fun pt h => Nat.le_trans (g.ok.short pt h) (by decide)⟩
theorem sc_look_at : FnScope ["program", "word", "place"] ["program", "word", "place"] (defScope s_look_at) := ⟨rfl, rfl, rfl, by decide +kernel, rfl, by decide +kernel, by decide +kernel⟩
theorem ok_look_at (c_words_of : Cal P w K mg base 2 "words_of" ["program"] (sp_words_of P w K) f1 d1) (c_places_of : Cal P w K mg base 1 "places_of" ["program"] (sp_places_of P w K) f2 d2) (F : FnP K "look_at" "look_at" s_look_at f fd) : FnOk P w K mg base CX0 3 f fd ["program", "word", "place"] (sp_look_at P w K) := by
  have nd := sc_look_at.nd
  refine F.ok sc_look_at (fun vs H Q E h => SpF.len (n := 3) (fun _ => rfl) h) (fun cdv A outer s H vs Q E hr h => ⟨_, PSs.nox
    (pss_cons (ps_if (pt_cmpR (op_notInD hr.units65) (pv 1) (pe_call c_words_of.F (hr.mono (by decide)) (by rfl) c_words_of.m c_words_of.k c_words_of.b .nil pass0 (pa_cons (pv 0) pa_nil)) (by rfl)) (pss_one ps_never) pss_nil)
    (pss_one (ps_if (pt_cmpR (op_notInD hr.units65) (pv 2) (pe_call c_places_of.F (hr.mono (by decide)) (by rfl) c_places_of.m c_places_of.k c_places_of.b .nil pass0 (pa_cons (pv 0) pa_nil)) (by rfl)) (pss_one ps_never) pss_nil))), ?_⟩)
  obtain ⟨Wz, ⟨p, wd, pl⟩, rfl, ok, ⟨g, hw, hpl⟩, hq⟩ := h
  have g : Good p := g
  have hw : isWord p wd := hw
  have hpl : isPlace p pl := hpl
  have S := sta_start ["program", "word", "place"] ok
  refine q_when S (t_B (e_notInP (b := false) (d := encN wd) (e_var rfl) (p_call p (a_cons (e_var rfl) a_nil) g.few) (fl_str wd.2 : Fl 1 _).flat fun s ⟨bs, hb, e⟩ => ⟨bs.map encN, e, fl_nms bs, ?_⟩)) (fun hb W S => nomatch hb) (fun hb W S => ?_)
  · rw [any_nm, decide_eq_true ((hb.2 wd).mpr hw)]; rfl
  refine s_when S (t_B (e_notInP (b := false) (d := encPl pl) (e_var rfl) (p_call p (a_cons (e_var rfl) a_nil) g.pls) (fl_pl pl).flat fun s ⟨xs, hx, _, e⟩ => ⟨xs.map encPl, e, fl_pls xs, ?_⟩)) (fun hb W S => nomatch hb) (fun hb W S => ?_)
  · rw [any_pl, decide_eq_true ((hx pl).mpr hpl)]; rfl
  exact hq .non W (S.since.lep fun _ h => h) .non
/-- meet at a spot of the place -/
def MeetAt (p : Prog) (wd : Nm) (pl : Nat × Nat) (s : Spot) (b : Nm) : Prop := placeOf s = some pl ∧ ∃ π, RL p wd none 0 s b π ∧ WC p s b π
theorem meet_iff {p : Prog} {wd : Nm} {pl : Nat × Nat} : MeetSem p wd pl ↔ ∃ s ∈ spotsOf p, ∃ b, MeetAt p wd pl s b :=
  ⟨fun ⟨s, b, π, h1, h2, h3, h4⟩ => ⟨s, h1, b, h2, π, h3, h4⟩, fun ⟨s, h1, b, h2, π, h3, h4⟩ => ⟨s, b, π, h1, h2, h3, h4⟩⟩
theorem meet_box {p : Prog} {wd : Nm} {pl : Nat × Nat} {s : Spot} {b : Nm} {bs : List Nm} (hb : isBoxes p bs) (h : MeetAt p wd pl s b) : b ∈ bs := let ⟨_, _, r, _⟩ := h; (hb.2 b).mpr r.box
theorem e_meets {r q : Reader} {wd : Nm} {pl : Nat × Nat} {p : Prog} (g : Good p) (hr : IsHeld p wd none r) (hq : IsWish p q) {n : Nat} {s : Spot} (hs : (spotsOf p)[n]? = some s) {b : Nm} (hpl : placeOf s = some pl) {E : XK} {t : TA} (h : EvA C Γ M t [.dat (encReader r), .dat (encSeat ⟨0, n, b⟩), .dat (encReader q), .dat (encSeat ⟨0, n, b⟩)]) (hC : C = C0 P w K) :
    EvS C Γ M (tNotN (tCall (sp_meets P w K) [] E t)) (.dat (.bool (decB (MeetAt p wd pl s b)))) := by
  subst hC
  refine e_notNP (p_call ((r, q), (⟨0, n, b⟩, ⟨0, n, b⟩)) h ⟨heldU p, wishU p, held_tame g hr, wish_tame g hq, few_targets g⟩) fun s' h' => ?_
  have e := goal_meet g hr hq hs (b := b)
  rcases h' with ⟨ds, e1, e2⟩ | ⟨e1, e2⟩
  · exact ⟨_, e1, by rw [decB_true ⟨hpl, e.mp e2⟩]; rfl⟩
  · exact ⟨_, e1, by rw [decB_false fun z => e2 (e.mpr z.2)]; rfl⟩
abbrev sp_meets_at (P : Program) (w : World) (K : PySem.W.Frag) : Sp := SpR (C0 P w K) (α := (Prog × Nm × (Nat × Nat)) × Reader × Reader) (fun a => [.dat (encProg a.1.1), .dat (encReader a.2.1), .dat (encReader a.2.2), .dat (encPl a.1.2.2)]) (fun a => Good a.1.1 ∧ IsHeld a.1.1 a.1.2.1 none a.2.1 ∧ IsWish a.1.1 a.2.2) (fun a s => s = .dat (.bool (decB (MeetSem a.1.1 a.1.2.1 a.1.2.2))))
theorem sc_meets_at : FnScope ["program", "held", "wish", "place", "n", "spot", "box"] ["program", "held", "wish", "place"] (defScope s_meets_at) := ⟨rfl, rfl, rfl, by decide +kernel, rfl, by decide +kernel, by decide +kernel⟩
theorem ok_meets_at (T : Txt K mg aO aG) (c_spots : Cal P w K mg base 4 "spots" ["program"] (sp_spots P w K) f1 d1) (c_place_of : Cal P w K mg base 1 "place_of" ["spot"] (sp_place_of P w K) f2 d2) (c_boxes_of : Cal P w K mg base 2 "boxes_of" ["program"] (sp_boxes_of P w K) f3 d3) (c_meets : Cal P w K mg base 3 "meets" ["one", "seat", "other", "other_seat"] (sp_meets P w K) f4 d4)
    (F : FnP K "meets_at" "meets_at" s_meets_at f fd) : FnOk P w K mg base CX0 5 f fd ["program", "held", "wish", "place"] (sp_meets_at P w K) := by
  have nd := sc_meets_at.nd
  have tx := T
  refine F.ok sc_meets_at (fun vs H Q E h => SpR.len (n := 4) (fun _ => rfl) h) (fun cdv A outer s H vs Q E hr h => ⟨_, PSs.nox
    (pss_cons (ps_for PassesOwn.never rfl (pi_enum (by rfl) tx.enumerate (pa_cons (pe_call c_spots.F (hr.mono (by decide)) (by rfl) c_spots.m c_spots.k c_spots.b .nil pass0 (pa_cons (pv 0) pa_nil)) pa_nil)) (pg_tup rfl (pgs_cons (pg_name (i := 4) nd rfl (Or.inl rfl)) (pgs_cons (pg_name (i := 5) nd rfl (Or.inl rfl)) pgs_nil))) (pss_one (ps_if (pt_cmpR (op_eqD hr.units) (pe_call c_place_of.F (hr.mono (by decide)) (by rfl) c_place_of.m c_place_of.k c_place_of.b .nil pass0 (pa_cons (pv 5) pa_nil)) (pv 3) (nomark _)) (pss_one (ps_for PassesOwn.never rfl (pi_list (pe_call c_boxes_of.F (hr.mono (by decide)) (by rfl) c_boxes_of.m c_boxes_of.k c_boxes_of.b .nil pass0 (pa_cons (pv 0) pa_nil))) (pg_name (i := 6) nd rfl (Or.inl rfl)) (pss_one (ps_if (pt_cmp (pc_notN (pe_call c_meets.F (hr.mono (by decide)) (by rfl) c_meets.m c_meets.k c_meets.b .nil pass0 (pa_cons (pv 1) (pa_cons (pe_tup (pa_cons pe_int (pa_cons (pv 4) (pa_cons (pv 6) pa_nil)))) (pa_cons (pv 2) (pa_cons (pe_tup (pa_cons pe_int (pa_cons (pv 4) (pa_cons (pv 6) pa_nil)))) pa_nil)))))) rfl) (pss_one (ps_ret pe_bl)) pss_nil)))) pss_nil)))
    (pss_one (ps_ret pe_bl))), ?_⟩)
  obtain ⟨Wz, ⟨⟨p, wd, pl⟩, r, q⟩, rfl, ok, ⟨g, hh, hw⟩, hq⟩ := h
  have g : Good p := g
  have hh : IsHeld p wd none r := hh
  have hw : IsWish p q := hw
  have hq : ∀ s v W', Le Wz W' → s = .dat (.bool (decB (MeetSem p wd pl))) → SvOk (C0 P w K) W'.G v s → Q v W'.H := hq
  have S := sta_start ["program", "held", "wish", "place", "n", "spot", "box"] ok
  refine q_forE (C := C0 P w K) (xs := spotsOf p) encSpot (fun _ : Unit => [some (.dat (encProg p)), some (.dat (encReader r)), some (.dat (encReader q)), some (.dat (encPl pl)), none, none, none]) (fun _ => []) (fun i _ => ∀ s ∈ (spotsOf p).take i, ∀ b, ¬ MeetAt p wd pl s b) () S (e_call p (a_cons (e_var rfl) a_nil) ⟨g.ok, g.small⟩) (fun σ W S => S) (fun s hs => by simp at hs) (fun i x => g_tup2) (fun i a s T' σ W hs hI S => ?_) (fun a σ W hI S => ?_)
  · have next : ∀ {σ : L2.St} {W : Wo} {Γ' : Ga}, (∀ b, ¬ MeetAt p wd pl s b) → Sta (C0 P w K) Wz T' σ W [some (.dat (encProg p)), some (.dat (encReader r)), some (.dat (encReader q)), some (.dat (encPl pl)), none, none, none] [] →
        At (C0 P w K) Wz T' (fun _ : Unit => [some (.dat (encProg p)), some (.dat (encReader r)), some (.dat (encReader q)), some (.dat (encPl pl)), none, none, none]) (fun _ => []) (fun _ => ∀ s ∈ (spotsOf p).take (i + 1), ∀ b, ¬ MeetAt p wd pl s b) σ W.H := fun {σ W Γ'} hn S => At.mk () (fun z hz => by
      rcases (mem_take_succ hs).mp hz with hz | hz
      · exact hI z hz
      · rw [hz]; exact hn) S
    refine s_when S (t_B ((e_eq (d := encOp (placeOf s)) (e := encOp (some pl)) (e_call s (a_cons (e_var rfl) a_nil) trivial) (e_var rfl) (fl_op _).flat (fl_op _).flat).to (by rw [eqv_op]))) (fun hb W S => ?_) (fun hb W S => ?_)
    · have hpl := of_decide_eq_true hb
      refine s_forLP S (p_call p (a_cons (e_var rfl) a_nil) g.few) fun sv ⟨bs, hbs, e⟩ W S v hv => ?_
      subst e
      refine s_forLA (C := C0 P w K) (xs := bs) encN (fun _ : Unit => [some (.dat (encProg p)), some (.dat (encReader r)), some (.dat (encReader q)), some (.dat (encPl pl)), some (.dat (.int (i : Int))), some (.dat (encSpot s)), none]) (fun _ => []) (fun j _ => ∀ b ∈ bs.take j, ¬ MeetAt p wd pl s b) () S (EvAt.known hv) (fun σ W S => S) (fun b hb => by simp at hb) (fun x => g_name) (fun j a b T'' σ W hb hJ S => ?_) (fun a σ W hJ S => ?_)
      · have hseat : ∀ {M : Ms}, EvS (C0 P w K) [some (.dat (encProg p)), some (.dat (encReader r)), some (.dat (encReader q)), some (.dat (encPl pl)), some (.dat (.int (i : Int))), some (.dat (encSpot s)), some (.dat (encN b))] M (tTup (tCons (tC (.int 0)) (tCons (tVar 4) (tCons (tVar 6) tNil)))) (.dat (encSeat ⟨0, i, b⟩)) := e_seat3 (a := 0) e_int (e_var rfl) (e_var rfl)
        refine s_when S (t_B (e_meets (C := C0 P w K) g hh hw hs hpl (a_cons (e_var rfl) (a_cons hseat (a_cons (e_var rfl) (a_cons hseat a_nil)))) rfl)) (fun hz W S => ?_) (fun hz W S => ?_)
        · have hm : MeetAt p wd pl s b := by
            refine Classical.byContradiction fun z => ?_
            rw [decB_false z] at hz; cases hz
          refine s_ret S e_bl fun v W' si ok => ?_
          exact hq _ v W' (si.lep fun _ h => h) (by rw [decB_true (meet_iff.mpr ⟨s, List.mem_of_getElem? hs, b, hm⟩)]) ok
        · refine At.mk () (fun c hc => ?_) S.w
          rcases (mem_take_succ hb).mp hc with hc | hc
          · exact hJ c hc
          · rw [hc]; intro z; rw [decB_true z] at hz; cases hz
      · rw [List.take_length] at hJ
        exact next (Γ' := []) (fun b hb => hJ b (meet_box hbs hb) hb) S.w
    · have hpl := of_decide_eq_false hb
      exact next (Γ' := []) (fun b hb => hpl hb.1) S.w
  · rw [List.take_length] at hI
    refine s_ret S e_bl fun v W' si ok => ?_
    exact hq _ v W' (si.lep fun _ h => h) (by rw [decB_false fun z => by obtain ⟨s, hs, b, hb⟩ := meet_iff.mp z; exact hI s hs b hb]) ok
abbrev sp_is_done (P : Program) (w : World) (K : PySem.W.Frag) : Sp := SpF (C0 P w K) (α := Prog × Nm × (Nat × Nat)) ArgL (fun a => Good a.1 ∧ isWord a.1 a.2.1 ∧ isPlace a.1 a.2.2) (fun a => .dat (.bool (!decB (MeetSem a.1 a.2.1 a.2.2))))
theorem holds_is {p : Prog} {wd : Nm} {pl : Option (Nat × Nat)} {s : Sv} (h : ∃ bs r, isBoxes p bs ∧ IsLeast (holdRules p wd pl bs) r ∧ s = .dat (encReader r)) : ∃ r, IsHeld p wd pl r ∧ s = .dat (encReader r) := let ⟨bs, r, h1, h2, h3⟩ := h; ⟨r, ⟨bs, h1, h2⟩, h3⟩
theorem wants_is {p : Prog} {s : Sv} (h : ∃ bs r, isBoxes p bs ∧ IsLeast (wishRules p bs) r ∧ s = .dat (encReader r)) : ∃ r, IsWish p r ∧ s = .dat (encReader r) := let ⟨bs, r, h1, h2, h3⟩ := h; ⟨r, ⟨bs, h1, h2⟩, h3⟩
theorem p_holds1 {p : Prog} {wd : Nm} (g : Good p) {E : XK} {t : TA} (h : EvA (C0 P w K) Γ M t [.dat (encProg p), .dat (encN wd)]) : EvP (C0 P w K) Γ M (tCall (sp_holds P w K) [.non] E t) (fun s => ∃ r, IsHeld p wd none r ∧ s = .dat (encReader r)) :=
  (p_call1 (sv := .dat .none) (p, wd, none) h rfl (fun G => Da.non) g).imp fun s h => holds_is h
theorem sc_is_done : FnScope ["program", "word", "place"] ["program", "word", "place"] (defScope s_is_done) := ⟨rfl, rfl, rfl, by decide +kernel, rfl, by decide +kernel, by decide +kernel⟩
theorem ok_is_done (c_look_at : Cal P w K mg base 3 "look_at" ["program", "word", "place"] (sp_look_at P w K) f1 d1) (c_holds : Cal P w K mg base 7 "holds" ["program", "word", "place"] (sp_holds P w K) f2 d2) {dv : List Value} (b_holds1 : Binds K d2 ["program", "word", "place"] [.none]) (c_wants : Cal P w K mg base 7 "wants" ["program"] (sp_wants P w K) f3 d3) (c_meets_at : Cal P w K mg base 5 "meets_at" ["program", "held", "wish", "place"] (sp_meets_at P w K) f4 d4)
    (F : FnP K "is_done" "is_done" s_is_done f fd) : FnOk P w K mg base CX0 8 f fd ["program", "word", "place"] (sp_is_done P w K) := by
  have nd := sc_is_done.nd
  refine F.ok sc_is_done (fun vs H Q E h => SpF.len (n := 3) (fun _ => rfl) h) (fun cdv A outer s H vs Q E hr h => ⟨_, PSs.nox
    (pss_cons (ps_expr (pe_call c_look_at.F (hr.mono (by decide)) (by rfl) c_look_at.m c_look_at.k c_look_at.b .nil pass0 (pa_cons (pv 0) (pa_cons (pv 1) (pa_cons (pv 2) pa_nil)))))
    (pss_one (ps_ret (pe_not (pe_call c_meets_at.F (hr.mono (by decide)) (by rfl) c_meets_at.m c_meets_at.k c_meets_at.b .nil pass0 (pa_cons (pv 0) (pa_cons (pe_call c_holds.F (hr.mono (by decide)) (by rfl) c_holds.m c_holds.k b_holds1 (Paired.cons (show RelV V.non Value.none from rfl) Paired.nil) pass0 (pa_cons (pv 0) (pa_cons (pv 1) pa_nil))) (pa_cons (pe_call c_wants.F (hr.mono (by decide)) (by rfl) c_wants.m c_wants.k c_wants.b .nil pass0 (pa_cons (pv 0) pa_nil)) (pa_cons (pv 2) pa_nil))))))))), ?_⟩)
  obtain ⟨Wz, ⟨p, wd, pl⟩, rfl, ok, ⟨g, hw, hpl⟩, hq⟩ := h
  have g : Good p := g
  have S := sta_start ["program", "word", "place"] ok
  refine q_drop S (e_call (p, wd, pl) (a_cons (e_var rfl) (a_cons (e_var rfl) (a_cons (e_var rfl) a_nil))) ⟨g, hw, hpl⟩) fun W S => ?_
  refine s_ret S (e_notV (b := decB (MeetSem p wd pl)) ((p_callA (R' := fun s => s = .dat (.bool (decB (MeetSem p wd pl)))) (ap_cons (e_var (s := .dat (encProg p)) rfl).p (ap_cons (p_holds1 (wd := wd) g (a_cons (e_var rfl) (a_cons (e_var rfl) a_nil))) (ap_cons ((p_call p (a_cons (e_var rfl) a_nil) g).imp fun s h => wants_is h) (ap_cons (e_var (s := .dat (encPl pl)) rfl).p ap_nil)))) ?_).one fun s e => e)) fun v W' si ok => ?_
  · rintro ss ⟨s1, r1, rfl, rfl, s2, r2, rfl, ⟨h, hh, rfl⟩, s3, r3, rfl, ⟨k, hk, rfl⟩, s4, r4, rfl, rfl, rfl⟩
    exact ⟨((p, wd, pl), h, k), rfl, ⟨g, hh, hk⟩, fun s' e => e⟩
  · exact hq v W' (si.lep fun _ h => h) ok
abbrev sp_law_meet (P : Program) (w : World) (K : PySem.W.Frag) : Sp := SpF (C0 P w K) (α := (Prog × Nm × (Nat × Nat)) × Reader) (fun a => [.dat (encProg a.1.1), .dat (encN a.1.2.1), .dat (encPl a.1.2.2), .dat (encReader a.2)]) (fun a => Good a.1.1 ∧ IsWish a.1.1 a.2) (fun a => .dat (.bool (decB (MeetSem a.1.1 a.1.2.1 a.1.2.2))))
abbrev sp_law_late (P : Program) (w : World) (K : PySem.W.Frag) : Sp := SpF (C0 P w K) (α := Prog × Nm × (Nat × Nat)) ArgL (fun a => Good a.1) (fun a => .dat (.bool (decB (MeetSem a.1 a.2.1 a.2.2))))
theorem sc_law_meet : FnScope ["program", "word", "place", "wish", "held", "n", "spot", "box"] ["program", "word", "place", "wish"] (defScope s_law_meet) := ⟨rfl, rfl, rfl, by decide +kernel, rfl, by decide +kernel, by decide +kernel⟩
theorem ok_law_meet (T : Txt K mg aO aG) (c_holds : Cal P w K mg base 7 "holds" ["program", "word", "place"] (sp_holds P w K) f5 d5) (b_holds1 : Binds K d5 ["program", "word", "place"] [.none]) (c_spots : Cal P w K mg base 4 "spots" ["program"] (sp_spots P w K) f1 d1) (c_place_of : Cal P w K mg base 1 "place_of" ["spot"] (sp_place_of P w K) f2 d2) (c_boxes_of : Cal P w K mg base 2 "boxes_of" ["program"] (sp_boxes_of P w K) f3 d3) (c_meets : Cal P w K mg base 3 "meets" ["one", "seat", "other", "other_seat"] (sp_meets P w K) f4 d4)
    (F : FnP K "_law_meet" "_law_meet" s_law_meet f fd) : FnOk P w K mg base CX0 8 f fd ["program", "word", "place", "wish"] (sp_law_meet P w K) := by
  have nd := sc_law_meet.nd
  have tx := T
  refine F.ok sc_law_meet (fun vs H Q E h => SpF.len (n := 4) (fun _ => rfl) h) (fun cdv A outer s H vs Q E hr h => ⟨_, PSs.nox
    (pss_cons (ps_set (i := 4) nd rfl (Or.inl rfl) (pe_call c_holds.F (hr.mono (by decide)) (by rfl) c_holds.m c_holds.k b_holds1 (Paired.cons (show RelV V.non Value.none from rfl) Paired.nil) pass0 (pa_cons (pv 0) (pa_cons (pv 1) pa_nil))))
    (pss_cons (ps_for PassesOwn.never rfl (pi_enum (by rfl) tx.enumerate (pa_cons (pe_call c_spots.F (hr.mono (by decide)) (by rfl) c_spots.m c_spots.k c_spots.b .nil pass0 (pa_cons (pv 0) pa_nil)) pa_nil)) (pg_tup rfl (pgs_cons (pg_name (i := 5) nd rfl (Or.inl rfl)) (pgs_cons (pg_name (i := 6) nd rfl (Or.inl rfl)) pgs_nil))) (pss_one (ps_for PassesOwn.never rfl (pi_list (pe_call c_boxes_of.F (hr.mono (by decide)) (by rfl) c_boxes_of.m c_boxes_of.k c_boxes_of.b .nil pass0 (pa_cons (pv 0) pa_nil))) (pg_name (i := 7) nd rfl (Or.inl rfl)) (pss_one (ps_if (PW.pt (pw_and (pt_cmpR (op_eqD hr.units) (pe_call c_place_of.F (hr.mono (by decide)) (by rfl) c_place_of.m c_place_of.k c_place_of.b .nil pass0 (pa_cons (pv 6) pa_nil)) (pv 2) (nomark _)) (pw_and1 (pt_cmp (pc_notN (pe_call c_meets.F (hr.mono (by decide)) (by rfl) c_meets.m c_meets.k c_meets.b .nil pass0 (pa_cons (pv 4) (pa_cons (pe_tup (pa_cons pe_int (pa_cons (pv 5) (pa_cons (pv 7) pa_nil)))) (pa_cons (pv 3) (pa_cons (pe_tup (pa_cons pe_int (pa_cons (pv 5) (pa_cons (pv 7) pa_nil)))) pa_nil)))))) rfl)))) (pss_one (ps_ret pe_bl)) pss_nil)))))
    (pss_one (ps_ret pe_bl)))), ?_⟩)
  obtain ⟨Wz, ⟨⟨p, wd, pl⟩, q⟩, rfl, ok, ⟨g, hw⟩, hq⟩ := h
  have g : Good p := g
  have hw : IsWish p q := hw
  have hq : ∀ v W', Le Wz W' → SvOk (C0 P w K) W'.G v (.dat (.bool (decB (MeetSem p wd pl)))) → Q v W'.H := hq
  have S := sta_start ["program", "word", "place", "wish", "held", "n", "spot", "box"] ok
  refine q_setP S (p_holds1 (wd := wd) g (a_cons (e_var rfl) (a_cons (e_var rfl) a_nil))) fun sv ⟨r, hh, e⟩ σ W S => ?_
  subst e
  refine q_forE (C := C0 P w K) (xs := spotsOf p) encSpot (fun _ : Unit => [some (.dat (encProg p)), some (.dat (encN wd)), some (.dat (encPl pl)), some (.dat (encReader q)), some (.dat (encReader r)), none, none, none]) (fun _ => []) (fun i _ => ∀ s ∈ (spotsOf p).take i, ∀ b, ¬ MeetAt p wd pl s b) () S (e_call p (a_cons (e_var rfl) a_nil) ⟨g.ok, g.small⟩) (fun σ W S => S) (fun s hs => by simp at hs) (fun i x => g_tup2) (fun i a s T' σ W hs hI S => ?_) (fun a σ W hI S => ?_)
  · refine s_forLP S (p_call p (a_cons (e_var rfl) a_nil) g.few) fun sv ⟨bs, hbs, e⟩ W S v hv => ?_
    subst e
    refine s_forLA (C := C0 P w K) (xs := bs) encN (fun _ : Unit => [some (.dat (encProg p)), some (.dat (encN wd)), some (.dat (encPl pl)), some (.dat (encReader q)), some (.dat (encReader r)), some (.dat (.int (i : Int))), some (.dat (encSpot s)), none]) (fun _ => []) (fun j _ => ∀ b ∈ bs.take j, ¬ MeetAt p wd pl s b) () S (EvAt.known hv) (fun σ W S => S) (fun b hb => by simp at hb) (fun x => g_name) (fun j a b T'' σ W hb hJ S => ?_) (fun a σ W hJ S => ?_)
    · have hseat : ∀ {M : Ms}, EvS (C0 P w K) [some (.dat (encProg p)), some (.dat (encN wd)), some (.dat (encPl pl)), some (.dat (encReader q)), some (.dat (encReader r)), some (.dat (.int (i : Int))), some (.dat (encSpot s)), some (.dat (encN b))] M (tTup (tCons (tC (.int 0)) (tCons (tVar 5) (tCons (tVar 7) tNil)))) (.dat (encSeat ⟨0, i, b⟩)) := e_seat3 (a := 0) e_int (e_var rfl) (e_var rfl)
      refine s_when S (t_and (b := decide (placeOf s = some pl)) (c := decB (MeetAt p wd pl s b)) (t_B ((e_eq (d := encOp (placeOf s)) (e := encOp (some pl)) (e_call s (a_cons (e_var rfl) a_nil) trivial) (e_var rfl) (fl_op _).flat (fl_op _).flat).to (by rw [eqv_op]))) fun hpl => t_B (e_meets (C := C0 P w K) g hh hw hs (of_decide_eq_true hpl) (a_cons (e_var rfl) (a_cons hseat (a_cons (e_var rfl) (a_cons hseat a_nil)))) rfl)) (fun hz W S => ?_) (fun hz W S => ?_)
      · have hm : MeetAt p wd pl s b := by
          refine Classical.byContradiction fun z => ?_
          rw [decB_false z, Bool.and_false] at hz; cases hz
        refine s_ret S e_bl fun v W' si ok => ?_
        exact hq v W' (si.lep fun _ h => h) (by rw [decB_true (meet_iff.mpr ⟨s, List.mem_of_getElem? hs, b, hm⟩)]; exact ok)
      · refine At.mk () (fun c hc => ?_) S.w
        rcases (mem_take_succ hb).mp hc with hc | hc
        · exact hJ c hc
        · rw [hc]; intro z; rw [decB_true z, decide_eq_true z.1] at hz; cases hz
    · rw [List.take_length] at hJ
      refine At.mk () (fun z hz => ?_) S.w
      rcases (mem_take_succ hs).mp hz with hz | hz
      · exact hI z hz
      · rw [hz]; exact fun b hb => hJ b (meet_box hbs hb) hb
  · rw [List.take_length] at hI
    refine s_ret S e_bl fun v W' si ok => ?_
    exact hq v W' (si.lep fun _ h => h) (by rw [decB_false fun z => by obtain ⟨s, hs, b, hb⟩ := meet_iff.mp z; exact hI s hs b hb]; exact ok)
end
end Dr
namespace Dr
open PySem PySem.Spec PyProof.Rows L2

section
variable {P : Program} {w : World} {K : PySem.W.Frag} {mg : Str → Option Value} {base : Heap} {f f1 f2 f3 f4 f5 f6 : Addr} {fd d1 d2 d3 d4 d5 d6 : FuncData} {aO aG cg : Addr} {C : Cn} {Γ : Ga} {M M' : Ms} {ta tb tc td te tk tv ty tl : TE} {W0 W : Wo} {T : Kn} {σ : L2.St} {s : Sv} {D : Ends} {tz tbd : TS} {d : PyData} {tt : TT} {R R1 R2 R3 : Sv → Prop}
theorem q_forLA {α β : Type} (enc : β → PyData) {xs : List β} {f : β → Ga → Ga} {g : TG} (Gm : α → Ga) (Mm : α → Ms) (I : Nat → α → Prop) (a0 : α) (S : Sta C W0 T σ W Γ M) (h : EvAt C σ W te (.dat (.list (xs.map enc))))
    (h0 : ∀ σ W, Sta C W0 T σ W Γ M → Sta C W0 T σ W (Gm a0) (Mm a0)) (i0 : I 0 a0) (hg : ∀ x, GAs C g (.dat (enc x)) (f x))
    (hs : ∀ i a x T' σ W, xs[i]? = some x → I i a → Sta C W0 T' σ W (f x (Gm a)) (Mm a) → tbd (EndsAt { D with nx := tz D } (At C W0 T' Gm Mm (I (i + 1)))) σ W.H)
    (hd : ∀ a σ W, I xs.length a → Sta C W0 T σ W (Gm a) (Mm a) → tz D σ W.H) : tSeq (tFor (iList C.K te) g tbd) tz D σ W.H := s_forLA (D := { D with nx := tz D }) enc Gm Mm I a0 S h h0 i0 hg hs hd
theorem p_rd0 {q : Reader → Prop} (h : EvP C Γ M te (fun s => ∃ r, q r ∧ s = .dat (encReader r))) : EvP C Γ M (tOp (rIx C.K) te (tC (.int 0))) (fun s => ∃ r, q r ∧ s = .dat (.list (r.ends.map encSeat))) := fun W0 T σ W S Q k =>
  h W0 T σ W S _ fun s v W1 l1 ⟨r, hr, e⟩ ok => by
    subst e
    have ok : Da C.K W1.G v (.tuple [.list (r.ends.map encSeat), .list (r.moves.map encMove)]) := ok
    cases ok with
    | tup hs hall =>
      obtain ⟨x, h1, h2⟩ := hall.atI (i := 0) (atI_nat (j := 0) rfl)
      exact .inr (.inl ⟨_, _, 0, x, rfl, rfl, Same.seqT W1.fz hs, h1, k _ x W1 l1 ⟨r, hr, rfl⟩ h2⟩)
theorem fs_in (k : Kw) : strIn k.str ["first", "second"] = (decide (k = .first) || decide (k = .second)) := by cases k <;> decide +kernel
theorem reads_cond (l : Line) (b : Nm) : ((strIn l.kw.str ["first", "second"] && decide (l.reads = some b)) || (decide (l.kw = .tell) && decide (l.reads = some b))) = decide (l.reads = some b) := by
  rw [fs_in]
  cases l <;> simp [Line.kw, Line.reads]
def LateAt (p : Prog) (x : Seat) : Prop := x.late = 1 ∧ ∃ s l, (spotsOf p)[x.n]? = some s ∧ lineOf p s = some l ∧ l.reads = some x.box
theorem sc_law_late : FnScope ["program", "word", "place", "told", "late", "n", "box", "line"] ["program", "word", "place"] (defScope s_law_late) := ⟨rfl, rfl, rfl, by decide +kernel, rfl, by decide +kernel, by decide +kernel⟩
theorem ok_law_late (T : Txt K mg aO aG) (c_holds : Cal P w K mg base 7 "holds" ["program", "word", "place"] (sp_holds P w K) f5 d5) (c_spots : Cal P w K mg base 4 "spots" ["program"] (sp_spots P w K) f1 d1) (c_line_of : Cal P w K mg base 1 "line_of" ["program", "spot"] (sp_line_of P w K) f2 d2)
    (F : FnP K "_law_late" "_law_late" s_law_late f fd) : FnOk P w K mg base CX0 8 f fd ["program", "word", "place"] (sp_law_late P w K) := by
  have nd := sc_law_late.nd
  have tx := T
  refine F.ok sc_law_late (fun vs H Q E h => SpF.len (n := 3) (fun _ => rfl) h) (fun cdv A outer s H vs Q E hr h => ⟨_, PSs.nox
    (pss_cons (ps_set (i := 3) nd rfl (Or.inl rfl) (pe_call c_spots.F (hr.mono (by decide)) (by rfl) c_spots.m c_spots.k c_spots.b .nil pass0 (pa_cons (pv 0) pa_nil)))
    (pss_cons (ps_for PassesOwn.never rfl (pi_list (pe_ix ix_seq (pe_call c_holds.F (hr.mono (by decide)) (by rfl) c_holds.m c_holds.k c_holds.b .nil pass0 (pa_cons (pv 0) (pa_cons (pv 1) (pa_cons (pv 2) pa_nil)))) pe_int (fun _ _ => rfl))) (pg_tup rfl (pgs_cons (pg_name (i := 4) nd rfl (Or.inl rfl)) (pgs_cons (pg_name (i := 5) nd rfl (Or.inl rfl)) (pgs_cons (pg_name (i := 6) nd rfl (Or.inl rfl)) pgs_nil)))) (pss_cons (ps_set (i := 7) nd rfl (Or.inl rfl) (pe_call c_line_of.F (hr.mono (by decide)) (by rfl) c_line_of.m c_line_of.k c_line_of.b .nil pass0 (pa_cons (pv 0) (pa_cons (pe_ix ix_seq (pv 3) (pv 5) (fun _ _ => rfl)) pa_nil))))
    (pss_one (ps_if (PW.pt (pw_and (pt_cmpR (op_eqD hr.units) (pv 4) pe_int (nomark _)) (pw_and1 (pt_cmp (pc_notN (pv 7)) rfl)))) (pss_one (ps_if (PW.pt (pw_or (PW.pt (pw_and (pt_cmpR op_in_seq (pe_ix ix_seq (pv 7) pe_int (fun _ _ => rfl)) (pe_tup (pa_cons pe_str (pa_cons pe_str pa_nil))) (by rfl)) (pw_and1 (pt_cmpR (op_eqD hr.units) (pe_ix ix_seq (pv 7) pe_int (fun _ _ => rfl)) (pv 6) (nomark _))))) (pw_or1 (PW.pt (pw_and (pt_cmpR (op_eqD hr.units) (pe_ix ix_seq (pv 7) pe_int (fun _ _ => rfl)) pe_str (nomark _)) (pw_and1 (pt_cmpR (op_eqD hr.units) (pe_ix ix_seq (pv 7) pe_int (fun _ _ => rfl)) (pv 6) (nomark _)))))))) (pss_one (ps_ret pe_bl)) pss_nil)) pss_nil))))
    (pss_one (ps_ret pe_bl)))), ?_⟩)
  obtain ⟨Wz, ⟨p, wd, pl⟩, rfl, ok, g, hq⟩ := h
  have g : Good p := g
  have hq : ∀ v W', Le Wz W' → SvOk (C0 P w K) W'.G v (.dat (.bool (decB (MeetSem p wd pl)))) → Q v W'.H := hq
  have cl := spots_clos g.ok g.small
  have S := sta_start ["program", "word", "place", "told", "late", "n", "box", "line"] ok
  refine q_set S (e_call p (a_cons (e_var rfl) a_nil) ⟨g.ok, g.small⟩) fun σ W S => ?_
  refine q_forLP S (p_rd0 ((p_call (p, wd, some pl) (a_cons (e_var rfl) (a_cons (e_var rfl) (a_cons (e_var rfl) a_nil))) g).imp fun s h => holds_is h)) fun sv ⟨r, hh, e⟩ W S v hv => ?_
  subst e
  have hL := late_end g hh
  have hdr : ∀ x ∈ r.ends, ∃ s, (spotsOf p)[x.n]? = some s := fun x hx => by
    obtain ⟨bs, hb, hl⟩ := hh.ex
    obtain ⟨s, e, _⟩ := der_rl g (acc_der hl [] x hx)
    exact ⟨s, e⟩
  refine q_forLA (C := C0 P w K) (xs := r.ends) encSeat (fun _ : Unit => [some (.dat (encProg p)), some (.dat (encN wd)), some (.dat (encPl pl)), some (.dat (.list ((spotsOf p).map encSpot))), none, none, none, none]) (fun _ => []) (fun j _ => ∀ x ∈ r.ends.take j, ¬ LateAt p x) () S (EvAt.known hv) (fun σ W S => S) (fun b hb => by simp at hb) (fun x => g_tup3) (fun i a x T' σ W hx hI S => ?_) (fun a σ W hI S => ?_)
  · obtain ⟨s, hs⟩ := hdr x (List.mem_of_getElem? hx)
    have next : ∀ {σ : L2.St} {W : Wo}, ¬ LateAt p x → Sta (C0 P w K) Wz T' σ W [some (.dat (encProg p)), some (.dat (encN wd)), some (.dat (encPl pl)), some (.dat (.list ((spotsOf p).map encSpot))), none, none, none, none] [] →
        At (C0 P w K) Wz T' (fun _ : Unit => [some (.dat (encProg p)), some (.dat (encN wd)), some (.dat (encPl pl)), some (.dat (.list ((spotsOf p).map encSpot))), none, none, none, none]) (fun _ => []) (fun _ => ∀ x ∈ r.ends.take (i + 1), ¬ LateAt p x) σ W.H := fun {σ W} hn S => At.mk () (fun z hz => by
      rcases (mem_take_succ hx).mp hz with hz | hz
      · exact hI z hz
      · rw [hz]; exact hn) S
    refine q_set S (e_call (p, s) (a_cons (e_var rfl) (a_cons (e_ixL (e_var rfl) (e_var (s := .dat (.int (x.n : Int))) rfl) (atI_nat (by rw [List.getElem?_map, hs]; rfl))) a_nil)) (line_ok (cl.ok s (List.mem_of_getElem? hs)))) fun σ W S => ?_
    refine s_when S (t_and (t_B (e_eqI (i := x.late) (j := 1) (e_var rfl) e_int)) fun _ => t_B (e_notN (e_var (s := .dat (encOL (lineOf p s))) rfl))) (fun hb W S => ?_) (fun hb W S => ?_)
    · rw [Bool.and_eq_true, isN_ol] at hb
      have hl1 : x.late = 1 := of_decide_eq_true hb.1
      cases hln : lineOf p s with
      | none => rw [hln] at hb; exact absurd hb.2 (by decide)
      | some l =>
        rw [hln] at S
        have hkw : ∀ {M : Ms}, EvS (C0 P w K) [some (.dat (encProg p)), some (.dat (encN wd)), some (.dat (encPl pl)), some (.dat (.list ((spotsOf p).map encSpot))), some (.dat (.int (x.late : Int))), some (.dat (.int (x.n : Int))), some (.dat (.str x.box.1)), some (.dat (encOL (some l)))] M (tOp (rIn K false) (tOp (rIx K) (tVar 7) (tC (.int 0))) (tTup (tCons (tC (.str "first")) (tCons (tC (.str "second")) tNil)))) (.dat (.bool (strIn l.kw.str ["first", "second"]))) :=
          e_inT (C := C0 P w K) (x := l.kw.str) (xs := ["first", "second"]) (e_ixT0 (e_var (s := .dat (encL l)) rfl)) (e_tup (ds := [.str "first", .str "second"]) (a_cons e_str (a_cons e_str a_nil)) (by show 2 ≤ 1000; decide))
        refine s_when S (t_or (t_and (c := decide (l.reads = some x.box)) (t_B hkw) fun hf => t_B ?_) fun _ => t_and (c := decide (l.reads = some x.box)) (t_B (e_word (l := l) .tell (e_var rfl) rfl)) fun hf => t_B ?_) (fun hz W S => ?_) (fun hz W S => ?_)
        · rw [fs_in, Bool.or_eq_true] at hf
          obtain ⟨n, e1, e2⟩ : ∃ n, l.names[1]? = some n ∧ l.reads = some n := by
            rcases hf with hf | hf
            · obtain ⟨a, b, rfl⟩ := kw_first (of_decide_eq_true hf); exact ⟨_, rfl, rfl⟩
            · obtain ⟨a, b, rfl⟩ := kw_second (of_decide_eq_true hf); exact ⟨_, rfl, rfl⟩
          refine (e_eqN (a := n) (b := x.box) (e_nm (l := l) (j := 1) rfl (e_var rfl) e1) (e_var rfl)).to ?_
          rw [e2]; simp
        · obtain ⟨n, e1, e2⟩ : ∃ n, l.names[0]? = some n ∧ l.reads = some n := by
            have hf := of_decide_eq_true hf
            cases l <;> first | exact ⟨_, rfl, rfl⟩ | (exfalso; simp [Line.kw] at hf; done)
          refine (e_eqN (a := n) (b := x.box) (e_nm (l := l) (j := 0) rfl (e_var rfl) e1) (e_var rfl)).to ?_
          rw [e2]; simp
        · rw [reads_cond] at hz
          refine s_ret S e_bl fun v W' si ok => ?_
          exact hq v W' (si.lep fun _ h => h) (by rw [decB_true ((plain_law g).mp (hL.mp ⟨x, List.mem_of_getElem? hx, hl1, s, l, hs, hln, of_decide_eq_true hz⟩))]; exact ok)
        · rw [reads_cond] at hz
          refine next (fun ⟨_, s', l', e1, e2, e3⟩ => ?_) S.w
          rw [hs] at e1
          cases e1
          rw [hln] at e2
          cases e2
          exact of_decide_eq_false hz e3
    · refine next (fun ⟨e0, s', l', e1, e2, e3⟩ => ?_) S.w
      rw [hs] at e1
      cases e1
      rw [e0, e2] at hb
      cases hb
  · rw [List.take_length] at hI
    refine s_ret S e_bl fun v W' si ok => ?_
    refine hq v W' (si.lep fun _ h => h) ?_
    rw [decB_false fun z => by
      obtain ⟨x, hx, h⟩ := hL.mpr ((plain_law g).mpr z)
      exact hI x hx h]
    exact ok
end
end Dr
namespace Dr
open PySem PySem.Spec PyProof.Rows L2

/-! the law's cells, names, lines -/
section
variable {P : Program} {w : World} {K : PySem.W.Frag} {mg : Str → Option Value} {base : Heap} {f f1 f2 f3 f4 f5 f6 : Addr} {fd d1 d2 d3 d4 d5 d6 : FuncData} {aO aG cg : Addr} {C : Cn} {Γ : Ga} {M M' : Ms} {ta tb tc td te tk tv ty tl : TE} {W0 W : Wo} {T : Kn} {σ : L2.St} {s : Sv} {D : Ends} {tz tbd : TS} {d : PyData} {tt : TT} {R R1 R2 R3 : Sv → Prop} {ds : List PyData}
theorem p_pick {i : Int} (ha : EvS C Γ M ta (.dat (.list ds))) (hb : EvS C Γ M tb (.dat (.int i))) (h0 : 0 ≤ i) (h1 : i < ds.length) : EvP C Γ M (tOp (rIx C.K) ta tb) (fun s => ∃ d ∈ ds, s = .dat d) := by
  obtain ⟨j, rfl⟩ : ∃ j : Nat, i = (j : Int) := ⟨i.toNat, by omega⟩
  have hj : j < ds.length := by omega
  exact (e_ixL ha hb (atI_nat (List.getElem?_eq_getElem hj))).p.imp fun s e => ⟨_, List.getElem_mem hj, e⟩
theorem mod_in {c : Int} {n : Int} (h : 0 < n) : 0 ≤ c % n ∧ c % n < n := ⟨Int.emod_nonneg _ (by omega), Int.emod_lt_of_pos _ h⟩
abbrev sp_law_cell (P : Program) (w : World) (K : PySem.W.Frag) : Sp := SpR (C0 P w K) (α := List Int × Nat) (fun a => [.scr a.1, .dat (.int (a.2 : Int))]) (fun a => a.2 ≤ 1000) (fun _ s => ∃ c : Nat, s = .dat (.int (c : Int)))
theorem sc_law_cell : FnScope ["script", "k", "near"] ["script", "k"] (defScope s_law_cell) := ⟨rfl, rfl, rfl, by decide +kernel, rfl, by decide +kernel, by decide +kernel⟩
theorem ok_law_cell (T : Txt K mg aO aG) (F : FnP K "_law_cell" "_law_cell" s_law_cell f fd) : FnOk P w K mg base CX0 1 f fd ["script", "k"] (sp_law_cell P w K) := by
  have nd := sc_law_cell.nd
  have tx := T
  refine F.ok sc_law_cell (fun vs H Q E h => SpR.len (n := 2) (fun _ => rfl) h) (fun cdv A outer s H vs Q E hr h => ⟨_, PSs.nox
    (pss_cons (ps_if (pt_cmpR op_lt (pv 1) (pe_callB cr_len (by rfl) tx.len PySem.boot_len (pa_cons (pv 0) pa_nil)) (nomark _)) (pss_one (ps_ret (pe_op op_mod (pe_ix ix_seq (pv 0) (pv 1) (fun _ _ => rfl)) (pe_op op_pow pe_int pe_int)))) pss_nil)
    (pss_cons (ps_set (i := 2) nd rfl (Or.inl rfl) (pe_op op_add pe_int (pe_op op_mul (pe_op op_mul pe_int (pv 1)) (pv 1))))
    (pss_cons (ps_if (pt_cmpR op_gt (pe_callB cr_len (by rfl) tx.len PySem.boot_len (pa_cons (pv 0) pa_nil)) pe_int (nomark _)) (pss_one (ps_set (i := 2) nd rfl (Or.inl rfl) (pe_op op_add (pv 2) (pe_op op_mul (pe_op op_mod (pe_ix ix_seq (pv 0) (pe_op op_mod (pv 1) (pe_callB cr_len (by rfl) tx.len PySem.boot_len (pa_cons (pv 0) pa_nil))) (fun _ _ => rfl)) pe_int) (pe_op op_add (pv 1) pe_int))))) pss_nil)
    (pss_one (ps_ret (pe_op op_fdiv (pe_op op_mod (pe_op op_mul (pv 2) pe_int) pe_int) pe_int)))))), ?_⟩)
  obtain ⟨Wz, ⟨ns, k⟩, rfl, ok, hk, hq⟩ := h
  have hk : k ≤ 1000 := hk
  have hq : ∀ s v W', Le Wz W' → (∃ c : Nat, s = .dat (.int (c : Int))) → SvOk (C0 P w K) W'.G v s → Q v W'.H := hq
  have S := sta_start ["script", "k", "near"] ok
  have nat : ∀ {i : Int}, 0 ≤ i → ∃ c : Nat, Sv.dat (.int i) = .dat (.int (c : Int)) := fun {i} h => ⟨i.toNat, by rw [Int.toNat_of_nonneg h]⟩
  have scr : ∀ {Γ : Ga} {M : Ms} {te : TE} {i : Int}, Γ[0]? = some (some (.scr ns)) → EvS (C0 P w K) Γ M te (.dat (.int i)) → 0 ≤ i → i < ns.length → ∃ n, EvS (C0 P w K) Γ M (tOp (rIx K) (tVar 0) te) (.dat (.int n)) := fun {Γ M te i} h0 h1 h2 h3 => by
    obtain ⟨j, rfl⟩ : ∃ j : Nat, i = (j : Int) := ⟨i.toNat, by omega⟩
    have hj : j < ns.length := by omega
    exact ⟨ns[j], e_ixS (C := C0 P w K) (e_var h0) h1 (atI_nat (List.getElem?_eq_getElem hj))⟩
  refine q_when S (t_B (e_lt (e_var (s := .dat (.int (k : Int))) rfl) (e_lenS (ns := ns) (e_var rfl)))) (fun hb W S => ?_) (fun hb W S => ?_)
  · obtain ⟨n, hn⟩ := scr (M := []) (Γ := List.map some [Sv.scr ns, .dat (.int (k : Int))] ++ [none]) rfl (e_var (i := 1) (s := .dat (.int (k : Int))) rfl) (by omega) (of_decide_eq_true hb)
    refine s_ret S (e_mod hn (e_pow (i := 10) (j := 18) e_int e_int ⟨by decide, by decide, by decide⟩) (by decide)) fun v W' si ok => ?_
    exact hq _ v W' (si.lep fun _ h => h) (nat (Int.emod_nonneg _ (by decide))) ok
  · refine q_set S (e_add e_int (e_mul (e_mul e_int (e_var (s := .dat (.int (k : Int))) rfl) (.inl ⟨by decide, by decide⟩)) (e_var (s := .dat (.int (k : Int))) rfl) (.inr ⟨by omega, by omega⟩))) fun σ W S => ?_
    refine q_whenK (fun σ W => ∃ i : Int, Sta (C0 P w K) Wz [] σ W [some (.scr ns), some (.dat (.int (k : Int))), some (.dat (.int i))] []) S (t_B (e_gt (e_lenS (ns := ns) (e_var rfl)) e_int)) (fun σ W hj => ?_) (fun hb W S kk => ?_) (fun hb W S => ⟨_, S⟩)
    · obtain ⟨i, S⟩ := hj
      refine s_ret S (e_fdiv (e_mod (e_mul (e_var rfl) e_int (.inr ⟨by decide, by decide⟩)) e_int (by decide)) e_int ⟨by decide, by decide⟩) fun v W' si ok => ?_
      exact hq _ v W' (si.lep fun _ h => h) (nat (Int.ediv_nonneg (Int.emod_nonneg _ (by decide)) (by decide))) ok
    · have hpos : (0 : Int) < ns.length := of_decide_eq_true hb
      have hm := mod_in (c := (k : Int)) hpos
      obtain ⟨n, hn⟩ := scr (M := []) (Γ := [some (.scr ns), some (.dat (.int (k : Int))), some (.dat (.int (11 + 3 * (k : Int) * (k : Int))))]) rfl (e_mod (e_var (i := 1) (s := .dat (.int (k : Int))) rfl) (e_lenS (ns := ns) (e_var (i := 0) rfl)) hpos) hm.1 hm.2
      refine s_set S (e_add (e_var rfl) (e_mul (e_mod hn e_int (by decide)) (e_add (e_var (s := .dat (.int (k : Int))) rfl) e_int) (.inr ⟨by omega, by omega⟩))) fun σ W S => ?_
      exact kk _ _ ⟨_, S⟩
/-- names of a list -/
abbrev OkNm (x : Str) : Prop := PyData.strOk x = true
abbrev sp_law_names (P : Program) (w : World) (K : PySem.W.Frag) : Sp := SpR (C0 P w K) (α := Nat) (fun a => [.dat (.int (a : Int))]) (fun _ => True) (fun _ s => ∃ ns : List Nm, ns.length = 5 ∧ s = .dat (.list (ns.map encN)))
theorem e_addS {x y : Str} (ha : EvS C Γ M ta (.dat (.str x))) (hb : EvS C Γ M tb (.dat (.str y))) (h : x.length + y.length ≤ sizeLine) : EvS C Γ M (tOp (fun x y H Q => ∃ i j, x = .str i ∧ y = .str j ∧ i.length + j.length ≤ sizeLine ∧ Q (.str (i ++ j)) H) ta tb) (.dat (.str (x ++ y))) :=
  e_op2 ha hb fun W0 T σ W S x y hx hy Q k => by
    cases hx; cases hy
    exact ⟨_, _, rfl, rfl, h, k _ W (Le.refl W) (.str _)⟩
def nms (xs : List Str) (h : (xs.all PyData.strOk) = true) : List Nm := xs.attach.map fun x => ⟨x.1, List.all_eq_true.mp h x.1 x.2⟩
theorem nms_enc (xs : List Str) (h : (xs.all PyData.strOk) = true) : (nms xs h).map encN = xs.map PyData.str ∧ (nms xs h).length = xs.length := by
  unfold nms
  refine ⟨?_, by rw [List.length_map, List.length_attach]⟩
  rw [List.map_map]
  show xs.attach.map (fun x => PyData.str x.1) = _
  rw [show (fun x : { x // x ∈ xs } => PyData.str x.1) = (PyData.str ∘ Subtype.val) from rfl, ← List.map_map, List.attach_map_subtype_val]
theorem sc_law_names : FnScope ["cell"] ["cell"] (defScope s_law_names) := ⟨rfl, rfl, rfl, by decide +kernel, rfl, by decide +kernel, by decide +kernel⟩
theorem ok_law_names (F : FnP K "_law_names" "_law_names" s_law_names f fd) : FnOk P w K mg base CX0 1 f fd ["cell"] (sp_law_names P w K) := by
  have nd := sc_law_names.nd
  refine F.ok sc_law_names (fun vs H Q E h => SpR.len (n := 1) (fun _ => rfl) h) (fun cdv A outer s H vs Q E hr h => ⟨_, PSs.nox
    (pss_one (ps_ret (pe_ix ix_seq (pe_lst (pa_cons (pe_lst (pa_cons pe_str (pa_cons pe_str (pa_cons pe_str (pa_cons pe_str (pa_cons pe_str pa_nil)))))) (pa_cons (pe_lst (pa_cons pe_str (pa_cons pe_str (pa_cons pe_str (pa_cons pe_str (pa_cons pe_str pa_nil)))))) (pa_cons (pe_lst (pa_cons (pe_op op_add_str pe_str pe_str) (pa_cons pe_str (pa_cons pe_str (pa_cons pe_str (pa_cons pe_str pa_nil)))))) pa_nil)))) (pe_op op_mod (pv 0) pe_int) (fun _ _ => rfl)))), ?_⟩)
  obtain ⟨Wz, c, rfl, ok, _, hq⟩ := h
  have S := sta_start ["cell"] ok
  have hm := mod_in (c := (c : Int)) (n := 3) (by decide)
  have five : ∀ a1 a2 a3 a4 a5 : Str, EvS (C0 P w K) [some (.dat (.int (c : Int)))] [] (tLst (tCons (tC (.str a1)) (tCons (tC (.str a2)) (tCons (tC (.str a3)) (tCons (tC (.str a4)) (tCons (tC (.str a5)) tNil)))))) (.dat (.list [.str a1, .str a2, .str a3, .str a4, .str a5])) := fun a1 a2 a3 a4 a5 =>
    e_lst (ds := [.str a1, .str a2, .str a3, .str a4, .str a5]) (a_cons e_str (a_cons e_str (a_cons e_str (a_cons e_str (a_cons e_str a_nil))))) (by show 5 ≤ 1000; decide)
  refine s_retP S (p_pick (ds := [.list [.str "a", .str "ab", .str "abc", .str "b", .str "ba"], .list [.str "x", .str "y", .str "z", .str "u", .str "v"], .list [.str ("end" ++ "s"), .str "e", .str "pairs", .str "p", .str "q"]])
    (e_lst (a_cons (five _ _ _ _ _) (a_cons (five _ _ _ _ _) (a_cons (e_lst (ds := [.str ("end" ++ "s"), .str "e", .str "pairs", .str "p", .str "q"]) (a_cons (e_addS e_str e_str (by decide +kernel)) (a_cons e_str (a_cons e_str (a_cons e_str (a_cons e_str a_nil))))) (by show 5 ≤ 1000; decide)) a_nil))) (by show 3 ≤ 1000; decide)) (e_mod (e_var rfl) e_int (by decide)) hm.1 hm.2) fun sv v W' r si ok => ?_
  refine hq sv v W' (si.lep fun _ h => h) ?_ ok
  obtain ⟨d, hd, e⟩ := r
  subst e
  have fin : ∀ xs : List Str, xs.length = 5 → (xs.all PyData.strOk) = true → ∃ ns : List Nm, ns.length = 5 ∧ Sv.dat (.list (xs.map PyData.str)) = .dat (.list (ns.map encN)) := fun xs hl h => ⟨nms xs h, (nms_enc xs h).2.trans hl, by rw [(nms_enc xs h).1]⟩
  rcases List.mem_cons.mp hd with e | hd
  · subst e; exact fin ["a", "ab", "abc", "b", "ba"] rfl (by decide +kernel)
  · rcases List.mem_cons.mp hd with e | hd
    · subst e; exact fin ["x", "y", "z", "u", "v"] rfl (by decide +kernel)
    · rw [List.mem_singleton.mp hd]; exact fin ["end" ++ "s", "e", "pairs", "p", "q"] rfl (by decide +kernel)
/-- a line of these boxes and words, no block, no do -/
structure OkLn (B N : List Nm) (l : Line) : Prop where
  box : ∀ b ∈ l.boxes, b ∈ B
  word : ∀ x, l.word = some x → x ∈ N
  nodo : ∀ n, l ≠ .do_ n
def Line.plain : Line → Bool
  | .either => false | .or_ => false | .again => false | .end_ => false
  | _ => true
abbrev sp_law_line (P : Program) (w : World) (K : PySem.W.Frag) : Sp := SpR (C0 P w K) (α := Nat × List Nm × List Nm) (fun a => [.dat (.int (a.1 : Int)), .dat (.list (a.2.1.map encN)), .dat (.list (a.2.2.map encN))]) (fun a => 0 < a.2.1.length ∧ 0 < a.2.2.length) (fun a s => ∃ l : Line, OkLn a.2.1 a.2.2 l ∧ l.plain = true ∧ s = .dat (encL l))
theorem p_name {i : Int} {B : List Nm} (ha : EvS C Γ M ta (.dat (.list (B.map encN)))) (hb : EvS C Γ M tb (.dat (.int i))) (h0 : 0 ≤ i) (h1 : i < B.length) : EvP C Γ M (tOp (rIx C.K) ta tb) (fun s => ∃ b ∈ B, s = .dat (encN b)) :=
  (p_pick ha hb h0 (by rw [List.length_map]; exact h1)).imp fun s ⟨d, hd, e⟩ => by
    obtain ⟨b, hb, e2⟩ := List.mem_map.mp hd
    exact ⟨b, hb, by rw [e, e2]⟩
theorem e_lenN {B : List Nm} (h : EvS C Γ M ta (.dat (.list (B.map encN)))) : EvS C Γ M (tCB (rLenQ C.K) (tCons ta tNil)) (.dat (.int (B.length : Int))) := (e_lenL h).to (by rw [List.length_map])
theorem e_l {k : Str} {ns : List Nm} {l : Line} {t : TA} (h : EvA C Γ M t (ns.map fun n => .dat (encN n))) (he : encL l = .tuple (.str k :: ns.map encN)) (hl : ns.length ≤ 10) : EvS C Γ M (tTup (tCons (tC (.str k)) t)) (.dat (encL l)) := by
  rw [he]
  refine e_tup (ds := .str k :: ns.map encN) (a_cons e_str ?_) (by rw [List.length_cons, List.length_map]; omega)
  rw [List.map_map]
  exact h
theorem sc_law_line : FnScope ["cell", "boxes", "words", "x", "y", "z", "w"] ["cell", "boxes", "words"] (defScope s_law_line) := ⟨rfl, rfl, rfl, by decide +kernel, rfl, by decide +kernel, by decide +kernel⟩
theorem ok_law_line (T : Txt K mg aO aG) (F : FnP K "_law_line" "_law_line" s_law_line f fd) : FnOk P w K mg base CX0 1 f fd ["cell", "boxes", "words"] (sp_law_line P w K) := by
  have nd := sc_law_line.nd
  have tx := T
  refine F.ok sc_law_line (fun vs H Q E h => SpR.len (n := 3) (fun _ => rfl) h) (fun cdv A outer s H vs Q E hr h => ⟨_, PSs.nox
    (pss_cons (ps_set (i := 3) nd rfl (Or.inl rfl) (pe_ix ix_seq (pv 1) (pe_op op_mod (pe_op op_fdiv (pv 0) pe_int) (pe_callB cr_len (by rfl) tx.len PySem.boot_len (pa_cons (pv 1) pa_nil))) (fun _ _ => rfl)))
    (pss_cons (ps_set (i := 4) nd rfl (Or.inl rfl) (pe_ix ix_seq (pv 1) (pe_op op_mod (pe_op op_fdiv (pv 0) pe_int) (pe_callB cr_len (by rfl) tx.len PySem.boot_len (pa_cons (pv 1) pa_nil))) (fun _ _ => rfl)))
    (pss_cons (ps_set (i := 5) nd rfl (Or.inl rfl) (pe_ix ix_seq (pv 1) (pe_op op_mod (pe_op op_fdiv (pv 0) pe_int) (pe_callB cr_len (by rfl) tx.len PySem.boot_len (pa_cons (pv 1) pa_nil))) (fun _ _ => rfl)))
    (pss_cons (ps_set (i := 6) nd rfl (Or.inl rfl) (pe_ix ix_seq (pv 2) (pe_op op_mod (pe_op op_fdiv (pv 0) pe_int) (pe_callB cr_len (by rfl) tx.len PySem.boot_len (pa_cons (pv 2) pa_nil))) (fun _ _ => rfl)))
    (pss_one (ps_ret (pe_ix ix_seq (pe_lst (pa_cons (pe_tup (pa_cons pe_str (pa_cons (pv 3) (pa_cons (pv 6) (pa_cons (pv 4) (pa_cons (pv 5) pa_nil)))))) (pa_cons (pe_tup (pa_cons pe_str (pa_cons (pv 3) (pa_cons (pv 6) (pa_cons (pv 4) (pa_cons (pv 5) pa_nil)))))) (pa_cons (pe_tup (pa_cons pe_str (pa_cons (pv 3) (pa_cons (pv 6) (pa_cons (pv 4) (pa_cons (pv 3) pa_nil)))))) (pa_cons (pe_tup (pa_cons pe_str (pa_cons (pv 3) (pa_cons (pv 4) pa_nil)))) (pa_cons (pe_tup (pa_cons pe_str (pa_cons (pv 3) (pa_cons (pv 4) pa_nil)))) (pa_cons (pe_tup (pa_cons pe_str (pa_cons (pv 3) (pa_cons (pv 3) pa_nil)))) (pa_cons (pe_tup (pa_cons pe_str (pa_cons (pv 4) (pa_cons (pv 3) pa_nil)))) (pa_cons (pe_tup (pa_cons pe_str (pa_cons (pv 3) (pa_cons (pv 4) pa_nil)))) (pa_cons (pe_tup (pa_cons pe_str (pa_cons (pv 3) pa_nil))) (pa_cons (pe_tup (pa_cons pe_str (pa_cons (pv 3) pa_nil))) (pa_cons (pe_tup (pa_cons pe_str (pa_cons (pv 4) pa_nil))) (pa_cons (pe_tup (pa_cons pe_str (pa_cons (pv 4) (pa_cons (pv 3) pa_nil)))) pa_nil))))))))))))) (pe_op op_mod (pv 0) pe_int) (fun _ _ => rfl)))))))), ?_⟩)
  obtain ⟨Wz, ⟨c, B, N⟩, rfl, ok, ⟨hB, hN⟩, hq⟩ := h
  have hB : (0 : Int) < B.length := by have : 0 < B.length := hB; omega
  have hN : (0 : Int) < N.length := by have : 0 < N.length := hN; omega
  have S := sta_start ["cell", "boxes", "words", "x", "y", "z", "w"] ok
  have dv : ∀ j : Int, 0 < j → j < 1073741824 → CDiv (c : Int) j := fun j h1 h2 => ⟨h1, h2⟩
  refine q_setP S (p_name (e_var rfl) (e_mod (e_fdiv (e_var rfl) e_int ⟨by decide, by decide⟩) (e_lenN (e_var rfl)) hB) (mod_in hB).1 (mod_in hB).2) fun _ ⟨x, hx, e⟩ σ W S => ?_
  subst e
  refine q_setP S (p_name (e_var rfl) (e_mod (e_fdiv (e_var rfl) e_int ⟨by decide, by decide⟩) (e_lenN (e_var rfl)) hB) (mod_in hB).1 (mod_in hB).2) fun _ ⟨y, hy, e⟩ σ W S => ?_
  subst e
  refine q_setP S (p_name (e_var rfl) (e_mod (e_fdiv (e_var rfl) e_int ⟨by decide, by decide⟩) (e_lenN (e_var rfl)) hB) (mod_in hB).1 (mod_in hB).2) fun _ ⟨z, hz, e⟩ σ W S => ?_
  subst e
  refine q_setP S (p_name (e_var rfl) (e_mod (e_fdiv (e_var rfl) e_int ⟨by decide, by decide⟩) (e_lenN (e_var rfl)) hN) (mod_in hN).1 (mod_in hN).2) fun _ ⟨n, hn, e⟩ σ W S => ?_
  subst e
  have hm := mod_in (c := (c : Int)) (n := 12) (by decide)
  refine s_retP S (p_pick (ds := ([.pair x n y z, .pair x n y z, .pair x n y x, .first x y, .second x y, .first x x, .second y x, .same x y, .none_ x, .tell x, .tell y, .first y x] : List Line).map encL)
    (e_lst (a_cons (e_l (ns := [x, n, y, z]) (a_cons (e_var rfl) (a_cons (e_var rfl) (a_cons (e_var rfl) (a_cons (e_var rfl) a_nil)))) rfl (by show 4 ≤ 10; decide)) (a_cons (e_l (ns := [x, n, y, z]) (a_cons (e_var rfl) (a_cons (e_var rfl) (a_cons (e_var rfl) (a_cons (e_var rfl) a_nil)))) rfl (by show 4 ≤ 10; decide)) (a_cons (e_l (ns := [x, n, y, x]) (a_cons (e_var rfl) (a_cons (e_var rfl) (a_cons (e_var rfl) (a_cons (e_var rfl) a_nil)))) rfl (by show 4 ≤ 10; decide))
      (a_cons (e_l (ns := [x, y]) (a_cons (e_var rfl) (a_cons (e_var rfl) a_nil)) rfl (by show 2 ≤ 10; decide)) (a_cons (e_l (ns := [x, y]) (a_cons (e_var rfl) (a_cons (e_var rfl) a_nil)) rfl (by show 2 ≤ 10; decide)) (a_cons (e_l (ns := [x, x]) (a_cons (e_var rfl) (a_cons (e_var rfl) a_nil)) rfl (by show 2 ≤ 10; decide)) (a_cons (e_l (ns := [y, x]) (a_cons (e_var rfl) (a_cons (e_var rfl) a_nil)) rfl (by show 2 ≤ 10; decide)) (a_cons (e_l (ns := [x, y]) (a_cons (e_var rfl) (a_cons (e_var rfl) a_nil)) rfl (by show 2 ≤ 10; decide))
      (a_cons (e_l (ns := [x]) (a_cons (e_var rfl) a_nil) rfl (by show 1 ≤ 10; decide)) (a_cons (e_l (ns := [x]) (a_cons (e_var rfl) a_nil) rfl (by show 1 ≤ 10; decide)) (a_cons (e_l (ns := [y]) (a_cons (e_var rfl) a_nil) rfl (by show 1 ≤ 10; decide)) (a_cons (e_l (ns := [y, x]) (a_cons (e_var rfl) (a_cons (e_var rfl) a_nil)) rfl (by show 2 ≤ 10; decide)) a_nil)))))))))))) (by show 12 ≤ 1000; decide)) (e_mod (e_var rfl) e_int (by decide)) hm.1 hm.2) fun sv v W' r si ok => ?_
  refine hq sv v W' (si.lep fun _ h => h) ?_ ok
  obtain ⟨d, hd, e⟩ := r
  obtain ⟨l, hl, e2⟩ := List.mem_map.mp hd
  refine ⟨l, ?_, ?_, by rw [e, e2]⟩
  · have key : ∀ l ∈ ([.pair x n y z, .pair x n y z, .pair x n y x, .first x y, .second x y, .first x x, .second y x, .same x y, .none_ x, .tell x, .tell y, .first y x] : List Line), OkLn B N l := by
      intro l hl
      simp only [List.mem_cons, List.not_mem_nil, or_false] at hl
      rcases hl with h | h | h | h | h | h | h | h | h | h | h | h <;> subst h <;> refine ⟨fun b hb => ?_, fun u hu => ?_, fun m hm => (nomatch hm)⟩ <;> simp [Line.boxes, Line.word] at * <;> grind
    exact key l hl
  · simp only [List.mem_cons, List.not_mem_nil, or_false] at hl
    rcases hl with h | h | h | h | h | h | h | h | h | h | h | h <;> subst h <;> rfl
end
end Dr
namespace Dr
open PySem PySem.Spec PyProof.Rows L2

/-! blocks stand rightly -/
def stp : Line → List Kw → Option (List Kw)
  | .either, st => some (.either :: st)
  | .again, st => some (.again :: st)
  | .or_, k :: st => if k = .either then some (.or_ :: st) else none
  | .or_, [] => none
  | .end_, k :: st => if k = .either then none else some st
  | .end_, [] => none
  | _, st => some st
def run : List Line → List Kw → Option (List Kw)
  | [], st => some st
  | l :: r, st => (stp l st).bind (run r)
theorem run_app : ∀ (a b : List Line) (st : List Kw), run (a ++ b) st = (run a st).bind (run b)
  | [], b, st => rfl
  | l :: a, b, st => by
    show (stp l st).bind (run (a ++ b)) = ((stp l st).bind (run a)).bind (run b)
    cases stp l st with
    | none => rfl
    | some st' => exact run_app a b st'
theorem run_one {a : List Line} {l : Line} {st st' : List Kw} (h : run a [] = some st) (h2 : stp l st = some st') : run (a ++ [l]) [] = some st' := by
  rw [run_app, h]
  show (stp l st).bind (run []) = _
  rw [h2]
  rfl
theorem stp_plain {l : Line} (h : l.plain = true) (st : List Kw) : stp l st = some st := by cases l <;> first | rfl | cases h
theorem run_skip {l : Line} (h : ∀ st, stp l st = some st) : ∀ (a b : List Line) (st : List Kw), run (a ++ l :: b) st = run (a ++ b) st := fun a b st => by
  rw [run_app, run_app]
  cases run a st with
  | none => rfl
  | some st' =>
    show (stp l st').bind (run b) = run b st'
    rw [h]
    rfl
theorem scanEnd_ok : ∀ (post : List Line) (st : List Kw) (a d : Nat), run post st = some [] → d + 1 ≤ st.length → ∃ r, scanEnd post a d = some r
  | [], st, a, d, h, hd => by
    have : st = [] := by simpa [run] using h
    rw [this] at hd
    simp at hd
  | l :: r, st, a, d, h, hd => by
    unfold scanEnd
    have h : (stp l st).bind (run r) = some [] := h
    cases q : stp l st with
    | none => rw [q] at h; cases h
    | some st' =>
      rw [q] at h
      have h : run r st' = some [] := h
      by_cases e : d = 0 ∧ l.kw = .end_
      · rw [if_pos e]; exact ⟨_, rfl⟩
      · rw [if_neg e]
        refine scanEnd_ok r st' _ _ h ?_
        cases l with
        | either => cases q; simp only [Line.kw, Kw.opens, List.length_cons] at hd ⊢; simp; omega
        | again => cases q; simp only [Line.kw, Kw.opens, List.length_cons] at hd ⊢; simp; omega
        | or_ =>
          cases st with
          | nil => cases q
          | cons k st =>
            simp only [stp] at q
            split at q
            · cases q; simpa [Line.kw, Kw.opens] using hd
            · cases q
        | end_ =>
          cases st with
          | nil => cases q
          | cons k st =>
            simp only [stp] at q
            split at q
            · cases q
            · cases q
              have : d ≠ 0 := fun z => e ⟨z, rfl⟩
              simp only [Line.kw, Kw.opens, List.length_cons] at hd ⊢
              simp
              omega
        | _ => cases q; simpa [Line.kw, Kw.opens] using hd
theorem scanOr_ok : ∀ (post : List Line) (st : List Kw) (a d : Nat), run post st = some [] → st[d]? = some .either → ∃ r, scanOr post a d = some r
  | [], st, a, d, h, hd => by
    have : st = [] := by simpa [run] using h
    rw [this] at hd
    simp at hd
  | l :: r, st, a, d, h, hd => by
    unfold scanOr
    have h : (stp l st).bind (run r) = some [] := h
    cases q : stp l st with
    | none => rw [q] at h; cases h
    | some st' =>
      rw [q] at h
      have h : run r st' = some [] := h
      by_cases e : d = 0 ∧ l.kw = .or_
      · rw [if_pos e]; exact ⟨_, rfl⟩
      · rw [if_neg e]
        by_cases e2 : d = 0 ∧ l.kw = .end_
        · exfalso
          obtain ⟨z1, z2⟩ := e2
          subst z1
          cases l <;> simp [Line.kw] at z2
          cases st with
          | nil => cases q
          | cons k st =>
            have : k = .either := by simpa using hd
            simp [stp, this] at q
        · rw [if_neg e2]
          refine scanOr_ok r st' _ _ h ?_
          cases l with
          | either => cases q; simpa [Line.kw, Kw.opens] using hd
          | again => cases q; simpa [Line.kw, Kw.opens] using hd
          | or_ =>
            cases st with
            | nil => cases q
            | cons k st =>
              simp only [stp] at q
              split at q
              · cases q
                have : d ≠ 0 := fun z => e ⟨z, rfl⟩
                obtain ⟨d', rfl⟩ := Nat.exists_eq_succ_of_ne_zero this
                simpa [Line.kw, Kw.opens] using hd
              · cases q
          | end_ =>
            cases st with
            | nil => cases q
            | cons k st =>
              simp only [stp] at q
              split at q
              · cases q
              · cases q
                have : d ≠ 0 := fun z => e2 ⟨z, rfl⟩
                obtain ⟨d', rfl⟩ := Nat.exists_eq_succ_of_ne_zero this
                simpa [Line.kw, Kw.opens] using hd
          | _ => cases q; simpa [Line.kw, Kw.opens] using hd
theorem scanHead_ok : ∀ (q : List Line) (st : List Kw) (d : Nat), run q.reverse [] = some st → d + 1 ≤ st.length → ∃ r, scanHead q d = some r
  | [], st, d, h, hd => by
    have : st = [] := by simpa [run] using h.symm
    rw [this] at hd
    simp at hd
  | l :: r, st, d, h, hd => by
    unfold scanHead
    rw [List.reverse_cons, run_app] at h
    cases q : run r.reverse [] with
    | none => rw [q] at h; cases h
    | some st0 =>
      rw [q] at h
      have h : (stp l st0).bind (run []) = some st := h
      cases q2 : stp l st0 with
      | none => rw [q2] at h; cases h
      | some st1 =>
        rw [q2] at h
        have h : some st1 = some st := h
        cases h
        by_cases e : d = 0 ∧ l.kw.opens = true
        · rw [if_pos e]; exact ⟨_, rfl⟩
        · rw [if_neg e]
          refine scanHead_ok r st0 _ q ?_
          cases l with
          | either =>
            cases q2
            have : d ≠ 0 := fun z => e ⟨z, rfl⟩
            simp only [Line.kw, Kw.opens, List.length_cons] at hd ⊢
            simp
            omega
          | again =>
            cases q2
            have : d ≠ 0 := fun z => e ⟨z, rfl⟩
            simp only [Line.kw, Kw.opens, List.length_cons] at hd ⊢
            simp
            omega
          | or_ =>
            cases st0 with
            | nil => cases q2
            | cons k st0 =>
              simp only [stp] at q2
              split at q2
              · cases q2; simpa [Line.kw, Kw.opens] using hd
              · cases q2
          | end_ =>
            cases st0 with
            | nil => cases q2
            | cons k st0 =>
              simp only [stp] at q2
              split at q2
              · cases q2
              · cases q2
                simp only [Line.kw, Kw.opens, List.length_cons] at hd ⊢
                simp
                omega
          | _ => cases q2; simpa [Line.kw, Kw.opens] using hd
theorem run_at {ls : List Line} {k : Nat} {l : Line} (h : run ls [] = some []) (e : ls[k]? = some l) : ∃ st0 st1, run (ls.take k) [] = some st0 ∧ stp l st0 = some st1 ∧ run (ls.drop (k + 1)) st1 = some [] := by
  have hk := (List.getElem?_eq_some_iff.mp e).1
  have es : ls = ls.take k ++ l :: ls.drop (k + 1) := by
    have h1 := List.take_append_drop k ls
    rw [List.drop_eq_getElem_cons hk] at h1
    have h2 : ls[k] = l := (List.getElem?_eq_some_iff.mp e).2
    rw [h2] at h1
    exact h1.symm
  rw [es, run_app] at h
  cases q : run (ls.take k) [] with
  | none => rw [q] at h; cases h
  | some st0 =>
    rw [q] at h
    have h : (stp l st0).bind (run (ls.drop (k + 1))) = some [] := h
    cases q2 : stp l st0 with
    | none => rw [q2] at h; cases h
    | some st1 => rw [q2] at h; exact ⟨st0, st1, rfl, q2, h⟩
theorem run_end {ls : List Line} {k : Nat} (h : run ls [] = some []) (e : ls[k]? = some .or_ ∨ ls[k]? = some .again) : ∃ r, endOf ls k = some r := by
  rcases e with e | e
  · obtain ⟨st0, st1, _, h2, h3⟩ := run_at h e
    refine scanEnd_ok _ st1 _ _ h3 ?_
    cases st0 with
    | nil => cases h2
    | cons x st0 =>
      simp only [stp] at h2
      split at h2
      · cases h2; simp
      · cases h2
  · obtain ⟨st0, st1, _, h2, h3⟩ := run_at h e
    cases h2
    exact scanEnd_ok _ _ _ _ h3 (by simp)
theorem run_or {ls : List Line} {k : Nat} (h : run ls [] = some []) (e : ls[k]? = some .either) : ∃ r, orOf ls k = some r := by
  obtain ⟨st0, st1, _, h2, h3⟩ := run_at h e
  cases h2
  exact scanOr_ok _ _ _ _ h3 (by simp)
theorem run_head {ls : List Line} {k : Nat} (h : run ls [] = some []) (e : ls[k]? = some .end_) : ∃ r, headOf ls k = some r := by
  obtain ⟨st0, st1, h1, h2, _⟩ := run_at h e
  refine scanHead_ok _ st0 _ (by rw [List.reverse_reverse]; exact h1) ?_
  cases st0 with
  | nil => cases h2
  | cons x st0 => simp
end Dr
namespace Dr
open PySem PySem.Spec PyProof.Rows L2

section
variable {P : Program} {w : World} {K : PySem.W.Frag} {mg : Str → Option Value} {base : Heap} {f f1 f2 f3 f4 f5 f6 : Addr} {fd d1 d2 d3 d4 d5 d6 : FuncData} {aO aG cg : Addr} {C : Cn} {Γ : Ga} {M M' : Ms} {ta tb tc td te tk tv ty tl : TE} {W0 W : Wo} {T : Kn} {σ : L2.St} {s : Sv} {D : Ends} {tz tbd t1 t2 : TS} {d : PyData} {tt : TT} {R R1 R2 R3 : Sv → Prop} {ds : List PyData}
theorem s_appP {i j : Nat} {l : Addr} (S : Sta C W0 T σ W Γ M) (hi : Γ[i]? = some (some (.loc l))) (hm : M[j]? = some (l, .lst ds)) (h : EvP C Γ M te R) (hz : ds.length < sizeLine) (k : ∀ s, R s → ∃ d, s = .dat d ∧ ∀ W', Sta C W0 T σ W' Γ (M.set j (l, .lst (ds ++ [d]))) → D.nx σ W'.H) : tDrop (tBM C.K "list" rAppend (tVar i) (tCons te tNil)) D σ W.H := by
  obtain ⟨v, h1, h2⟩ := S.sl i _ hi
  have h2 : v = .ref l := h2
  subst h2
  obtain ⟨g0, _, xs0, hx0, _⟩ := S.mu _ (List.mem_of_getElem? hm)
  refine ⟨_, h1, .inl ⟨rfl, _, SqL.of hx0⟩, ?_⟩
  refine h W0 T σ W S _ fun s v W1 l1 r ok => ?_
  obtain ⟨d, e, k⟩ := k s r
  subst e
  have S1 := S.le l1
  obtain ⟨g1, _, xs, hx, hd⟩ := S1.mu _ (List.mem_of_getElem? hm)
  refine ⟨l, xs, v, rfl, rfl, hx, by rw [hd.length]; exact hz, ?_⟩
  exact k (W1.put l (.lst (xs ++ [v])) g1) (S1.change hm g1 ⟨_, upd_same, hd.append (.one ok)⟩)
theorem q_appP {i j : Nat} {l : Addr} (S : Sta C W0 T σ W Γ M) (hi : Γ[i]? = some (some (.loc l))) (hm : M[j]? = some (l, .lst ds)) (h : EvP C Γ M te R) (hz : ds.length < sizeLine) (k : ∀ s, R s → ∃ d, s = .dat d ∧ ∀ W', Sta C W0 T σ W' Γ (M.set j (l, .lst (ds ++ [d]))) → tz D σ W'.H) : tSeq (tDrop (tBM C.K "list" rAppend (tVar i) (tCons te tNil))) tz D σ W.H := s_appP (D := { D with nx := tz D }) S hi hm h hz k
/-- if l.pop() == text -/
theorem q_ifPop {i j : Nat} {l : Addr} {x : Str} {b : Bool} (S : Sta C W0 T σ W Γ M) (hi : Γ[i]? = some (some (.loc l))) (hm : M[j]? = some (l, .lst (ds ++ [d]))) (fd : Flat d) (fx : PyData.strOk x = true) (hb : PyData.eqv d (.str x) = b)
    (h1 : b = true → ∀ W', Sta C W0 T σ W' Γ (M.set j (l, .lst ds)) → t1 { D with nx := tz D } σ W'.H) (h2 : b = false → ∀ W', Sta C W0 T σ W' Γ (M.set j (l, .lst ds)) → t2 { D with nx := tz D } σ W'.H) : tSeq (tIfS (tTest (tOp (rEqD C.K) (tBM0 C.K "list" rPop (tVar i)) (tC (.str x)))) t1 t2) tz D σ W.H := by
  obtain ⟨v, e1, e2⟩ := S.sl i _ hi
  have e2 : v = .ref l := e2
  subst e2
  obtain ⟨g1, _, xs, hx, hd⟩ := S.mu _ (List.mem_of_getElem? hm)
  refine ⟨_, e1, .inl ⟨rfl, _, SqL.of hx⟩, ?_⟩
  have hl : xs.length = ds.length + 1 := by rw [hd.length, List.length_append]; rfl
  obtain ⟨y, hy, hyd⟩ := hd.get (i := ds.length) (d := d) (by rw [List.getElem?_append_right (Nat.le_refl _), Nat.sub_self]; rfl)
  refine ⟨l, xs, y, rfl, rfl, hx, by rw [hl]; exact hy, ?_⟩
  have hd' : DaAll C.K W.G xs.dropLast ds := by
    have := hd.dropLast
    rwa [List.dropLast_concat] at this
  have S' := S.change (m' := .lst ds) hm g1 ⟨_, upd_same, hd'⟩
  refine ⟨d, .str x, Dp.mono (W.put l (.lst xs.dropLast) g1).fz _ _ (Da.dp _ _ hyd), .str x, shaped_of fd, shaped_of (fl_str fx : Fl 1 _).flat, _, rfl, ?_⟩
  rw [hb]
  cases b with
  | true => exact h1 rfl _ S'
  | false => exact h2 rfl _ S'
/-- {text: text, ..}[x] of three -/
theorem e_disp3 {a1 a2 a3 b1 b2 b3 x v : Str} (hy : ∀ M', EvS C Γ M' ty (.dat (.str x))) (hv : valV (mergeK [] [((Sum.inr a1 : Key), V.str b1), (Sum.inr a2, V.str b2), (Sum.inr a3, V.str b3)]) (Sum.inr x) = some (V.str v)) :
    EvS C Γ M (tDGet (tDisp [(tC (.str a1), tC (.str b1)), (tC (.str a2), tC (.str b2)), (tC (.str a3), tC (.str b3))]) ty) (.dat (.str v)) := fun W0 T σ W S Q k p hp => by
  refine ⟨upd_same, [((Sum.inr a1 : Key), V.str b1), (Sum.inr a2, V.str b2), (Sum.inr a3, V.str b3)], rfl, by show 3 ≤ 15; decide, ?_⟩
  have S1 := S.own (o := .dK []) (m := .raw (.dK [])) hp upd_same
  have g1 := (S1.mu _ List.mem_cons_self).1
  have S2 := S1.change (j := 0) (m' := .raw (.dK (mergeK [] [((Sum.inr a1 : Key), V.str b1), (Sum.inr a2, V.str b2), (Sum.inr a3, V.str b3)]))) rfl g1 upd_same
  refine hy _ W0 T σ _ S2 _ fun y W3 l3 ok => ?_
  cases ok
  have S3 := S2.le l3
  have hd := (S3.mu _ List.mem_cons_self).2.2
  refine ⟨p, _, rfl, ?_, k _ W3 ?_ (.str v)⟩
  · have := DGet.k (k := Sum.inr x) (show W3.H p = some (.dK _) from hd)
    rw [hv] at this
    exact this
  · refine Le.trans (W1 := (W.put p (.dK []) (Wo.gfree hp)).put p (.dK (mergeK [] [((Sum.inr a1 : Key), V.str b1), (Sum.inr a2, V.str b2), (Sum.inr a3, V.str b3)])) g1) ⟨fun a u e => ?_, Same.refl _, fun _ _ e => .inl e⟩ l3
    have ne : a ≠ p := ne_of_none e hp
    show upd (upd W.H p _) p _ a = some u
    rw [upd_ne ne, upd_ne ne]
    exact e
def encK (k : Kw) : PyData := .str k.str
theorem fl_ks (xs : List Kw) : Flat (.list (xs.map encK)) := (fl_list (n := 1) (fl_map (fun k => fl_str (Kw.ok k)) xs)).flat
theorem e_lenK {i j : Nat} {l : Addr} {wt : List Kw} (h : Γ[i]? = some (some (.loc l))) (hm : M[j]? = some (l, .lst (wt.reverse.map encK))) : EvS C Γ M (tCB (rLenQ C.K) (tCons (tVar i) tNil)) (.dat (.int (wt.length : Int))) := (e_lenO h hm).to (by rw [List.length_map, List.length_reverse])
theorem e_one1 {k : Str} {l : Line} (he : encL l = .tuple [.str k]) (h : EvS C Γ M te (.dat (.str k))) : EvS C Γ M (tTup (tCons te tNil)) (.dat (encL l)) := by
  rw [he]
  exact e_tup (ds := [.str k]) (a_cons h a_nil) (by show 1 ≤ 1000; decide)
abbrev okRow (B N : List Nm) (n : Nat) (ls : List Line) : Prop := run ls [] = some [] ∧ ls.length ≤ n ∧ ∀ l ∈ ls, OkLn B N l
abbrev isW (k : Kw) : Prop := k = .either ∨ k = .again ∨ k = .or_
structure ArgB where
  ns : List Int
  start : Nat
  many : Nat
  B : List Nm
  N : List Nm
abbrev sp_law_body (P : Program) (w : World) (K : PySem.W.Frag) : Sp := SpR (C0 P w K) (α := ArgB) (fun a => [.scr a.ns, .dat (.int (a.start : Int)), .dat (.int (a.many : Int)), .dat (.list (a.B.map encN)), .dat (.list (a.N.map encN))]) (fun a => a.start ≤ 100 ∧ a.many ≤ 100 ∧ 0 < a.B.length ∧ 0 < a.N.length) (fun a s => ∃ ls : List Line, okRow a.B a.N (a.many + 4) ls ∧ s = .dat (.list (ls.map encL)))
theorem okb {B N : List Nm} {l : Line} (h : l.boxes = [] ∧ l.word = none ∧ ∀ n, l ≠ .do_ n) : OkLn B N l := ⟨fun b hb => (by rw [h.1] at hb; cases hb), fun x hx => (by rw [h.2.1] at hx; cases hx), h.2.2⟩
theorem lapp (ls : List Line) (l : Line) : ls.map encL ++ [encL l] = (ls ++ [l]).map encL := by rw [List.map_append]; rfl
theorem kapp (wt : List Kw) (k : Kw) : wt.reverse.map encK ++ [encK k] = (k :: wt).reverse.map encK := by rw [List.reverse_cons, List.map_append]; rfl
theorem oks {B N : List Nm} {ls : List Line} {l : Line} (h : ∀ l ∈ ls, OkLn B N l) (hl : OkLn B N l) : ∀ x ∈ ls ++ [l], OkLn B N x := fun x hx => by
  rcases List.mem_append.mp hx with hx | hx
  · exact h x hx
  · rw [List.mem_singleton.mp hx]; exact hl
theorem sc_law_body : FnScope ["script", "start", "many", "boxes", "words", "lines", "waiting", "k", "cell", "word"] ["script", "start", "many", "boxes", "words"] (defScope s_law_body) := ⟨rfl, rfl, rfl, by decide +kernel, rfl, by decide +kernel, by decide +kernel⟩
theorem ok_law_body (T : Txt K mg aO aG) (c_law_cell : Cal P w K mg base 1 "_law_cell" ["script", "k"] (sp_law_cell P w K) f1 d1) (c_law_line : Cal P w K mg base 1 "_law_line" ["cell", "boxes", "words"] (sp_law_line P w K) f2 d2) (F : FnP K "_law_body" "_law_body" s_law_body f fd) : FnOk P w K mg base CX0 2 f fd ["script", "start", "many", "boxes", "words"] (sp_law_body P w K) := by
  have nd := sc_law_body.nd
  have tx := T
  refine F.ok sc_law_body (fun vs H Q E h => SpR.len (n := 5) (fun _ => rfl) h) (fun cdv A outer s H vs Q E hr h => ⟨_, PSs.nox
    (pss_cons (ps_set (i := 5) nd rfl (Or.inl rfl) (pe_lst pa_nil))
    (pss_cons (ps_set (i := 6) nd rfl (Or.inl rfl) (pe_lst pa_nil))
    (pss_cons (ps_for PassesOwn.never rfl (pi_range1 (by rfl) tx.range (pa_cons (pv 2) pa_nil)) (pg_name (i := 7) nd rfl (Or.inl rfl)) (pss_cons (ps_set (i := 8) nd rfl (Or.inl rfl) (pe_call c_law_cell.F (hr.mono (by decide)) (by rfl) c_law_cell.m c_law_cell.k c_law_cell.b .nil pass0 (pa_cons (pv 0) (pa_cons (pe_op op_add (pv 1) (pv 7)) pa_nil))))
    (pss_one (ps_if (PW.pt (pw_and (pt_cmpR (op_eqD hr.units) (pe_op op_mod (pv 8) pe_int) pe_int (nomark _)) (pw_and1 (pt_cmpR op_lt (pe_callB cr_len (by rfl) tx.len PySem.boot_len (pa_cons (pv 6) pa_nil)) pe_int (nomark _))))) (pss_cons (ps_expr (pe_bm PySem.F.plainAttrs_list PySem.F.slot_list_append PySem.F.type_list_append mt_append (pv 6) (pa_cons (pe_ix ix_seq (pe_lst (pa_cons pe_str (pa_cons pe_str pa_nil))) (pe_op op_mod (pe_op op_fdiv (pv 8) pe_int) pe_int) (fun _ _ => rfl)) pa_nil)))
    (pss_one (ps_expr (pe_bm PySem.F.plainAttrs_list PySem.F.slot_list_append PySem.F.type_list_append mt_append (pv 5) (pa_cons (pe_tup (pa_cons (pe_ix ix_seq (pv 6) (pe_un un_neg pe_int) (fun _ _ => rfl)) pa_nil)) pa_nil))))) (pss_one (ps_if (PW.pt (pw_and (pt_cmpR (op_eqD hr.units) (pe_op op_mod (pv 8) pe_int) pe_int (nomark _)) (pw_and1 (pt_cmpR (op_neD hr.units) (pv 6) (pe_lst pa_nil) (nomark _))))) (pss_cons (ps_set (i := 9) nd rfl (Or.inl rfl) (pe_bm0 PySem.F.plainAttrs_list PySem.F.slot_list_pop PySem.F.type_list_pop mt_pop (pv 6)))
    (pss_cons (ps_expr (pe_bm PySem.F.plainAttrs_list PySem.F.slot_list_append PySem.F.type_list_append mt_append (pv 5) (pa_cons (pe_tup (pa_cons (pe_dget hr.units1 (pe_disp (pps_cons pe_str pe_str (pps_cons pe_str pe_str (pps_cons pe_str pe_str pps_nil))) (by rfl) (by rfl) (fun z => by cases z) (by decide)) (pv 9) (fun _ _ => rfl)) pa_nil)) pa_nil)))
    (pss_one (ps_if (pt_cmpR (op_eqD hr.units) (pv 9) pe_str (nomark _)) (pss_one (ps_expr (pe_bm PySem.F.plainAttrs_list PySem.F.slot_list_append PySem.F.type_list_append mt_append (pv 6) (pa_cons pe_str pa_nil)))) pss_nil)))) (pss_one (ps_expr (pe_bm PySem.F.plainAttrs_list PySem.F.slot_list_append PySem.F.type_list_append mt_append (pv 5) (pa_cons (pe_call c_law_line.F (hr.mono (by decide)) (by rfl) c_law_line.m c_law_line.k c_law_line.b .nil pass0 (pa_cons (pe_op op_fdiv (pv 8) pe_int) (pa_cons (pv 3) (pa_cons (pv 4) pa_nil)))) pa_nil))))))))))
    (pss_cons (ps_while PassesOwn.never (pt_cmpR (op_neD hr.units) (pv 6) (pe_lst pa_nil) (nomark _)) (pss_cons (ps_if (pt_cmpR (op_eqD hr.units) (pe_bm0 PySem.F.plainAttrs_list PySem.F.slot_list_pop PySem.F.type_list_pop mt_pop (pv 6)) pe_str (nomark _)) (pss_one (ps_expr (pe_bm PySem.F.plainAttrs_list PySem.F.slot_list_append PySem.F.type_list_append mt_append (pv 5) (pa_cons (pe_tup (pa_cons pe_str pa_nil)) pa_nil)))) pss_nil)
    (pss_one (ps_expr (pe_bm PySem.F.plainAttrs_list PySem.F.slot_list_append PySem.F.type_list_append mt_append (pv 5) (pa_cons (pe_tup (pa_cons pe_str pa_nil)) pa_nil))))))
    (pss_one (ps_ret (pv 5))))))), ?_⟩)
  obtain ⟨Wz, ⟨ns, start, many, B, N⟩, rfl, ok, ⟨hs, hm, hB, hN⟩, hq⟩ := h
  dsimp only at hs hm hB hN hq
  have S := sta_start ["script", "start", "many", "boxes", "words", "lines", "waiting", "k", "cell", "word"] ok
  refine q_newL S fun ll σ W S => ?_
  refine q_newL S fun lw σ W S => ?_
  refine q_forN (C := C0 P w K) (n := many) (fun _ : List Line × List Kw => [some (.scr ns), some (.dat (.int (start : Int))), some (.dat (.int (many : Int))), some (.dat (.list (B.map encN))), some (.dat (.list (N.map encN))), some (.loc ll), some (.loc lw), none, none, none])
    (fun a => [(lw, .lst (a.2.reverse.map encK)), (ll, .lst (a.1.map encL))]) (fun i a => run a.1 [] = some a.2 ∧ a.2.length ≤ 2 ∧ (∀ k ∈ a.2, isW k) ∧ a.1.length ≤ i ∧ ∀ l ∈ a.1, OkLn B N l) ([], []) S (a_cons (e_var rfl) a_nil) (by omega) (fun σ W S => S) ⟨rfl, Nat.zero_le _, fun _ z => (nomatch z), Nat.le_refl _, fun _ z => (nomatch z)⟩ (fun i a σ W hi hI S => ?_) (fun a σ W hI S => ?_)
  · obtain ⟨ls, wt⟩ := a
    obtain ⟨h1, h2, h3, h4, h5⟩ := hI
    dsimp only at h1 h2 h3 h4 h5 S
    have hll : (ls.map encL).length < sizeLine := by rw [List.length_map]; show _ < 16777216; omega
    have hwl : (wt.reverse.map encK).length < sizeLine := by rw [List.length_map, List.length_reverse]; show _ < 16777216; omega
    refine q_setP S (p_call (ns, start + i) (a_cons (e_var rfl) (a_cons ((e_add (e_var (s := .dat (.int (start : Int))) rfl) (e_var (s := .dat (.int (i : Int))) rfl)).to (by rw [← Int.natCast_add])) a_nil)) (by show start + i ≤ 1000; omega)) fun _ ⟨c, e⟩ σ W S => ?_
    subst e
    have next : ∀ {σ W} {Γ' : Ga} (ls' : List Line) (wt' : List Kw), Wk [some (.scr ns), some (.dat (.int (start : Int))), some (.dat (.int (many : Int))), some (.dat (.list (B.map encN))), some (.dat (.list (N.map encN))), some (.loc ll), some (.loc lw), none, none, none] Γ' → Sta (C0 P w K) Wz [] σ W Γ' [(lw, .lst (wt'.reverse.map encK)), (ll, .lst (ls'.map encL))] → run ls' [] = some wt' → wt'.length ≤ 2 → (∀ k ∈ wt', isW k) → ls'.length ≤ i + 1 → (∀ l ∈ ls', OkLn B N l) →
        At (C0 P w K) Wz [] (fun _ : List Line × List Kw => [some (.scr ns), some (.dat (.int (start : Int))), some (.dat (.int (many : Int))), some (.dat (.list (B.map encN))), some (.dat (.list (N.map encN))), some (.loc ll), some (.loc lw), none, none, none]) (fun a => [(lw, .lst (a.2.reverse.map encK)), (ll, .lst (a.1.map encL))]) (fun a => run a.1 [] = some a.2 ∧ a.2.length ≤ 2 ∧ (∀ k ∈ a.2, isW k) ∧ a.1.length ≤ i + 1 ∧ ∀ l ∈ a.1, OkLn B N l) σ W.H :=
      fun {σ W Γ'} ls' wt' hw S e1 e2 e3 e4 e5 => At.mk (ls', wt') ⟨e1, e2, e3, e4, e5⟩ (S.w hw)
    have lenb : (ls ++ [Line.either]).length ≤ i + 1 := by rw [List.length_append, List.length_singleton]; omega
    have lenc : ∀ l : Line, (ls ++ [l]).length ≤ i + 1 := fun l => by rw [List.length_append, List.length_singleton]; omega
    refine s_if S (t_and (t_B (e_eq (e_mod (e_var (s := .dat (.int (c : Int))) rfl) e_int (by decide)) e_int (fl_int _ : Fl 1 _).flat (fl_int _ : Fl 1 _).flat)) fun _ => t_B (e_lt (e_lenK (j := 0) rfl rfl) e_int)) (fun hb W S => ?_) (fun hb1 W S => ?_)
    · rw [Bool.and_eq_true] at hb
      have hlt : wt.length < 2 := by have := of_decide_eq_true hb.2; omega
      have hm2 := mod_in (c := (c : Int) / 7) (n := 2) (by decide)
      refine q_appP (j := 0) S rfl rfl (p_pick (ds := [encK .again, encK .either]) (e_lst (a_cons e_str (a_cons e_str a_nil)) (by show 2 ≤ 1000; decide)) (e_mod (e_fdiv (e_var (s := .dat (.int (c : Int))) rfl) e_int ⟨by decide, by decide⟩) e_int (by decide)) hm2.1 hm2.2) hwl fun _ ⟨dd, hd, e⟩ => ⟨dd, e, fun W S => ?_⟩
      obtain ⟨k, l, ek, el, hop, hk, hob⟩ : ∃ (k : Kw) (l : Line), dd = encK k ∧ encL l = .tuple [encK k] ∧ (∀ st, stp l st = some (k :: st)) ∧ isW k ∧ (l.boxes = [] ∧ l.word = none ∧ ∀ n, l ≠ .do_ n) := by
        rcases List.mem_cons.mp hd with e | hd
        · exact ⟨.again, .again, e, rfl, fun _ => rfl, .inr (.inl rfl), rfl, rfl, fun _ z => nomatch z⟩
        · exact ⟨.either, .either, List.mem_singleton.mp hd, rfl, fun _ => rfl, .inl rfl, rfl, rfl, fun _ z => nomatch z⟩
      rw [ek] at S
      refine s_app (d := encL l) (j := 1) S rfl rfl (e_one1 el (e_ixO (j := 0) rfl rfl (e_neg e_int) (atLast _ _))) hll fun W S => ?_
      have S2 : Sta (C0 P w K) Wz [] σ W [some (.scr ns), some (.dat (.int (start : Int))), some (.dat (.int (many : Int))), some (.dat (.list (B.map encN))), some (.dat (.list (N.map encN))), some (.loc ll), some (.loc lw), some (.dat (.int (i : Int))), some (.dat (.int (c : Int))), none] [(lw, .lst ((k :: wt).reverse.map encK)), (ll, .lst ((ls ++ [l]).map encL))] := by
        rw [← lapp, ← kapp]; exact S
      exact next _ _ (by repeat (first | exact Wk.nil | apply Wk.keep | apply Wk.drop)) S2 (run_one h1 (hop wt)) (by rw [List.length_cons]; omega) (fun x hx => (List.mem_cons.mp hx).elim (fun e => e ▸ hk) (h3 x)) (lenc l) (oks h5 (okb hob))
    · refine s_if S (t_and (t_B (e_eq (e_mod (e_var (s := .dat (.int (c : Int))) rfl) e_int (by decide)) e_int (fl_int _ : Fl 1 _).flat (fl_int _ : Fl 1 _).flat)) fun _ => t_B (e_nev (v_own (j := 0) rfl rfl) e_lst0.v (fl_ks _) (fl_list (n := 3) (ds := []) (fun d h => nomatch h)).flat)) (fun hb W S => ?_) (fun hb2 W S => ?_)
      · rw [eqv_nil, Bool.and_eq_true] at hb
        cases wt with
        | nil => simp at hb
        | cons k rest =>
          rw [← kapp] at S
          have hk := h3 k List.mem_cons_self
          have h3' : ∀ x ∈ rest, isW x := fun x hx => h3 x (List.mem_cons_of_mem _ hx)
          have h2' : rest.length + 1 ≤ 2 := h2
          refine q_pop (j := 0) S rfl rfl (g_name (s := .dat (encK k))) fun σ W S => ?_
          have disp : ∀ {v : Kw} {l : Line}, encL l = .tuple [.str v.str] → valV (mergeK [] [((Sum.inr "either" : Key), V.str "or"), (Sum.inr "or", V.str "end"), (Sum.inr "again", V.str "end")]) (Sum.inr k.str) = some (V.str v.str) → ∀ M', EvS (C0 P w K) [some (.scr ns), some (.dat (.int (start : Int))), some (.dat (.int (many : Int))), some (.dat (.list (B.map encN))), some (.dat (.list (N.map encN))), some (.loc ll), some (.loc lw), some (.dat (.int (i : Int))), some (.dat (.int (c : Int))), some (.dat (encK k))] M' (tTup (tCons (tDGet (tDisp [(tC (.str "either"), tC (.str "or")), (tC (.str "or"), tC (.str "end")), (tC (.str "again"), tC (.str "end"))]) (tVar 9)) tNil)) (.dat (encL l)) := fun he hv M' =>
            e_one1 he (e_disp3 (fun M' => e_var rfl) hv)
          rcases hk with rfl | hk
          · refine q_app (d := encL .or_) (j := 1) S rfl rfl (disp (v := .or_) rfl (by decide +kernel) _) hll fun W S => ?_
            refine s_when S (t_B (e_wordV (a := .either) .either (e_var rfl) rfl)) (fun _ W S => ?_) (fun hz W S => nomatch hz)
            refine s_app (d := encK .or_) (j := 0) S rfl rfl e_str (by rw [List.length_map, List.length_reverse]; show rest.length < 16777216; omega) fun W S => ?_
            have S2 : Sta (C0 P w K) Wz [] σ W [some (.scr ns), some (.dat (.int (start : Int))), some (.dat (.int (many : Int))), some (.dat (.list (B.map encN))), some (.dat (.list (N.map encN))), some (.loc ll), some (.loc lw), some (.dat (.int (i : Int))), some (.dat (.int (c : Int))), some (.dat (encK .either))] [(lw, .lst ((Kw.or_ :: rest).reverse.map encK)), (ll, .lst ((ls ++ [Line.or_]).map encL))] := by
              rw [← lapp, ← kapp]; exact S
            exact next _ _ (by repeat (first | exact Wk.nil | apply Wk.keep | apply Wk.drop)) S2 (run_one h1 (by simp [stp])) (by rw [List.length_cons]; omega) (fun x hx => (List.mem_cons.mp hx).elim (fun e => e ▸ .inr (.inr rfl)) (h3' x)) (lenc _) (oks h5 (okb ⟨rfl, rfl, fun _ z => nomatch z⟩))
          · have hne : k ≠ .either := by rcases hk with rfl | rfl <;> decide
            refine q_app (d := encL .end_) (j := 1) S rfl rfl (disp (v := .end_) rfl (by rcases hk with rfl | rfl <;> decide +kernel) _) hll fun W S => ?_
            refine s_when S (t_B (e_wordV (a := k) .either (e_var rfl) rfl)) (fun hz W S => absurd (of_decide_eq_true hz) hne) (fun _ W S => ?_)
            have S2 : Sta (C0 P w K) Wz [] σ W [some (.scr ns), some (.dat (.int (start : Int))), some (.dat (.int (many : Int))), some (.dat (.list (B.map encN))), some (.dat (.list (N.map encN))), some (.loc ll), some (.loc lw), some (.dat (.int (i : Int))), some (.dat (.int (c : Int))), some (.dat (encK k))] [(lw, .lst (rest.reverse.map encK)), (ll, .lst ((ls ++ [Line.end_]).map encL))] := by
              rw [← lapp]; exact S
            exact next _ _ (by repeat (first | exact Wk.nil | apply Wk.keep | apply Wk.drop)) S2 (run_one h1 (by simp [stp, hne])) (by omega) h3' (lenc _) (oks h5 (okb ⟨rfl, rfl, fun _ z => nomatch z⟩))
      · obtain ⟨c7, hc7⟩ : ∃ c7 : Nat, (c : Int) / 7 = (c7 : Int) := ⟨c / 7, by omega⟩
        refine s_appP (j := 1) S rfl rfl (p_call (c7, B, N) (a_cons ((e_fdiv (e_var (s := .dat (.int (c : Int))) rfl) e_int ⟨by decide, by decide⟩).to (by rw [hc7])) (a_cons (e_var rfl) (a_cons (e_var rfl) a_nil))) ⟨hB, hN⟩) hll fun _ ⟨l, hl, hp, e⟩ => ⟨_, e, fun W S => ?_⟩
        have S2 : Sta (C0 P w K) Wz [] σ W [some (.scr ns), some (.dat (.int (start : Int))), some (.dat (.int (many : Int))), some (.dat (.list (B.map encN))), some (.dat (.list (N.map encN))), some (.loc ll), some (.loc lw), some (.dat (.int (i : Int))), some (.dat (.int (c : Int))), none] [(lw, .lst (wt.reverse.map encK)), (ll, .lst ((ls ++ [l]).map encL))] := by
          rw [← lapp]; exact S
        exact next _ _ (by repeat (first | exact Wk.nil | apply Wk.keep | apply Wk.drop)) S2 (run_one h1 (stp_plain hp _)) h2 h3 (lenc _) (oks h5 hl)
  · obtain ⟨ls, wt⟩ := a
    obtain ⟨h1, h2, h3, h4, h5⟩ := hI
    dsimp only at h1 h2 h3 h4 h5 S
    refine q_while (C := C0 P w K) (fun _ : List Line × List Kw => [some (.scr ns), some (.dat (.int (start : Int))), some (.dat (.int (many : Int))), some (.dat (.list (B.map encN))), some (.dat (.list (N.map encN))), some (.loc ll), some (.loc lw), none, none, none])
      (fun a => [(lw, .lst (a.2.reverse.map encK)), (ll, .lst (a.1.map encL))]) (fun a => run a.1 [] = some a.2 ∧ (∀ k ∈ a.2, isW k) ∧ a.1.length + 2 * a.2.length ≤ many + 4 ∧ ∀ l ∈ a.1, OkLn B N l) (fun a => a.2.length) (ls, wt) S (fun σ W S => S) ⟨h1, h3, by show ls.length + 2 * wt.length ≤ many + 4; omega, h5⟩ fun ⟨ls, wt⟩ hJ => ?_
    obtain ⟨h1, h3, h4, h5⟩ := hJ
    dsimp only at h1 h3 h4 h5 ⊢
    have hll : ∀ n, n ≤ 5 → (ls.map encL).length + n < sizeLine := fun n hn => by rw [List.length_map]; show _ < 16777216; omega
    refine ⟨_, t_B (e_nev (v_own (j := 0) rfl rfl) e_lst0.v (fl_ks _) (fl_list (n := 3) (ds := []) (fun d h => nomatch h)).flat), fun hb σ W S => ?_, fun hb σ W S => ?_⟩
    · rw [eqv_nil] at hb
      cases wt with
      | nil => simp at hb
      | cons k rest =>
        rw [← kapp] at S
        have hk := h3 k List.mem_cons_self
        have h3' : ∀ x ∈ rest, isW x := fun x hx => h3 x (List.mem_cons_of_mem _ hx)
        have h4' : ls.length + 2 * (rest.length + 1) ≤ many + 4 := h4
        have hev : PyData.eqv (encK k) (.str "either") = decide (k = .either) := by
          show (k.str == Kw.either.str) = _
          rw [Bool.beq_eq_decide_eq, Kw.str_dec]
        refine q_ifPop (j := 0) S rfl rfl (fl_str (Kw.ok k) : Fl 1 _).flat (Kw.ok .either) hev (fun hz W S => ?_) (fun hz W S => ?_)
        · have hz : k = .either := of_decide_eq_true hz
          subst hz
          refine s_app (d := encL .or_) (j := 1) S rfl rfl (e_one1 rfl e_str) (hll 0 (by decide)) fun W S => ?_
          refine s_app (d := encL .end_) (j := 1) S rfl rfl (e_one1 rfl e_str) (by rw [List.length_append]; exact hll 1 (by decide)) fun W S => ?_
          have S2 : Sta (C0 P w K) Wz [] σ W [some (.scr ns), some (.dat (.int (start : Int))), some (.dat (.int (many : Int))), some (.dat (.list (B.map encN))), some (.dat (.list (N.map encN))), some (.loc ll), some (.loc lw), none, none, none] [(lw, .lst (rest.reverse.map encK)), (ll, .lst (((ls ++ [Line.or_]) ++ [Line.end_]).map encL))] := by
            rw [← lapp, ← lapp]; exact S
          refine At.mk ((ls ++ [Line.or_]) ++ [Line.end_], rest) ⟨⟨run_one (run_one h1 (st' := .or_ :: rest) (by simp [stp])) (by simp [stp]), h3', ?_, oks (oks h5 (okb ⟨rfl, rfl, fun _ z => nomatch z⟩)) (okb ⟨rfl, rfl, fun _ z => nomatch z⟩)⟩, by show rest.length < rest.length + 1; omega⟩ S2
          show ((ls ++ [Line.or_]) ++ [Line.end_]).length + 2 * rest.length ≤ many + 4
          simp only [List.length_append, List.length_singleton]
          omega
        · have hz : k ≠ .either := of_decide_eq_false hz
          refine s_app (d := encL .end_) (j := 1) S rfl rfl (e_one1 rfl e_str) (hll 0 (by decide)) fun W S => ?_
          have S2 : Sta (C0 P w K) Wz [] σ W [some (.scr ns), some (.dat (.int (start : Int))), some (.dat (.int (many : Int))), some (.dat (.list (B.map encN))), some (.dat (.list (N.map encN))), some (.loc ll), some (.loc lw), none, none, none] [(lw, .lst (rest.reverse.map encK)), (ll, .lst ((ls ++ [Line.end_]).map encL))] := by
            rw [← lapp]; exact S
          refine At.mk (ls ++ [Line.end_], rest) ⟨⟨run_one h1 (by simp [stp, hz]), h3', ?_, oks h5 (okb ⟨rfl, rfl, fun _ z => nomatch z⟩)⟩, by show rest.length < rest.length + 1; omega⟩ S2
          show (ls ++ [Line.end_]).length + 2 * rest.length ≤ many + 4
          simp only [List.length_append, List.length_singleton]
          omega
    · rw [eqv_nil] at hb
      have e : wt = [] := by
        cases wt with
        | nil => rfl
        | cons k rest => simp at hb
      rw [e] at h1
      refine s_retO (j := 1) S rfl rfl (fun h => h) fun v W' si ok => ?_
      exact hq _ v W' (si.lep fun _ h => h) ⟨ls, ⟨h1, by omega, h5⟩, rfl⟩ ok
end
end Dr
namespace Dr
open PySem PySem.Spec PyProof.Rows L2

/-! good programs -/
def nmM : Nm := ⟨"m", by decide +kernel⟩
def nmN : Nm := ⟨"n", by decide +kernel⟩
def nmO : Nm := ⟨"o", by decide +kernel⟩
def nmOwn : Nm := ⟨"own", by decide +kernel⟩
theorem mn : nmM ≠ nmN := fun h => absurd (congrArg Subtype.val h) (by decide +kernel)
theorem mo : nmM ≠ nmO := fun h => absurd (congrArg Subtype.val h) (by decide +kernel)
theorem no' : nmN ≠ nmO := fun h => absurd (congrArg Subtype.val h) (by decide +kernel)
def isDo : Line → Bool
  | .do_ _ => true
  | _ => false
def dosOf (ls : List Line) : List Nat := (ls.zipIdx.filter fun a => isDo a.1).map (·.2)
theorem mem_dos {ls : List Line} {k : Nat} {n : Nm} (h : ls[k]? = some (.do_ n)) : k ∈ dosOf ls :=
  List.mem_map.mpr ⟨(.do_ n, k), List.mem_filter.mpr ⟨List.mem_zipIdx_iff_getElem?.mpr h, rfl⟩, rfl⟩
theorem dos_len (ls : List Line) : (dosOf ls).length = (ls.filter isDo).length := by
  unfold dosOf
  rw [List.length_map]
  have : ∀ (xs : List Line) (n : Nat), ((xs.zipIdx n).filter fun a => isDo a.1).length = (xs.filter isDo).length := by
    intro xs
    induction xs with
    | nil => intro n; rfl
    | cons x xs ih =>
      intro n
      rw [List.zipIdx_cons, List.filter_cons, List.filter_cons]
      split
      · rw [List.length_cons, List.length_cons, ih]
      · exact ih _
  exact this ls 0
def mkA (ws : List Way) (part len : Nat) : List Spot := ws.flatMap fun w => (List.range (len + 1)).flatMap fun k => [⟨w, part, k, false⟩, ⟨w, part, k, true⟩]
def mkF (ws : List Way) (part len : Nat) : List Spot := ws.flatMap fun w => (List.range (len + 1)).flatMap fun k => [⟨w, part, k, false⟩]
theorem mkA_len (ws : List Way) (part len : Nat) : (mkA ws part len).length ≤ ws.length * ((len + 1) * 2) := flat_len fun w _ => by
  have := flat_len (f := fun k => ([⟨w, part, k, false⟩, ⟨w, part, k, true⟩] : List Spot)) (n := 2) (xs := List.range (len + 1)) fun _ _ => Nat.le_refl _
  rw [List.length_range] at this
  exact this
theorem mkF_len (ws : List Way) (part len : Nat) : (mkF ws part len).length ≤ ws.length * ((len + 1) * 1) := flat_len fun w _ => by
  have := flat_len (f := fun k => ([⟨w, part, k, false⟩] : List Spot)) (n := 1) (xs := List.range (len + 1)) fun _ _ => Nat.le_refl _
  rw [List.length_range] at this
  exact this
theorem mkA_mem {ws : List Way} {part len : Nat} {s : Spot} (h1 : s.way ∈ ws) (h2 : s.part = part) (h3 : s.k ≤ len) : s ∈ mkA ws part len := by
  refine List.mem_flatMap.mpr ⟨s.way, h1, List.mem_flatMap.mpr ⟨s.k, List.mem_range.mpr (by omega), ?_⟩⟩
  obtain ⟨w, q, k, hd⟩ := s
  have h2 : q = part := h2
  subst h2
  cases hd <;> simp
theorem mkF_mem {ws : List Way} {part len : Nat} {s : Spot} (h1 : s.way ∈ ws) (h2 : s.part = part) (h3 : s.k ≤ len) (h4 : s.head = false) : s ∈ mkF ws part len := by
  refine List.mem_flatMap.mpr ⟨s.way, h1, List.mem_flatMap.mpr ⟨s.k, List.mem_range.mpr (by omega), ?_⟩⟩
  obtain ⟨w, q, k, hd⟩ := s
  have h2 : q = part := h2
  have h4 : hd = false := h4
  subst h2 h4
  simp
/-- small, by its ways -/
theorem small_of {p : Prog} {w0 w1 w2 : List Way} {n0 n1 n2 : Nat} (hw : ∀ w i, OkWay p w i → (i = 0 ∧ w ∈ w0) ∨ (i = 1 ∧ w ∈ w1) ∨ (i = 2 ∧ w ∈ w2)) (hl : ∀ i pt, p[i]? = some pt → (i = 0 → pt.2.length ≤ n0) ∧ (i = 1 → pt.2.length ≤ n1) ∧ (i = 2 → pt.2.length ≤ n2))
    (hb : w0.length * (n0 + 1) + w1.length * (n1 + 1) + w2.length * (n2 + 1) ≤ 60) : Small p := by
  refine ⟨⟨mkA w0 0 n0 ++ mkA w1 1 n1 ++ mkA w2 2 n2, ?_, fun s hs => ?_⟩, ⟨mkF w0 0 n0 ++ mkF w1 1 n1 ++ mkF w2 2 n2, ?_, fun s hs hd => ?_⟩⟩
  · have a0 := mkA_len w0 0 n0
    have a1 := mkA_len w1 1 n1
    have a2 := mkA_len w2 2 n2
    rw [← Nat.mul_assoc] at a0 a1 a2
    rw [List.length_append, List.length_append]
    omega
  · obtain ⟨pt, h1, h2, _⟩ := hs.part
    have := hl s.part pt h1
    rcases hw _ _ hs.way with ⟨e, h⟩ | ⟨e, h⟩ | ⟨e, h⟩
    · exact List.mem_append_left _ (List.mem_append_left _ (mkA_mem h e (Nat.le_trans h2 (this.1 e))))
    · exact List.mem_append_left _ (List.mem_append_right _ (mkA_mem h e (Nat.le_trans h2 (this.2.1 e))))
    · exact List.mem_append_right _ (mkA_mem h e (Nat.le_trans h2 (this.2.2 e)))
  · have a0 := mkF_len w0 0 n0
    have a1 := mkF_len w1 1 n1
    have a2 := mkF_len w2 2 n2
    rw [Nat.mul_one] at a0 a1 a2
    rw [List.length_append, List.length_append]
    omega
  · obtain ⟨pt, h1, h2, _⟩ := hs.part
    have := hl s.part pt h1
    rcases hw _ _ hs.way with ⟨e, h⟩ | ⟨e, h⟩ | ⟨e, h⟩
    · exact List.mem_append_left _ (List.mem_append_left _ (mkF_mem h e (Nat.le_trans h2 (this.1 e)) hd))
    · exact List.mem_append_left _ (List.mem_append_right _ (mkF_mem h e (Nat.le_trans h2 (this.2.1 e)) hd))
    · exact List.mem_append_right _ (mkF_mem h e (Nat.le_trans h2 (this.2.2 e)) hd)
theorem lnAt_some {p : Prog} {i k : Nat} {l : Line} (h : lnAt p i k = some l) : ∃ pt, p[i]? = some pt ∧ pt.2[k]? = some l := by
  unfold lnAt at h
  cases q : p[i]? with
  | none => rw [q] at h; cases h
  | some pt => rw [q] at h; exact ⟨pt, rfl, h⟩
structure OkL2 (B N : List Nm) (l : Line) : Prop where
  box : ∀ b ∈ l.boxes, b ∈ B
  word : ∀ x, l.word = some x → x ∈ N
theorem good1 {B N : List Nm} {l0 : List Line} (hB : B.length ≤ 3) (hN : N.length ≤ 10) (h : okRow B N 15 l0) : Good [(nmM, l0)] := by
  obtain ⟨h1, h2, h3⟩ := h
  have one : ∀ {i : Nat} {pt : Part}, ([(nmM, l0)] : Prog)[i]? = some pt → i = 0 ∧ pt = (nmM, l0) := fun {i pt} e => by
    cases i with
    | zero => exact ⟨rfl, (Option.some.inj e).symm⟩
    | succ i => simp at e
  have nod : ∀ {k : Nat} {n : Nm}, l0[k]? = some (.do_ n) → False := fun {k n} e => (h3 _ (List.mem_of_getElem? e)).nodo n rfl
  refine ⟨⟨fun e1 e2 => ?_, fun e1 e2 => ?_, fun e1 e2 => ?_, fun e1 e2 => ?_, by show 1 ≤ 3; decide, fun z => (nomatch z), fun pt hp => ?_⟩, small_of (w0 := [[]]) (w1 := []) (w2 := []) (n0 := 15) (n1 := 0) (n2 := 0) (fun w i hw => ?_) (fun i pt e => ?_) (by decide), ⟨B, hB, fun l hl b hb => ?_⟩, ⟨N, hN, fun l hl b hb => ?_⟩⟩
  · obtain ⟨_, rfl⟩ := one e1; exact run_or h1 e2
  · obtain ⟨_, rfl⟩ := one e1; exact run_end h1 e2
  · obtain ⟨_, rfl⟩ := one e1; exact run_head h1 e2
  · obtain ⟨_, rfl⟩ := one e1; exact (nod e2).elim
  · rw [List.mem_singleton.mp hp]; exact Nat.le_trans h2 (by decide)
  · cases hw with
    | nil => exact .inl ⟨rfl, List.mem_singleton_self _⟩
    | snoc _ hl _ _ =>
      obtain ⟨pt, e1, e2⟩ := lnAt_some hl
      obtain ⟨_, rfl⟩ := one e1
      exact (nod e2).elim
  · obtain ⟨e1, rfl⟩ := one e
    subst e1
    exact ⟨fun _ => h2, fun z => (nomatch z), fun z => (nomatch z)⟩
  · have hl : l ∈ l0 := by simpa [allLines] using hl
    exact (h3 l hl).box b hb
  · have hl : l ∈ l0 := by simpa [allLines] using hl
    exact (h3 l hl).word b hb
structure Row3 (B N : List Nm) (n : Nat) (to : Option Nm) (ls : List Line) : Prop where
  run : run ls [] = some []
  len : ls.length ≤ n
  ok : ∀ l ∈ ls, OkL2 B N l
  dos : ∀ m, .do_ m ∈ ls → to = some m
theorem good3 {B N : List Nm} {l0 l1 l2 : List Line} (hB : B.length ≤ 3) (hN : N.length ≤ 10) (h0 : Row3 B N 15 (some nmN) l0) (h1 : Row3 B N 7 (some nmO) l1) (h2 : Row3 B N 2 none l2) (d0 : (l0.filter isDo).length ≤ 4) (d1 : (l1.filter isDo).length ≤ 1) : Good [(nmM, l0), (nmN, l1), (nmO, l2)] := by
  obtain ⟨p, ep⟩ : ∃ p : Prog, p = [(nmM, l0), (nmN, l1), (nmO, l2)] := ⟨_, rfl⟩
  have at_ : ∀ {i : Nat} {pt : Part}, p[i]? = some pt → (i = 0 ∧ pt = (nmM, l0)) ∨ (i = 1 ∧ pt = (nmN, l1)) ∨ (i = 2 ∧ pt = (nmO, l2)) := fun {i pt} e => by
    rw [ep] at e
    match i with
    | 0 => exact .inl ⟨rfl, (Option.some.inj e).symm⟩
    | 1 => exact .inr (.inl ⟨rfl, (Option.some.inj e).symm⟩)
    | 2 => exact .inr (.inr ⟨rfl, (Option.some.inj e).symm⟩)
    | i + 3 => simp at e
  have nN : numOf p nmN = some 1 := by
    rw [ep]
    unfold numOf
    rw [List.findIdx?_cons, decide_eq_false mn]
    simp [List.findIdx?_cons]
  have nO : numOf p nmO = some 2 := by
    rw [ep]
    unfold numOf
    rw [List.findIdx?_cons, decide_eq_false mo]
    simp [List.findIdx?_cons, no']
  have row : ∀ {i : Nat} {pt : Part}, p[i]? = some pt → run pt.2 [] = some [] ∧ (∀ l ∈ pt.2, OkL2 B N l) ∧ pt.2.length ≤ 15 := fun {i pt} e => by
    rcases at_ e with ⟨_, rfl⟩ | ⟨_, rfl⟩ | ⟨_, rfl⟩
    · exact ⟨h0.run, h0.ok, h0.len⟩
    · exact ⟨h1.run, h1.ok, Nat.le_trans h1.len (by decide)⟩
    · exact ⟨h2.run, h2.ok, Nat.le_trans h2.len (by decide)⟩
  have dost : ∀ {i k : Nat} {pt : Part} {n : Nm}, p[i]? = some pt → pt.2[k]? = some (.do_ n) → (i = 0 ∧ pt = (nmM, l0) ∧ n = nmN) ∨ (i = 1 ∧ pt = (nmN, l1) ∧ n = nmO) := fun {i k pt n} e e2 => by
    rcases at_ e with ⟨hi, rfl⟩ | ⟨hi, rfl⟩ | ⟨hi, rfl⟩
    · exact .inl ⟨hi, rfl, (Option.some.inj (h0.dos n (List.mem_of_getElem? e2))).symm⟩
    · exact .inr ⟨hi, rfl, (Option.some.inj (h1.dos n (List.mem_of_getElem? e2))).symm⟩
    · cases h2.dos n (List.mem_of_getElem? e2)
  have w1 : ∀ {w : Way}, OkWay p w 0 → w = [] := fun {w} hw => by
    cases hw with
    | nil => rfl
    | snoc _ _ _ hlt => omega
  have w2 : ∀ {w : Way}, OkWay p w 1 → ∃ k, w = [(0, k)] ∧ k ∈ dosOf l0 := fun {w} hw => by
    cases hw with
    | @snoc w i k _ n hw' hl hn hlt =>
      have : i = 0 := by omega
      subst this
      obtain ⟨pt, e1, e2⟩ := lnAt_some hl
      rcases dost e1 e2 with ⟨_, rfl, rfl⟩ | ⟨z, _⟩
      · exact ⟨k, by rw [w1 hw']; rfl, mem_dos e2⟩
      · cases z
  have w3 : ∀ {w : Way}, OkWay p w 2 → ∃ k j, w = [(0, k), (1, j)] ∧ k ∈ dosOf l0 ∧ j ∈ dosOf l1 := fun {w} hw => by
    cases hw with
    | @snoc w i k _ n hw' hl hn hlt =>
      obtain ⟨pt, e1, e2⟩ := lnAt_some hl
      rcases dost e1 e2 with ⟨rfl, rfl, rfl⟩ | ⟨rfl, rfl, rfl⟩
      · rw [nN] at hn; cases hn
      · obtain ⟨a, e3, e4⟩ := w2 hw'
        exact ⟨a, k, by rw [e3]; rfl, e4, mem_dos e2⟩
  rw [← ep]
  have hmem : ∀ {l : Line}, l ∈ allLines p → OkL2 B N l := fun {l} hl => by
    obtain ⟨pt, hp, hl⟩ := List.mem_flatMap.mp hl
    obtain ⟨i, hi⟩ := List.mem_iff_getElem?.mp hp
    exact (row hi).2.1 l hl
  refine ⟨⟨fun e1 e2 => run_or (row e1).1 e2, fun e1 e2 => run_end (row e1).1 e2, fun e1 e2 => run_head (row e1).1 e2, fun e1 e2 => ?_, by rw [ep]; show 3 ≤ 3; decide, by rw [ep]; exact fun z => (nomatch z), fun pt hp => ?_⟩,
    small_of (w0 := [[]]) (w1 := (dosOf l0).map fun k => [(0, k)]) (w2 := (dosOf l0).flatMap fun k => (dosOf l1).map fun j => [(0, k), (1, j)]) (n0 := 15) (n1 := 7) (n2 := 2) (fun w i hw => ?_) (fun i pt e => ?_) ?_, ⟨B, hB, fun l hl b hb => (hmem hl).box b hb⟩, ⟨N, hN, fun l hl b hb => (hmem hl).word b hb⟩⟩
  · rcases dost e1 e2 with ⟨rfl, _, rfl⟩ | ⟨rfl, _, rfl⟩
    · exact ⟨1, nN, by decide⟩
    · exact ⟨2, nO, by decide⟩
  · obtain ⟨i, hi⟩ := List.mem_iff_getElem?.mp hp
    exact Nat.le_trans (row hi).2.2 (by decide)
  · have hi : i < 3 := by
      cases hw with
      | nil => decide
      | snoc _ _ hn _ => have := numOf_lt hn; rw [ep] at this; exact this
    match i, hi with
    | 0, _ => exact .inl ⟨rfl, by rw [w1 hw]; exact List.mem_singleton_self _⟩
    | 1, _ =>
      obtain ⟨k, e, hk⟩ := w2 hw
      exact .inr (.inl ⟨rfl, List.mem_map.mpr ⟨k, hk, e.symm⟩⟩)
    | 2, _ =>
      obtain ⟨k, j, e, hk, hj⟩ := w3 hw
      exact .inr (.inr ⟨rfl, List.mem_flatMap.mpr ⟨k, hk, List.mem_map.mpr ⟨j, hj, e.symm⟩⟩⟩)
  · rcases at_ e with ⟨rfl, rfl⟩ | ⟨rfl, rfl⟩ | ⟨rfl, rfl⟩
    · exact ⟨fun _ => h0.len, fun z => (nomatch z), fun z => (nomatch z)⟩
    · exact ⟨fun z => (nomatch z), fun _ => h1.len, fun z => (nomatch z)⟩
    · exact ⟨fun z => (nomatch z), fun z => (nomatch z), fun _ => h2.len⟩
  · have a1 := dos_len l0
    have a2 := dos_len l1
    have a3 := flat_len (f := fun k => (dosOf l1).map fun j => ([(0, k), (1, j)] : Way)) (n := 1) (xs := dosOf l0) fun x _ => by rw [List.length_map]; omega
    rw [List.length_map, List.length_singleton]
    omega
end Dr
namespace Dr
open PySem PySem.Spec PyProof.Rows L2

section
variable {P : Program} {w : World} {K : PySem.W.Frag} {mg : Str → Option Value} {base : Heap} {f f1 f2 f3 f4 f5 f6 : Addr} {fd d1 d2 d3 d4 d5 d6 : FuncData} {aO aG cg : Addr} {C : Cn} {Γ : Ga} {M M' : Ms} {ta tb tc td te tk tv ty tl : TE} {W0 W : Wo} {T : Kn} {σ : L2.St} {s : Sv} {D : Ends} {tz tbd t1 t2 : TS} {d : PyData} {tt : TT} {R R1 R2 R3 : Sv → Prop} {ds : List PyData}
theorem p_lst1 (h : EvP C Γ M te R) (hR : ∀ s, R s → ∃ d, s = .dat d) : EvP C Γ M (tLst (tCons te tNil)) (fun s => ∃ d, R (.dat d) ∧ s = .dat (.list [d])) := fun W0 T σ W S Q k =>
  h W0 T σ W S _ fun s v W1 l1 r ok => by
    obtain ⟨d, e⟩ := hR s r
    subst e
    refine ⟨by show 1 ≤ sizeLine; decide, fun p hp => ?_⟩
    exact k _ _ (W1.new p (.lst [v])) (l1.trans (Le.new hp)) ⟨d, r, rfl⟩ (.lst upd_same (DaAll.mono (Same.add (Wo.gfree hp)) _ _ (.one ok)))
theorem e_catL {a b : List Line} (ha : EvS C Γ M ta (.dat (.list (a.map encL)))) (hb : EvS C Γ M tb (.dat (.list (b.map encL)))) (h : a.length + b.length ≤ 1000) : EvS C Γ M (tOp rCat ta tb) (.dat (.list ((a ++ b).map encL))) :=
  (e_cat ha hb (by rw [List.length_map, List.length_map]; exact Nat.le_trans h (by decide))).to (by rw [List.map_append])
theorem e_repB {l : Line} {b : Bool} (ha : EvS C Γ M ta (.dat (.list ([l].map encL)))) (hb : EvS C Γ M tb (.dat (.bool b))) : EvS C Γ M (tOp rRep ta (tCB rIntQ (tCons tb tNil))) (.dat (.list ((if b = true then [l] else []).map encL))) := by
  refine (e_rep ha (e_intB hb) (by cases b <;> decide) (by cases b <;> decide) ?_).to ?_
  · cases b
    · show 1 * 0 ≤ sizeLine; decide
    · show 1 * 1 ≤ sizeLine; decide
  · cases b <;> rfl
theorem e_ls1 {l : Line} (h : EvS C Γ M te (.dat (encL l))) : EvS C Γ M (tLst (tCons te tNil)) (.dat (.list ([l].map encL))) := e_lst (ds := [encL l]) (a_cons h a_nil) (by show 1 ≤ 1000; decide)
theorem e_ls2 {l m : Line} (h : EvS C Γ M ta (.dat (encL l))) (h2 : EvS C Γ M tb (.dat (encL m))) : EvS C Γ M (tLst (tCons ta (tCons tb tNil))) (.dat (.list ([l, m].map encL))) := e_lst (ds := [encL l, encL m]) (a_cons h (a_cons h2 a_nil)) (by show 2 ≤ 1000; decide)
theorem run_plains : ∀ (ls : List Line) (st : List Kw), (∀ l ∈ ls, l.plain = true) → run ls st = some st
  | [], st, _ => rfl
  | l :: r, st, h => by
    show (stp l st).bind (run r) = some st
    rw [stp_plain (h l List.mem_cons_self)]
    exact run_plains r st fun x hx => h x (List.mem_cons_of_mem _ hx)
theorem p_mod {i n : Int} (ha : EvS C Γ M ta (.dat (.int i))) (hb : EvS C Γ M tb (.dat (.int n))) (h : 0 < n) : EvS C Γ M (tOp (rI (fun _ j => 0 < j) fun i j => .int (i % j)) ta tb) (.dat (.int (i % n))) := e_mod ha hb h
theorem e_eqZ {i j : Int} (ha : EvS C Γ M ta (.dat (.int i))) (hb : EvS C Γ M tb (.dat (.int j))) : EvS C Γ M (tOp (rEqD C.K) ta tb) (.dat (.bool (decide (i = j)))) :=
  (e_eq ha hb (fl_int _ : Fl 1 _).flat (fl_int _ : Fl 1 _).flat).to (by rw [show PyData.eqv (.int i) (.int j) = (i == j) from rfl, Bool.beq_eq_decide_eq])
structure ArgC where
  ns : List Int
  start : Nat
  B : List Nm
  N : List Nm
abbrev sp_law_chain (P : Program) (w : World) (K : PySem.W.Frag) : Sp := SpR (C0 P w K) (α := ArgC) (fun a => [.scr a.ns, .dat (.int (a.start : Int)), .dat (.list (a.B.map encN)), .dat (.list (a.N.map encN))]) (fun a => a.start ≤ 100 ∧ 0 < a.B.length ∧ 0 < a.N.length) (fun a s => ∃ ls : List Line, okRow a.B a.N 10 ls ∧ s = .dat (.list (ls.map encL)))
theorem sc_law_chain : FnScope ["script", "start", "boxes", "words", "cell", "a", "b", "w", "more", "made", "taken", "at", "lines"] ["script", "start", "boxes", "words"] (defScope s_law_chain) := ⟨rfl, rfl, rfl, by decide +kernel, rfl, by decide +kernel, by decide +kernel⟩
theorem ok_law_chain (T : Txt K mg aO aG) (c_law_cell : Cal P w K mg base 1 "_law_cell" ["script", "k"] (sp_law_cell P w K) f1 d1) (c_law_line : Cal P w K mg base 1 "_law_line" ["cell", "boxes", "words"] (sp_law_line P w K) f2 d2) (F : FnP K "_law_chain" "_law_chain" s_law_chain f fd) : FnOk P w K mg base CX0 2 f fd ["script", "start", "boxes", "words"] (sp_law_chain P w K) := by
  have nd := sc_law_chain.nd
  have tx := T
  refine F.ok sc_law_chain (fun vs H Q E h => SpR.len (n := 4) (fun _ => rfl) h) (fun cdv A outer s H vs Q E hr h => ⟨_, PSs.nox
    (pss_cons (ps_set (i := 4) nd rfl (Or.inl rfl) (pe_call c_law_cell.F (hr.mono (by decide)) (by rfl) c_law_cell.m c_law_cell.k c_law_cell.b .nil pass0 (pa_cons (pv 0) (pa_cons (pv 1) pa_nil))))
    (pss_cons (ps_set (i := 5) nd rfl (Or.inl rfl) (pe_ix ix_seq (pv 2) (pe_op op_mod (pv 4) (pe_callB cr_len (by rfl) tx.len PySem.boot_len (pa_cons (pv 2) pa_nil))) (fun _ _ => rfl)))
    (pss_cons (ps_set (i := 6) nd rfl (Or.inl rfl) (pe_ix ix_seq (pv 2) (pe_op op_mod (pe_op op_fdiv (pv 4) pe_int) (pe_callB cr_len (by rfl) tx.len PySem.boot_len (pa_cons (pv 2) pa_nil))) (fun _ _ => rfl)))
    (pss_cons (ps_set (i := 7) nd rfl (Or.inl rfl) (pe_ix ix_seq (pv 3) (pe_op op_mod (pe_op op_fdiv (pv 4) pe_int) (pe_callB cr_len (by rfl) tx.len PySem.boot_len (pa_cons (pv 3) pa_nil))) (fun _ _ => rfl)))
    (pss_cons (ps_set (i := 8) nd rfl (Or.inl rfl) (pe_lst (pa_cons (pe_call c_law_line.F (hr.mono (by decide)) (by rfl) c_law_line.m c_law_line.k c_law_line.b .nil pass0 (pa_cons (pe_call c_law_cell.F (hr.mono (by decide)) (by rfl) c_law_cell.m c_law_cell.k c_law_cell.b .nil pass0 (pa_cons (pv 0) (pa_cons (pe_op op_add (pv 1) pe_int) pa_nil))) (pa_cons (pv 2) (pa_cons (pv 3) pa_nil)))) pa_nil)))
    (pss_cons (ps_set (i := 9) nd rfl (Or.inl rfl) (pe_ix ix_seq (pe_lst (pa_cons (pe_tup (pa_cons pe_str (pa_cons (pv 5) (pa_cons (pv 7) (pa_cons (pv 5) (pa_cons (pv 6) pa_nil)))))) (pa_cons (pe_tup (pa_cons pe_str (pa_cons (pv 5) (pa_cons (pv 7) (pa_cons (pv 6) (pa_cons (pv 5) pa_nil)))))) pa_nil))) (pe_op op_mod (pe_op op_fdiv (pv 4) pe_int) pe_int) (fun _ _ => rfl)))
    (pss_cons (ps_set (i := 10) nd rfl (Or.inl rfl) (pe_ix ix_seq (pe_lst (pa_cons (pe_tup (pa_cons pe_str (pa_cons (pv 5) (pa_cons (pv 5) pa_nil)))) (pa_cons (pe_tup (pa_cons pe_str (pa_cons (pv 5) (pa_cons (pv 5) pa_nil)))) pa_nil))) (pe_op op_mod (pe_op op_fdiv (pv 4) pe_int) pe_int) (fun _ _ => rfl)))
    (pss_cons (ps_set (i := 11) nd rfl (Or.inl rfl) (pe_op op_mod (pe_op op_fdiv (pv 4) pe_int) pe_int))
    (pss_cons (ps_set (i := 12) nd rfl (Or.inl rfl) (pe_op op_cat (pe_op op_cat (pe_op op_cat (pe_lst (pa_cons (pe_tup (pa_cons pe_str pa_nil)) (pa_cons (pv 9) pa_nil))) (pe_op op_rep (pv 8) (pe_callTy cr_int (by rfl) tx.int (by decide +kernel) (pa_cons (pe_cmpR (op_eqD hr.units) (pv 11) pe_int (nomark _)) pa_nil)))) (pe_lst (pa_cons (pe_tup (pa_cons pe_str pa_nil)) pa_nil))) (pe_op op_rep (pv 8) (pe_callTy cr_int (by rfl) tx.int (by decide +kernel) (pa_cons (pe_cmpR (op_eqD hr.units) (pv 11) pe_int (nomark _)) pa_nil)))))
    (pss_cons (ps_set (i := 12) nd rfl (Or.inl rfl) (pe_op op_cat (pe_op op_cat (pe_op op_cat (pv 12) (pe_lst (pa_cons (pe_tup (pa_cons pe_str pa_nil)) (pa_cons (pv 10) pa_nil)))) (pe_op op_rep (pv 8) (pe_callTy cr_int (by rfl) tx.int (by decide +kernel) (pa_cons (pe_cmpR (op_eqD hr.units) (pv 11) pe_int (nomark _)) pa_nil)))) (pe_lst (pa_cons (pe_tup (pa_cons pe_str pa_nil)) pa_nil))))
    (pss_one (ps_ret (pe_op op_cat (pe_op op_cat (pv 12) (pe_op op_rep (pv 8) (pe_callTy cr_int (by rfl) tx.int (by decide +kernel) (pa_cons (pe_cmpR (op_eqD hr.units) (pv 11) pe_int (nomark _)) pa_nil)))) (pe_lst (pa_cons (pe_tup (pa_cons pe_str (pa_cons (pv 5) pa_nil))) pa_nil))))))))))))))), ?_⟩)
  obtain ⟨Wz, ⟨ns, start, B, N⟩, rfl, ok, ⟨hs, hB, hN⟩, hq⟩ := h
  dsimp only at hs hB hN hq
  have hBi : (0 : Int) < B.length := by omega
  have hNi : (0 : Int) < N.length := by omega
  have S := sta_start ["script", "start", "boxes", "words", "cell", "a", "b", "w", "more", "made", "taken", "at", "lines"] ok
  refine q_setP S (p_call (ns, start) (a_cons (e_var rfl) (a_cons (e_var rfl) a_nil)) (by show start ≤ 1000; omega)) fun _ ⟨c, e⟩ σ W S => ?_
  subst e
  refine q_setP S (p_name (e_var rfl) (e_mod (e_var (s := .dat (.int (c : Int))) rfl) (e_lenN (e_var rfl)) hBi) (mod_in hBi).1 (mod_in hBi).2) fun _ ⟨a, ha, e⟩ σ W S => ?_
  subst e
  refine q_setP S (p_name (e_var rfl) (e_mod (e_fdiv (e_var (s := .dat (.int (c : Int))) rfl) e_int ⟨by decide, by decide⟩) (e_lenN (e_var rfl)) hBi) (mod_in hBi).1 (mod_in hBi).2) fun _ ⟨b, hb, e⟩ σ W S => ?_
  subst e
  refine q_setP S (p_name (e_var rfl) (e_mod (e_fdiv (e_var (s := .dat (.int (c : Int))) rfl) e_int ⟨by decide, by decide⟩) (e_lenN (e_var rfl)) hNi) (mod_in hNi).1 (mod_in hNi).2) fun _ ⟨x, hx, e⟩ σ W S => ?_
  subst e
  refine q_setP S (p_lst1 (p_callA (R' := fun s => ∃ l : Line, OkLn B N l ∧ l.plain = true ∧ s = .dat (encL l)) (ap_cons (p_call (ns, start + 1) (a_cons (e_var rfl) (a_cons (e_add1 (e_var rfl)) a_nil)) (by show start + 1 ≤ 1000; omega)) (ap_cons (e_var (s := .dat (.list (B.map encN))) rfl).p (ap_cons (e_var (s := .dat (.list (N.map encN))) rfl).p ap_nil))) ?_) fun s ⟨l, _, _, e⟩ => ⟨_, e⟩) fun _ ⟨dd, ⟨l, hl, hlp, el⟩, e⟩ σ W S => ?_
  · rintro ss ⟨s1, r1, rfl, ⟨c2, rfl⟩, s2, r2, rfl, rfl, s3, r3, rfl, rfl, rfl⟩
    exact ⟨(c2, B, N), rfl, ⟨hB, hN⟩, fun s' h => h⟩
  subst e
  cases el
  have hm1 := mod_in (c := (c : Int) / 125) (n := 2) (by decide)
  have hm2 := mod_in (c := (c : Int) / 250) (n := 2) (by decide)
  refine q_setP S (p_pick (ds := [encL (.pair a x a b), encL (.pair a x b a)]) (e_lst (a_cons (e_l (ns := [a, x, a, b]) (a_cons (e_var rfl) (a_cons (e_var rfl) (a_cons (e_var rfl) (a_cons (e_var rfl) a_nil)))) rfl (by show 4 ≤ 10; decide)) (a_cons (e_l (ns := [a, x, b, a]) (a_cons (e_var rfl) (a_cons (e_var rfl) (a_cons (e_var rfl) (a_cons (e_var rfl) a_nil)))) rfl (by show 4 ≤ 10; decide)) a_nil)) (by show 2 ≤ 1000; decide)) (e_mod (e_fdiv (e_var (s := .dat (.int (c : Int))) rfl) e_int ⟨by decide, by decide⟩) e_int (by decide)) hm1.1 hm1.2) fun _ ⟨dm, hdm, e⟩ σ W S => ?_
  subst e
  obtain ⟨made, em, mp, mk⟩ : ∃ m : Line, dm = encL m ∧ m.plain = true ∧ OkLn B N m := by
    rcases List.mem_cons.mp hdm with e | e
    · exact ⟨_, e, rfl, fun y hy => by simp [Line.boxes] at hy; grind, fun y hy => by simp [Line.word] at hy; grind, fun _ z => nomatch z⟩
    · exact ⟨_, List.mem_singleton.mp e, rfl, fun y hy => by simp [Line.boxes] at hy; grind, fun y hy => by simp [Line.word] at hy; grind, fun _ z => nomatch z⟩
  subst em
  refine q_setP S (p_pick (ds := [encL (.first a a), encL (.second a a)]) (e_lst (a_cons (e_l (ns := [a, a]) (a_cons (e_var rfl) (a_cons (e_var rfl) a_nil)) rfl (by show 2 ≤ 10; decide)) (a_cons (e_l (ns := [a, a]) (a_cons (e_var rfl) (a_cons (e_var rfl) a_nil)) rfl (by show 2 ≤ 10; decide)) a_nil)) (by show 2 ≤ 1000; decide)) (e_mod (e_fdiv (e_var (s := .dat (.int (c : Int))) rfl) e_int ⟨by decide, by decide⟩) e_int (by decide)) hm2.1 hm2.2) fun _ ⟨dm2, hdm2, e⟩ σ W S => ?_
  subst e
  obtain ⟨taken, em2, tp, tk⟩ : ∃ m : Line, dm2 = encL m ∧ m.plain = true ∧ OkLn B N m := by
    rcases List.mem_cons.mp hdm2 with e | e
    · exact ⟨_, e, rfl, fun y hy => by simp [Line.boxes] at hy; grind, fun y hy => by simp [Line.word] at hy, fun _ z => nomatch z⟩
    · exact ⟨_, List.mem_singleton.mp e, rfl, fun y hy => by simp [Line.boxes] at hy; grind, fun y hy => by simp [Line.word] at hy, fun _ z => nomatch z⟩
  subst em2
  refine q_set S (e_mod (e_fdiv (e_var (s := .dat (.int (c : Int))) rfl) e_int ⟨by decide, by decide⟩) e_int (by decide)) fun σ W S => ?_
  obtain ⟨at_, eat⟩ : ∃ i : Int, i = (c : Int) / 500 % 5 := ⟨_, rfl⟩
  rw [← eat] at S
  have hml : ∀ b : Bool, (if b = true then [l] else []).length ≤ 1 := fun b => by cases b <;> simp
  refine q_set S (e_catL (e_catL (e_catL (e_ls2 (l := .again) (e_one1 rfl e_str) (e_var rfl)) (e_repB (l := l) (e_var rfl) (e_eqZ (i := at_) (e_var rfl) e_int)) ?_) (e_ls1 (l := .end_) (e_one1 rfl e_str)) ?_) (e_repB (l := l) (e_var rfl) (e_eqZ (i := at_) (e_var rfl) e_int)) ?_) fun σ W S => ?_
  · have := hml (decide (at_ = 0)); simp only [List.length_cons, List.length_nil]; omega
  · have := hml (decide (at_ = 0)); simp only [List.length_append, List.length_cons, List.length_nil]; omega
  · have := hml (decide (at_ = 0)); have := hml (decide (at_ = 1)); simp only [List.length_append, List.length_cons, List.length_nil]; omega
  obtain ⟨L1, eL1⟩ : ∃ L : List Line, L = [Line.again, made] ++ (if decide (at_ = 0) = true then [l] else []) ++ [Line.end_] ++ (if decide (at_ = 1) = true then [l] else []) := ⟨_, rfl⟩
  rw [← eL1] at S
  have l1 : L1.length ≤ 5 := by have := hml (decide (at_ = 0)); have := hml (decide (at_ = 1)); rw [eL1]; simp only [List.length_append, List.length_cons, List.length_nil]; omega
  refine q_set S (e_catL (e_catL (e_catL (e_var rfl) (e_ls2 (l := .again) (e_one1 rfl e_str) (e_var rfl)) ?_) (e_repB (l := l) (e_var rfl) (e_eqZ (i := at_) (e_var rfl) e_int)) ?_) (e_ls1 (l := .end_) (e_one1 rfl e_str)) ?_) fun σ W S => ?_
  · simp only [List.length_cons, List.length_nil]; omega
  · have := hml (decide (at_ = 2)); simp only [List.length_append, List.length_cons, List.length_nil]; omega
  · have := hml (decide (at_ = 2)); simp only [List.length_append, List.length_cons, List.length_nil]; omega
  obtain ⟨L2', eL2⟩ : ∃ L : List Line, L = L1 ++ [Line.again, taken] ++ (if decide (at_ = 2) = true then [l] else []) ++ [Line.end_] := ⟨_, rfl⟩
  rw [← eL2] at S
  have l2 : L2'.length ≤ 9 := by have := hml (decide (at_ = 2)); rw [eL2]; simp only [List.length_append, List.length_cons, List.length_nil]; omega
  refine s_ret S (e_catL (e_catL (e_var rfl) (e_repB (l := l) (e_var rfl) (e_eqZ (i := at_) (e_var rfl) e_int)) ?_) (e_ls1 (l := .tell a) (e_l (ns := [a]) (a_cons (e_var rfl) a_nil) rfl (by show 1 ≤ 10; decide))) ?_) fun v W' si ok => ?_
  · have := hml (decide (at_ = 3)); omega
  · have := hml (decide (at_ = 3)); simp only [List.length_append, List.length_cons, List.length_nil]; omega
  refine hq _ v W' (si.lep fun _ h => h) ⟨_, ?_, rfl⟩ ok
  have htell : OkLn B N (.tell a) := ⟨fun y hy => by simp [Line.boxes] at hy; grind, fun y hy => by simp [Line.word] at hy, fun _ z => nomatch z⟩
  have pl : ∀ (q : Bool) (st : List Kw), run (if q = true then [l] else []) st = some st := fun q st => run_plains _ st fun y hy => by cases q <;> simp at hy; rw [hy]; exact hlp
  rw [eL2, eL1]
  refine ⟨?_, ?_, fun y hy => ?_⟩
  · have st1 := stp_plain mp
    have st2 := stp_plain tp
    have st3 := stp_plain hlp
    have st4 : ∀ st, stp (.tell a) st = some st := fun _ => rfl
    have st5 : ∀ st, stp .again st = some (.again :: st) := fun _ => rfl
    have st6 : ∀ st, stp .end_ (.again :: st) = some st := fun _ => by simp [stp]
    by_cases a0 : at_ = 0
    · simp [a0, run, st1, st2, st3, st4, st5, st6]
    · by_cases a1 : at_ = 1
      · simp [a1, run, st1, st2, st3, st4, st5, st6]
      · by_cases a2 : at_ = 2
        · simp [a2, run, st1, st2, st3, st4, st5, st6]
        · by_cases a3 : at_ = 3 <;> simp [a0, a1, a2, a3, run, st1, st2, st3, st4, st5, st6]
  · by_cases a0 : at_ = 0
    · simp [a0]
    · by_cases a1 : at_ = 1
      · simp [a1]
      · by_cases a2 : at_ = 2
        · simp [a2]
        · by_cases a3 : at_ = 3 <;> simp [a0, a1, a2, a3]
  · have again_ : OkLn B N .again := okb ⟨rfl, rfl, fun _ z => nomatch z⟩
    have end_' : OkLn B N .end_ := okb ⟨rfl, rfl, fun _ z => nomatch z⟩
    have cond : ∀ (q : Bool), y ∈ (if q = true then [l] else []) → OkLn B N y := fun q h => by cases q <;> simp at h; rw [h]; exact hl
    simp only [List.mem_append, List.mem_cons, List.not_mem_nil, or_false] at hy
    rcases hy with ((((((((h | h) | h) | h) | h) | (h | h)) | h) | h) | h) | h
    · rw [h]; exact again_
    · rw [h]; exact mk
    · exact cond _ h
    · rw [h]; exact end_'
    · exact cond _ h
    · rw [h]; exact again_
    · rw [h]; exact tk
    · exact cond _ h
    · rw [h]; exact end_'
    · exact cond _ h
    · rw [h]; exact htell
end
end Dr
namespace Dr
open PySem PySem.Spec PyProof.Rows L2

section
variable {P : Program} {w : World} {K : PySem.W.Frag} {mg : Str → Option Value} {base : Heap} {f f1 f2 f3 f4 f5 f6 : Addr} {fd d1 d2 d3 d4 d5 d6 : FuncData} {aO aG cg : Addr} {C : Cn} {Γ : Ga} {M M' : Ms} {ta tb tc td te tk tv ty tl : TE} {W0 W : Wo} {T : Kn} {σ : L2.St} {s : Sv} {D : Ends} {tz tbd t1 t2 : TS} {d : PyData} {tt : TT} {R R1 R2 R3 : Sv → Prop} {ds : List PyData}
theorem cutP_take (xs : List PyData) (j : Nat) : cutP xs none (some (j : Int)) = xs.take j := by
  unfold cutP
  rw [HT.sIx_none, HT.sIx_nat, List.drop_zero, Nat.sub_zero]
  rcases Nat.le_total j xs.length with h | h
  · rw [Nat.min_eq_left h]
  · rw [Nat.min_eq_right h, List.take_length, List.take_of_length_le h]
theorem cutP_drop (xs : List PyData) (j : Nat) : cutP xs (some (j : Int)) none = xs.drop j := by
  unfold cutP
  rw [HT.sIx_none, HT.sIx_nat]
  rcases Nat.le_total j xs.length with h | h
  · rw [Nat.min_eq_left h, List.take_of_length_le (by rw [List.length_drop]; omega)]
  · rw [Nat.min_eq_right h, List.drop_of_length_le (Nat.le_refl _), List.drop_of_length_le h]; simp
theorem p_slN {j n : Nat} (h : EvP C Γ M te (fun s => ∃ ns : List Nm, ns.length = n ∧ s = .dat (.list (ns.map encN)))) (hi : EvS C Γ M tb (.dat (.int (j : Int)))) (hj : j ≤ n) : EvP C Γ M (tSl (rSlL C.K) te tNoPart (tPart tb)) (fun s => ∃ ns : List Nm, ns.length = j ∧ s = .dat (.list (ns.map encN))) := fun W0 T σ W S Q k =>
  h W0 T σ W S _ fun s x W1 l1 ⟨ns, hn, e⟩ ok1 => o_none W0 T σ W1 (S.le l1) _ fun W2 l2 => (o_some hi) W0 T σ W2 ((S.le l1).le l2) _ fun W3 l3' => by
    have l3 := l2.trans l3'
    subst e
    cases ok1 with
    | @lst a vs _ hx hall =>
      refine ⟨a, vs, rfl, SqL.of (W3.fz _ _ (l3.gg _ _ hx)), fun p hp => k _ _ (W3.new p (.lst (cutV vs none (some (j : Int))))) ((l1.trans l3).trans (Le.new hp)) ⟨ns.take j, by rw [List.length_take]; omega, rfl⟩ (.lst upd_same ?_)⟩
      have e : (ns.take j).map encN = cutP (ns.map encN) none (some (j : Int)) := by rw [cutP_take, List.map_take]
      rw [e]
      unfold cutV cutP
      rw [hall.length]
      exact ((DaAll.mono (l3.gg.trans (Same.add (Wo.gfree hp))) _ _ hall).drop _).take _
theorem q_ifK {b : Bool} (Pj : L2.St → Wo → Prop) (S : Sta C W0 T σ W Γ M) (h : EvT C Γ M tt b) (k : ∀ σ W, Pj σ W → tz D σ W.H)
    (h1 : b = true → ∀ W', Sta C W0 T σ W' Γ M → (∀ σ W, Pj σ W → tz D σ W.H) → t1 { D with nx := tz D } σ W'.H) (h2 : b = false → ∀ W', Sta C W0 T σ W' Γ M → (∀ σ W, Pj σ W → tz D σ W.H) → t2 { D with nx := tz D } σ W'.H) : tSeq (tIfS tt t1 t2) tz D σ W.H :=
  q_if S h (fun hb W' S' => h1 hb W' S' k) (fun hb W' S' => h2 hb W' S' k)
theorem e_takeL {ls : List Line} {j : Nat} (ha : EvS C Γ M ta (.dat (.list (ls.map encL)))) (hb : EvS C Γ M tb (.dat (.int (j : Int)))) : EvS C Γ M (tSl (rSlL C.K) ta tNoPart (tPart tb)) (.dat (.list ((ls.take j).map encL))) :=
  (e_slL ha o_none (o_some hb)).to (by rw [cutP_take, List.map_take])
theorem e_dropL {ls : List Line} {j : Nat} (ha : EvS C Γ M ta (.dat (.list (ls.map encL)))) (hb : EvS C Γ M tb (.dat (.int (j : Int)))) : EvS C Γ M (tSl (rSlL C.K) ta (tPart tb) tNoPart) (.dat (.list ((ls.drop j).map encL))) :=
  (e_slL ha (o_some hb) o_none).to (by rw [cutP_drop, List.map_drop])
theorem e_repL {l : Line} {q : Nat} (ha : EvS C Γ M ta (.dat (.list ([l].map encL)))) (hb : EvS C Γ M tb (.dat (.int (q : Int)))) (hq : q ≤ 100) : EvS C Γ M (tOp rRep ta tb) (.dat (.list ((List.replicate q l).map encL))) := by
  refine (e_rep ha hb (by omega) (by omega) ?_).to ?_
  · rw [Int.toNat_natCast]
    show 1 * q ≤ 16777216
    omega
  · rw [Int.toNat_natCast]
    have : ∀ q : Nat, (List.replicate q ([l].map encL)).flatten = (List.replicate q l).map encL := fun q => by
      induction q with
      | zero => rfl
      | succ q ih => rw [List.replicate_succ, List.flatten_cons, ih, List.replicate_succ]; rfl
    rw [this]
theorem e_neZ {i j : Int} (ha : EvS C Γ M ta (.dat (.int i))) (hb : EvS C Γ M tb (.dat (.int j))) : EvS C Γ M (tOp (rNeD C.K) ta tb) (.dat (.bool (!decide (i = j)))) :=
  (e_ne ha hb (fl_int _ : Fl 1 _).flat (fl_int _ : Fl 1 _).flat).to (by rw [show PyData.eqv (.int i) (.int j) = (i == j) from rfl, Bool.beq_eq_decide_eq])
theorem e_lenLl {ls : List Line} (h : EvS C Γ M ta (.dat (.list (ls.map encL)))) : EvS C Γ M (tCB (rLenQ C.K) (tCons ta tNil)) (.dat (.int (ls.length : Int))) := (e_lenL h).to (by rw [List.length_map])
theorem e_partM {ls : List Line} {k : Nm} (h : EvS C Γ M te (.dat (.list (ls.map encL)))) : EvS C Γ M (tTup (tCons (tC (.str k.1)) (tCons (tCB (rTupQ C.K) (tCons te tNil)) tNil))) (.dat (encPart (k, ls))) :=
  e_tup (ds := [.str k.1, .tuple (ls.map encL)]) (a_cons e_str (a_cons (e_tupL h) a_nil)) (by show 2 ≤ 1000; decide)
theorem okl2 {B N : List Nm} {l : Line} (h : OkLn B N l) : OkL2 B (nmOwn :: N) l := ⟨h.box, fun x hx => List.mem_cons_of_mem _ (h.word x hx)⟩
theorem isDo_of {l : Line} (h : ∀ n, l ≠ .do_ n) : isDo l = false := by cases l <;> first | rfl | exact absurd rfl (h _)
theorem nodo_filter {B N : List Nm} {ls : List Line} (h : ∀ l ∈ ls, OkLn B N l) : ls.filter isDo = [] := by
  rw [List.filter_eq_nil_iff]
  intro l hl
  rw [isDo_of (h l hl).nodo]
  decide
abbrev sp_law_program (P : Program) (w : World) (K : PySem.W.Frag) : Sp := SpR (C0 P w K) (α := List Int) (fun a => [.scr a, .dat (.int 6)]) (fun _ => True) (fun _ s => ∃ p : Prog, Good p ∧ s = .dat (encProg p))
theorem natmod {i n : Int} (h : 0 < n) : ∃ j : Nat, i % n = (j : Int) ∧ (j : Int) < n := ⟨(i % n).toNat, by rw [Int.toNat_of_nonneg (mod_in h).1], by rw [Int.toNat_of_nonneg (mod_in h).1]; exact (mod_in h).2⟩
theorem sc_law_program : FnScope ["script", "top", "cell", "boxes", "words", "lines", "at", "inner", "last", "line"] ["script", "top"] (defScope s_law_program) := ⟨rfl, rfl, rfl, by decide +kernel, rfl, by decide +kernel, by decide +kernel⟩
theorem ok_law_program (T : Txt K mg aO aG) (c_law_cell : Cal P w K mg base 1 "_law_cell" ["script", "k"] (sp_law_cell P w K) f1 d1) (c_law_names : Cal P w K mg base 1 "_law_names" ["cell"] (sp_law_names P w K) f2 d2) (c_law_chain : Cal P w K mg base 2 "_law_chain" ["script", "start", "boxes", "words"] (sp_law_chain P w K) f3 d3) (c_law_body : Cal P w K mg base 2 "_law_body" ["script", "start", "many", "boxes", "words"] (sp_law_body P w K) f4 d4)
    (F : FnP K "_law_program" "_law_program" s_law_program f fd) : FnOk P w K mg base CX0 3 f fd ["script", "top"] (sp_law_program P w K) := by
  have nd := sc_law_program.nd
  have tx := T
  refine F.ok sc_law_program (fun vs H Q E h => SpR.len (n := 2) (fun _ => rfl) h) (fun cdv A outer s H vs Q E hr h => ⟨_, PSs.nox
    (pss_cons (ps_set (i := 2) nd rfl (Or.inl rfl) (pe_call c_law_cell.F (hr.mono (by decide)) (by rfl) c_law_cell.m c_law_cell.k c_law_cell.b .nil pass0 (pa_cons (pv 0) (pa_cons pe_int pa_nil))))
    (pss_cons (ps_set (i := 3) nd rfl (Or.inl rfl) (pe_slice sl_list (pe_call c_law_names.F (hr.mono (by decide)) (by rfl) c_law_names.m c_law_names.k c_law_names.b .nil pass0 (pa_cons (pv 2) pa_nil)) po_none (po_some (pe_op op_add pe_int (pe_callTy cr_int (by rfl) tx.int (by decide +kernel) (pa_cons (pe_cmpR (op_eqD hr.units) (pe_op op_mod (pe_op op_fdiv (pv 2) pe_int) pe_int) pe_int (nomark _)) pa_nil))))))
    (pss_cons (ps_set (i := 4) nd rfl (Or.inl rfl) (pe_slice sl_list (pe_call c_law_names.F (hr.mono (by decide)) (by rfl) c_law_names.m c_law_names.k c_law_names.b .nil pass0 (pa_cons (pe_op op_fdiv (pv 2) pe_int) pa_nil)) po_none (po_some (pe_op op_add pe_int (pe_op op_mod (pe_op op_fdiv (pv 2) pe_int) pe_int)))))
    (pss_cons (ps_if (pt_cmpR (op_eqD hr.units) (pe_op op_mod (pe_op op_fdiv (pv 2) pe_int) pe_int) pe_int (nomark _)) (pss_one (ps_set (i := 5) nd rfl (Or.inl rfl) (pe_call c_law_chain.F (hr.mono (by decide)) (by rfl) c_law_chain.m c_law_chain.k c_law_chain.b .nil pass0 (pa_cons (pv 0) (pa_cons pe_int (pa_cons (pv 3) (pa_cons (pv 4) pa_nil))))))) (pss_one (ps_set (i := 5) nd rfl (Or.inl rfl) (pe_call c_law_body.F (hr.mono (by decide)) (by rfl) c_law_body.m c_law_body.k c_law_body.b .nil pass0 (pa_cons (pv 0) (pa_cons pe_int (pa_cons (pe_op op_add pe_int (pe_op op_mod (pe_op op_fdiv (pv 2) pe_int) (pe_op op_sub (pv 1) pe_int))) (pa_cons (pv 3) (pa_cons (pv 4) pa_nil)))))))))
    (pss_cons (ps_if (PW.pt (pw_and (pt_cmpR (op_eqD hr.units) (pe_lc (own := [("line", 9)]) rfl nd (pi_list (pv 5)) (blkOk_by (own := [("line", 9)]) (N := ["script", "top", "cell", "boxes", "words", "lines", "at", "inner", "last", "line"]) (sc := defScope s_law_program) (by decide +kernel)) (fun _ _ _ _ _ => (pg_name (i := 9) nd rfl (Or.inl rfl))) (fun _ _ _ _ _ => (pts_one (pt_cmpR (r := rEqD K) (op_eqD hr.units) (pe_ix (show IxR _ (rIx K) from ix_seq) (pv 9) pe_int (fun _ _ => rfl)) pe_str (nomark _)))) (fun _ _ _ _ _ => (pv 9))) (pe_lst pa_nil) (nomark _)) (pw_and1 (pt_cmpR op_gt (pe_op op_mod (pe_op op_fdiv (pv 2) pe_int) pe_int) pe_int (nomark _))))) (pss_one (ps_set (i := 5) nd rfl (Or.inl rfl) (pe_op op_cat (pe_lst (pa_cons (pe_tup (pa_cons pe_str (pa_cons (pe_ix ix_seq (pv 3) pe_int (fun _ _ => rfl)) (pa_cons (pe_ix ix_seq (pv 4) pe_int (fun _ _ => rfl)) (pa_cons (pe_ix ix_seq (pv 3) pe_int (fun _ _ => rfl)) (pa_cons (pe_ix ix_seq (pv 3) pe_int (fun _ _ => rfl)) pa_nil)))))) pa_nil)) (pv 5)))) pss_nil)
    (pss_cons (ps_set (i := 6) nd rfl (Or.inl rfl) (pe_op op_mod (pe_op op_fdiv (pv 2) pe_int) (pe_op op_add (pe_callB cr_len (by rfl) tx.len PySem.boot_len (pa_cons (pv 5) pa_nil)) pe_int)))
    (pss_cons (ps_if (pt_cmpR (op_neD hr.units) (pe_op op_mod (pe_op op_fdiv (pv 2) pe_int) pe_int) pe_int (nomark _)) (pss_one (ps_ret (pe_tup (pa_cons (pe_tup (pa_cons pe_str (pa_cons (pe_callTy cr_tup (by rfl) tx.tuple (by decide +kernel) (pa_cons (pv 5) pa_nil)) pa_nil))) pa_nil)))) pss_nil)
    (pss_cons (ps_set (i := 7) nd rfl (Or.inl rfl) (pe_call c_law_body.F (hr.mono (by decide)) (by rfl) c_law_body.m c_law_body.k c_law_body.b .nil pass0 (pa_cons (pv 0) (pa_cons (pe_op op_add pe_int (pv 1)) (pa_cons (pe_op op_mod (pe_op op_fdiv (pv 2) pe_int) pe_int) (pa_cons (pv 3) (pa_cons (pv 4) pa_nil)))))))
    (pss_cons (ps_set (i := 8) nd rfl (Or.inl rfl) (pe_lst (pa_cons (pe_tup (pa_cons pe_str (pa_cons (pe_ix ix_seq (pv 3) pe_int (fun _ _ => rfl)) (pa_cons pe_str (pa_cons (pe_ix ix_seq (pv 3) pe_int (fun _ _ => rfl)) (pa_cons (pe_ix ix_seq (pv 3) pe_int (fun _ _ => rfl)) pa_nil)))))) (pa_cons (pe_tup (pa_cons pe_str (pa_cons (pe_ix ix_seq (pv 3) (pe_op op_mod (pe_op op_fdiv (pv 2) pe_int) (pe_callB cr_len (by rfl) tx.len PySem.boot_len (pa_cons (pv 3) pa_nil))) (fun _ _ => rfl)) pa_nil))) pa_nil))))
    (pss_cons (ps_set (i := 8) nd rfl (Or.inl rfl) (pe_slice sl_list (pv 8) po_none (po_some (pe_op op_mod (pe_op op_fdiv (pv 2) pe_int) pe_int))))
    (pss_cons (ps_if (pt_cmpR (op_eqD hr.units) (pe_op op_mod (pe_op op_fdiv (pv 2) pe_int) pe_int) pe_int (nomark _)) (pss_one (ps_set (i := 7) nd rfl (Or.inl rfl) (pe_op op_cat (pv 7) (pe_lst (pa_cons (pe_tup (pa_cons pe_str (pa_cons pe_str pa_nil))) pa_nil))))) pss_nil)
    (pss_cons (ps_set (i := 5) nd rfl (Or.inl rfl) (pe_op op_cat (pe_op op_cat (pe_op op_cat (pe_slice sl_list (pv 5) po_none (po_some (pv 6))) (pe_lst (pa_cons (pe_tup (pa_cons pe_str (pa_cons pe_str pa_nil))) pa_nil))) (pe_slice sl_list (pv 5) (po_some (pv 6)) po_none)) (pe_op op_rep (pe_lst (pa_cons (pe_tup (pa_cons pe_str (pa_cons pe_str pa_nil))) pa_nil)) (pe_ix ix_seq (pe_lst (pa_cons pe_int (pa_cons pe_int (pa_cons pe_int (pa_cons pe_int pa_nil))))) (pe_op op_mod (pe_op op_fdiv (pv 2) pe_int) pe_int) (fun _ _ => rfl)))))
    (pss_one (ps_ret (pe_tup (pa_cons (pe_tup (pa_cons pe_str (pa_cons (pe_callTy cr_tup (by rfl) tx.tuple (by decide +kernel) (pa_cons (pv 5) pa_nil)) pa_nil))) (pa_cons (pe_tup (pa_cons pe_str (pa_cons (pe_callTy cr_tup (by rfl) tx.tuple (by decide +kernel) (pa_cons (pv 7) pa_nil)) pa_nil))) (pa_cons (pe_tup (pa_cons pe_str (pa_cons (pe_callTy cr_tup (by rfl) tx.tuple (by decide +kernel) (pa_cons (pv 8) pa_nil)) pa_nil))) pa_nil)))))))))))))))))), ?_⟩)
  obtain ⟨Wz, ns, rfl, ok, _, hq⟩ := h
  have S := sta_start ["script", "top", "cell", "boxes", "words", "lines", "at", "inner", "last", "line"] ok
  refine q_setP S (p_call (ns, 0) (a_cons (e_var rfl) (a_cons e_int a_nil)) (by show 0 ≤ 1000; decide)) fun _ ⟨c, e⟩ σ W S => ?_
  subst e
  have hc2 : ∀ {Γ : Ga} {M : Ms}, Γ[2]? = some (some (.dat (.int (c : Int)))) → EvS (C0 P w K) Γ M (tVar 2) (.dat (.int (c : Int))) := fun h => e_var h
  obtain ⟨nb, hnb, hnb2⟩ : ∃ nb : Nat, (nb = 2 ∨ nb = 3) ∧ (2 : Int) + (if decide ((c : Int) / 3 % 4 = 1) = true then 1 else 0) = (nb : Int) := by
    by_cases e : (c : Int) / 3 % 4 = 1
    · exact ⟨3, .inr rfl, by simp [e]⟩
    · exact ⟨2, .inl rfl, by simp [e]⟩
  refine q_setP S (p_slN (j := nb) (n := 5) (p_call c (a_cons (hc2 rfl) a_nil) trivial) ((e_add e_int (e_intB (e_eqZ (e_mod (e_fdiv (hc2 rfl) e_int ⟨by decide, by decide⟩) e_int (by decide)) e_int))).to (by rw [hnb2])) (by omega)) fun _ ⟨B, hB, e⟩ σ W S => ?_
  subst e
  obtain ⟨c6, hc6⟩ : ∃ c6 : Nat, (c : Int) / 6 = (c6 : Int) := ⟨c / 6, by omega⟩
  obtain ⟨nw, hnw, hnw2⟩ := natmod (i := (c : Int) / 18) (n := 3) (by decide)
  refine q_setP S (p_slN (j := 1 + nw) (n := 5) (p_call c6 (a_cons ((e_fdiv (hc2 rfl) e_int ⟨by decide, by decide⟩).to (by rw [hc6])) a_nil) trivial) ((e_add e_int (e_mod (e_fdiv (hc2 rfl) e_int ⟨by decide, by decide⟩) e_int (by decide))).to (by rw [hnw]; congr 2)) (by omega)) fun _ ⟨N, hN, e⟩ σ W S => ?_
  subst e
  have hB0 : 0 < B.length := by omega
  have hN0 : 0 < N.length := by omega
  have hB3 : B.length ≤ 3 := by omega
  have hN3 : N.length ≤ 3 := by omega
  obtain ⟨b0, b1, Br, eB⟩ : ∃ b0 b1 Br, B = b0 :: b1 :: Br := by
    match B, hB with
    | [], h => simp at h; omega
    | [_], h => simp at h; omega
    | b0 :: b1 :: Br, _ => exact ⟨b0, b1, Br, rfl⟩
  obtain ⟨w0, Nr, eN⟩ : ∃ w0 Nr, N = w0 :: Nr := by
    match N, hN0 with
    | w0 :: Nr, _ => exact ⟨w0, Nr, rfl⟩
  have hb0 : b0 ∈ B := by rw [eB]; exact List.mem_cons_self
  have hb1 : b1 ∈ B := by rw [eB]; exact List.mem_cons_of_mem _ List.mem_cons_self
  have hw0 : w0 ∈ N := by rw [eN]; exact List.mem_cons_self
  obtain ⟨m5, hm5, hm5'⟩ := natmod (i := (c : Int) / 162) (n := 6 - 1) (by decide)
  -- the lines
  refine q_ifK (fun σ W => ∃ ls, okRow B N 10 ls ∧ Sta (C0 P w K) Wz [] σ W [some (.scr ns), some (.dat (.int 6)), some (.dat (.int (c : Int))), some (.dat (.list (B.map encN))), some (.dat (.list (N.map encN))), some (.dat (.list (ls.map encL))), none, none, none, none] []) S
    (t_B (e_eqZ (e_mod (e_fdiv (hc2 rfl) e_int ⟨by decide, by decide⟩) e_int (by decide)) e_int)) (fun σ W hj => ?_) (fun hb W S kk => ?_) (fun hb W S kk => ?_)
  rotate_left
  · refine s_setP S (p_call ⟨ns, 4, B, N⟩ (a_cons (e_var rfl) (a_cons e_int (a_cons (e_var rfl) (a_cons (e_var rfl) a_nil)))) ⟨by show 4 ≤ 100; decide, hB0, hN0⟩) fun _ ⟨ls, hl, e⟩ σ W S => ?_
    subst e
    exact kk _ _ ⟨ls, hl, S⟩
  · refine s_setP S (p_call ⟨ns, 4, 2 + m5, B, N⟩ (a_cons (e_var rfl) (a_cons e_int (a_cons ((e_add e_int (e_mod (e_fdiv (hc2 rfl) e_int ⟨by decide, by decide⟩) (e_sub (e_var (s := .dat (.int 6)) rfl) e_int) (by decide))).to (by rw [hm5]; congr 2)) (a_cons (e_var rfl) (a_cons (e_var rfl) a_nil))))) ⟨by show 4 ≤ 100; decide, by show 2 + m5 ≤ 100; omega, hB0, hN0⟩) fun _ ⟨ls, hl, e⟩ σ W S => ?_
    subst e
    exact kk _ _ ⟨ls, ⟨hl.1, by have : ls.length ≤ 2 + m5 + 4 := hl.2.1; omega, hl.2.2⟩, S⟩
  obtain ⟨ls0, hl0, S⟩ := hj
  have hpair : OkLn B N (.pair b0 w0 b1 b0) := ⟨fun y hy => by simp [Line.boxes] at hy; rcases hy with h | h | h <;> rw [h] <;> assumption, fun y hy => by simp [Line.word] at hy; rw [← hy]; exact hw0, fun _ z => nomatch z⟩
  have e_b0 : ∀ {Γ : Ga} {M : Ms}, Γ[3]? = some (some (.dat (.list (B.map encN)))) → EvS (C0 P w K) Γ M (tOp (rIx K) (tVar 3) (tC (.int 0))) (.dat (encN b0)) := fun h => e_ixL0 (C := C0 P w K) (ds := encN b1 :: Br.map encN) ((e_var h).to (by rw [eB]; rfl))
  have e_b1 : ∀ {Γ : Ga} {M : Ms}, Γ[3]? = some (some (.dat (.list (B.map encN)))) → EvS (C0 P w K) Γ M (tOp (rIx K) (tVar 3) (tC (.int 1))) (.dat (encN b1)) := fun h => e_ixL1 (C := C0 P w K) (a := encN b0) (ds := Br.map encN) ((e_var h).to (by rw [eB]; rfl))
  have e_w0 : ∀ {Γ : Ga} {M : Ms}, Γ[4]? = some (some (.dat (.list (N.map encN)))) → EvS (C0 P w K) Γ M (tOp (rIx K) (tVar 4) (tC (.int 0))) (.dat (encN w0)) := fun h => e_ixL0 (C := C0 P w K) (ds := Nr.map encN) ((e_var h).to (by rw [eN]; rfl))
  refine q_whenK (fun σ W => ∃ ls, okRow B N 11 ls ∧ Sta (C0 P w K) Wz [] σ W [some (.scr ns), some (.dat (.int 6)), some (.dat (.int (c : Int))), some (.dat (.list (B.map encN))), some (.dat (.list (N.map encN))), some (.dat (.list (ls.map encL))), none, none, none, none] []) S
    (t_and (t_B (e_eq (e := .list []) (e_lc1 (C := C0 P w K) (i := 9) (enc := encL) (xs := ls0) (keep := fun l => decide (l.kw = .pair)) (out := encL) (fun a h => h) (e_var rfl) (fun x M hx => t_B (e_word .pair (e_var rfl) rfl)) (fun x M hx _ => e_var rfl) (by have := hl0.2.1; show _ ≤ 16777216; omega)) e_lst0 (fl_list (fl_map fl_line _)).flat (fl_list (n := 1) (ds := []) (fun d h => nomatch h)).flat)) fun _ => t_B (e_gt (e_mod (e_fdiv (hc2 rfl) e_int ⟨by decide, by decide⟩) e_int (by decide)) e_int)) (fun σ W hj => ?_) (fun hb W S kk => ?_) (fun hb W S => ⟨ls0, ⟨hl0.1, by have := hl0.2.1; omega, hl0.2.2⟩, S⟩)
  rotate_left
  · refine s_set S (e_catL (e_ls1 (l := .pair b0 w0 b1 b0) (e_l (ns := [b0, w0, b1, b0]) (a_cons (e_b0 rfl) (a_cons (e_w0 rfl) (a_cons (e_b1 rfl) (a_cons (e_b0 rfl) a_nil)))) rfl (by show 4 ≤ 10; decide))) (e_var rfl) (by have := hl0.2.1; simp only [List.length_cons, List.length_nil]; omega)) fun σ W S => ?_
    refine kk _ _ ⟨_, ⟨?_, ?_, fun l hl => ?_⟩, S⟩
    · show (stp _ []).bind (run ls0) = _
      rw [stp_plain rfl]
      exact hl0.1
    · have := hl0.2.1; show ls0.length + 1 ≤ 11; omega
    · rcases List.mem_cons.mp hl with e | hl
      · rw [e]; exact hpair
      · exact hl0.2.2 l hl
  obtain ⟨ls, ⟨hr1, hr2, hr3⟩, S⟩ := hj
  obtain ⟨at_, hat, hat2⟩ := natmod (i := (c : Int) / 5000) (n := (ls.length : Int) + 1) (by omega)
  refine q_set S ((e_mod (e_fdiv (hc2 rfl) e_int ⟨by decide, by decide⟩) (e_add (e_lenLl (e_var rfl)) e_int) (by omega)).to (by rw [hat])) fun σ W S => ?_
  refine q_when S (t_B (e_neZ (e_mod (e_fdiv (hc2 rfl) e_int ⟨by decide, by decide⟩) e_int (by decide)) e_int)) (fun hb W S => ?_) (fun hb W S => ?_)
  · refine s_ret S (e_tup (ds := [encPart (nmM, ls)]) (a_cons (e_partM (k := nmM) (e_var rfl)) a_nil) (by show 1 ≤ 1000; decide)) fun v W' si ok => ?_
    exact hq _ v W' (si.lep fun _ h => h) ⟨[(nmM, ls)], good1 hB3 (Nat.le_trans hN3 (by decide)) ⟨hr1, Nat.le_trans hr2 (by decide), hr3⟩, rfl⟩ ok
  obtain ⟨m3, hm3, hm3'⟩ := natmod (i := (c : Int) / 50000) (n := 3) (by decide)
  refine q_setP S (p_call ⟨ns, 10, m3, B, N⟩ (a_cons (e_var rfl) (a_cons (e_add e_int (e_var (s := .dat (.int 6)) rfl)) (a_cons ((e_mod (e_fdiv (hc2 rfl) e_int ⟨by decide, by decide⟩) e_int (by decide)).to (by rw [hm3])) (a_cons (e_var rfl) (a_cons (e_var rfl) a_nil))))) ⟨by show 10 ≤ 100; decide, by show m3 ≤ 100; omega, hB0, hN0⟩) fun _ ⟨li, hli, e⟩ σ W S => ?_
  subst e
  have hli2 : li.length ≤ m3 + 4 := hli.2.1
  obtain ⟨jt, hjt, hjt2⟩ := natmod (i := (c : Int) / 11) (n := (B.length : Int)) (by omega)
  have hjl : jt < B.length := by omega
  obtain ⟨bt, hbt⟩ : ∃ b, B[jt]? = some b := ⟨B[jt], List.getElem?_eq_getElem hjl⟩
  have hbtm : bt ∈ B := List.mem_of_getElem? hbt
  refine q_set S (e_ls2 (l := .pair b0 nmOwn b1 b0) (m := .tell bt) (e_l (ns := [b0, nmOwn, b1, b0]) (a_cons (e_b0 rfl) (a_cons e_str (a_cons (e_b1 rfl) (a_cons (e_b0 rfl) a_nil)))) rfl (by show 4 ≤ 10; decide))
    (e_l (ns := [bt]) (a_cons (e_ixL (e_var rfl) ((e_mod (e_fdiv (hc2 rfl) e_int ⟨by decide, by decide⟩) (e_lenN (e_var rfl)) (by omega)).to (by rw [hjt])) (atI_nat (by rw [List.getElem?_map, hbt]; rfl))) a_nil) rfl (by show 1 ≤ 10; decide))) fun σ W S => ?_
  obtain ⟨jl, hjl, hjl2⟩ := natmod (i := (c : Int) / 2800) (n := 3) (by decide)
  refine q_set S (e_takeL (j := jl) (e_var rfl) ((e_mod (e_fdiv (hc2 rfl) e_int ⟨by decide, by decide⟩) e_int (by decide)).to (by rw [hjl]))) fun σ W S => ?_
  have row2 : Row3 B (nmOwn :: N) 2 none (([.pair b0 nmOwn b1 b0, .tell bt] : List Line).take jl) := by
    have mem : ∀ l ∈ ([.pair b0 nmOwn b1 b0, .tell bt] : List Line).take jl, l = .pair b0 nmOwn b1 b0 ∨ l = .tell bt := fun l hl => by
      have := List.mem_of_mem_take hl
      simpa using this
    refine ⟨run_plains _ _ fun l hl => ?_, by rw [List.length_take]; exact Nat.min_le_right .., fun l hl => ?_, fun m hm => ?_⟩
    · rcases mem l hl with e | e <;> rw [e] <;> rfl
    · rcases mem l hl with e | e <;> rw [e]
      · exact ⟨fun y hy => by simp [Line.boxes] at hy; rcases hy with h | h | h <;> rw [h] <;> assumption, fun y hy => by simp [Line.word] at hy; rw [← hy]; exact List.mem_cons_self⟩
      · exact ⟨fun y hy => by simp [Line.boxes] at hy; rw [hy]; exact hbtm, fun y hy => by simp [Line.word] at hy⟩
    · rcases mem _ hm with e | e <;> cases e
  -- the part n
  refine q_whenK (fun σ W => ∃ l1, Row3 B (nmOwn :: N) 7 (some nmO) l1 ∧ (l1.filter isDo).length ≤ 1 ∧ Sta (C0 P w K) Wz [] σ W [some (.scr ns), some (.dat (.int 6)), some (.dat (.int (c : Int))), some (.dat (.list (B.map encN))), some (.dat (.list (N.map encN))), some (.dat (.list (ls.map encL))), some (.dat (.int (at_ : Int))), some (.dat (.list (l1.map encL))), some (.dat (.list ((([.pair b0 nmOwn b1 b0, .tell bt] : List Line).take jl).map encL))), none] []) S
    (t_B (e_eqZ (e_mod (e_fdiv (hc2 rfl) e_int ⟨by decide, by decide⟩) e_int (by decide)) e_int)) (fun σ W hj => ?_) (fun hb W S kk => ?_) (fun hb W S => ⟨li, ⟨hli.1, by omega, fun l hl => okl2 (hli.2.2 l hl), fun m hm => absurd rfl ((hli.2.2 _ hm).nodo m)⟩, by rw [nodo_filter hli.2.2]; exact Nat.zero_le _, S⟩)
  rotate_left
  · refine s_set S (e_catL (b := [.do_ nmO]) (e_var rfl) (e_ls1 (e_l (ns := [nmO]) (a_cons e_str a_nil) rfl (by show 1 ≤ 10; decide))) (by simp only [List.length_cons, List.length_nil]; omega)) fun σ W S => ?_
    refine kk _ _ ⟨li ++ [Line.do_ nmO], ⟨run_one hli.1 rfl, by rw [List.length_append, List.length_singleton]; omega, fun l hl => ?_, fun m hm => ?_⟩, ?_, S⟩
    · rcases List.mem_append.mp hl with hl | hl
      · exact okl2 (hli.2.2 l hl)
      · rw [List.mem_singleton.mp hl]; exact ⟨fun y hy => by simp [Line.boxes] at hy, fun y hy => by simp [Line.word] at hy⟩
    · rcases List.mem_append.mp hm with hm | hm
      · exact absurd rfl ((hli.2.2 _ hm).nodo m)
      · have := List.mem_singleton.mp hm; cases this; rfl
    · rw [List.filter_append, nodo_filter hli.2.2]; exact Nat.le_refl 1
  obtain ⟨l1, row1, hd1, S⟩ := hj
  obtain ⟨j4, hj4, hj42⟩ := natmod (i := (c : Int) / 700) (n := 4) (by decide)
  obtain ⟨q, hq4, hq3⟩ : ∃ q : Nat, ([.int 1, .int 1, .int 1, .int 3] : List PyData)[j4]? = some (.int (q : Int)) ∧ q ≤ 3 := by
    have : j4 < 4 := by omega
    match j4, this with
    | 0, _ => exact ⟨1, rfl, by decide⟩
    | 1, _ => exact ⟨1, rfl, by decide⟩
    | 2, _ => exact ⟨1, rfl, by decide⟩
    | 3, _ => exact ⟨3, rfl, by decide⟩
  have hdo : ∀ {Γ : Ga} {M : Ms}, EvS (C0 P w K) Γ M (tLst (tCons (tTup (tCons (tC (.str "do")) (tCons (tC (.str "n")) tNil))) tNil)) (.dat (.list ([Line.do_ nmN].map encL))) := fun {Γ M} => e_ls1 (e_l (ns := [nmN]) (a_cons e_str a_nil) rfl (by show 1 ≤ 10; decide))
  have hta : (ls.take at_).length ≤ 11 := by rw [List.length_take]; omega
  have htd : (ls.drop at_).length ≤ 11 := by rw [List.length_drop]; omega
  refine q_set S (e_catL (e_catL (e_catL (e_takeL (j := at_) (e_var rfl) (e_var rfl)) hdo (by simp only [List.length_cons, List.length_nil]; omega)) (e_dropL (j := at_) (e_var rfl) (e_var rfl)) (by simp only [List.length_append, List.length_cons, List.length_nil]; omega))
    (e_repL (q := q) hdo (e_ixL (ds := [.int 1, .int 1, .int 1, .int 3]) (e_lst (a_cons e_int (a_cons e_int (a_cons e_int (a_cons e_int a_nil)))) (by show 4 ≤ 1000; decide)) ((e_mod (e_fdiv (hc2 rfl) e_int ⟨by decide, by decide⟩) e_int (by decide)).to (by rw [hj4])) (atI_nat hq4)) (by omega)) (by simp only [List.length_append, List.length_cons, List.length_nil, List.length_replicate]; omega)) fun σ W S => ?_
  have row0 : Row3 B (nmOwn :: N) 15 (some nmN) (ls.take at_ ++ [Line.do_ nmN] ++ ls.drop at_ ++ List.replicate q (Line.do_ nmN)) := by
    have mem : ∀ l ∈ ls.take at_ ++ [Line.do_ nmN] ++ ls.drop at_ ++ List.replicate q (Line.do_ nmN), l ∈ ls ∨ l = .do_ nmN := fun l hl => by
      rcases List.mem_append.mp hl with hl | hl
      · rcases List.mem_append.mp hl with hl | hl
        · rcases List.mem_append.mp hl with hl | hl
          · exact .inl (List.mem_of_mem_take hl)
          · exact .inr (List.mem_singleton.mp hl)
        · exact .inl (List.mem_of_mem_drop hl)
      · exact .inr (List.eq_of_mem_replicate hl)
    refine ⟨?_, ?_, fun l hl => ?_, fun m hm => ?_⟩
    · rw [run_app, List.append_assoc]
      have := run_skip (l := .do_ nmN) (fun _ => rfl) (ls.take at_) (ls.drop at_) []
      show (run (ls.take at_ ++ (Line.do_ nmN :: ls.drop at_)) []).bind _ = _
      rw [this, List.take_append_drop, hr1]
      exact run_plains _ _ fun l hl => by rw [List.eq_of_mem_replicate hl]; rfl
    · have h1 : (ls.take at_).length + (ls.drop at_).length = ls.length := by rw [← List.length_append, List.take_append_drop]
      simp only [List.length_append, List.length_cons, List.length_nil, List.length_replicate]
      omega
    · rcases mem l hl with hl | hl
      · exact okl2 (hr3 l hl)
      · rw [hl]; exact ⟨fun y hy => by simp [Line.boxes] at hy, fun y hy => by simp [Line.word] at hy⟩
    · rcases mem _ hm with hl | hl
      · exact absurd rfl ((hr3 _ hl).nodo m)
      · cases hl; rfl
  have hd0 : ((ls.take at_ ++ [Line.do_ nmN] ++ ls.drop at_ ++ List.replicate q (Line.do_ nmN)).filter isDo).length ≤ 4 := by
    rw [List.filter_append, List.filter_append, List.filter_append, nodo_filter (fun l hl => hr3 l (List.mem_of_mem_take hl)), nodo_filter (fun l hl => hr3 l (List.mem_of_mem_drop hl))]
    have := List.length_filter_le isDo (List.replicate q (Line.do_ nmN))
    rw [List.length_replicate] at this
    simp only [List.length_append, List.length_nil]
    have h1 : ([Line.do_ nmN].filter isDo).length = 1 := rfl
    omega
  refine s_ret S (e_tup (ds := [encPart (nmM, _), encPart (nmN, l1), encPart (nmO, _)]) (a_cons (e_partM (k := nmM) (e_var rfl)) (a_cons (e_partM (k := nmN) (e_var rfl)) (a_cons (e_partM (k := nmO) (e_var rfl)) a_nil))) (by show 3 ≤ 1000; decide)) fun v W' si ok => ?_
  exact hq _ v W' (si.lep fun _ h => h) ⟨_, good3 hB3 (by rw [List.length_cons]; omega) row0 row1 row2 hd0 hd1, rfl⟩ ok
end
end Dr
namespace Dr
open PySem PySem.Spec PyProof.Rows L2

section
variable {P : Program} {w : World} {K : PySem.W.Frag} {mg : Str → Option Value} {base : Heap} {f f1 f2 f3 f4 f5 f6 f7 f8 : Addr} {fd d1 d2 d3 d4 d5 d6 d7 d8 : FuncData} {aO aG cg : Addr} {C : Cn} {Γ : Ga} {M M' : Ms} {ta tb tc td te tk tv ty tl : TE} {W0 W : Wo} {T : Kn} {σ : L2.St} {s : Sv} {D : Ends} {tz tbd t1 t2 : TS} {d : PyData} {tt : TT} {R R1 R2 R3 : Sv → Prop} {ds : List PyData}
theorem p_modP {n : Int} (ha : EvP C Γ M ta (fun s => ∃ c : Nat, s = .dat (.int (c : Int)))) (hb : EvS C Γ M tb (.dat (.int n))) (hn : 0 < n) : EvP C Γ M (tOp (rI (fun _ j => 0 < j) fun i j => .int (i % j)) ta tb) (fun s => ∃ i, s = .dat (.int i) ∧ 0 ≤ i ∧ i < n) := fun W0 T σ W S Q k =>
  ha W0 T σ W S _ fun s x W1 l1 ⟨c, e⟩ ok1 => hb W0 T σ W1 (S.le l1) _ fun y W2 l2 ok2 => by
    subst e
    cases ok1
    cases ok2
    exact ⟨_, n, rfl, rfl, hn, k _ _ W2 (l1.trans l2) ⟨_, rfl, (mod_in hn).1, (mod_in hn).2⟩ (.int _)⟩
theorem p_pickP (ha : EvS C Γ M ta (.dat (.list ds))) (hb : EvP C Γ M tb (fun s => ∃ i, s = .dat (.int i) ∧ 0 ≤ i ∧ i < ds.length)) : EvP C Γ M (tOp (rIx C.K) ta tb) (fun s => ∃ d ∈ ds, s = .dat d) := fun W0 T σ W S Q k =>
  ha W0 T σ W S _ fun x W1 l1 ok1 => hb W0 T σ W1 (S.le l1) _ fun s y W2 l2 ⟨i, e, h0, h1⟩ ok2 => by
    subst e
    cases ok2
    obtain ⟨j, rfl⟩ : ∃ j : Nat, i = (j : Int) := ⟨i.toNat, by omega⟩
    have hj : j < ds.length := by omega
    have ok1 : Da C.K W2.G x (.list ds) := Da.mono l2.gg _ _ ok1
    cases ok1 with
    | lst hx hall =>
      obtain ⟨v, e1, e2⟩ := hall.atI (i := (j : Int)) (d := ds[j]) (atI_nat (List.getElem?_eq_getElem hj))
      exact .inl ⟨_, _, (j : Int), v, rfl, rfl, SqL.of (W2.fz _ _ hx), e1, k _ v W2 (l1.trans l2) ⟨_, List.getElem_mem hj, rfl⟩ e2⟩
theorem e_isi {b : Bool} (h : EvS C Γ M te (.dat (.bool b))) : EvS C Γ M (tCB (rIsi C.K) (tCons te (tCons (tC (.ty "bool")) tNil))) (.dat (.bool true)) := fun W0 T σ W S Q k =>
  h W0 T σ W S _ fun x W1 l1 ok => by
    cases ok
    exact ⟨.bl b, .ty "bool", _, _, true, rfl, .ty "bool", .base (.bl b), kit_ty (by decide +kernel), k _ W1 l1 (.bl _)⟩
theorem e_eqB {a b : Bool} (ha : EvS C Γ M ta (.dat (.bool a))) (hb : EvS C Γ M tb (.dat (.bool b))) : EvS C Γ M (tOp (rEqD C.K) ta tb) (.dat (.bool (a == b))) :=
  (e_eq ha hb (fl_bool _ : Fl 1 _).flat (fl_bool _ : Fl 1 _).flat).to (by cases a <;> cases b <;> rfl)
theorem p_slW {a : Int} {bs : List Nm} (ha : EvS C Γ M ta (.dat (.list (bs.map encN)))) {to1 to2 : TO} {lo hi : Option Int} (h1 : EvO C Γ M to1 lo) (h2 : EvO C Γ M to2 hi) : ∃ sub : List Nm, (∀ x ∈ sub, x ∈ bs) ∧ EvS C Γ M (tSl (rSlL C.K) ta to1 to2) (.dat (.list (sub.map encN))) :=
  ⟨(bs.drop (HT.sIx (bs.map encN).length 0 lo)).take (HT.sIx (bs.map encN).length (bs.map encN).length hi - HT.sIx (bs.map encN).length 0 lo), fun x hx => List.mem_of_mem_drop (List.mem_of_mem_take hx), (e_slL ha h1 h2).to (by unfold cutP; rw [List.map_take, List.map_drop])⟩
def spLaw (K : PySem.W.Frag) : Sp := fun vs H Q _ => ∃ (a : Addr) (ns : List Int), vs = [.ref a] ∧ SqL K H a (ns.map V.int) ∧ ∀ H', Q (.bl true) H'
theorem sc_law : FnScope ["script", "program", "wish", "some", "words", "at", "word", "k", "place", "done"] ["script"] (defScope s_law) := ⟨rfl, rfl, rfl, by decide +kernel, rfl, by decide +kernel, by decide +kernel⟩
theorem ok_law (T : Txt K mg aO aG) (c_law_program : Cal P w K mg base 3 "_law_program" ["script", "top"] (sp_law_program P w K) f1 d1) (c_wants : Cal P w K mg base 7 "wants" ["program"] (sp_wants P w K) f2 d2) (c_places_of : Cal P w K mg base 1 "places_of" ["program"] (sp_places_of P w K) f3 d3) (c_words_of : Cal P w K mg base 2 "words_of" ["program"] (sp_words_of P w K) f4 d4)
    (c_law_cell : Cal P w K mg base 1 "_law_cell" ["script", "k"] (sp_law_cell P w K) f5 d5) (c_is_done : Cal P w K mg base 8 "is_done" ["program", "word", "place"] (sp_is_done P w K) f6 d6) (c_law_meet : Cal P w K mg base 8 "_law_meet" ["program", "word", "place", "wish"] (sp_law_meet P w K) f7 d7) (c_law_late : Cal P w K mg base 8 "_law_late" ["program", "word", "place"] (sp_law_late P w K) f8 d8)
    (F : FnP K "law" "law" s_law f fd) : FnOk P w K mg base CX0 9 f fd ["script"] (spLaw K) := by
  have nd := sc_law.nd
  have tx := T
  refine F.ok sc_law (fun vs H Q E h => by obtain ⟨a, ns, rfl, _⟩ := h; rfl) (fun cdv A outer s H vs Q E hr h => ⟨_, PSs.nox
    (pss_cons (ps_set (i := 1) nd rfl (Or.inl rfl) (pe_call c_law_program.F (hr.mono (by decide)) (by rfl) c_law_program.m c_law_program.k c_law_program.b .nil pass0 (pa_cons (pv 0) (pa_cons pe_int pa_nil))))
    (pss_cons (ps_set (i := 2) nd rfl (Or.inl rfl) (pe_call c_wants.F (hr.mono (by decide)) (by rfl) c_wants.m c_wants.k c_wants.b .nil pass0 (pa_cons (pv 1) pa_nil)))
    (pss_cons (ps_set (i := 3) nd rfl (Or.inl rfl) (pe_call c_places_of.F (hr.mono (by decide)) (by rfl) c_places_of.m c_places_of.k c_places_of.b .nil pass0 (pa_cons (pv 1) pa_nil)))
    (pss_cons (ps_set (i := 4) nd rfl (Or.inl rfl) (pe_call c_words_of.F (hr.mono (by decide)) (by rfl) c_words_of.m c_words_of.k c_words_of.b .nil pass0 (pa_cons (pv 1) pa_nil)))
    (pss_cons (ps_set (i := 5) nd rfl (Or.inl rfl) (pe_op op_mod (pe_call c_law_cell.F (hr.mono (by decide)) (by rfl) c_law_cell.m c_law_cell.k c_law_cell.b .nil pass0 (pa_cons (pv 0) (pa_cons pe_int pa_nil))) (pe_callB (cr_max rfl) (by rfl) tx.max (by decide +kernel) (pa_cons pe_int (pa_cons (pe_callB cr_len (by rfl) tx.len PySem.boot_len (pa_cons (pv 4) pa_nil)) pa_nil)))))
    (pss_cons (ps_for PassesOwn.never rfl (pi_list (pe_slice sl_list (pv 4) (po_some (pv 5)) (po_some (pe_op op_add (pv 5) pe_int)))) (pg_name (i := 6) nd rfl (Or.inl rfl)) (pss_one (ps_for PassesOwn.never rfl (pi_range1 (by rfl) tx.range (pa_cons pe_int pa_nil)) (pg_name (i := 7) nd rfl (Or.inl rfl)) (pss_cons (ps_set (i := 8) nd rfl (Or.inl rfl) (pe_ix ix_seq (pv 3) (pe_op op_mod (pe_call c_law_cell.F (hr.mono (by decide)) (by rfl) c_law_cell.m c_law_cell.k c_law_cell.b .nil pass0 (pa_cons (pv 0) (pa_cons (pe_op op_add pe_int (pv 7)) pa_nil))) (pe_callB cr_len (by rfl) tx.len PySem.boot_len (pa_cons (pv 3) pa_nil))) (fun _ _ => rfl)))
    (pss_cons (ps_set (i := 9) nd rfl (Or.inl rfl) (pe_call c_is_done.F (hr.mono (by decide)) (by rfl) c_is_done.m c_is_done.k c_is_done.b .nil pass0 (pa_cons (pv 1) (pa_cons (pv 6) (pa_cons (pv 8) pa_nil)))))
    (pss_cons (ps_if (PW.pt (pw_or (pt_not (pt_val (pe_callB call_isi (by rfl) tx.isinstance (by decide +kernel) (pa_cons (pv 9) (pa_cons (pe_bltn (v := .ty "bool") (by rfl) tx.bool (by decide +kernel) rfl) pa_nil))))) (pw_or1 (pt_cmpR (op_eqD hr.units) (pv 9) (pe_call c_law_meet.F (hr.mono (by decide)) (by rfl) c_law_meet.m c_law_meet.k c_law_meet.b .nil pass0 (pa_cons (pv 1) (pa_cons (pv 6) (pa_cons (pv 8) (pa_cons (pv 2) pa_nil))))) (nomark _))))) (pss_one (ps_ret pe_bl)) pss_nil)
    (pss_one (ps_if (pt_cmpR (op_eqD hr.units) (pv 9) (pe_call c_law_late.F (hr.mono (by decide)) (by rfl) c_law_late.m c_law_late.k c_law_late.b .nil pass0 (pa_cons (pv 1) (pa_cons (pv 6) (pa_cons (pv 8) pa_nil)))) (nomark _)) (pss_one (ps_ret pe_bl)) pss_nil))))))))
    (pss_one (ps_ret pe_bl)))))))), ?_⟩)
  obtain ⟨a, ns, rfl, hS, hq⟩ := h
  have S : Sta (C0 P w K) ⟨H, H, Same.refl H⟩ [] _ ⟨H, H, Same.refl H⟩ _ [] := sta_start (C := C0 P w K) (W := ⟨H, H, Same.refl H⟩) (vs := [.ref a]) (ss := [.scr ns]) ["script", "program", "wish", "some", "words", "at", "word", "k", "place", "done"] (.cons ⟨a, rfl, hS⟩ .nil)
  refine q_setP S (p_call ns (a_cons (e_var rfl) (a_cons e_int a_nil)) trivial) fun _ ⟨p, g, e⟩ σ W S => ?_
  subst e
  refine q_setP S ((p_call p (a_cons (e_var rfl) a_nil) g).imp fun s h => wants_is h) fun _ ⟨r, hr', e⟩ σ W S => ?_
  subst e
  refine q_setP S (p_call p (a_cons (e_var rfl) a_nil) g.pls) fun _ ⟨xs, hxs, hxl, e⟩ σ W S => ?_
  subst e
  refine q_setP S (p_call p (a_cons (e_var rfl) a_nil) g.few) fun _ ⟨bs, hbs, e⟩ σ W S => ?_
  subst e
  have hxpos : (0 : Int) < (xs.map encPl).length := by
    rw [List.length_map]
    have : (0, 0) ∈ xs := (hxs (0, 0)).mpr (by
      cases hp : p with
      | nil => exact absurd hp g.ok.ne
      | cons a b => exact ⟨a, rfl, Nat.zero_le _⟩)
    have := List.length_pos_of_mem this
    omega
  refine q_setP S (p_modP (p_call (ns, 1) (a_cons (e_var rfl) (a_cons e_int a_nil)) (by show 1 ≤ 1000; decide)) (e_max (i := 1) (j := (bs.length : Int)) e_int (e_lenN (e_var rfl))) (by split <;> omega)) fun _ ⟨at_, e, _, _⟩ σ W S => ?_
  subst e
  obtain ⟨sub, hsub, hslice⟩ := p_slW (C := C0 P w K) (a := at_) (bs := bs) (Γ := [some (.scr ns), some (.dat (encProg p)), some (.dat (encReader r)), some (.dat (.list (xs.map encPl))), some (.dat (.list (bs.map encN))), some (.dat (.int at_)), none, none, none, none]) (M := []) (ta := tVar 4) (e_var rfl) (o_some (te := tVar 5) (e_var (s := .dat (.int at_)) rfl)) (o_some (te := tOp (rI0 fun i j => .int (i + j)) (tVar 5) (tC (.int 1))) (e_add (e_var (s := .dat (.int at_)) rfl) e_int))
  refine q_forL (C := C0 P w K) (xs := sub) encN (fun _ : Unit => [some (.scr ns), some (.dat (encProg p)), some (.dat (encReader r)), some (.dat (.list (xs.map encPl))), some (.dat (.list (bs.map encN))), some (.dat (.int at_)), none, none, none, none]) (fun _ => []) (fun _ _ => True) () S hslice (fun σ W S => S) trivial (fun x => g_name) (fun i a' wd T' σ W hwd _ S => ?_) (fun _ σ W _ S => ?_)
  · have hword : isWord p wd := (hbs.2 wd).mp (hsub wd (List.mem_of_getElem? hwd))
    refine s_forN (C := C0 P w K) (n := 2) (fun _ : Unit => [some (.scr ns), some (.dat (encProg p)), some (.dat (encReader r)), some (.dat (.list (xs.map encPl))), some (.dat (.list (bs.map encN))), some (.dat (.int at_)), some (.dat (encN wd)), none, none, none]) (fun _ => []) (fun _ _ => True) () S (a_cons e_int a_nil) (by decide) (fun σ W S => S) trivial (fun k a'' σ W hk _ S => ?_) (fun _ σ W _ S => At.mk () trivial S.w)
    refine q_setP S (p_pickP (e_var rfl) (p_modP (p_call (ns, 20 + k) (a_cons (e_var rfl) (a_cons ((e_add e_int (e_var (s := .dat (.int (k : Int))) rfl)).to (by rw [Int.natCast_add]; rfl)) a_nil)) (by show 20 + k ≤ 1000; omega)) (e_lenL (e_var rfl)) hxpos)) fun _ ⟨dd, hdd, e⟩ σ W S => ?_
    subst e
    obtain ⟨pl, hplm, e⟩ := List.mem_map.mp hdd
    subst e
    have hpl : isPlace p pl := (hxs pl).mp hplm
    refine q_set S (e_call (p, wd, pl) (a_cons (e_var rfl) (a_cons (e_var rfl) (a_cons (e_var rfl) a_nil))) ⟨g, hword, hpl⟩) fun σ W S => ?_
    refine q_when S (t_or (t_not (t_B (e_isi (b := !decB (MeetSem p wd pl)) (e_var rfl)))) fun _ => t_B (e_eqB (a := !decB (MeetSem p wd pl)) (b := decB (MeetSem p wd pl)) (e_var rfl) (e_call ((p, wd, pl), r) (a_cons (e_var rfl) (a_cons (e_var rfl) (a_cons (e_var rfl) (a_cons (e_var rfl) a_nil)))) ⟨g, hr'⟩))) (fun hb W S => ?_) (fun _ W S => ?_)
    · exfalso
      revert hb
      cases decB (MeetSem p wd pl) <;> decide
    · refine s_when S (t_B (e_eqB (a := !decB (MeetSem p wd pl)) (b := decB (MeetSem p wd pl)) (e_var rfl) (e_call (p, wd, pl) (a_cons (e_var rfl) (a_cons (e_var rfl) (a_cons (e_var rfl) a_nil))) g))) (fun hb W S => ?_) (fun _ W S => At.mk () trivial S.w)
      exfalso
      revert hb
      cases decB (MeetSem p wd pl) <;> decide
  · refine s_ret S e_bl fun v W' si ok => ?_
    cases ok
    exact hq _
end
end Dr
set_option maxHeartbeats 0
namespace DrHead
open PySem PySem.Spec PyProof.Rows L2 Dr
def d_end_of : He.DefD := ⟨("end_of", none), "end_of", "end_of", defArgs s_end_of, defBody s_end_of, defScope s_end_of, [], []⟩
def d_or_of : He.DefD := ⟨("or_of", none), "or_of", "or_of", defArgs s_or_of, defBody s_or_of, defScope s_or_of, [], []⟩
def d_head_of : He.DefD := ⟨("head_of", none), "head_of", "head_of", defArgs s_head_of, defBody s_head_of, defScope s_head_of, [], []⟩
def d_gives : He.DefD := ⟨("gives", none), "gives", "gives", defArgs s_gives, defBody s_gives, defScope s_gives, [], []⟩
def d_reads : He.DefD := ⟨("reads", none), "reads", "reads", defArgs s_reads, defBody s_reads, defScope s_reads, [], []⟩
def d_boxes_in : He.DefD := ⟨("boxes_in", none), "boxes_in", "boxes_in", defArgs s_boxes_in, defBody s_boxes_in, defScope s_boxes_in, [], []⟩
def d_number_of : He.DefD := ⟨("number_of", none), "number_of", "number_of", defArgs s_number_of, defBody s_number_of, defScope s_number_of, [], []⟩
def d_all_lines : He.DefD := ⟨("all_lines", none), "all_lines", "all_lines", defArgs s_all_lines, defBody s_all_lines, defScope s_all_lines, [], []⟩
def d_boxes_of : He.DefD := ⟨("boxes_of", none), "boxes_of", "boxes_of", defArgs s_boxes_of, defBody s_boxes_of, defScope s_boxes_of, [], []⟩
def d_words_of : He.DefD := ⟨("words_of", none), "words_of", "words_of", defArgs s_words_of, defBody s_words_of, defScope s_words_of, [], []⟩
def d_places_of : He.DefD := ⟨("places_of", none), "places_of", "places_of", defArgs s_places_of, defBody s_places_of, defScope s_places_of, [], []⟩
def d_first_spot : He.DefD := ⟨("first_spot", none), "first_spot", "first_spot", defArgs s_first_spot, defBody s_first_spot, defScope s_first_spot, [], []⟩
def d_place_of : He.DefD := ⟨("place_of", none), "place_of", "place_of", defArgs s_place_of, defBody s_place_of, defScope s_place_of, [], []⟩
def d_line_of : He.DefD := ⟨("line_of", none), "line_of", "line_of", defArgs s_line_of, defBody s_line_of, defScope s_line_of, [], []⟩
def d_behind_part : He.DefD := ⟨("behind_part", none), "behind_part", "behind_part", defArgs s_behind_part, defBody s_behind_part, defScope s_behind_part, [], []⟩
def d_behind_end : He.DefD := ⟨("behind_end", none), "behind_end", "behind_end", defArgs s_behind_end, defBody s_behind_end, defScope s_behind_end, [], []⟩
def d_next_spots : He.DefD := ⟨("next_spots", none), "next_spots", "next_spots", defArgs s_next_spots, defBody s_next_spots, defScope s_next_spots, [], []⟩
def d_Growing_init : He.DefD := ⟨("Growing", some "__init__"), "__init__", "Growing.__init__", defArgs s_Growing_init, defBody s_Growing_init, defScope s_Growing_init, [], []⟩
def d_Growing_lay : He.DefD := ⟨("Growing", some "lay"), "lay", "Growing.lay", defArgs s_Growing_lay, defBody s_Growing_lay, defScope s_Growing_lay, [], []⟩
def d_Growing_follow : He.DefD := ⟨("Growing", some "follow"), "follow", "Growing.follow", defArgs s_Growing_follow, defBody s_Growing_follow, defScope s_Growing_follow, [], []⟩
def d_Growing_grow : He.DefD := ⟨("Growing", some "grow"), "grow", "Growing.grow", defArgs s_Growing_grow, defBody s_Growing_grow, defScope s_Growing_grow, [], []⟩
def d_Growing_reader : He.DefD := ⟨("Growing", some "reader"), "reader", "Growing.reader", defArgs s_Growing_reader, defBody s_Growing_reader, defScope s_Growing_reader, [], []⟩
def d_least : He.DefD := ⟨("least", none), "least", "least", defArgs s_least, defBody s_least, defScope s_least, [], []⟩
def d_spots : He.DefD := ⟨("spots", none), "spots", "spots", defArgs s_spots, defBody s_spots, defScope s_spots, [], []⟩
def d_numbers_of : He.DefD := ⟨("numbers_of", none), "numbers_of", "numbers_of", defArgs s_numbers_of, defBody s_numbers_of, defScope s_numbers_of, [], []⟩
def d_box_rules : He.DefD := ⟨("box_rules", none), "box_rules", "box_rules", defArgs s_box_rules, defBody s_box_rules, defScope s_box_rules, [], []⟩
def d_hold_rules : He.DefD := ⟨("hold_rules", none), "hold_rules", "hold_rules", defArgs s_hold_rules, defBody s_hold_rules, defScope s_hold_rules, [], []⟩
def d_holds : He.DefD := ⟨("holds", none), "holds", "holds", defArgs s_holds, defBody s_holds, defScope s_holds, [.non], []⟩
def d_at_seat : He.DefD := ⟨("at_seat", none), "at_seat", "at_seat", defArgs s_at_seat, defBody s_at_seat, defScope s_at_seat, [], []⟩
def d_stepped : He.DefD := ⟨("stepped", none), "stepped", "stepped", defArgs s_stepped, defBody s_stepped, defScope s_stepped, [], []⟩
def d_meets : He.DefD := ⟨("meets", none), "meets", "meets", defArgs s_meets, defBody s_meets, defScope s_meets, [], []⟩
def d_want_rules : He.DefD := ⟨("want_rules", none), "want_rules", "want_rules", defArgs s_want_rules, defBody s_want_rules, defScope s_want_rules, [], []⟩
def d_wants : He.DefD := ⟨("wants", none), "wants", "wants", defArgs s_wants, defBody s_wants, defScope s_wants, [], []⟩
def d_look_at : He.DefD := ⟨("look_at", none), "look_at", "look_at", defArgs s_look_at, defBody s_look_at, defScope s_look_at, [], []⟩
def d_meets_at : He.DefD := ⟨("meets_at", none), "meets_at", "meets_at", defArgs s_meets_at, defBody s_meets_at, defScope s_meets_at, [], []⟩
def d_is_done : He.DefD := ⟨("is_done", none), "is_done", "is_done", defArgs s_is_done, defBody s_is_done, defScope s_is_done, [], []⟩
def d_law_cell : He.DefD := ⟨("_law_cell", none), "_law_cell", "_law_cell", defArgs s_law_cell, defBody s_law_cell, defScope s_law_cell, [], []⟩
def d_law_names : He.DefD := ⟨("_law_names", none), "_law_names", "_law_names", defArgs s_law_names, defBody s_law_names, defScope s_law_names, [], []⟩
def d_law_line : He.DefD := ⟨("_law_line", none), "_law_line", "_law_line", defArgs s_law_line, defBody s_law_line, defScope s_law_line, [], []⟩
def d_law_body : He.DefD := ⟨("_law_body", none), "_law_body", "_law_body", defArgs s_law_body, defBody s_law_body, defScope s_law_body, [], []⟩
def d_law_chain : He.DefD := ⟨("_law_chain", none), "_law_chain", "_law_chain", defArgs s_law_chain, defBody s_law_chain, defScope s_law_chain, [], []⟩
def d_law_program : He.DefD := ⟨("_law_program", none), "_law_program", "_law_program", defArgs s_law_program, defBody s_law_program, defScope s_law_program, [], []⟩
def d_law_meet : He.DefD := ⟨("_law_meet", none), "_law_meet", "_law_meet", defArgs s_law_meet, defBody s_law_meet, defScope s_law_meet, [], []⟩
def d_law_late : He.DefD := ⟨("_law_late", none), "_law_late", "_law_late", defArgs s_law_late, defBody s_law_late, defScope s_law_late, [], []⟩
def d_law : He.DefD := ⟨("law", none), "law", "law", defArgs s_law, defBody s_law, defScope s_law, [], []⟩
def fn : List He.DefD := [d_end_of, d_or_of, d_head_of, d_gives, d_reads, d_boxes_in, d_number_of, d_all_lines, d_boxes_of, d_words_of, d_places_of, d_first_spot, d_place_of, d_line_of, d_behind_part, d_behind_end, d_next_spots, d_Growing_init, d_Growing_lay, d_Growing_follow, d_Growing_grow, d_Growing_reader, d_least, d_spots, d_numbers_of, d_box_rules, d_hold_rules, d_holds, d_at_seat, d_stepped, d_meets, d_want_rules, d_wants, d_look_at, d_meets_at, d_is_done, d_law_cell, d_law_names, d_law_line, d_law_body, d_law_chain, d_law_program, d_law_meet, d_law_late, d_law]
def fa1 : List He.Fa := [.glo "RoomError", .glo "NoWord", .glo "NoPlace", .glo "OPENING", .glo "end_of", .glo "or_of", .glo "head_of", .glo "GIVING", .glo "gives", .glo "reads", .glo "boxes_in", .glo "number_of", .glo "all_lines", .glo "boxes_of", .glo "words_of", .glo "places_of", .glo "first_spot", .glo "place_of", .glo "line_of", .glo "behind_part", .glo "behind_end", .glo "next_spots", .glo "Growing", .glo "least", .glo "spots", .glo "numbers_of", .glo "box_rules", .glo "hold_rules", .glo "holds", .glo "at_seat", .glo "stepped", .glo "meets", .glo "want_rules", .glo "wants", .glo "look_at"]
def fa2 : List He.Fa := [.glo "meets_at", .glo "is_done", .glo "_law_cell", .glo "_law_names", .glo "_law_line", .glo "_law_body", .glo "_law_chain", .glo "_law_program", .glo "_law_meet", .glo "_law_late", .glo "law", .free "len", .free "range", .free "sorted", .free "enumerate", .free "reversed", .free "list", .free "tuple", .free "int", .free "max", .free "isinstance", .free "bool", .cls "Growing", .mkr "Growing", .noat "Growing" "things", .noat "Growing" "followers", .noat "Growing" "known", .noat "Growing" "rules", .noat "Growing" "fresh", .meth "Growing" "lay", .meth "Growing" "follow", .meth "Growing" "grow", .meth "Growing" "reader"]
def fa : List He.Fa := fa1 ++ fa2
def ex (K : PySem.W.Frag) : Bool := He.tupB K "OPENING" [.str "either", .str "again"] && He.tupB K "GIVING" [.str "pair", .str "first", .str "second", .str "same", .str "none"]
abbrev R : PySem.W.OpenRow := PySem.W.OpenLaw.row PySem.Challenge.rw_doneroom_k37_whole_needs_by_meets
abbrev hk : PySem.W.Hook := He.hookX 5 fa fn [] [] ex
def ob (s : PySem.W.SharedT) : He.AlX := He.obsX 5 fa fn [] [] ex (HandSHeadRun.getT s)
theorem ob_eq (s : PySem.W.SharedT) : ob s = hk.obs s.abs := He.obsX_eq (HandSHeadRun.getT_eq s)
def loose1 : List Str := ["RoomError", "NoWord", "NoPlace", "OPENING", "end_of", "or_of", "head_of", "GIVING", "gives", "reads", "boxes_in", "number_of", "all_lines", "boxes_of", "words_of", "places_of", "first_spot", "place_of", "line_of", "behind_part", "behind_end", "next_spots", "Growing", "least", "spots", "numbers_of", "box_rules", "hold_rules", "holds", "at_seat"]
def loose2 : List Str := ["stepped", "meets", "want_rules", "wants", "look_at", "meets_at", "is_done", "_law_cell", "_law_names", "_law_line", "_law_body", "_law_chain", "_law_program", "_law_meet", "_law_late"]
def loose : List Str := loose1 ++ loose2
theorem run (w : World) : HandSHeadRun.RunEq R (PySem.W.view R.prog [58]) hk ob 3000 loose w := by
  intro os
  kernel_rfl
end DrHead
namespace DrHead
open PySem PySem.Spec PyProof.Rows L2 Dr
theorem facts {P : Program} {w : World} {K : PySem.W.Frag} {h : Heap} {mg : Str → Option Value} {f : Addr} (X : K.In h) (G : h.Ns mainGlobals mg) (hfa : mg ("law" : Str) = some (.ref f)) (c : He.SaysD fa fn K) (hex : ex K = true) :
    ∃ fd : FuncData, (∀ (s : Shared) (v : Value), BindsTo s fd ⟨[v], []⟩ [("script", v)]) ∧ ∀ base : Heap, K.In base → base.Ns mainGlobals mg → FnOk P w K mg base CX0 9 f fd ["script"] (spLaw K) := by
  have e0 := hfa.symm.trans (He.glo_ok X G (c.fact 45 (f := .glo "law") rfl))
  cases e0
  have hex2 : (He.tupB K "OPENING" [.str "either", .str "again"] && He.tupB K "GIVING" [.str "pair", .str "first", .str "second", .str "same", .str "none"]) = true := hex
  rw [Bool.and_eq_true] at hex2
  have Tx : Txt K mg (He.ga K "OPENING") (He.ga K "GIVING") := ⟨He.free_ok X G (c.fact 46 (f := .free "len") rfl), He.free_ok X G (c.fact 47 (f := .free "range") rfl), He.free_ok X G (c.fact 48 (f := .free "sorted") rfl), He.free_ok X G (c.fact 49 (f := .free "enumerate") rfl), He.free_ok X G (c.fact 50 (f := .free "reversed") rfl), He.free_ok X G (c.fact 51 (f := .free "list") rfl), He.free_ok X G (c.fact 52 (f := .free "tuple") rfl), He.free_ok X G (c.fact 53 (f := .free "int") rfl), He.free_ok X G (c.fact 54 (f := .free "max") rfl), He.free_ok X G (c.fact 55 (f := .free "isinstance") rfl), He.free_ok X G (c.fact 56 (f := .free "bool") rfl), He.glo_ok X G (c.fact 3 (f := .glo "OPENING") rfl), He.glo_ok X G (c.fact 7 (f := .glo "GIVING") rfl), fun H => He.tupB_ok hex2.1 H, fun H => He.tupB_ok hex2.2 H⟩
  have Gc_ : Gc K (He.ga K "Growing") := ⟨He.cls_ok (c.fact 57 (f := .cls "Growing") rfl), He.noat_ok (c.fact 59 (f := .noat "Growing" "things") rfl), He.noat_ok (c.fact 60 (f := .noat "Growing" "followers") rfl), He.noat_ok (c.fact 61 (f := .noat "Growing" "known") rfl), He.noat_ok (c.fact 62 (f := .noat "Growing" "rules") rfl), He.noat_ok (c.fact 63 (f := .noat "Growing" "fresh") rfl)⟩
  have me_lay : Meth K (He.ga K "Growing") "lay" (He.ma K (He.ga K "Growing") "lay") := He.meth_ok (c.fact 64 (f := .meth "Growing" "lay") rfl)
  have me_follow : Meth K (He.ga K "Growing") "follow" (He.ma K (He.ga K "Growing") "follow") := He.meth_ok (c.fact 65 (f := .meth "Growing" "follow") rfl)
  have me_grow : Meth K (He.ga K "Growing") "grow" (He.ma K (He.ga K "Growing") "grow") := He.meth_ok (c.fact 66 (f := .meth "Growing" "grow") rfl)
  have me_reader : Meth K (He.ga K "Growing") "reader" (He.ma K (He.ga K "Growing") "reader") := He.meth_ok (c.fact 67 (f := .meth "Growing" "reader") rfl)
  have mk_Growing : Mk K (He.ga K "Growing") (He.ma K (He.ga K "Growing") "__init__") := He.mkr_ok (c.fact 58 (f := .mkr "Growing") rfl)
  have m_Growing : mg "Growing" = some (.ref (He.ga K "Growing")) := He.glo_ok X G (c.fact 22 (f := .glo "Growing") rfl)
  obtain ⟨fd_end_of, F0⟩ := c.def_ 0 (d := d_end_of) rfl
  have F_end_of : FnP K "end_of" "end_of" s_end_of (He.ga K "end_of") fd_end_of := F0
  have B_end_of : Binds K fd_end_of ["lines", "k"] [] := F_end_of.bindsN (fun _ _ _ _ _ _ us hl => match us, hl with | [_, _], _ => rfl)
  obtain ⟨fd_or_of, F0⟩ := c.def_ 1 (d := d_or_of) rfl
  have F_or_of : FnP K "or_of" "or_of" s_or_of (He.ga K "or_of") fd_or_of := F0
  have B_or_of : Binds K fd_or_of ["lines", "k"] [] := F_or_of.bindsN (fun _ _ _ _ _ _ us hl => match us, hl with | [_, _], _ => rfl)
  obtain ⟨fd_head_of, F0⟩ := c.def_ 2 (d := d_head_of) rfl
  have F_head_of : FnP K "head_of" "head_of" s_head_of (He.ga K "head_of") fd_head_of := F0
  have B_head_of : Binds K fd_head_of ["lines", "k"] [] := F_head_of.bindsN (fun _ _ _ _ _ _ us hl => match us, hl with | [_, _], _ => rfl)
  obtain ⟨fd_gives, F0⟩ := c.def_ 3 (d := d_gives) rfl
  have F_gives : FnP K "gives" "gives" s_gives (He.ga K "gives") fd_gives := F0
  have B_gives : Binds K fd_gives ["line"] [] := F_gives.bindsN (fun _ _ _ _ _ _ us hl => match us, hl with | [_], _ => rfl)
  obtain ⟨fd_reads, F0⟩ := c.def_ 4 (d := d_reads) rfl
  have F_reads : FnP K "reads" "reads" s_reads (He.ga K "reads") fd_reads := F0
  have B_reads : Binds K fd_reads ["line"] [] := F_reads.bindsN (fun _ _ _ _ _ _ us hl => match us, hl with | [_], _ => rfl)
  obtain ⟨fd_boxes_in, F0⟩ := c.def_ 5 (d := d_boxes_in) rfl
  have F_boxes_in : FnP K "boxes_in" "boxes_in" s_boxes_in (He.ga K "boxes_in") fd_boxes_in := F0
  have B_boxes_in : Binds K fd_boxes_in ["line"] [] := F_boxes_in.bindsN (fun _ _ _ _ _ _ us hl => match us, hl with | [_], _ => rfl)
  obtain ⟨fd_number_of, F0⟩ := c.def_ 6 (d := d_number_of) rfl
  have F_number_of : FnP K "number_of" "number_of" s_number_of (He.ga K "number_of") fd_number_of := F0
  have B_number_of : Binds K fd_number_of ["program", "name"] [] := F_number_of.bindsN (fun _ _ _ _ _ _ us hl => match us, hl with | [_, _], _ => rfl)
  obtain ⟨fd_all_lines, F0⟩ := c.def_ 7 (d := d_all_lines) rfl
  have F_all_lines : FnP K "all_lines" "all_lines" s_all_lines (He.ga K "all_lines") fd_all_lines := F0
  have B_all_lines : Binds K fd_all_lines ["program"] [] := F_all_lines.bindsN (fun _ _ _ _ _ _ us hl => match us, hl with | [_], _ => rfl)
  obtain ⟨fd_boxes_of, F0⟩ := c.def_ 8 (d := d_boxes_of) rfl
  have F_boxes_of : FnP K "boxes_of" "boxes_of" s_boxes_of (He.ga K "boxes_of") fd_boxes_of := F0
  have B_boxes_of : Binds K fd_boxes_of ["program"] [] := F_boxes_of.bindsN (fun _ _ _ _ _ _ us hl => match us, hl with | [_], _ => rfl)
  obtain ⟨fd_words_of, F0⟩ := c.def_ 9 (d := d_words_of) rfl
  have F_words_of : FnP K "words_of" "words_of" s_words_of (He.ga K "words_of") fd_words_of := F0
  have B_words_of : Binds K fd_words_of ["program"] [] := F_words_of.bindsN (fun _ _ _ _ _ _ us hl => match us, hl with | [_], _ => rfl)
  obtain ⟨fd_places_of, F0⟩ := c.def_ 10 (d := d_places_of) rfl
  have F_places_of : FnP K "places_of" "places_of" s_places_of (He.ga K "places_of") fd_places_of := F0
  have B_places_of : Binds K fd_places_of ["program"] [] := F_places_of.bindsN (fun _ _ _ _ _ _ us hl => match us, hl with | [_], _ => rfl)
  obtain ⟨fd_first_spot, F0⟩ := c.def_ 11 (d := d_first_spot) rfl
  have F_first_spot : FnP K "first_spot" "first_spot" s_first_spot (He.ga K "first_spot") fd_first_spot := F0
  have B_first_spot : Binds K fd_first_spot [] [] := F_first_spot.bindsN (fun _ _ _ _ _ _ us hl => match us, hl with | [], _ => rfl)
  obtain ⟨fd_place_of, F0⟩ := c.def_ 12 (d := d_place_of) rfl
  have F_place_of : FnP K "place_of" "place_of" s_place_of (He.ga K "place_of") fd_place_of := F0
  have B_place_of : Binds K fd_place_of ["spot"] [] := F_place_of.bindsN (fun _ _ _ _ _ _ us hl => match us, hl with | [_], _ => rfl)
  obtain ⟨fd_line_of, F0⟩ := c.def_ 13 (d := d_line_of) rfl
  have F_line_of : FnP K "line_of" "line_of" s_line_of (He.ga K "line_of") fd_line_of := F0
  have B_line_of : Binds K fd_line_of ["program", "spot"] [] := F_line_of.bindsN (fun _ _ _ _ _ _ us hl => match us, hl with | [_, _], _ => rfl)
  obtain ⟨fd_behind_part, F0⟩ := c.def_ 14 (d := d_behind_part) rfl
  have F_behind_part : FnP K "behind_part" "behind_part" s_behind_part (He.ga K "behind_part") fd_behind_part := F0
  have B_behind_part : Binds K fd_behind_part ["way"] [] := F_behind_part.bindsN (fun _ _ _ _ _ _ us hl => match us, hl with | [_], _ => rfl)
  obtain ⟨fd_behind_end, F0⟩ := c.def_ 15 (d := d_behind_end) rfl
  have F_behind_end : FnP K "behind_end" "behind_end" s_behind_end (He.ga K "behind_end") fd_behind_end := F0
  have B_behind_end : Binds K fd_behind_end ["way", "part", "lines", "k"] [] := F_behind_end.bindsN (fun _ _ _ _ _ _ us hl => match us, hl with | [_, _, _, _], _ => rfl)
  obtain ⟨fd_next_spots, F0⟩ := c.def_ 16 (d := d_next_spots) rfl
  have F_next_spots : FnP K "next_spots" "next_spots" s_next_spots (He.ga K "next_spots") fd_next_spots := F0
  have B_next_spots : Binds K fd_next_spots ["program", "spot"] [] := F_next_spots.bindsN (fun _ _ _ _ _ _ us hl => match us, hl with | [_, _], _ => rfl)
  obtain ⟨fd_spots, F0⟩ := c.def_ 23 (d := d_spots) rfl
  have F_spots : FnP K "spots" "spots" s_spots (He.ga K "spots") fd_spots := F0
  have B_spots : Binds K fd_spots ["program"] [] := F_spots.bindsN (fun _ _ _ _ _ _ us hl => match us, hl with | [_], _ => rfl)
  obtain ⟨fd_numbers_of, F0⟩ := c.def_ 24 (d := d_numbers_of) rfl
  have F_numbers_of : FnP K "numbers_of" "numbers_of" s_numbers_of (He.ga K "numbers_of") fd_numbers_of := F0
  have B_numbers_of : Binds K fd_numbers_of ["program"] [] := F_numbers_of.bindsN (fun _ _ _ _ _ _ us hl => match us, hl with | [_], _ => rfl)
  obtain ⟨fd_box_rules, F0⟩ := c.def_ 25 (d := d_box_rules) rfl
  have F_box_rules : FnP K "box_rules" "box_rules" s_box_rules (He.ga K "box_rules") fd_box_rules := F0
  have B_box_rules : Binds K fd_box_rules ["boxes", "line", "here", "there"] [] := F_box_rules.bindsN (fun _ _ _ _ _ _ us hl => match us, hl with | [_, _, _, _], _ => rfl)
  obtain ⟨fd_want_rules, F0⟩ := c.def_ 31 (d := d_want_rules) rfl
  have F_want_rules : FnP K "want_rules" "want_rules" s_want_rules (He.ga K "want_rules") fd_want_rules := F0
  have B_want_rules : Binds K fd_want_rules ["boxes", "line", "here", "there"] [] := F_want_rules.bindsN (fun _ _ _ _ _ _ us hl => match us, hl with | [_, _, _, _], _ => rfl)
  obtain ⟨fd_hold_rules, F0⟩ := c.def_ 26 (d := d_hold_rules) rfl
  have F_hold_rules : FnP K "hold_rules" "hold_rules" s_hold_rules (He.ga K "hold_rules") fd_hold_rules := F0
  have B_hold_rules : Binds K fd_hold_rules ["program", "word", "place"] [] := F_hold_rules.bindsN (fun _ _ _ _ _ _ us hl => match us, hl with | [_, _, _], _ => rfl)
  obtain ⟨fd_lay, F0⟩ := c.def_ 18 (d := d_Growing_lay) rfl
  have F_lay : FnP K "lay" "Growing.lay" s_Growing_lay (He.ma K (He.ga K "Growing") "lay") fd_lay := F0
  have B_lay : Binds K fd_lay ["self", "seat", "thing"] [] := F_lay.bindsN (fun _ _ _ _ _ _ us hl => match us, hl with | [_, _, _], _ => rfl)
  obtain ⟨fd_follow, F0⟩ := c.def_ 19 (d := d_Growing_follow) rfl
  have F_follow : FnP K "follow" "Growing.follow" s_Growing_follow (He.ma K (He.ga K "Growing") "follow") fd_follow := F0
  have B_follow : Binds K fd_follow ["self", "one", "other"] [] := F_follow.bindsN (fun _ _ _ _ _ _ us hl => match us, hl with | [_, _, _], _ => rfl)
  obtain ⟨fd_grow, F0⟩ := c.def_ 20 (d := d_Growing_grow) rfl
  have F_grow : FnP K "grow" "Growing.grow" s_Growing_grow (He.ma K (He.ga K "Growing") "grow") fd_grow := F0
  have B_grow : Binds K fd_grow ["self"] [] := F_grow.bindsN (fun _ _ _ _ _ _ us hl => match us, hl with | [_], _ => rfl)
  obtain ⟨fd_reader, F0⟩ := c.def_ 21 (d := d_Growing_reader) rfl
  have F_reader : FnP K "reader" "Growing.reader" s_Growing_reader (He.ma K (He.ga K "Growing") "reader") fd_reader := F0
  have B_reader : Binds K fd_reader ["self"] [] := F_reader.bindsN (fun _ _ _ _ _ _ us hl => match us, hl with | [_], _ => rfl)
  obtain ⟨fd_init, F0⟩ := c.def_ 17 (d := d_Growing_init) rfl
  have F_init : FnP K "__init__" "Growing.__init__" s_Growing_init (He.ma K (He.ga K "Growing") "__init__") fd_init := F0
  have B_init : Binds K fd_init ["self", "rules"] [] := F_init.bindsN (fun _ _ _ _ _ _ us hl => match us, hl with | [_, _], _ => rfl)
  obtain ⟨fd_least, F0⟩ := c.def_ 22 (d := d_least) rfl
  have F_least : FnP K "least" "least" s_least (He.ga K "least") fd_least := F0
  have B_least : Binds K fd_least ["rules"] [] := F_least.bindsN (fun _ _ _ _ _ _ us hl => match us, hl with | [_], _ => rfl)
  obtain ⟨fd_holds, F0⟩ := c.def_ 27 (d := d_holds) rfl
  have F_holds : FunD K "holds" "holds" (defArgs s_holds) (defBody s_holds) (defScope s_holds) [.non] [] (He.ga K "holds") fd_holds := F0
  have B_holds : Binds K fd_holds ["program", "word", "place"] [] := by
    obtain ⟨ds, hv, hb⟩ := FunD.binds1 (ps := ["program", "word", "place"]) F_holds 3 1 (fun z => by cases z) rfl (fun _ _ _ _ _ _ _ us its hl hi => match us, hl, its, hi with | [_, _, _], _, [_], _ => ⟨_, rfl, rfl⟩)
    cases hv
    exact hb
  have B_holds1 : Binds K fd_holds ["program", "word", "place"] [.none] := by
    obtain ⟨ds, hv, hb⟩ := FunD.binds1 (ps := ["program", "word", "place"]) F_holds 2 0 (fun z => by cases z) rfl (fun _ _ _ _ _ _ _ us its hl hi => match us, hl, its, hi with | [_, _], _, [_], _ => ⟨_, rfl, rfl⟩)
    cases hv with
    | cons r t =>
      cases t
      cases r
      exact hb
  obtain ⟨fd_wants, F0⟩ := c.def_ 32 (d := d_wants) rfl
  have F_wants : FnP K "wants" "wants" s_wants (He.ga K "wants") fd_wants := F0
  have B_wants : Binds K fd_wants ["program"] [] := F_wants.bindsN (fun _ _ _ _ _ _ us hl => match us, hl with | [_], _ => rfl)
  obtain ⟨fd_at_seat, F0⟩ := c.def_ 28 (d := d_at_seat) rfl
  have F_at_seat : FnP K "at_seat" "at_seat" s_at_seat (He.ga K "at_seat") fd_at_seat := F0
  have B_at_seat : Binds K fd_at_seat ["reader", "seat"] [] := F_at_seat.bindsN (fun _ _ _ _ _ _ us hl => match us, hl with | [_, _], _ => rfl)
  obtain ⟨fd_stepped, F0⟩ := c.def_ 29 (d := d_stepped) rfl
  have F_stepped : FnP K "stepped" "stepped" s_stepped (He.ga K "stepped") fd_stepped := F0
  have B_stepped : Binds K fd_stepped ["one", "other", "pair"] [] := F_stepped.bindsN (fun _ _ _ _ _ _ us hl => match us, hl with | [_, _, _], _ => rfl)
  obtain ⟨fd_meets, F0⟩ := c.def_ 30 (d := d_meets) rfl
  have F_meets : FnP K "meets" "meets" s_meets (He.ga K "meets") fd_meets := F0
  have B_meets : Binds K fd_meets ["one", "seat", "other", "other_seat"] [] := F_meets.bindsN (fun _ _ _ _ _ _ us hl => match us, hl with | [_, _, _, _], _ => rfl)
  obtain ⟨fd_look_at, F0⟩ := c.def_ 33 (d := d_look_at) rfl
  have F_look_at : FnP K "look_at" "look_at" s_look_at (He.ga K "look_at") fd_look_at := F0
  have B_look_at : Binds K fd_look_at ["program", "word", "place"] [] := F_look_at.bindsN (fun _ _ _ _ _ _ us hl => match us, hl with | [_, _, _], _ => rfl)
  obtain ⟨fd_meets_at, F0⟩ := c.def_ 34 (d := d_meets_at) rfl
  have F_meets_at : FnP K "meets_at" "meets_at" s_meets_at (He.ga K "meets_at") fd_meets_at := F0
  have B_meets_at : Binds K fd_meets_at ["program", "held", "wish", "place"] [] := F_meets_at.bindsN (fun _ _ _ _ _ _ us hl => match us, hl with | [_, _, _, _], _ => rfl)
  obtain ⟨fd_is_done, F0⟩ := c.def_ 35 (d := d_is_done) rfl
  have F_is_done : FnP K "is_done" "is_done" s_is_done (He.ga K "is_done") fd_is_done := F0
  have B_is_done : Binds K fd_is_done ["program", "word", "place"] [] := F_is_done.bindsN (fun _ _ _ _ _ _ us hl => match us, hl with | [_, _, _], _ => rfl)
  obtain ⟨fd_law_cell, F0⟩ := c.def_ 36 (d := d_law_cell) rfl
  have F_law_cell : FnP K "_law_cell" "_law_cell" s_law_cell (He.ga K "_law_cell") fd_law_cell := F0
  have B_law_cell : Binds K fd_law_cell ["script", "k"] [] := F_law_cell.bindsN (fun _ _ _ _ _ _ us hl => match us, hl with | [_, _], _ => rfl)
  obtain ⟨fd_law_names, F0⟩ := c.def_ 37 (d := d_law_names) rfl
  have F_law_names : FnP K "_law_names" "_law_names" s_law_names (He.ga K "_law_names") fd_law_names := F0
  have B_law_names : Binds K fd_law_names ["cell"] [] := F_law_names.bindsN (fun _ _ _ _ _ _ us hl => match us, hl with | [_], _ => rfl)
  obtain ⟨fd_law_line, F0⟩ := c.def_ 38 (d := d_law_line) rfl
  have F_law_line : FnP K "_law_line" "_law_line" s_law_line (He.ga K "_law_line") fd_law_line := F0
  have B_law_line : Binds K fd_law_line ["cell", "boxes", "words"] [] := F_law_line.bindsN (fun _ _ _ _ _ _ us hl => match us, hl with | [_, _, _], _ => rfl)
  obtain ⟨fd_law_body, F0⟩ := c.def_ 39 (d := d_law_body) rfl
  have F_law_body : FnP K "_law_body" "_law_body" s_law_body (He.ga K "_law_body") fd_law_body := F0
  have B_law_body : Binds K fd_law_body ["script", "start", "many", "boxes", "words"] [] := F_law_body.bindsN (fun _ _ _ _ _ _ us hl => match us, hl with | [_, _, _, _, _], _ => rfl)
  obtain ⟨fd_law_chain, F0⟩ := c.def_ 40 (d := d_law_chain) rfl
  have F_law_chain : FnP K "_law_chain" "_law_chain" s_law_chain (He.ga K "_law_chain") fd_law_chain := F0
  have B_law_chain : Binds K fd_law_chain ["script", "start", "boxes", "words"] [] := F_law_chain.bindsN (fun _ _ _ _ _ _ us hl => match us, hl with | [_, _, _, _], _ => rfl)
  obtain ⟨fd_law_program, F0⟩ := c.def_ 41 (d := d_law_program) rfl
  have F_law_program : FnP K "_law_program" "_law_program" s_law_program (He.ga K "_law_program") fd_law_program := F0
  have B_law_program : Binds K fd_law_program ["script", "top"] [] := F_law_program.bindsN (fun _ _ _ _ _ _ us hl => match us, hl with | [_, _], _ => rfl)
  obtain ⟨fd_law_meet, F0⟩ := c.def_ 42 (d := d_law_meet) rfl
  have F_law_meet : FnP K "_law_meet" "_law_meet" s_law_meet (He.ga K "_law_meet") fd_law_meet := F0
  have B_law_meet : Binds K fd_law_meet ["program", "word", "place", "wish"] [] := F_law_meet.bindsN (fun _ _ _ _ _ _ us hl => match us, hl with | [_, _, _, _], _ => rfl)
  obtain ⟨fd_law_late, F0⟩ := c.def_ 43 (d := d_law_late) rfl
  have F_law_late : FnP K "_law_late" "_law_late" s_law_late (He.ga K "_law_late") fd_law_late := F0
  have B_law_late : Binds K fd_law_late ["program", "word", "place"] [] := F_law_late.bindsN (fun _ _ _ _ _ _ us hl => match us, hl with | [_, _, _], _ => rfl)
  obtain ⟨fd_law, F0⟩ := c.def_ 44 (d := d_law) rfl
  have F_law : FnP K "law" "law" s_law (He.ga K "law") fd_law := F0
  have B_law : Binds K fd_law ["script"] [] := F_law.bindsN (fun _ _ _ _ _ _ us hl => match us, hl with | [_], _ => rfl)
  have b := FunD.bindsA (ps := ["script"]) F_law fun _ _ _ _ _ _ us hl => match us, hl with | [_], _ => rfl
  refine ⟨fd_law, fun s v => b s [v] rfl, fun base _ _ => ?_⟩
  have G_end_of : Cal P w K mg base 1 "end_of" ["lines", "k"] (sp_end_of P w K) (He.ga K "end_of") fd_end_of := ⟨ok_end_of Tx F_end_of, He.glo_ok X G (c.fact 4 (f := .glo "end_of") rfl), F_end_of.kp, B_end_of⟩
  have G_or_of : Cal P w K mg base 1 "or_of" ["lines", "k"] (sp_or_of P w K) (He.ga K "or_of") fd_or_of := ⟨ok_or_of Tx F_or_of, He.glo_ok X G (c.fact 5 (f := .glo "or_of") rfl), F_or_of.kp, B_or_of⟩
  have G_head_of : Cal P w K mg base 1 "head_of" ["lines", "k"] (sp_head_of P w K) (He.ga K "head_of") fd_head_of := ⟨ok_head_of Tx F_head_of, He.glo_ok X G (c.fact 6 (f := .glo "head_of") rfl), F_head_of.kp, B_head_of⟩
  have G_gives : Cal P w K mg base 1 "gives" ["line"] (sp_gives P w K) (He.ga K "gives") fd_gives := ⟨ok_gives Tx F_gives, He.glo_ok X G (c.fact 8 (f := .glo "gives") rfl), F_gives.kp, B_gives⟩
  have G_reads : Cal P w K mg base 1 "reads" ["line"] (sp_reads P w K) (He.ga K "reads") fd_reads := ⟨ok_reads Tx F_reads, He.glo_ok X G (c.fact 9 (f := .glo "reads") rfl), F_reads.kp, B_reads⟩
  have G_boxes_in : Cal P w K mg base 1 "boxes_in" ["line"] (sp_boxes_in P w K) (He.ga K "boxes_in") fd_boxes_in := ⟨ok_boxes_in Tx F_boxes_in, He.glo_ok X G (c.fact 10 (f := .glo "boxes_in") rfl), F_boxes_in.kp, B_boxes_in⟩
  have G_number_of : Cal P w K mg base 1 "number_of" ["program", "name"] (sp_number_of P w K) (He.ga K "number_of") fd_number_of := ⟨ok_number_of Tx F_number_of, He.glo_ok X G (c.fact 11 (f := .glo "number_of") rfl), F_number_of.kp, B_number_of⟩
  have G_all_lines : Cal P w K mg base 1 "all_lines" ["program"] (sp_all_lines P w K) (He.ga K "all_lines") fd_all_lines := ⟨ok_all_lines Tx F_all_lines, He.glo_ok X G (c.fact 12 (f := .glo "all_lines") rfl), F_all_lines.kp, B_all_lines⟩
  have G_boxes_of : Cal P w K mg base 2 "boxes_of" ["program"] (sp_boxes_of P w K) (He.ga K "boxes_of") fd_boxes_of := ⟨ok_boxes_of Tx G_all_lines G_boxes_in F_boxes_of, He.glo_ok X G (c.fact 13 (f := .glo "boxes_of") rfl), F_boxes_of.kp, B_boxes_of⟩
  have G_words_of : Cal P w K mg base 2 "words_of" ["program"] (sp_words_of P w K) (He.ga K "words_of") fd_words_of := ⟨ok_words_of Tx G_all_lines F_words_of, He.glo_ok X G (c.fact 14 (f := .glo "words_of") rfl), F_words_of.kp, B_words_of⟩
  have G_places_of : Cal P w K mg base 1 "places_of" ["program"] (sp_places_of P w K) (He.ga K "places_of") fd_places_of := ⟨ok_places_of Tx F_places_of, He.glo_ok X G (c.fact 15 (f := .glo "places_of") rfl), F_places_of.kp, B_places_of⟩
  have G_first_spot : Cal P w K mg base 1 "first_spot" [] (sp_first_spot P w K) (He.ga K "first_spot") fd_first_spot := ⟨ok_first_spot  F_first_spot, He.glo_ok X G (c.fact 16 (f := .glo "first_spot") rfl), F_first_spot.kp, B_first_spot⟩
  have G_place_of : Cal P w K mg base 1 "place_of" ["spot"] (sp_place_of P w K) (He.ga K "place_of") fd_place_of := ⟨ok_place_of  F_place_of, He.glo_ok X G (c.fact 17 (f := .glo "place_of") rfl), F_place_of.kp, B_place_of⟩
  have G_line_of : Cal P w K mg base 1 "line_of" ["program", "spot"] (sp_line_of P w K) (He.ga K "line_of") fd_line_of := ⟨ok_line_of Tx F_line_of, He.glo_ok X G (c.fact 18 (f := .glo "line_of") rfl), F_line_of.kp, B_line_of⟩
  have G_behind_part : Cal P w K mg base 1 "behind_part" ["way"] (sp_behind_part P w K) (He.ga K "behind_part") fd_behind_part := ⟨ok_behind_part  F_behind_part, He.glo_ok X G (c.fact 19 (f := .glo "behind_part") rfl), F_behind_part.kp, B_behind_part⟩
  have G_behind_end : Cal P w K mg base 2 "behind_end" ["way", "part", "lines", "k"] (sp_behind_end P w K) (He.ga K "behind_end") fd_behind_end := ⟨ok_behind_end G_head_of F_behind_end, He.glo_ok X G (c.fact 20 (f := .glo "behind_end") rfl), F_behind_end.kp, B_behind_end⟩
  have G_next_spots : Cal P w K mg base 3 "next_spots" ["program", "spot"] (sp_next_spots P w K) (He.ga K "next_spots") fd_next_spots := ⟨ok_next_spots Tx G_end_of G_or_of G_behind_part G_behind_end G_number_of F_next_spots, He.glo_ok X G (c.fact 21 (f := .glo "next_spots") rfl), F_next_spots.kp, B_next_spots⟩
  have G_spots : Cal P w K mg base 4 "spots" ["program"] (sp_spots P w K) (He.ga K "spots") fd_spots := ⟨ok_spots Tx G_first_spot G_next_spots F_spots, He.glo_ok X G (c.fact 24 (f := .glo "spots") rfl), F_spots.kp, B_spots⟩
  have G_numbers_of : Cal P w K mg base 5 "numbers_of" ["program"] (sp_numbers_of P w K) (He.ga K "numbers_of") fd_numbers_of := ⟨ok_numbers_of Tx G_spots F_numbers_of, He.glo_ok X G (c.fact 25 (f := .glo "numbers_of") rfl), F_numbers_of.kp, B_numbers_of⟩
  have G_box_rules : Cal P w K mg base 2 "box_rules" ["boxes", "line", "here", "there"] (sp_box_rules P w K) (He.ga K "box_rules") fd_box_rules := ⟨ok_box_rules Tx G_gives F_box_rules, He.glo_ok X G (c.fact 26 (f := .glo "box_rules") rfl), F_box_rules.kp, B_box_rules⟩
  have G_want_rules : Cal P w K mg base 2 "want_rules" ["boxes", "line", "here", "there"] (sp_want_rules P w K) (He.ga K "want_rules") fd_want_rules := ⟨ok_want_rules Tx G_gives G_reads F_want_rules, He.glo_ok X G (c.fact 32 (f := .glo "want_rules") rfl), F_want_rules.kp, B_want_rules⟩
  have G_hold_rules : Cal P w K mg base 6 "hold_rules" ["program", "word", "place"] (sp_hold_rules P w K) (He.ga K "hold_rules") fd_hold_rules := ⟨ok_hold_rules Tx G_boxes_of G_numbers_of G_line_of G_next_spots G_place_of G_box_rules F_hold_rules, He.glo_ok X G (c.fact 27 (f := .glo "hold_rules") rfl), F_hold_rules.kp, B_hold_rules⟩
  have O_lay : FnOk P w K mg base CX0 1 (He.ma K (He.ga K "Growing") "lay") fd_lay ["self", "seat", "thing"] (sp_lay P w K (He.ga K "Growing")) := ok_lay Gc_ F_lay
  have O_follow : FnOk P w K mg base CX0 2 (He.ma K (He.ga K "Growing") "follow") fd_follow ["self", "one", "other"] (sp_follow P w K (He.ga K "Growing")) := ok_follow Gc_ Tx me_lay O_lay B_lay F_follow
  have O_grow : FnOk P w K mg base CX0 3 (He.ma K (He.ga K "Growing") "grow") fd_grow ["self"] (sp_grow P w K (He.ga K "Growing")) := ok_grow Gc_ Tx me_lay O_lay B_lay me_follow O_follow B_follow F_grow
  have O_reader : FnOk P w K mg base CX0 1 (He.ma K (He.ga K "Growing") "reader") fd_reader ["self"] (sp_reader P w K (He.ga K "Growing")) := ok_reader Gc_ Tx F_reader
  have O_init : FnOk P w K mg base CX0 3 (He.ma K (He.ga K "Growing") "__init__") fd_init ["self", "rules"] (sp_init P w K (He.ga K "Growing")) := ok_init Gc_ Tx me_lay O_lay B_lay me_follow O_follow B_follow F_init
  have G_least : Cal P w K mg base 6 "least" ["rules"] (sp_least P w K) (He.ga K "least") fd_least := ⟨ok_least Gc_ m_Growing mk_Growing O_init B_init me_grow O_grow B_grow me_reader O_reader B_reader F_least, He.glo_ok X G (c.fact 23 (f := .glo "least") rfl), F_least.kp, B_least⟩
  have G_holds : Cal P w K mg base 7 "holds" ["program", "word", "place"] (sp_holds P w K) (He.ga K "holds") fd_holds := ⟨ok_holds G_hold_rules G_least F_holds, He.glo_ok X G (c.fact 28 (f := .glo "holds") rfl), F_holds.kp, B_holds⟩
  have G_wants : Cal P w K mg base 7 "wants" ["program"] (sp_wants P w K) (He.ga K "wants") fd_wants := ⟨ok_wants Tx G_boxes_of G_numbers_of G_line_of G_next_spots G_want_rules G_least F_wants, He.glo_ok X G (c.fact 33 (f := .glo "wants") rfl), F_wants.kp, B_wants⟩
  have G_at_seat : Cal P w K mg base 1 "at_seat" ["reader", "seat"] (sp_at_seat P w K) (He.ga K "at_seat") fd_at_seat := ⟨ok_at_seat Tx F_at_seat, He.glo_ok X G (c.fact 29 (f := .glo "at_seat") rfl), F_at_seat.kp, B_at_seat⟩
  have G_stepped : Cal P w K mg base 2 "stepped" ["one", "other", "pair"] (sp_stepped P w K) (He.ga K "stepped") fd_stepped := ⟨ok_stepped G_at_seat F_stepped, He.glo_ok X G (c.fact 30 (f := .glo "stepped") rfl), F_stepped.kp, B_stepped⟩
  have G_meets : Cal P w K mg base 3 "meets" ["one", "seat", "other", "other_seat"] (sp_meets P w K) (He.ga K "meets") fd_meets := ⟨ok_meets Tx G_at_seat G_stepped F_meets, He.glo_ok X G (c.fact 31 (f := .glo "meets") rfl), F_meets.kp, B_meets⟩
  have G_look_at : Cal P w K mg base 3 "look_at" ["program", "word", "place"] (sp_look_at P w K) (He.ga K "look_at") fd_look_at := ⟨ok_look_at G_words_of G_places_of F_look_at, He.glo_ok X G (c.fact 34 (f := .glo "look_at") rfl), F_look_at.kp, B_look_at⟩
  have G_meets_at : Cal P w K mg base 5 "meets_at" ["program", "held", "wish", "place"] (sp_meets_at P w K) (He.ga K "meets_at") fd_meets_at := ⟨ok_meets_at Tx G_spots G_place_of G_boxes_of G_meets F_meets_at, He.glo_ok X G (c.fact 35 (f := .glo "meets_at") rfl), F_meets_at.kp, B_meets_at⟩
  have G_is_done : Cal P w K mg base 8 "is_done" ["program", "word", "place"] (sp_is_done P w K) (He.ga K "is_done") fd_is_done := ⟨ok_is_done G_look_at G_holds (dv := []) B_holds1 G_wants G_meets_at F_is_done, He.glo_ok X G (c.fact 36 (f := .glo "is_done") rfl), F_is_done.kp, B_is_done⟩
  have G_law_cell : Cal P w K mg base 1 "_law_cell" ["script", "k"] (sp_law_cell P w K) (He.ga K "_law_cell") fd_law_cell := ⟨ok_law_cell Tx F_law_cell, He.glo_ok X G (c.fact 37 (f := .glo "_law_cell") rfl), F_law_cell.kp, B_law_cell⟩
  have G_law_names : Cal P w K mg base 1 "_law_names" ["cell"] (sp_law_names P w K) (He.ga K "_law_names") fd_law_names := ⟨ok_law_names  F_law_names, He.glo_ok X G (c.fact 38 (f := .glo "_law_names") rfl), F_law_names.kp, B_law_names⟩
  have G_law_line : Cal P w K mg base 1 "_law_line" ["cell", "boxes", "words"] (sp_law_line P w K) (He.ga K "_law_line") fd_law_line := ⟨ok_law_line Tx F_law_line, He.glo_ok X G (c.fact 39 (f := .glo "_law_line") rfl), F_law_line.kp, B_law_line⟩
  have G_law_body : Cal P w K mg base 2 "_law_body" ["script", "start", "many", "boxes", "words"] (sp_law_body P w K) (He.ga K "_law_body") fd_law_body := ⟨ok_law_body Tx G_law_cell G_law_line F_law_body, He.glo_ok X G (c.fact 40 (f := .glo "_law_body") rfl), F_law_body.kp, B_law_body⟩
  have G_law_chain : Cal P w K mg base 2 "_law_chain" ["script", "start", "boxes", "words"] (sp_law_chain P w K) (He.ga K "_law_chain") fd_law_chain := ⟨ok_law_chain Tx G_law_cell G_law_line F_law_chain, He.glo_ok X G (c.fact 41 (f := .glo "_law_chain") rfl), F_law_chain.kp, B_law_chain⟩
  have G_law_program : Cal P w K mg base 3 "_law_program" ["script", "top"] (sp_law_program P w K) (He.ga K "_law_program") fd_law_program := ⟨ok_law_program Tx G_law_cell G_law_names G_law_chain G_law_body F_law_program, He.glo_ok X G (c.fact 42 (f := .glo "_law_program") rfl), F_law_program.kp, B_law_program⟩
  have G_law_meet : Cal P w K mg base 8 "_law_meet" ["program", "word", "place", "wish"] (sp_law_meet P w K) (He.ga K "_law_meet") fd_law_meet := ⟨ok_law_meet Tx G_holds B_holds1 G_spots G_place_of G_boxes_of G_meets F_law_meet, He.glo_ok X G (c.fact 43 (f := .glo "_law_meet") rfl), F_law_meet.kp, B_law_meet⟩
  have G_law_late : Cal P w K mg base 8 "_law_late" ["program", "word", "place"] (sp_law_late P w K) (He.ga K "_law_late") fd_law_late := ⟨ok_law_late Tx G_holds G_spots G_line_of F_law_late, He.glo_ok X G (c.fact 44 (f := .glo "_law_late") rfl), F_law_late.kp, B_law_late⟩
  exact ok_law Tx G_law_program G_wants G_places_of G_words_of G_law_cell G_is_done G_law_meet G_law_late F_law
end DrHead
open PySem PySem.W PySem.Calls PyProof.Rows
theorem PySem.Challenge.cw_doneroom_k37_whole_needs_by_meets_holds : PySem.Challenge.rw_doneroom_k37_whole_needs_by_meets.Holds := by
  w_on; o_law
  refine HandSHeadRun.head_any (r := OpenLaw.row PySem.Challenge.rw_doneroom_k37_whole_needs_by_meets) (q := view (OpenLaw.row PySem.Challenge.rw_doneroom_k37_whole_needs_by_meets).prog [58]) (H := DrHead.hk) (ob := DrHead.ob) (M := 3000) (loose := DrHead.loose) (d := HandSHeadRun.topDef (OpenLaw.row PySem.Challenge.rw_doneroom_k37_whole_needs_by_meets).prog 58) (kwd := []) DrHead.ob_eq
    (by kernel_rfl) (fun s => by kernel_rfl) DrHead.run (by kernel_rfl) (by kernel_rfl) (by kernel_rfl) (by rfl) (by first | assumption | decide +kernel) (by decide +kernel) ⟨rfl, rfl, rfl, rfl, rfl, by decide +kernel⟩ ?hw ?hc
  case hw => w_witness2
  case hc =>
    refine L2.walk_ofE (l := PySem.Challenge.rw_doneroom_k37_whole_needs_by_meets) (n := 63) (k := 9) (x := "script") (CX := L2.CX0) rfl (by decide) (by kernel_rfl) ⟨rfl, by decide, by decide⟩ ?F (fun _ _ _ _ z => z)
    intro w mg fa h Y G hmg0
    obtain ⟨K, KX, c⟩ := Y
    have hmg : mg ("law" : PySem.Str) = some (.ref fa) := by
      have e : (HandSHeadRun.topDef (OpenLaw.row PySem.Challenge.rw_doneroom_k37_whole_needs_by_meets).prog 58).name = ("law" : PySem.Str) := by kernel_rfl
      rw [← e]
      exact hmg0
    obtain ⟨fd, hb, hF⟩ := DrHead.facts (P := (PySem.Challenge.rw_doneroom_k37_whole_needs_by_meets).prog) (w := w) KX G hmg c.t.d c.more
    exact ⟨K, fd, Dr.spLaw K, KX, hb, fun H a ns hl _ hS => ⟨a, ns, rfl, hS, fun _ => rfl⟩, hF⟩

import PyProof.Rows.All
import Wide.All
import OpenK.AllK
import Wide.FinOn
import HandS.ForMost
import HandS.Zip
import KE.SortData
import HandS.TupMul
import HandS.NoneIn
import HandS.TupLe
import HandS.TupAny
import HandS.SortInts
import HandS.IsInst
import HandS.Conv
import HandS.Deep
import HandS.Rev
import HandS.Strs
import HandS.Style
import HandS.Walk
import HandS.Dict
import HandS.DictComp
import HandS.WordsDict
import HandS.TupLen
import KE.DataMinMax
import HandS.Iter
import HandS.SetFor
import HandS.Gcd
import HandS.WideBits
import HandS.SortKw
import HandS.TupSets
import KE.SortKeyHeap
import KE.DataCmp
import PySem.Challenge.RW_farkept_k65_whole_marks
set_option Elab.async false
set_option linter.all false
set_option maxRecDepth 100000
set_option maxHeartbeats 4000000
/-! zip of two sequences, each a list or a tuple -/
namespace PD
open PySem PySem.Spec PyProof.Rows L2
inductive SK where
  | l | t
def SK.nm : SK → String
  | .l => "list_iterator"
  | .t => "tuple_iterator"
def SK.Itr : SK → Heap → Addr → Addr → Nat → Prop
  | .l, h, p, a, i => h.IsListIter p a i
  | .t, h, p, a, i => h.IsTupleIter p a i
def SK.Sq : SK → Heap → Addr → Array Value → Prop
  | .l, h, a, xs => h.IsList a xs
  | .t, h, a, xs => h.IsTuple a xs
theorem SK.Itr.ext {k : SK} {g g' : Heap} {p b a : Addr} {i : Nat} (x : k.Itr g p a i) (m : Heap.ExtBut b g g') (n : p ≠ b) : k.Itr g' p a i := by
  cases k
  · exact Heap.IsListIter.extBut x m n
  · exact Heap.IsTupleIter.extBut x m n
theorem SK.Sq.ext {k : SK} {g g' : Heap} {b a : Addr} {xs : Array Value} (x : k.Sq g a xs) (m : Heap.ExtBut b g g') (n : a ≠ b) : k.Sq g' a xs := by
  cases k
  · exact Heap.IsList.extBut x m n
  · exact Heap.IsTuple.extBut x m n
theorem SK.Itr.to {k : SK} {g g' : Heap} {p a : Addr} {i : Nat} (x : k.Itr g p a i) (m : ∀ o, g.get? p = some o → g'.get? p = some o) : k.Itr g' p a i := by
  cases k
  · exact Heap.IsListIter.at x m
  · exact Heap.IsTupleIter.at x m
theorem SK.Itr.ob {k : SK} {g : Heap} {p a : Addr} {i : Nat} (x : k.Itr g p a i) : ∃ o, g.get? p = some o ∧ o.cls = .type k.nm ∧ o.data = .fields #[.ref a, .int i 0] := by
  cases k <;> exact x
theorem SK.Itr.mk {k : SK} {g : Heap} {p a : Addr} {i : Nat} {o : Obj} (e : g.get? p = some o) (c : o.cls = .type k.nm) (d : o.data = .fields #[.ref a, .int i 0]) : k.Itr g p a i := by
  cases k <;> exact ⟨o, e, c, d⟩
section
variable {pg : Program} {wd : World} {Ar : Around} {Ex : Value → Shared → Prop} {s : Shared}
theorem nx_item {k : SK} {p a : Addr} {i : Nat} {xs : Array Value} {x : Value} {Q : Value → Shared → Prop} (hp : k.Itr s.heap p a i) (ha : k.Sq s.heap a xs) (hx : xs[i]? = some x)
    (hQ : ∀ g, k.Itr g p a (i + 1) → Heap.SameBut p s.heap g → Q x { s with heap := g }) : wpAny (model pg wd) Ar (Builtin.SmallTypes.nextOf (.ref p)) Q Ex s := by
  cases k
  · exact wpAny_nextOf_list_item hp ha hx hQ
  · exact RZ.nextOf_tuple_item hp ha hx hQ
theorem nx_end {k : SK} {p a : Addr} {i : Nat} {xs : Array Value} {Q : Value → Shared → Prop} (hd : Ar.handled = none) (hp : k.Itr s.heap p a i) (ha : k.Sq s.heap a xs) (hx : xs[i]? = none)
    (hE : ∀ g e, Heap.ExtBut p s.heap g → (∃ o, g.get? e = some o ∧ o.cls = .type "StopIteration") → Ex (.ref e) { s with heap := g }) : wpAny (model pg wd) Ar (Builtin.SmallTypes.nextOf (.ref p)) Q Ex s := by
  cases k
  · exact wpAny_nextOf_list_end hd hp ha hx hE
  · exact RZ.nextOf_tuple_end hd hp ha hx hE
theorem zx_item {k k' : SK} {zp tI tO p1 p2 a1 a2 : Addr} {n1 n2 : Nat} {xs ys : Array Value} {x y u v : Value} {Q : Value → Shared → Prop} (Z : ZipApart zp tI tO p1 p2 a1 a2)
    (hZ : IsZip s.heap zp tI tO .none) (hI : IsPair s.heap tI (.ref p1) (.ref p2)) (hO : IsPair s.heap tO u v)
    (i1 : k.Itr s.heap p1 a1 n1) (i2 : k'.Itr s.heap p2 a2 n2) (s1 : k.Sq s.heap a1 xs) (s2 : k'.Sq s.heap a2 ys) (hx : xs[n1]? = some x) (hy : ys[n2]? = some y)
    (hQ : ∀ g, IsZip g zp tI tO (rawInt s.heap.objs.size) → IsPair g tO x y → k.Itr g p1 a1 (n1 + 1) → k'.Itr g p2 a2 (n2 + 1) → IsPair g s.heap.objs.size x y → g.objs.size = s.heap.objs.size + 1 →
      (∀ c o, c ≠ zp → c ≠ tO → c ≠ p1 → c ≠ p2 → s.heap.get? c = some o → g.get? c = some o) → Q (.ref s.heap.objs.size) { s with heap := g }) :
    wpAny (model pg wd) Ar (Builtin.«zip.__next__» ⟨[.ref zp], []⟩) (fun r t => ∃ v, r = .done (.ret v) ∧ Q v t) Ex s := by
  show wpAny _ _ (field (.ref zp) 2 >>= _) _ _ _
  refine wpAny_bind (wpAny_field hZ rfl (x := .bool false) rfl ?_)
  show wpAny _ _ (field (.ref zp) 3 >>= _) _ _ _
  refine wpAny_bind (wpAny_field hZ rfl (x := .ref tI) rfl ?_)
  refine wpAny_bind (wpAny_seqItems hI rfl ?_)
  show wpAny _ _ (Builtin.SmallTypes.ownedTupleIsFree (.ref zp) >>= _) _ _ _
  refine wpAny_bind ?_
  unfold Builtin.SmallTypes.ownedTupleIsFree
  refine wpAny_bind (wpAny_field hZ rfl (x := .none) rfl (wpAny_pure ?_))
  simp only [if_true]
  refine wpAny_bind (wpAny_rule ?_)
  refine wpAny_bind (wpAny_field hZ rfl (x := .ref tO) rfl ?_)
  refine wpAny_bind (wpAny_setField_rec hZ (by simp) fun g1 hZ1 m1 => ?_)
  replace hZ1 : IsZip g1 zp tI tO .ellipsis := hZ1
  refine wpAny_bind ?_
  rw [List.zipIdx_cons, List.zipIdx_cons, List.zipIdx_nil, List.forIn_cons]
  simp only [List.forIn_cons, List.forIn_nil]
  refine wpAny_bind (wpAny_bind (wpAny_onRaise ?_))
  show wpAny _ _ (Builtin.SmallTypes.nextOf (.ref p1) >>= _) _ _ _
  refine wpAny_bind (nx_item (i1.ext m1.extBut Z.i1z) (s1.ext m1.extBut Z.l1z) hx fun g2 i12 m2 => wpAny_pure ?_)
  have hO2 : IsPair g2 tO u v := m2.extBut _ _ Z.TOi1 (m1.extBut _ _ Z.TOz hO)
  refine wpAny_bind (wpAny_seqItems hO2 rfl ?_)
  refine wpAny_bind (wpAny_updateSeq_pair hO2 fun g3 hO3 m3 => ?_)
  replace hO3 : IsPair g3 tO x v := hO3
  refine wpAny_bind (wpAny_letGo (wpAny_pure ?_))
  refine wpAny_bind (wpAny_bind (wpAny_onRaise ?_))
  show wpAny _ _ (Builtin.SmallTypes.nextOf (.ref p2) >>= _) _ _ _
  refine wpAny_bind (nx_item (((i2.ext m1.extBut Z.i2z).ext m2.extBut Z.i12.symm).ext m3.extBut Z.TOi2.symm)
    (((s2.ext m1.extBut Z.l2z).ext m2.extBut Z.l2i1).ext m3.extBut Z.l2TO) hy fun g4 i24 m4 => wpAny_pure ?_)
  have hO4 : IsPair g4 tO x v := m4.extBut _ _ Z.TOi2 hO3
  refine wpAny_bind (wpAny_seqItems hO4 rfl ?_)
  refine wpAny_bind (wpAny_updateSeq_pair hO4 fun g5 hO5 m5 => ?_)
  replace hO5 : IsPair g5 tO x y := hO5
  refine wpAny_bind (wpAny_letGo (wpAny_pure (wpAny_pure ?_)))
  refine wpAny_bind (wpAny_seqItems hO5 rfl ?_)
  refine wpAny_bind (wpAny_newTuple ?_)
  have size5 : g5.objs.size = s.heap.objs.size := by rw [m5.1, m4.1, m3.1, m2.1, m1.1]
  have hZ5 : IsZip g5 zp tI tO .ellipsis := m5.extBut _ _ Z.TOz.symm (m4.extBut _ _ Z.i2z.symm (m3.extBut _ _ Z.TOz.symm (m2.extBut _ _ Z.i1z.symm hZ1)))
  have old5 : ∀ c o, c ≠ zp → c ≠ tO → c ≠ p1 → c ≠ p2 → s.heap.get? c = some o → g5.get? c = some o := fun c o q1 q2 q3 q4 e =>
    m5.extBut _ _ q2 (m4.extBut _ _ q4 (m3.extBut _ _ q2 (m2.extBut _ _ q3 (m1.extBut _ _ q1 e))))
  have i15 : k.Itr g5 p1 a1 (n1 + 1) := ((i12.ext m3.extBut Z.TOi1.symm).ext m4.extBut Z.i12).ext m5.extBut Z.TOi1.symm
  have i25 : k'.Itr g5 p2 a2 (n2 + 1) := i24.ext m5.extBut Z.TOi2.symm
  have ltz : zp < g5.objs.size := Heap.lt_size hZ5
  show wpAny _ _ (Builtin.SmallTypes.ownedTupleHandOut (.ref zp) (.ref g5.objs.size) >>= _) _ _ _
  refine wpAny_bind ?_
  unfold Builtin.SmallTypes.ownedTupleHandOut
  have hZ6 : IsZip (g5.push { cls := .type "tuple", data := .seq #[x, y] }) zp tI tO .ellipsis := Heap.get?_push_of_some _ hZ5
  refine wpAny_bind (wpAny_setField_rec hZ6 (by simp) fun g7 hZ7 m7 => ?_)
  replace hZ7 : IsZip g7 zp tI tO (rawInt g5.objs.size) := hZ7
  refine wpAny_setField_rec hZ7 (by simp) fun g8 hZ8 m8 => ?_
  replace hZ8 : IsZip g8 zp tI tO (rawInt g5.objs.size) := hZ8
  have up : ∀ c o, c ≠ zp → g5.get? c = some o → g8.get? c = some o := fun c o q e => m8.extBut _ _ q (m7.extBut _ _ q (Heap.get?_push_of_some _ e))
  have hT8 : IsPair g8 g5.objs.size x y := m8.extBut _ _ (Nat.ne_of_gt ltz) (m7.extBut _ _ (Nat.ne_of_gt ltz) (Heap.get?_push_size _ rfl))
  have size8 : g8.objs.size = g5.objs.size + 1 := by rw [m8.1, m7.1, Heap.size_push]
  rw [size5] at hZ8 hT8 size8
  refine wpAny_pure ⟨_, rfl, ?_⟩
  show Q (.ref g5.objs.size) _
  rw [size5]
  exact hQ g8 hZ8 (up _ _ Z.TOz hO5) (i15.to fun o e => up _ o Z.i1z e) (i25.to fun o e => up _ o Z.i2z e) hT8 size8 fun c o q1 q2 q3 q4 e => up c o q1 (old5 c o q1 q2 q3 q4 e)
theorem zx_end {k k' : SK} {zp tI tO p1 p2 a1 a2 : Addr} {n1 n2 : Nat} {xs ys : Array Value} {u v : Value} {Q : Fin → Shared → Prop} (hd : Ar.handled = none) (Z : ZipApart zp tI tO p1 p2 a1 a2)
    (hZ : IsZip s.heap zp tI tO .none) (hI : IsPair s.heap tI (.ref p1) (.ref p2)) (hO : IsPair s.heap tO u v)
    (i1 : k.Itr s.heap p1 a1 n1) (i2 : k'.Itr s.heap p2 a2 n2) (s1 : k.Sq s.heap a1 xs) (s2 : k'.Sq s.heap a2 ys) (hn : xs[n1]? = none ∨ ys[n2]? = none)
    (hE : ∀ g e, (∀ c o, c ≠ zp → c ≠ tO → c ≠ p1 → c ≠ p2 → s.heap.get? c = some o → g.get? c = some o) → (∃ o, g.get? e = some o ∧ o.cls = .type "StopIteration") → Ex (.ref e) { s with heap := g }) :
    wpAny (model pg wd) Ar (Builtin.«zip.__next__» ⟨[.ref zp], []⟩) Q Ex s := by
  show wpAny _ _ (field (.ref zp) 2 >>= _) _ _ _
  refine wpAny_bind (wpAny_field hZ rfl (x := .bool false) rfl ?_)
  show wpAny _ _ (field (.ref zp) 3 >>= _) _ _ _
  refine wpAny_bind (wpAny_field hZ rfl (x := .ref tI) rfl ?_)
  refine wpAny_bind (wpAny_seqItems hI rfl ?_)
  show wpAny _ _ (Builtin.SmallTypes.ownedTupleIsFree (.ref zp) >>= _) _ _ _
  refine wpAny_bind ?_
  unfold Builtin.SmallTypes.ownedTupleIsFree
  refine wpAny_bind (wpAny_field hZ rfl (x := .none) rfl (wpAny_pure ?_))
  simp only [if_true]
  refine wpAny_bind (wpAny_rule ?_)
  refine wpAny_bind (wpAny_field hZ rfl (x := .ref tO) rfl ?_)
  refine wpAny_bind (wpAny_setField_rec hZ (by simp) fun g1 hZ1 m1 => ?_)
  replace hZ1 : IsZip g1 zp tI tO .ellipsis := hZ1
  refine wpAny_bind ?_
  rw [List.zipIdx_cons, List.zipIdx_cons, List.zipIdx_nil, List.forIn_cons]
  simp only [List.forIn_cons, List.forIn_nil]
  refine wpAny_bind (wpAny_bind (wpAny_onRaise ?_))
  show wpAny _ _ (Builtin.SmallTypes.nextOf (.ref p1) >>= _) _ _ _
  cases hx : xs[n1]? with
  | none =>
    refine wpAny_bind (nx_end hd (i1.ext m1.extBut Z.i1z) (s1.ext m1.extBut Z.l1z) hx fun g2 e m2 q => ?_)
    obtain ⟨o, ho, hc⟩ := q
    have hZ2 : IsZip g2 zp tI tO .ellipsis := m2 _ _ Z.i1z.symm hZ1
    have ne : e ≠ zp := fun w => by
      subst w
      rw [hZ2] at ho
      cases ho
      simp at hc
    exact wpAny_setField_rec hZ2 (by simp) fun g3 _ m3 => hE g3 e (fun c o q1 _ q3 _ w => m3.extBut _ _ q1 (m2 _ _ q3 (m1.extBut _ _ q1 w))) ⟨o, m3.extBut _ _ ne ho, hc⟩
  | some x =>
    have hy : ys[n2]? = none := by
      rcases hn with h | h
      · rw [hx] at h
        cases h
      · exact h
    refine wpAny_bind (nx_item (i1.ext m1.extBut Z.i1z) (s1.ext m1.extBut Z.l1z) hx fun g2 i12 m2 => wpAny_pure ?_)
    have hO2 : IsPair g2 tO u v := m2.extBut _ _ Z.TOi1 (m1.extBut _ _ Z.TOz hO)
    refine wpAny_bind (wpAny_seqItems hO2 rfl ?_)
    refine wpAny_bind (wpAny_updateSeq_pair hO2 fun g3 hO3 m3 => ?_)
    refine wpAny_bind (wpAny_letGo (wpAny_pure ?_))
    refine wpAny_bind (wpAny_bind (wpAny_onRaise ?_))
    show wpAny _ _ (Builtin.SmallTypes.nextOf (.ref p2) >>= _) _ _ _
    refine wpAny_bind (nx_end hd (((i2.ext m1.extBut Z.i2z).ext m2.extBut Z.i12.symm).ext m3.extBut Z.TOi2.symm)
      (((s2.ext m1.extBut Z.l2z).ext m2.extBut Z.l2i1).ext m3.extBut Z.l2TO) hy fun g4 e m4 q => ?_)
    obtain ⟨o, ho, hc⟩ := q
    have hZ4 : IsZip g4 zp tI tO .ellipsis := m4 _ _ Z.i2z.symm (m3.extBut _ _ Z.TOz.symm (m2.extBut _ _ Z.i1z.symm hZ1))
    have ne : e ≠ zp := fun w => by
      subst w
      rw [hZ4] at ho
      cases ho
      simp at hc
    exact wpAny_setField_rec hZ4 (by simp) fun g5 _ m5 => hE g5 e (fun c o q1 q2 q3 q4 w => m5.extBut _ _ q1 (m4 _ _ q4 (m3.extBut _ _ q2 (m2.extBut _ _ q3 (m1.extBut _ _ q1 w))))) ⟨o, m5.extBut _ _ ne ho, hc⟩
theorem pnx_item {k k' : SK} {zp tI tO p1 p2 a1 a2 : Addr} {n1 n2 : Nat} {xs ys : Array Value} {x y u v : Value} {Q : Option Value → Shared → Prop} (Z : ZipApart zp tI tO p1 p2 a1 a2)
    (hZ : IsZip s.heap zp tI tO .none) (hI : IsPair s.heap tI (.ref p1) (.ref p2)) (hO : IsPair s.heap tO u v)
    (i1 : k.Itr s.heap p1 a1 n1) (i2 : k'.Itr s.heap p2 a2 n2) (s1 : k.Sq s.heap a1 xs) (s2 : k'.Sq s.heap a2 ys) (hx : xs[n1]? = some x) (hy : ys[n2]? = some y)
    (hQ : ∀ g, IsZip g zp tI tO (rawInt s.heap.objs.size) → IsPair g tO x y → k.Itr g p1 a1 (n1 + 1) → k'.Itr g p2 a2 (n2 + 1) → IsPair g s.heap.objs.size x y → g.objs.size = s.heap.objs.size + 1 →
      (∀ c o, c ≠ zp → c ≠ tO → c ≠ p1 → c ≠ p2 → s.heap.get? c = some o → g.get? c = some o) → Q (some (.ref s.heap.objs.size)) { s with heap := g }) :
    wpAny (model pg wd) Ar (pyNext (.ref zp)) Q Ex s := by
  have tz : s.TypeIs (.ref zp) "zip" := ⟨_, hZ, rfl⟩
  unfold pyNext
  exact wpAny_bind (wpAny_attempt (wpAny_callSpecial?_slot (name := Str.ofString "__next__") tz F.slot_zip_next
    (wpAny_call_entry F.slot_zip_next tz F.entry_zip_next (zx_item Z hZ hI hO i1 i2 s1 s2 hx hy fun g b1 b2 b3 b4 b5 b6 b7 => wpAny_pure (hQ g b1 b2 b3 b4 b5 b6 b7)) (F.args_zip_next_1 _))))
theorem pnx_end {k k' : SK} {zp tI tO p1 p2 a1 a2 : Addr} {n1 n2 : Nat} {xs ys : Array Value} {u v : Value} {Q : Option Value → Shared → Prop} (hd : Ar.handled = none) (Z : ZipApart zp tI tO p1 p2 a1 a2)
    (hZ : IsZip s.heap zp tI tO .none) (hI : IsPair s.heap tI (.ref p1) (.ref p2)) (hO : IsPair s.heap tO u v)
    (i1 : k.Itr s.heap p1 a1 n1) (i2 : k'.Itr s.heap p2 a2 n2) (s1 : k.Sq s.heap a1 xs) (s2 : k'.Sq s.heap a2 ys) (hn : xs[n1]? = none ∨ ys[n2]? = none)
    (hQ : ∀ g, (∀ c o, c ≠ zp → c ≠ tO → c ≠ p1 → c ≠ p2 → s.heap.get? c = some o → g.get? c = some o) → Q none { s with heap := g }) : wpAny (model pg wd) Ar (pyNext (.ref zp)) Q Ex s := by
  have tz : s.TypeIs (.ref zp) "zip" := ⟨_, hZ, rfl⟩
  unfold pyNext
  refine wpAny_bind (wpAny_attempt (wpAny_callSpecial?_slot (name := Str.ofString "__next__") tz F.slot_zip_next
    (wpAny_call_entry F.slot_zip_next tz F.entry_zip_next (zx_end hd Z hZ hI hO i1 i2 s1 s2 hn fun g e hk q => ?_) (F.args_zip_next_1 _))))
  obtain ⟨o, ho, hc⟩ := q
  exact wpAny_bind (wpAny_isInstance (T := "StopIteration") (b := true) ⟨o, ho, hc⟩ isSubtype_stop (wpAny_pure (hQ _ hk)))
end
def SK.io (k : SK) (a : Addr) : Obj := { cls := .type k.nm, data := .fields #[.ref a, .int 0 0] }
def zx1 (k : SK) (h : Heap) (a : Addr) : Heap := h.push (k.io a)
def zx2 (k k' : SK) (h : Heap) (a b : Addr) : Heap := (zx1 k h a).push (k'.io b)
def zx3 (k k' : SK) (h : Heap) (a b : Addr) : Heap := (zx2 k k' h a b).push { cls := .type "tuple", data := .seq #[.ref h.objs.size, .ref (zx1 k h a).objs.size] }
def zx4 (k k' : SK) (h : Heap) (a b : Addr) : Heap := (zx3 k k' h a b).push { cls := .type "tuple", data := .seq #[.none, .none] }
def zx5 (k k' : SK) (h : Heap) (a b : Addr) : Heap := (zx4 k k' h a b).push { cls := .type "zip", data := .fields #[.none, .bool false, .bool false, .ref (zx2 k k' h a b).objs.size, .ref (zx3 k k' h a b).objs.size] }
theorem meets_zx (k k' : SK) (a b : Addr) (xs ys : Array Value) : Meets (Builtin.«zip.__new__» ⟨[.type "zip", .ref a, .ref b], []⟩) (fun _ R s => k.Sq s.heap a xs ∧ k'.Sq s.heap b ys ∧
      R (.ok (.ret (.ref (zx4 k k' s.heap a b).objs.size))) { s with heap := zx5 k k' s.heap a b }) :=
  .of_wp fun prog w A R s h => by
    obtain ⟨hp, g, d, tk, os⟩ := s
    obtain ⟨ha, hb, h⟩ := h
    have hsub := sub_zip
    cases k <;> cases k'
    · have A1 : Heap.IsList (Shared.heap ⟨hp, g, d, tk, os⟩) a xs := ha
      have A2 : Heap.IsList (Shared.heap ⟨hp.push { cls := .type "list_iterator", data := .fields #[.ref a, .int 0 0] }, g, d, tk, os⟩) b ys := Heap.IsList.push hb _
      wp_walk using wpAny_pyIter_list A1, wpAny_pyIter_list A2
      exact ⟨_, rfl, h⟩
    · have A1 : Heap.IsList (Shared.heap ⟨hp, g, d, tk, os⟩) a xs := ha
      have A2 : Heap.IsTuple (Shared.heap ⟨hp.push { cls := .type "list_iterator", data := .fields #[.ref a, .int 0 0] }, g, d, tk, os⟩) b ys := Heap.IsTuple.push hb _
      wp_walk using wpAny_pyIter_list A1, wpAny_pyIter_tuple A2
      exact ⟨_, rfl, h⟩
    · have A1 : Heap.IsTuple (Shared.heap ⟨hp, g, d, tk, os⟩) a xs := ha
      have A2 : Heap.IsList (Shared.heap ⟨hp.push { cls := .type "tuple_iterator", data := .fields #[.ref a, .int 0 0] }, g, d, tk, os⟩) b ys := Heap.IsList.push hb _
      wp_walk using wpAny_pyIter_tuple A1, wpAny_pyIter_list A2
      exact ⟨_, rfl, h⟩
    · have A1 : Heap.IsTuple (Shared.heap ⟨hp, g, d, tk, os⟩) a xs := ha
      have A2 : Heap.IsTuple (Shared.heap ⟨hp.push { cls := .type "tuple_iterator", data := .fields #[.ref a, .int 0 0] }, g, d, tk, os⟩) b ys := Heap.IsTuple.push hb _
      wp_walk using wpAny_pyIter_tuple A1, wpAny_pyIter_tuple A2
      exact ⟨_, rfl, h⟩

section
variable {pg : Program} {wd : World} {Ar : Around} {Ex : Value → Shared → Prop} {s : Shared}
theorem call_zx {k k' : SK} {a b : Addr} {xs ys : Array Value} {Q : Value → Shared → Prop} (ha : k.Sq s.heap a xs) (hb : k'.Sq s.heap b ys)
    (h : ∀ g, IsZip g (s.heap.objs.size + 4) (s.heap.objs.size + 2) (s.heap.objs.size + 3) .none → IsPair g (s.heap.objs.size + 2) (.ref s.heap.objs.size) (.ref (s.heap.objs.size + 1)) →
      IsPair g (s.heap.objs.size + 3) .none .none → k.Itr g s.heap.objs.size a 0 → k'.Itr g (s.heap.objs.size + 1) b 0 → (∀ c o, s.heap.get? c = some o → g.get? c = some o) → Q (.ref (s.heap.objs.size + 4)) { s with heap := g }) :
    wpAny (model pg wd) Ar (PySem.call (.type "zip") [.ref a, .ref b]) Q Ex s := by
  refine callType_new F.called_zip (by decide) (F.typeCall_zip_2 _ _) (F.newCall_zip_2 _ _) (fun ob => F.args_object_init_3 ob _ _) F.entry_zip_new (meets_zx k k' a b xs ys) ⟨ha, hb, ?_⟩
  have n1 : (zx1 k s.heap a).objs.size = s.heap.objs.size + 1 := Heap.size_push ..
  have n2 : (zx2 k k' s.heap a b).objs.size = s.heap.objs.size + 2 := by
    unfold zx2
    rw [Heap.size_push, n1]
  have n3 : (zx3 k k' s.heap a b).objs.size = s.heap.objs.size + 3 := by
    unfold zx3
    rw [Heap.size_push, n2]
  have n4 : (zx4 k k' s.heap a b).objs.size = s.heap.objs.size + 4 := by
    unfold zx4
    rw [Heap.size_push, n3]
  have up : ∀ (g : Heap) (o : Obj) (c : Addr) (q : Obj), g.get? c = some q → (g.push o).get? c = some q := fun g o c q e => Heap.get?_push_of_some _ e
  have e5 : (zx5 k k' s.heap a b).get? (zx4 k k' s.heap a b).objs.size = some _ := Heap.get?_push_size _ rfl
  have e4 : (zx5 k k' s.heap a b).get? (zx3 k k' s.heap a b).objs.size = some _ := up _ _ _ _ (Heap.get?_push_size _ rfl)
  have e3 : (zx5 k k' s.heap a b).get? (zx2 k k' s.heap a b).objs.size = some _ := up _ _ _ _ (up _ _ _ _ (Heap.get?_push_size _ rfl))
  have e2 : (zx5 k k' s.heap a b).get? (zx1 k s.heap a).objs.size = some (k'.io b) := up _ _ _ _ (up _ _ _ _ (up _ _ _ _ (Heap.get?_push_size _ rfl)))
  have e1 : (zx5 k k' s.heap a b).get? s.heap.objs.size = some (k.io a) := up _ _ _ _ (up _ _ _ _ (up _ _ _ _ (up _ _ _ _ (Heap.get?_push_size _ rfl))))
  show _ ∧ _
  rw [n2, n3, n4] at e5
  rw [n1, n2] at e3
  rw [n3] at e4
  rw [n1] at e2
  rw [n4]
  exact ⟨⟨_, e5, rfl⟩, h _ e5 e3 e4 (SK.Itr.mk e1 rfl rfl) (SK.Itr.mk e2 rfl rfl) fun c o q => up _ _ _ _ (up _ _ _ _ (up _ _ _ _ (up _ _ _ _ (up _ _ _ _ q))))⟩
end
def SqK : SK → PySem.W.Frag → Hp → Addr → List V → Prop
  | .l => SqL
  | .t => SqT
theorem inv_sq {X : Cx} {pins : List (Addr × Obj)} {σ : L2.St} {H : Hp} {s : Shared} (I : Inv X pins σ H s) {k : SK} {a : Addr} {xs : List V} (h : SqK k X.K H a xs) : ∃ its : List Value, Vals xs its ∧ k.Sq s.heap a its.toArray ∧ a < s.heap.objs.size := by
  cases k
  · obtain ⟨its, r, p, _⟩ := I.list h
    exact ⟨its, r, p.isList, p.lt⟩
  · obtain ⟨its, r, p, _⟩ := I.tuple h
    obtain ⟨o, ho, _⟩ := id p
    exact ⟨its, r, (show s.heap.IsTuple a its.toArray from p), Heap.lt_size ho⟩
def ItzX (K : PySem.W.Frag) (k k' : SK) (a b : Addr) : It :=
  ⟨fun i H => ∃ (xs ys : List V) (x y : V), SqK k K H a xs ∧ SqK k' K H b ys ∧ xs[i]? = some x ∧ ys[i]? = some y,
    fun i H v H' => ∃ T x y, v = .ref T ∧ H T = none ∧ H' = upd H T (.tup [x, y]) ∧ (∀ xs, SqK k K H a xs → xs[i]? = some x) ∧ ∀ ys, SqK k' K H b ys → ys[i]? = some y,
    fun i H => ∃ xs ys : List V, SqK k K H a xs ∧ SqK k' K H b ys ∧ (xs.length ≤ i ∨ ys.length ≤ i)⟩
theorem sqk_inj {X : Cx} {pins : List (Addr × Obj)} {σ : L2.St} {H : Hp} {s : Shared} (I : Inv X pins σ H s) {k : SK} {a : Addr} {xs ys : List V} (h : SqK k X.K H a xs) (h' : SqK k X.K H a ys) : xs = ys := by
  cases k
  · exact I.list_inj h h'
  · exact I.tuple_inj h h'
theorem turn_zx {P : Program} {w : World} {K : PySem.W.Frag} {elts : List Expr} {kk : Nat} {tpos : Pos} {k k' : SK} {a b zp tI tO p1 p2 : Addr} (Z : ZipApart zp tI tO p1 p2 a b) :
    Turn P w K (.Tuple elts kk tpos) (ItzX K k k' a b) [zp, tI, tO, p1, p2] zp (fun i h => IsZip h zp tI tO .none ∧ IsPair h tI (.ref p1) (.ref p2) ∧ (∃ x y, IsPair h tO x y) ∧ k.Itr h p1 a i ∧ k'.Itr h p2 b i) where
  mem := List.mem_cons_self
  obj := fun i h st c hc => by
    obtain ⟨hZ, hI, ⟨x, y, hO⟩, i1, i2⟩ := st
    obtain ⟨o1, e1, _, d1⟩ := i1.ob
    obtain ⟨o2, e2, _, d2⟩ := i2.ob
    simp only [List.mem_cons, List.not_mem_nil, or_false] at hc
    rcases hc with rfl | rfl | rfl | rfl | rfl
    · exact ⟨_, hZ, fun v q => nomatch q⟩
    · exact ⟨_, hI, fun v q => nomatch q⟩
    · exact ⟨_, hO, fun v q => nomatch q⟩
    · exact ⟨o1, e1, fun v q => by
        rw [d1] at q
        cases q⟩
    · exact ⟨o2, e2, fun v q => by
        rw [d2] at q
        cases q⟩
  keep := fun i h h' st kp => by
    obtain ⟨hZ, hI, ⟨x, y, hO⟩, i1, i2⟩ := st
    exact ⟨kp zp (by simp) _ hZ, kp tI (by simp) _ hI, ⟨x, y, kp tO (by simp) _ hO⟩, i1.to fun o q => kp p1 (by simp) o q, i2.to fun o q => kp p2 (by simp) o q⟩
  item := by
    intro X hP hw hK hc i pins s σ H E I hf st hg
    subst hP hw hK
    obtain ⟨hZ, hI, ⟨u0, v0, hO⟩, i1, i2⟩ := st
    obtain ⟨xs, ys, x, y, qx, qy, hx, hy⟩ := hg
    obtain ⟨us, rv, sx, _⟩ := inv_sq I qx
    obtain ⟨vs, rw', sy, _⟩ := inv_sq I qy
    obtain ⟨u, hu, ru⟩ := rv.get hx
    obtain ⟨v, hv, rv'⟩ := rw'.get hy
    have ltz : zp < s.heap.objs.size := Heap.lt_size hZ
    refine pnx_item Z hZ hI hO i1 i2 sx sy (x := u) (y := v) (by simpa using hu) (by simpa using hv) fun g hZ' hO' i1' i2' hT sz old => ?_
    refine ⟨_, rfl, wpAny_letOwnedTupleGo_zip (s := { s with heap := g }) hZ' fun g2 hZ2 m2 => ?_⟩
    have hT2 : g2.get? s.heap.objs.size = some { cls := .type "tuple", data := .seq #[u, v] } := (m2.2 _ (Nat.ne_of_gt ltz)).trans hT
    have new : ObjOk X.prog X.w (upd H s.heap.objs.size (.tup [x, y])) g2 s.heap.objs.size (.tup [x, y]) :=
      ⟨by show 2 ≤ sizeLine; decide, [u, v], .cons ru (.cons rv' .nil), ⟨_, hT2, rfl, _, rfl⟩⟩
    have I1 : Inv X pins σ (upd H s.heap.objs.size (.tup [x, y])) { s with heap := g2 } :=
      I.turnedNew (t' := s.toks) (ch := [zp, tI, tO, p1, p2]) (fun c o hb q => by
        simp only [List.mem_cons, List.not_mem_nil, or_false, not_or] at hb
        exact (m2.2 c hb.1).trans (old c o hb.1 hb.2.2.1 hb.2.2.2.1 hb.2.2.2.2 q)) hf (Nat.le_refl _) new
    refine ⟨.ref s.heap.objs.size, _, I1, rfl, ⟨_, x, y, rfl, I.hok.fresh (Nat.le_refl _), rfl, fun l hl => by rw [sqk_inj I hl qx]; exact hx, fun l hl => by rw [sqk_inj I hl qy]; exact hy⟩, ⟨hZ2, ?_, ⟨u, v, ?_⟩, ?_, ?_⟩, fun c hcm => ?_⟩
    · exact (m2.2 _ Z.TIz).trans (old _ _ Z.TIz Z.TITO Z.TIi1 Z.TIi2 hI)
    · exact (m2.2 _ Z.TOz).trans hO'
    · exact i1'.to fun o q => (m2.2 _ Z.i1z).trans q
    · exact i2'.to fun o q => (m2.2 _ Z.i2z).trans q
    · have lt : c < s.heap.objs.size := by
        obtain ⟨o1, e1, _⟩ := i1.ob
        obtain ⟨o2, e2, _⟩ := i2.ob
        simp only [List.mem_cons, List.not_mem_nil, or_false] at hcm
        rcases hcm with rfl | rfl | rfl | rfl | rfl
        · exact ltz
        · exact Heap.lt_size hI
        · exact Heap.lt_size hO
        · exact Heap.lt_size e1
        · exact Heap.lt_size e2
      rw [upd_ne (Nat.ne_of_lt lt)]
      exact (hf c hcm).1
  done := by
    intro X hP hw hK hc i pins s σ H E I hf st hg
    subst hP hw hK
    obtain ⟨hZ, hI, ⟨u0, v0, hO⟩, i1, i2⟩ := st
    obtain ⟨xs, ys, qx, qy, hn⟩ := hg
    obtain ⟨us, rv, sx, _⟩ := inv_sq I qx
    obtain ⟨vs, rw', sy, _⟩ := inv_sq I qy
    have l1 := rv.length
    have l2 := rw'.length
    have he : us.toArray[i]? = none ∨ vs.toArray[i]? = none := by
      rcases hn with q | q
      · exact .inl (by simp; omega)
      · exact .inr (by simp; omega)
    exact pnx_end (I.ok.hd hc) Z hZ hI hO i1 i2 sx sy he fun g old => ⟨rfl, I.turnedL (t' := s.toks) (ch := [zp, tI, tO, p1, p2]) (fun c o hb q => by
      simp only [List.mem_cons, List.not_mem_nil, or_false, not_or] at hb
      exact old c o hb.1 hb.2.2.1 hb.2.2.2.1 hb.2.2.2.2 q) hf⟩
  self := fun A i s Q E st h => wpAny_pyIter_zip st.1 h
def iZipX (K : PySem.W.Frag) (ta : TA) : TI := fun σ H R => ta σ H fun vs H1 => ∃ k k' a b xs ys, vs = [.ref a, .ref b] ∧ SqK k K H1 a xs ∧ SqK k' K H1 b ys ∧ R (ItzX K k k' a b) H1
theorem pi_zx {X : Cx} {e e2 : Expr} {ta : TA} {p pos tpos : Pos} {elts : List Expr} {kk : Nat} (hg : Gl X "zip") (hm : X.mg "zip" = none) (ha : PA X [e, e2] ta)
    (he : starEach [e, e2] X.env = (false, eval e X.env) :: starEach [e2] X.env := by rfl) (hl : (backTo pos (starEach [e2] X.env)).any (·.1) = false := by rfl) :
    PI X (.Tuple elts kk tpos) (.Call (.Name "zip" p) [e, e2] [] pos) (iZipX X.K ta) := by
  refine ⟨fun pins s σ H R I h => ?_⟩
  refine Call_ (ld_blt I hg hm PyProof.Rows.boot_zip (PyProof.Rows.callWith_type1 (thn (ha.run pos pins s σ H _ I h) fun us t ⟨vs, H1, I1, r1, q1⟩ => ?_) he hl))
  obtain ⟨k, k', a, b, xs, ys, rfl, qx, qy, q⟩ := q1
  cases r1 with
  | cons r rr =>
    cases rr with
    | cons r' rr =>
      cases rr
      cases r
      cases r'
      obtain ⟨us, rv, sx, la⟩ := inv_sq I1 qx
      obtain ⟨vs, rw', sy, lb⟩ := inv_sq I1 qy
      refine call_zx sx sy fun g hZ hI hO i1 i2 old => wpAny_pyIter_zip hZ ?_
      have I2 : Inv X pins σ H1 { t with heap := g } := I1.kept (t' := t.toks) old
      refine ⟨t.heap.objs.size + 4, [t.heap.objs.size + 4, t.heap.objs.size + 2, t.heap.objs.size + 3, t.heap.objs.size, t.heap.objs.size + 1], _, _, H1, rfl, I2, turn_zx (PySem.W.ktu_apart t.heap.objs.size a b la lb), ⟨hZ, hI, ⟨_, _, hO⟩, i1, i2⟩, fun c hcm => ?_, q⟩
      have le : t.heap.objs.size ≤ c := by
        simp only [List.mem_cons, List.not_mem_nil, or_false] at hcm
        rcases hcm with rfl | rfl | rfl | rfl | rfl <;> first | exact Nat.le_refl _ | exact Nat.le_add_right _ _
      exact I1.fpOk le (I1.hok.fresh le)
end PD

set_option Elab.async false
set_option linter.all false
set_option maxRecDepth 100000
/-! sorted of tuples, an empty one among them -/
namespace PD
open PySem PySem.Spec PyProof.Rows L2
open PySem.W (EachIs AllAlike Sortable dataLe SortsAt dataKind dataKind_inv dataKind_some alike alikeAll dataLt)
section
variable {pg : Program} {wd : World} {Ar : Around} {Ex : Value → Shared → Prop} {s : Shared}
theorem tup_call_lt {Q : Value → Shared → Prop} {l b : Addr} {its its2 : Array Value} {e r : Nat → Bool} (hl : s.heap.IsTuple l its) (hb : s.heap.IsTuple b its2)
    (he : ∀ j (h1 : j < its.size) (h2 : j < its2.size), SeqAt.EqAt Ar.in1 s its[j] its2[j] (e j)) (hr : ∀ j (h1 : j < its.size) (h2 : j < its2.size), e j = false → SeqAt.RcLt Ar.in1 s its[j] its2[j] (r j))
    (h : Q (.bool (SeqAt.firstLt e r (decide (its.size < its2.size)) (List.range (min its.size its2.size)))) s) : wpAny (model pg wd) Ar (PySem.call (.builtin "tuple.__lt__") [.ref l, .ref b]) Q Ex s := by
  obtain ⟨⟨c, dd, dat, sl⟩, ho, hc, n, hd⟩ := id hl
  obtain ⟨⟨c2, dd2, dat2, sl2⟩, ho2, hc2, n2, hd2⟩ := id hb
  simp only at hc hd hc2 hd2
  subst hc hd hc2 hd2
  exact call_meets F.slot_tuple_lt ⟨_, ho, rfl⟩ F.entry_tuple_lt (F.args_tuple_lt_2 _ _) (SeqAt.tuple_ltAt l b its its2 n n2 dd dd2 sl sl2 e r) ⟨ho, ho2, he, hr, h⟩
theorem tup_oneLt {xs ys : List PyData} {a b : Value} {as bs : List Addr} {Q : Bool → Shared → Prop} (f : Bool) (ra : Reads s.heap a (.tuple xs) as) (rb : Reads s.heap b (.tuple ys) bs) (h : alike (.tuple xs) (.tuple ys) = true)
    (hu : Ar.units + min (PyData.tuple xs).depth (PyData.tuple ys).depth < cLine) (hq : Q (dataLt (.tuple xs) (.tuple ys)) s) : wpAny (model pg wd) Ar (oneLt' f a b) Q Ex s := by
  cases f with
  | false => exact PySem.W.oneLt_alike (fun z => nomatch z) ra rb h (fun z => nomatch z) hu hq
  | true =>
    have hal : alikeAll xs ys = true := by simpa [alike] using h
    cases ra with
    | @tuple l o vs n _ as1 h1 h2 h3 h4 =>
      cases rb with
      | @tuple l' o' vs' n' _ bs1 k1 k2 k3 k4 =>
        have n1 : vs.size = xs.length := by simpa using SeqAt.ReadsAll.length _ _ _ h4
        have n2 : vs'.size = ys.length := by simpa using SeqAt.ReadsAll.length _ _ _ k4
        rw [PySem.W.dataLt_tuple, ← PySem.W.firstLt_toks xs ys hal, ← n1, ← n2] at hq
        rw [oneLt'_eq]
        simp only [if_true]
        refine wpAny_bind (wpAny_cRoomFor (SeqAt.room_here hu) ?_)
        refine wpAny_bind (wpAny_callSpecialIfBound?_slot (T := "tuple") ⟨_, h1, h2⟩ F.slot_tuple_lt (tup_call_lt (e := SeqAt.pairEq xs ys) (r := fun j => dataLt (xs.getD j .none) (ys.getD j .none)) ⟨_, h1, h2, _, h3⟩ ⟨_, k1, k2, _, k3⟩ (fun j j1 j2 => ?_) (fun j j1 j2 hj => ?_) ?_))
        · have := PySem.W.eqAt_alikeAll xs ys Ar.in1 s vs.toList vs'.toList _ _ h4 k4 hal (SeqAt.room_in hu) j (by simpa using j1) (by simpa using j2)
          simpa using this
        · have := PySem.W.rcLt_alikeAll xs ys Ar.in1 s vs.toList vs'.toList _ _ h4 k4 hal (SeqAt.room_in hu) j (by simpa using j1) (by simpa using j2) hj
          simpa using this
        · exact wpAny_truthy_bool hq
end

section
variable {M : Model} {Ar : Around} {Ex : Value → Shared → Prop} {s : Shared}
theorem mapM_each {α β : Type} {f : α → Sem β} (r : α → β) : ∀ (l : List α) {Q : List β → Shared → Prop}, (∀ v ∈ l, ∀ (Q' : β → Shared → Prop), Q' (r v) s → wpAny M Ar (f v) Q' Ex s) → Q (l.map r) s → wpAny M Ar (l.mapM f) Q Ex s
  | [], _, _, h => by
    rw [List.mapM_nil]
    exact wpAny_pure h
  | x :: l, Q, hf, h => by
    rw [List.mapM_cons]
    exact wpAny_bind (hf x List.mem_cons_self _ (wpAny_bind (mapM_each r l (Q := fun bs t => wpAny M Ar (pure (r x :: bs)) Q Ex t) (fun v hv => hf v (List.mem_cons_of_mem _ hv)) (wpAny_pure h))))
def first0 (h : Heap) : Value → Option Value
  | .ref a => match h.get? a with
    | some o => match o.data with
      | .seq xs _ => xs[0]?
      | _ => none
    | none => none
  | _ => none
/-- a tuple of the heap -/
def IsTupV (h : Heap) (v : Value) : Prop := ∃ a o xs n, v = .ref a ∧ h.get? a = some o ∧ o.cls = .type "tuple" ∧ o.data = .seq xs n
theorem tup_looks {v : Value} (hv : IsTupV s.heap v) : PySem.W.Looks M s.heap (typeOf v) (Value.type "tuple") := by
  obtain ⟨a, o, xs, n, rfl, ho, hc, hd⟩ := hv
  have L : PySem.W.Looks M s.heap (typeOf (Value.ref a)) o.cls := (PySem.W.Looks.ld ho).andThen .now
  rw [hc] at L
  exact L
theorem first_tup {v : Value} {Q : Option Value → Shared → Prop} (hv : IsTupV s.heap v) (h : Q (first0 s.heap v) s) : wpAny M Ar (firstOfTuple' v) Q Ex s := by
  have L := tup_looks (M := M) hv
  obtain ⟨a, o, xs, n, rfl, ho, hc, hd⟩ := hv
  rw [PySem.W.kas_first_eq]
  refine wpAny_bind (L.here ?_)
  rw [if_neg (by first | decide | simp)]
  refine wpAny_bind (PyProof.Rows.listItems_at ho hd (wpAny_pure ?_))
  have e : first0 s.heap (.ref a) = xs[0]? := by
    unfold first0
    simp only [ho, hd]
  rw [e] at h
  exact h
theorem each_right {α β : Type} {R : α → β → Prop} : ∀ {as : List α} {bs : List β}, EachIs R as bs → ∀ b, b ∈ bs → ∃ a, a ∈ as ∧ R a b
  | _, _, .nil, _, hb => absurd hb (by simp)
  | _, _, .cons (a := a) h t, b, hb => by
    rcases List.mem_cons.mp hb with rfl | hb
    · exact ⟨a, List.mem_cons_self, h⟩
    · obtain ⟨a', h1, h2⟩ := each_right t b hb
      exact ⟨a', List.mem_cons_of_mem _ h1, h2⟩
/-- the kind of keys that tuples are, one of them empty -/
def kindT (h : Heap) (vs : List Value) : SortKind := if ((vs.map (first0 h)).toArray[0]?.bind id).isSome then general' else oneType'
theorem kind_tups {vs : List Value} {Q : SortKind → Shared → Prop} (h2 : 2 ≤ vs.length) (hv : ∀ v ∈ vs, IsTupV s.heap v) (h0 : ((vs.map (first0 s.heap)).toArray.all fun x => x.isSome) = false) (h : Q (kindT s.heap vs) s) : wpAny M Ar (keyKind' vs.toArray) Q Ex s := by
  rw [keyKind'_eq, List.mapM_toArray, map_eq_pure_bind]
  refine wpAny_bind (wpAny_bind (mapM_each (first0 s.heap) vs (fun v hm Q' hq => first_tup (hv v hm) hq) (wpAny_pure ?_)))
  rw [if_neg (by rw [h0]; exact Bool.false_ne_true)]
  unfold kindT at h
  by_cases hc : ((vs.map (first0 s.heap)).toArray[0]?.bind id).isSome = true
  · rw [if_pos hc] at h ⊢
    exact wpAny_pure h
  · rw [if_neg hc] at h ⊢
    rw [oneTypeOnly'_eq, List.mapM_toArray, map_eq_pure_bind]
    refine wpAny_bind (wpAny_bind (wpAny_bind (PySem.W.kas_mapM (r := Value.type "tuple") _ (fun v hm Q' hq => (tup_looks (hv v hm)).here hq) (wpAny_pure ?_))))
    obtain ⟨v1, rest, rfl⟩ : ∃ v1 rest, vs = v1 :: rest := by
      cases vs with
      | nil => simp at h2
      | cons a b => exact ⟨a, b, rfl⟩
    have hall : ((List.map (fun _ => Value.type "tuple") (v1 :: rest)).toArray.all fun x => x == Value.type "tuple") = true := by
      simp only [List.all_toArray, List.all_map, List.all_eq_true]
      intro _ _
      exact beq_self_eq_true _
    have hz : (List.map (fun _ => Value.type "tuple") (v1 :: rest)).toArray[0]? = some (Value.type "tuple") := by simp
    rw [hz]
    simp only [hall, if_true]
    exact wpAny_pure (wpAny_pure h)
end
theorem reads_tupV {h : Heap} {v : Value} {xs : List PyData} {as : List Addr} (r : Reads h v (.tuple xs) as) : IsTupV h v := by
  cases r with
  | @tuple a o vs n _ _ h1 h2 h3 h4 => exact ⟨a, o, vs, n, rfl, h1, h2, h3⟩
theorem keyLt'_gen (x y : Value) : keyLt' general' x y = oneLt' false x y := rfl
/-- tuples of alike data can be sorted, an empty one among them or not -/
theorem sortsAt_tups {pg : Program} {wd : World} {Ar : Around} {s : Shared} {vs : List Value} {ds : List PyData} (e : EachIs (fun v d => ∃ as, Reads s.heap v d as) vs ds) (hal : AllAlike ds) (ht : ∀ d, d ∈ ds → ∃ xs, d = .tuple xs) (hu : ∀ d, d ∈ ds → Ar.units + d.depth < cLine) :
    SortsAt pg wd Ar s (dataKind s.heap ds) vs := by
  by_cases hn : ∀ d, d ∈ ds → ∃ x r, d = .tuple (x :: r)
  · exact SortsAt.data e hal (.inl hn) hu
  · refine ⟨fun v hv => ?_, ?_⟩
    · obtain ⟨d, hd, as, r⟩ := e.left v hv
      exact ⟨_, dataKind_some hal hd r⟩
    · have room : ∀ {d d' : PyData}, d ∈ ds → Ar.units + min d.depth d'.depth < cLine := fun {d d'} hd => Nat.lt_of_le_of_lt (Nat.add_le_add_left (Nat.min_le_left _ _) _) (hu d hd)
      have hv : ∀ v ∈ vs, IsTupV s.heap v := fun v hv => by
        obtain ⟨d, hd, as, r⟩ := e.left v hv
        obtain ⟨xs, rfl⟩ := ht d hd
        exact reads_tupV r
      have h0 : ((vs.map (first0 s.heap)).toArray.all fun x => x.isSome) = false := by
        rw [Bool.eq_false_iff]
        intro z
        apply hn
        intro d hd
        obtain ⟨v, hm, as, r⟩ := each_right e d hd
        obtain ⟨xs, rfl⟩ := ht d hd
        have hz : (first0 s.heap v).isSome = true := by
          simp only [List.all_toArray, List.all_map, List.all_eq_true] at z
          exact z v hm
        cases xs with
        | cons x r' => exact ⟨x, r', rfl⟩
        | nil =>
          exfalso
          cases r with
          | @tuple a o us n _ _ h1 h2 h3 h4 =>
            have hl : us.toList = [] := by
              cases hq : us.toList with
              | nil => rfl
              | cons _ _ =>
                rw [hq] at h4
                cases h4
            have hu0 : us[0]? = none := by
              rw [← Array.getElem?_toList, hl]
              rfl
            have e1 : first0 s.heap (.ref a) = us[0]? := by
              unfold first0
              simp only [h1, h3]
            rw [e1, hu0] at hz
            cases hz
      refine ⟨kindT s.heap vs, ?_, fun h2 E Q hq => kind_tups h2 hv h0 hq⟩
      intro E x y a b Q ha hb hq
      obtain ⟨d, as, hd, ra, rfl⟩ := dataKind_inv ha
      obtain ⟨d', as', hd', rb, rfl⟩ := dataKind_inv hb
      obtain ⟨xs, rfl⟩ := ht d hd
      obtain ⟨ys, rfl⟩ := ht d' hd'
      unfold kindT
      split
      · rw [keyLt'_gen]
        exact tup_oneLt false ra rb (hal _ hd _ hd') (room hd) hq
      · rw [keyLt'_oneType]
        exact tup_oneLt true ra rb (hal _ hd _ hd') (room hd) hq

/-- all are tuples, or none is a tuple or None -/
def Sortable2 (ds : List PyData) : Prop := (∀ d, d ∈ ds → ∃ xs, d = .tuple xs) ∨ ∀ d, d ∈ ds → d ≠ .none ∧ ∀ xs, d ≠ .tuple xs
theorem sortsAt_all {pg : Program} {wd : World} {Ar : Around} {s : Shared} {vs : List Value} {ds : List PyData} (e : EachIs (fun v d => ∃ as, Reads s.heap v d as) vs ds) (hal : AllAlike ds) (hk : Sortable2 ds) (hu : ∀ d, d ∈ ds → Ar.units + d.depth < cLine) :
    SortsAt pg wd Ar s (dataKind s.heap ds) vs := by
  rcases hk with h | h
  · exact sortsAt_tups e hal h hu
  · exact SortsAt.data e hal (.inr h) hu
theorem sorted_all {β : Type} {pg : Program} {wd : World} {Ar : Around} {Ex : Value → Shared → Prop} {s : Shared} {vs : List Value} {bs : List β} {enc : β → PyData} {R : Value → β → Prop} {l : Addr} {Q : Value → Shared → Prop} (hl : s.heap.IsList l vs.toArray) (e : EachIs R vs bs)
    (er : EachIs (fun v b => ∃ as, Reads s.heap v (enc b) as) vs bs) (hal : AllAlike (bs.map enc)) (hk : Sortable2 (bs.map enc)) (hL : bs.length ≤ sizeLine) (hu : ∀ b, b ∈ bs → Ar.units + 2 + (enc b).depth < cLine)
    (h : ∀ out, out.length = bs.length → EachIs R out (bs.mergeSort (dataLe false enc)) → Q (.ref (s.heap.objs.size + 1)) { s with heap := sortedAll s.heap vs (List.toArray out) }) : wpAny (model pg wd) Ar (PySem.call (.builtin "sorted") [.ref l]) Q Ex s := by
  have er' : EachIs (fun v b => ∃ as, Reads (PySem.W.sortingHeap (PySem.W.copyHeap s.heap vs) (s.heap.objs.size + 1) vs) v (enc b) as) vs bs := er.mono fun _ _ ⟨as, r⟩ => ⟨as, PyProof.Rows.Reads.keeps (fun _ _ => PySem.W.sorting_copy_old) r⟩
  exact PySem.W.sorted_vals hl (sortsAt_all (s := { s with heap := PySem.W.sortingHeap (PySem.W.copyHeap s.heap vs) (s.heap.objs.size + 1) vs }) (PySem.W.each_map (R := fun v d => ∃ as, Reads (PySem.W.sortingHeap (PySem.W.copyHeap s.heap vs) (s.heap.objs.size + 1) vs) v d as) enc er') hal hk (PySem.W.bound_map hu)) (by rw [e.length]; exact hL)
    (h _ (by rw [PySem.W.sortVals_length false rfl]; exact e.length) (PySem.W.sortVals_data false e er' hal))
end PD

set_option Elab.async false
set_option linter.all false
set_option maxRecDepth 100000
namespace PD
open PySem PySem.Spec PyProof.Rows L2

/-- a value as plain data -/
inductive D where
  | non | bl (b : Bool) | int (i : Int) | str (x : Str) | tup (xs : List D) | lst (xs : List D) | dic (t : Bool) (kvs : List (D × D)) | scr (ns : List Int) | st (ms : List Int)
instance : Inhabited D := ⟨.non⟩
/-- a set of whole numbers -/
def SetM (S : Int → Bool) (a : Addr) : HO := .ext fun h => ∃ w n, SetR w h a S n
def kD : Key → D
  | .inl i => .int i
  | .inr x => .str x
def kTD (ks : List Key) : D := .tup (ks.map kD)

mutual
def Rp (K : PySem.W.Frag) (G : Hp) : D → V → Prop
  | .non, v => v = .non
  | .bl b, v => v = .bl b
  | .int i, v => v = .int i
  | .str x, v => v = .str x
  | .tup ds, v => ∃ a xs, v = .ref a ∧ G a = some (.tup xs) ∧ RpL K G ds xs
  | .lst ds, v => ∃ a xs, v = .ref a ∧ G a = some (.lst xs) ∧ RpL K G ds xs
  | .dic t ds, v => ∃ a, v = .ref a ∧ ((t = false ∧ ∃ o ks, G a = some (.frz o (.dK ks)) ∧ RpK K G ds ks) ∨ (t = true ∧ ∃ o ks, G a = some (.frz o (.dT ks)) ∧ RpT K G ds ks))
  | .scr ns, v => ∃ a, v = .ref a ∧ SqL K G a (ns.map V.int)
  | .st ms, v => ∃ a, v = .ref a ∧ G a = some (SetM (fun j => decide (j ∈ ms)) a)
def RpL (K : PySem.W.Frag) (G : Hp) : List D → List V → Prop
  | [], xs => xs = []
  | d :: ds, xs => ∃ x r, xs = x :: r ∧ Rp K G d x ∧ RpL K G ds r
def RpK (K : PySem.W.Frag) (G : Hp) : List (D × D) → List (Key × V) → Prop
  | [], xs => xs = []
  | (kd, d) :: ds, xs => ∃ k x r, xs = (k, x) :: r ∧ kd = kD k ∧ Rp K G d x ∧ RpK K G ds r
def RpT (K : PySem.W.Frag) (G : Hp) : List (D × D) → List (List Key × V) → Prop
  | [], xs => xs = []
  | (kd, d) :: ds, xs => ∃ k x r, xs = (k, x) :: r ∧ kd = kTD k ∧ Rp K G d x ∧ RpT K G ds r
end

theorem Same.tup {K : PySem.W.Frag} {H H' : Hp} {a : Addr} {xs : List V} (e : Same H H') (h : H a = some (.tup xs)) : SqT K H' a xs := SqT.of (e _ _ h)

section
variable {K : PySem.W.Frag} {G G' : Hp}
mutual
theorem Rp.mono (e : Same G G') : ∀ (d : D) (v : V), Rp K G d v → Rp K G' d v
  | .non, _, h => by simp only [Rp] at h ⊢; exact h
  | .bl _, _, h => by simp only [Rp] at h ⊢; exact h
  | .int _, _, h => by simp only [Rp] at h ⊢; exact h
  | .str _, _, h => by simp only [Rp] at h ⊢; exact h
  | .tup ds, _, h => by
    simp only [Rp] at h ⊢
    obtain ⟨a, xs, e1, e2, e3⟩ := h
    exact ⟨a, xs, e1, e _ _ e2, RpL.mono e ds xs e3⟩
  | .lst ds, _, h => by
    simp only [Rp] at h ⊢
    obtain ⟨a, xs, e1, e2, e3⟩ := h
    exact ⟨a, xs, e1, e _ _ e2, RpL.mono e ds xs e3⟩
  | .dic t ds, _, h => by
    simp only [Rp] at h ⊢
    obtain ⟨a, e1, h⟩ := h
    refine ⟨a, e1, ?_⟩
    rcases h with ⟨ht, o, ks, e2, e3⟩ | ⟨ht, o, ks, e2, e3⟩
    · exact .inl ⟨ht, o, ks, e _ _ e2, RpK.mono e ds ks e3⟩
    · exact .inr ⟨ht, o, ks, e _ _ e2, RpT.mono e ds ks e3⟩
  | .scr _, _, h => by
    simp only [Rp] at h ⊢
    obtain ⟨a, e1, e2⟩ := h
    exact ⟨a, e1, e.seq e2⟩
  | .st _, _, h => by
    simp only [Rp] at h ⊢
    obtain ⟨a, e1, e2⟩ := h
    exact ⟨a, e1, e _ _ e2⟩
theorem RpL.mono (e : Same G G') : ∀ (ds : List D) (xs : List V), RpL K G ds xs → RpL K G' ds xs
  | [], _, h => by simp only [RpL] at h ⊢; exact h
  | d :: ds, _, h => by
    simp only [RpL] at h ⊢
    obtain ⟨x, r, e1, e2, e3⟩ := h
    exact ⟨x, r, e1, Rp.mono e d x e2, RpL.mono e ds r e3⟩
theorem RpK.mono (e : Same G G') : ∀ (ds : List (D × D)) (xs : List (Key × V)), RpK K G ds xs → RpK K G' ds xs
  | [], _, h => by simp only [RpK] at h ⊢; exact h
  | (kd, d) :: ds, _, h => by
    simp only [RpK] at h ⊢
    obtain ⟨k, x, r, e1, e0, e2, e3⟩ := h
    exact ⟨k, x, r, e1, e0, Rp.mono e d x e2, RpK.mono e ds r e3⟩
theorem RpT.mono (e : Same G G') : ∀ (ds : List (D × D)) (xs : List (List Key × V)), RpT K G ds xs → RpT K G' ds xs
  | [], _, h => by simp only [RpT] at h ⊢; exact h
  | (kd, d) :: ds, _, h => by
    simp only [RpT] at h ⊢
    obtain ⟨k, x, r, e1, e0, e2, e3⟩ := h
    exact ⟨k, x, r, e1, e0, Rp.mono e d x e2, RpT.mono e ds r e3⟩
end
end

section
variable {K : PySem.W.Frag} {G : Hp}
theorem RpL.len : ∀ {ds : List D} {xs : List V}, RpL K G ds xs → ds.length = xs.length
  | [], _, h => by
    simp only [RpL] at h
    subst h
    rfl
  | d :: ds, _, h => by
    simp only [RpL] at h
    obtain ⟨x, r, e1, e2, e3⟩ := h
    subst e1
    simp only [List.length_cons, RpL.len e3]
theorem RpL.get : ∀ {ds : List D} {xs : List V}, RpL K G ds xs → ∀ {i : Nat} {d : D} {x : V}, ds[i]? = some d → xs[i]? = some x → Rp K G d x
  | [], _, h, i, d, x, e, _ => by simp at e
  | d :: ds, _, h, i, d', x', e, e' => by
    simp only [RpL] at h
    obtain ⟨x, r, e1, e2, e3⟩ := h
    subst e1
    cases i with
    | zero =>
      simp only [List.getElem?_cons_zero, Option.some.injEq] at e e'
      subst e e'
      exact e2
    | succ i =>
      simp only [List.getElem?_cons_succ] at e e'
      exact RpL.get e3 e e'
theorem RpL.mk : ∀ {ds : List D} {xs : List V}, ds.length = xs.length → (∀ (i : Nat) (d : D) (x : V), ds[i]? = some d → xs[i]? = some x → Rp K G d x) → RpL K G ds xs
  | [], xs, h, _ => by
    simp only [RpL]
    cases xs with
    | nil => rfl
    | cons x r => simp at h
  | d :: ds, xs, h, w => by
    cases xs with
    | nil => simp at h
    | cons x r =>
      simp only [RpL]
      refine ⟨x, r, rfl, w 0 d x rfl rfl, RpL.mk (by simpa using h) fun i d' x' e e' => w (i + 1) d' x' (by simpa using e) (by simpa using e')⟩
theorem RpL.nil : RpL K G [] [] := by simp only [RpL]
theorem RpL.cons {d : D} {ds : List D} {x : V} {xs : List V} (h : Rp K G d x) (h' : RpL K G ds xs) : RpL K G (d :: ds) (x :: xs) := by
  simp only [RpL]
  exact ⟨x, xs, rfl, h, h'⟩
theorem RpL.append : ∀ {ds es : List D} {xs ys : List V}, RpL K G ds xs → RpL K G es ys → RpL K G (ds ++ es) (xs ++ ys)
  | [], es, _, ys, h, h' => by
    simp only [RpL] at h
    subst h
    exact h'
  | d :: ds, es, _, ys, h, h' => by
    simp only [RpL] at h
    obtain ⟨x, r, e1, e2, e3⟩ := h
    subst e1
    exact RpL.cons e2 (RpL.append e3 h')
theorem RpL.snoc {ds : List D} {d : D} {xs : List V} {x : V} (h : RpL K G ds xs) (h' : Rp K G d x) : RpL K G (ds ++ [d]) (xs ++ [x]) := h.append (RpL.cons h' RpL.nil)
theorem RpL.drop : ∀ {ds : List D} {xs : List V} (n : Nat), RpL K G ds xs → RpL K G (ds.drop n) (xs.drop n)
  | ds, xs, 0, h => h
  | [], _, n + 1, h => by
    simp only [RpL] at h
    subst h
    exact RpL.nil
  | d :: ds, _, n + 1, h => by
    simp only [RpL] at h
    obtain ⟨x, r, e1, e2, e3⟩ := h
    subst e1
    exact RpL.drop n e3
theorem RpL.take : ∀ {ds : List D} {xs : List V} (n : Nat), RpL K G ds xs → RpL K G (ds.take n) (xs.take n)
  | ds, xs, 0, h => by
    simp only [List.take_zero]
    exact RpL.nil
  | [], _, n + 1, h => by
    simp only [RpL] at h
    subst h
    exact RpL.nil
  | d :: ds, _, n + 1, h => by
    simp only [RpL] at h
    obtain ⟨x, r, e1, e2, e3⟩ := h
    subst e1
    exact RpL.cons e2 (RpL.take n e3)
theorem RpL.set {d : D} {x : V} (r : Rp K G d x) : ∀ {ds : List D} {xs : List V} (n : Nat), RpL K G ds xs → RpL K G (ds.set n d) (xs.set n x)
  | [], _, n, h => by
    simp only [RpL] at h
    subst h
    exact RpL.nil
  | d' :: ds, _, 0, h => by
    simp only [RpL] at h
    obtain ⟨x', r', e1, e2, e3⟩ := h
    subst e1
    exact RpL.cons r e3
  | d' :: ds, _, n + 1, h => by
    simp only [RpL] at h
    obtain ⟨x', r', e1, e2, e3⟩ := h
    subst e1
    exact RpL.cons e2 (RpL.set r n e3)
theorem RpL.reverse : ∀ {ds : List D} {xs : List V}, RpL K G ds xs → RpL K G ds.reverse xs.reverse
  | [], _, h => by
    simp only [RpL] at h
    subst h
    exact RpL.nil
  | d :: ds, _, h => by
    simp only [RpL] at h
    obtain ⟨x, r, e1, e2, e3⟩ := h
    subst e1
    simp only [List.reverse_cons]
    exact RpL.append (RpL.reverse e3) (RpL.cons e2 RpL.nil)
theorem RpL.at {ds : List D} {xs : List V} (h : RpL K G ds xs) {i : Nat} {d : D} (e : ds[i]? = some d) : ∃ x, xs[i]? = some x ∧ Rp K G d x := by
  obtain ⟨hi, e1⟩ := List.getElem?_eq_some_iff.mp e
  have hl := h.len
  have hx : xs[i]? = some (xs[i]'(by omega)) := List.getElem?_eq_getElem (by omega)
  exact ⟨_, hx, h.get e hx⟩
theorem RpL.ints : ∀ {ns : List Int} {xs : List V}, RpL K G (ns.map D.int) xs → xs = ns.map V.int
  | [], _, h => by
    simp only [List.map_nil, RpL] at h
    exact h
  | n :: ns, _, h => by
    simp only [List.map_cons, RpL, Rp] at h
    obtain ⟨x, r, e1, e2, e3⟩ := h
    subst e1 e2
    rw [RpL.ints e3]
    rfl
theorem RpL.of_ints : ∀ (ns : List Int), RpL K G (ns.map D.int) (ns.map V.int)
  | [] => RpL.nil
  | n :: ns => RpL.cons (by simp only [Rp]) (RpL.of_ints ns)
theorem RpL.bls : ∀ {ns : List Bool} {xs : List V}, RpL K G (ns.map D.bl) xs → xs = ns.map V.bl
  | [], _, h => by
    simp only [List.map_nil, RpL] at h
    exact h
  | n :: ns, _, h => by
    simp only [List.map_cons, RpL, Rp] at h
    obtain ⟨x, r, e1, e2, e3⟩ := h
    subst e1 e2
    rw [RpL.bls e3]
    rfl
end

/-! ### the whole heap H, its settled part G -/
def Hid : HO → Bool
  | .lst _ => true
  | .dK _ => true
  | .dT _ => true
  | .set _ _ => true
  | .frz _ u => Hid u
  | .ext _ => true
  | _ => false
structure Wf (H G : Hp) : Prop where
  sub : Same G H
  tin : ∀ b o, H b = some o → Hid o = false → G b = some o
structure Ext (H G H' G' : Hp) : Prop where
  hh : Same H H'
  gg : Same G G'
  wf : Wf H' G'
  new : ∀ b o, G' b = some o → G b = some o ∨ H b = none
theorem Ext.refl {H G : Hp} (w : Wf H G) : Ext H G H G := ⟨Same.refl H, Same.refl G, w, fun _ _ e => .inl e⟩
theorem Ext.trans {H G H1 G1 H2 G2 : Hp} (a : Ext H G H1 G1) (b : Ext H1 G1 H2 G2) : Ext H G H2 G2 := by
  refine ⟨a.hh.trans b.hh, a.gg.trans b.gg, b.wf, fun c o e => ?_⟩
  rcases b.new c o e with h | h
  · exact a.new c o h
  · exact .inr (a.hh.free h)
theorem wf_none {H G : Hp} (w : Wf H G) {p : Addr} (h : H p = none) : G p = none := w.sub.free h
theorem same_updN {H : Hp} {p : Addr} {o : HO} (h : H p = none) : Same H (upd H p o) := fun b x e => by
  rw [upd_ne (ne_of_none e h)]
  exact e
/-- a new settled object -/
theorem Ext.alloc {H G : Hp} (w : Wf H G) {p : Addr} {o : HO} (h : H p = none) : Ext H G (upd H p o) (upd G p o) := by
  refine ⟨same_updN h, same_updN (wf_none w h), ⟨fun b x e => ?_, fun b x e hh => ?_⟩, fun b x e => ?_⟩
  · by_cases hb : b = p
    · subst hb
      rw [upd_same] at e ⊢
      exact e
    · rw [upd_ne hb] at e ⊢
      exact w.sub b x e
  · by_cases hb : b = p
    · subst hb
      rw [upd_same] at e ⊢
      exact e
    · rw [upd_ne hb] at e ⊢
      exact w.tin b x e hh
  · by_cases hb : b = p
    · subst hb
      exact .inr h
    · rw [upd_ne hb] at e
      exact .inl e

/-- a new object that may still change -/
theorem Ext.fresh {H G : Hp} (w : Wf H G) {p : Addr} {o : HO} (h : H p = none) (ho : Hid o = true) : Ext H G (upd H p o) G := by
  refine ⟨same_updN h, Same.refl G, ⟨fun b x e => ?_, fun b x e hh => ?_⟩, fun b x e => .inl e⟩
  · have hb : b ≠ p := ne_of_none e (wf_none w h)
    rw [upd_ne hb]
    exact w.sub b x e
  · by_cases hb : b = p
    · subst hb
      rw [upd_same] at e
      cases e
      rw [ho] at hh
      cases hh
    · rw [upd_ne hb] at e
      exact w.tin b x e hh
/-- a value that is looked at: a list may be one that still changes -/
def RpB (K : PySem.W.Frag) (H G : Hp) : D → V → Prop
  | .lst ds, v => ∃ a xs, v = .ref a ∧ H a = some (.lst xs) ∧ RpL K G ds xs
  | .dic t ds, v => ∃ a, v = .ref a ∧ ((t = false ∧ ∃ ks, Rd H a (.dK ks) ∧ RpK K G ds ks) ∨ (t = true ∧ ∃ ks, Rd H a (.dT ks) ∧ RpT K G ds ks))
  | d, v => Rp K G d v
theorem rd_mono {H H' : Hp} (e : Same H H') {a : Addr} {u : HO} (h : Rd H a u) : Rd H' a u := by
  rcases h with h | ⟨o, h⟩
  · exact .inl (e _ _ h)
  · exact .inr ⟨o, e _ _ h⟩
def notDic : D → Bool
  | .dic _ _ => false
  | .st _ => false
  | _ => true
theorem RpB.of {K : PySem.W.Frag} {H G : Hp} (w : Wf H G) {d : D} {v : V} (h : Rp K G d v) : RpB K H G d v := by
  cases d with
  | lst ds =>
    simp only [Rp] at h
    obtain ⟨a, xs, e1, e2, e3⟩ := h
    exact ⟨a, xs, e1, w.sub _ _ e2, e3⟩
  | dic t ds =>
    simp only [Rp] at h
    obtain ⟨a, e1, h⟩ := h
    refine ⟨a, e1, ?_⟩
    rcases h with ⟨ht, o, ks, e2, e3⟩ | ⟨ht, o, ks, e2, e3⟩
    · exact .inl ⟨ht, ks, .inr ⟨o, w.sub _ _ e2⟩, e3⟩
    · exact .inr ⟨ht, ks, .inr ⟨o, w.sub _ _ e2⟩, e3⟩
  | _ => exact h
theorem RpB.ext {K : PySem.W.Frag} {H G H' G' : Hp} (x : Ext H G H' G') {d : D} {v : V} (h : RpB K H G d v) : RpB K H' G' d v := by
  cases d with
  | lst ds =>
    obtain ⟨a, xs, e1, e2, e3⟩ := h
    exact ⟨a, xs, e1, x.hh _ _ e2, RpL.mono x.gg _ _ e3⟩
  | dic t ds =>
    obtain ⟨a, e1, h⟩ := h
    refine ⟨a, e1, ?_⟩
    rcases h with ⟨ht, ks, e2, e3⟩ | ⟨ht, ks, e2, e3⟩
    · exact .inl ⟨ht, ks, rd_mono x.hh e2, RpK.mono x.gg _ _ e3⟩
    · exact .inr ⟨ht, ks, rd_mono x.hh e2, RpT.mono x.gg _ _ e3⟩
  | non => exact Rp.mono (K := K) x.gg .non v h
  | bl b => exact Rp.mono (K := K) x.gg (.bl b) v h
  | int b => exact Rp.mono (K := K) x.gg (.int b) v h
  | str b => exact Rp.mono (K := K) x.gg (.str b) v h
  | tup b => exact Rp.mono (K := K) x.gg (.tup b) v h
  | scr b => exact Rp.mono (K := K) x.gg (.scr b) v h
  | st b => exact Rp.mono (K := K) x.gg (.st b) v h
/-- looked at as a whole, over the whole heap -/
theorem RpB.all {K : PySem.W.Frag} {H G : Hp} (w : Wf H G) {d : D} {v : V} (hd : notDic d = true) (h : RpB K H G d v) : Rp K H d v := by
  cases d with
  | lst ds =>
    obtain ⟨a, xs, e1, e2, e3⟩ := h
    simp only [Rp]
    exact ⟨a, xs, e1, e2, RpL.mono w.sub _ _ e3⟩
  | dic t ds => cases hd
  | non => exact Rp.mono (K := K) w.sub .non v h
  | bl b => exact Rp.mono (K := K) w.sub (.bl b) v h
  | int b => exact Rp.mono (K := K) w.sub (.int b) v h
  | str b => exact Rp.mono (K := K) w.sub (.str b) v h
  | tup b => exact Rp.mono (K := K) w.sub (.tup b) v h
  | scr b => exact Rp.mono (K := K) w.sub (.scr b) v h
  | st b => exact Rp.mono (K := K) w.sub (.st b) v h
def RpBL (K : PySem.W.Frag) (H G : Hp) : List D → List V → Prop
  | [], xs => xs = []
  | d :: ds, xs => ∃ x r, xs = x :: r ∧ RpB K H G d x ∧ RpBL K H G ds r
theorem RpBL.ext {K : PySem.W.Frag} {H G H' G' : Hp} (x : Ext H G H' G') : ∀ {ds : List D} {vs : List V}, RpBL K H G ds vs → RpBL K H' G' ds vs
  | [], _, h => h
  | d :: ds, _, h => by
    obtain ⟨y, r, e1, e2, e3⟩ := h
    exact ⟨y, r, e1, e2.ext x, RpBL.ext x e3⟩
theorem RpBL.of {K : PySem.W.Frag} {H G : Hp} (w : Wf H G) : ∀ {ds : List D} {vs : List V}, RpL K G ds vs → RpBL K H G ds vs
  | [], _, h => by
    simp only [RpL] at h
    exact h
  | d :: ds, _, h => by
    simp only [RpL] at h
    obtain ⟨y, r, e1, e2, e3⟩ := h
    exact ⟨y, r, e1, RpB.of w e2, RpBL.of w e3⟩

theorem rd_own {K : PySem.W.Frag} {H G : Hp} {a : Addr} {t : Bool} {ds : List (D × D)} (h : (t = false ∧ ∃ ks, H a = some (.dK ks) ∧ RpK K G ds ks) ∨ (t = true ∧ ∃ ks, H a = some (.dT ks) ∧ RpT K G ds ks)) : (t = false ∧ ∃ ks, Rd H a (.dK ks) ∧ RpK K G ds ks) ∨ (t = true ∧ ∃ ks, Rd H a (.dT ks) ∧ RpT K G ds ks) := by
  rcases h with ⟨ht, ks, h1, h2⟩ | ⟨ht, ks, h1, h2⟩
  · exact .inl ⟨ht, ks, .inl h1, h2⟩
  · exact .inr ⟨ht, ks, .inl h1, h2⟩
/-! ### slots -/
inductive Sl where
  | un | val (d : D) | own (ds : List D) | ownD (t : Bool) (kvs : List (D × D)) | own2 (dss : List (List D))
abbrev Env' := List Sl
def Sl.isOwn : Sl → Bool
  | .own _ => true
  | .ownD _ _ => true
  | .own2 _ => true
  | _ => false
/-- the inner lists of a list of lists of its own -/
def In2 (K : PySem.W.Frag) (H0 H G : Hp) : List (List D) → List Addr → Prop
  | [], bs => bs = []
  | ds :: dss, bs => ∃ b r ys, bs = b :: r ∧ H b = some (.lst ys) ∧ G b = none ∧ H0 b = none ∧ RpL K G ds ys ∧ In2 K H0 H G dss r
def SlOk (K : PySem.W.Frag) (H0 H G : Hp) : Sl → Option V → Prop
  | .un, _ => True
  | .val d, x => ∃ v, x = some v ∧ Rp K G d v
  | .own ds, x => ∃ a xs, x = some (.ref a) ∧ H a = some (.lst xs) ∧ G a = none ∧ H0 a = none ∧ RpL K G ds xs
  | .ownD t ds, x => ∃ a, x = some (.ref a) ∧ G a = none ∧ H0 a = none ∧ ((t = false ∧ ∃ ks, H a = some (.dK ks) ∧ RpK K G ds ks) ∨ (t = true ∧ ∃ ks, H a = some (.dT ks) ∧ RpT K G ds ks))
  | .own2 dss, x => ∃ (a : Addr) (bs : List Addr), x = some (.ref a) ∧ H a = some (.lst (bs.map V.ref)) ∧ G a = none ∧ H0 a = none ∧ (a :: bs).Nodup ∧ In2 K H0 H G dss bs
/-- the objects that a slot alone holds -/
def Foot (H : Hp) : Sl → Option V → Addr → Prop
  | .own _, x, c => x = some (.ref c)
  | .ownD _ _, x, c => x = some (.ref c)
  | .own2 _, x, c => x = some (.ref c) ∨ ∃ (a : Addr) (bs : List Addr), x = some (.ref a) ∧ H a = some (.lst (bs.map V.ref)) ∧ c ∈ bs
  | _, _, _ => False
theorem ref_inj : ∀ {as bs : List Addr}, as.map V.ref = bs.map V.ref → as = bs
  | [], [], _ => rfl
  | [], _ :: _, h => by cases h
  | _ :: _, [], h => by cases h
  | a :: as, b :: bs, h => by
    simp only [List.map_cons, List.cons.injEq, V.ref.injEq] at h
    rw [h.1, ref_inj h.2]
theorem foot_top {H : Hp} {s : Sl} {a : Addr} (o : s.isOwn = true) : Foot H s (some (.ref a)) a := by
  cases s with
  | un => cases o
  | val _ => cases o
  | own ds => rfl
  | ownD t ds => rfl
  | own2 dss => exact .inl rfl
theorem foot_own {H : Hp} {s : Sl} {x : Option V} {c : Addr} (h : Foot H s x c) : s.isOwn = true := by
  cases s with
  | un => exact h.elim
  | val _ => exact h.elim
  | _ => rfl
theorem In2.mem {K : PySem.W.Frag} {H0 H G : Hp} : ∀ {dss : List (List D)} {bs : List Addr}, In2 K H0 H G dss bs → ∀ c ∈ bs, (∃ ys, H c = some (.lst ys)) ∧ G c = none ∧ H0 c = none
  | [], _, h, c, hc => by
    have h : _ = [] := h
    rw [h] at hc
    cases hc
  | ds :: dss, _, h, c, hc => by
    obtain ⟨b, r, ys, rfl, h1, h2, h3, h4, h5⟩ := h
    rcases List.mem_cons.mp hc with rfl | hc
    · exact ⟨⟨ys, h1⟩, h2, h3⟩
    · exact In2.mem h5 c hc
theorem foot_ok {K : PySem.W.Frag} {H0 H G : Hp} {s : Sl} {x : Option V} {c : Addr} (h : SlOk K H0 H G s x) (f : Foot H s x c) : (∃ u, H c = some u) ∧ G c = none ∧ H0 c = none := by
  cases s with
  | un => exact f.elim
  | val _ => exact f.elim
  | own ds =>
    obtain ⟨a, xs, e1, e2, e3, e4, _⟩ := h
    have f : x = some (.ref c) := f
    rw [e1] at f
    cases f
    exact ⟨⟨_, e2⟩, e3, e4⟩
  | ownD t ds =>
    obtain ⟨a, e1, e3, e4, h⟩ := h
    have f : x = some (.ref c) := f
    rw [e1] at f
    cases f
    rcases h with ⟨_, ks, e2, _⟩ | ⟨_, ks, e2, _⟩
    · exact ⟨⟨_, e2⟩, e3, e4⟩
    · exact ⟨⟨_, e2⟩, e3, e4⟩
  | own2 dss =>
    obtain ⟨a, bs, e1, e2, e3, e4, e5, e6⟩ := h
    rcases f with f | ⟨a', bs', f1, f2, f3⟩
    · rw [e1] at f
      cases f
      exact ⟨⟨_, e2⟩, e3, e4⟩
    · rw [e1] at f1
      cases f1
      rw [e2] at f2
      cases ref_inj (HO.lst.inj (Option.some.inj f2))
      have := e6.mem c f3
      exact ⟨⟨_, this.1.choose_spec⟩, this.2⟩
/-- what a slot holds stays what it is, where its own objects stay -/
theorem foot_back {K : PySem.W.Frag} {H0 H G H' : Hp} {s : Sl} {x : Option V} {c : Addr} (h : SlOk K H0 H G s x) (k : ∀ b u, Foot H s x b → H b = some u → H' b = some u) (f : Foot H' s x c) : Foot H s x c := by
  cases s with
  | own2 dss =>
    obtain ⟨a, bs, e1, e2, e3, e4, e5, e6⟩ := h
    rcases f with f | ⟨a', bs', f1, f2, f3⟩
    · exact .inl f
    · refine .inr ⟨a, bs, e1, e2, ?_⟩
      rw [e1] at f1
      cases f1
      rw [k a _ (.inl e1) e2] at f2
      cases ref_inj (HO.lst.inj (Option.some.inj f2))
      exact f3
  | _ => exact f
theorem foot_fwd {K : PySem.W.Frag} {H0 H G H' : Hp} {s : Sl} {x : Option V} {c : Addr} (h : SlOk K H0 H G s x) (k : ∀ b u, Foot H s x b → H b = some u → H' b = some u) (f : Foot H s x c) : Foot H' s x c := by
  cases s with
  | own2 dss =>
    obtain ⟨a, bs, e1, e2, e3, e4, e5, e6⟩ := h
    rcases f with f | ⟨a', bs', f1, f2, f3⟩
    · exact .inl f
    · exact .inr ⟨a', bs', f1, k a' _ (.inl f1) f2, f3⟩
  | _ => exact f
theorem In2.keep {K : PySem.W.Frag} {H0 H G H' G' : Hp} (sg : Same G G') : ∀ {dss : List (List D)} {bs : List Addr}, In2 K H0 H G dss bs → (∀ c ∈ bs, ∀ u, H c = some u → H' c = some u) → (∀ c ∈ bs, G' c = none) → In2 K H0 H' G' dss bs
  | [], _, h, _, _ => h
  | ds :: dss, _, h, k, g => by
    obtain ⟨b, r, ys, rfl, h1, h2, h3, h4, h5⟩ := h
    exact ⟨b, r, ys, rfl, k b List.mem_cons_self _ h1, g b List.mem_cons_self, h3, RpL.mono sg _ _ h4, In2.keep sg h5 (fun c hc => k c (List.mem_cons_of_mem _ hc)) fun c hc => g c (List.mem_cons_of_mem _ hc)⟩
theorem slok_keep {K : PySem.W.Frag} {H0 H G H' G' : Hp} {s : Sl} {x : Option V} (h : SlOk K H0 H G s x) (sg : Same G G') (k : ∀ b u, Foot H s x b → H b = some u → H' b = some u) (g : ∀ b, Foot H s x b → G' b = none) : SlOk K H0 H' G' s x := by
  cases s with
  | un => trivial
  | val d =>
    obtain ⟨y, e1, e2⟩ := h
    exact ⟨y, e1, Rp.mono sg _ _ e2⟩
  | own ds =>
    obtain ⟨a, xs, e1, e2, e3, e4, e5⟩ := h
    exact ⟨a, xs, e1, k a _ e1 e2, g a e1, e4, RpL.mono sg _ _ e5⟩
  | ownD t ds =>
    obtain ⟨a, e1, e3, e4, h⟩ := h
    rcases h with ⟨ht, ks, e2, e5⟩ | ⟨ht, ks, e2, e5⟩
    · exact ⟨a, e1, g a e1, e4, .inl ⟨ht, ks, k a _ e1 e2, RpK.mono sg _ _ e5⟩⟩
    · exact ⟨a, e1, g a e1, e4, .inr ⟨ht, ks, k a _ e1 e2, RpT.mono sg _ _ e5⟩⟩
  | own2 dss =>
    obtain ⟨a, bs, e1, e2, e3, e4, e5, e6⟩ := h
    exact ⟨a, bs, e1, k a _ (.inl e1) e2, g a (.inl e1), e4, e5, e6.keep sg (fun c hc u => k c u (.inr ⟨a, bs, e1, e2, hc⟩)) fun c hc => g c (.inr ⟨a, bs, e1, e2, hc⟩)⟩
structure Ste (K : PySem.W.Frag) (H0 G0 H G : Hp) (σ : L2.St) (env : List Sl) : Prop where
  x0 : Ext H0 G0 H G
  len : σ.length = env.length
  sl : ∀ (i : Nat) (s : Sl) (x : Option V), env[i]? = some s → σ[i]? = some x → SlOk K H0 H G s x
  disF : ∀ (i j : Nat) (s t : Sl) (x y : Option V) (c : Addr), env[i]? = some s → env[j]? = some t → σ[i]? = some x → σ[j]? = some y → Foot H s x c → Foot H t y c → i = j
theorem Ste.dis {K : PySem.W.Frag} {H0 G0 H G : Hp} {σ : L2.St} {env : List Sl} (S : Ste K H0 G0 H G σ env) (i j : Nat) (s t : Sl) (a : Addr) (e1 : env[i]? = some s) (e2 : env[j]? = some t) (o1 : s.isOwn = true) (o2 : t.isOwn = true) (v1 : σ[i]? = some (some (.ref a))) (v2 : σ[j]? = some (some (.ref a))) : i = j :=
  S.disF i j s t _ _ a e1 e2 v1 v2 (foot_top o1) (foot_top o2)
theorem Ste.wf {K : PySem.W.Frag} {H0 G0 H G : Hp} {σ : L2.St} {env : List Sl} (S : Ste K H0 G0 H G σ env) : Wf H G := S.x0.wf
theorem ext_none {H G H' G' : Hp} (x : Ext H G H' G') {a : Addr} {o : HO} (h : H a = some o) (g : G a = none) : G' a = none := by
  cases e : G' a with
  | none => rfl
  | some u =>
    rcases x.new a u e with h1 | h1
    · rw [g] at h1
      cases h1
    · rw [h] at h1
      cases h1
theorem SlOk.ext {K : PySem.W.Frag} {H0 H G H' G' : Hp} (x : Ext H G H' G') {s : Sl} {v : Option V} (h : SlOk K H0 H G s v) : SlOk K H0 H' G' s v :=
  slok_keep h x.gg (fun b u _ e => x.hh _ _ e) fun b f => by
    obtain ⟨⟨u, h1⟩, h2, _⟩ := foot_ok h f
    exact ext_none x h1 h2
theorem Ste.ext {K : PySem.W.Frag} {H0 G0 H G H' G' : Hp} {σ : L2.St} {env : List Sl} (S : Ste K H0 G0 H G σ env) (x : Ext H G H' G') : Ste K H0 G0 H' G' σ env :=
  ⟨S.x0.trans x, S.len, fun i s v e1 e2 => (S.sl i s v e1 e2).ext x, fun i j s t y z c e1 e2 v1 v2 f1 f2 => S.disF i j s t y z c e1 e2 v1 v2 (foot_back (S.sl i s y e1 v1) (fun b u _ e => x.hh _ _ e) f1) (foot_back (S.sl j t z e2 v2) (fun b u _ e => x.hh _ _ e) f2)⟩
theorem Ste.at {K : PySem.W.Frag} {H0 G0 H G : Hp} {σ : L2.St} {env : List Sl} (S : Ste K H0 G0 H G σ env) {i : Nat} {s : Sl} (e : env[i]? = some s) : ∃ x, σ[i]? = some x ∧ SlOk K H0 H G s x := by
  obtain ⟨hi, e1⟩ := List.getElem?_eq_some_iff.mp e
  have hl := S.len
  have hx : σ[i]? = some (σ[i]'(by omega)) := List.getElem?_eq_getElem (by omega)
  exact ⟨_, hx, S.sl i s _ e hx⟩
theorem set_at' {α : Type} {l : List α} {i j : Nat} {x y : α} (h : (l.set i x)[j]? = some y) : (i = j ∧ y = x) ∨ (i ≠ j ∧ l[j]? = some y) := by
  by_cases hj : i = j
  · subst hj
    obtain ⟨hi, e⟩ := List.getElem?_eq_some_iff.mp h
    rw [List.getElem_set_self] at e
    exact .inl ⟨rfl, e.symm⟩
  · rw [List.getElem?_set_ne hj] at h
    exact .inr ⟨hj, h⟩
/-- a slot is given a settled value (or forgotten) -/
theorem Ste.setV {K : PySem.W.Frag} {H0 G0 H G : Hp} {σ : L2.St} {env : List Sl} (S : Ste K H0 G0 H G σ env) (i : Nat) {s : Sl} {x : Option V} (ns : s.isOwn = false) (h : SlOk K H0 H G s x) : Ste K H0 G0 H G (σ.set i x) (env.set i s) := by
  have nf : ∀ y c, ¬ Foot H s y c := fun y c f => by
    rw [foot_own f] at ns
    cases ns
  refine ⟨S.x0, by simpa using S.len, fun j t y e1 e2 => ?_, fun j k s1 s2 y z c e1 e2 v1 v2 f1 f2 => ?_⟩
  · rcases set_at' e1 with ⟨rfl, rfl⟩ | ⟨hj, g1⟩
    · rcases set_at' e2 with ⟨_, rfl⟩ | ⟨hj, _⟩
      · exact h
      · exact absurd rfl hj
    · rw [List.getElem?_set_ne hj] at e2
      exact S.sl j t y g1 e2
  · rcases set_at' e1 with ⟨rfl, rfl⟩ | ⟨hj, g1⟩
    · exact absurd f1 (nf _ _)
    · rcases set_at' e2 with ⟨rfl, rfl⟩ | ⟨hk, g2⟩
      · exact absurd f2 (nf _ _)
      · rw [List.getElem?_set_ne hj] at v1
        rw [List.getElem?_set_ne hk] at v2
        exact S.disF j k s1 s2 y z c g1 g2 v1 v2 f1 f2
/-- a slot is given a new object that is its own -/
theorem Ste.setO {K : PySem.W.Frag} {H0 G0 H G : Hp} {σ : L2.St} {env : List Sl} (S : Ste K H0 G0 H G σ env) (i : Nat) {s : Sl} {a : Addr} (h : SlOk K H0 H G s (some (.ref a)))
    (fr : ∀ (j : Nat) (t : Sl) (y : Option V) (c : Addr), j ≠ i → env[j]? = some t → σ[j]? = some y → Foot H t y c → ¬ Foot H s (some (.ref a)) c) : Ste K H0 G0 H G (σ.set i (some (.ref a))) (env.set i s) := by
  refine ⟨S.x0, by simpa using S.len, fun j t y e1 e2 => ?_, fun j k s1 s2 y z c e1 e2 v1 v2 f1 f2 => ?_⟩
  · rcases set_at' e1 with ⟨rfl, rfl⟩ | ⟨hj, g1⟩
    · rcases set_at' e2 with ⟨_, rfl⟩ | ⟨hj, _⟩
      · exact h
      · exact absurd rfl hj
    · rw [List.getElem?_set_ne hj] at e2
      exact S.sl j t y g1 e2
  · rcases set_at' e1 with ⟨rfl, rfl⟩ | ⟨hj, g1⟩
    · rcases set_at' e2 with ⟨q, _⟩ | ⟨hk, g2⟩
      · exact q
      · rw [List.getElem?_set_ne hk] at v2
        rcases set_at' v1 with ⟨_, rfl⟩ | ⟨hj, _⟩
        · exact absurd f1 (fr k s2 z c (fun q => hk q.symm) g2 v2 f2)
        · exact absurd rfl hj
    · rw [List.getElem?_set_ne hj] at v1
      rcases set_at' e2 with ⟨rfl, rfl⟩ | ⟨hk, g2⟩
      · rcases set_at' v2 with ⟨_, rfl⟩ | ⟨hk, _⟩
        · exact absurd f2 (fr j s1 y c (fun q => hj q.symm) g1 v1 f1)
        · exact absurd rfl hk
      · rw [List.getElem?_set_ne hk] at v2
        exact S.disF j k s1 s2 y z c g1 g2 v1 v2 f1 f2
theorem Ste.foot_old {K : PySem.W.Frag} {H0 G0 H G H1 : Hp} {σ : L2.St} {env : List Sl} (S : Ste K H0 G0 H G σ env) (sh : Same H H1) {j : Nat} {t : Sl} {y : Option V} {c : Addr} (e : env[j]? = some t) (v : σ[j]? = some y) (f : Foot H1 t y c) : ∃ u, H c = some u :=
  (foot_ok (S.sl j t y e v) (foot_back (S.sl j t y e v) (fun b u _ e => sh b u e) f)).1
end PD

set_option Elab.async false
set_option linter.all false
set_option maxRecDepth 100000
namespace PD
open PySem PySem.Spec PyProof.Rows L2

/-! ### what an expression gives -/
abbrev Fe := List Sl → Option D
abbrev Fb := List Sl → Option Bool
abbrev Fl := List Sl → Option (List D)
def tD (K : PySem.W.Frag) (f : Fe) : TE := fun σ H Q => ∃ H0 G0 G env d, Ste K H0 G0 H G σ env ∧ f env = some d ∧ ∀ v H' G', Ext H G H' G' → Rp K G' d v → Q v H'
def tB (K : PySem.W.Frag) (f : Fe) : TE := fun σ H Q => ∃ H0 G0 G env d, Ste K H0 G0 H G σ env ∧ f env = some d ∧ ∀ v H' G', Ext H G H' G' → RpB K H' G' d v → Q v H'
def tT (K : PySem.W.Frag) (f : Fb) : TT := fun σ H Q => ∃ H0 G0 G env b, Ste K H0 G0 H G σ env ∧ f env = some b ∧ ∀ H' G', Ext H G H' G' → Q b H'
def tA (K : PySem.W.Frag) (f : Fl) : TA := fun σ H Q => ∃ H0 G0 G env ds, Ste K H0 G0 H G σ env ∧ f env = some ds ∧ ∀ vs H' G', Ext H G H' G' → RpL K G' ds vs → Q vs H'
def tAB (K : PySem.W.Frag) (f : Fl) : TA := fun σ H Q => ∃ H0 G0 G env ds, Ste K H0 G0 H G σ env ∧ f env = some ds ∧ ∀ vs H' G', Ext H G H' G' → RpBL K H' G' ds vs → Q vs H'
abbrev EX (X : Cx) (e : Expr) (f : Fe) : Prop := PE X e (tD X.K f)
abbrev BX (X : Cx) (e : Expr) (f : Fe) : Prop := PE X e (tB X.K f)
abbrev TX (X : Cx) (e : Expr) (f : Fb) : Prop := PT X e (tT X.K f)
abbrev AX (X : Cx) (es : List Expr) (f : Fl) : Prop := PA X es (tA X.K f)
abbrev ABX (X : Cx) (es : List Expr) (f : Fl) : Prop := PA X es (tAB X.K f)
theorem pe_imp {X : Cx} {e : Expr} {t t' : TE} (h : PE X e t) (i : ∀ σ H Q, t' σ H Q → t σ H Q) : PE X e t' := ⟨fun pins s σ H Q I q => h.run pins s σ H Q I (i σ H Q q)⟩
theorem pt_imp {X : Cx} {e : Expr} {t t' : TT} (h : PT X e t) (i : ∀ σ H Q, t' σ H Q → t σ H Q) : PT X e t' := ⟨fun pins s σ H Q I q => h.run pins s σ H Q I (i σ H Q q)⟩
theorem pa_imp {X : Cx} {es : List Expr} {t t' : TA} (h : PA X es t) (i : ∀ σ H Q, t' σ H Q → t σ H Q) : PA X es t' := ⟨fun pos pins s σ H Q I q => h.run pos pins s σ H Q I (i σ H Q q)⟩
theorem _root_.L2.OpR.imp {X : Cx} {f : Value → Value → Sem Value} {r r' : R2} (h : OpR X f r) (i : ∀ x y H Q, r' x y H Q → r x y H Q) : OpR X f r' := fun pins s σ H x y v u Q I rx ry q => h pins s σ H x y v u Q I rx ry (i x y H Q q)
theorem _root_.L2.CallR.imp {X : Cx} {f : Value} {r r' : List V → Hp → VK → Prop} (h : CallR X f r) (i : ∀ xs H Q, r' xs H Q → r xs H Q) : CallR X f r' := fun pins s σ H xs us Q I rx q => h pins s σ H xs us Q I rx (i xs H Q q)

section
variable {X : Cx} {e a b : Expr} {fa fb : Fe} {pos : Pos}
theorem bx (h : EX X e fa) : BX X e fa := by
  refine pe_imp h fun σ H Q q => ?_
  obtain ⟨H0, G0, G, env, d, S, e1, q⟩ := q
  exact ⟨H0, G0, G, env, d, S, e1, fun v H' G' x r => q v H' G' x (RpB.of x.wf r)⟩
def eVar (i : Nat) : Fe := fun env => match env[i]? with
  | some (.val d) => some d
  | _ => none
def bVar (i : Nat) : Fe := fun env => match env[i]? with
  | some (.val d) => some d
  | some (.own ds) => some (.lst ds)
  | some (.ownD t ds) => some (.dic t ds)
  | _ => none
def eC (d : D) : Fe := fun _ => some d
theorem ex_var {i : Nat} {x : Str} (hN : X.N[i]? = some x) (hv : Vis X.env.scope x) (hd : (x == ("__debug__" : Str)) = false := by decide) (hcd : (x == ("__classdict__" : Str)) = false := by decide) : EX X (.Name x pos) (eVar i) := by
  refine pe_imp (pe_var hN hv hd hcd) fun σ H Q q => ?_
  obtain ⟨H0, G0, G, env, d, S, e1, q⟩ := q
  unfold eVar at e1
  cases hs : env[i]? with
  | none => rw [hs] at e1; cases e1
  | some s =>
    rw [hs] at e1
    cases s with
    | val d' =>
      simp only [Option.some.injEq] at e1
      subst e1
      obtain ⟨y, h1, v, h2, h3⟩ := S.at hs
      subst h2
      exact ⟨v, h1, q v H G (Ext.refl S.wf) h3⟩
    | _ => cases e1
theorem bx_var {i : Nat} {x : Str} (hN : X.N[i]? = some x) (hv : Vis X.env.scope x) (hd : (x == ("__debug__" : Str)) = false := by decide) (hcd : (x == ("__classdict__" : Str)) = false := by decide) : BX X (.Name x pos) (bVar i) := by
  refine pe_imp (pe_var hN hv hd hcd) fun σ H Q q => ?_
  obtain ⟨H0, G0, G, env, d, S, e1, q⟩ := q
  unfold bVar at e1
  cases hs : env[i]? with
  | none => rw [hs] at e1; cases e1
  | some s =>
    rw [hs] at e1
    obtain ⟨y, h1, h4⟩ := S.at hs
    cases s with
    | val d' =>
      simp only [Option.some.injEq] at e1
      subst e1
      obtain ⟨v, h2, h3⟩ := h4
      subst h2
      exact ⟨v, h1, q v H G (Ext.refl S.wf) (RpB.of S.wf h3)⟩
    | own ds =>
      simp only [Option.some.injEq] at e1
      subst e1
      obtain ⟨a, xs, h2, h3, h5, h6, h7⟩ := h4
      subst h2
      exact ⟨_, h1, q _ H G (Ext.refl S.wf) ⟨a, xs, rfl, h3, h7⟩⟩
    | ownD t ds =>
      simp only [Option.some.injEq] at e1
      subst e1
      obtain ⟨a, h2, h5, h6, h7⟩ := h4
      subst h2
      refine ⟨_, h1, q _ H G (Ext.refl S.wf) ⟨a, rfl, ?_⟩⟩
      rcases h7 with ⟨ht, ks, h8, h9⟩ | ⟨ht, ks, h8, h9⟩
      · exact .inl ⟨ht, ks, .inl h8, h9⟩
      · exact .inr ⟨ht, ks, .inl h8, h9⟩
    | un => cases e1
    | own2 dss => cases e1
theorem ex_c {d : D} {v : V} (h : PE X e (tC v)) (r : ∀ K G, Rp K G d v) : EX X e (eC d) := by
  refine pe_imp h fun σ H Q q => ?_
  obtain ⟨H0, G0, G, env, d', S, e1, q⟩ := q
  cases e1
  exact q v H G (Ext.refl S.wf) (r _ _)
theorem ex_int {i j} : EX X (.Constant (.int i) j pos) (eC (.int i)) := ex_c pe_int fun _ _ => by simp only [Rp]
theorem ex_bl {i j} : EX X (.Constant (.bool i) j pos) (eC (.bl i)) := ex_c pe_bl fun _ _ => by simp only [Rp]
theorem ex_non {j} : EX X (.Constant .none j pos) (eC .non) := ex_c pe_non fun _ _ => by simp only [Rp]
theorem ex_str {x j} : EX X (.Constant (.str x) j pos) (eC (.str x)) := ex_c pe_str fun _ _ => by simp only [Rp]
/-- a constant of the module -/
theorem ex_globI {x : Str} {i : Int} {u : Value} (hg : Gl X x) (hm : X.mg x = some u) (r : RelV (.int i) u) (hd : (x == ("__debug__" : Str)) = false := by decide) : EX X (.Name x pos) (eC (.int i)) := ex_c (pe_glob hg hm r hd) fun _ _ => by simp only [Rp]

/-! ### two-place operations -/
def rD (K : PySem.W.Frag) (g : D → D → Option D) : R2 := fun x y H Q => ∃ G dx dy d, Wf H G ∧ RpB K H G dx x ∧ RpB K H G dy y ∧ g dx dy = some d ∧ ∀ v H' G', Ext H G H' G' → Rp K G' d v → Q v H'
def eOp (g : D → D → Option D) (fa fb : Fe) : Fe := fun env => (fa env).bind fun x => (fb env).bind fun y => g x y
theorem tOp_imp {g : D → D → Option D} {σ : L2.St} {H : Hp} {Q : VK} (q : tD X.K (eOp g fa fb) σ H Q) : tOp (rD X.K g) (tB X.K fa) (tB X.K fb) σ H Q := by
  obtain ⟨H0, G0, G, env, d, S, e1, q⟩ := q
  obtain ⟨dx, h1, e1⟩ := Option.bind_eq_some_iff.mp e1
  obtain ⟨dy, h2, e1⟩ := Option.bind_eq_some_iff.mp e1
  exact ⟨H0, G0, G, env, dx, S, h1, fun v H1 G1 x1 r1 => ⟨H0, G0, G1, env, dy, S.ext x1, h2, fun w H2 G2 x2 r2 =>
    ⟨G2, dx, dy, d, x2.wf, r1.ext x2, r2, e1, fun u H3 G3 x3 r3 => q u H3 G3 (x1.trans (x2.trans x3)) r3⟩⟩⟩
theorem ex_op {op : Operator} {g : D → D → Option D} (ho : OpR X (binaryOp op) (rD X.K g)) (ha : BX X a fa) (hb : BX X b fb) : EX X (.BinOp a op b pos) (eOp g fa fb) :=
  pe_imp (pe_op ho ha hb) fun _ _ _ q => tOp_imp q
theorem ex_cmp {op : CmpOp} {g : D → D → Option D} (ho : OpR X (compareOp op) (rD X.K g)) (ha : BX X a fa) (hb : BX X b fb) (hm : behindInMarks op b = false) : EX X (.Compare a [op] [b] pos) (eOp g fa fb) :=
  pe_imp (pe_cmpR ho ha hb hm) fun _ _ _ q => tOp_imp q
/-- a truth value as a test -/
def asB (f : Fe) : Fb := fun env => match f env with
  | some (.bl b) => some b
  | _ => none
theorem asB_imp {f : Fe} {σ : L2.St} {H : Hp} {Q : Bool → Hp → Prop} (q : tT X.K (asB f) σ H Q) : tD X.K f σ H fun x H' => ∃ k, x = .bl k ∧ Q k H' := by
  obtain ⟨H0, G0, G, env, k, S, e1, q⟩ := q
  unfold asB at e1
  cases hf : f env with
  | none => rw [hf] at e1; cases e1
  | some d =>
    rw [hf] at e1
    cases d with
    | bl b' =>
      simp only [Option.some.injEq] at e1
      subst e1
      refine ⟨H0, G0, G, env, _, S, hf, fun v H' G' x r => ?_⟩
      simp only [Rp] at r
      exact ⟨_, r, q H' G' x⟩
    | _ => cases e1
theorem tx_cmp {op : CmpOp} {g : D → D → Option D} (ho : OpR X (compareOp op) (rD X.K g)) (ha : BX X a fa) (hb : BX X b fb) (hm : behindInMarks op b = false) : TX X (.Compare a [op] [b] pos) (asB (eOp g fa fb)) :=
  pt_imp (pt_cmpR ho ha hb hm) fun _ _ _ q => by
    have q := asB_imp q
    exact tOp_imp (Q := fun x H' => ∃ k, x = .bl k ∧ _) q
theorem tx_val {f : Fe} (h : EX X e f) (he : ∀ whole, isTrue e X.env whole = (do let v ← whole; standAt e.pos; holding [v] (truthy v)) := by intro _; rfl) : TX X e (asB f) :=
  pt_imp (pt_val h he) fun _ _ _ q => asB_imp q
/-- truth of any value -/
def truD : D → Option Bool
  | .non => some false
  | .bl b => some b
  | .int i => some (i != 0)
  | .lst xs => some (!xs.isEmpty)
  | .tup xs => some (!xs.isEmpty)
  | .str x => if x.length ≤ 16777216 then some ((x.length : Int) != 0) else none
  | _ => none
def asT (f : Fe) : Fb := fun env => (f env).bind truD
theorem rpl_isEmpty {K : PySem.W.Frag} {G : Hp} {ds : List D} {xs : List V} (h : RpL K G ds xs) : ds.isEmpty = xs.isEmpty := by
  have := h.len
  cases ds <;> cases xs <;> simp_all
theorem tx_tru {f : Fe} (h : BX X e f) (he : ∀ whole, isTrue e X.env whole = (do let v ← whole; standAt e.pos; holding [v] (truthy v)) := by intro _; rfl) : TX X e (asT f) :=
  pt_imp (pt_truth h he) fun σ H Q q => by
    obtain ⟨H0, G0, G, env, k, S, e1, q⟩ := q
    obtain ⟨d, h1, e1⟩ := Option.bind_eq_some_iff.mp e1
    refine ⟨H0, G0, G, env, d, S, h1, fun v H' G' x r => ?_⟩
    have q := q H' G' x
    have sub := x.wf.sub
    cases d with
    | non =>
      have r : v = .non := by simpa only [RpB, Rp] using r
      subst r
      cases e1
      exact ⟨_, rfl, q⟩
    | bl b =>
      have r : v = .bl b := by simpa only [RpB, Rp] using r
      subst r
      cases e1
      exact ⟨_, rfl, q⟩
    | int b =>
      have r : v = .int b := by simpa only [RpB, Rp] using r
      subst r
      cases e1
      exact ⟨_, rfl, q⟩
    | str y =>
      have r : v = .str y := by simpa only [RpB, Rp] using r
      subst r
      simp only [truD] at e1
      split at e1
      · rename_i hy
        cases e1
        exact ⟨_, ⟨by rw [sizeLine_eq]; exact hy, rfl⟩, q⟩
      · cases e1
    | lst ds =>
      obtain ⟨a, xs, rfl, h2, h3⟩ := r
      cases e1
      exact ⟨_, .inl ⟨xs, SqL.of h2, by rw [rpl_isEmpty h3]⟩, q⟩
    | tup ds =>
      obtain ⟨a, xs, rfl, h2, h3⟩ : ∃ a xs, v = .ref a ∧ G' a = some (.tup xs) ∧ RpL X.K G' ds xs := by simpa only [RpB, Rp] using r
      cases e1
      exact ⟨_, .inr (.inl ⟨xs, Same.tup sub h2, by rw [rpl_isEmpty h3]⟩), q⟩
    | dic t ds => cases e1
    | scr ns => cases e1
    | st ns => cases e1

/-! ### and, or, not, if -/
variable {f g h : Fb} {rest : List Expr}
def tAndF (f g : Fb) : Fb := fun env => (f env).bind fun k => if k then g env else some false
def tOrF (f g : Fb) : Fb := fun env => (f env).bind fun k => if k then some true else g env
def tNotF (f : Fb) : Fb := fun env => (f env).bind fun k => some (!k)
abbrev WX (X : Cx) (e : Expr) (f : Fb) : Prop := PW X e (tT X.K f)
theorem pw_imp {X : Cx} {e : Expr} {t t' : TT} (h : PW X e t) (i : ∀ σ H Q, t' σ H Q → t σ H Q) : PW X e t' := ⟨fun wh pins s σ H Q I q => h.run wh pins s σ H Q I (i σ H Q q)⟩
theorem wx_and1 (ha : TX X a f) : WX X (.BoolOp .And [a] pos) f := pw_and1 ha
theorem wx_or1 (ha : TX X a f) : WX X (.BoolOp .Or [a] pos) f := pw_or1 ha
theorem wx_and (ha : TX X a f) (hb : WX X (.BoolOp .And (b :: rest) pos) g) : WX X (.BoolOp .And (a :: b :: rest) pos) (tAndF f g) :=
  pw_imp (pw_and ha hb) fun σ H Q q => by
    obtain ⟨H0, G0, G, env, k, S, e1, q⟩ := q
    obtain ⟨c, h1, e1⟩ := Option.bind_eq_some_iff.mp e1
    refine ⟨H0, G0, G, env, c, S, h1, fun H1 G1 x1 => ?_⟩
    cases c with
    | true => exact ⟨H0, G0, G1, env, k, S.ext x1, e1, fun H2 G2 x2 => q H2 G2 (x1.trans x2)⟩
    | false =>
      cases e1
      exact q H1 G1 x1
theorem wx_or (ha : TX X a f) (hb : WX X (.BoolOp .Or (b :: rest) pos) g) : WX X (.BoolOp .Or (a :: b :: rest) pos) (tOrF f g) :=
  pw_imp (pw_or ha hb) fun σ H Q q => by
    obtain ⟨H0, G0, G, env, k, S, e1, q⟩ := q
    obtain ⟨c, h1, e1⟩ := Option.bind_eq_some_iff.mp e1
    refine ⟨H0, G0, G, env, c, S, h1, fun H1 G1 x1 => ?_⟩
    cases c with
    | false => exact ⟨H0, G0, G1, env, k, S.ext x1, e1, fun H2 G2 x2 => q H2 G2 (x1.trans x2)⟩
    | true =>
      cases e1
      exact q H1 G1 x1
theorem tx_not (ha : TX X a f) : TX X (.UnaryOp .Not a pos) (tNotF f) :=
  pt_imp (pt_not ha) fun σ H Q q => by
    obtain ⟨H0, G0, G, env, k, S, e1, q⟩ := q
    obtain ⟨c, h1, e1⟩ := Option.bind_eq_some_iff.mp e1
    cases e1
    exact ⟨H0, G0, G, env, c, S, h1, fun H1 G1 x1 => q H1 G1 x1⟩
/-- and, or, not of truth values, as values -/
def eAnd (f g : Fe) : Fe := fun env => match f env with
  | some (.bl true) => g env
  | some (.bl false) => some (.bl false)
  | _ => none
def eOr (f g : Fe) : Fe := fun env => match f env with
  | some (.bl true) => some (.bl true)
  | some (.bl false) => g env
  | _ => none
def eNot (f : Fe) : Fe := fun env => match f env with
  | some (.bl b) => some (.bl !b)
  | _ => none
variable {ff fg : Fe}
theorem ex_one {op} (h : EX X a ff) : EX X (.BoolOp op [a] pos) ff := pe_one h
theorem ex_and (ha : EX X a ff) (hb : EX X (.BoolOp .And (b :: rest) pos) fg) : EX X (.BoolOp .And (a :: b :: rest) pos) (eAnd ff fg) :=
  pe_imp (pe_and ha hb) fun σ H Q q => by
    obtain ⟨H0, G0, G, env, d, S, e1, q⟩ := q
    unfold eAnd at e1
    cases hf : ff env with
    | none => rw [hf] at e1; cases e1
    | some c =>
      rw [hf] at e1
      cases c with
      | bl k =>
        refine ⟨H0, G0, G, env, _, S, hf, fun v H1 G1 x1 r1 => ?_⟩
        simp only [Rp] at r1
        refine ⟨k, r1, ?_⟩
        cases k with
        | true => exact ⟨H0, G0, G1, env, d, S.ext x1, e1, fun w H2 G2 x2 r2 => q w H2 G2 (x1.trans x2) r2⟩
        | false =>
          cases e1
          exact q _ H1 G1 x1 (by simp only [Rp])
      | _ => cases e1
theorem ex_or (ha : EX X a ff) (hb : EX X (.BoolOp .Or (b :: rest) pos) fg) : EX X (.BoolOp .Or (a :: b :: rest) pos) (eOr ff fg) :=
  pe_imp (pe_or ha hb) fun σ H Q q => by
    obtain ⟨H0, G0, G, env, d, S, e1, q⟩ := q
    unfold eOr at e1
    cases hf : ff env with
    | none => rw [hf] at e1; cases e1
    | some c =>
      rw [hf] at e1
      cases c with
      | bl k =>
        refine ⟨H0, G0, G, env, _, S, hf, fun v H1 G1 x1 r1 => ?_⟩
        simp only [Rp] at r1
        refine ⟨k, r1, ?_⟩
        cases k with
        | false => exact ⟨H0, G0, G1, env, d, S.ext x1, e1, fun w H2 G2 x2 r2 => q w H2 G2 (x1.trans x2) r2⟩
        | true =>
          cases e1
          exact q _ H1 G1 x1 (by simp only [Rp])
      | _ => cases e1
theorem ex_not (ha : EX X a ff) : EX X (.UnaryOp .Not a pos) (eNot ff) :=
  pe_imp (pe_not ha) fun σ H Q q => by
    obtain ⟨H0, G0, G, env, d, S, e1, q⟩ := q
    unfold eNot at e1
    cases hf : ff env with
    | none => rw [hf] at e1; cases e1
    | some c =>
      rw [hf] at e1
      cases c with
      | bl k =>
        simp only [Option.some.injEq] at e1
        subst e1
        refine ⟨H0, G0, G, env, _, S, hf, fun v H1 G1 x1 r1 => ?_⟩
        simp only [Rp] at r1
        exact ⟨k, r1, q _ H1 G1 x1 (by simp only [Rp])⟩
      | _ => cases e1
def eIf (c : Fb) (f g : Fe) : Fe := fun env => (c env).bind fun k => if k then f env else g env
theorem ex_if {c : Expr} (hc : TX X c f) (ha : EX X a ff) (hb : EX X b fg) : EX X (.IfExp c a b pos) (eIf f ff fg) :=
  pe_imp (pe_ifExp hc ha hb) fun σ H Q q => by
    obtain ⟨H0, G0, G, env, d, S, e1, q⟩ := q
    obtain ⟨k, h1, e1⟩ := Option.bind_eq_some_iff.mp e1
    refine ⟨H0, G0, G, env, k, S, h1, fun H1 G1 x1 => ?_⟩
    cases k with
    | true => exact ⟨H0, G0, G1, env, d, S.ext x1, e1, fun w H2 G2 x2 r2 => q w H2 G2 (x1.trans x2) r2⟩
    | false => exact ⟨H0, G0, G1, env, d, S.ext x1, e1, fun w H2 G2 x2 r2 => q w H2 G2 (x1.trans x2) r2⟩

/-! ### argument lists, displays -/
def aNil : Fl := fun _ => some []
def aCons (f : Fe) (g : Fl) : Fl := fun env => (f env).bind fun d => (g env).bind fun ds => some (d :: ds)
variable {es : List Expr} {fl : Fl}
theorem ax_nil : AX X [] aNil := pa_imp pa_nil fun σ H Q q => by
  obtain ⟨H0, G0, G, env, ds, S, e1, q⟩ := q
  cases e1
  exact q _ H G (Ext.refl S.wf) RpL.nil
theorem abx_nil : ABX X [] aNil := pa_imp pa_nil fun σ H Q q => by
  obtain ⟨H0, G0, G, env, ds, S, e1, q⟩ := q
  cases e1
  exact q _ H G (Ext.refl S.wf) rfl
theorem ax_cons (ha : EX X e ff) (hr : AX X es fl) (hs : starEach (e :: es) X.env = (false, eval e X.env) :: starEach es X.env := by rfl) : AX X (e :: es) (aCons ff fl) :=
  pa_imp (pa_cons ha hr hs) fun σ H Q q => by
    obtain ⟨H0, G0, G, env, ds, S, e1, q⟩ := q
    obtain ⟨d, h1, e1⟩ := Option.bind_eq_some_iff.mp e1
    obtain ⟨r, h2, e1⟩ := Option.bind_eq_some_iff.mp e1
    cases e1
    exact ⟨H0, G0, G, env, d, S, h1, fun v H1 G1 x1 r1 => ⟨H0, G0, G1, env, r, S.ext x1, h2, fun vs H2 G2 x2 r2 => q _ H2 G2 (x1.trans x2) (RpL.cons (Rp.mono x2.gg _ _ r1) r2)⟩⟩
theorem abx_cons (ha : BX X e ff) (hr : ABX X es fl) (hs : starEach (e :: es) X.env = (false, eval e X.env) :: starEach es X.env := by rfl) : ABX X (e :: es) (aCons ff fl) :=
  pa_imp (pa_cons ha hr hs) fun σ H Q q => by
    obtain ⟨H0, G0, G, env, ds, S, e1, q⟩ := q
    obtain ⟨d, h1, e1⟩ := Option.bind_eq_some_iff.mp e1
    obtain ⟨r, h2, e1⟩ := Option.bind_eq_some_iff.mp e1
    cases e1
    exact ⟨H0, G0, G, env, d, S, h1, fun v H1 G1 x1 r1 => ⟨H0, G0, G1, env, r, S.ext x1, h2, fun vs H2 G2 x2 r2 => q _ H2 G2 (x1.trans x2) ⟨_, _, rfl, r1.ext x2, r2⟩⟩⟩
/-- a size that the machine takes -/
def lim (n : Nat) : Bool := decide (n ≤ 16777216)
theorem lim_le {n : Nat} (h : lim n = true) : n ≤ sizeLine := by
  rw [sizeLine_eq]
  exact of_decide_eq_true h
def mkT (ds : List D) : Option D := if lim ds.length then some (.tup ds) else none
def mkL (ds : List D) : Option D := if lim ds.length then some (.lst ds) else none
def eTup (f : Fl) : Fe := fun env => (f env).bind mkT
def eLst (f : Fl) : Fe := fun env => (f env).bind mkL
theorem mkT_some {ds : List D} {d : D} (h : mkT ds = some d) : ds.length ≤ sizeLine ∧ d = .tup ds := by
  unfold mkT at h
  split at h
  · cases h
    exact ⟨lim_le (by assumption), rfl⟩
  · cases h
theorem mkL_some {ds : List D} {d : D} (h : mkL ds = some d) : ds.length ≤ sizeLine ∧ d = .lst ds := by
  unfold mkL at h
  split at h
  · cases h
    exact ⟨lim_le (by assumption), rfl⟩
  · cases h
/-- a new tuple, a new list -/
theorem new_tup {K : PySem.W.Frag} {H G : Hp} {ds : List D} {xs : List V} {Q : VK} (w : Wf H G) (r : RpL K G ds xs) (q : ∀ v H' G', Ext H G H' G' → Rp K G' (.tup ds) v → Q v H') : ∀ p, H p = none → Q (.ref p) (upd H p (.tup xs)) := fun p hp => by
  have x : Ext H G (upd H p (.tup xs)) (upd G p (.tup xs)) := Ext.alloc w hp
  refine q _ _ _ x ?_
  simp only [Rp]
  exact ⟨p, xs, rfl, upd_same, RpL.mono x.gg _ _ r⟩
theorem new_lst {K : PySem.W.Frag} {H G : Hp} {ds : List D} {xs : List V} {Q : VK} (w : Wf H G) (r : RpL K G ds xs) (q : ∀ v H' G', Ext H G H' G' → Rp K G' (.lst ds) v → Q v H') : ∀ p, H p = none → Q (.ref p) (upd H p (.lst xs)) := fun p hp => by
  have x : Ext H G (upd H p (.lst xs)) (upd G p (.lst xs)) := Ext.alloc w hp
  refine q _ _ _ x ?_
  simp only [Rp]
  exact ⟨p, xs, rfl, upd_same, RpL.mono x.gg _ _ r⟩
theorem ex_tup {x1} (h : AX X es fl) : EX X (.Tuple es x1 pos) (eTup fl) :=
  pe_imp (pe_tup h) fun σ H Q q => by
    obtain ⟨H0, G0, G, env, d, S, e1, q⟩ := q
    obtain ⟨ds, h1, e1⟩ := Option.bind_eq_some_iff.mp e1
    obtain ⟨hz, rfl⟩ := mkT_some e1
    exact ⟨H0, G0, G, env, ds, S, h1, fun vs H1 G1 x1 r1 => ⟨by rw [← r1.len]; exact hz, new_tup x1.wf r1 fun v H2 G2 x2 r2 => q v H2 G2 (x1.trans x2) r2⟩⟩
theorem ex_lst (h : AX X es fl) : EX X (.List es pos) (eLst fl) :=
  pe_imp (pe_lst h) fun σ H Q q => by
    obtain ⟨H0, G0, G, env, d, S, e1, q⟩ := q
    obtain ⟨ds, h1, e1⟩ := Option.bind_eq_some_iff.mp e1
    obtain ⟨hz, rfl⟩ := mkL_some e1
    exact ⟨H0, G0, G, env, ds, S, h1, fun vs H1 G1 x1 r1 => ⟨by rw [← r1.len]; exact hz, new_lst x1.wf r1 fun v H2 G2 x2 r2 => q v H2 G2 (x1.trans x2) r2⟩⟩
end
end PD

set_option Elab.async false
set_option linter.all false
set_option maxRecDepth 100000
namespace PD
open PySem PySem.Spec PyProof.Rows L2

theorem rpb_int {K : PySem.W.Frag} {H G : Hp} {i : Int} {v : V} (r : RpB K H G (.int i) v) : v = .int i := by simpa only [RpB, Rp] using r
theorem rpb_bl {K : PySem.W.Frag} {H G : Hp} {i : Bool} {v : V} (r : RpB K H G (.bl i) v) : v = .bl i := by simpa only [RpB, Rp] using r
theorem rpb_str {K : PySem.W.Frag} {H G : Hp} {i : Str} {v : V} (r : RpB K H G (.str i) v) : v = .str i := by simpa only [RpB, Rp] using r
theorem rpb_non {K : PySem.W.Frag} {H G : Hp} {v : V} (r : RpB K H G .non v) : v = .non := by simpa only [RpB, Rp] using r
theorem rpb_tup {K : PySem.W.Frag} {H G : Hp} {ds : List D} {v : V} (r : RpB K H G (.tup ds) v) : ∃ a xs, v = .ref a ∧ G a = some (.tup xs) ∧ RpL K G ds xs := by simpa only [RpB, Rp] using r
theorem rpb_scr {K : PySem.W.Frag} {H G : Hp} {ns : List Int} {v : V} (r : RpB K H G (.scr ns) v) : ∃ a, v = .ref a ∧ SqL K G a (ns.map V.int) := by simpa only [RpB, Rp] using r
theorem rp_int {K : PySem.W.Frag} {G : Hp} (i : Int) : Rp K G (.int i) (.int i) := by simp only [Rp]
theorem rp_bl {K : PySem.W.Frag} {G : Hp} (i : Bool) : Rp K G (.bl i) (.bl i) := by simp only [Rp]
theorem rp_str {K : PySem.W.Frag} {G : Hp} (i : Str) : Rp K G (.str i) (.str i) := by simp only [Rp]
theorem rp_non {K : PySem.W.Frag} {G : Hp} : Rp K G .non .non := by simp only [Rp]

section
variable {X : Cx}
/-- ints to a value, under a test -/
def gI (c : Int → Int → Bool) (g : Int → Int → D) : D → D → Option D
  | .int i, .int j => if c i j then some (g i j) else none
  | _, _ => none
theorem gI_some {c : Int → Int → Bool} {g : Int → Int → D} {x y d : D} (h : gI c g x y = some d) : ∃ i j, x = .int i ∧ y = .int j ∧ c i j = true ∧ d = g i j := by
  unfold gI at h
  split at h
  · split at h
    · cases h
      exact ⟨_, _, rfl, rfl, by assumption, rfl⟩
    · cases h
  · cases h
theorem op_gI {f : Value → Value → Sem Value} {C : Int → Int → Prop} {c : Int → Int → Bool} {k : Int → Int → V} {g : Int → Int → D} (h : OpR X f (rI C k)) (hc : ∀ i j, c i j = true → C i j) (hk : ∀ K G i j, Rp K G (g i j) (k i j)) : OpR X f (rD X.K (gI c g)) :=
  h.imp fun x y H Q q => by
    obtain ⟨G, dx, dy, d, w, rx, ry, e, q⟩ := q
    obtain ⟨i, j, rfl, rfl, hcc, rfl⟩ := gI_some e
    exact ⟨i, j, rpb_int rx, rpb_int ry, hc i j hcc, q _ H G (Ext.refl w) (hk _ _ _ _)⟩
theorem op_gI0 {f : Value → Value → Sem Value} {k : Int → Int → V} {g : Int → Int → D} (h : OpR X f (rI0 k)) (hk : ∀ K G i j, Rp K G (g i j) (k i j)) : OpR X f (rD X.K (gI (fun _ _ => true) g)) :=
  h.imp fun x y H Q q => by
    obtain ⟨G, dx, dy, d, w, rx, ry, e, q⟩ := q
    obtain ⟨i, j, rfl, rfl, hcc, rfl⟩ := gI_some e
    exact ⟨i, j, rpb_int rx, rpb_int ry, q _ H G (Ext.refl w) (hk _ _ _ _)⟩
/-- two ways for one operation -/
def gOr (g g' : D → D → Option D) : D → D → Option D := fun x y => match g x y with
  | some d => some d
  | none => g' x y
theorem op_or {f : Value → Value → Sem Value} {g g' : D → D → Option D} (h : OpR X f (rD X.K g)) (h' : OpR X f (rD X.K g')) : OpR X f (rD X.K (gOr g g')) :=
  (h.or h').imp fun x y H Q q => by
    obtain ⟨G, dx, dy, d, w, rx, ry, e, q⟩ := q
    unfold gOr at e
    cases hg : g dx dy with
    | some d' =>
      rw [hg] at e
      cases e
      exact .inl ⟨G, dx, dy, d, w, rx, ry, hg, q⟩
    | none =>
      rw [hg] at e
      exact .inr ⟨G, dx, dy, d, w, rx, ry, e, q⟩

/-! ### + -/
def gAdd : D → D → Option D
  | .int i, .int j => some (.int (i + j))
  | .str x, .str y => if lim (x.length + y.length) then some (.str (x ++ y)) else none
  | .lst xs, .lst ys => mkL (xs ++ ys)
  | .tup xs, .tup ys => mkT (xs ++ ys)
  | _, _ => none
theorem oadd : OpR X (binaryOp .Add) (rD X.K gAdd) := by
  refine ((op_add (X := X)).or (op_add_str.or (op_cat.or op_catA))).imp fun x y H Q q => ?_
  obtain ⟨G, dx, dy, d, w, rx, ry, e, q⟩ := q
  cases dx with
  | int i =>
    cases dy with
    | int j =>
      cases e
      exact .inl ⟨i, j, rpb_int rx, rpb_int ry, q _ H G (Ext.refl w) (rp_int _)⟩
    | _ => cases e
  | str i =>
    cases dy with
    | str j =>
      simp only [gAdd] at e
      split at e
      · rename_i hz
        cases e
        exact .inr (.inl ⟨i, j, rpb_str rx, rpb_str ry, lim_le hz, q _ H G (Ext.refl w) (rp_str _)⟩)
      · cases e
    | _ => cases e
  | lst ds =>
    cases dy with
    | lst es =>
      obtain ⟨hz, rfl⟩ := mkL_some (show mkL (ds ++ es) = some d from e)
      obtain ⟨a, xs, rfl, h1, h2⟩ := rx
      obtain ⟨b, ys, rfl, h3, h4⟩ := ry
      refine .inr (.inr (.inl ⟨a, b, xs, ys, rfl, rfl, h1, h3, ?_, new_lst w (h2.append h4) q⟩))
      rw [List.length_append, h2.len, h4.len] at hz
      exact hz
    | _ => cases e
  | tup ds =>
    cases dy with
    | tup es =>
      obtain ⟨hz, rfl⟩ := mkT_some (show mkT (ds ++ es) = some d from e)
      obtain ⟨a, xs, rfl, h1, h2⟩ := rpb_tup rx
      obtain ⟨b, ys, rfl, h3, h4⟩ := rpb_tup ry
      rw [List.length_append, h2.len, h4.len] at hz
      have hl := h2.len
      have hl4 := h4.len
      refine .inr (.inr (.inr ⟨a, b, xs, ys, rfl, rfl, Same.tup w.sub h1, Same.tup w.sub h3, hz, fun e1 => ?_, fun e1 e2 => ?_, fun e1 e2 => new_tup w (h2.append h4) q⟩))
      · subst e1
        have : ds = [] := by simpa using hl
        subst this
        refine q _ H G (Ext.refl w) ?_
        simp only [Rp, List.nil_append]
        exact ⟨b, ys, rfl, h3, h4⟩
      · subst e2
        have : es = [] := by simpa using hl4
        subst this
        refine q _ H G (Ext.refl w) ?_
        simp only [Rp, List.append_nil]
        exact ⟨a, xs, rfl, h1, h2⟩
    | _ => cases e
  | _ => cases e

/-! ### - * // % ** << >> & ^ and the bar -/
def gSub : D → D → Option D := gI (fun _ _ => true) fun i j => .int (i - j)
theorem osub : OpR X (binaryOp .Sub) (rD X.K gSub) := op_gI0 op_sub fun _ _ _ _ => rp_int _
def mulOk (i j : Int) : Bool := (decide (-18446744073709551616 < i) && decide (i < 18446744073709551616)) || (decide (-18446744073709551616 < j) && decide (j < 18446744073709551616))
theorem mulOk_C {i j : Int} (h : mulOk i j = true) : CMul i j := by
  unfold mulOk at h
  simp only [Bool.or_eq_true, Bool.and_eq_true, decide_eq_true_eq] at h
  unfold CMul
  omega
theorem RpL.rep {K : PySem.W.Frag} {G : Hp} {ds : List D} {xs : List V} (h : RpL K G ds xs) : ∀ k : Nat, RpL K G (List.replicate k ds).flatten (List.replicate k xs).flatten
  | 0 => RpL.nil
  | k + 1 => by
    rw [List.replicate_succ, List.replicate_succ, List.flatten_cons, List.flatten_cons]
    exact h.append (RpL.rep h k)
def gMul : D → D → Option D
  | .int i, .int j => if mulOk i j then some (.int (i * j)) else none
  | .lst xs, .int k => if decide (-1000000000 ≤ k) && decide (k ≤ 1000000000) && lim (xs.length * k.toNat) then some (.lst (List.replicate k.toNat xs).flatten) else none
  | .tup xs, .int k => if !xs.isEmpty && decide (2 ≤ k) && decide (k ≤ 1000) && decide (xs.length ≤ 1000) then some (.tup (List.replicate k.toNat xs).flatten) else none
  | _, _ => none
theorem omul : OpR X (binaryOp .Mult) (rD X.K gMul) := by
  refine ((op_mul (X := X)).or (op_rep.or op_repT)).imp fun x y H Q q => ?_
  obtain ⟨G, dx, dy, d, w, rx, ry, e, q⟩ := q
  cases dx with
  | int i =>
    cases dy with
    | int j =>
      simp only [gMul] at e
      split at e
      · rename_i hz
        cases e
        exact .inl ⟨i, j, rpb_int rx, rpb_int ry, mulOk_C hz, q _ H G (Ext.refl w) (rp_int _)⟩
      · cases e
    | _ => cases e
  | lst ds =>
    cases dy with
    | int k =>
      simp only [gMul] at e
      split at e
      · rename_i hz
        cases e
        simp only [Bool.and_eq_true, decide_eq_true_eq] at hz
        obtain ⟨⟨h5, h6⟩, h7⟩ := hz
        obtain ⟨a, xs, rfl, h1, h2⟩ := rx
        refine .inr (.inl ⟨a, k, xs, rfl, rpb_int ry, h1, by omega, by omega, ?_, new_lst w (h2.rep _) q⟩)
        rw [← h2.len]
        exact lim_le h7
      · cases e
    | _ => cases e
  | tup ds =>
    cases dy with
    | int k =>
      simp only [gMul] at e
      split at e
      · rename_i hz
        cases e
        simp only [Bool.and_eq_true, decide_eq_true_eq, Bool.not_eq_true'] at hz
        obtain ⟨⟨⟨h5, h6⟩, h7⟩, h8⟩ := hz
        obtain ⟨a, xs, rfl, h1, h2⟩ := rpb_tup rx
        refine .inr (.inr ⟨a, k, xs, rfl, rpb_int ry, Same.tup w.sub h1, ?_, h6, h7, ?_, new_tup w (h2.rep _) q⟩)
        · intro z
          subst z
          have := h2.len
          simp at this
          subst this
          cases h5
        · rw [← h2.len]
          exact h8
      · cases e
    | _ => cases e
  | _ => cases e
def gDiv : D → D → Option D := gI (fun _ j => decide (0 < j) && decide (j < 1073741824)) fun i j => .int (i / j)
theorem odiv : OpR X (binaryOp .FloorDiv) (rD X.K gDiv) := op_gI op_fdiv (fun i j h => by
  simp only [Bool.and_eq_true, decide_eq_true_eq] at h
  exact h) fun _ _ _ _ => rp_int _
def gMod : D → D → Option D := gI (fun _ j => decide (0 < j)) fun i j => .int (i % j)
theorem omod : OpR X (binaryOp .Mod) (rD X.K gMod) := op_gI op_mod (fun i j h => of_decide_eq_true h) fun _ _ _ _ => rp_int _
def powOk (i j : Int) : Bool := decide (0 ≤ j) && decide (j ≤ 1000000) && decide (i.natAbs < 18446744073709551616)
theorem powOk_C {i j : Int} (h : powOk i j = true) : CPow i j := by
  unfold powOk at h
  simp only [Bool.and_eq_true, decide_eq_true_eq] at h
  exact ⟨h.1.1, h.1.2, by omega⟩
def gPow : D → D → Option D := gI powOk fun i j => .int (i ^ j.toNat)
theorem opow : OpR X (binaryOp .Pow) (rD X.K gPow) := op_gI op_pow (fun i j h => powOk_C h) fun _ _ _ _ => rp_int _
def gShl : D → D → Option D := gI powOk fun i j => .int (i * 2 ^ j.toNat)
theorem oshl : OpR X (binaryOp .LShift) (rD X.K gShl) := op_gI op_shl (fun i j h => powOk_C h) fun _ _ _ _ => rp_int _
def gShr : D → D → Option D := gI (fun _ j => decide (0 ≤ j)) fun i j => .int (i / 2 ^ j.toNat)
theorem oshr : OpR X (binaryOp .RShift) (rD X.K gShr) := op_gI op_shr (fun i j h => of_decide_eq_true h) fun _ _ _ _ => rp_int _
def gAnd : D → D → Option D := gI (fun _ _ => true) fun i j => .int (Builtin.bitAnd i j)
theorem oand : OpR X (binaryOp .BitAnd) (rD X.K gAnd) := op_gI0 op_and fun _ _ _ _ => rp_int _
def gXor : D → D → Option D := gI (fun _ _ => true) fun i j => .int (Builtin.bitXor i j)
theorem oxor : OpR X (binaryOp .BitXor) (rD X.K gXor) := op_gI0 op_xor fun _ _ _ _ => rp_int _
def gBor : D → D → Option D := gI (fun _ _ => true) fun i j => .int (Builtin.bitOr i j)
theorem obor : OpR X (binaryOp .BitOr) (rD X.K gBor) := op_gI0 L2.op_or fun _ _ _ _ => rp_int _

/-! ### == of data -/
mutual
def py : D → PyData
  | .non => .none
  | .bl b => .bool b
  | .int i => .int i
  | .str x => .str x
  | .tup xs => .tuple (pyL xs)
  | .lst xs => .list (pyL xs)
  | .dic _ _ => .none
  | .scr ns => .list (ns.map PyData.int)
  | .st _ => .none
def pyL : List D → List PyData
  | [] => []
  | x :: xs => py x :: pyL xs
end
def okN : Nat → D → Bool
  | _, .non => true
  | _, .bl _ => true
  | _, .int _ => true
  | _, .str x => PyData.strOk x
  | n + 1, .tup xs => xs.all (okN n)
  | n + 1, .lst xs => xs.all (okN n)
  | _, _ => false
theorem okN_nd {n : Nat} {d : D} (h : okN n d = true) : notDic d = true := by
  cases d with
  | dic t kvs => cases n <;> simp [okN] at h
  | st ms => cases n <;> simp [okN] at h
  | _ => rfl
theorem okN_lay : ∀ (n : Nat) (d : D), okN n d = true → (py d).canLay0 = true ∧ (py d).depth ≤ n
  | n, .non, _ => by simp [py, PyData.canLay0, PyData.depth]
  | n, .bl _, _ => by simp [py, PyData.canLay0, PyData.depth]
  | n, .int _, _ => by simp [py, PyData.canLay0, PyData.depth]
  | n, .str x, h => by
    have h' : PyData.strOk x = true := by cases n <;> simpa [okN] using h
    simp [py, PyData.canLay0, PyData.depth, h']
  | 0, .tup xs, h => by simp [okN] at h
  | 0, .lst xs, h => by simp [okN] at h
  | 0, .dic t xs, h => by simp [okN] at h
  | 0, .scr xs, h => by simp [okN] at h
  | n, .st xs, h => by cases n <;> simp [okN] at h
  | n + 1, .dic t xs, h => by simp [okN] at h
  | n + 1, .scr xs, h => by simp [okN] at h
  | n + 1, .tup xs, h => by
    have all : ∀ ys : List D, ys.all (okN n) = true → PyData.canLayAll0 (pyL ys) = true ∧ PyData.depthAll (pyL ys) ≤ n := by
      intro ys
      induction ys with
      | nil => intro _; simp [pyL, PyData.canLayAll0, PyData.depthAll]
      | cons y ys ih =>
        intro q
        rw [List.all_cons, Bool.and_eq_true] at q
        have h1 := okN_lay n y q.1
        have h2 := ih q.2
        simp only [pyL, PyData.canLayAll0, PyData.depthAll, Bool.and_eq_true]
        exact ⟨⟨h1.1, h2.1⟩, by omega⟩
    have h' := all xs (by simpa [okN] using h)
    simp only [py, PyData.canLay0, PyData.depth]
    exact ⟨h'.1, by omega⟩
  | n + 1, .lst xs, h => by
    have all : ∀ ys : List D, ys.all (okN n) = true → PyData.canLayAll0 (pyL ys) = true ∧ PyData.depthAll (pyL ys) ≤ n := by
      intro ys
      induction ys with
      | nil => intro _; simp [pyL, PyData.canLayAll0, PyData.depthAll]
      | cons y ys ih =>
        intro q
        rw [List.all_cons, Bool.and_eq_true] at q
        have h1 := okN_lay n y q.1
        have h2 := ih q.2
        simp only [pyL, PyData.canLayAll0, PyData.depthAll, Bool.and_eq_true]
        exact ⟨⟨h1.1, h2.1⟩, by omega⟩
    have h' := all xs (by simpa [okN] using h)
    simp only [py, PyData.canLay0, PyData.depth]
    exact ⟨h'.1, by omega⟩
theorem okN_shaped {d : D} (h : okN 64 d = true) : SeqAt.shaped (py d) = true := by
  have := okN_lay 64 d h
  unfold SeqAt.shaped
  rw [Bool.and_eq_true]
  exact ⟨this.1, decide_eq_true this.2⟩
mutual
theorem Rp.dp {K : PySem.W.Frag} {H : Hp} : ∀ (d : D) (v : V) (n : Nat), okN n d = true → Rp K H d v → Dp K H v (py d)
  | .non, v, _, _, h => by
    simp only [Rp] at h
    subst h
    exact .non
  | .bl b, v, _, _, h => by
    simp only [Rp] at h
    subst h
    exact .bl b
  | .int b, v, _, _, h => by
    simp only [Rp] at h
    subst h
    exact .int b
  | .str b, v, _, _, h => by
    simp only [Rp] at h
    subst h
    exact .str b
  | .tup ds, v, n, o, h => by
    simp only [Rp] at h
    obtain ⟨a, xs, rfl, h1, h2⟩ := h
    cases n with
    | zero => simp [okN] at o
    | succ n => exact .tup (SqT.of h1) (RpL.dp ds xs n (by simpa [okN] using o) h2)
  | .lst ds, v, n, o, h => by
    simp only [Rp] at h
    obtain ⟨a, xs, rfl, h1, h2⟩ := h
    cases n with
    | zero => simp [okN] at o
    | succ n => exact .lst (SqL.of h1) (RpL.dp ds xs n (by simpa [okN] using o) h2)
  | .dic t ds, v, n, o, h => by cases n <;> simp [okN] at o
  | .scr ds, v, n, o, h => by cases n <;> simp [okN] at o
  | .st ds, v, n, o, h => by cases n <;> simp [okN] at o
theorem RpL.dp {K : PySem.W.Frag} {H : Hp} : ∀ (ds : List D) (vs : List V) (n : Nat), (∀ x ∈ ds, okN n x = true) → RpL K H ds vs → DpAll K H vs (pyL ds)
  | [], _, _, _, h => by
    simp only [RpL] at h
    subst h
    exact .nil
  | d :: ds, _, n, o, h => by
    simp only [RpL] at h
    obtain ⟨x, r, rfl, h1, h2⟩ := h
    exact .cons (Rp.dp d x n (o d List.mem_cons_self) h1) (RpL.dp ds r n (fun y hy => o y (List.mem_cons_of_mem _ hy)) h2)
end
def eqD (x y : D) : Bool := PyData.eqv (py x) (py y)
def gEq : D → D → Option D := fun x y => if okN 64 x && okN 64 y then some (.bl (eqD x y)) else none
def gNe : D → D → Option D := fun x y => if okN 64 x && okN 64 y then some (.bl (!eqD x y)) else none
theorem oeq (hu : X.A.units + 64 < cLine) : OpR X (compareOp .Eq) (rD X.K gEq) := (op_eqD hu).imp fun x y H Q q => by
  obtain ⟨G, dx, dy, d, w, rx, ry, e, q⟩ := q
  unfold gEq at e
  split at e
  · rename_i hz
    rw [Bool.and_eq_true] at hz
    cases e
    exact ⟨py dx, py dy, Rp.dp dx x 64 hz.1 (rx.all w (okN_nd hz.1)), Rp.dp dy y 64 hz.2 (ry.all w (okN_nd hz.2)), okN_shaped hz.1, okN_shaped hz.2, q _ H G (Ext.refl w) (rp_bl _)⟩
  · cases e
theorem one (hu : X.A.units + 64 < cLine) : OpR X (compareOp .NotEq) (rD X.K gNe) := (op_neD hu).imp fun x y H Q q => by
  obtain ⟨G, dx, dy, d, w, rx, ry, e, q⟩ := q
  unfold gNe at e
  split at e
  · rename_i hz
    rw [Bool.and_eq_true] at hz
    cases e
    exact ⟨py dx, py dy, Rp.dp dx x 64 hz.1 (rx.all w (okN_nd hz.1)), Rp.dp dy y 64 hz.2 (ry.all w (okN_nd hz.2)), okN_shaped hz.1, okN_shaped hz.2, q _ H G (Ext.refl w) (rp_bl _)⟩
  · cases e

/-! ### < <= > >= of ints -/
def gLt : D → D → Option D := gI (fun _ _ => true) fun i j => .bl (decide (i < j))
theorem olt : OpR X (compareOp .Lt) (rD X.K gLt) := op_gI0 op_lt fun _ _ _ _ => rp_bl _
def gLe : D → D → Option D := gI (fun _ _ => true) fun i j => .bl (decide (i ≤ j))
theorem ole : OpR X (compareOp .LtE) (rD X.K gLe) := op_gI0 op_le fun _ _ _ _ => rp_bl _
def gGt : D → D → Option D := gI (fun _ _ => true) fun i j => .bl (decide (j < i))
theorem ogt : OpR X (compareOp .Gt) (rD X.K gGt) := op_gI0 op_gt fun _ _ _ _ => rp_bl _
def gGe : D → D → Option D := gI (fun _ _ => true) fun i j => .bl (decide (j ≤ i))
theorem oge : OpR X (compareOp .GtE) (rD X.K gGe) := op_gI0 op_ge fun _ _ _ _ => rp_bl _

/-! ### is None -/
def isNon : D → Bool
  | .non => true
  | _ => false
theorem rpb_isNon {K : PySem.W.Frag} {H G : Hp} {d : D} {v : V} (r : RpB K H G d v) : decide (v = .non) = isNon d := by
  cases d with
  | non =>
    have := rpb_non r
    subst this
    rfl
  | bl _ =>
    have := rpb_bl r
    subst this
    rfl
  | int _ =>
    have := rpb_int r
    subst this
    rfl
  | str _ =>
    have := rpb_str r
    subst this
    rfl
  | tup _ =>
    obtain ⟨a, xs, rfl, _⟩ := rpb_tup r
    rfl
  | lst _ =>
    obtain ⟨a, xs, rfl, _⟩ := r
    rfl
  | dic _ _ =>
    obtain ⟨a, rfl, _⟩ := r
    rfl
  | scr _ =>
    obtain ⟨a, rfl, _⟩ := rpb_scr r
    rfl
  | st _ =>
    obtain ⟨a, rfl, _⟩ : ∃ a, v = .ref a ∧ G a = some (SetM _ a) := by simpa only [RpB, Rp] using r
    rfl
def gIs : D → D → Option D := fun x y => match y with
  | .non => some (.bl (isNon x))
  | _ => none
def gIsNot : D → D → Option D := fun x y => match y with
  | .non => some (.bl (!isNon x))
  | _ => none
theorem ois : OpR X (compareOp .Is) (rD X.K gIs) := (op_isN (X := X)).imp fun x y H Q q => by
  obtain ⟨G, dx, dy, d, w, rx, ry, e, q⟩ := q
  cases dy with
  | non =>
    cases e
    refine ⟨rpb_non ry, ?_⟩
    rw [rpb_isNon rx]
    exact q _ H G (Ext.refl w) (rp_bl _)
  | _ => cases e
theorem oisn : OpR X (compareOp .IsNot) (rD X.K gIsNot) := (op_notN (X := X)).imp fun x y H Q q => by
  obtain ⟨G, dx, dy, d, w, rx, ry, e, q⟩ := q
  cases dy with
  | non =>
    cases e
    refine ⟨rpb_non ry, ?_⟩
    rw [rpb_isNon rx]
    exact q _ H G (Ext.refl w) (rp_bl _)
  | _ => cases e

/-! ### in, not in -/
theorem op_inT (hu : X.A.units + 65 < cLine) : OpR X (compareOp .In) (fun x y H Q => ∃ d ds, Dp X.K H x d ∧ Dp X.K H y (.tuple ds) ∧ SeqAt.shaped d = true ∧ SeqAt.shaped (.tuple ds) = true ∧ Q (.bl (ds.any fun z => PyData.eqv z d)) H) := by
  intro pins s σ H x y v u Q I rx ry h
  obtain ⟨d, ds, hd, he, sd, se, q⟩ := h
  obtain ⟨as, r1⟩ := Dp.reads I d x v hd rx
  obtain ⟨bs, r2⟩ := Dp.reads I (.tuple ds) y u he ry
  exact SeqAt.in_tuple_reads r2 r1 (SeqAt.canLay_of_shaped se) (SeqAt.canLay_of_shaped sd) (room_in_shaped sd hu) ⟨.bl _, H, I, rfl, q⟩
theorem op_notInT (hu : X.A.units + 65 < cLine) : OpR X (compareOp .NotIn) (fun x y H Q => ∃ d ds, Dp X.K H x d ∧ Dp X.K H y (.tuple ds) ∧ SeqAt.shaped d = true ∧ SeqAt.shaped (.tuple ds) = true ∧ Q (.bl (!ds.any fun z => PyData.eqv z d)) H) := by
  intro pins s σ H x y v u Q I rx ry h
  obtain ⟨d, ds, hd, he, sd, se, q⟩ := h
  obtain ⟨as, r1⟩ := Dp.reads I d x v hd rx
  obtain ⟨bs, r2⟩ := Dp.reads I (.tuple ds) y u he ry
  exact SeqAt.notIn_tuple_reads r2 r1 (SeqAt.canLay_of_shaped se) (SeqAt.canLay_of_shaped sd) (room_in_shaped sd hu) ⟨.bl _, H, I, rfl, q⟩
def inD (x : D) (ys : List D) : Bool := ys.any fun y => eqD y x
theorem any_py (x : D) : ∀ ys : List D, ((pyL ys).any fun z => PyData.eqv z (py x)) = inD x ys
  | [] => rfl
  | y :: ys => by
    have := any_py x ys
    simp only [pyL, List.any_cons, inD] at this ⊢
    rw [this]
    rfl
def gIn : D → D → Option D
  | x, .lst ys => if okN 64 x && okN 64 (.lst ys) then some (.bl (inD x ys)) else none
  | x, .tup ys => if okN 64 x && okN 64 (.tup ys) then some (.bl (inD x ys)) else none
  | _, _ => none
def gNotIn : D → D → Option D
  | x, .lst ys => if okN 64 x && okN 64 (.lst ys) then some (.bl (!inD x ys)) else none
  | x, .tup ys => if okN 64 x && okN 64 (.tup ys) then some (.bl (!inD x ys)) else none
  | _, _ => none
theorem oin (hu : X.A.units + 65 < cLine) : OpR X (compareOp .In) (rD X.K gIn) := ((op_inD hu).or (op_inT hu)).imp fun x y H Q q => by
  obtain ⟨G, dx, dy, d, w, rx, ry, e, q⟩ := q
  cases dy with
  | lst ys =>
    simp only [gIn] at e
    split at e
    · rename_i hz
      rw [Bool.and_eq_true] at hz
      cases e
      refine .inl ⟨py dx, pyL ys, Rp.dp dx x 64 hz.1 (rx.all w (okN_nd hz.1)), Rp.dp (.lst ys) y 64 hz.2 (ry.all w (okN_nd hz.2)), okN_shaped hz.1, okN_shaped hz.2, ?_⟩
      rw [any_py]
      exact q _ H G (Ext.refl w) (rp_bl _)
    · cases e
  | tup ys =>
    simp only [gIn] at e
    split at e
    · rename_i hz
      rw [Bool.and_eq_true] at hz
      cases e
      refine .inr ⟨py dx, pyL ys, Rp.dp dx x 64 hz.1 (rx.all w (okN_nd hz.1)), Rp.dp (.tup ys) y 64 hz.2 (ry.all w (okN_nd hz.2)), okN_shaped hz.1, okN_shaped hz.2, ?_⟩
      rw [any_py]
      exact q _ H G (Ext.refl w) (rp_bl _)
    · cases e
  | _ => cases dx <;> cases e
theorem onotin (hu : X.A.units + 65 < cLine) : OpR X (compareOp .NotIn) (rD X.K gNotIn) := ((op_notInD hu).or (op_notInT hu)).imp fun x y H Q q => by
  obtain ⟨G, dx, dy, d, w, rx, ry, e, q⟩ := q
  cases dy with
  | lst ys =>
    simp only [gNotIn] at e
    split at e
    · rename_i hz
      rw [Bool.and_eq_true] at hz
      cases e
      refine .inl ⟨py dx, pyL ys, Rp.dp dx x 64 hz.1 (rx.all w (okN_nd hz.1)), Rp.dp (.lst ys) y 64 hz.2 (ry.all w (okN_nd hz.2)), okN_shaped hz.1, okN_shaped hz.2, ?_⟩
      rw [any_py]
      exact q _ H G (Ext.refl w) (rp_bl _)
    · cases e
  | tup ys =>
    simp only [gNotIn] at e
    split at e
    · rename_i hz
      rw [Bool.and_eq_true] at hz
      cases e
      refine .inr ⟨py dx, pyL ys, Rp.dp dx x 64 hz.1 (rx.all w (okN_nd hz.1)), Rp.dp (.tup ys) y 64 hz.2 (ry.all w (okN_nd hz.2)), okN_shaped hz.1, okN_shaped hz.2, ?_⟩
      rw [any_py]
      exact q _ H G (Ext.refl w) (rp_bl _)
    · cases e
  | _ => cases dx <;> cases e
/-- -x -/
def eUn (g : D → Option D) (f : Fe) : Fe := fun env => (f env).bind g
def gNeg : D → Option D
  | .int i => some (.int (-i))
  | _ => none
theorem ex_neg {a : Expr} {f : Fe} {pos : Pos} (ha : BX X a f) : EX X (.UnaryOp .USub a pos) (eUn gNeg f) := pe_imp (pe_un un_neg ha) fun σ H Q q => by
  obtain ⟨H0, G0, G, env, d, S, e1, q⟩ := q
  obtain ⟨c, h1, e1⟩ := Option.bind_eq_some_iff.mp e1
  refine ⟨H0, G0, G, env, c, S, h1, fun v H1 G1 x1 r1 => ?_⟩
  cases c with
  | int i =>
    cases e1
    exact ⟨i, rpb_int r1, q _ H1 G1 x1 (rp_int _)⟩
  | _ => cases e1
end
end PD

set_option Elab.async false
set_option linter.all false
set_option maxRecDepth 100000
namespace PD
open PySem PySem.Spec PyProof.Rows L2

section
variable {X : Cx} {a b e : Expr} {fa fb f : Fe} {pos : Pos} {es : List Expr} {fl : Fl}
/-! ### places -/
theorem atI_rp {K : PySem.W.Frag} {G : Hp} {ds : List D} {xs : List V} (h : RpL K G ds xs) {i : Int} {d : D} (e : atI ds i = some d) : ∃ x, atI xs i = some x ∧ Rp K G d x := by
  unfold atI at e ⊢
  obtain ⟨j, h1, h2⟩ := Option.bind_eq_some_iff.mp e
  rw [h.len] at h1
  obtain ⟨x, h3, h4⟩ := h.at h2
  exact ⟨x, by rw [h1]; exact h3, h4⟩
def gIx : D → D → Option D
  | .lst xs, .int i => atI xs i
  | .tup xs, .int i => atI xs i
  | .scr ns, .int i => (atI ns i).map D.int
  | .str z, .int i => if lim z.length then (atI z.cps.toList i).map fun c => D.str ⟨#[c]⟩ else none
  | _, _ => none
theorem atI_map {α β : Type} (g : α → β) (xs : List α) (i : Int) : atI (xs.map g) i = (atI xs i).map g := by
  unfold atI
  rw [List.length_map]
  cases ixN xs.length i with
  | none => rfl
  | some j => simp
theorem _root_.L2.IxR.imp {r r' : R2} (h : IxR X r) (i : ∀ x y H Q, r' x y H Q → r x y H Q) : IxR X r' := fun value slice pins s σ H x y v u Q I rx ry q hs => h value slice pins s σ H x y v u Q I rx ry (i x y H Q q) hs
theorem ixd : IxR X (rD X.K gIx) := (ix_seq (X := X)).imp fun x y H Q q => by
  obtain ⟨G, dx, dy, d, w, rx, ry, e, q⟩ := q
  cases dy with
  | int i =>
    have hy := rpb_int ry
    subst hy
    cases dx with
    | lst ds =>
      obtain ⟨a, xs, rfl, h1, h2⟩ := rx
      obtain ⟨z, h3, h4⟩ := atI_rp h2 (show atI ds i = some d from e)
      exact .inl ⟨a, xs, i, z, rfl, rfl, SqL.of h1, h3, q z H G (Ext.refl w) h4⟩
    | tup ds =>
      obtain ⟨a, xs, rfl, h1, h2⟩ := rpb_tup rx
      obtain ⟨z, h3, h4⟩ := atI_rp h2 (show atI ds i = some d from e)
      exact .inr (.inl ⟨a, xs, i, z, rfl, rfl, Same.tup w.sub h1, h3, q z H G (Ext.refl w) h4⟩)
    | scr ns =>
      obtain ⟨a, rfl, h1⟩ := rpb_scr rx
      obtain ⟨n, h2, rfl⟩ := Option.map_eq_some_iff.mp (show (atI ns i).map D.int = some d from e)
      exact .inl ⟨a, _, i, .int n, rfl, rfl, w.sub.seq h1, by rw [atI_map, h2]; rfl, q _ H G (Ext.refl w) (rp_int _)⟩
    | str z =>
      have hx := rpb_str rx
      subst hx
      simp only [gIx] at e
      split at e
      · rename_i hz
        obtain ⟨c, h2, rfl⟩ := Option.map_eq_some_iff.mp e
        exact .inr (.inr ⟨z, i, c, rfl, rfl, lim_le hz, h2, q _ H G (Ext.refl w) (rp_str _)⟩)
      · cases e
    | _ => cases e
  | _ => cases dx <;> cases e
theorem ex_ix (ha : BX X a fa) (hb : BX X b fb) (hs : PlainIx b) : EX X (.Subscript a b pos) (eOp gIx fa fb) := pe_imp (pe_ix ixd ha hb hs) fun _ _ _ q => tOp_imp q

/-! ### slices -/
abbrev Fo := List Sl → Option (Option Int)
def oNo : Fo := fun _ => some none
def oYes (f : Fe) : Fo := fun env => match f env with
  | some (.int i) => some (some i)
  | _ => none
def tO (K : PySem.W.Frag) (f : Fo) : TO := fun σ H Q => ∃ H0 G0 G env d, Ste K H0 G0 H G σ env ∧ f env = some d ∧ ∀ H' G', Ext H G H' G' → Q d H'
theorem po_imp {e : Option Expr} {t t' : TO} (h : PO X e t) (i : ∀ σ H Q, t' σ H Q → t σ H Q) : PO X e t' := ⟨fun pins s σ H Q I q => h.run pins s σ H Q I (i σ H Q q)⟩
abbrev OX (X : Cx) (e : Option Expr) (f : Fo) : Prop := PO X e (tO X.K f)
theorem ox_no : OX X none oNo := po_imp po_none fun σ H Q q => by
  obtain ⟨H0, G0, G, env, d, S, e1, q⟩ := q
  cases e1
  exact q H G (Ext.refl S.wf)
theorem ox_yes (h : BX X e f) : OX X (some e) (oYes f) := po_imp (po_some h) fun σ H Q q => by
  obtain ⟨H0, G0, G, env, d, S, e1, q⟩ := q
  unfold oYes at e1
  cases hf : f env with
  | none => rw [hf] at e1; cases e1
  | some c =>
    rw [hf] at e1
    cases c with
    | int i =>
      cases e1
      exact ⟨H0, G0, G, env, _, S, hf, fun v H1 G1 x1 r1 => ⟨i, rpb_int r1, q H1 G1 x1⟩⟩
    | _ => cases e1
def cutD {α : Type} (xs : List α) (lo hi : Option Int) : List α := (xs.drop (HT.sIx xs.length 0 lo)).take (HT.sIx xs.length xs.length hi - HT.sIx xs.length 0 lo)
theorem RpL.cut {K : PySem.W.Frag} {G : Hp} {ds : List D} {xs : List V} (h : RpL K G ds xs) (lo hi : Option Int) : RpL K G (cutD ds lo hi) (cutV xs lo hi) := by
  unfold cutD cutV
  rw [h.len]
  exact (h.drop _).take _
def gSl : D → Option Int → Option Int → Option D
  | .lst xs, lo, hi => some (.lst (cutD xs lo hi))
  | .tup xs, lo, hi => some (.tup (cutD xs lo hi))
  | .str z, lo, hi => if lim z.length then some (.str (cutS z lo hi)) else none
  | _, _, _ => none
def eSl (f : Fe) (lo hi : Fo) : Fe := fun env => (f env).bind fun x => (lo env).bind fun l => (hi env).bind fun h => gSl x l h
theorem _root_.L2.SlR.imp {r r' : V → Option Int → Option Int → Hp → VK → Prop} (h : SlR X r) (i : ∀ x lo hi H Q, r' x lo hi H Q → r x lo hi H Q) : SlR X r' := fun pins s σ H x v vl vu lo hi sl Q I rx hs pl pu q => h pins s σ H x v vl vu lo hi sl Q I rx hs pl pu (i x lo hi H Q q)
theorem cut_all {α : Type} {xs : List α} {lo hi : Option Int} (h : HT.sIx xs.length 0 lo = 0 ∧ HT.sIx xs.length xs.length hi = xs.length) : cutD xs lo hi = xs := by
  unfold cutD
  rw [h.1, h.2]
  simp
def rSlD (K : PySem.W.Frag) : V → Option Int → Option Int → Hp → VK → Prop := fun x lo hi H Q => ∃ G dx d, Wf H G ∧ RpB K H G dx x ∧ gSl dx lo hi = some d ∧ ∀ v H' G', Ext H G H' G' → Rp K G' d v → Q v H'
theorem sld : SlR X (rSlD X.K) := ((sl_list (X := X)).or (sl_tupA.or sl_str)).imp fun x lo hi H Q q => by
  obtain ⟨G, dx, d, w, rx, e, q⟩ := q
  cases dx with
  | lst ds =>
    obtain ⟨a, xs, rfl, h1, h2⟩ := rx
    cases e
    exact .inl ⟨a, xs, rfl, SqL.of h1, new_lst w (h2.cut lo hi) q⟩
  | tup ds =>
    obtain ⟨a, xs, rfl, h1, h2⟩ := rpb_tup rx
    cases e
    refine .inr (.inl ⟨a, xs, rfl, Same.tup w.sub h1, fun hw => ?_, fun hw => new_tup w (h2.cut lo hi) q⟩)
    refine q _ H G (Ext.refl w) ?_
    rw [← h2.len] at hw
    rw [cut_all hw]
    simp only [Rp]
    exact ⟨a, xs, rfl, h1, h2⟩
  | str z =>
    have hx := rpb_str rx
    subst hx
    simp only [gSl] at e
    split at e
    · rename_i hz
      cases e
      exact .inr (.inr ⟨z, rfl, lim_le hz, q _ H G (Ext.refl w) (rp_str _)⟩)
    · cases e
  | _ => cases e
variable {lo hi : Option Expr} {fo fh : Fo} {p2 : Pos}
theorem ex_sl (ha : BX X a fa) (hl : OX X lo fo) (hh : OX X hi fh) : EX X (.Subscript a (.Slice lo hi none p2) pos) (eSl fa fo fh) := pe_imp (pe_slice sld ha hl hh) fun σ H Q q => by
  obtain ⟨H0, G0, G, env, d, S, e1, q⟩ := q
  obtain ⟨dx, h1, e1⟩ := Option.bind_eq_some_iff.mp e1
  obtain ⟨l, h2, e1⟩ := Option.bind_eq_some_iff.mp e1
  obtain ⟨u, h3, e1⟩ := Option.bind_eq_some_iff.mp e1
  exact ⟨H0, G0, G, env, dx, S, h1, fun v H1 G1 x1 r1 => ⟨H0, G0, G1, env, l, S.ext x1, h2, fun H2 G2 x2 => ⟨H0, G0, G2, env, u, (S.ext x1).ext x2, h3, fun H3 G3 x3 =>
    ⟨G3, dx, d, x3.wf, (r1.ext x2).ext x3, e1, fun w H4 G4 x4 r4 => q w H4 G4 (x1.trans (x2.trans (x3.trans x4))) r4⟩⟩⟩⟩

/-! ### calls of built-ins -/
def rC (K : PySem.W.Frag) (g : List D → Option D) : List V → Hp → VK → Prop := fun vs H Q => ∃ G ds d, Wf H G ∧ RpBL K H G ds vs ∧ g ds = some d ∧ ∀ v H' G', Ext H G H' G' → Rp K G' d v → Q v H'
def eCall (g : List D → Option D) (fl : Fl) : Fe := fun env => (fl env).bind g
theorem tCB_imp {g : List D → Option D} {σ : L2.St} {H : Hp} {Q : VK} (q : tD X.K (eCall g fl) σ H Q) : tCB (rC X.K g) (tAB X.K fl) σ H Q := by
  obtain ⟨H0, G0, G, env, d, S, e1, q⟩ := q
  obtain ⟨ds, h1, e1⟩ := Option.bind_eq_some_iff.mp e1
  exact ⟨H0, G0, G, env, ds, S, h1, fun vs H1 G1 x1 r1 => ⟨G1, ds, d, x1.wf, r1, e1, fun v H2 G2 x2 r2 => q v H2 G2 (x1.trans x2) r2⟩⟩
variable {x : Str} {p : Pos} {id T : String} {g : List D → Option D}
theorem ex_callB (hc : CallR X (.builtin id) (rC X.K g)) (hg : Gl X x) (hm : X.mg x = none) (hv : bootBuiltins x = some (.builtin id)) (ha : ABX X (e :: es) fl) (hn : x ≠ "__name__" := by decide) (hdb : (x == ("__debug__" : Str)) = false := by decide)
    (he : starEach (e :: es) X.env = (false, eval e X.env) :: starEach es X.env := by rfl) (hpl : (backTo pos (starEach es X.env)).any (·.1) = false := by rfl) : EX X (.Call (.Name x p) (e :: es) [] pos) (eCall g fl) :=
  pe_imp (pe_callB hc hg hm hv ha hn hdb he hpl) fun _ _ _ q => tCB_imp q
theorem ex_callTy (hc : CallR X (.type T) (rC X.K g)) (hg : Gl X x) (hm : X.mg x = none) (hv : bootBuiltins x = some (.type T)) (ha : ABX X (e :: es) fl) (hn : x ≠ "__name__" := by decide) (hdb : (x == ("__debug__" : Str)) = false := by decide)
    (he : starEach (e :: es) X.env = (false, eval e X.env) :: starEach es X.env := by rfl) (hpl : (backTo pos (starEach es X.env)).any (·.1) = false := by rfl) : EX X (.Call (.Name x p) (e :: es) [] pos) (eCall g fl) :=
  pe_imp (pe_callTy hc hg hm hv ha hn hdb he hpl) fun _ _ _ q => tCB_imp q
theorem rpbl1 {K : PySem.W.Frag} {H G : Hp} {d : D} {vs : List V} (h : RpBL K H G [d] vs) : ∃ v, vs = [v] ∧ RpB K H G d v := by
  obtain ⟨v, r, rfl, h1, h2⟩ := h
  cases (show r = [] from h2)
  exact ⟨v, rfl, h1⟩
theorem rpbl2 {K : PySem.W.Frag} {H G : Hp} {d d' : D} {vs : List V} (h : RpBL K H G [d, d'] vs) : ∃ v v', vs = [v, v'] ∧ RpB K H G d v ∧ RpB K H G d' v' := by
  obtain ⟨v, r, rfl, h1, h2⟩ := h
  obtain ⟨v', r', rfl, h3, h4⟩ := h2
  cases (show r' = [] from h4)
  exact ⟨v, v', rfl, h1, h3⟩
def gLen : List D → Option D
  | [.lst xs] => some (.int xs.length)
  | [.tup xs] => some (.int xs.length)
  | [.scr xs] => some (.int xs.length)
  | [.str x] => if lim x.length then some (.int x.length) else none
  | _ => none
theorem clen : CallR X (.builtin "len") (rC X.K gLen) := ((call_len_seq (X := X)).or call_len_str).imp fun vs H Q q => by
  obtain ⟨G, ds, d, w, r, e, q⟩ := q
  unfold gLen at e
  split at e
  · cases e
    obtain ⟨v, rfl, a, xs, rfl, h1, h2⟩ := rpbl1 r
    refine .inl ⟨a, xs, rfl, .inl (SqL.of h1), ?_⟩
    rw [← h2.len]
    exact q _ H G (Ext.refl w) (rp_int _)
  · cases e
    obtain ⟨v, rfl, r1⟩ := rpbl1 r
    obtain ⟨a, xs, rfl, h1, h2⟩ := rpb_tup r1
    refine .inl ⟨a, xs, rfl, .inr (Same.tup w.sub h1), ?_⟩
    rw [← h2.len]
    exact q _ H G (Ext.refl w) (rp_int _)
  · cases e
    obtain ⟨v, rfl, r1⟩ := rpbl1 r
    obtain ⟨a, rfl, h1⟩ := rpb_scr r1
    refine .inl ⟨a, _, rfl, .inl (w.sub.seq h1), ?_⟩
    rw [List.length_map]
    exact q _ H G (Ext.refl w) (rp_int _)
  · split at e
    · rename_i hz
      cases e
      obtain ⟨v, rfl, r1⟩ := rpbl1 r
      have hx := rpb_str r1
      subst hx
      exact .inr ⟨_, rfl, lim_le hz, q _ H G (Ext.refl w) (rp_int _)⟩
    · cases e
  · cases e
def gInt : List D → Option D
  | [.int i] => some (.int i)
  | [.bl b] => some (.int (if b then 1 else 0))
  | _ => none
theorem cint : CallR X (.type "int") (rC X.K gInt) := (call_int1 (X := X)).imp fun vs H Q q => by
  obtain ⟨G, ds, d, w, r, e, q⟩ := q
  unfold gInt at e
  split at e
  · cases e
    obtain ⟨v, rfl, r1⟩ := rpbl1 r
    rw [rpb_int r1]
    exact .inl ⟨_, rfl, q _ H G (Ext.refl w) (rp_int _)⟩
  · cases e
    obtain ⟨v, rfl, r1⟩ := rpbl1 r
    rw [rpb_bl r1]
    exact .inr ⟨_, rfl, q _ H G (Ext.refl w) (rp_int _)⟩
  · cases e
def gAbs : List D → Option D
  | [.int i] => some (.int (if i < 0 then -i else i))
  | _ => none
theorem cabs : CallR X (.builtin "abs") (rC X.K gAbs) := (call_abs (X := X)).imp fun vs H Q q => by
  obtain ⟨G, ds, d, w, r, e, q⟩ := q
  unfold gAbs at e
  split at e
  · cases e
    obtain ⟨v, rfl, r1⟩ := rpbl1 r
    rw [rpb_int r1]
    exact ⟨_, rfl, q _ H G (Ext.refl w) (rp_int _)⟩
  · cases e
def intsOf : List D → Option (List Int)
  | [] => some []
  | .int i :: r => (intsOf r).map (i :: ·)
  | _ :: _ => none
theorem intsOf_some : ∀ {ds : List D} {ns : List Int}, intsOf ds = some ns → ds = ns.map D.int
  | [], ns, h => by
    cases h
    rfl
  | .int i :: r, ns, h => by
    obtain ⟨m, h1, rfl⟩ := Option.map_eq_some_iff.mp (show (intsOf r).map (i :: ·) = some ns from h)
    rw [intsOf_some h1]
    rfl
  | .non :: r, ns, h => by cases h
  | .bl _ :: r, ns, h => by cases h
  | .str _ :: r, ns, h => by cases h
  | .tup _ :: r, ns, h => by cases h
  | .lst _ :: r, ns, h => by cases h
  | .dic _ _ :: r, ns, h => by cases h
  | .scr _ :: r, ns, h => by cases h
  | .st _ :: r, ns, h => by cases h
theorem intsOf_map : ∀ ns : List Int, intsOf (ns.map D.int) = some ns
  | [] => rfl
  | n :: ns => by
    show (intsOf (ns.map D.int)).map (n :: ·) = _
    rw [intsOf_map ns]
    rfl
def blsOf : List D → Option (List Bool)
  | [] => some []
  | .bl i :: r => (blsOf r).map (i :: ·)
  | _ :: _ => none
theorem blsOf_some : ∀ {ds : List D} {ns : List Bool}, blsOf ds = some ns → ds = ns.map D.bl
  | [], ns, h => by
    cases h
    rfl
  | .bl i :: r, ns, h => by
    obtain ⟨m, h1, rfl⟩ := Option.map_eq_some_iff.mp (show (blsOf r).map (i :: ·) = some ns from h)
    rw [blsOf_some h1]
    rfl
  | .non :: r, ns, h => by cases h
  | .int _ :: r, ns, h => by cases h
  | .str _ :: r, ns, h => by cases h
  | .tup _ :: r, ns, h => by cases h
  | .lst _ :: r, ns, h => by cases h
  | .dic _ _ :: r, ns, h => by cases h
  | .scr _ :: r, ns, h => by cases h
  | .st _ :: r, ns, h => by cases h
theorem blsOf_map : ∀ ns : List Bool, blsOf (ns.map D.bl) = some ns
  | [] => rfl
  | n :: ns => by
    show (blsOf (ns.map D.bl)).map (n :: ·) = _
    rw [blsOf_map ns]
    rfl
theorem rpbl_lst {K : PySem.W.Frag} {H G : Hp} {ds : List D} {vs : List V} (h : RpBL K H G [.lst ds] vs) : ∃ a xs, vs = [.ref a] ∧ H a = some (.lst xs) ∧ RpL K G ds xs := by
  obtain ⟨v, rfl, a, xs, rfl, h1, h2⟩ := rpbl1 h
  exact ⟨a, xs, rfl, h1, h2⟩
theorem rpbl_tup {K : PySem.W.Frag} {H G : Hp} {ds : List D} {vs : List V} (h : RpBL K H G [.tup ds] vs) : ∃ a xs, vs = [.ref a] ∧ G a = some (.tup xs) ∧ RpL K G ds xs := by
  obtain ⟨v, rfl, h3⟩ := rpbl1 h
  obtain ⟨a, xs, rfl, h1, h2⟩ := rpb_tup h3
  exact ⟨a, xs, rfl, h1, h2⟩
/-- the sum of a tuple of ints -/
theorem cr_sumT (hc : X.calm = true) : CallR X (.builtin "sum") (fun vs H Q => ∃ (a : Addr) (ns : List Int), vs = [V.ref a] ∧ SqT X.K H a (ns.map V.int) ∧ Q (.int ns.sum) H) := by
  intro pins s σ H vs us Q I r h
  obtain ⟨a, ns, rfl, hs, q⟩ := h
  obtain ⟨its, rv, hl, _⟩ := I.tuple hs
  rw [Vals.ref1 r]
  obtain ⟨xs, e⟩ := rv.ints.allInts.items
  have hn : numsOf (intItems xs).toList = ns := by rw [← e]; exact rv.ints.numsOf
  rw [nums_intItems] at hn
  rw [e] at hl
  have hl' : s.heap.IsTuple a (intItems xs) := hl
  have hlt : a < s.heap.objs.size := hl.lt
  subst hn
  refine call_sum_walkG (wpAny_pyIter_tuple hl' ?_)
  refine ⟨_, _, _, _, _, _, numAt xs, rfl, Walks.tuple (A := X.A.in1) (I.ok.hd hc) _ a (Nat.ne_of_lt hlt) (intItems xs), ⟨⟨_, Heap.get?_push_size _ rfl, rfl, rfl⟩, (let ⟨o, e, r⟩ := hl'; ⟨o, Heap.get?_push_of_some _ e, r⟩)⟩, fun b hb => ?_, (fun _ _ => intItems_at), fun h' tk t' hk => ?_⟩
  · show b < (s.heap.push _).objs.size
    rw [Heap.size_push]
    rcases List.mem_cons.mp hb with rfl | hb
    · exact Nat.lt_succ_self _
    · rw [List.mem_singleton.mp hb]
      exact Nat.lt_succ_of_lt hlt
  · have hsz : (intItems xs).size = xs.size := by simp [intItems]
    rw [hsz, preSum_eq, List.take_of_length_le (by simp)]
    refine ⟨.int _, H, I.kept (h' := h') (t' := tk) (fun b o e => ?_), ⟨_, rfl⟩, q⟩
    refine hk b o (fun hm => ?_) (Heap.get?_push_of_some _ e)
    have := Heap.lt_size e
    rw [List.mem_singleton.mp hm] at this
    exact Nat.lt_irrefl _ this
end
end PD

set_option Elab.async false
set_option linter.all false
set_option maxRecDepth 100000
namespace PD
open PySem PySem.Spec PyProof.Rows L2

section
variable {X : Cx} {a b e : Expr} {fa fb f : Fe} {pos p : Pos} {es : List Expr} {fl : Fl}
theorem sqt_up {H G : Hp} (w : Wf H G) {K : PySem.W.Frag} {a : Addr} {xs : List V} (h : G a = some (.tup xs)) : SqT K H a xs := Same.tup w.sub h
def gSum : List D → Option D
  | [.lst xs] => (intsOf xs).map fun ns => .int ns.sum
  | [.tup xs] => (intsOf xs).map fun ns => .int ns.sum
  | _ => none
theorem csum (hc : X.calm = true) : CallR X (.builtin "sum") (rC X.K gSum) := ((cr_sum hc).or (cr_sumT hc)).imp fun vs H Q q => by
  obtain ⟨G, ds, d, w, r, e, q⟩ := q
  unfold gSum at e
  split at e
  · obtain ⟨ns, h1, rfl⟩ := Option.map_eq_some_iff.mp e
    obtain ⟨a, xs, rfl, h2, h3⟩ := rpbl_lst r
    rw [intsOf_some h1] at h3
    rw [h3.ints] at h2
    exact .inl ⟨a, ns, rfl, SqL.of h2, q _ H G (Ext.refl w) (rp_int _)⟩
  · obtain ⟨ns, h1, rfl⟩ := Option.map_eq_some_iff.mp e
    obtain ⟨a, xs, rfl, h2, h3⟩ := rpbl_tup r
    rw [intsOf_some h1] at h3
    rw [h3.ints] at h2
    exact .inr ⟨a, ns, rfl, sqt_up w h2, q _ H G (Ext.refl w) (rp_int _)⟩
  · cases e
def gAll : List D → Option D
  | [.lst xs] => (blsOf xs).map fun bs => .bl (bs.all id)
  | _ => none
def gAny : List D → Option D
  | [.lst xs] => (blsOf xs).map fun bs => .bl (bs.any id)
  | _ => none
theorem call (hc : X.calm = true) : CallR X (.builtin "all") (rC X.K gAll) := (cr_all hc).imp fun vs H Q q => by
  obtain ⟨G, ds, d, w, r, e, q⟩ := q
  unfold gAll at e
  split at e
  · obtain ⟨ns, h1, rfl⟩ := Option.map_eq_some_iff.mp e
    obtain ⟨a, xs, rfl, h2, h3⟩ := rpbl_lst r
    rw [blsOf_some h1] at h3
    rw [h3.bls] at h2
    exact ⟨a, ns, rfl, SqL.of h2, q _ H G (Ext.refl w) (rp_bl _)⟩
  · cases e
theorem cany (hc : X.calm = true) : CallR X (.builtin "any") (rC X.K gAny) := (cr_any hc).imp fun vs H Q q => by
  obtain ⟨G, ds, d, w, r, e, q⟩ := q
  unfold gAny at e
  split at e
  · obtain ⟨ns, h1, rfl⟩ := Option.map_eq_some_iff.mp e
    obtain ⟨a, xs, rfl, h2, h3⟩ := rpbl_lst r
    rw [blsOf_some h1] at h3
    rw [h3.bls] at h2
    exact ⟨a, ns, rfl, SqL.of h2, q _ H G (Ext.refl w) (rp_bl _)⟩
  · cases e
def gTuple : List D → Option D
  | [.lst xs] => some (.tup xs)
  | [.tup xs] => some (.tup xs)
  | _ => none
theorem ctuple : CallR X (.type "tuple") (rC X.K gTuple) := (call_tuple_of (X := X)).imp fun vs H Q q => by
  obtain ⟨G, ds, d, w, r, e, q⟩ := q
  unfold gTuple at e
  split at e
  · cases e
    obtain ⟨a, xs, rfl, h2, h3⟩ := rpbl_lst r
    exact ⟨a, xs, rfl, .inl ⟨SqL.of h2, new_tup w h3 q⟩⟩
  · cases e
    obtain ⟨a, xs, rfl, h2, h3⟩ := rpbl_tup r
    refine ⟨a, xs, rfl, .inr ⟨sqt_up w h2, q _ H G (Ext.refl w) ?_⟩⟩
    simp only [Rp]
    exact ⟨a, xs, rfl, h2, h3⟩
  · cases e
def gMax2 : List D → Option D
  | [.int i, .int j] => some (.int (if j > i then j else i))
  | _ => none
def gMin2 : List D → Option D
  | [.int i, .int j] => some (.int (if j < i then j else i))
  | _ => none
theorem cmax2 (hc : X.calm = true) : CallR X (.builtin "max") (rC X.K gMax2) := (call_max2 hc).imp fun vs H Q q => by
  obtain ⟨G, ds, d, w, r, e, q⟩ := q
  unfold gMax2 at e
  split at e
  · cases e
    obtain ⟨u, v, rfl, h1, h2⟩ := rpbl2 r
    rw [rpb_int h1, rpb_int h2]
    exact ⟨_, _, rfl, q _ H G (Ext.refl w) (rp_int _)⟩
  · cases e
theorem cmin2 (hc : X.calm = true) : CallR X (.builtin "min") (rC X.K gMin2) := (call_min2 hc).imp fun vs H Q q => by
  obtain ⟨G, ds, d, w, r, e, q⟩ := q
  unfold gMin2 at e
  split at e
  · cases e
    obtain ⟨u, v, rfl, h1, h2⟩ := rpbl2 r
    rw [rpb_int h1, rpb_int h2]
    exact ⟨_, _, rfl, q _ H G (Ext.refl w) (rp_int _)⟩
  · cases e
/-- the least, the greatest of ints -/
def minL : Int → List Int → Int
  | m, [] => m
  | m, x :: r => minL (min m x) r
def maxL : Int → List Int → Int
  | m, [] => m
  | m, x :: r => maxL (max m x) r
theorem minL_spec : ∀ (r : List Int) (m : Int), minL m r ∈ m :: r ∧ ∀ y ∈ m :: r, minL m r ≤ y
  | [], m => by simp [minL]
  | x :: r, m => by
    obtain ⟨h1, h2⟩ := minL_spec r (min m x)
    simp only [minL]
    constructor
    · rcases List.mem_cons.mp h1 with h | h
      · rw [h]
        rcases Int.le_total m x with q | q
        · rw [Int.min_eq_left q]
          exact List.mem_cons_self
        · rw [Int.min_eq_right q]
          exact List.mem_cons_of_mem _ List.mem_cons_self
      · exact List.mem_cons_of_mem _ (List.mem_cons_of_mem _ h)
    · intro y hy
      have h0 := h2 (min m x) List.mem_cons_self
      rcases List.mem_cons.mp hy with h | h
      · omega
      · rcases List.mem_cons.mp h with h | h
        · omega
        · exact h2 y (List.mem_cons_of_mem _ h)
theorem maxL_spec : ∀ (r : List Int) (m : Int), maxL m r ∈ m :: r ∧ ∀ y ∈ m :: r, y ≤ maxL m r
  | [], m => by simp [maxL]
  | x :: r, m => by
    obtain ⟨h1, h2⟩ := maxL_spec r (max m x)
    simp only [maxL]
    constructor
    · rcases List.mem_cons.mp h1 with h | h
      · rw [h]
        rcases Int.le_total m x with q | q
        · rw [Int.max_eq_right q]
          exact List.mem_cons_of_mem _ List.mem_cons_self
        · rw [Int.max_eq_left q]
          exact List.mem_cons_self
      · exact List.mem_cons_of_mem _ (List.mem_cons_of_mem _ h)
    · intro y hy
      have h0 := h2 (max m x) List.mem_cons_self
      rcases List.mem_cons.mp hy with h | h
      · omega
      · rcases List.mem_cons.mp h with h | h
        · omega
        · exact h2 y (List.mem_cons_of_mem _ h)
def gMinI : List D → Option D
  | [.lst xs] => (intsOf xs).bind fun ns => match ns with
    | [] => none
    | n :: r => some (.int (minL n r))
  | _ => none
def gMaxI : List D → Option D
  | [.lst xs] => (intsOf xs).bind fun ns => match ns with
    | [] => none
    | n :: r => some (.int (maxL n r))
  | _ => none
theorem cminI (hc : X.calm = true) : CallR X (.builtin "min") (rC X.K gMinI) := (cr_min hc).imp fun vs H Q q => by
  obtain ⟨G, ds, d, w, r, e, q⟩ := q
  unfold gMinI at e
  split at e
  · obtain ⟨ns, h1, e⟩ := Option.bind_eq_some_iff.mp e
    obtain ⟨a, xs, rfl, h2, h3⟩ := rpbl_lst r
    rw [intsOf_some h1] at h3
    rw [h3.ints] at h2
    cases ns with
    | nil => cases e
    | cons n r =>
      cases e
      refine ⟨a, n :: r, rfl, SqL.of h2, by simp, fun m hm hle => ?_⟩
      have hs := minL_spec r n
      have : m = minL n r := Int.le_antisymm (hle _ hs.1) (hs.2 m hm)
      subst this
      exact q _ H G (Ext.refl w) (rp_int _)
  · cases e
theorem cmaxI (hc : X.calm = true) : CallR X (.builtin "max") (rC X.K gMaxI) := (cr_max hc).imp fun vs H Q q => by
  obtain ⟨G, ds, d, w, r, e, q⟩ := q
  unfold gMaxI at e
  split at e
  · obtain ⟨ns, h1, e⟩ := Option.bind_eq_some_iff.mp e
    obtain ⟨a, xs, rfl, h2, h3⟩ := rpbl_lst r
    rw [intsOf_some h1] at h3
    rw [h3.ints] at h2
    cases ns with
    | nil => cases e
    | cons n r =>
      cases e
      refine ⟨a, n :: r, rfl, SqL.of h2, by simp, fun m hm hle => ?_⟩
      have hs := maxL_spec r n
      have : m = maxL n r := Int.le_antisymm (hs.2 m hm) (hle _ hs.1)
      subst this
      exact q _ H G (Ext.refl w) (rp_int _)
  · cases e

/-! ### isinstance -/
def tyD : D → String
  | .non => "NoneType"
  | .bl _ => "bool"
  | .int _ => "int"
  | .str _ => "str"
  | .tup _ => "tuple"
  | .lst _ => "list"
  | .scr _ => "list"
  | .dic _ _ => "dict"
  | .st _ => "dict"
def isiD (T : String) (d : D) : Bool := decide (tyD d = T) || (decide (T = "int") && decide (tyD d = "bool"))
def kitOk (T : String) : Prop := ∀ t ∈ ["NoneType", "bool", "int", "str", "tuple", "list", "dict"], kitB t T = some (decide (t = T) || (decide (T = "int") && decide (t = "bool")))
theorem kit_int : kitOk "int" := by
  intro t ht
  simp only [List.mem_cons, List.not_mem_nil, or_false] at ht
  rcases ht with rfl | rfl | rfl | rfl | rfl | rfl | rfl <;> decide +kernel
theorem kit_bool : kitOk "bool" := by
  intro t ht
  simp only [List.mem_cons, List.not_mem_nil, or_false] at ht
  rcases ht with rfl | rfl | rfl | rfl | rfl | rfl | rfl <;> decide +kernel
theorem kit_tuple : kitOk "tuple" := by
  intro t ht
  simp only [List.mem_cons, List.not_mem_nil, or_false] at ht
  rcases ht with rfl | rfl | rfl | rfl | rfl | rfl | rfl <;> decide +kernel
theorem kit_str : kitOk "str" := by
  intro t ht
  simp only [List.mem_cons, List.not_mem_nil, or_false] at ht
  rcases ht with rfl | rfl | rfl | rfl | rfl | rfl | rfl <;> decide +kernel
theorem kit_list : kitOk "list" := by
  intro t ht
  simp only [List.mem_cons, List.not_mem_nil, or_false] at ht
  rcases ht with rfl | rfl | rfl | rfl | rfl | rfl | rfl <;> decide +kernel
theorem tyD_mem (d : D) : tyD d ∈ ["NoneType", "bool", "int", "str", "tuple", "list", "dict"] := by cases d <;> simp [tyD]
theorem rpb_ty {K : PySem.W.Frag} {H G : Hp} (w : Wf H G) {d : D} {v : V} (hd : notDic d = true) (r : RpB K H G d v) : TyX K H v (.type (tyD d)) := by
  cases d with
  | non =>
    rw [rpb_non r]
    exact .base .non
  | bl _ =>
    rw [rpb_bl r]
    exact .base (.bl _)
  | int _ =>
    rw [rpb_int r]
    exact .base (.int _)
  | str _ =>
    rw [rpb_str r]
    exact .base (.str _)
  | tup _ =>
    obtain ⟨a, xs, rfl, h, _⟩ := rpb_tup r
    rcases sqt_up w h with (h | ⟨o, h⟩) | ⟨o, its, n, h, hc, _⟩
    · exact .base (.tup h)
    · exact .fTuple h
    · exact .kTuple h hc
  | lst _ =>
    obtain ⟨a, xs, rfl, h, _⟩ := r
    exact .base (.lst h)
  | scr _ =>
    obtain ⟨a, rfl, h⟩ := rpb_scr r
    rcases w.sub.seq h with (h | ⟨o, h⟩) | ⟨o, its, n, h, hc, _⟩
    · exact .base (.lst h)
    · exact .base (.frz h)
    · exact .kList h hc
  | dic _ _ => cases hd
  | st _ => cases hd
def isiO (T : String) (d : D) : Option D := if notDic d then some (.bl (isiD T d)) else none
def eIsi (T : String) (f : Fe) : Fe := fun env => (f env).bind (isiO T)
theorem ex_isi {T : String} {x2 : Str} {p2 : Pos} (k : kitOk T) (hg : Gl X "isinstance") (hm : X.mg "isinstance" = none) (ha : BX X e f) (hg2 : Gl X x2) (hm2 : X.mg x2 = none) (hv2 : bootBuiltins x2 = some (.type T)) (hn2 : x2 ≠ "__name__" := by decide) (hd2 : (x2 == ("__debug__" : Str)) = false := by decide)
    (h1 : starEach [e, .Name x2 p2] X.env = (false, eval e X.env) :: starEach [.Name x2 p2] X.env := by rfl) (hpl : (backTo pos (starEach [.Name x2 p2] X.env)).any (·.1) = false := by rfl) : EX X (.Call (.Name "isinstance" p) [e, .Name x2 p2] [] pos) (eIsi T f) :=
  pe_imp (pe_callB (call_isi (X := X)) hg hm boot_isinstance (pa_cons ha (pa_cons (pe_bltn (v := .ty T) hg2 hm2 hv2 rfl hn2 hd2) pa_nil (by rfl)) h1) (by decide) (by decide) h1 hpl) fun σ H Q q => by
    obtain ⟨H0, G0, G, env, d, S, e1, q⟩ := q
    obtain ⟨c, h1, e1⟩ := Option.bind_eq_some_iff.mp e1
    unfold isiO at e1
    split at e1
    rotate_left
    · cases e1
    rename_i hnd
    cases e1
    refine ⟨H0, G0, G, env, c, S, h1, fun v H1 G1 x1 r1 => ?_⟩
    exact ⟨v, .ty T, .type (tyD c), .type T, isiD T c, rfl, .ty T, rpb_ty x1.wf hnd r1, kit_ty (k _ (tyD_mem c)), q _ H1 G1 x1 (rp_bl _)⟩

/-! ### defs of the text -/
def spD (K : PySem.W.Frag) (run : List D → Option D) (n : Nat) : Sp := fun vs H Q _ => vs.length = n ∧ ∃ G ds d, Wf H G ∧ RpL K G ds vs ∧ run ds = some d ∧ ∀ v H' G', Ext H G H' G' → Rp K G' d v → Q v H'
mutual
def noMut : D → Bool
  | .non => true
  | .bl _ => true
  | .int _ => true
  | .str _ => true
  | .tup xs => noMutL xs
  | .lst _ => false
  | .dic _ _ => false
  | .scr _ => false
  | .st _ => false
def noMutL : List D → Bool
  | [] => true
  | x :: xs => noMut x && noMutL xs
end
theorem noMut_tup (xs : List D) : noMut (.tup xs) = xs.all noMut := by
  have : ∀ ys : List D, noMutL ys = ys.all noMut := by
    intro ys
    induction ys with
    | nil => rfl
    | cons y ys ih => simp only [noMutL, List.all_cons, ih]
  simp only [noMut, this]
/-- G' cut back to what G held -/
def back (H G G' : Hp) : Hp := fun b => match H b with
  | some _ => G b
  | none => G' b
theorem back_ext {H G H' G' : Hp} (w : Wf H G) (x : Ext H H H' G') : Ext H G H' (back H G G') := by
  refine ⟨x.hh, fun b o e => ?_, ⟨fun b o e => ?_, fun b o e hh => ?_⟩, fun b o e => ?_⟩
  · unfold back
    rw [w.sub b o e]
    exact e
  · unfold back at e
    cases h : H b with
    | some u =>
      rw [h] at e
      exact x.hh _ _ (w.sub b o e)
    | none =>
      rw [h] at e
      exact x.wf.sub b o e
  · unfold back
    cases h : H b with
    | some u =>
      have := x.hh b u h
      rw [e] at this
      cases this
      exact w.tin b o h hh
    | none => exact x.wf.tin b o e hh
  · unfold back at e
    cases h : H b with
    | some u =>
      rw [h] at e
      exact .inl e
    | none => exact .inr rfl
theorem back_tup {H G H' G' : Hp} (w : Wf H G) (x : Ext H H H' G') {a : Addr} {xs : List V} (h : G' a = some (.tup xs)) : back H G G' a = some (.tup xs) := by
  have key : ∀ o : HO, Hid o = false → G' a = some o → back H G G' a = some o := fun o ho e => by
    unfold back
    cases h : H a with
    | some u =>
      have h1 := x.hh a u h
      rw [x.wf.sub a o e] at h1
      cases h1
      exact w.tin a o h ho
    | none => exact e
  exact key _ rfl h
mutual
theorem back_rp {K : PySem.W.Frag} {H G H' G' : Hp} (w : Wf H G) (x : Ext H H H' G') : ∀ (d : D) (v : V), noMut d = true → Rp K G' d v → Rp K (back H G G') d v
  | .non, _, _, h => by simp only [Rp] at h ⊢; exact h
  | .bl _, _, _, h => by simp only [Rp] at h ⊢; exact h
  | .int _, _, _, h => by simp only [Rp] at h ⊢; exact h
  | .str _, _, _, h => by simp only [Rp] at h ⊢; exact h
  | .tup ds, _, n, h => by
    simp only [Rp] at h ⊢
    obtain ⟨a, xs, e1, e2, e3⟩ := h
    exact ⟨a, xs, e1, back_tup w x e2, back_rpL w x ds xs (by simpa only [noMut] using n) e3⟩
  | .lst ds, _, n, h => by simp [noMut] at n
  | .dic t ds, _, n, h => by simp [noMut] at n
  | .scr _, _, n, h => by simp [noMut] at n
  | .st _, _, n, h => by simp [noMut] at n
theorem back_rpL {K : PySem.W.Frag} {H G H' G' : Hp} (w : Wf H G) (x : Ext H H H' G') : ∀ (ds : List D) (xs : List V), noMutL ds = true → RpL K G' ds xs → RpL K (back H G G') ds xs
  | [], _, _, h => by simp only [RpL] at h ⊢; exact h
  | d :: ds, _, n, h => by
    simp only [RpL] at h ⊢
    simp only [noMutL, Bool.and_eq_true] at n
    obtain ⟨y, r, e1, e2, e3⟩ := h
    exact ⟨y, r, e1, back_rp w x d y n.1 e2, back_rpL w x ds r n.2 e3⟩
end
theorem RpBL.all {K : PySem.W.Frag} {H G : Hp} (w : Wf H G) : ∀ {ds : List D} {vs : List V}, ds.all notDic = true → RpBL K H G ds vs → RpL K H ds vs
  | [], _, _, h => by
    simp only [RpL]
    exact h
  | d :: ds, _, n, h => by
    rw [List.all_cons, Bool.and_eq_true] at n
    obtain ⟨y, r, rfl, e2, e3⟩ := h
    exact RpL.cons (e2.all w n.1) (RpBL.all w n.2 e3)
/-- f(e, ..): settled arguments -/
def eFn (run : List D → Option D) (fl : Fl) : Fe := fun env => (fl env).bind run
/-- .. where arguments may be lists that still change: what comes back has none -/
def eFnB (run : List D → Option D) (fl : Fl) : Fe := fun env => (fl env).bind fun ds => (run ds).bind fun d => if noMut d && ds.all notDic then some d else none
variable {k n : Nat} {g : Addr} {fd : FuncData} {ps : List Str} {run : List D → Option D} {x : Str}
theorem rpl_len {K : PySem.W.Frag} {G : Hp} {ds : List D} {vs : List V} (h : RpL K G ds vs) : ds.length = vs.length := h.len
theorem ex_fn (F : FnOk X.prog X.w X.K X.mg X.base CX0 k g fd ps (spD X.K run n)) (hn : ∀ ds d, run ds = some d → ds.length = n) (hr : Room k X.A) (hg : Gl X x) (hm : X.mg x = some (.ref g)) (hk : PySem.W.keepIn X.K (.ref g) = true) (hb : Binds X.K fd ps [])
    (ha : AX X (e :: es) fl) (hdb : (x == ("__debug__" : Str)) = false := by decide) (he : starEach (e :: es) X.env = (false, eval e X.env) :: starEach es X.env := by rfl) (hpl : (backTo pos (starEach es X.env)).any (·.1) = false := by rfl) :
    EX X (.Call (.Name x p) (e :: es) [] pos) (eFn run fl) := pe_imp (pe_call F hr hg hm hk hb .nil pass0 ha hdb he hpl) fun σ H Q q => by
  obtain ⟨H0, G0, G, env, d, S, e1, q⟩ := q
  obtain ⟨ds, h1, e1⟩ := Option.bind_eq_some_iff.mp e1
  refine ⟨H0, G0, G, env, ds, S, h1, fun vs H1 G1 x1 r1 => ?_⟩
  show spD X.K run n (vs ++ []) H1 Q E0
  rw [List.append_nil]
  exact ⟨by rw [← r1.len, hn ds d e1], G1, ds, d, x1.wf, r1, e1, fun v H2 G2 x2 r2 => q v H2 G2 (x1.trans x2) r2⟩
theorem ex_fnB (F : FnOk X.prog X.w X.K X.mg X.base CX0 k g fd ps (spD X.K run n)) (hn : ∀ ds d, run ds = some d → ds.length = n) (hr : Room k X.A) (hg : Gl X x) (hm : X.mg x = some (.ref g)) (hk : PySem.W.keepIn X.K (.ref g) = true) (hb : Binds X.K fd ps [])
    (ha : ABX X (e :: es) fl) (hdb : (x == ("__debug__" : Str)) = false := by decide) (he : starEach (e :: es) X.env = (false, eval e X.env) :: starEach es X.env := by rfl) (hpl : (backTo pos (starEach es X.env)).any (·.1) = false := by rfl) :
    EX X (.Call (.Name x p) (e :: es) [] pos) (eFnB run fl) := pe_imp (pe_call F hr hg hm hk hb .nil pass0 ha hdb he hpl) fun σ H Q q => by
  obtain ⟨H0, G0, G, env, d, S, e1, q⟩ := q
  obtain ⟨ds, h1, e1⟩ := Option.bind_eq_some_iff.mp e1
  obtain ⟨d', h2, e1⟩ := Option.bind_eq_some_iff.mp e1
  split at e1
  · rename_i hz
    cases e1
    rw [Bool.and_eq_true] at hz
    obtain ⟨hz, hnd⟩ := hz
    refine ⟨H0, G0, G, env, ds, S, h1, fun vs H1 G1 x1 r1 => ?_⟩
    show spD X.K run n (vs ++ []) H1 Q E0
    rw [List.append_nil]
    refine ⟨by rw [← (r1.all x1.wf hnd).len, hn ds d h2], H1, ds, d, ⟨Same.refl _, fun _ _ e _ => e⟩, r1.all x1.wf hnd, h2, fun v H2 G2 x2 r2 => ?_⟩
    exact q v H2 _ (x1.trans (back_ext x1.wf x2)) (back_rp x1.wf x2 d v hz r2)
  · cases e1
end
end PD

set_option Elab.async false
set_option linter.all false
set_option maxRecDepth 100000
namespace PD
open PySem PySem.Spec PyProof.Rows L2

/-! ### what is walked -/
def ItC (K : PySem.W.Frag) (J : It) (ds : List D) (H1 G1 : Hp) : Prop := ∀ (i : Nat) (H G : Hp), Same H1 H → Same G1 G → Wf H G →
  (ds.length ≤ i → J.stop i H) ∧ ∀ d, ds[i]? = some d → J.go i H ∧ ∀ x H', J.yld i H x H' → ∃ G', Ext H G H' G' ∧ Rp K G' d x
def ItL (K : PySem.W.Frag) (J : It) (ds : List D) (H1 G1 : Hp) : Prop := ∀ (i : Nat) (H G : Hp), Same G1 G → Wf H G →
  (ds.length ≤ i → J.stop i H) ∧ ∀ d, ds[i]? = some d → J.go i H ∧ ∀ x H', J.yld i H x H' → ∃ G', Ext H G H' G' ∧ Rp K G' d x
theorem ItL.c {K : PySem.W.Frag} {J : It} {ds : List D} {H1 G1 : Hp} (h : ItL K J ds H1 G1) : ItC K J ds H1 G1 := fun i H G _ s w => h i H G s w
def iC (K : PySem.W.Frag) (f : Fl) : TI := fun σ H R => ∃ H0 G0 G env ds, Ste K H0 G0 H G σ env ∧ f env = some ds ∧ ∀ J H' G', Ext H G H' G' → ItC K J ds H' G' → R J H'
def iL (K : PySem.W.Frag) (f : Fl) : TI := fun σ H R => ∃ H0 G0 G env ds, Ste K H0 G0 H G σ env ∧ f env = some ds ∧ ∀ J H' G', Ext H G H' G' → ItL K J ds H' G' → R J H'
abbrev ICX (X : Cx) (tg e : Expr) (f : Fl) : Prop := PI X tg e (iC X.K f)
abbrev ILX (X : Cx) (tg e : Expr) (f : Fl) : Prop := PI X tg e (iL X.K f)
theorem pi_imp {X : Cx} {tg e : Expr} {t t' : TI} (h : PI X tg e t) (i : ∀ σ H Q, t' σ H Q → t σ H Q) : PI X tg e t' := ⟨fun pins s σ H Q I q => h.run pins s σ H Q I (i σ H Q q)⟩
theorem ilx_c {X : Cx} {tg e : Expr} {f : Fl} (h : ILX X tg e f) : ICX X tg e f := pi_imp h fun σ H R q => by
  obtain ⟨H0, G0, G, env, ds, S, e1, q⟩ := q
  exact ⟨H0, G0, G, env, ds, S, e1, fun J H' G' x r => q J H' G' x r.c⟩
def iAny (K : PySem.W.Frag) (tl : TE) : TI := fun σ H R => tl σ H fun x H1 => (∃ a, x = .ref a ∧ (∃ xs, SqL K H1 a xs) ∧ R (Itl K a) H1) ∨ (∃ a, x = .ref a ∧ (∃ xs, SqT K H1 a xs) ∧ R (Itt K a) H1) ∨ ∃ z, x = .str z ∧ R (Its z) H1
theorem pi_any {X : Cx} {tg l : Expr} {tl : TE} (hl : PE X l tl) : PI X tg l (iAny X.K tl) := by
  refine ⟨fun pins s σ H R I h => ?_⟩
  refine thn (hl.run pins s σ H _ I h) fun v s1 ⟨x, H1, I1, r1, q1⟩ => ?_
  rcases q1 with ⟨a, e, hq⟩ | ⟨a, e, hq⟩ | ⟨z, e, hq⟩
  · have c : PE X l (fun σ H Q => False) := ⟨fun _ _ _ _ _ _ z => z.elim⟩
    subst e
    cases r1
    obtain ⟨⟨xs, hq⟩, q⟩ := hq
    obtain ⟨its, rv, p, hz⟩ := I1.list hq
    refine wpAny_pyIter_list p.isList ?_
    refine ⟨s1.heap.objs.size, [s1.heap.objs.size], _, _, H1, rfl, I1.kept (t' := s1.toks) fun b o e => Heap.get?_push_of_some _ e, turn_list a _, ⟨_, Heap.get?_push_size _ rfl, rfl, rfl⟩, fun b hb => ?_, q⟩
    have e : b = s1.heap.objs.size := by simpa using hb
    subst e
    exact I1.fpOk (Nat.le_refl _) (I1.hok.fresh (Nat.le_refl _))
  · subst e
    cases r1
    obtain ⟨⟨xs, hq⟩, q⟩ := hq
    obtain ⟨its, rv, p, hz⟩ := I1.tuple hq
    refine wpAny_pyIter_tuple (show s1.heap.IsTuple a its.toArray from p) ?_
    refine ⟨s1.heap.objs.size, [s1.heap.objs.size], _, _, H1, rfl, I1.kept (t' := s1.toks) fun b o e => Heap.get?_push_of_some _ e, turn_tuple a _, ⟨_, Heap.get?_push_size _ rfl, rfl, rfl⟩, fun b hb => ?_, q⟩
    have e : b = s1.heap.objs.size := by simpa using hb
    subst e
    exact I1.fpOk (Nat.le_refl _) (I1.hok.fresh (Nat.le_refl _))
  · subst e
    obtain ⟨t, rfl⟩ := r1
    cases ha : z.cps.all (· < 128)
    · exact wpAny_pyIter_wide ha (pi_one (tk := s1.toks) I1 _ (turn_str _ z t "str_iterator" (.inr rfl)) ⟨_, Heap.get?_push_size _ rfl, rfl, rfl⟩ hq)
    · exact wpAny_pyIter_ascii ha (pi_one (tk := s1.toks) I1 _ (turn_str _ z t "str_ascii_iterator" (.inl rfl)) ⟨_, Heap.get?_push_size _ rfl, rfl, rfl⟩ hq)
/-- what a sequence gives -/
def itemsD : D → Option (List D)
  | .lst xs => some xs
  | .tup xs => some xs
  | .scr ns => some (ns.map D.int)
  | .str z => some (z.cps.toList.map fun c => D.str ⟨#[c]⟩)
  | _ => none
def iSeq (f : Fe) : Fl := fun env => (f env).bind itemsD
section
variable {X : Cx} {tg e : Expr} {f : Fe} {fl : Fl} {pos p : Pos}
theorem itl_ok {K : PySem.W.Frag} {a : Addr} {xs : List V} {ds : List D} {H1 G1 : Hp} (h : ∀ H G : Hp, Same G1 G → Wf H G → Same H1 H → SqL K H a xs) (r : RpL K G1 ds xs) : ItC K (Itl K a) ds H1 G1 := fun i H G sh sg w => by
  have hs := h H G sg w sh
  refine ⟨fun hi => ⟨xs, hs, by rw [← r.len]; exact hi⟩, fun d hd => ?_⟩
  obtain ⟨x, hx, rx⟩ := r.at hd
  refine ⟨⟨xs, x, hs, hx⟩, fun y H' hy => ?_⟩
  obtain ⟨rfl, hy⟩ := hy
  have := hy xs hs
  rw [hx] at this
  cases this
  exact ⟨G, Ext.refl w, Rp.mono sg _ _ rx⟩
theorem itl_okL {K : PySem.W.Frag} {a : Addr} {xs : List V} {ds : List D} {H1 G1 : Hp} (h : ∀ H G : Hp, Same G1 G → Wf H G → SqL K H a xs) (r : RpL K G1 ds xs) : ItL K (Itl K a) ds H1 G1 := fun i H G sg w => by
  have hs := h H G sg w
  refine ⟨fun hi => ⟨xs, hs, by rw [← r.len]; exact hi⟩, fun d hd => ?_⟩
  obtain ⟨x, hx, rx⟩ := r.at hd
  refine ⟨⟨xs, x, hs, hx⟩, fun y H' hy => ?_⟩
  obtain ⟨rfl, hy⟩ := hy
  have := hy xs hs
  rw [hx] at this
  cases this
  exact ⟨G, Ext.refl w, Rp.mono sg _ _ rx⟩
theorem itt_okL {K : PySem.W.Frag} {a : Addr} {xs : List V} {ds : List D} {H1 G1 : Hp} (h : G1 a = some (.tup xs)) (r : RpL K G1 ds xs) : ItL K (Itt K a) ds H1 G1 := fun i H G sg w => by
  have hs := sqt_up (K := K) w (sg _ _ h)
  refine ⟨fun hi => ⟨xs, hs, by rw [← r.len]; exact hi⟩, fun d hd => ?_⟩
  obtain ⟨x, hx, rx⟩ := r.at hd
  refine ⟨⟨xs, x, hs, hx⟩, fun y H' hy => ?_⟩
  obtain ⟨rfl, hy⟩ := hy
  have := hy xs hs
  rw [hx] at this
  cases this
  exact ⟨G, Ext.refl w, Rp.mono sg _ _ rx⟩
theorem its_okL {K : PySem.W.Frag} {z : Str} {H1 G1 : Hp} : ItL K (Its z) (z.cps.toList.map fun c => D.str ⟨#[c]⟩) H1 G1 := fun i H G sg w => by
  refine ⟨fun hi => ?_, fun d hd => ?_⟩
  · rw [List.length_map, Array.length_toList] at hi
    exact hi
  · rw [List.getElem?_map] at hd
    obtain ⟨c, hc, rfl⟩ := Option.map_eq_some_iff.mp hd
    rw [Array.getElem?_toList] at hc
    refine ⟨(Array.getElem?_eq_some_iff.mp hc).1, fun y H' hy => ?_⟩
    obtain ⟨rfl, c', h1, rfl⟩ := hy
    rw [hc] at h1
    cases h1
    exact ⟨G, Ext.refl w, rp_str _⟩
theorem icx_seq (h : BX X e f) : ICX X tg e (iSeq f) := pi_imp (pi_any h) fun σ H R q => by
  obtain ⟨H0, G0, G, env, ds, S, e1, q⟩ := q
  obtain ⟨d, h1, e1⟩ := Option.bind_eq_some_iff.mp e1
  refine ⟨H0, G0, G, env, d, S, h1, fun v H1 G1 x1 r1 => ?_⟩
  cases d with
  | lst xs =>
    cases e1
    obtain ⟨a, xs, rfl, h2, h3⟩ := r1
    exact .inl ⟨a, rfl, ⟨xs, SqL.of h2⟩, q _ H1 G1 x1 (itl_ok (fun H G _ _ sh => SqL.of (sh _ _ h2)) h3)⟩
  | tup xs =>
    cases e1
    obtain ⟨a, xs, rfl, h2, h3⟩ := rpb_tup r1
    exact .inr (.inl ⟨a, rfl, ⟨xs, sqt_up x1.wf h2⟩, q _ H1 G1 x1 (itt_okL h2 h3).c⟩)
  | scr ns =>
    cases e1
    obtain ⟨a, rfl, h2⟩ := rpb_scr r1
    exact .inl ⟨a, rfl, ⟨_, x1.wf.sub.seq h2⟩, q _ H1 G1 x1 (itl_okL (fun H G sg w => w.sub.seq (sg.seq h2)) (RpL.of_ints ns)).c⟩
  | str z =>
    cases e1
    exact .inr (.inr ⟨z, rpb_str r1, q _ H1 G1 x1 its_okL.c⟩)
  | _ => cases e1
theorem ilx_seq (h : EX X e f) : ILX X tg e (iSeq f) := pi_imp (pi_any h) fun σ H R q => by
  obtain ⟨H0, G0, G, env, ds, S, e1, q⟩ := q
  obtain ⟨d, h1, e1⟩ := Option.bind_eq_some_iff.mp e1
  refine ⟨H0, G0, G, env, d, S, h1, fun v H1 G1 x1 r1 => ?_⟩
  cases d with
  | lst xs =>
    cases e1
    simp only [Rp] at r1
    obtain ⟨a, xs, rfl, h2, h3⟩ := r1
    exact .inl ⟨a, rfl, ⟨xs, SqL.of (x1.wf.sub _ _ h2)⟩, q _ H1 G1 x1 (itl_okL (fun H G sg w => SqL.of (w.sub _ _ (sg _ _ h2))) h3)⟩
  | tup xs =>
    cases e1
    simp only [Rp] at r1
    obtain ⟨a, xs, rfl, h2, h3⟩ := r1
    exact .inr (.inl ⟨a, rfl, ⟨xs, sqt_up x1.wf h2⟩, q _ H1 G1 x1 (itt_okL h2 h3)⟩)
  | scr ns =>
    cases e1
    simp only [Rp] at r1
    obtain ⟨a, rfl, h2⟩ := r1
    exact .inl ⟨a, rfl, ⟨_, x1.wf.sub.seq h2⟩, q _ H1 G1 x1 (itl_okL (fun H G sg w => w.sub.seq (sg.seq h2)) (RpL.of_ints ns))⟩
  | str z =>
    cases e1
    simp only [Rp] at r1
    exact .inr (.inr ⟨z, r1, q _ H1 G1 x1 its_okL⟩)
  | _ => cases e1

/-! ### ranges -/
def rngL (lo : Int) (n : Nat) : List D := (List.range n).map fun k => .int (lo + (k : Nat))
def rngOk (i : Int) : Bool := decide (-1000000000 ≤ i) && decide (i ≤ 1000000000)
theorem rngOk_b {i : Int} (h : rngOk i = true) : -(2 ^ 62) ≤ i ∧ i < 2 ^ 62 := by
  unfold rngOk at h
  simp only [Bool.and_eq_true, decide_eq_true_eq] at h
  omega
theorem itr_okL {K : PySem.W.Frag} {lo : Int} {n : Nat} {H1 G1 : Hp} : ItL K (Itr lo n) (rngL lo n) H1 G1 := fun i H G sg w => by
  unfold rngL
  refine ⟨fun hi => ?_, fun d hd => ?_⟩
  · rw [List.length_map, List.length_range] at hi
    exact hi
  · rw [List.getElem?_map] at hd
    obtain ⟨c, hc, rfl⟩ := Option.map_eq_some_iff.mp hd
    obtain ⟨hi, hc⟩ := List.getElem?_eq_some_iff.mp hc
    rw [List.getElem_range] at hc
    subst hc
    rw [List.length_range] at hi
    refine ⟨hi, fun y H' hy => ?_⟩
    obtain ⟨rfl, rfl⟩ := hy
    exact ⟨G, Ext.refl w, rp_int _⟩
def iRg1 (f : Fl) : Fl := fun env => match f env with
  | some [.int j] => if rngOk j then some (rngL 0 j.toNat) else none
  | _ => none
def iRg2 (f : Fl) : Fl := fun env => match f env with
  | some [.int i, .int j] => if rngOk i && rngOk j then some (rngL i (j - i).toNat) else none
  | _ => none
variable {a b c : Expr}
theorem ilx_rg1 (hg : Gl X "range") (hm : X.mg "range" = none) (ha : ABX X [a] fl) (hs : starEach [a] X.env = [(false, eval a X.env)] := by rfl) : ILX X tg (.Call (.Name "range" p) [a] [] pos) (iRg1 fl) := pi_imp (pi_range1 hg hm ha hs) fun σ H R q => by
  obtain ⟨H0, G0, G, env, ds, S, e1, q⟩ := q
  unfold iRg1 at e1
  split at e1
  · rename_i j hj
    split at e1
    · rename_i hz
      cases e1
      refine ⟨H0, G0, G, env, _, S, hj, fun vs H1 G1 x1 r1 => ?_⟩
      obtain ⟨v, rfl, r⟩ := rpbl1 r1
      exact ⟨j, by rw [rpb_int r], (rngOk_b hz).1, (rngOk_b hz).2, q _ H1 G1 x1 itr_okL⟩
    · cases e1
  · cases e1
theorem ilx_rg2 (hg : Gl X "range") (hm : X.mg "range" = none) (ha : ABX X [a, b] fl) (hs : starEach [a, b] X.env = [(false, eval a X.env), (false, eval b X.env)] := by rfl) (hs2 : starEach [b] X.env = [(false, eval b X.env)] := by rfl) : ILX X tg (.Call (.Name "range" p) [a, b] [] pos) (iRg2 fl) := pi_imp (pi_range2 hg hm ha hs hs2) fun σ H R q => by
  obtain ⟨H0, G0, G, env, ds, S, e1, q⟩ := q
  unfold iRg2 at e1
  split at e1
  · rename_i i j hj
    split at e1
    · rename_i hz
      rw [Bool.and_eq_true] at hz
      cases e1
      refine ⟨H0, G0, G, env, _, S, hj, fun vs H1 G1 x1 r1 => ?_⟩
      obtain ⟨v, u, rfl, r, r'⟩ := rpbl2 r1
      exact ⟨i, j, by rw [rpb_int r, rpb_int r'], ⟨(rngOk_b hz.1).1, (rngOk_b hz.1).2, (rngOk_b hz.2).1, (rngOk_b hz.2).2⟩, q _ H1 G1 x1 itr_okL⟩
    · cases e1
  · cases e1

/-! ### targets -/
abbrev Ft := D → List Sl → Option (List Sl)
abbrev Fts := List D → List Sl → Option (List Sl)
def out (S : List Nat) (σ σ' : L2.St) : Prop := σ'.length = σ.length ∧ ∀ i, i ∉ S → σ'[i]? = σ[i]?
def tG (K : PySem.W.Frag) (f : Ft) (S : List Nat) : TG := fun v σ H Q => ∃ H0 G0 G env d env', Ste K H0 G0 H G σ env ∧ Rp K G d v ∧ f d env = some env' ∧ ∀ σ', Ste K H0 G0 H G σ' env' → out S σ σ' → Q σ' H
def tGs (K : PySem.W.Frag) (f : Fts) (S : List Nat) : TGs := fun vs σ H Q => ∃ H0 G0 G env ds env', Ste K H0 G0 H G σ env ∧ RpL K G ds vs ∧ f ds env = some env' ∧ ∀ σ', Ste K H0 G0 H G σ' env' → out S σ σ' → Q σ' H
abbrev GX (X : Cx) (tg : Expr) (f : Ft) (S : List Nat) : Prop := PG X tg (tG X.K f S)
abbrev GsX (X : Cx) (tg : List Expr) (f : Fts) (S : List Nat) : Prop := PGs X tg (tGs X.K f S)
theorem pg_imp {tg : Expr} {t t' : TG} (h : PG X tg t) (i : ∀ v σ H Q, t' v σ H Q → t v σ H Q) : PG X tg t' := ⟨fun pins s σ H v u Q I r q => h.run pins s σ H v u Q I r (i v σ H Q q)⟩
theorem pgs_imp {tg : List Expr} {t t' : TGs} (h : PGs X tg t) (i : ∀ v σ H Q, t' v σ H Q → t v σ H Q) : PGs X tg t' := ⟨fun pins s σ H v u Q I r q => h.run pins s σ H v u Q I r (i v σ H Q q)⟩
def gNm (i : Nat) : Ft := fun d env => some (env.set i (.val d))
def gTp (f : Fts) : Ft := fun d env => match d with
  | .tup xs => f xs env
  | _ => none
def gsNil : Fts := fun ds env => match ds with
  | [] => some env
  | _ => none
def gsCons (f : Ft) (g : Fts) : Fts := fun ds env => match ds with
  | d :: r => (f d env).bind fun env' => g r env'
  | _ => none
theorem gx_nm {i : Nat} {x : Str} (hN : X.N.Nodup) (hi : X.N[i]? = some x) (hx : Loc X.env.scope x) (hf : X.fn x = true ∨ X.env.scope.names.lookup x = some .local := by first | exact .inl rfl | exact .inr rfl | assumption) : GX X (.Name x pos) (gNm i) [i] :=
  pg_imp (pg_name hN hi hx hf) fun v σ H Q q => by
    obtain ⟨H0, G0, G, env, d, env', S, r, e, q⟩ := q
    cases e
    refine q _ (S.setV i rfl ⟨v, rfl, r⟩) ⟨by simp, fun j hj => ?_⟩
    rw [List.getElem?_set_ne]
    intro z
    subst z
    simp at hj
theorem gsx_nil : GsX X [] gsNil [] := pgs_imp pgs_nil fun vs σ H Q q => by
  obtain ⟨H0, G0, G, env, ds, env', S, r, e, q⟩ := q
  cases ds with
  | nil =>
    cases e
    simp only [RpL] at r
    exact ⟨r, q σ S ⟨rfl, fun _ _ => rfl⟩⟩
  | cons _ _ => cases e
theorem gsx_cons {e : Expr} {es : List Expr} {f : Ft} {g : Fts} {S1 S2 : List Nat} (h1 : GX X e f S1) (h2 : GsX X es g S2) (hs : (assignEach (e :: es) X.env).map (·.2) = assign e X.env :: (assignEach es X.env).map (·.2) := by rfl) : GsX X (e :: es) (gsCons f g) (S1 ++ S2) :=
  pgs_imp (pgs_cons h1 h2 hs) fun vs σ H Q q => by
    obtain ⟨H0, G0, G, env, ds, env', S, r, e, q⟩ := q
    cases ds with
    | nil => cases e
    | cons d ds =>
      obtain ⟨env1, h3, h4⟩ := Option.bind_eq_some_iff.mp e
      simp only [RpL] at r
      obtain ⟨x, xr, rfl, r1, r2⟩ := r
      refine ⟨x, xr, rfl, H0, G0, G, env, d, env1, S, r1, h3, fun σ1 T1 o1 => ⟨H0, G0, G, env1, ds, env', T1, r2, h4, fun σ2 T2 o2 => q σ2 T2 ⟨o2.1.trans o1.1, fun i hi => ?_⟩⟩⟩
      rw [List.mem_append, not_or] at hi
      exact (o2.2 i hi.2).trans (o1.2 i hi.1)
theorem gx_tp {es : List Expr} {k : Nat} {f : Fts} {S : List Nat} {n : Nat} (hc : X.calm = true) (h : GsX X es f S) (hl : ∀ ds env env', f ds env = some env' → ds.length = n)
    (hn : (assignEach es X.env).length = n := by rfl) (hst : (assignEach es X.env).findIdx? (·.1) = none := by rfl) : GX X (.Tuple es k pos) (gTp f) S := pg_imp (pg_tup hc h hn hst) fun v σ H Q q => by
  obtain ⟨H0, G0, G, env, d, env', S', r, e, q⟩ := q
  cases d with
  | tup ds =>
    simp only [Rp] at r
    obtain ⟨a, xs, rfl, r1, r2⟩ := r
    have e' : f ds env = some env' := e
    exact ⟨a, xs, rfl, sqt_up S'.wf r1, by rw [← r2.len]; exact hl _ _ _ e', H0, G0, G, env, ds, env', S', r2, e', q⟩
  | _ => cases e
theorem gsl_nil : ∀ ds env env', gsNil ds env = some env' → ds.length = 0 := fun ds env env' h => by
  cases ds with
  | nil => rfl
  | cons _ _ => cases h
theorem gsl_cons {f : Ft} {g : Fts} {n : Nat} (h : ∀ ds env env', g ds env = some env' → ds.length = n) : ∀ ds env env', gsCons f g ds env = some env' → ds.length = n + 1 := fun ds env env' e => by
  cases ds with
  | nil => cases e
  | cons d ds =>
    obtain ⟨env1, h3, h4⟩ := Option.bind_eq_some_iff.mp e
    rw [List.length_cons, h _ _ _ h4]

/-! ### a new list -/
def tF (K : PySem.W.Frag) (f : Fl) : TE := fun σ H Q => ∃ H0 G0 G env ds, Ste K H0 G0 H G σ env ∧ f env = some ds ∧ ∀ p xs H' G', Ext H G H' G' → H p = none → H' p = some (.lst xs) → G' p = none → RpL K G' ds xs → Q (.ref p) H'
abbrev FX (X : Cx) (e : Expr) (f : Fl) : Prop := PE X e (tF X.K f)
def asL (f : Fl) : Fe := fun env => (f env).map .lst
/-- a list that still changed is settled -/
theorem Ext.settle {H G : Hp} (w : Wf H G) {H0 : Hp} {p : Addr} {xs : List V} (h : H p = some (.lst xs)) : Wf H (upd G p (.lst xs)) := by
  refine ⟨fun b o e => ?_, fun b o e hh => ?_⟩
  · by_cases hb : b = p
    · subst hb
      rw [upd_same] at e
      rw [h]
      exact e
    · rw [upd_ne hb] at e
      exact w.sub b o e
  · by_cases hb : b = p
    · subst hb
      rw [h] at e
      cases e
      cases hh
    · rw [upd_ne hb]
      exact w.tin b o e hh
theorem settle_ext {H G H' G' : Hp} (x : Ext H G H' G') {p : Addr} {xs : List V} (h : H' p = some (.lst xs)) (n : H p = none) (g : G' p = none) : Ext H G H' (upd G' p (.lst xs)) := by
  refine ⟨x.hh, fun b o e => ?_, Ext.settle (H0 := H) x.wf h, fun b o e => ?_⟩
  · have hb : b ≠ p := fun z => by
      subst z
      have z := x.gg _ _ e
      rw [g] at z
      cases z
    rw [upd_ne hb]
    exact x.gg b o e
  · by_cases hb : b = p
    · subst hb
      exact .inr n
    · rw [upd_ne hb] at e
      exact x.new b o e
theorem tF_D {K : PySem.W.Frag} {fl : Fl} {σ : L2.St} {H : Hp} {Q : VK} (q : tD K (asL fl) σ H Q) : tF K fl σ H Q := by
  obtain ⟨H0, G0, G, env, d, S, e1, q⟩ := q
  obtain ⟨ds, h1, rfl⟩ := Option.map_eq_some_iff.mp e1
  refine ⟨H0, G0, G, env, ds, S, h1, fun p xs H1 G1 x1 hn hp hg r => ?_⟩
  refine q _ H1 _ (settle_ext x1 hp hn hg) ?_
  simp only [Rp]
  exact ⟨p, xs, rfl, upd_same, RpL.mono (same_updN hg) _ _ r⟩
theorem ex_f (h : FX X e fl) : EX X e (asL fl) := pe_imp h fun _ _ _ q => tF_D q
/-- from HandS's «a list at any new place» -/
theorem tF_new {K : PySem.W.Frag} {H G : Hp} {ds : List D} {xs : List V} {Q : VK} (w : Wf H G) (r : RpL K G ds xs) (q : ∀ p xs H' G', Ext H G H' G' → H p = none → H' p = some (.lst xs) → G' p = none → RpL K G' ds xs → Q (.ref p) H') : ∀ p, H p = none → Q (.ref p) (upd H p (.lst xs)) :=
  fun p hp => q p xs _ G (Ext.fresh w hp rfl) hp upd_same (wf_none w hp) r
theorem fx_lst {es : List Expr} (h : AX X es fl) : FX X (.List es pos) (fun env => (fl env).bind fun ds => if lim ds.length then some ds else none) :=
  pe_imp (pe_lst h) fun σ H Q q => by
    obtain ⟨H0, G0, G, env, d, S, e1, q⟩ := q
    obtain ⟨ds, h1, e1⟩ := Option.bind_eq_some_iff.mp e1
    split at e1
    · rename_i hz
      cases e1
      exact ⟨H0, G0, G, env, _, S, h1, fun vs H1 G1 x1 r1 => ⟨by rw [← r1.len]; exact lim_le hz, tF_new x1.wf r1 fun p xs H2 G2 x2 n2 h2 g2 r2 => q p xs H2 G2 (x1.trans x2) (x1.hh.free n2) h2 g2 r2⟩⟩
    · cases e1

/-! ### comprehensions -/
def wipeE (env : List Sl) : List Nat → List Sl
  | [] => env
  | v :: vs => (wipeE env vs).set v .un
theorem Ste.wipe {K : PySem.W.Frag} {H0 G0 H G : Hp} {σ : L2.St} {env : List Sl} (S : Ste K H0 G0 H G σ env) : ∀ vs : List Nat, Ste K H0 G0 H G (L2.wipe σ vs) (wipeE env vs)
  | [] => S
  | v :: vs => (Ste.wipe S vs).setV v rfl trivial
def compL (t : Ft) (c : Fb) (y : Fe) (env : List Sl) : List D → Option (List D)
  | [] => some []
  | x :: xs => (t x env).bind fun env1 => (c env1).bind fun k => if k then (y env1).bind fun d => (compL t c y env xs).map (d :: ·) else compL t c y env xs
def fLc (own : List Nat) (it : Fl) (t : Ft) (c : Fb) (y : Fe) : Fl := fun env => (it env).bind fun xs => if lim xs.length then compL t c y (wipeE env own) xs else none
def tYesF : Fb := fun _ => some true
theorem out_wipe {σ σ' : L2.St} {S vs : List Nat} (h : out S (L2.wipe σ vs) σ') (hs : ∀ i ∈ S, i ∈ vs) : L2.wipe σ' vs = L2.wipe σ vs := by
  have key : ∀ (τ : L2.St) (ws : List Nat) (i : Nat), i < τ.length → (L2.wipe τ ws)[i]? = if i ∈ ws then some none else τ[i]? := by
    intro τ ws
    induction ws with
    | nil => intro i hi; simp [L2.wipe]
    | cons v ws ih =>
      intro i hi
      unfold L2.wipe
      by_cases hv : v = i
      · subst hv
        rw [List.getElem?_set_self (by rw [wipe_length]; exact hi)]
        simp
      · rw [List.getElem?_set_ne hv, ih i hi]
        simp only [List.mem_cons, (show ¬ i = v from fun e => hv e.symm), false_or]
  apply List.ext_getElem?
  intro i
  have hl : σ'.length = σ.length := by rw [h.1, wipe_length]
  by_cases hi : i < σ.length
  · rw [key σ' vs i (by omega), key σ vs i hi]
    by_cases hm : i ∈ vs
    · simp [hm]
    · rw [if_neg hm, if_neg hm]
      have := h.2 i (fun z => hm (hs i z))
      rw [key σ vs i hi, if_neg hm] at this
      exact this
  · rw [List.getElem?_eq_none (by rw [wipe_length]; omega), List.getElem?_eq_none (by rw [wipe_length]; omega)]
/-- the new list grows -/
theorem Ext.grow {H1 G1 H G : Hp} (x : Ext H1 G1 H G) {p : Addr} {xs : List V} (n : H1 p = none) (g : G p = none) : Ext H1 G1 (upd H p (.lst xs)) G := by
  refine ⟨fun b o e => ?_, x.gg, ⟨fun b o e => ?_, fun b o e hh => ?_⟩, x.new⟩
  · rw [upd_ne (ne_of_none e n)]
    exact x.hh b o e
  · rw [upd_ne (ne_of_none e g)]
    exact x.wf.sub b o e
  · by_cases hb : b = p
    · subst hb
      rw [upd_same] at e
      cases e
      cases hh
    · rw [upd_ne hb] at e
      exact x.wf.tin b o e hh
theorem tLc_of {K : PySem.W.Frag} {it : Fl} {t : Ft} {Sg : List Nat} {ct : Fb} {y : Fe} {vs : List Nat} (hsub : ∀ i ∈ Sg, i ∈ vs) {σ : L2.St} {H : Hp} {Q : VK} (q : tF K (fLc vs it t ct y) σ H Q) : tLc (iC K it) (tG K t Sg) (tT K ct) (tD K y) vs σ H Q := by
  obtain ⟨H0, G0, G, env, ds, S, e1, q⟩ := q
  obtain ⟨xs, h1, e1⟩ := Option.bind_eq_some_iff.mp e1
  split at e1
  · rename_i hz
    refine ⟨H0, G0, G, env, xs, S, h1, fun J H1 G1 x1 hJ Dd hD => ?_⟩
    have S1 := S.ext x1
    have hz' := lim_le hz
    refine ⟨fun i m H2 => m = xs.length - i ∧ i ≤ xs.length ∧ ∃ G2 acc ds1 ds2, Ext H1 G1 H2 G2 ∧ H2 Dd = some (.lst acc) ∧ G2 Dd = none ∧ RpL K G2 ds1 acc ∧ ds1.length ≤ i ∧ compL t ct y (wipeE env vs) (xs.drop i) = some ds2 ∧ ds = ds1 ++ ds2,
      ⟨xs.length, by omega, Nat.zero_le _, G1, [], [], ds, Ext.fresh x1.wf hD rfl, upd_same, wf_none x1.wf hD, RpL.nil, Nat.le_refl _, e1, rfl⟩, ?_⟩
    rintro i m H2 ⟨rfl, hi, G2, acc, ds1, ds2, x2, hD2, gD2, r2, hl2, hc2, rfl⟩
    have hj := hJ i H2 G2 x2.hh x2.gg x2.wf
    by_cases hlt : i < xs.length
    · have hx : xs[i]? = some xs[i] := List.getElem?_eq_getElem hlt
      obtain ⟨go, hy⟩ := hj.2 _ hx
      rw [List.drop_eq_getElem_cons hlt] at hc2
      obtain ⟨env1, h3, h4⟩ := Option.bind_eq_some_iff.mp (show (t xs[i] (wipeE env vs)).bind _ = some ds2 from hc2)
      obtain ⟨k, h5, h6⟩ := Option.bind_eq_some_iff.mp h4
      refine .inr ⟨go, fun H3 => ∃ m', m' < xs.length - i ∧ (m' = xs.length - (i + 1) ∧ i + 1 ≤ xs.length ∧ ∃ G2 acc ds1' ds2', Ext H1 G1 H3 G2 ∧ H3 Dd = some (.lst acc) ∧ G2 Dd = none ∧ RpL K G2 ds1' acc ∧ ds1'.length ≤ i + 1 ∧ compL t ct y (wipeE env vs) (xs.drop (i + 1)) = some ds2' ∧ ds1 ++ ds2 = ds1' ++ ds2'), fun H3 h => h, fun x H3 hyld => ?_⟩
      obtain ⟨G3, x3, r3⟩ := hy x H3 hyld
      have S3 : Ste K H0 G0 H3 G3 (L2.wipe σ vs) (wipeE env vs) := ((S1.ext x2).ext x3).wipe vs
      refine ⟨H0, G0, G3, _, _, env1, S3, r3, h3, fun σ4 S4 o4 => ⟨out_wipe o4 hsub, H0, G0, G3, env1, k, S4, h5, fun H5 G5 x5 => ?_⟩⟩
      have x35 := x3.trans x5
      cases k with
      | true =>
        obtain ⟨d, h7, h8⟩ := Option.bind_eq_some_iff.mp (show (y env1).bind _ = some ds2 from h6)
        obtain ⟨ds3, h9, rfl⟩ := Option.map_eq_some_iff.mp h8
        refine ⟨H0, G0, G5, env1, d, S4.ext x5, h7, fun v H6 G6 x6 r6 => ?_⟩
        have x26 := x35.trans x6
        have hD6 := x26.hh _ _ hD2
        have gD6 := ext_none x26 hD2 gD2
        have hl : acc.length ≤ i := by rw [← r2.len]; exact hl2
        refine ⟨acc, hD6, by omega, xs.length - (i + 1), by omega, rfl, hlt, G6, acc ++ [v], ds1 ++ [d], ds3, (x2.trans x26).grow hD gD6, upd_same, gD6, (RpL.mono x26.gg _ _ r2).snoc r6, ?_, h9, ?_⟩
        · rw [List.length_append, List.length_singleton]
          omega
        · rw [List.append_assoc]
          rfl
      | false =>
        have x25 := x35
        exact ⟨xs.length - (i + 1), by omega, rfl, hlt, G5, acc, ds1, ds2, x2.trans x25, x25.hh _ _ hD2, ext_none x25 hD2 gD2, RpL.mono x25.gg _ _ r2, by omega, h6, rfl⟩
    · have e : i = xs.length := by omega
      subst e
      rw [List.drop_length] at hc2
      cases hc2
      rw [List.append_nil] at q
      exact .inl ⟨hj.1 (Nat.le_refl _), q Dd acc H2 G2 (x1.trans x2) (x1.hh.free hD) hD2 gD2 r2⟩
  · cases e1
variable {elt iter : Expr} {ifs : List Expr} {scope : Scope} {own : List (Str × Nat)} {it : Fl} {t : Ft} {Sg : List Nat} {ct : Fb} {y : Fe}
theorem fx_lc (hc : X.calm = true) (hN : X.N.Nodup) (hi : ICX X tg iter it) (ok : BlkOk X.N X.env.scope scope own) (hsub : ∀ i ∈ Sg, i ∈ own.map (·.2))
    (hg : ∀ (s : Shared) (H : Hp) (C : Addr) (cl : List (Str × Addr)) (fp : List Addr), GX (X.blk s H scope (compEnvC scope cl C X.env) fp) tg t Sg) (ht : ∀ (s : Shared) (H : Hp) (C : Addr) (cl : List (Str × Addr)) (fp : List Addr), PTs (X.blk s H scope (compEnvC scope cl C X.env) fp) ifs (tT X.K ct))
    (he : ∀ (s : Shared) (H : Hp) (C : Addr) (cl : List (Str × Addr)) (fp : List Addr), EX (X.blk s H scope (compEnvC scope cl C X.env) fp) elt y) (hs : ∀ x, foldedSetIterable iter X.env x = pure x := by intro _; rfl) :
    FX X (.ListComp elt [⟨tg, iter, ifs, 0⟩] scope pos) (fLc (own.map (·.2)) it t ct y) :=
  pe_imp (pe_lc hc hN hi ok hg ht he hs) fun _ _ _ q => tLc_of hsub q
theorem pts_no : PTs X [] (tT X.K tYesF) := ⟨fun pins s σ H Q I hw => pts_nil.run pins s σ H Q I (by
  obtain ⟨H0, G0, G, env, b, S, e, q⟩ := hw
  cases e
  exact q H G (Ext.refl S.wf))⟩
theorem pts_if {c : Expr} {ct : Fb} (h : TX X c ct) : PTs X [c] (tT X.K ct) := pts_one h

/-! ### statements -/
inductive Out where
  | nx (e : List Sl) | rt (d : D) | bk (e : List Sl) | ct (e : List Sl)
abbrev Cmd := List Sl → Option Out
def OutOk (K : PySem.W.Frag) (H0 G0 : Hp) (E : Ends) : Out → Prop
  | .nx e => ∀ σ H G, Ste K H0 G0 H G σ e → E.nx σ H
  | .rt d => ∀ v H G, Ext H0 G0 H G → Rp K G d v → E.rt v H
  | .bk e => ∀ σ H G, Ste K H0 G0 H G σ e → E.bk σ H
  | .ct e => ∀ σ H G, Ste K H0 G0 H G σ e → E.ct σ H
def tS (K : PySem.W.Frag) (c : Cmd) : TS := fun E σ H => ∃ H0 G0 G env o, Ste K H0 G0 H G σ env ∧ c env = some o ∧ OutOk K H0 G0 E o
abbrev SX (X : Cx) (st : Stmt) (c : Cmd) : Prop := PS X st (tS X.K c)
abbrev SsX (X : Cx) (st : List Stmt) (c : Cmd) : Prop := PSs X st (tS X.K c)
theorem ps_imp {st : Stmt} {t t' : TS} (h : PS X st t) (i : ∀ E σ H, t' E σ H → t E σ H) : PS X st t' := ⟨fun pins s σ H E I q => h.run pins s σ H E I (i E σ H q)⟩
theorem pss_imp {st : List Stmt} {t t' : TS} (h : PSs X st t) (i : ∀ E σ H, t' E σ H → t E σ H) : PSs X st t' := ⟨fun pins s σ H E I q => h.run pins s σ H E I (i E σ H q)⟩
def sNop : Cmd := fun env => some (.nx env)
def sSeq (a b : Cmd) : Cmd := fun env => match a env with
  | some (.nx e) => b e
  | r => r
variable {st : Stmt} {rest : List Stmt} {ca cb : Cmd}
theorem ssx_nil : SsX X [] sNop := pss_imp pss_nil fun E σ H q => by
  obtain ⟨H0, G0, G, env, o, S, e, q⟩ := q
  cases e
  exact q σ H G S
theorem ssx_cons (h1 : SX X st ca) (h2 : SsX X rest cb) : SsX X (st :: rest) (sSeq ca cb) := pss_imp (pss_cons h1 h2) fun E σ H q => by
  obtain ⟨H0, G0, G, env, o, S, e, q⟩ := q
  unfold sSeq at e
  cases ha : ca env with
  | none => rw [ha] at e; cases e
  | some o1 =>
    rw [ha] at e
    refine ⟨H0, G0, G, env, o1, S, ha, ?_⟩
    cases o1 with
    | nx e1 => exact fun σ1 H1 G1 S1 => ⟨H0, G0, G1, e1, o, S1, e, q⟩
    | rt d =>
      cases e
      exact q
    | bk e1 =>
      cases e
      exact q
    | ct e1 =>
      cases e
      exact q
theorem ssx_one (h1 : SX X st ca) : SsX X [st] ca := pss_one h1
theorem sx_pass : SX X (.Pass pos) sNop := ps_imp ps_pass fun E σ H q => by
  obtain ⟨H0, G0, G, env, o, S, e, q⟩ := q
  cases e
  exact q σ H G S
def sBreak : Cmd := fun env => some (.bk env)
def sCont : Cmd := fun env => some (.ct env)
theorem sx_break : SX X (.Break pos) sBreak := ps_imp ps_break fun E σ H q => by
  obtain ⟨H0, G0, G, env, o, S, e, q⟩ := q
  cases e
  exact q σ H G S
theorem sx_cont : SX X (.Continue pos) sCont := ps_imp ps_continue fun E σ H q => by
  obtain ⟨H0, G0, G, env, o, S, e, q⟩ := q
  cases e
  exact q σ H G S
def sRet (f : Fe) : Cmd := fun env => (f env).map Out.rt
theorem sx_ret (h : EX X e f) : SX X (.Return (some e) pos) (sRet f) := ps_imp (ps_ret h) fun E σ H q => by
  obtain ⟨H0, G0, G, env, o, S, e, q⟩ := q
  obtain ⟨d, h1, rfl⟩ := Option.map_eq_some_iff.mp e
  exact ⟨H0, G0, G, env, d, S, h1, fun v H1 G1 x1 r1 => q v H1 G1 (S.x0.trans x1) r1⟩
def sIf (c : Fb) (a b : Cmd) : Cmd := fun env => (c env).bind fun k => if k then a env else b env
theorem sx_if {c : Expr} {a b : List Stmt} {fc : Fb} (hc : TX X c fc) (ha : SsX X a ca) (hb : SsX X b cb) : SX X (.If c a b pos) (sIf fc ca cb) := ps_imp (ps_if hc ha hb) fun E σ H q => by
  obtain ⟨H0, G0, G, env, o, S, e, q⟩ := q
  obtain ⟨k, h1, e⟩ := Option.bind_eq_some_iff.mp e
  refine ⟨H0, G0, G, env, k, S, h1, fun H1 G1 x1 => ?_⟩
  cases k with
  | true => exact ⟨H0, G0, G1, env, o, S.ext x1, e, q⟩
  | false => exact ⟨H0, G0, G1, env, o, S.ext x1, e, q⟩
/-- name = e -/
def sSet (i : Nat) (f : Fe) : Cmd := fun env => (f env).map fun d => Out.nx (env.set i (.val d))
theorem tAsg_set {i : Nat} {te : TE} {K : PySem.W.Frag} {E : Ends} {σ : L2.St} {H : Hp} (ht : ∀ Q, tD K f σ H Q → te σ H Q) (q : tS K (sSet i f) E σ H) : tAsg te (gName i) E σ H := by
  obtain ⟨H0, G0, G, env, o, S, e, q⟩ := q
  obtain ⟨d, h1, rfl⟩ := Option.map_eq_some_iff.mp e
  exact ht _ ⟨H0, G0, G, env, d, S, h1, fun v H1 G1 x1 r1 => q _ H1 G1 ((S.ext x1).setV i rfl ⟨v, rfl, r1⟩)⟩
theorem sx_set {i : Nat} {x : Str} {pos' : Pos} (hN : X.N.Nodup) (hi : X.N[i]? = some x) (hx : Loc X.env.scope x) (he : EX X e f) (hs : swapsWith e (some (.Name x pos')) pos.line X.env = pure false := by rfl) (hf : X.fn x = true ∨ X.env.scope.names.lookup x = some .local := by first | exact .inl rfl | exact .inr rfl | assumption) :
    SX X (.Assign [.Name x pos'] e pos) (sSet i f) := ps_imp (ps_set hN hi hx he hs hf) fun E σ H q => tAsg_set (fun _ q => q) q
/-- name = a new list, which may be changed later -/
def sSetO (i : Nat) (f : Fl) : Cmd := fun env => (f env).map fun ds => Out.nx (env.set i (.own ds))
theorem tAsg_setO {i : Nat} {te : TE} {K : PySem.W.Frag} {E : Ends} {σ : L2.St} {H : Hp} (ht : ∀ Q, tF K fl σ H Q → te σ H Q) (q : tS K (sSetO i fl) E σ H) : tAsg te (gName i) E σ H := by
  obtain ⟨H0, G0, G, env, o, S, e, q⟩ := q
  obtain ⟨ds, h1, rfl⟩ := Option.map_eq_some_iff.mp e
  refine ht _ ⟨H0, G0, G, env, ds, S, h1, fun p xs H1 G1 x1 hn hp hg r1 => ?_⟩
  refine q _ H1 G1 ((S.ext x1).setO i ⟨p, xs, rfl, hp, hg, S.x0.hh.free hn, r1⟩ fun j s y c hj ej ev f f2 => ?_)
  obtain ⟨u, hu⟩ := S.foot_old x1.hh ej ev f
  have f2 : some (V.ref p) = some (V.ref c) := f2
  cases f2
  rw [hn] at hu
  cases hu
theorem sx_setO {i : Nat} {x : Str} {pos' : Pos} (hN : X.N.Nodup) (hi : X.N[i]? = some x) (hx : Loc X.env.scope x) (he : FX X e fl) (hs : swapsWith e (some (.Name x pos')) pos.line X.env = pure false := by rfl) (hf : X.fn x = true ∨ X.env.scope.names.lookup x = some .local := by first | exact .inl rfl | exact .inr rfl | assumption) :
    SX X (.Assign [.Name x pos'] e pos) (sSetO i fl) := ps_imp (ps_set hN hi hx he hs hf) fun E σ H q => tAsg_setO (fun _ q => q) q
/-- name = [.. for ..] -/
theorem sx_setLc {i : Nat} {z : Str} {py spos : Pos} (hc : X.calm = true) (hN : X.N.Nodup) (hz : X.N[i]? = some z) (hzl : X.env.scope.names.lookup z = some .local)
    (hsw : swapsWith (.ListComp elt [⟨tg, iter, ifs, 0⟩] scope pos) (some (.Name z py)) spos.line X.env = pure true) (hi : ICX X tg iter it) (ok : BlkOk X.N X.env.scope scope own) (hsub : ∀ i ∈ Sg, i ∈ own.map (·.2))
    (hg : ∀ (s : Shared) (H : Hp) (C : Addr) (cl : List (Str × Addr)) (fp : List Addr), GX (X.blk s H scope (compEnvC scope cl C X.env) fp) tg t Sg) (ht : ∀ (s : Shared) (H : Hp) (C : Addr) (cl : List (Str × Addr)) (fp : List Addr), PTs (X.blk s H scope (compEnvC scope cl C X.env) fp) ifs (tT X.K ct))
    (he : ∀ (s : Shared) (H : Hp) (C : Addr) (cl : List (Str × Addr)) (fp : List Addr), EX (X.blk s H scope (compEnvC scope cl C X.env) fp) elt y) (hs : ∀ x, foldedSetIterable iter X.env x = pure x := by intro _; rfl) :
    SX X (.Assign [.Name z py] (.ListComp elt [⟨tg, iter, ifs, 0⟩] scope pos) spos) (sSet i (asL (fLc (own.map (·.2)) it t ct y))) :=
  ps_imp (ps_setLc hc hN hz hzl hsw hi ok hg ht he hs) fun E σ H q => tAsg_set (fun _ q => tLc_of hsub (tF_D q)) q
theorem sx_setLcO {i : Nat} {z : Str} {py spos : Pos} (hc : X.calm = true) (hN : X.N.Nodup) (hz : X.N[i]? = some z) (hzl : X.env.scope.names.lookup z = some .local)
    (hsw : swapsWith (.ListComp elt [⟨tg, iter, ifs, 0⟩] scope pos) (some (.Name z py)) spos.line X.env = pure true) (hi : ICX X tg iter it) (ok : BlkOk X.N X.env.scope scope own) (hsub : ∀ i ∈ Sg, i ∈ own.map (·.2))
    (hg : ∀ (s : Shared) (H : Hp) (C : Addr) (cl : List (Str × Addr)) (fp : List Addr), GX (X.blk s H scope (compEnvC scope cl C X.env) fp) tg t Sg) (ht : ∀ (s : Shared) (H : Hp) (C : Addr) (cl : List (Str × Addr)) (fp : List Addr), PTs (X.blk s H scope (compEnvC scope cl C X.env) fp) ifs (tT X.K ct))
    (he : ∀ (s : Shared) (H : Hp) (C : Addr) (cl : List (Str × Addr)) (fp : List Addr), EX (X.blk s H scope (compEnvC scope cl C X.env) fp) elt y) (hs : ∀ x, foldedSetIterable iter X.env x = pure x := by intro _; rfl) :
    SX X (.Assign [.Name z py] (.ListComp elt [⟨tg, iter, ifs, 0⟩] scope pos) spos) (sSetO i (fLc (own.map (·.2)) it t ct y)) :=
  ps_imp (ps_setLc hc hN hz hzl hsw hi ok hg ht he hs) fun E σ H q => tAsg_setO (fun _ q => tLc_of hsub q) q
/-- any target of names = e -/
def sAsg (t : Ft) (f : Fe) : Cmd := fun env => (f env).bind fun d => (t d env).map Out.nx
theorem sx_asg {tge : Expr} {S : List Nat} (he : EX X e f) (hg : GX X tge t S) (hs : swapsWithSole [tge] e pos.line X.env = pure false := by rfl) (hw : swappedStores [tge] e X.env = pure none := by rfl)
    (h1 : (assignEach [tge] X.env).map (·.2) = [assign tge X.env] := by rfl) : SX X (.Assign [tge] e pos) (sAsg t f) := ps_imp (ps_asg he hg hs hw h1) fun E σ H q => by
  obtain ⟨H0, G0, G, env, o, S, e, q⟩ := q
  obtain ⟨d, h1, e⟩ := Option.bind_eq_some_iff.mp e
  obtain ⟨env', h2, rfl⟩ := Option.map_eq_some_iff.mp e
  exact ⟨H0, G0, G, env, d, S, h1, fun v H1 G1 x1 r1 => ⟨H0, G0, G1, env, d, env', S.ext x1, r1, h2, fun σ' S' _ => q σ' H1 G1 S'⟩⟩
/-- a, b = e1, e2 -/
def sPar (i j : Nat) (fl : Fl) : Cmd := fun env => match fl env with
  | some [a, b] => some (.nx ((env.set i (.val a)).set j (.val b)))
  | _ => none
theorem sx_par {i j : Nat} {x y : Str} {a b : Expr} {px py pt : Pos} {kt k2 pt2} (hc : X.calm = true) (hN : X.N.Nodup) (hi : X.N[i]? = some x) (hj : X.N[j]? = some y) (hij : i ≠ j)
    (hx : X.env.scope.names.lookup x = some .local) (hy : X.env.scope.names.lookup y = some .local) (ha : AX X [a, b] fl)
    (hw : swappedStores [.Tuple [.Name x px, .Name y py] kt pt] (.Tuple [a, b] k2 pt2) X.env = pure (some [x, y]))
    (hs : swapsWithSole [.Tuple [.Name x px, .Name y py] kt pt] (.Tuple [a, b] k2 pt2) pos.line X.env = pure false := by rfl) :
    SX X (.Assign [.Tuple [.Name x px, .Name y py] kt pt] (.Tuple [a, b] k2 pt2) pos) (sPar i j fl) := ps_imp (ps_par hc hN hi hj hij hx hy ha hw hs) fun E σ H q => by
  obtain ⟨H0, G0, G, env, o, S, e, q⟩ := q
  unfold sPar at e
  split at e
  · rename_i d1 d2 hf
    cases e
    refine ⟨H0, G0, G, env, _, S, hf, fun vs H1 G1 x1 r1 => ?_⟩
    simp only [RpL] at r1
    obtain ⟨v, r, rfl, r1, w, r', rfl, r2, rfl⟩ := r1
    have S1 := (S.ext x1).setV i (s := .val d1) (x := some v) rfl ⟨v, rfl, r1⟩
    have S2 := S1.setV j (s := .val d2) (x := some w) rfl ⟨w, rfl, r2⟩
    exact ⟨v, w, rfl, q _ H1 G1 S2⟩
  · cases e
/-- a name op= e -/
def sAug (i : Nat) (g : D → D → Option D) (f : Fe) : Cmd := fun env => (bVar i env).bind fun x => (f env).bind fun y => (g x y).map fun d => Out.nx (env.set i (.val d))
def PipD (X : Cx) (op : Operator) (g : D → D → Option D) : Prop := OpR X (inplaceOp op) (rD X.K g)
theorem sx_aug {i : Nat} {x : Str} {op : Operator} {g : D → D → Option D} {pos' : Pos} (hN : X.N.Nodup) (hi : X.N[i]? = some x) (hx : Loc X.env.scope x) (he : BX X e f) (ho : PipD X op g) (hf : X.fn x = true ∨ X.env.scope.names.lookup x = some .local := by first | exact .inl rfl | exact .inr rfl | assumption) :
    SX X (.AugAssign (.Name x pos') op e pos) (sAug i g f) := ps_imp (ps_aug hN hi hx he (ti := rD X.K g) (fun pins s σ H x y v u Q I rx ry q => ho pins s σ H x y v u Q I rx ry q) hf) fun E σ H q => by
  obtain ⟨H0, G0, G, env, o, S, e, q⟩ := q
  obtain ⟨dx, h1, e⟩ := Option.bind_eq_some_iff.mp e
  obtain ⟨dy, h2, e⟩ := Option.bind_eq_some_iff.mp e
  obtain ⟨d, h3, rfl⟩ := Option.map_eq_some_iff.mp e
  have hv : ∃ v, σ[i]? = some (some v) ∧ RpB X.K H G dx v := by
    unfold bVar at h1
    cases hs : env[i]? with
    | none => rw [hs] at h1; cases h1
    | some s =>
      rw [hs] at h1
      obtain ⟨y, h1', h4⟩ := S.at hs
      cases s with
      | val d' =>
        simp only [Option.some.injEq] at h1
        subst h1
        obtain ⟨v, h2, h3⟩ := h4
        subst h2
        exact ⟨v, h1', RpB.of S.wf h3⟩
      | own ds =>
        simp only [Option.some.injEq] at h1
        subst h1
        obtain ⟨a, xs, h2, h3, h5, h6, h7⟩ := h4
        subst h2
        exact ⟨_, h1', ⟨a, xs, rfl, h3, h7⟩⟩
      | ownD t ds =>
        simp only [Option.some.injEq] at h1
        subst h1
        obtain ⟨a, h2, h5, h6, h7⟩ := h4
        subst h2
        exact ⟨_, h1', ⟨a, rfl, rd_own h7⟩⟩
      | un => cases h1
      | own2 dss => cases h1
  obtain ⟨v, hv, rv⟩ := hv
  exact ⟨v, hv, H0, G0, G, env, dy, S, h2, fun w H1 G1 x1 r1 => ⟨G1, dx, dy, d, x1.wf, rv.ext x1, r1, h3, fun u H2 G2 x2 r2 => q _ H2 G2 (((S.ext x1).ext x2).setV i rfl ⟨u, rfl, r2⟩)⟩⟩
theorem iadd : PipD X .Add (gI (fun _ _ => true) fun i j => .int (i + j)) := op_gI0 iop_add fun _ _ _ _ => rp_int _
theorem isub : PipD X .Sub gSub := op_gI0 iop_sub fun _ _ _ _ => rp_int _
theorem imul : PipD X .Mult (gI mulOk fun i j => .int (i * j)) := op_gI iop_mul (fun i j h => mulOk_C h) fun _ _ _ _ => rp_int _
theorem idiv : PipD X .FloorDiv gDiv := op_gI iop_fdiv (fun i j h => by
  simp only [Bool.and_eq_true, decide_eq_true_eq] at h
  exact h) fun _ _ _ _ => rp_int _
end
end PD

set_option Elab.async false
set_option linter.all false
set_option maxRecDepth 100000
namespace PD
open PySem PySem.Spec PyProof.Rows L2

/-! ### settling a slot -/
def frz1 (i : Nat) (env : List Sl) : List Sl := match env[i]? with
  | some (.own ds) => env.set i (.val (.lst ds))
  | some (.ownD t ks) => env.set i (.val (.dic t ks))
  | some (.own2 dss) => env.set i (.val (.lst (dss.map D.lst)))
  | _ => env
def frzL : List Nat → List Sl → List Sl
  | [], env => env
  | i :: is, env => frzL is (frz1 i env)
theorem set_at {α : Type} {l : List α} {i j : Nat} {x y : α} (h : (l.set i x)[j]? = some y) : (i = j ∧ y = x) ∨ (i ≠ j ∧ l[j]? = some y) := by
  by_cases hj : i = j
  · subst hj
    obtain ⟨hi, e⟩ := List.getElem?_eq_some_iff.mp h
    rw [List.getElem_set_self] at e
    exact .inl ⟨rfl, e.symm⟩
  · rw [List.getElem?_set_ne hj] at h
    exact .inr ⟨hj, h⟩
section
variable {K : PySem.W.Frag} {H0 G0 H G : Hp} {σ : L2.St} {env : List Sl}
/-- the objects of another slot -/
theorem Ste.foot_ne (S : Ste K H0 G0 H G σ env) {i j : Nat} {s t : Sl} {y : Option V} {a b : Addr} (e : env[i]? = some s) (ow : s.isOwn = true) (hv : σ[i]? = some (some (.ref a))) (ej : env[j]? = some t) (vj : σ[j]? = some y) (hj : i ≠ j) (f : Foot H t y b) : b ≠ a := fun z => by
  subst z
  exact hj (S.disF i j s t _ y b e ej hv vj (foot_top ow) f)
/-- an own object at a is settled as o -/
theorem Ste.settle (S : Ste K H0 G0 H G σ env) {i : Nat} {s s' : Sl} {a : Addr} {o : HO} (e : env[i]? = some s) (ow : s.isOwn = true) (ns : s'.isOwn = false) (hv : σ[i]? = some (some (.ref a))) (hH : H a = some o) (hG : G a = none) (h0 : H0 a = none)
    (ok : SlOk K H0 H (upd G a o) s' (some (.ref a))) : Ste K H0 G0 H (upd G a o) σ (env.set i s') := by
  have sg : Same G (upd G a o) := same_updN hG
  have nf : ∀ y c, ¬ Foot H s' y c := fun y c f => by
    rw [foot_own f] at ns
    cases ns
  refine ⟨⟨S.x0.hh, S.x0.gg.trans sg, ⟨fun b u q => ?_, fun b u q hh => ?_⟩, fun b u q => ?_⟩, by rw [List.length_set]; exact S.len, fun j t x e1 e2 => ?_, fun j k t u y z c e1 e2 v1 v2 f1 f2 => ?_⟩
  · by_cases hb : b = a
    · subst hb
      rw [upd_same] at q
      cases q
      exact hH
    · rw [upd_ne hb] at q
      exact S.wf.sub b u q
  · by_cases hb : b = a
    · subst hb
      rw [upd_same]
      rw [hH] at q
      exact q
    · rw [upd_ne hb]
      exact S.wf.tin b u q hh
  · by_cases hb : b = a
    · subst hb
      exact .inr h0
    · rw [upd_ne hb] at q
      exact S.x0.new b u q
  · rcases set_at e1 with ⟨rfl, rfl⟩ | ⟨hj, g1⟩
    · rw [hv] at e2
      cases e2
      exact ok
    · refine slok_keep (S.sl j t x g1 e2) sg (fun b u _ q => q) fun b f => ?_
      rw [upd_ne (S.foot_ne e ow hv g1 e2 hj f)]
      exact (foot_ok (S.sl j t x g1 e2) f).2.1
  · rcases set_at e1 with ⟨rfl, rfl⟩ | ⟨hj, g1⟩
    · exact absurd f1 (nf _ _)
    · rcases set_at e2 with ⟨rfl, rfl⟩ | ⟨hk, g2⟩
      · exact absurd f2 (nf _ _)
      · exact S.disF j k t u y z c g1 g2 v1 v2 f1 f2
/-- an own dict at a is settled, and locked -/
theorem Ste.settleD (S : Ste K H0 G0 H G σ env) {i : Nat} {s s' : Sl} {a : Addr} {o u : HO} (e : env[i]? = some s) (ow : s.isOwn = true) (ns : s'.isOwn = false) (hv : σ[i]? = some (some (.ref a))) (hH : H a = some o) (hG : G a = none) (h0 : H0 a = none)
    (ok : SlOk K H0 (upd H a u) (upd G a u) s' (some (.ref a))) : Ste K H0 G0 (upd H a u) (upd G a u) σ (env.set i s') := by
  have sg : Same G (upd G a u) := same_updN hG
  have nf : ∀ H y c, ¬ Foot H s' y c := fun H y c f => by
    rw [foot_own f] at ns
    cases ns
  have kp : ∀ (j : Nat) (t : Sl) (x : Option V), i ≠ j → env[j]? = some t → σ[j]? = some x → ∀ b v, Foot H t x b → H b = some v → upd H a u b = some v := fun j t x hj ej vj b v f q => by
    rw [upd_ne (S.foot_ne e ow hv ej vj hj f)]
    exact q
  refine ⟨⟨fun b v q => ?_, S.x0.gg.trans sg, ⟨fun b v q => ?_, fun b v q hh => ?_⟩, fun b v q => ?_⟩, by rw [List.length_set]; exact S.len, fun j t x e1 e2 => ?_, fun j k t v y z c e1 e2 v1 v2 f1 f2 => ?_⟩
  · rw [upd_ne (ne_of_none q h0)]
    exact S.x0.hh b v q
  · by_cases hb : b = a
    · subst hb
      rw [upd_same] at q ⊢
      exact q
    · rw [upd_ne hb] at q ⊢
      exact S.wf.sub b v q
  · by_cases hb : b = a
    · subst hb
      rw [upd_same] at q ⊢
      exact q
    · rw [upd_ne hb] at q ⊢
      exact S.wf.tin b v q hh
  · by_cases hb : b = a
    · subst hb
      exact .inr h0
    · rw [upd_ne hb] at q
      exact S.x0.new b v q
  · rcases set_at e1 with ⟨rfl, rfl⟩ | ⟨hj, g1⟩
    · rw [hv] at e2
      cases e2
      exact ok
    · refine slok_keep (S.sl j t x g1 e2) sg (kp j t x hj g1 e2) fun b f => ?_
      rw [upd_ne (S.foot_ne e ow hv g1 e2 hj f)]
      exact (foot_ok (S.sl j t x g1 e2) f).2.1
  · rcases set_at e1 with ⟨rfl, rfl⟩ | ⟨hj, g1⟩
    · exact absurd f1 (nf _ _ _)
    · rcases set_at e2 with ⟨rfl, rfl⟩ | ⟨hk, g2⟩
      · exact absurd f2 (nf _ _ _)
      · exact S.disF j k t v y z c g1 g2 v1 v2 (foot_back (S.sl j t y g1 v1) (kp j t y hj g1 v1) f1) (foot_back (S.sl k v z g2 v2) (kp k v z hk g2 v2) f2)
theorem In2.rp {K : PySem.W.Frag} {H0 H G G' : Hp} (sg : Same G G') : ∀ {dss : List (List D)} {bs : List Addr}, In2 K H0 H G dss bs → (∀ c ∈ bs, G' c = H c) → RpL K G' (dss.map D.lst) (bs.map V.ref)
  | [], _, h, _ => by
    have h : _ = [] := h
    rw [h]
    exact RpL.nil
  | ds :: dss, _, h, g => by
    obtain ⟨b, r, ys, rfl, h1, h2, h3, h4, h5⟩ := h
    refine RpL.cons ?_ (In2.rp sg h5 fun c hc => g c (List.mem_cons_of_mem _ hc))
    simp only [Rp]
    exact ⟨b, ys, rfl, by rw [g b List.mem_cons_self]; exact h1, RpL.mono sg _ _ h4⟩
/-- a list of lists of its own is settled -/
theorem Ste.settle2 (S : Ste K H0 G0 H G σ env) {i : Nat} {dss : List (List D)} (e : env[i]? = some (.own2 dss)) : ∃ G', Ste K H0 G0 H G' σ (env.set i (.val (.lst (dss.map D.lst)))) := by
  obtain ⟨x, hx, hs⟩ := S.at e
  have hs' := hs
  obtain ⟨a, bs, rfl, h2, h3, h4, h5, h6⟩ := hs'
  have fa : Foot H (.own2 dss) (some (.ref a)) a := .inl rfl
  have fb : ∀ c ∈ bs, Foot H (.own2 dss) (some (.ref a)) c := fun c hc => .inr ⟨a, bs, rfl, h2, hc⟩
  have nd := List.nodup_cons.mp h5
  have ex : ∃ G' : Hp, (∀ c, (c = a ∨ c ∈ bs) → G' c = H c) ∧ ∀ c, c ≠ a → c ∉ bs → G' c = G c := by
    classical
    refine ⟨fun c => if c = a ∨ c ∈ bs then H c else G c, fun c h => if_pos h, fun c h1 h2 => if_neg fun z => ?_⟩
    rcases z with z | z
    · exact h1 z
    · exact h2 z
  obtain ⟨G', g1, g2⟩ := ex
  have hid : ∀ c, (c = a ∨ c ∈ bs) → G c = none ∧ H0 c = none ∧ ∃ ys, H c = some (.lst ys) := fun c h => by
    rcases h with rfl | h
    · exact ⟨h3, h4, _, h2⟩
    · obtain ⟨m1, m2, m3⟩ := h6.mem c h
      exact ⟨m2, m3, m1⟩
  have sg : Same G G' := fun c o q => by
    by_cases hc : c = a ∨ c ∈ bs
    · rw [(hid c hc).1] at q
      cases q
    · rw [g2 c (fun z => hc (.inl z)) (fun z => hc (.inr z))]
      exact q
  refine ⟨G', ⟨S.x0.hh, S.x0.gg.trans sg, ⟨fun c o q => ?_, fun c o q hh => ?_⟩, fun c o q => ?_⟩, by rw [List.length_set]; exact S.len, fun j t x e1 e2 => ?_, fun j k t u y z c e1 e2 v1 v2 f1 f2 => ?_⟩
  · by_cases hc : c = a ∨ c ∈ bs
    · rw [g1 c hc] at q
      exact q
    · rw [g2 c (fun z => hc (.inl z)) (fun z => hc (.inr z))] at q
      exact S.wf.sub c o q
  · by_cases hc : c = a ∨ c ∈ bs
    · rw [g1 c hc]
      exact q
    · rw [g2 c (fun z => hc (.inl z)) (fun z => hc (.inr z))]
      exact S.wf.tin c o q hh
  · by_cases hc : c = a ∨ c ∈ bs
    · exact .inr (hid c hc).2.1
    · rw [g2 c (fun z => hc (.inl z)) (fun z => hc (.inr z))] at q
      exact S.x0.new c o q
  · rcases set_at e1 with ⟨rfl, rfl⟩ | ⟨hj, q1⟩
    · rw [hx] at e2
      cases e2
      refine ⟨_, rfl, ?_⟩
      simp only [Rp]
      exact ⟨a, _, rfl, by rw [g1 a (.inl rfl)]; exact h2, h6.rp sg fun c hc => g1 c (.inr hc)⟩
    · refine slok_keep (S.sl j t x q1 e2) sg (fun b u _ q => q) fun b f => ?_
      have hn : ¬ (b = a ∨ b ∈ bs) := fun z => by
        refine hj (S.disF i j _ t _ x b e q1 hx e2 ?_ f)
        rcases z with rfl | z
        · exact fa
        · exact fb b z
      rw [g2 b (fun z => hn (.inl z)) (fun z => hn (.inr z))]
      exact (foot_ok (S.sl j t x q1 e2) f).2.1
  · rcases set_at e1 with ⟨rfl, rfl⟩ | ⟨hj, q1⟩
    · exact f1.elim
    · rcases set_at e2 with ⟨rfl, rfl⟩ | ⟨hk, q2⟩
      · exact f2.elim
      · exact S.disF j k t u y z c q1 q2 v1 v2 f1 f2
theorem frz1_inv {X : Cx} {pins : List (Addr × Obj)} {s : Shared} (I : Inv X pins σ H s) (S : Ste X.K H0 G0 H G σ env) (i : Nat) : ∃ H' G', Inv X pins σ H' s ∧ Ste X.K H0 G0 H' G' σ (frz1 i env) := by
  unfold PD.frz1
  cases e : env[i]? with
  | none => exact ⟨H, G, I, S⟩
  | some s =>
    obtain ⟨x, hx, hs⟩ := S.at e
    cases s with
    | un => exact ⟨H, G, I, S⟩
    | val d => exact ⟨H, G, I, S⟩
    | own ds =>
      obtain ⟨a, xs, rfl, h2, h3, h4, h5⟩ := hs
      refine ⟨H, upd G a (.lst xs), I, S.settle e rfl rfl hx h2 h3 h4 ⟨_, rfl, ?_⟩⟩
      simp only [Rp]
      exact ⟨a, xs, rfl, upd_same, RpL.mono (same_updN h3) _ _ h5⟩
    | ownD t ds =>
      obtain ⟨a, rfl, h3, h4, h5⟩ := hs
      rcases h5 with ⟨ht, ks, h6, h7⟩ | ⟨ht, ks, h6, h7⟩
      · obtain ⟨od, I'⟩ := I.lock h6 trivial
        refine ⟨_, upd G a (.frz od (.dK ks)), I', S.settleD e rfl rfl hx h6 h3 h4 ⟨_, rfl, ?_⟩⟩
        simp only [Rp]
        exact ⟨a, rfl, .inl ⟨ht, od, ks, upd_same, RpK.mono (same_updN h3) _ _ h7⟩⟩
      · obtain ⟨od, I'⟩ := I.lock h6 trivial
        refine ⟨_, upd G a (.frz od (.dT ks)), I', S.settleD e rfl rfl hx h6 h3 h4 ⟨_, rfl, ?_⟩⟩
        simp only [Rp]
        exact ⟨a, rfl, .inr ⟨ht, od, ks, upd_same, RpT.mono (same_updN h3) _ _ h7⟩⟩
    | own2 dss =>
      obtain ⟨G', S'⟩ := S.settle2 e
      exact ⟨H, G', I, S'⟩
theorem frzL_inv {X : Cx} {pins : List (Addr × Obj)} {s : Shared} : ∀ (is : List Nat) {H G : Hp} {env : List Sl}, Inv X pins σ H s → Ste X.K H0 G0 H G σ env → ∃ H' G', Inv X pins σ H' s ∧ Ste X.K H0 G0 H' G' σ (frzL is env)
  | [], H, G, _, I, S => ⟨H, G, I, S⟩
  | i :: is, _, _, _, I, S => by
    obtain ⟨H1, G1, I1, S1⟩ := frz1_inv I S i
    exact frzL_inv is I1 S1
/-- an own object is changed -/
theorem Ste.change (S : Ste K H0 G0 H G σ env) {i : Nat} {s s' : Sl} {a : Addr} {o u : HO} (e : env[i]? = some s) (ow : s.isOwn = true) (hv : σ[i]? = some (some (.ref a))) (hH : H a = some o) (hG : G a = none) (h0 : H0 a = none) (hu : Hid u = true)
    (ok : SlOk K H0 (upd H a u) G s' (some (.ref a))) (hf : ∀ c, Foot (upd H a u) s' (some (.ref a)) c → Foot H s (some (.ref a)) c := by exact fun _ q => q) : Ste K H0 G0 (upd H a u) G σ (env.set i s') := by
  have kp : ∀ (j : Nat) (t : Sl) (x : Option V), i ≠ j → env[j]? = some t → σ[j]? = some x → ∀ b v, Foot H t x b → H b = some v → upd H a u b = some v := fun j t x hj ej vj b v f q => by
    rw [upd_ne (S.foot_ne e ow hv ej vj hj f)]
    exact q
  have old : ∀ (j : Nat) (t : Sl) (x : Option V) (c : Addr), (env.set i s')[j]? = some t → σ[j]? = some x → Foot (upd H a u) t x c → ∃ t', env[j]? = some t' ∧ Foot H t' x c := fun j t x c ej vj f => by
    rcases set_at ej with ⟨z1, z2⟩ | ⟨hj, g1⟩
    · rw [z2] at f
      rw [← z1] at vj ⊢
      rw [hv] at vj
      cases vj
      exact ⟨s, e, hf c f⟩
    · exact ⟨t, g1, foot_back (S.sl j t x g1 vj) (kp j t x hj g1 vj) f⟩
  refine ⟨⟨fun b v q => ?_, S.x0.gg, ⟨fun b v q => ?_, fun b v q hh => ?_⟩, S.x0.new⟩, by rw [List.length_set]; exact S.len, fun j t x e1 e2 => ?_, fun j k t t' y z c e1 e2 v1 v2 f1 f2 => ?_⟩
  · rw [upd_ne (ne_of_none q h0)]
    exact S.x0.hh b v q
  · rw [upd_ne (ne_of_none q hG)]
    exact S.wf.sub b v q
  · by_cases hb : b = a
    · subst hb
      rw [upd_same] at q
      cases q
      rw [hu] at hh
      cases hh
    · rw [upd_ne hb] at q
      exact S.wf.tin b v q hh
  · rcases set_at e1 with ⟨rfl, rfl⟩ | ⟨hj, g1⟩
    · rw [hv] at e2
      cases e2
      exact ok
    · exact slok_keep (S.sl j t x g1 e2) (Same.refl G) (kp j t x hj g1 e2) fun b f => (foot_ok (S.sl j t x g1 e2) f).2.1
  · obtain ⟨ta, h1, h2⟩ := old j t y c e1 v1 f1
    obtain ⟨tb, h3, h4⟩ := old k t' z c e2 v2 f2
    exact S.disF j k ta tb y z c h1 h3 v1 v2 h2 h4
end
def sFrz (is : List Nat) (c : Cmd) : Cmd := fun env => c (frzL is env)
section
variable {X : Cx} {st : Stmt} {c cb : Cmd} {e a b : Expr} {f fi : Fe} {fl : Fl} {pos : Pos} {is : List Nat}
theorem sx_frz (h : SX X st c) : SX X st (sFrz is c) := ⟨fun pins s σ H E I q => by
  obtain ⟨H0, G0, G, env, o, S, e, q⟩ := q
  obtain ⟨H', G', I', S'⟩ := frzL_inv is I S
  exact h.run pins s σ H' E I' ⟨H0, G0, G', _, o, S', e, q⟩⟩

/-! ### methods that change a list -/
def sApp (i : Nat) (f : Fe) : Cmd := fun env => (f env).bind fun d => match env[i]? with
  | some (.own ds) => if lim (ds.length + 1) then some (.nx (env.set i (.own (ds ++ [d])))) else none
  | _ => none
variable {i : Nat} {x : Str} {p apos cpos : Pos}
theorem sx_app (hN : X.N[i]? = some x) (hv : Vis X.env.scope x) (he : EX X e f) (hd : (x == ("__debug__" : Str)) = false := by decide) (hcd : (x == ("__classdict__" : Str)) = false := by decide)
    (hbase : attributeBase (.Name x p) "append" X.env (eval (.Name x p) X.env) = eval (.Name x p) X.env := by rfl)
    (hfew : ((backTo cpos (starEach (e :: []) X.env)).all (fun x => !x.1) && (backToKw cpos (keywordEach [] X.env)).all (fun x => x.1.isSome)
      && decide ((e :: []).length + ([] : List Keyword).length + (if ([] : List Keyword).isEmpty then 0 else 1) < 30)) = true := by rfl)
    (hline : (apos.endLine == cpos.line) = true := by rfl) (hs : starEach (e :: []) X.env = (false, eval e X.env) :: starEach [] X.env := by rfl) (hplain : (backTo cpos (starEach [] X.env)).any (·.1) = false := by rfl)
    (hsw : swapsWith (.Call (.Attribute (.Name x p) "append" apos) [e] [] cpos) none pos.line X.env = pure false := by rfl) :
    SX X (.Expr (.Call (.Attribute (.Name x p) "append" apos) [e] [] cpos) pos) (sApp i f) :=
  ps_imp (ps_expr (pe_bm PySem.F.plainAttrs_list PySem.F.slot_list_append PySem.F.type_list_append (show MtR X "list.append" rAppend from mt_append) (pe_var hN hv hd hcd) (pa_cons he pa_nil hs) hbase hfew hline hs hplain) hsw) fun E σ H q => by
    obtain ⟨H0, G0, G, env, o, S, e1, q⟩ := q
    obtain ⟨d, h1, e1⟩ := Option.bind_eq_some_iff.mp e1
    split at e1
    · rename_i ds hi
      split at e1
      · rename_i hz
        cases e1
        obtain ⟨y, hy, a, xs, rfl, h2, h3, h4, h5⟩ := S.at hi
        refine ⟨.ref a, hy, .inl ⟨rfl, xs, SqL.of h2⟩, H0, G0, G, env, d, S, h1, fun v H1 G1 x1 r1 => ?_⟩
        have S1 := S.ext x1
        have g1 := ext_none x1 h2 h3
        have l1 := RpL.mono x1.gg _ _ h5
        refine ⟨a, xs, v, rfl, rfl, x1.hh _ _ h2, ?_, ?_⟩
        · have := lim_le hz
          rw [← h5.len]
          omega
        · exact q σ _ G1 (S1.change hi rfl hy (x1.hh _ _ h2) g1 h4 rfl ⟨a, _, rfl, upd_same, g1, h4, l1.snoc r1⟩)
      · cases e1
    · cases e1
def sExt (i : Nat) (f : Fe) : Cmd := fun env => (f env).bind fun d => match d, env[i]? with
  | .lst es, some (.own ds) => if lim (ds.length + es.length) then some (.nx (env.set i (.own (ds ++ es)))) else none
  | _, _ => none
theorem sx_ext (hN : X.N[i]? = some x) (hv : Vis X.env.scope x) (he : EX X e f) (hd : (x == ("__debug__" : Str)) = false := by decide) (hcd : (x == ("__classdict__" : Str)) = false := by decide)
    (hbase : attributeBase (.Name x p) "extend" X.env (eval (.Name x p) X.env) = eval (.Name x p) X.env := by rfl)
    (hfew : ((backTo cpos (starEach (e :: []) X.env)).all (fun x => !x.1) && (backToKw cpos (keywordEach [] X.env)).all (fun x => x.1.isSome)
      && decide ((e :: []).length + ([] : List Keyword).length + (if ([] : List Keyword).isEmpty then 0 else 1) < 30)) = true := by rfl)
    (hline : (apos.endLine == cpos.line) = true := by rfl) (hs : starEach (e :: []) X.env = (false, eval e X.env) :: starEach [] X.env := by rfl) (hplain : (backTo cpos (starEach [] X.env)).any (·.1) = false := by rfl)
    (hsw : swapsWith (.Call (.Attribute (.Name x p) "extend" apos) [e] [] cpos) none pos.line X.env = pure false := by rfl) :
    SX X (.Expr (.Call (.Attribute (.Name x p) "extend" apos) [e] [] cpos) pos) (sExt i f) :=
  ps_imp (ps_expr (pe_bm PySem.F.plainAttrs_list PySem.F.slot_list_extend PySem.F.type_list_extend (show MtR X "list.extend" rExtend from mt_extend) (pe_var hN hv hd hcd) (pa_cons he pa_nil hs) hbase hfew hline hs hplain) hsw) fun E σ H q => by
    obtain ⟨H0, G0, G, env, o, S, e1, q⟩ := q
    obtain ⟨d, h1, e1⟩ := Option.bind_eq_some_iff.mp e1
    split at e1
    · rename_i es ds hi
      split at e1
      · rename_i hz
        cases e1
        obtain ⟨y, hy, a, xs, rfl, h2, h3, h4, h5⟩ := S.at hi
        refine ⟨.ref a, hy, .inl ⟨rfl, xs, SqL.of h2⟩, H0, G0, G, env, _, S, h1, fun v H1 G1 x1 r1 => ?_⟩
        have S1 := S.ext x1
        have g1 := ext_none x1 h2 h3
        have l1 := RpL.mono x1.gg _ _ h5
        simp only [Rp] at r1
        obtain ⟨b, zs, rfl, h6, h7⟩ := r1
        refine ⟨a, b, xs, zs, rfl, rfl, x1.hh _ _ h2, x1.wf.sub _ _ h6, ?_, ?_⟩
        · have := lim_le hz
          rw [← h5.len, ← h7.len]
          exact this
        · exact q σ _ G1 (S1.change hi rfl hy (x1.hh _ _ h2) g1 h4 rfl ⟨a, _, rfl, upd_same, g1, h4, l1.append h7⟩)
      · cases e1
    · cases e1
/-- x.pop() alone -/
def sPop (i : Nat) : Cmd := fun env => match env[i]? with
  | some (.own ds) => if ds.isEmpty then none else some (.nx (env.set i (.own ds.dropLast)))
  | _ => none
theorem sx_pop (hN : X.N[i]? = some x) (hv : Vis X.env.scope x) (hd : (x == ("__debug__" : Str)) = false := by decide) (hcd : (x == ("__classdict__" : Str)) = false := by decide)
    (hbase : attributeBase (.Name x p) "pop" X.env (eval (.Name x p) X.env) = eval (.Name x p) X.env := by rfl) (hline : (apos.endLine == cpos.line) = true := by rfl)
    (hsw : swapsWith (.Call (.Attribute (.Name x p) "pop" apos) [] [] cpos) none pos.line X.env = pure false := by rfl) :
    SX X (.Expr (.Call (.Attribute (.Name x p) "pop" apos) [] [] cpos) pos) (sPop i) :=
  ps_imp (ps_expr (pe_bm0 PySem.F.plainAttrs_list PySem.F.slot_list_pop PySem.F.type_list_pop (show MtR X "list.pop" rPop from mt_pop) (pe_var hN hv hd hcd) hbase hline) hsw) fun E σ H q => by
    obtain ⟨H0, G0, G, env, o, S, e1, q⟩ := q
    unfold sPop at e1
    split at e1
    · rename_i ds hi
      split at e1
      · cases e1
      · rename_i hz
        cases e1
        obtain ⟨y, hy, a, xs, rfl, h2, h3, h4, h5⟩ := S.at hi
        have hl := h5.len
        have hne : ds ≠ [] := fun z => by
          subst z
          exact hz rfl
        have hpos : 0 < ds.length := List.length_pos_iff.mpr hne
        refine ⟨.ref a, hy, .inl ⟨rfl, xs, SqL.of h2⟩, a, xs, xs[xs.length - 1]'(by omega), rfl, rfl, h2, List.getElem?_eq_getElem _, ?_⟩
        refine q σ _ G (S.change hi rfl hy h2 h3 h4 rfl ⟨a, _, rfl, upd_same, h3, h4, ?_⟩)
        rw [List.dropLast_eq_take, List.dropLast_eq_take, hl]
        exact h5.take _
    · cases e1

/-! ### x[i] = e -/
def sSetI (i : Nat) (fi f : Fe) : Cmd := fun env => (f env).bind fun d => (fi env).bind fun k => match k, env[i]? with
  | .int z, some (.own ds) => (ixN ds.length z).map fun j => Out.nx (env.set i (.own (ds.set j d)))
  | _, _ => none
theorem sx_setI {sp : Pos} (hN : X.N[i]? = some x) (hv : Vis X.env.scope x) (hb : BX X b fi) (he : EX X e f) (hd : (x == ("__debug__" : Str)) = false := by decide) (hcd : (x == ("__classdict__" : Str)) = false := by decide)
    (ha : ∀ v, assign (.Subscript (.Name x p) b sp) X.env v = (do
      let ov ← holding [v] (eval (.Name x p) X.env)
      let iv ← holding [v, ov] (eval b X.env)
      standAt sp
      holding [v, ov, iv] (setItem ov iv v)
      release [v, ov, iv] []) := by intro _; rfl)
    (hs : swapsWithSole [.Subscript (.Name x p) b sp] e pos.line X.env = pure false := by rfl) (hw : swappedStores [.Subscript (.Name x p) b sp] e X.env = pure none := by rfl)
    (h1 : (assignEach [.Subscript (.Name x p) b sp] X.env).map (·.2) = [assign (.Subscript (.Name x p) b sp) X.env] := by rfl) :
    SX X (.Assign [.Subscript (.Name x p) b sp] e pos) (sSetI i fi f) :=
  ps_imp (ps_asg he (pg_sub (pe_var hN hv hd hcd) hb set_list ha) hs hw h1) fun E σ H q => by
    obtain ⟨H0, G0, G, env, o, S, e1, q⟩ := q
    obtain ⟨d, h2, e1⟩ := Option.bind_eq_some_iff.mp e1
    obtain ⟨k, h3, e1⟩ := Option.bind_eq_some_iff.mp e1
    split at e1
    · rename_i z ds hi
      obtain ⟨j, h4, rfl⟩ := Option.map_eq_some_iff.mp e1
      refine ⟨H0, G0, G, env, d, S, h2, fun v H1 G1 x1 r1 => ?_⟩
      have S1 := S.ext x1
      obtain ⟨y, hy, a, xs, rfl, h5, h6, h7, h8⟩ := S1.at hi
      refine ⟨.ref a, hy, H0, G0, G1, env, _, S1, h3, fun u H2 G2 x2 r2 => ?_⟩
      have S2 := S1.ext x2
      have g2 := ext_none x2 h5 h6
      have l2 := RpL.mono x2.gg _ _ h8
      refine ⟨a, xs, z, j, rfl, rpb_int r2, x2.hh _ _ h5, by rw [← h8.len]; exact h4, ?_⟩
      exact q σ _ G2 (S2.change hi rfl hy (x2.hh _ _ h5) g2 h7 rfl ⟨a, _, rfl, upd_same, g2, h7, RpL.set (Rp.mono x2.gg _ _ r1) _ l2⟩)
    · cases e1

/-! ### loops -/
def forL (t : Ft) (c : Cmd) : List D → List Sl → Option Out
  | [], env => some (.nx env)
  | x :: xs, env => (t x env).bind fun env1 => match c env1 with
    | some (.nx e) => forL t c xs e
    | some (.ct e) => forL t c xs e
    | some (.bk e) => some (.nx e)
    | some (.rt d) => some (.rt d)
    | none => none
def sFor (it : Fl) (t : Ft) (c : Cmd) : Cmd := fun env => (it env).bind fun xs => forL t c xs env
/-- what is wanted, from a later settled heap -/
theorem Ext.later {H0 G0 H G H' G' : Hp} (x : Ext H0 G0 H G) (y : Ext H0 G H' G') : Ext H0 G0 H' G' := ⟨y.hh, x.gg.trans y.gg, y.wf, fun b o e => by
  rcases y.new b o e with h | h
  · exact x.new b o h
  · exact .inr h⟩
theorem Ste.base {K : PySem.W.Frag} {H0 G0 H G : Hp} {σ : L2.St} {env : List Sl} (S : Ste K H0 G0 H G σ env) : Ste K H0 G H G σ env := ⟨⟨S.x0.hh, Same.refl G, S.x0.wf, fun _ _ e => .inl e⟩, S.len, S.sl, S.disF⟩
theorem Ste.unbase {K : PySem.W.Frag} {H0 G0 H1 G1 H G : Hp} {σ : L2.St} {env : List Sl} (x : Ext H0 G0 H1 G1) (S : Ste K H0 G1 H G σ env) : Ste K H0 G0 H G σ env := ⟨x.later S.x0, S.len, S.sl, S.disF⟩
theorem OutOk.later {K : PySem.W.Frag} {H0 G0 H1 G1 : Hp} (x : Ext H0 G0 H1 G1) {E : Ends} {o : Out} (h : OutOk K H0 G0 E o) : OutOk K H0 G1 E o := by
  cases o with
  | nx e => exact fun σ H G S => h σ H G (S.unbase x)
  | rt d => exact fun v H G y r => h v H G (x.later y) r
  | bk e => exact fun σ H G S => h σ H G (S.unbase x)
  | ct e => exact fun σ H G S => h σ H G (S.unbase x)
theorem sx_for {tg iter : Expr} {body : List Stmt} {it : Fl} {t : Ft} {Sg : List Nat} (hp : PassesOwn (model X.prog X.w) X.A X.env X.xe) (hc : X.calm = true) (hi : ILX X tg iter it) (hg : GX X tg t Sg) (hb : SsX X body c)
    (hs : ∀ x, foldedSetIterable iter X.env x = pure x := by intro _; rfl) : SX X (.For tg iter body [] pos) (sFor it t c) := ps_imp (ps_for hp hc hi hg hb hs) fun E σ H q => by
  obtain ⟨H0, G0, G, env, o, S, e1, q⟩ := q
  obtain ⟨xs, h1, e1⟩ := Option.bind_eq_some_iff.mp e1
  refine ⟨H0, G0, G, env, xs, S, h1, fun J H1 G1 x1 hJ => ?_⟩
  have S1 := S.ext x1
  have q := q.later S1.x0
  refine ⟨fun i m σ2 H2 => m = xs.length - i ∧ i ≤ xs.length ∧ ∃ G2 env2, Ste X.K H0 G1 H2 G2 σ2 env2 ∧ forL t c (xs.drop i) env2 = some o,
    ⟨xs.length, by omega, Nat.zero_le _, G1, env, S1.base, e1⟩, ?_⟩
  rintro i m σ2 H2 ⟨rfl, hi, G2, env2, S2, h2⟩
  have hj := hJ i H2 G2 S2.x0.gg S2.wf
  by_cases hlt : i < xs.length
  · have hx : xs[i]? = some xs[i] := List.getElem?_eq_getElem hlt
    obtain ⟨go, hy⟩ := hj.2 _ hx
    rw [List.drop_eq_getElem_cons hlt] at h2
    obtain ⟨env3, h3, h4⟩ := Option.bind_eq_some_iff.mp (show (t xs[i] env2).bind _ = some o from h2)
    refine .inr ⟨go, fun σ3 H3 => ∃ m', m' < xs.length - i ∧ (m' = xs.length - (i + 1) ∧ i + 1 ≤ xs.length ∧ ∃ G2 env2, Ste X.K H0 G1 H3 G2 σ3 env2 ∧ forL t c (xs.drop (i + 1)) env2 = some o), fun _ _ h => h, fun v H3 hyld => ?_⟩
    obtain ⟨G3, x3, r3⟩ := hy v H3 hyld
    refine ⟨H0, G1, G3, env2, _, env3, S2.ext x3, r3, h3, fun σ4 S4 _ => ?_⟩
    cases hcc : c env3 with
    | none => rw [hcc] at h4; cases h4
    | some o4 =>
      rw [hcc] at h4
      refine ⟨H0, G1, G3, env3, o4, S4, hcc, ?_⟩
      cases o4 with
      | nx e => exact fun σ5 H5 G5 S5 => ⟨xs.length - (i + 1), by omega, rfl, hlt, G5, e, S5, h4⟩
      | ct e => exact fun σ5 H5 G5 S5 => ⟨xs.length - (i + 1), by omega, rfl, hlt, G5, e, S5, h4⟩
      | bk e =>
        cases h4
        exact q
      | rt d =>
        cases h4
        exact q
  · have e : i = xs.length := by omega
    subst e
    rw [List.drop_length] at h2
    cases h2
    exact .inl ⟨hj.1 (Nat.le_refl _), q σ2 H2 G2 S2⟩
def whL (t : Fb) (c : Cmd) : Nat → List Sl → Option Out
  | 0, _ => none
  | n + 1, env => (t env).bind fun k => if k then (match c env with
    | some (.nx e) => whL t c n e
    | some (.ct e) => whL t c n e
    | some (.bk e) => some (.nx e)
    | some (.rt d) => some (.rt d)
    | none => none) else some (.nx env)
def sWhile (n : Nat) (t : Fb) (c : Cmd) : Cmd := whL t c n
theorem sx_while {n : Nat} {tst : Expr} {body : List Stmt} {t : Fb} (hp : PassesOwn (model X.prog X.w) X.A X.env X.xe) (hc : TX X tst t) (hb : SsX X body c) : SX X (.While tst body [] pos) (sWhile n t c) := ps_imp (ps_while hp hc hb) fun E σ H q => by
  obtain ⟨H0, G0, G, env, o, S, e1, q⟩ := q
  refine ⟨fun m σ2 H2 => ∃ G2 env2, Ste X.K H0 G0 H2 G2 σ2 env2 ∧ whL t c m env2 = some o, ⟨n, G, env, S, e1⟩, ?_⟩
  rintro m σ2 H2 ⟨G2, env2, S2, h2⟩
  cases m with
  | zero => cases h2
  | succ m =>
    obtain ⟨k, h3, h4⟩ := Option.bind_eq_some_iff.mp (show (t env2).bind _ = some o from h2)
    refine ⟨H0, G0, G2, env2, k, S2, h3, fun H3 G3 x3 => ?_⟩
    cases k with
    | false =>
      cases h4
      exact q σ2 H3 G3 (S2.ext x3)
    | true =>
      refine ⟨fun σ3 H3 => ∃ m', m' < m + 1 ∧ ∃ G2 env2, Ste X.K H0 G0 H3 G2 σ3 env2 ∧ whL t c m' env2 = some o, fun _ _ h => h, ?_⟩
      cases hcc : c env2 with
      | none => rw [hcc] at h4; cases h4
      | some o4 =>
        rw [hcc] at h4
        refine ⟨H0, G0, G3, env2, o4, S2.ext x3, hcc, ?_⟩
        cases o4 with
        | nx e => exact fun σ5 H5 G5 S5 => ⟨m, Nat.lt_succ_self _, G5, e, S5, h4⟩
        | ct e => exact fun σ5 H5 G5 S5 => ⟨m, Nat.lt_succ_self _, G5, e, S5, h4⟩
        | bk e =>
          cases h4
          exact q
        | rt d =>
          cases h4
          exact q
end

/-! ### a def -/
def runC (n k : Nat) (c : Cmd) (ds : List D) : Option D := if ds.length = n then (match c (ds.map .val ++ List.replicate k .un) with
  | some (.nx _) => some .non
  | some (.rt d) => some d
  | _ => none) else none
theorem runC_len {n k : Nat} {c : Cmd} {ds : List D} {d : D} (h : runC n k c ds = some d) : ds.length = n := by
  unfold runC at h
  split at h
  · assumption
  · cases h
section
variable {P : Program} {w : World} {K : PySem.W.Frag} {mg : Str → Option Value} {base : Heap}
theorem ste_start {H G : Hp} {vs : List V} {ds : List D} {N : List Str} {k : Nat} (wf : Wf H G) (r : RpL K G ds vs) (hk : N.length = ds.length + k) : Ste K H G H G (L2.start N vs) (ds.map Sl.val ++ List.replicate k .un) := by
  have hl := r.len
  unfold L2.start
  have e : N.length - vs.length = k := by omega
  rw [e]
  refine ⟨Ext.refl wf, by simp [hl], fun i s x e1 e2 => ?_, fun i j s t x y c e1 e2 _ _ o1 _ => ?_⟩
  · by_cases hi : i < ds.length
    · rw [List.getElem?_append_left (by simpa using hi), List.getElem?_map] at e1
      rw [List.getElem?_append_left (by simpa using (by omega : i < vs.length)), List.getElem?_map] at e2
      obtain ⟨d, h1, rfl⟩ := Option.map_eq_some_iff.mp e1
      obtain ⟨v, h2, rfl⟩ := Option.map_eq_some_iff.mp e2
      exact ⟨v, rfl, r.get h1 h2⟩
    · rw [List.getElem?_append_right (by simpa using hi)] at e1
      obtain ⟨h, rfl⟩ := List.mem_replicate.mp (List.mem_of_getElem? e1)
      trivial
  · exfalso
    by_cases hi : i < ds.length
    · rw [List.getElem?_append_left (by simpa using hi), List.getElem?_map] at e1
      obtain ⟨d, h1, rfl⟩ := Option.map_eq_some_iff.mp e1
      exact o1
    · rw [List.getElem?_append_right (by simpa using hi)] at e1
      obtain ⟨h, rfl⟩ := List.mem_replicate.mp (List.mem_of_getElem? e1)
      exact o1
theorem fn_ok {x qual : Str} {st : Stmt} {f : Addr} {fd : FuncData} {N ps : List Str} {lv k n : Nat} {c : Cmd} (F : Fun K x qual st f fd) (S : FnScope N ps (defScope st)) (hn : ps.length = n) (hk : N.length = n + k)
    (hbody : ∀ (cdv : Value) (A : Around) (outer : List Env) (s : Shared) (H : Hp) (E : XK), Room lv (A.deeper (envOfC qual (defScope st) s.heap.objs.size f cdv)) →
      SsX (cxOf CX0 P w K mg base N qual (defScope st) f cdv A outer s H E).nox (defBody st) c) : FnOk P w K mg base CX0 (lv + 1) f fd ps (spD K (runC n k c) n) := by
  refine F.ok S (fun vs H Q E h => by rw [hn]; exact h.1) (fun cdv A outer s H vs Q E hr h => ?_)
  obtain ⟨hl, G, ds, d, wf, r, e, q⟩ := h
  refine ⟨_, hbody cdv A outer s H E hr, ?_⟩
  have hd := runC_len e
  unfold runC at e
  rw [if_pos hd] at e
  have S0 := ste_start (N := N) (k := k) wf r (by omega)
  cases hc : c (ds.map Sl.val ++ List.replicate k .un) with
  | none => rw [hc] at e; cases e
  | some o =>
    rw [hc] at e
    refine ⟨H, G, G, _, o, S0, hc, ?_⟩
    cases o with
    | nx e1 =>
      cases e
      exact fun σ H' G' S' => q _ H' G' S'.x0 rp_non
    | rt d' =>
      cases e
      exact fun v H' G' x' r' => q v H' G' x' r'
    | bk e1 => cases e
    | ct e1 => cases e
/-- a def of the text, as callers take it -/
structure FunT (K : PySem.W.Frag) (mg : Str → Option Value) (x : Str) (st : Stmt) : Prop where
  ex : ∃ (f : Addr) (fd : FuncData), Fun K x x st f fd ∧ mg x = some (.ref f)
structure FnT (P : Program) (w : World) (K : PySem.W.Frag) (mg : Str → Option Value) (base : Heap) (x : Str) (lv n : Nat) (run : List D → Option D) : Prop where
  ex : ∃ (f : Addr) (fd : FuncData) (ps : List Str), FnOk P w K mg base CX0 lv f fd ps (spD K run n) ∧ mg x = some (.ref f) ∧ PySem.W.keepIn K (.ref f) = true ∧ L2.Binds K fd ps []
  len : ∀ ds d, run ds = some d → ds.length = n
theorem fnt_mk {x : Str} {st : Stmt} {N ps : List Str} {lv k n : Nat} {c : Cmd} (F : FunT K mg x st) (S : FnScope N ps (defScope st)) (hn : ps.length = n) (hk : N.length = n + k)
    (hb : ∀ (kV doc pm : Value) (an : Option Addr) (cdv ct : Value) (us : List Value), us.length = ps.length → bindArgs (PySem.W.fnOf x x (defArgs st) (defBody st) (defScope st) .none kV doc pm an cdv ct) ⟨us, []⟩ = pure (ps.zip us))
    (hbody : ∀ (f : Addr) (cdv : Value) (A : Around) (outer : List Env) (s : Shared) (H : Hp) (E : XK), Room lv (A.deeper (envOfC x (defScope st) s.heap.objs.size f cdv)) →
      SsX (cxOf CX0 P w K mg base N x (defScope st) f cdv A outer s H E).nox (defBody st) c) : FnT P w K mg base x (lv + 1) n (runC n k c) := by
  obtain ⟨f, fd, F, hm⟩ := F.ex
  exact ⟨⟨f, fd, ps, fn_ok F S hn hk (hbody f), hm, F.kp, F.binds hb⟩, fun _ _ h => runC_len h⟩
/-- a def that may not be called at all -/
theorem fnt_zero {x : Str} {st : Stmt} {n lv : Nat} {ps : List Str} (F : FunT K mg x st)
    (hb : ∀ (kV doc pm : Value) (an : Option Addr) (cdv ct : Value) (us : List Value), us.length = ps.length → bindArgs (PySem.W.fnOf x x (defArgs st) (defBody st) (defScope st) .none kV doc pm an cdv ct) ⟨us, []⟩ = pure (ps.zip us)) :
    FnT P w K mg base x lv n (fun _ => none) := by
  obtain ⟨f, fd, F, hm⟩ := F.ex
  refine ⟨⟨f, fd, ps, ⟨fun vs H Q E h => ?_, fun A outer s H args us vs Q E _ _ _ _ h => ?_⟩, hm, F.kp, F.binds hb⟩, fun _ _ h => nomatch h⟩
  · obtain ⟨_, _, _, _, _, _, h, _⟩ := h
    cases h
  · obtain ⟨_, _, _, _, _, _, h, _⟩ := h
    cases h
theorem room65 {k : Nat} {A : Around} (hr : Room k A) : A.units + 65 < cLine := by
  have := hr.un
  omega
end
section
variable {X : Cx} {x : Str} {lv lv' n : Nat} {run : List D → Option D} {e : Expr} {es : List Expr} {fl : Fl} {p pos : Pos}
theorem ex_fnT (F : FnT X.prog X.w X.K X.mg X.base x lv n run) (hr : Room lv' X.A) (hl : lv ≤ lv') (hg : Gl X x) (ha : AX X (e :: es) fl) (hdb : (x == ("__debug__" : Str)) = false := by decide)
    (he : starEach (e :: es) X.env = (false, eval e X.env) :: starEach es X.env := by rfl) (hpl : (backTo pos (starEach es X.env)).any (·.1) = false := by rfl) : EX X (.Call (.Name x p) (e :: es) [] pos) (eFn run fl) := by
  obtain ⟨f, fd, ps, F1, hm, hk, hb⟩ := F.ex
  exact ex_fn F1 F.len (hr.mono hl) hg hm hk hb ha hdb he hpl
theorem ex_fnTB (F : FnT X.prog X.w X.K X.mg X.base x lv n run) (hr : Room lv' X.A) (hl : lv ≤ lv') (hg : Gl X x) (ha : ABX X (e :: es) fl) (hdb : (x == ("__debug__" : Str)) = false := by decide)
    (he : starEach (e :: es) X.env = (false, eval e X.env) :: starEach es X.env := by rfl) (hpl : (backTo pos (starEach es X.env)).any (·.1) = false := by rfl) : EX X (.Call (.Name x p) (e :: es) [] pos) (eFnB run fl) := by
  obtain ⟨f, fd, ps, F1, hm, hk, hb⟩ := F.ex
  exact ex_fnB F1 F.len (hr.mono hl) hg hm hk hb ha hdb he hpl
end
end PD

set_option Elab.async false
set_option linter.all false
set_option maxRecDepth 100000
namespace PD
open PySem PySem.Spec PyProof.Rows L2
section
variable {X : Cx} {a b c e : Expr} {fa fb fc f : Fe} {pos p : Pos} {es : List Expr} {fl : Fl}
def wmax : Nat := 1000000000000
/-! ### a op1 b op2 c -/
def eChain (g g' : D → D → Option D) (fa fb fc : Fe) : Fe := fun env => (fa env).bind fun x => (fb env).bind fun y => match g x y with
  | some (.bl true) => (fc env).bind fun z => g' y z
  | some (.bl false) => some (.bl false)
  | _ => none
theorem tChain_imp {g g' : D → D → Option D} {σ : L2.St} {H : Hp} {Q : VK} (q : tD X.K (eChain g g' fa fb fc) σ H Q) : tChain (rD X.K g) (rD X.K g') (tB X.K fa) (tB X.K fb) (tB X.K fc) σ H Q := by
  obtain ⟨H0, G0, G, env, d, S, e1, q⟩ := q
  obtain ⟨dx, h1, e1⟩ := Option.bind_eq_some_iff.mp e1
  obtain ⟨dy, h2, e1⟩ := Option.bind_eq_some_iff.mp e1
  refine ⟨H0, G0, G, env, dx, S, h1, fun v H1 G1 x1 r1 => ⟨H0, G0, G1, env, dy, S.ext x1, h2, fun u H2 G2 x2 r2 => ?_⟩⟩
  cases hg : g dx dy with
  | none => rw [hg] at e1; cases e1
  | some k =>
    rw [hg] at e1
    cases k with
    | bl k =>
      refine ⟨G2, dx, dy, _, x2.wf, r1.ext x2, r2, hg, fun w H3 G3 x3 r3 => ?_⟩
      simp only [Rp] at r3
      refine ⟨k, r3, ?_⟩
      have x13 := x1.trans (x2.trans x3)
      cases k with
      | true =>
        obtain ⟨dz, h3, h4⟩ := Option.bind_eq_some_iff.mp e1
        exact ⟨H0, G0, G3, env, dz, S.ext x13, h3, fun w' H4 G4 x4 r4 => ⟨G4, dy, dz, d, x4.wf, (r2.ext x3).ext x4, r4, h4, fun u' H5 G5 x5 r5 => q u' H5 G5 (x13.trans (x4.trans x5)) r5⟩⟩
      | false =>
        cases e1
        exact q _ H3 G3 x13 (rp_bl _)
    | _ => cases e1
theorem ex_chain {op op' : CmpOp} {g g' : D → D → Option D} (ho : OpR X (compareOp op) (rD X.K g)) (ho' : OpR X (compareOp op') (rD X.K g')) (ha : BX X a fa) (hb : BX X b fb) (hc : BX X c fc)
    (hm : lastMarks [op, op'] [b, c] = false := by with_unfolding_all rfl) : EX X (.Compare a [op, op'] [b, c] pos) (eChain g g' fa fb fc) := pe_imp (pe_chain ho ho' ha hb hc hm) fun _ _ _ q => tChain_imp q
theorem tx_chain {op op' : CmpOp} {g g' : D → D → Option D} (ho : OpR X (compareOp op) (rD X.K g)) (ho' : OpR X (compareOp op') (rD X.K g')) (ha : BX X a fa) (hb : BX X b fb) (hc : BX X c fc)
    (hm : lastMarks [op, op'] [b, c] = false := by with_unfolding_all rfl) : TX X (.Compare a [op, op'] [b, c] pos) (asB (eChain g g' fa fb fc)) := pt_imp (pt_chain ho ho' ha hb hc hm) fun _ _ _ q => tChain_imp (asB_imp q)

/-! ### new lists -/
def rCF (K : PySem.W.Frag) (g : List D → Option (List D)) : List V → Hp → VK → Prop := fun vs H Q => ∃ G ds r, Wf H G ∧ RpBL K H G ds vs ∧ g ds = some r ∧ ∀ p xs H' G', Ext H G H' G' → H p = none → H' p = some (.lst xs) → G' p = none → RpL K G' r xs → Q (.ref p) H'
def gListF : List D → Option (List D)
  | [.lst xs] => some xs
  | [.tup xs] => some xs
  | _ => none
theorem clistF : CallR X (.type "list") (rCF X.K gListF) := (call_list_of (X := X)).imp fun vs H Q q => by
  obtain ⟨G, ds, d, w, r, e, q⟩ := q
  unfold gListF at e
  split at e
  · cases e
    obtain ⟨a, xs, rfl, h2, h3⟩ := rpbl_lst r
    exact ⟨a, xs, rfl, .inl (SqL.of h2), tF_new w h3 q⟩
  · cases e
    obtain ⟨a, xs, rfl, h2, h3⟩ := rpbl_tup r
    exact ⟨a, xs, rfl, .inr (sqt_up w h2), tF_new w h3 q⟩
  · cases e
/-- the sorted ints -/
def sortI (ns : List Int) : List Int := ns.mergeSort (fun a b => decide (a ≤ b))
theorem sortI_perm (ns : List Int) : (sortI ns).Perm ns := List.mergeSort_perm ns _
theorem sortI_sorted (ns : List Int) : (sortI ns).Pairwise (· ≤ ·) := by
  have h := List.pairwise_mergeSort (le := fun a b : Int => decide (a ≤ b)) (fun a b c h1 h2 => by
    simp only [decide_eq_true_eq] at *
    omega) (fun a b => by
    simp only [Bool.or_eq_true, decide_eq_true_eq]
    omega) ns
  exact h.imp fun h => by simpa using h
theorem sorted_unique : ∀ {as bs : List Int}, as.Perm bs → as.Pairwise (· ≤ ·) → bs.Pairwise (· ≤ ·) → as = bs
  | [], bs, p, _, _ => (List.Perm.nil_eq p)
  | a :: as, bs, p, h1, h2 => by
    cases bs with
    | nil => exact absurd p.length_eq (by simp)
    | cons b bs =>
      have ha : a ∈ b :: bs := p.mem_iff.mp List.mem_cons_self
      have hb : b ∈ a :: as := p.mem_iff.mpr List.mem_cons_self
      have e : a = b := by
        have q1 : a ≤ b := by
          rcases List.mem_cons.mp hb with z | z
          · omega
          · exact (List.pairwise_cons.mp h1).1 b z
        have q2 : b ≤ a := by
          rcases List.mem_cons.mp ha with z | z
          · omega
          · exact (List.pairwise_cons.mp h2).1 a z
        omega
      subst e
      rw [sorted_unique (List.Perm.cons_inv p) (List.pairwise_cons.mp h1).2 (List.pairwise_cons.mp h2).2]
def gSortF : List D → Option (List D)
  | [.lst xs] => (intsOf xs).map fun ns => (sortI ns).map D.int
  | _ => none
theorem csortF : CallR X (.builtin "sorted") (rCF X.K gSortF) := (cr_sortedI (X := X)).imp fun vs H Q q => by
  obtain ⟨G, ds, d, w, r, e, q⟩ := q
  unfold gSortF at e
  split at e
  · obtain ⟨ns, h1, rfl⟩ := Option.map_eq_some_iff.mp e
    obtain ⟨a, xs, rfl, h2, h3⟩ := rpbl_lst r
    rw [intsOf_some h1] at h3
    rw [h3.ints] at h2
    refine ⟨a, ns, rfl, SqL.of h2, fun ns' p pm so hp => ?_⟩
    have := sorted_unique (pm.trans (sortI_perm ns).symm) so (sortI_sorted ns)
    subst this
    exact tF_new w (RpL.of_ints _) q p hp
  · cases e
def fCall (g : List D → Option (List D)) (fl : Fl) : Fl := fun env => (fl env).bind g
theorem tCB_impF {g : List D → Option (List D)} {σ : L2.St} {H : Hp} {Q : VK} (q : tF X.K (fCall g fl) σ H Q) : tCB (rCF X.K g) (tAB X.K fl) σ H Q := by
  obtain ⟨H0, G0, G, env, d, S, e1, q⟩ := q
  obtain ⟨ds, h1, e1⟩ := Option.bind_eq_some_iff.mp e1
  exact ⟨H0, G0, G, env, ds, S, h1, fun vs H1 G1 x1 r1 => ⟨G1, ds, d, x1.wf, r1, e1, fun p xs H2 G2 x2 n2 h2 g2 r2 => q p xs H2 G2 (x1.trans x2) (x1.hh.free n2) h2 g2 r2⟩⟩
variable {x : Str} {id T : String} {g : List D → Option (List D)}
theorem fx_callB (hc : CallR X (.builtin id) (rCF X.K g)) (hg : Gl X x) (hm : X.mg x = none) (hv : bootBuiltins x = some (.builtin id)) (ha : ABX X (e :: es) fl) (hn : x ≠ "__name__" := by decide) (hdb : (x == ("__debug__" : Str)) = false := by decide)
    (he : starEach (e :: es) X.env = (false, eval e X.env) :: starEach es X.env := by rfl) (hpl : (backTo pos (starEach es X.env)).any (·.1) = false := by rfl) : FX X (.Call (.Name x p) (e :: es) [] pos) (fCall g fl) :=
  pe_imp (pe_callB hc hg hm hv ha hn hdb he hpl) fun _ _ _ q => tCB_impF q
theorem fx_callTy (hc : CallR X (.type T) (rCF X.K g)) (hg : Gl X x) (hm : X.mg x = none) (hv : bootBuiltins x = some (.type T)) (ha : ABX X (e :: es) fl) (hn : x ≠ "__name__" := by decide) (hdb : (x == ("__debug__" : Str)) = false := by decide)
    (he : starEach (e :: es) X.env = (false, eval e X.env) :: starEach es X.env := by rfl) (hpl : (backTo pos (starEach es X.env)).any (·.1) = false := by rfl) : FX X (.Call (.Name x p) (e :: es) [] pos) (fCall g fl) :=
  pe_imp (pe_callTy hc hg hm hv ha hn hdb he hpl) fun _ _ _ q => tCB_impF q
/-- list * int, list + list, as new lists -/
def rDF (K : PySem.W.Frag) (g : D → D → Option (List D)) : R2 := fun x y H Q => ∃ G dx dy r, Wf H G ∧ RpB K H G dx x ∧ RpB K H G dy y ∧ g dx dy = some r ∧ ∀ p xs H' G', Ext H G H' G' → H p = none → H' p = some (.lst xs) → G' p = none → RpL K G' r xs → Q (.ref p) H'
def fOp (g : D → D → Option (List D)) (fa fb : Fe) : Fl := fun env => (fa env).bind fun x => (fb env).bind fun y => g x y
theorem fx_op {op : Operator} {g : D → D → Option (List D)} (ho : OpR X (binaryOp op) (rDF X.K g)) (ha : BX X a fa) (hb : BX X b fb) : FX X (.BinOp a op b pos) (fOp g fa fb) :=
  pe_imp (pe_op ho ha hb) fun σ H Q q => by
    obtain ⟨H0, G0, G, env, d, S, e1, q⟩ := q
    obtain ⟨dx, h1, e1⟩ := Option.bind_eq_some_iff.mp e1
    obtain ⟨dy, h2, e1⟩ := Option.bind_eq_some_iff.mp e1
    exact ⟨H0, G0, G, env, dx, S, h1, fun v H1 G1 x1 r1 => ⟨H0, G0, G1, env, dy, S.ext x1, h2, fun w H2 G2 x2 r2 =>
      ⟨G2, dx, dy, d, x2.wf, r1.ext x2, r2, e1, fun p xs H3 G3 x3 n3 h3 g3 r3 => q p xs H3 G3 (x1.trans (x2.trans x3)) (x1.hh.free (x2.hh.free n3)) h3 g3 r3⟩⟩⟩
def gRepF : D → D → Option (List D)
  | .lst xs, .int k => if decide (-1000000000 ≤ k) && decide (k ≤ 1000000000) && lim (xs.length * k.toNat) then some (List.replicate k.toNat xs).flatten else none
  | _, _ => none
theorem orepF : OpR X (binaryOp .Mult) (rDF X.K gRepF) := (op_rep (X := X)).imp fun x y H Q q => by
  obtain ⟨G, dx, dy, d, w, rx, ry, e, q⟩ := q
  unfold gRepF at e
  split at e
  · split at e
    · rename_i hz
      cases e
      simp only [Bool.and_eq_true, decide_eq_true_eq] at hz
      obtain ⟨⟨h5, h6⟩, h7⟩ := hz
      obtain ⟨a, xs, rfl, h1, h2⟩ := rx
      refine ⟨a, _, xs, rfl, rpb_int ry, h1, by omega, by omega, ?_, tF_new w (h2.rep _) q⟩
      rw [← h2.len]
      exact lim_le h7
    · cases e
  · cases e
def gCatF : D → D → Option (List D)
  | .lst xs, .lst ys => if lim (xs ++ ys).length then some (xs ++ ys) else none
  | _, _ => none
theorem ocatF : OpR X (binaryOp .Add) (rDF X.K gCatF) := (op_cat (X := X)).imp fun x y H Q q => by
  obtain ⟨G, dx, dy, d, w, rx, ry, e, q⟩ := q
  unfold gCatF at e
  split at e
  · split at e
    · rename_i hz
      cases e
      obtain ⟨a, xs, rfl, h1, h2⟩ := rx
      obtain ⟨b, ys, rfl, h3, h4⟩ := ry
      refine ⟨a, b, xs, ys, rfl, rfl, h1, h3, ?_, tF_new w (h2.append h4) q⟩
      have := lim_le hz
      rw [List.length_append, h2.len, h4.len] at this
      exact this
    · cases e
  · cases e
/-- list(range(..)) -/
def iRg1' (f : Fe) : Fl := fun env => match f env with
  | some (.int j) => if decide (-1000000000 ≤ j) && decide (j ≤ 16000000) then some (rngL 0 j.toNat) else none
  | _ => none
def iRg2' (f f' : Fe) : Fl := fun env => match f env, f' env with
  | some (.int i), some (.int j) => if rngOk i && rngOk j && lim (j - i).toNat then some (rngL i (j - i).toNat) else none
  | _, _ => none
theorem rgV_rp {K : PySem.W.Frag} {G : Hp} (i j : Int) : RpL K G (rngL i (j - i).toNat) (rgV i j) := by
  unfold rngL rgV
  have : ∀ ns : List Nat, RpL K G (ns.map fun k => D.int (i + (k : Nat))) (ns.map fun k => V.int (i + (k : Nat))) := by
    intro ns
    induction ns with
    | nil => exact RpL.nil
    | cons n ns ih => exact RpL.cons (rp_int _) ih
  exact this _
theorem fx_lrg1 {p2 : Pos} (hc : X.calm = true) (hg : Gl X "list") (hm : X.mg "list" = none) (hg2 : Gl X "range") (hm2 : X.mg "range" = none) (ha : BX X a f)
    (na : starEach [a] X.env = (false, eval a X.env) :: starEach [] X.env := by rfl) (na2 : starEach [.Call (.Name "range" p2) [a] [] pos] X.env = (false, eval (.Call (.Name "range" p2) [a] [] pos) X.env) :: starEach [] X.env := by rfl) {pos' : Pos} :
    FX X (.Call (.Name "list" p) [.Call (.Name "range" p2) [a] [] pos] [] pos') (iRg1' f) := pe_imp (pe_listRg hc hg hm (prg_1 hg2 hm2 ha na) na2) fun σ H Q q => by
  obtain ⟨H0, G0, G, env, d, S, e1, q⟩ := q
  unfold iRg1' at e1
  split at e1
  · rename_i j hj
    split at e1
    · rename_i hz
      cases e1
      simp only [Bool.and_eq_true, decide_eq_true_eq] at hz
      refine ⟨H0, G0, G, env, _, S, hj, fun v H1 G1 x1 r1 => ⟨j, rpb_int r1, ⟨by omega, by omega, by omega, by omega, by omega⟩, ?_⟩⟩
      refine tF_new (K := X.K) x1.wf (rgV_rp 0 j) fun p xs H2 G2 x2 n2 h2 g2 r2 => q p xs H2 G2 (x1.trans x2) (x1.hh.free n2) h2 g2 ?_
      simpa using r2
    · cases e1
  · cases e1
theorem fx_lrg2 {p2 : Pos} (hc : X.calm = true) (hg : Gl X "list") (hm : X.mg "list" = none) (hg2 : Gl X "range") (hm2 : X.mg "range" = none) (ha : BX X a fa) (hb : BX X b fb)
    (na : starEach [a, b] X.env = (false, eval a X.env) :: starEach [b] X.env := by rfl) (nb : starEach [b] X.env = (false, eval b X.env) :: starEach [] X.env := by rfl) (hpp : (backTo pos (starEach [b] X.env)).any (·.1) = false := by rfl)
    (na2 : starEach [.Call (.Name "range" p2) [a, b] [] pos] X.env = (false, eval (.Call (.Name "range" p2) [a, b] [] pos) X.env) :: starEach [] X.env := by rfl) {pos' : Pos} :
    FX X (.Call (.Name "list" p) [.Call (.Name "range" p2) [a, b] [] pos] [] pos') (iRg2' fa fb) := pe_imp (pe_listRg hc hg hm (prg_2 hg2 hm2 ha hb na nb hpp) na2) fun σ H Q q => by
  obtain ⟨H0, G0, G, env, d, S, e1, q⟩ := q
  unfold iRg2' at e1
  split at e1
  · rename_i i j hi hj
    split at e1
    · rename_i hz
      cases e1
      simp only [Bool.and_eq_true] at hz
      obtain ⟨⟨h1, h2⟩, h3⟩ := hz
      have b1 := rngOk_b h1
      have b2 := rngOk_b h2
      have b3 := of_decide_eq_true h3
      refine ⟨H0, G0, G, env, _, S, hi, fun v H1 G1 x1 r1 => ⟨H0, G0, G1, env, _, S.ext x1, hj, fun u H2 G2 x2 r2 => ⟨i, j, rpb_int r1, rpb_int r2, ⟨by omega, by omega, by omega, by omega, by omega⟩, ?_⟩⟩⟩
      exact tF_new x2.wf (rgV_rp i j) fun p xs H3 G3 x3 n3 h3 g3 r3 => q p xs H3 G3 (x1.trans (x2.trans x3)) (x1.hh.free (x2.hh.free n3)) h3 g3 r3
    · cases e1
  · cases e1
end
/-- a constant of the module -/
structure CI (mg : Str → Option Value) (x : Str) (i : Int) : Prop where
  ex : ∃ t, mg x = some (.int i t)
theorem ex_ci {X : Cx} {x : Str} {i : Int} {pos : Pos} (C : CI X.mg x i) (hg : Gl X x) (hd : (x == ("__debug__" : Str)) = false := by decide) : EX X (.Name x pos) (eC (.int i)) := by
  obtain ⟨t, h⟩ := C.ex
  exact ex_globI hg h ⟨t, rfl⟩ hd

/-! ### what a name is given: a settled value or a new object -/
def NewOk (K : PySem.W.Frag) (H H' G' : Hp) : Sl → V → Prop
  | .un, _ => False
  | .val d, v => Rp K G' d v
  | .own ds, v => ∃ p xs, v = .ref p ∧ H p = none ∧ H' p = some (.lst xs) ∧ G' p = none ∧ RpL K G' ds xs
  | .ownD t ds, v => ∃ p, v = .ref p ∧ H p = none ∧ G' p = none ∧ ((t = false ∧ ∃ ks, H' p = some (.dK ks) ∧ RpK K G' ds ks) ∨ (t = true ∧ ∃ ks, H' p = some (.dT ks) ∧ RpT K G' ds ks))
  | .own2 dss, v => ∃ (p : Addr) (bs : List Addr), v = .ref p ∧ H p = none ∧ H' p = some (.lst (bs.map V.ref)) ∧ G' p = none ∧ (p :: bs).Nodup ∧ In2 K H H' G' dss bs
abbrev Fn := List Sl → Option Sl
def tN (K : PySem.W.Frag) (s : Fn) : TE := fun σ H Q => ∃ H0 G0 G env sl, Ste K H0 G0 H G σ env ∧ s env = some sl ∧ ∀ v H' G', Ext H G H' G' → NewOk K H H' G' sl v → Q v H'
abbrev NX (X : Cx) (e : Expr) (s : Fn) : Prop := PE X e (tN X.K s)
def vN (f : Fe) : Fn := fun env => (f env).map .val
def oN (f : Fl) : Fn := fun env => (f env).map .own
theorem tN_D {K : PySem.W.Frag} {f : Fe} {σ : L2.St} {H : Hp} {Q : VK} (q : tN K (vN f) σ H Q) : tD K f σ H Q := by
  obtain ⟨H0, G0, G, env, sl, S, e1, q⟩ := q
  obtain ⟨d, h1, rfl⟩ := Option.map_eq_some_iff.mp e1
  exact ⟨H0, G0, G, env, d, S, h1, fun v H' G' x r => q v H' G' x r⟩
theorem tN_F {K : PySem.W.Frag} {f : Fl} {σ : L2.St} {H : Hp} {Q : VK} (q : tN K (oN f) σ H Q) : tF K f σ H Q := by
  obtain ⟨H0, G0, G, env, sl, S, e1, q⟩ := q
  obtain ⟨d, h1, rfl⟩ := Option.map_eq_some_iff.mp e1
  exact ⟨H0, G0, G, env, d, S, h1, fun p xs H' G' x n h g r => q _ H' G' x ⟨p, xs, rfl, n, h, g, r⟩⟩
theorem nx_v {X : Cx} {e : Expr} {f : Fe} (h : EX X e f) : NX X e (vN f) := pe_imp h fun _ _ _ q => tN_D q
theorem nx_f {X : Cx} {e : Expr} {f : Fl} (h : FX X e f) : NX X e (oN f) := pe_imp h fun _ _ _ q => tN_F q
theorem NewOk.ext {K : PySem.W.Frag} {H H1 G1 H2 G2 : Hp} (x : Ext H1 G1 H2 G2) {s : Sl} {v : V} (h : NewOk K H H1 G1 s v) : NewOk K H H2 G2 s v := by
  cases s with
  | un => exact h
  | val d => exact Rp.mono x.gg _ _ h
  | own ds =>
    obtain ⟨p, xs, h1, h2, h3, h4, h5⟩ := h
    exact ⟨p, xs, h1, h2, x.hh _ _ h3, ext_none x h3 h4, RpL.mono x.gg _ _ h5⟩
  | ownD t ds =>
    obtain ⟨p, h1, h2, h4, h5⟩ := h
    rcases h5 with ⟨ht, ks, h6, h7⟩ | ⟨ht, ks, h6, h7⟩
    · exact ⟨p, h1, h2, ext_none x h6 h4, .inl ⟨ht, ks, x.hh _ _ h6, RpK.mono x.gg _ _ h7⟩⟩
    · exact ⟨p, h1, h2, ext_none x h6 h4, .inr ⟨ht, ks, x.hh _ _ h6, RpT.mono x.gg _ _ h7⟩⟩
  | own2 dss =>
    obtain ⟨p, bs, h1, h2, h3, h4, h5, h6⟩ := h
    refine ⟨p, bs, h1, h2, x.hh _ _ h3, ext_none x h3 h4, h5, h6.keep x.gg (fun c _ u e => x.hh _ _ e) fun c hc => ?_⟩
    obtain ⟨⟨ys, h7⟩, h8, _⟩ := h6.mem c hc
    exact ext_none x h7 h8
/-- a slot that holds an object at a knows it in the heap -/
theorem Ste.own_at {K : PySem.W.Frag} {H0 G0 H G : Hp} {σ : L2.St} {env : List Sl} (S : Ste K H0 G0 H G σ env) {i : Nat} {s : Sl} {a : Addr} (e : env[i]? = some s) (o : s.isOwn = true) (v : σ[i]? = some (some (.ref a))) : ∃ u, H a = some u := by
  obtain ⟨x, hx, hs⟩ := S.at e
  rw [v] at hx
  cases hx
  cases s with
  | un => cases o
  | val _ => cases o
  | own ds =>
    obtain ⟨b, xs, h1, h2, _⟩ := hs
    cases h1
    exact ⟨_, h2⟩
  | ownD t ds =>
    obtain ⟨b, h1, _, _, h5⟩ := hs
    cases h1
    rcases h5 with ⟨ht, ks, h6, _⟩ | ⟨ht, ks, h6, _⟩
    · exact ⟨_, h6⟩
    · exact ⟨_, h6⟩
  | own2 dss =>
    obtain ⟨b, bs, h1, h2, _⟩ := hs
    cases h1
    exact ⟨_, h2⟩
theorem In2.new {K : PySem.W.Frag} {H0 Hb H G : Hp} (hb : Same H0 Hb) : ∀ {dss : List (List D)} {bs : List Addr}, In2 K Hb H G dss bs → In2 K H0 H G dss bs
  | [], _, h => h
  | ds :: dss, _, h => by
    obtain ⟨b, r, ys, rfl, h1, h2, h3, h4, h5⟩ := h
    exact ⟨b, r, ys, rfl, h1, h2, hb.free h3, h4, In2.new hb h5⟩
/-- the objects of what is new -/
theorem newok_foot {K : PySem.W.Frag} {H H' G' H2 : Hp} {s : Sl} {v : V} {c : Addr} (h : NewOk K H H' G' s v) (sh : Same H' H2) (f : Foot H2 s (some v) c) : H c = none ∧ ∃ u, H' c = some u := by
  cases s with
  | un => exact f.elim
  | val _ => exact f.elim
  | own ds =>
    obtain ⟨p, xs, rfl, h2, h3, _⟩ := h
    have f : some (V.ref p) = some (V.ref c) := f
    cases f
    exact ⟨h2, _, h3⟩
  | ownD t ds =>
    obtain ⟨p, rfl, h2, h4, h5⟩ := h
    have f : some (V.ref p) = some (V.ref c) := f
    cases f
    rcases h5 with ⟨ht, ks, h6, _⟩ | ⟨ht, ks, h6, _⟩
    · exact ⟨h2, _, h6⟩
    · exact ⟨h2, _, h6⟩
  | own2 dss =>
    obtain ⟨p, bs, rfl, h2, h3, h4, h5, h6⟩ := h
    rcases f with f | ⟨a, bs', f1, f2, f3⟩
    · cases f
      exact ⟨h2, _, h3⟩
    · cases f1
      rw [sh _ _ h3] at f2
      cases ref_inj (HO.lst.inj (Option.some.inj f2))
      have := h6.mem c f3
      exact ⟨this.2.2, _, this.1.choose_spec⟩
/-- the object is new where H is the heap ahead -/
theorem Ste.setN {K : PySem.W.Frag} {H0 G0 H G : Hp} {σ : L2.St} {env : List Sl} (S : Ste K H0 G0 H G σ env) (i : Nat) {Hb : Hp} (hb : Same H0 Hb) {s : Sl} {v : V} (h : NewOk K Hb H G s v)
    (fr : ∀ (j : Nat) (t : Sl) (y : Option V) (c : Addr), j ≠ i → env[j]? = some t → σ[j]? = some y → Foot H t y c → ∃ u, Hb c = some u) : Ste K H0 G0 H G (σ.set i (some v)) (env.set i s) := by
  have frs : ∀ (a : Addr), v = .ref a → ∀ (j : Nat) (t : Sl) (y : Option V) (c : Addr), j ≠ i → env[j]? = some t → σ[j]? = some y → Foot H t y c → ¬ Foot H s (some (.ref a)) c := fun a ea j t y c hj e1 e2 f f2 => by
    obtain ⟨u, hu⟩ := fr j t y c hj e1 e2 f
    subst ea
    rw [(newok_foot h (Same.refl H) f2).1] at hu
    cases hu
  cases s with
  | un => exact h.elim
  | val d => exact S.setV i rfl ⟨v, rfl, h⟩
  | own ds =>
    obtain ⟨p, xs, rfl, h2, h3, h4, h5⟩ := h
    exact S.setO i ⟨p, xs, rfl, h3, h4, hb.free h2, h5⟩ (frs p rfl)
  | ownD t ds =>
    obtain ⟨p, rfl, h2, h4, h5⟩ := h
    exact S.setO i ⟨p, rfl, h4, hb.free h2, h5⟩ (frs p rfl)
  | own2 dss =>
    obtain ⟨p, bs, rfl, h2, h3, h4, h5, h6⟩ := h
    exact S.setO i ⟨p, bs, rfl, h3, h4, hb.free h2, h5, h6.new hb⟩ (frs p rfl)
section
variable {X : Cx} {a b c e : Expr} {s s1 s2 s3 : Fn} {pos : Pos}
/-- name = e -/
def sSetN (i : Nat) (s : Fn) : Cmd := fun env => (s env).map fun sl => Out.nx (env.set i sl)
theorem tAsg_setN {i : Nat} {te : TE} {K : PySem.W.Frag} {E : Ends} {σ : L2.St} {H : Hp} (ht : ∀ Q, tN K s σ H Q → te σ H Q) (q : tS K (sSetN i s) E σ H) : tAsg te (gName i) E σ H := by
  obtain ⟨H0, G0, G, env, o, S, e, q⟩ := q
  obtain ⟨sl, h1, rfl⟩ := Option.map_eq_some_iff.mp e
  refine ht _ ⟨H0, G0, G, env, sl, S, h1, fun v H1 G1 x1 r1 => q _ H1 G1 ((S.ext x1).setN i S.x0.hh r1 fun j t y c hj ej ev f => S.foot_old x1.hh ej ev f)⟩
theorem sx_setN {i : Nat} {x : Str} {pos' : Pos} (hN : X.N.Nodup) (hi : X.N[i]? = some x) (hx : Loc X.env.scope x) (he : NX X e s) (hs : swapsWith e (some (.Name x pos')) pos.line X.env = pure false := by rfl) (hf : X.fn x = true ∨ X.env.scope.names.lookup x = some .local := by first | exact .inl rfl | exact .inr rfl | assumption) :
    SX X (.Assign [.Name x pos'] e pos) (sSetN i s) := ps_imp (ps_set hN hi hx he hs hf) fun E σ H q => tAsg_setN (fun _ q => q) q
/-- a, b = e1, e2 -/
def sParN (i j : Nat) (s1 s2 : Fn) : Cmd := fun env => (s1 env).bind fun u => (s2 env).map fun v => Out.nx ((env.set i u).set j v)
theorem get_set_ne {α : Type} {l : List α} {i j : Nat} {x : α} (h : i ≠ j) : (l.set i x)[j]? = l[j]? := List.getElem?_set_ne h
theorem sx_parN {i j : Nat} {x y : Str} {px py pt : Pos} {kt k2 pt2} (hc : X.calm = true) (hN : X.N.Nodup) (hi : X.N[i]? = some x) (hj : X.N[j]? = some y) (hij : i ≠ j)
    (hx : X.env.scope.names.lookup x = some .local) (hy : X.env.scope.names.lookup y = some .local) (ha : NX X a s1) (hb : NX X b s2)
    (hw : swappedStores [.Tuple [.Name x px, .Name y py] kt pt] (.Tuple [a, b] k2 pt2) X.env = pure (some [x, y]))
    (hs : swapsWithSole [.Tuple [.Name x px, .Name y py] kt pt] (.Tuple [a, b] k2 pt2) pos.line X.env = pure false := by rfl)
    (h1 : starEach [a, b] X.env = (false, eval a X.env) :: starEach [b] X.env := by rfl) (h2 : starEach [b] X.env = (false, eval b X.env) :: starEach [] X.env := by rfl) :
    SX X (.Assign [.Tuple [.Name x px, .Name y py] kt pt] (.Tuple [a, b] k2 pt2) pos) (sParN i j s1 s2) := ps_imp (ps_par hc hN hi hj hij hx hy (pa_cons ha (pa_cons hb pa_nil h2) h1) hw hs) fun E σ H q => by
  obtain ⟨H0, G0, G, env, o, S, e, q⟩ := q
  obtain ⟨u, h1, e⟩ := Option.bind_eq_some_iff.mp e
  obtain ⟨v, h2, rfl⟩ := Option.map_eq_some_iff.mp e
  refine ⟨H0, G0, G, env, u, S, h1, fun p H1 G1 x1 r1 => ⟨H0, G0, G1, env, v, S.ext x1, h2, fun w H2 G2 x2 r2 => ⟨p, w, rfl, ?_⟩⟩⟩
  have S1 := S.ext x1
  have S2 := S1.ext x2
  have T1 : Ste X.K H0 G0 H2 G2 (σ.set i (some p)) (env.set i u) := S2.setN i S.x0.hh (r1.ext x2) fun k t y c hk ek ev f => S.foot_old (x1.trans x2).hh ek ev f
  refine q _ H2 G2 (T1.setN j S1.x0.hh r2 fun k t y c hk ek ev f => ?_)
  rcases set_at' ek with ⟨rfl, rfl⟩ | ⟨hki, ek'⟩
  · rcases set_at' ev with ⟨_, rfl⟩ | ⟨hki, _⟩
    · exact (newok_foot r1 x2.hh f).2
    · exact absurd rfl hki
  · rw [get_set_ne hki] at ev
    exact S1.foot_old x2.hh ek' ev f
/-- a, b, c = e1, e2, e3 -/
def sPar3N (i j l : Nat) (s1 s2 s3 : Fn) : Cmd := fun env => (s1 env).bind fun u => (s2 env).bind fun v => (s3 env).map fun w => Out.nx (((env.set i u).set j v).set l w)
theorem sx_par3N {i j l : Nat} {x y z : Str} {px py pz pt : Pos} {kt k2 pt2} (hc : X.calm = true) (hN : X.N.Nodup) (hi : X.N[i]? = some x) (hj : X.N[j]? = some y) (hl : X.N[l]? = some z) (hij : i ≠ j) (hil : i ≠ l) (hjl : j ≠ l)
    (hx : X.env.scope.names.lookup x = some .local) (hy : X.env.scope.names.lookup y = some .local) (hz : X.env.scope.names.lookup z = some .local) (ha : NX X a s1) (hb : NX X b s2) (hcc : NX X c s3)
    (hw : swappedStores [.Tuple [.Name x px, .Name y py, .Name z pz] kt pt] (.Tuple [a, b, c] k2 pt2) X.env = pure (some [x, y, z]))
    (hs : swapsWithSole [.Tuple [.Name x px, .Name y py, .Name z pz] kt pt] (.Tuple [a, b, c] k2 pt2) pos.line X.env = pure false := by rfl)
    (h1 : starEach [a, b, c] X.env = (false, eval a X.env) :: starEach [b, c] X.env := by rfl) (h2 : starEach [b, c] X.env = (false, eval b X.env) :: starEach [c] X.env := by rfl) (h3 : starEach [c] X.env = (false, eval c X.env) :: starEach [] X.env := by rfl) :
    SX X (.Assign [.Tuple [.Name x px, .Name y py, .Name z pz] kt pt] (.Tuple [a, b, c] k2 pt2) pos) (sPar3N i j l s1 s2 s3) := ps_imp (ps_par3 hc hN hi hj hl hij hil hjl hx hy hz (pa_cons ha (pa_cons hb (pa_cons hcc pa_nil h3) h2) h1) hw hs) fun E σ H q => by
  obtain ⟨H0, G0, G, env, o, S, e, q⟩ := q
  obtain ⟨u, h1, e⟩ := Option.bind_eq_some_iff.mp e
  obtain ⟨v, h2, e⟩ := Option.bind_eq_some_iff.mp e
  obtain ⟨w, h3, rfl⟩ := Option.map_eq_some_iff.mp e
  refine ⟨H0, G0, G, env, u, S, h1, fun p H1 G1 x1 r1 => ⟨H0, G0, G1, env, v, S.ext x1, h2, fun p' H2 G2 x2 r2 => ⟨H0, G0, G2, env, w, (S.ext x1).ext x2, h3, fun p'' H3 G3 x3 r3 => ⟨p, p', p'', rfl, ?_⟩⟩⟩⟩
  have S1 := S.ext x1
  have S2 := S1.ext x2
  have S3 := S2.ext x3
  have T1 : Ste X.K H0 G0 H3 G3 (σ.set i (some p)) (env.set i u) := S3.setN i S.x0.hh ((r1.ext x2).ext x3) fun k t y c hk ek ev f => S.foot_old (x1.trans (x2.trans x3)).hh ek ev f
  have T2 : Ste X.K H0 G0 H3 G3 ((σ.set i (some p)).set j (some p')) ((env.set i u).set j v) := T1.setN j S1.x0.hh (r2.ext x3) fun k t y c hk ek ev f => by
    rcases set_at' ek with ⟨rfl, rfl⟩ | ⟨hki, ek'⟩
    · rcases set_at' ev with ⟨_, rfl⟩ | ⟨hki, _⟩
      · exact (newok_foot r1 (x2.trans x3).hh f).2
      · exact absurd rfl hki
    · rw [get_set_ne hki] at ev
      exact S1.foot_old (x2.trans x3).hh ek' ev f
  refine q _ H3 G3 (T2.setN l S2.x0.hh r3 fun k t y c hk ek ev f => ?_)
  rcases set_at' ek with ⟨rfl, rfl⟩ | ⟨hkj, ek'⟩
  · rcases set_at' ev with ⟨_, rfl⟩ | ⟨hkj, _⟩
    · exact (newok_foot r2 x3.hh f).2
    · exact absurd rfl hkj
  · rw [get_set_ne hkj] at ev
    rcases set_at' ek' with ⟨rfl, rfl⟩ | ⟨hki, ek2⟩
    · rcases set_at' ev with ⟨_, rfl⟩ | ⟨hki, _⟩
      · exact (newok_foot (r1.ext x2) x3.hh f).2
      · exact absurd rfl hki
    · rw [get_set_ne hki] at ev
      exact S2.foot_old x3.hh ek2 ev f
end
end PD

set_option Elab.async false
set_option linter.all false
set_option maxRecDepth 100000
namespace PD
open PySem PySem.Spec PyProof.Rows L2
section
variable {X : Cx} {tg a b e : Expr} {f : Fe} {fl : Fl} {pos p tpos : Pos} {elts : List Expr} {kk : Nat}
def enumL (xs : List D) : List D := xs.zipIdx.map fun q => D.tup [.int (q.2 : Nat), q.1]
theorem enumL_get (xs : List D) (i : Nat) : (enumL xs)[i]? = xs[i]?.map fun x => D.tup [.int (i : Nat), x] := by
  unfold enumL
  rw [List.getElem?_map, List.getElem?_zipIdx]
  cases xs[i]? with
  | none => rfl
  | some x => simp
theorem enumL_len (xs : List D) : (enumL xs).length = xs.length := by
  unfold enumL
  rw [List.length_map, List.length_zipIdx]
theorem new_pair {K : PySem.W.Frag} {H G : Hp} (w : Wf H G) {T : Addr} (hT : H T = none) {x y : V} {d d' : D} (r : Rp K G d x) (r' : Rp K G d' y) : ∃ G', Ext H G (upd H T (.tup [x, y])) G' ∧ Rp K G' (.tup [d, d']) (.ref T) := by
  have e : Ext H G (upd H T (.tup [x, y])) (upd G T (.tup [x, y])) := Ext.alloc w hT
  refine ⟨_, e, ?_⟩
  simp only [Rp]
  exact ⟨T, _, rfl, upd_same, RpL.mono e.gg _ _ (RpL.cons r (RpL.cons r' RpL.nil))⟩
theorem ite_ok {K : PySem.W.Frag} {a : Addr} {xs : List V} {ds : List D} {H1 G1 : Hp} (h : ∀ H G : Hp, Same G1 G → Wf H G → Same H1 H → SqL K H a xs) (r : RpL K G1 ds xs) : ItC K (Ite K a) (enumL ds) H1 G1 := fun i H G sh sg w => by
  have hs := h H G sg w sh
  refine ⟨fun hi => ⟨xs, hs, by rw [enumL_len] at hi; rw [← r.len]; exact hi⟩, fun d hd => ?_⟩
  rw [enumL_get] at hd
  obtain ⟨d0, hd0, rfl⟩ := Option.map_eq_some_iff.mp hd
  obtain ⟨x, hx, rx⟩ := r.at hd0
  refine ⟨⟨xs, x, hs, hx⟩, fun y H' hy => ?_⟩
  obtain ⟨T, x', rfl, hT, rfl, hy⟩ := hy
  have := hy xs hs
  rw [hx] at this
  cases this
  exact new_pair w hT (rp_int _) (Rp.mono sg _ _ rx)
theorem ite_okL {K : PySem.W.Frag} {a : Addr} {xs : List V} {ds : List D} {H1 G1 : Hp} (h : G1 a = some (.lst xs)) (r : RpL K G1 ds xs) : ItL K (Ite K a) (enumL ds) H1 G1 := fun i H G sg w =>
  ite_ok (H1 := fun _ => none) (fun H G sg w _ => SqL.of (w.sub _ _ (sg _ _ h))) r i H G (fun _ _ e => nomatch e) sg w
def iEnumD (fl : Fl) : Fl := fun env => match fl env with
  | some [.lst xs] => some (enumL xs)
  | _ => none
theorem icx_enum (hg : Gl X "enumerate") (hm : X.mg "enumerate" = none) (ha : ABX X [e] fl) (hs : starEach [e] X.env = [(false, eval e X.env)] := by rfl) : ICX X (.Tuple elts kk tpos) (.Call (.Name "enumerate" p) [e] [] pos) (iEnumD fl) := pi_imp (pi_enum hg hm ha hs) fun σ H R q => by
  obtain ⟨H0, G0, G, env, ds, S, e1, q⟩ := q
  unfold iEnumD at e1
  split at e1
  · rename_i xs hf
    cases e1
    refine ⟨H0, G0, G, env, _, S, hf, fun vs H1 G1 x1 r1 => ?_⟩
    obtain ⟨a, ys, rfl, h1, h2⟩ := rpbl_lst r1
    exact ⟨a, ys, rfl, SqL.of h1, q _ H1 G1 x1 (ite_ok (fun H G _ _ sh => SqL.of (sh _ _ h1)) h2)⟩
  · cases e1
theorem ilx_enum (hg : Gl X "enumerate") (hm : X.mg "enumerate" = none) (ha : AX X [e] fl) (hs : starEach [e] X.env = [(false, eval e X.env)] := by rfl) : ILX X (.Tuple elts kk tpos) (.Call (.Name "enumerate" p) [e] [] pos) (iEnumD fl) := pi_imp (pi_enum hg hm ha hs) fun σ H R q => by
  obtain ⟨H0, G0, G, env, ds, S, e1, q⟩ := q
  unfold iEnumD at e1
  split at e1
  · rename_i xs hf
    cases e1
    refine ⟨H0, G0, G, env, _, S, hf, fun vs H1 G1 x1 r1 => ?_⟩
    simp only [RpL, Rp] at r1
    obtain ⟨v, r, rfl, ⟨a, ys, rfl, h1, h2⟩, rfl⟩ := r1
    exact ⟨a, ys, rfl, SqL.of (x1.wf.sub _ _ h1), q _ H1 G1 x1 (ite_okL h1 h2)⟩
  · cases e1
/-! ### zip -/
def zipL : List D → List D → List D
  | x :: xs, y :: ys => .tup [x, y] :: zipL xs ys
  | _, _ => []
theorem zipL_get : ∀ (xs ys : List D) (i : Nat) (d : D), (zipL xs ys)[i]? = some d → ∃ x y, xs[i]? = some x ∧ ys[i]? = some y ∧ d = .tup [x, y]
  | [], ys, i, d, h => by simp [zipL] at h
  | x :: xs, [], i, d, h => by simp [zipL] at h
  | x :: xs, y :: ys, 0, d, h => by
    simp only [zipL, List.getElem?_cons_zero, Option.some.injEq] at h
    exact ⟨x, y, rfl, rfl, h.symm⟩
  | x :: xs, y :: ys, i + 1, d, h => by
    simp only [zipL, List.getElem?_cons_succ] at h
    exact zipL_get xs ys i d h
theorem zipL_len : ∀ (xs ys : List D), (zipL xs ys).length = min xs.length ys.length
  | [], ys => by simp [zipL]
  | x :: xs, [] => by simp [zipL]
  | x :: xs, y :: ys => by
    simp only [zipL, List.length_cons, zipL_len xs ys]
    omega
/-- a list or a tuple, as it stands in H -/
def seqD : D → Option (List D)
  | .lst xs => some xs
  | .tup xs => some xs
  | _ => none
theorem rpb_seq {K : PySem.W.Frag} {H G : Hp} (w : Wf H G) {d : D} {ds : List D} {v : V} (e : seqD d = some ds) (r : RpB K H G d v) : ∃ k a xs, v = .ref a ∧ SqK k K H a xs ∧ RpL K G ds xs ∧ ∀ H' G', Same H H' → Same G G' → Wf H' G' → SqK k K H' a xs := by
  unfold seqD at e
  split at e
  · cases e
    obtain ⟨a, xs, rfl, h1, h2⟩ := r
    exact ⟨.l, a, xs, rfl, SqL.of h1, h2, fun H' G' sh sg w' => SqL.of (sh _ _ h1)⟩
  · cases e
    obtain ⟨a, xs, rfl, h1, h2⟩ := rpb_tup r
    exact ⟨.t, a, xs, rfl, sqt_up w h1, h2, fun H' G' sh sg w' => sqt_up w' (sg _ _ h1)⟩
  · cases e
theorem rp_seq {K : PySem.W.Frag} {H G : Hp} (w : Wf H G) {d : D} {ds : List D} {v : V} (e : seqD d = some ds) (r : Rp K G d v) : ∃ k a xs, v = .ref a ∧ SqK k K H a xs ∧ RpL K G ds xs ∧ ∀ H' G', Same G G' → Wf H' G' → SqK k K H' a xs := by
  unfold seqD at e
  split at e
  · cases e
    simp only [Rp] at r
    obtain ⟨a, xs, rfl, h1, h2⟩ := r
    exact ⟨.l, a, xs, rfl, SqL.of (w.sub _ _ h1), h2, fun H' G' sg w' => SqL.of (w'.sub _ _ (sg _ _ h1))⟩
  · cases e
    simp only [Rp] at r
    obtain ⟨a, xs, rfl, h1, h2⟩ := r
    exact ⟨.t, a, xs, rfl, sqt_up w h1, h2, fun H' G' sg w' => sqt_up w' (sg _ _ h1)⟩
  · cases e
theorem itzx_at {K : PySem.W.Frag} {k k' : SK} {a b : Addr} {xs ys : List V} {ds es : List D} {G1 : Hp} (r : RpL K G1 ds xs) (r' : RpL K G1 es ys) (i : Nat) {H G : Hp} (sg : Same G1 G) (w : Wf H G) (s1 : SqK k K H a xs) (s2 : SqK k' K H b ys) :
    ((zipL ds es).length ≤ i → (ItzX K k k' a b).stop i H) ∧ ∀ d, (zipL ds es)[i]? = some d → (ItzX K k k' a b).go i H ∧ ∀ x H', (ItzX K k k' a b).yld i H x H' → ∃ G', Ext H G H' G' ∧ Rp K G' d x := by
  refine ⟨fun hi => ⟨xs, ys, s1, s2, ?_⟩, fun d hd => ?_⟩
  · rw [zipL_len] at hi
    rw [← r.len, ← r'.len]
    omega
  · obtain ⟨d1, d2, h1, h2, rfl⟩ := zipL_get _ _ _ _ hd
    obtain ⟨x, hx, rx⟩ := r.at h1
    obtain ⟨y, hy, ry⟩ := r'.at h2
    refine ⟨⟨xs, ys, x, y, s1, s2, hx, hy⟩, fun z H' hz => ?_⟩
    obtain ⟨T, x', y', rfl, hT, rfl, q1, q2⟩ := hz
    have z1 := q1 xs s1
    have z2 := q2 ys s2
    rw [hx] at z1
    rw [hy] at z2
    cases z1
    cases z2
    exact new_pair w hT (Rp.mono sg _ _ rx) (Rp.mono sg _ _ ry)
def iZipD (fl : Fl) : Fl := fun env => match fl env with
  | some [x, y] => (seqD x).bind fun xs => (seqD y).bind fun ys => some (zipL xs ys)
  | _ => none
theorem icx_zip (hg : Gl X "zip") (hm : X.mg "zip" = none) (ha : ABX X [a, b] fl) (hs : starEach [a, b] X.env = (false, eval a X.env) :: starEach [b] X.env := by rfl) (hpl : (backTo pos (starEach [b] X.env)).any (·.1) = false := by rfl) : ICX X (.Tuple elts kk tpos) (.Call (.Name "zip" p) [a, b] [] pos) (iZipD fl) := pi_imp (pi_zx hg hm ha hs hpl) fun σ H R q => by
  obtain ⟨H0, G0, G, env, ds, S, e1, q⟩ := q
  unfold iZipD at e1
  split at e1
  · rename_i x y hf
    obtain ⟨xs, hx, e1⟩ := Option.bind_eq_some_iff.mp e1
    obtain ⟨ys, hy, e1⟩ := Option.bind_eq_some_iff.mp e1
    cases e1
    refine ⟨H0, G0, G, env, _, S, hf, fun vs H1 G1 x1 r1 => ?_⟩
    obtain ⟨u, v, rfl, ru, rv⟩ := rpbl2 r1
    obtain ⟨k, a, xs', rfl, s1, h1, t1⟩ := rpb_seq x1.wf hx ru
    obtain ⟨k', b, ys', rfl, s2, h2, t2⟩ := rpb_seq x1.wf hy rv
    exact ⟨k, k', a, b, xs', ys', rfl, s1, s2, q _ H1 G1 x1 fun i H G sh sg w => itzx_at h1 h2 i sg w (t1 H G sh sg w) (t2 H G sh sg w)⟩
  · cases e1
theorem ilx_zip (hg : Gl X "zip") (hm : X.mg "zip" = none) (ha : AX X [a, b] fl) (hs : starEach [a, b] X.env = (false, eval a X.env) :: starEach [b] X.env := by rfl) (hpl : (backTo pos (starEach [b] X.env)).any (·.1) = false := by rfl) : ILX X (.Tuple elts kk tpos) (.Call (.Name "zip" p) [a, b] [] pos) (iZipD fl) := pi_imp (pi_zx hg hm ha hs hpl) fun σ H R q => by
  obtain ⟨H0, G0, G, env, ds, S, e1, q⟩ := q
  unfold iZipD at e1
  split at e1
  · rename_i x y hf
    obtain ⟨xs, hx, e1⟩ := Option.bind_eq_some_iff.mp e1
    obtain ⟨ys, hy, e1⟩ := Option.bind_eq_some_iff.mp e1
    cases e1
    refine ⟨H0, G0, G, env, _, S, hf, fun vs H1 G1 x1 r1 => ?_⟩
    simp only [RpL] at r1
    obtain ⟨u, r, rfl, ru, v, r', rfl, rv, rfl⟩ := r1
    obtain ⟨k, a, xs', rfl, s1, h1, t1⟩ := rp_seq x1.wf hx ru
    obtain ⟨k', b, ys', rfl, s2, h2, t2⟩ := rp_seq x1.wf hy rv
    exact ⟨k, k', a, b, xs', ys', rfl, s1, s2, q _ H1 G1 x1 fun i H G sg w => itzx_at h1 h2 i sg w (t1 H G sg w) (t2 H G sg w)⟩
  · cases e1
end
end PD

set_option Elab.async false
set_option linter.all false
set_option maxRecDepth 100000
namespace PD
open PySem PySem.Spec PyProof.Rows L2
open PySem.W (EachIs AllAlike Sortable dataLe)

/-! ### sorted of data -/
def alikeD (x y : D) : Bool := PySem.W.alike (py x) (py y)
def isTup1 : D → Bool
  | .tup _ => true
  | _ => false
def notTN : D → Bool
  | .tup _ => false
  | .non => false
  | .dic _ _ => false
  | .st _ => false
  | _ => true
def leD (x y : D) : Bool := dataLe false py x y
def sortD (xs : List D) : List D := xs.mergeSort leD
def sortOk (xs : List D) : Bool := xs.all (okN 62) && (xs.all isTup1 || xs.all notTN) && xs.all fun a => xs.all fun b => alikeD a b
theorem sortOk_s {xs : List D} (h : sortOk xs = true) : (∀ x ∈ xs, okN 62 x = true) ∧ Sortable2 (xs.map py) ∧ AllAlike (xs.map py) := by
  unfold sortOk at h
  rw [Bool.and_eq_true, Bool.and_eq_true, Bool.or_eq_true] at h
  obtain ⟨⟨h1, h2⟩, h3⟩ := h
  refine ⟨List.all_eq_true.mp h1, ?_, ?_⟩
  · rcases h2 with h2 | h2
    · left
      intro d hd
      obtain ⟨x, hx, rfl⟩ := List.mem_map.mp hd
      have := List.all_eq_true.mp h2 x hx
      cases x with
      | tup ys => exact ⟨pyL ys, by simp only [py]⟩
      | _ => cases this
    · right
      intro d hd
      obtain ⟨x, hx, rfl⟩ := List.mem_map.mp hd
      have := List.all_eq_true.mp h2 x hx
      cases x <;> first | (cases this; done) | exact ⟨by simp [py], by simp [py]⟩
  · intro d hd d' hd'
    obtain ⟨x, hx, rfl⟩ := List.mem_map.mp hd
    obtain ⟨y, hy, rfl⟩ := List.mem_map.mp hd'
    exact List.all_eq_true.mp (List.all_eq_true.mp h3 x hx) y hy
/-- a value that stands for d -/
def Sv (K : PySem.W.Frag) (G : Hp) (v : Value) (d : D) : Prop := ∃ x, Rp K G d x ∧ RelV x v
theorem sv_each {K : PySem.W.Frag} {G : Hp} : ∀ {ds : List D} {xs : List V} {us : List Value}, RpL K G ds xs → Vals xs us → EachIs (Sv K G) us ds
  | [], _, _, h, r => by
    simp only [RpL] at h
    subst h
    cases r
    exact .nil
  | d :: ds, _, _, h, r => by
    simp only [RpL] at h
    obtain ⟨x, q, rfl, h1, h2⟩ := h
    cases r with
    | cons r1 r2 => exact .cons ⟨x, h1, r1⟩ (sv_each h2 r2)
theorem sv_back {K : PySem.W.Frag} {G : Hp} : ∀ {ds : List D} {us : List Value}, EachIs (Sv K G) us ds → ∃ xs, RpL K G ds xs ∧ Vals xs us
  | _, _, .nil => ⟨[], RpL.nil, .nil⟩
  | _, _, .cons ⟨x, h1, r1⟩ t => by
    obtain ⟨xs, h2, r2⟩ := sv_back t
    exact ⟨x :: xs, RpL.cons h1 h2, .cons r1 r2⟩
theorem sv_reads {X : Cx} {pins : List (Addr × Obj)} {σ : L2.St} {H G : Hp} {s : Shared} (I : Inv X pins σ H s) (w : Wf H G) : ∀ {ds : List D} {us : List Value}, (∀ x ∈ ds, okN 62 x = true) → EachIs (Sv X.K G) us ds → EachIs (fun v b => ∃ as, Reads s.heap v (py b) as) us ds
  | _, _, _, .nil => .nil
  | _, _, o, .cons ⟨x, h1, r1⟩ t => .cons (Dp.reads I _ x _ (Rp.dp _ x 62 (o _ List.mem_cons_self) (Rp.mono w.sub _ _ h1)) r1) (sv_reads I w (fun y hy => o y (List.mem_cons_of_mem _ hy)) t)
def rSortD (K : PySem.W.Frag) : List V → Hp → VK → Prop := fun vs H Q => ∃ a xs ds G, vs = [V.ref a] ∧ SqL K H a xs ∧ Wf H G ∧ RpL K G ds xs ∧ sortOk ds = true ∧ ∀ p ys, RpL K G (sortD ds) ys → H p = none → Q (.ref p) (upd H p (.lst ys))
theorem call_sortD {X : Cx} (hu : X.A.units + 65 < cLine) : CallR X (.builtin "sorted") (rSortD X.K) := by
  intro pins s σ H vs us Q I r h
  obtain ⟨a, xs, ds, G, rfl, hs, w, hr, hk, q⟩ := h
  obtain ⟨its, rv, hl, hz⟩ := I.list hs
  rw [Vals.ref1 r]
  obtain ⟨o1, o2, o3⟩ := sortOk_s hk
  have e := sv_each hr rv
  refine sorted_all hl.isList e (sv_reads I w o1 e) o3 o2 ?_ (fun b hb => ?_) fun out h1 h2 => ?_
  · rw [← e.length, ← rv.length]
    exact hz
  · have := (okN_lay 62 b (o1 b hb)).2
    omega
  · obtain ⟨ys, hy, ry⟩ := sv_back h2
    obtain ⟨ep, he'⟩ := PyProof.Rows.sortedAll_at s.heap its out.toArray
    have hlen : ys.length ≤ sizeLine := by
      rw [ry.length, h1, ← e.length, ← rv.length]
      exact hz
    exact ⟨.ref _, upd H (s.heap.objs.size + 1) (.lst ys), I.laid (t' := s.toks) (fun _ _ => PyProof.Rows.sortedAll_old) (Nat.le_succ _) ⟨hlen, out, ep, ry, he'⟩, rfl, q _ _ hy (I.hok.fresh (Nat.le_succ _))⟩
/-! sorted of a tuple of whole numbers -/
section
variable {prog : Program} {w : World} {A : Around} {E : Value → Shared → Prop} {s : Shared} {l : Addr} {vs : List Value}
theorem gather_tuple {Q : List Value → Shared → Prop} (ht : s.heap.IsTuple l vs.toArray) (hz : vs.length ≤ sizeLine) (h : Q vs { s with heap := Heap.update (s.heap.push (seqObj "list" #[] 0)) s.heap.objs.size (Obj.mapSeq (· ++ vs.toArray)) }) : wpAny (model prog w) A (collect (.ref l)) Q E s := by
  obtain ⟨o, ho, oc, n, od⟩ := id ht
  unfold collect; refine wpAny_bind (wpAny_runValue (codeAny_builtin entry_proto_collect' ?_))
  show wpAny _ _ (do again (.builtin "list.__iadd__" ⟨[← newList [], Value.ref l], ([] : List (Str × Value))⟩)) _ _ s
  refine wpAny_bind (wpAny_newList (wpAny_pure ⟨Code.quiet_builtin _ (by decide +kernel), codeAny_builtin entry_list_iadd' ?_⟩)); show wpAny _ _ (Builtin.List.listExtendWith (Value.ref s.heap.objs.size) (Value.ref l) (Value.ref s.heap.objs.size)) _ _ _
  unfold Builtin.List.listExtendWith
  have hp : (s.heap.push (seqObj "list" #[] 0)).get? l = some o := .trans (Heap.get?_push_of_some _ ho) rfl
  refine wpAny_bind (wpAny_typeOf (T := "tuple") ⟨o, hp, oc⟩ ?_)
  have et : (Value.type "tuple" == Value.type "tuple") = true := by rfl
  rw [if_pos (by rw [et]; simp)]; refine wpAny_bind (listItems_at hp od ?_)
  refine wpAny_bind (listItems_at (n := 0) (xs := #[]) (Heap.get?_push_size _ rfl) rfl ?_); rw [if_neg (by simp)]
  refine wpAny_bind (listUpdate_at (n := 0) (xs := #[]) (Heap.get?_push_size _ rfl) rfl ?_ (Nat.zero_le _) (by show (#[] ++ vs.toArray).size ≤ sizeLine + 1; rw [Array.size_append, List.size_toArray]; simp only [List.size_toArray, List.length_nil]; omega)); refine wpAny_pure ?_
  show wpAny (model prog w) A (do
    let o2 ← load s.heap.objs.size
    match o2.data with
    | .seq ys _ => pure ys.toList
    | _ => unsupported "internal:collect") Q E _
  refine wpAny_bind (wpAny_load (get?_update_seq (Heap.get?_push_size _ rfl) _) ?_)
  have ev : ((#[] : Array Value) ++ vs.toArray).toList = vs := by simp
  show wpAny _ _ (pure ((#[] : Array Value) ++ vs.toArray).toList) Q E _; rw [ev]
  exact wpAny_pure h
theorem sorted_tup {Q : Value → Shared → Prop} {lt : Value → Value → Bool} (O : SrtO.Swo lt) (ht : s.heap.IsTuple l vs.toArray) (hz : vs.length ≤ sizeLine)
    (hS : 2 ≤ vs.length → ∀ (h1 : Heap) (a : Addr), SrtO.SortableO prog w A.in1.in1 { s with heap := h1 } a vs lt)
    (h : ∀ out : List Value, SrtO.Srtd lt out → SrtO.Stb lt out vs → Q (.ref (s.heap.objs.size + 1)) { s with heap := sortedAll s.heap vs out.toArray }) : wpAny (model prog w) A (PySem.call (.builtin "sorted") [Value.ref l]) Q E s := by
  refine Calls.call_function_entry kind_sorted plain_sorted entry_sorted (args_sorted1 _) ?_; unfold Builtin.«sorted»
  refine wpAny_bind (m := checkCount "sorted" 1 1 _) (wpAny_pure ?_); refine wpAny_bind (gather_tuple ht hz ?_); refine wpAny_bind (wpAny_newList ?_ hz)
  have e1 : ((s.heap.push (seqObj "list" #[] 0)).update s.heap.objs.size (Obj.mapSeq (· ++ vs.toArray))).objs.size = s.heap.objs.size + 1 := (Heap.size_update ..).trans (size_push' ..)
  have e2 : (((s.heap.push (seqObj "list" #[] 0)).update s.heap.objs.size (Obj.mapSeq (· ++ vs.toArray))).push (seqObj "list" vs.toArray 0)).get? (s.heap.objs.size + 1) = some (seqObj "list" vs.toArray 0) := e1 ▸ Heap.get?_push_size _ rfl
  show wpAny _ _ _ _ _ { s with heap := ((s.heap.push (seqObj "list" #[] 0)).update s.heap.objs.size (Obj.mapSeq (· ++ vs.toArray))).push (seqObj "list" vs.toArray 0) }; rw [e1]
  refine wpAny_bind (wpAny_holding (wpAny_call_entry slot_list_sort ⟨_, e2, rfl⟩ entry_list_sort (SrtO.list_sort_ord O e2 hz (fun h2 => hS h2 _ _) fun out so st => ⟨_, rfl, wpAny_pure ⟨_, rfl, h out so st⟩⟩) (args_list_sort _)))
end
theorem call_sortT {X : Cx} : CallR X (.builtin "sorted") (fun vs H Q => ∃ (a : Addr) (ns : List Int), vs = [V.ref a] ∧ SqT X.K H a (ns.map V.int) ∧ ∀ (ms : List Int) (p : Addr), ms.Perm ns → ms.Pairwise (· ≤ ·) → H p = none → Q (.ref p) (upd H p (.lst (ms.map V.int)))) := by
  intro pins s σ H vs us Q I r h
  obtain ⟨a, ns, rfl, hs, q⟩ := h
  obtain ⟨its, rv, hl, hz⟩ := I.tuple hs
  rw [Vals.ref1 r]
  have hi := rv.ints
  refine sorted_tup SrtO.swo_int (show s.heap.IsTuple a its.toArray from hl) (by rw [← rv.length]; exact hz) (fun h2 h1 a' => SrtO.ints_sortable hi h2) fun out so st => ?_
  obtain ⟨k1, k2, k3⟩ := SrtO.ints_out hi so st
  obtain ⟨ep, he⟩ := PyProof.Rows.sortedAll_at s.heap its out.toArray
  refine ⟨.ref _, upd H (s.heap.objs.size + 1) (.lst ((out.map SrtO.iv).map V.int)), I.laid (t' := s.toks) (fun _ _ => PyProof.Rows.sortedAll_old) (Nat.le_succ _) ⟨?_, out, ep, vals_of_ints k1, he⟩, rfl, q _ _ k2 k3 (I.hok.fresh (Nat.le_succ _))⟩
  rw [List.length_map, k2.length_eq]
  rw [List.length_map] at hz
  exact hz
/-- sorted: whole numbers, or other data that are alike -/
def gSortA : List D → Option (List D)
  | [.lst xs] => match intsOf xs with
    | some ns => some ((sortI ns).map D.int)
    | none => if sortOk xs then some (sortD xs) else none
  | [.tup xs] => (intsOf xs).map fun ns => (sortI ns).map D.int
  | _ => none
theorem csortA {X : Cx} (hu : X.A.units + 65 < cLine) : CallR X (.builtin "sorted") (rCF X.K gSortA) := (csortF.or ((call_sortD hu).or call_sortT)).imp fun vs H Q q => by
  obtain ⟨G, ds, d, w, r, e, q⟩ := q
  unfold gSortA at e
  split at e
  · rename_i xs
    split at e
    · rename_i ns hns
      cases e
      refine .inl ⟨G, _, _, w, r, ?_, q⟩
      unfold gSortF
      simp only [hns, Option.map_some]
    · split at e
      · rename_i hk
        cases e
        obtain ⟨a, ys, rfl, h2, h3⟩ := rpbl_lst r
        exact .inr (.inl ⟨a, ys, xs, G, rfl, SqL.of h2, w, h3, hk, fun p zs hz hp => tF_new w hz q p hp⟩)
      · cases e
  · rename_i xs
    obtain ⟨ns, h1, rfl⟩ := Option.map_eq_some_iff.mp e
    obtain ⟨a, ys, rfl, h2, h3⟩ := rpbl_tup r
    rw [intsOf_some h1] at h3
    rw [h3.ints] at h2
    refine .inr (.inr ⟨a, ns, rfl, sqt_up w h2, fun ms p pm so hp => ?_⟩)
    have := sorted_unique (pm.trans (sortI_perm ns).symm) so (sortI_sorted ns)
    subst this
    exact tF_new w (RpL.of_ints _) q p hp
  · cases e

/-! ### is, is not -/
def gIsB : D → D → Option D := fun x y => match x, y with
  | d, .non => some (.bl (isNon d))
  | .bl a, .bl b => some (.bl (decide (a = b)))
  | _, _ => none
def gIsNotB : D → D → Option D := fun x y => match x, y with
  | d, .non => some (.bl (!isNon d))
  | .bl a, .bl b => some (.bl (!decide (a = b)))
  | _, _ => none
theorem oisB {X : Cx} : OpR X (compareOp .Is) (rD X.K gIsB) := (ois.or op_is_bl).imp fun x y H Q q => by
  obtain ⟨G, dx, dy, d, w, rx, ry, e, q⟩ := q
  unfold gIsB at e
  split at e
  · exact .inl ⟨G, _, _, _, w, rx, ry, by simpa only [gIs] using e, q⟩
  · cases e
    exact .inr ⟨_, _, rpb_bl rx, rpb_bl ry, q _ H G (Ext.refl w) (rp_bl _)⟩
  · cases e
theorem oisnB {X : Cx} : OpR X (compareOp .IsNot) (rD X.K gIsNotB) := (oisn.or op_isnot_bl).imp fun x y H Q q => by
  obtain ⟨G, dx, dy, d, w, rx, ry, e, q⟩ := q
  unfold gIsNotB at e
  split at e
  · exact .inl ⟨G, _, _, _, w, rx, ry, by simpa only [gIsNot] using e, q⟩
  · cases e
    exact .inr ⟨_, _, rpb_bl rx, rpb_bl ry, q _ H G (Ext.refl w) (rp_bl _)⟩
  · cases e

/-! ### (a, b, ..) = a list -/
def gTl (f : Fts) : Ft := fun d env => match d with
  | .lst xs => f xs env
  | _ => none
theorem gx_tl {X : Cx} {pos : Pos} {es : List Expr} {k : Nat} {f : Fts} {S : List Nat} {n : Nat} (hc : X.calm = true) (h : GsX X es f S) (hl : ∀ ds env env', f ds env = some env' → ds.length = n)
    (hn : (assignEach es X.env).length = n := by rfl) (hst : (assignEach es X.env).findIdx? (·.1) = none := by rfl) : GX X (.Tuple es k pos) (gTl f) S := pg_imp (pg_unl hc h hn hst) fun v σ H Q q => by
  obtain ⟨H0, G0, G, env, d, env', S', r, e, q⟩ := q
  cases d with
  | lst ds =>
    simp only [Rp] at r
    obtain ⟨a, xs, rfl, r1, r2⟩ := r
    have e' : f ds env = some env' := e
    exact ⟨a, xs, rfl, SqL.of (S'.wf.sub _ _ r1), by rw [← r2.len]; exact hl _ _ _ e', H0, G0, G, env, ds, env', S', r2, e', q⟩
  | _ => cases e

/-! ### tuple * 1 -/
set_option maxHeartbeats 4000000 in
theorem tuple_mul1 (l : Addr) (items : Array Value) (n : Nat) (dd : Option Addr) (sl : Array (Option Value)) (u : Tok) :
    Meets (Builtin.«tuple.__mul__» ⟨[.ref l, .int 1 u], []⟩) (fun _ R s => s.heap.get? l = some { cls := .type "tuple", dict := dd, data := .seq items n, slots := sl } ∧
      R (.ok (.ret (Value.ref l))) s) :=
  .of_wp fun prog w A R s h => by
    obtain ⟨hp, g, d, tk, os⟩ := s
    obtain ⟨hl, h⟩ := h
    have f1 := AutoSeq1.idx_int
    wp_walk using wpAny_loadPart' hl
    exact ⟨_, rfl, h⟩
theorem op_repT1 {X : Cx} : OpR X (binaryOp .Mult) (fun x y H Q => ∃ l xs, x = .ref l ∧ y = .int 1 ∧ SqT X.K H l xs ∧ Q (.ref l) H) := by
  intro pins s σ H x y v u Q I rx ry h
  obtain ⟨l, xs, rfl, rfl, hT, q⟩ := h
  cases rx
  obtain ⟨t, rfl⟩ := ry
  obtain ⟨its, r, ⟨⟨cls, dd, data, sl⟩, ho, hc, n, hd⟩, hs⟩ := I.tuple hT
  simp only at hc hd
  subst hc hd
  exact wpAny_binaryOp_repeat_ref (T := "tuple") (U := "int") (by decide) ⟨_, ho, rfl⟩ (fun s' => typeIs_int s' 1 t) noFill_tuple_mul F.fills_int_mul F.slot_int_rmul repeat_tuple F.slot_int_index.lookup
    (call_meets F.slot_int_rmul (typeIs_int s 1 t) F.entry_int_rmul (F.args_int_rmul_2 _ _) (int_rmul_tuple 1 t l its.toArray n dd sl)
      ⟨ho, rfl, ⟨_, ho, rfl⟩, call_meets F.slot_tuple_mul ⟨_, ho, rfl⟩ F.entry_tuple_mul (F.args_tuple_mul_2 _ _) (tuple_mul1 l its.toArray n dd sl t) ⟨ho, ⟨.ref l, H, I, rfl, q⟩⟩⟩)
def gMulA : D → D → Option D := fun x y => match x, y with
  | .tup xs, .int 1 => some (.tup xs)
  | x, y => gMul x y
theorem omulA {X : Cx} : OpR X (binaryOp .Mult) (rD X.K gMulA) := (op_repT1.or omul).imp fun x y H Q q => by
  obtain ⟨G, dx, dy, d, w, rx, ry, e, q⟩ := q
  unfold gMulA at e
  split at e
  · cases e
    obtain ⟨a, xs, rfl, h2, h3⟩ := rpb_tup rx
    refine .inl ⟨a, xs, rfl, rpb_int ry, Same.tup w.sub h2, q _ H G (Ext.refl w) ?_⟩
    simp only [Rp]
    exact ⟨a, xs, rfl, h2, h3⟩
  · exact .inr ⟨G, _, _, _, w, rx, ry, e, q⟩
end PD

set_option Elab.async false
set_option linter.all false
set_option maxRecDepth 100000
namespace PD
open PySem PySem.Spec PyProof.Rows L2
/-! ### comprehensions with two fors -/
def compL2 (t : Ft) (c : Fb) (it1 : Fl) (t1 : Ft) (c1 : Fb) (y : Fe) (vs1 : List Nat) (env : List Sl) : List D → Option (List D)
  | [] => some []
  | x :: xs => (t x env).bind fun e => (c e).bind fun k => (if k then (it1 e).bind fun zs => compL t1 c1 y (wipeE e vs1) zs else some []).bind fun ds => (compL2 t c it1 t1 c1 y vs1 env xs).map (ds ++ ·)
def fLc2 (own vs1 : List Nat) (it : Fl) (t : Ft) (c : Fb) (it1 : Fl) (t1 : Ft) (c1 : Fb) (y : Fe) : Fl := fun env => (it env).bind fun xs => (compL2 t c it1 t1 c1 y vs1 (wipeE env own) xs).bind fun ds => if lim ds.length then some ds else none
/-- a target gives no place a list of its own -/
def NoOwn (t : Ft) : Prop := ∀ d env env', t d env = some env' → ∀ (i : Nat) (s : Sl), env'[i]? = some s → s.isOwn = true → env[i]? = some s
def NoOwns (t : Fts) : Prop := ∀ ds env env', t ds env = some env' → ∀ (i : Nat) (s : Sl), env'[i]? = some s → s.isOwn = true → env[i]? = some s
theorem no_nm {j : Nat} : NoOwn (gNm j) := fun d env env' h i s e o => by
  cases h
  rcases set_at e with ⟨_, rfl⟩ | ⟨_, e⟩
  · cases o
  · exact e
theorem nos_nil : NoOwns gsNil := fun ds env env' h i s e o => by
  cases ds with
  | nil =>
    cases h
    exact e
  | cons _ _ => cases h
theorem nos_cons {f : Ft} {g : Fts} (h1 : NoOwn f) (h2 : NoOwns g) : NoOwns (gsCons f g) := fun ds env env' h i s e o => by
  cases ds with
  | nil => cases h
  | cons d r =>
    obtain ⟨e1, h3, h4⟩ := Option.bind_eq_some_iff.mp (show (f d env).bind _ = some env' from h)
    exact h1 d env e1 h3 i s (h2 r e1 env' h4 i s e o) o
theorem no_tp {g : Fts} (h : NoOwns g) : NoOwn (gTp g) := fun d env env' q i s e o => by
  cases d with
  | tup xs => exact h xs env env' q i s e o
  | _ => cases q
theorem wipe_own {env : List Sl} : ∀ {vs : List Nat} {i : Nat} {s : Sl}, (wipeE env vs)[i]? = some s → s.isOwn = true → env[i]? = some s ∧ i ∉ vs
  | [], i, s, e, _ => ⟨e, by simp⟩
  | v :: vs, i, s, e, o => by
    rcases set_at e with ⟨_, rfl⟩ | ⟨hn, e⟩
    · cases o
    · have := wipe_own e o
      exact ⟨this.1, by
        rw [List.mem_cons, not_or]
        exact ⟨fun z => hn z.symm, this.2⟩⟩
theorem wipe_at {σ : L2.St} : ∀ {vs : List Nat} {i : Nat}, i ∉ vs → (L2.wipe σ vs)[i]? = σ[i]?
  | [], i, _ => rfl
  | v :: vs, i, h => by
    rw [List.mem_cons, not_or] at h
    unfold L2.wipe
    rw [List.getElem?_set_ne (fun z => h.1 z.symm)]
    exact wipe_at h.2
/-- a list that no place holds may grow -/
theorem Ste.grown {K : PySem.W.Frag} {H0 G0 H G : Hp} {σ : L2.St} {env : List Sl} (S : Ste K H0 G0 H G σ env) {D : Addr} {acc acc' : List V} (hD : H D = some (.lst acc)) (gD : G D = none) (h0 : H0 D = none)
    (hn : ∀ (i : Nat) (s : Sl) (x : Option V), env[i]? = some s → σ[i]? = some x → ¬ Foot H s x D) : Ste K H0 G0 (upd H D (.lst acc')) G σ env := by
  have kp : ∀ (i : Nat) (s : Sl) (x : Option V), env[i]? = some s → σ[i]? = some x → ∀ b u, Foot H s x b → H b = some u → upd H D (.lst acc') b = some u := fun i s x e1 e2 b u f q => by
    rw [upd_ne (fun z => hn i s x e1 e2 (by rw [← z]; exact f))]
    exact q
  exact ⟨S.x0.grow h0 gD, S.len, fun i s x e1 e2 => slok_keep (S.sl i s x e1 e2) (Same.refl G) (kp i s x e1 e2) fun b f => (foot_ok (S.sl i s x e1 e2) f).2.1,
    fun i j s t x y c e1 e2 v1 v2 f1 f2 => S.disF i j s t x y c e1 e2 v1 v2 (foot_back (S.sl i s x e1 v1) (kp i s x e1 v1) f1) (foot_back (S.sl j t y e2 v2) (kp j t y e2 v2) f2)⟩
theorem tLc2_of {K : PySem.W.Frag} {it it1 : Fl} {t t1 : Ft} {Sg Sg1 : List Nat} {ct ct1 : Fb} {y : Fe} {vs vs1 : List Nat} (hsub : ∀ i ∈ Sg, i ∈ vs) (hsub1 : ∀ i ∈ Sg1, i ∈ vs1) (hno : NoOwn t) {σ : L2.St} {H : Hp} {Q : VK} (q : tF K (fLc2 vs vs1 it t ct it1 t1 ct1 y) σ H Q) :
    tLc2 (iC K it) (tG K t Sg) (tT K ct) (iL K it1) (tG K t1 Sg1) (tT K ct1) (tD K y) vs vs1 σ H Q := by
  obtain ⟨H0, G0, G, env, ds, S, e1, q⟩ := q
  obtain ⟨xs, h1, e1⟩ := Option.bind_eq_some_iff.mp e1
  obtain ⟨ds', e0, e1⟩ := Option.bind_eq_some_iff.mp e1
  split at e1
  · rename_i hz
    cases e1
    refine ⟨H0, G0, G, env, xs, S, h1, fun J H1 G1 x1 hJ Dd hD => ?_⟩
    have S1 := S.ext x1
    have hz' := lim_le hz
    refine ⟨fun i m H2 => m = xs.length - i ∧ i ≤ xs.length ∧ ∃ G2 acc ds1 ds2, Ext H1 G1 H2 G2 ∧ H2 Dd = some (.lst acc) ∧ G2 Dd = none ∧ RpL K G2 ds1 acc ∧ compL2 t ct it1 t1 ct1 y vs1 (wipeE env vs) (xs.drop i) = some ds2 ∧ ds = ds1 ++ ds2,
      ⟨xs.length, by omega, Nat.zero_le _, G1, [], [], ds, Ext.fresh x1.wf hD rfl, upd_same, wf_none x1.wf hD, RpL.nil, e0, rfl⟩, ?_⟩
    rintro i m H2 ⟨rfl, hi, G2, acc, ds1, ds2, x2, hD2, gD2, r2, hc2, hds⟩
    have hj := hJ i H2 G2 x2.hh x2.gg x2.wf
    by_cases hlt : i < xs.length
    · have hx : xs[i]? = some xs[i] := List.getElem?_eq_getElem hlt
      obtain ⟨go, hy⟩ := hj.2 _ hx
      rw [List.drop_eq_getElem_cons hlt] at hc2
      obtain ⟨env1, h3, h4⟩ := Option.bind_eq_some_iff.mp (show (t xs[i] (wipeE env vs)).bind _ = some ds2 from hc2)
      obtain ⟨k, h5, h6⟩ := Option.bind_eq_some_iff.mp h4
      obtain ⟨dsA, hA, h7⟩ := Option.bind_eq_some_iff.mp h6
      obtain ⟨dsR, h8, rfl⟩ := Option.map_eq_some_iff.mp h7
      refine .inr ⟨go, fun H3 => ∃ m', m' < xs.length - i ∧ (m' = xs.length - (i + 1) ∧ i + 1 ≤ xs.length ∧ ∃ G2 acc ds1' ds2', Ext H1 G1 H3 G2 ∧ H3 Dd = some (.lst acc) ∧ G2 Dd = none ∧ RpL K G2 ds1' acc ∧ compL2 t ct it1 t1 ct1 y vs1 (wipeE env vs) (xs.drop (i + 1)) = some ds2' ∧ ds = ds1' ++ ds2'), fun H3 h => h, fun x H3 hyld => ?_⟩
      obtain ⟨G3, x3, r3⟩ := hy x H3 hyld
      have S3 : Ste K H0 G0 H3 G3 (L2.wipe σ vs) (wipeE env vs) := ((S1.ext x2).ext x3).wipe vs
      refine ⟨H0, G0, G3, _, _, env1, S3, r3, h3, fun σ4 S4 o4 => ⟨out_wipe o4 hsub, H0, G0, G3, env1, k, S4, h5, fun H5 G5 x5 => ?_⟩⟩
      have x35 := x3.trans x5
      cases k with
      | true =>
        obtain ⟨zs, hz1, hz2⟩ := Option.bind_eq_some_iff.mp (show (it1 env1).bind _ = some dsA from hA)
        have S5 := S4.ext x5
        refine ⟨H0, G0, G5, env1, zs, S5, hz1, fun J1 H6 G6 x6 hJ1 => ?_⟩
        have x26 := x35.trans x6
        have S6 := S5.ext x6
        have apart : ∀ (Hx : Hp), Same H1 Hx → ∀ (i : Nat) (s : Sl) (x : Option V), env1[i]? = some s → σ4[i]? = some x → ¬ Foot Hx s x Dd := fun Hx sx i s x e v f => by
          obtain ⟨e', hv⟩ := wipe_own (hno _ _ _ h3 i s e (foot_own f)) (foot_own f)
          have v' : σ[i]? = some x := by
            rw [← v, ← wipe_at hv]
            exact (o4.2 i (fun q => hv (hsub i q))).symm
          obtain ⟨u, hu⟩ := S1.foot_old sx e' v' f
          rw [hD] at hu
          cases hu
        refine ⟨fun j k H7 => k = zs.length - j ∧ j ≤ zs.length ∧ ∃ G7 acc1 da db, Ext H1 G1 H7 G7 ∧ Same G6 G7 ∧ Ste K H0 G0 H7 G7 σ4 env1 ∧ H7 Dd = some (.lst acc1) ∧ G7 Dd = none ∧ RpL K G7 da acc1 ∧ compL t1 ct1 y (wipeE env1 vs1) (zs.drop j) = some db ∧ ds = da ++ (db ++ dsR), ?_, ?_⟩
        · exact ⟨zs.length, by omega, Nat.zero_le _, G6, acc, ds1, dsA, x2.trans x26, Same.refl _, S6, x26.hh _ _ hD2, ext_none x26 hD2 gD2, RpL.mono x26.gg _ _ r2, hz2, hds⟩
        · rintro j m1 H7 ⟨rfl, hjl, G7, acc1, da, db, x7, sg7, S7, hD7, gD7, r7, hc7, hds7⟩
          have hj1 := hJ1 j H7 G7 sg7 x7.wf
          by_cases hlt1 : j < zs.length
          · obtain ⟨go1, hy1⟩ := hj1.2 _ (List.getElem?_eq_getElem hlt1)
            rw [List.drop_eq_getElem_cons hlt1] at hc7
            obtain ⟨env3, g3, g4⟩ := Option.bind_eq_some_iff.mp (show (t1 zs[j] (wipeE env1 vs1)).bind _ = some db from hc7)
            obtain ⟨k3, g5, g6⟩ := Option.bind_eq_some_iff.mp g4
            refine .inr ⟨go1, fun H' => ∃ k', k' < zs.length - j ∧ (k' = zs.length - (j + 1) ∧ j + 1 ≤ zs.length ∧ ∃ G7 acc1 da db, Ext H1 G1 H' G7 ∧ Same G6 G7 ∧ Ste K H0 G0 H' G7 σ4 env1 ∧ H' Dd = some (.lst acc1) ∧ G7 Dd = none ∧ RpL K G7 da acc1 ∧ compL t1 ct1 y (wipeE env1 vs1) (zs.drop (j + 1)) = some db ∧ ds = da ++ (db ++ dsR)), fun _ h => h, fun z H8 hyld1 => ?_⟩
            obtain ⟨G8, x8, r8⟩ := hy1 z H8 hyld1
            have S8 := (S7.ext x8).wipe vs1
            refine ⟨H0, G0, G8, _, _, env3, S8, r8, g3, fun σ9 S9 o9 => ⟨out_wipe o9 hsub1, H0, G0, G8, env3, k3, S9, g5, fun H10 G10 x10 => ?_⟩⟩
            have x810 := x8.trans x10
            cases k3 with
            | true =>
              obtain ⟨d, g7, g8⟩ := Option.bind_eq_some_iff.mp (show (y env3).bind _ = some db from g6)
              obtain ⟨db', g9, rfl⟩ := Option.map_eq_some_iff.mp g8
              refine ⟨H0, G0, G10, env3, d, S9.ext x10, g7, fun v H11 G11 x11 r11 => ?_⟩
              have x8b := x810.trans x11
              have gDb := ext_none x8b hD7 gD7
              have hl : acc1.length + 1 ≤ ds.length := by
                rw [← r7.len, hds7]
                simp only [List.length_append, List.length_cons]
                omega
              have S11 : Ste K H0 G0 (upd H11 Dd (.lst (acc1 ++ [v]))) G11 σ4 env1 := (S7.ext x8b).grown (x8b.hh _ _ hD7) gDb (S.x0.hh.free (x1.hh.free hD)) (apart _ (x7.trans x8b).hh)
              refine ⟨acc1, x8b.hh _ _ hD7, by omega, zs.length - (j + 1), by omega, rfl, hlt1, G11, acc1 ++ [v], da ++ [d], db', (x7.trans x8b).grow hD gDb, sg7.trans x8b.gg, S11, upd_same, gDb, (RpL.mono x8b.gg _ _ r7).snoc r11, g9, ?_⟩
              rw [hds7]
              simp
            | false =>
              exact ⟨zs.length - (j + 1), by omega, rfl, hlt1, G10, acc1, da, db, x7.trans x810, sg7.trans x810.gg, S7.ext x810, x810.hh _ _ hD7, ext_none x810 hD7 gD7, RpL.mono x810.gg _ _ r7, g6, hds7⟩
          · have e : j = zs.length := by omega
            subst e
            rw [List.drop_length] at hc7
            cases hc7
            exact .inl ⟨hj1.1 (Nat.le_refl _), xs.length - (i + 1), by omega, rfl, hlt, G7, acc1, da, dsR, x7, hD7, gD7, r7, h8, hds7⟩
      | false =>
        cases hA
        exact ⟨xs.length - (i + 1), by omega, rfl, hlt, G5, acc, ds1, dsR, x2.trans x35, x35.hh _ _ hD2, ext_none x35 hD2 gD2, RpL.mono x35.gg _ _ r2, h8, hds⟩
    · have e : i = xs.length := by omega
      subst e
      rw [List.drop_length] at hc2
      cases hc2
      rw [List.append_nil] at hds
      subst hds
      exact .inl ⟨hj.1 (Nat.le_refl _), q Dd acc H2 G2 (x1.trans x2) (x1.hh.free hD) hD2 gD2 r2⟩
  · cases e1

section
variable {X : Cx} {elt tg iter tg1 iter1 : Expr} {ifs ifs1 : List Expr} {scope : Scope} {own : List (Str × Nat)} {it it1 : Fl} {t t1 : Ft} {Sg Sg1 : List Nat} {ct ct1 : Fb} {y : Fe} {vs1 : List Nat} {pos : Pos}
theorem fx_lc2 (hc : X.calm = true) (hN : X.N.Nodup) (hi : ICX X tg iter it) (ok : BlkOk X.N X.env.scope scope own) (hsub : ∀ i ∈ Sg, i ∈ own.map (·.2)) (hv : ∀ i ∈ vs1, i ∈ own.map (·.2)) (hsub1 : ∀ i ∈ Sg1, i ∈ vs1) (hno : NoOwn t)
    (hg : ∀ (s : Shared) (H : Hp) (C : Addr) (cl : List (Str × Addr)) (fp : List Addr), GX (X.blk s H scope (compEnvC scope cl C X.env) fp) tg t Sg)
    (ht : ∀ (s : Shared) (H : Hp) (C : Addr) (cl : List (Str × Addr)) (fp : List Addr), PTs (X.blk s H scope (compEnvC scope cl C X.env) fp) ifs (tT X.K ct))
    (hi1 : ∀ (s : Shared) (H : Hp) (C : Addr) (cl : List (Str × Addr)) (fp : List Addr), ILX (X.blk s H scope (compEnvC scope cl C X.env) fp) tg1 iter1 it1)
    (hg1 : ∀ (s : Shared) (H : Hp) (C : Addr) (cl : List (Str × Addr)) (fp : List Addr), GX (X.blk s H scope (compEnvC scope cl C X.env) fp) tg1 t1 Sg1)
    (ht1 : ∀ (s : Shared) (H : Hp) (C : Addr) (cl : List (Str × Addr)) (fp : List Addr), PTs (X.blk s H scope (compEnvC scope cl C X.env) fp) ifs1 (tT X.K ct1))
    (he : ∀ (s : Shared) (H : Hp) (C : Addr) (cl : List (Str × Addr)) (fp : List Addr), EX (X.blk s H scope (compEnvC scope cl C X.env) fp) elt y) (hs : ∀ x, foldedSetIterable iter X.env x = pure x := by intro _; rfl) (hs1 : ∀ env x, foldedSetIterable iter1 env x = pure x := by intro _ _; rfl) :
    FX X (.ListComp elt [⟨tg, iter, ifs, 0⟩, ⟨tg1, iter1, ifs1, 0⟩] scope pos) (fLc2 (own.map (·.2)) vs1 it t ct it1 t1 ct1 y) :=
  pe_imp (pe_lc2 hc hN hi ok hv hg ht hi1 hg1 ht1 he hs hs1) fun _ _ _ q => tLc2_of hsub hsub1 hno q
theorem sx_setLc2 {i : Nat} {z : Str} {py spos : Pos} (hc : X.calm = true) (hN : X.N.Nodup) (hz : X.N[i]? = some z) (hzl : X.env.scope.names.lookup z = some .local)
    (hsw : swapsWith (.ListComp elt [⟨tg, iter, ifs, 0⟩, ⟨tg1, iter1, ifs1, 0⟩] scope pos) (some (.Name z py)) spos.line X.env = pure true) (hi : ICX X tg iter it) (ok : BlkOk X.N X.env.scope scope own) (hsub : ∀ i ∈ Sg, i ∈ own.map (·.2)) (hv : ∀ i ∈ vs1, i ∈ own.map (·.2)) (hsub1 : ∀ i ∈ Sg1, i ∈ vs1) (hno : NoOwn t)
    (hg : ∀ (s : Shared) (H : Hp) (C : Addr) (cl : List (Str × Addr)) (fp : List Addr), GX (X.blk s H scope (compEnvC scope cl C X.env) fp) tg t Sg)
    (ht : ∀ (s : Shared) (H : Hp) (C : Addr) (cl : List (Str × Addr)) (fp : List Addr), PTs (X.blk s H scope (compEnvC scope cl C X.env) fp) ifs (tT X.K ct))
    (hi1 : ∀ (s : Shared) (H : Hp) (C : Addr) (cl : List (Str × Addr)) (fp : List Addr), ILX (X.blk s H scope (compEnvC scope cl C X.env) fp) tg1 iter1 it1)
    (hg1 : ∀ (s : Shared) (H : Hp) (C : Addr) (cl : List (Str × Addr)) (fp : List Addr), GX (X.blk s H scope (compEnvC scope cl C X.env) fp) tg1 t1 Sg1)
    (ht1 : ∀ (s : Shared) (H : Hp) (C : Addr) (cl : List (Str × Addr)) (fp : List Addr), PTs (X.blk s H scope (compEnvC scope cl C X.env) fp) ifs1 (tT X.K ct1))
    (he : ∀ (s : Shared) (H : Hp) (C : Addr) (cl : List (Str × Addr)) (fp : List Addr), EX (X.blk s H scope (compEnvC scope cl C X.env) fp) elt y) (hs : ∀ x, foldedSetIterable iter X.env x = pure x := by intro _; rfl) (hs1 : ∀ env x, foldedSetIterable iter1 env x = pure x := by intro _ _; rfl) :
    SX X (.Assign [.Name z py] (.ListComp elt [⟨tg, iter, ifs, 0⟩, ⟨tg1, iter1, ifs1, 0⟩] scope pos) spos) (sSet i (asL (fLc2 (own.map (·.2)) vs1 it t ct it1 t1 ct1 y))) :=
  ps_imp (ps_setLc2 hc hN hz hzl hsw hi ok hv hg ht hi1 hg1 ht1 he hs hs1) fun E σ H q => tAsg_set (fun _ q => tLc2_of hsub hsub1 hno (tF_D q)) q
theorem sx_setLc2O {i : Nat} {z : Str} {py spos : Pos} (hc : X.calm = true) (hN : X.N.Nodup) (hz : X.N[i]? = some z) (hzl : X.env.scope.names.lookup z = some .local)
    (hsw : swapsWith (.ListComp elt [⟨tg, iter, ifs, 0⟩, ⟨tg1, iter1, ifs1, 0⟩] scope pos) (some (.Name z py)) spos.line X.env = pure true) (hi : ICX X tg iter it) (ok : BlkOk X.N X.env.scope scope own) (hsub : ∀ i ∈ Sg, i ∈ own.map (·.2)) (hv : ∀ i ∈ vs1, i ∈ own.map (·.2)) (hsub1 : ∀ i ∈ Sg1, i ∈ vs1) (hno : NoOwn t)
    (hg : ∀ (s : Shared) (H : Hp) (C : Addr) (cl : List (Str × Addr)) (fp : List Addr), GX (X.blk s H scope (compEnvC scope cl C X.env) fp) tg t Sg)
    (ht : ∀ (s : Shared) (H : Hp) (C : Addr) (cl : List (Str × Addr)) (fp : List Addr), PTs (X.blk s H scope (compEnvC scope cl C X.env) fp) ifs (tT X.K ct))
    (hi1 : ∀ (s : Shared) (H : Hp) (C : Addr) (cl : List (Str × Addr)) (fp : List Addr), ILX (X.blk s H scope (compEnvC scope cl C X.env) fp) tg1 iter1 it1)
    (hg1 : ∀ (s : Shared) (H : Hp) (C : Addr) (cl : List (Str × Addr)) (fp : List Addr), GX (X.blk s H scope (compEnvC scope cl C X.env) fp) tg1 t1 Sg1)
    (ht1 : ∀ (s : Shared) (H : Hp) (C : Addr) (cl : List (Str × Addr)) (fp : List Addr), PTs (X.blk s H scope (compEnvC scope cl C X.env) fp) ifs1 (tT X.K ct1))
    (he : ∀ (s : Shared) (H : Hp) (C : Addr) (cl : List (Str × Addr)) (fp : List Addr), EX (X.blk s H scope (compEnvC scope cl C X.env) fp) elt y) (hs : ∀ x, foldedSetIterable iter X.env x = pure x := by intro _; rfl) (hs1 : ∀ env x, foldedSetIterable iter1 env x = pure x := by intro _ _; rfl) :
    SX X (.Assign [.Name z py] (.ListComp elt [⟨tg, iter, ifs, 0⟩, ⟨tg1, iter1, ifs1, 0⟩] scope pos) spos) (sSetO i (fLc2 (own.map (·.2)) vs1 it t ct it1 t1 ct1 y)) :=
  ps_imp (ps_setLc2 hc hN hz hzl hsw hi ok hv hg ht hi1 hg1 ht1 he hs hs1) fun E σ H q => tAsg_setO (fun _ q => tLc2_of hsub hsub1 hno q) q
end
end PD

set_option Elab.async false
set_option linter.all false
set_option maxRecDepth 100000
namespace PD
open PySem PySem.Spec PyProof.Rows L2
/-! ### keys -/
def eqF : D → D → Bool
  | .int i, .int j => decide (i = j)
  | .str x, .str y => decide (x = y)
  | _, _ => false
def eqFs : List D → List D → Bool
  | [], [] => true
  | x :: xs, y :: ys => eqF x y && eqFs xs ys
  | _, _ => false
def eqKd : D → D → Bool
  | .tup xs, .tup ys => eqFs xs ys
  | x, y => eqF x y
theorem eqF_kD (a b : Key) : eqF (kD a) (kD b) = decide (a = b) := by
  cases a <;> cases b <;> simp [kD, eqF]
theorem eqFs_map : ∀ a b : List Key, eqFs (a.map kD) (b.map kD) = decide (a = b)
  | [], [] => by simp [eqFs]
  | [], _ :: _ => by simp [eqFs]
  | _ :: _, [] => by simp [eqFs]
  | x :: a, y :: b => by
    simp only [List.map_cons, eqFs, eqF_kD, eqFs_map a b, List.cons.injEq]
    by_cases h1 : x = y <;> by_cases h2 : a = b <;> simp [h1, h2]
theorem eqKd_kD (a b : Key) : eqKd (kD a) (kD b) = decide (a = b) := by
  have : eqKd (kD a) (kD b) = eqF (kD a) (kD b) := by cases a <;> cases b <;> rfl
  rw [this, eqF_kD]
theorem eqKd_kTD (a b : List Key) : eqKd (kTD a) (kTD b) = decide (a = b) := eqFs_map a b
def isF : D → Option Key
  | .int i => some (.inl i)
  | .str x => some (.inr x)
  | _ => none
def isFs : List D → Option (List Key)
  | [] => some []
  | x :: xs => (isF x).bind fun k => (isFs xs).map (k :: ·)
theorem isF_some {d : D} {k : Key} (h : isF d = some k) : d = kD k := by
  cases d <;> cases h <;> rfl
theorem isFs_some : ∀ {ds : List D} {ks : List Key}, isFs ds = some ks → ds = ks.map kD
  | [], ks, h => by
    cases h
    rfl
  | d :: ds, ks, h => by
    obtain ⟨k, h1, h⟩ := Option.bind_eq_some_iff.mp (show (isF d).bind _ = some ks from h)
    obtain ⟨r, h2, rfl⟩ := Option.map_eq_some_iff.mp h
    rw [isF_some h1, isFs_some h2]
    rfl
theorem rp_kD {K : PySem.W.Frag} {G : Hp} {k : Key} {v : V} (h : Rp K G (kD k) v) : v = kV k := by
  cases k with
  | inl i =>
    have e : v = .int i := by simpa only [kD, Rp] using h
    exact e
  | inr i =>
    have e : v = .str i := by simpa only [kD, Rp] using h
    exact e
theorem rpl_kD {K : PySem.W.Frag} {G : Hp} : ∀ {ks : List Key} {vs : List V}, RpL K G (ks.map kD) vs → vs = ks.map kV
  | [], _, h => by simpa only [List.map_nil, RpL] using h
  | k :: ks, _, h => by
    simp only [List.map_cons, RpL] at h
    obtain ⟨x, r, rfl, h1, h2⟩ := h
    rw [rp_kD h1, rpl_kD h2]
    rfl
theorem kV_rp {K : PySem.W.Frag} {G : Hp} (k : Key) : Rp K G (kD k) (kV k) := by
  cases k <;> simp only [kD, kV, Rp]
theorem kV_rpl {K : PySem.W.Frag} {G : Hp} : ∀ ks : List Key, RpL K G (ks.map kD) (ks.map kV)
  | [] => RpL.nil
  | k :: ks => RpL.cons (kV_rp k) (kV_rpl ks)
/-- the kind of a key: flat, or a tuple of flat ones -/
def keyOk (t : Bool) : D → Bool
  | .tup xs => t && (isFs xs).isSome
  | d => !t && (isF d).isSome
def lookD (kvs : List (D × D)) (k : D) : Option D := (kvs.find? fun kv => eqKd kv.1 k).map (·.2)
def putD (kvs : List (D × D)) (k d : D) : List (D × D) := if (kvs.any fun kv => eqKd kv.1 k) = true then kvs.map (fun kv => if eqKd kv.1 k = true then (kv.1, d) else kv) else kvs ++ [(k, d)]
section
variable {K : PySem.W.Frag} {G : Hp}
theorem RpK.get : ∀ {ds : List (D × D)} {ks : List (Key × V)} {k : Key} {d : D}, RpK K G ds ks → lookD ds (kD k) = some d → ∃ v, valV ks k = some v ∧ Rp K G d v
  | [], _, _, _, _, h => by cases h
  | (kd, e) :: ds, _, k, d, r, h => by
    simp only [RpK] at r
    obtain ⟨j, x, r, rfl, rfl, h1, h2⟩ := r
    unfold lookD at h
    rw [List.find?_cons] at h
    simp only [eqKd_kD] at h
    by_cases hk : j = k
    · rw [decide_eq_true hk] at h
      cases h
      exact ⟨x, valV_pos hk, h1⟩
    · rw [decide_eq_false hk] at h
      rw [valV_neg hk]
      exact RpK.get h2 h
theorem RpK.no : ∀ {ds : List (D × D)} {ks : List (Key × V)} {k : Key}, RpK K G ds ks → lookD ds (kD k) = none → valV ks k = none
  | [], _, _, r, _ => by
    simp only [RpK] at r
    subst r
    rfl
  | (kd, e) :: ds, _, k, r, h => by
    simp only [RpK] at r
    obtain ⟨j, x, r, rfl, rfl, h1, h2⟩ := r
    unfold lookD at h
    rw [List.find?_cons] at h
    simp only [eqKd_kD] at h
    by_cases hk : j = k
    · rw [decide_eq_true hk] at h
      cases h
    · rw [decide_eq_false hk] at h
      rw [valV_neg hk]
      exact RpK.no h2 h
theorem RpK.any : ∀ {ds : List (D × D)} {ks : List (Key × V)} {k : Key}, RpK K G ds ks → (ds.any fun kv => eqKd kv.1 (kD k)) = ks.any fun kv => decide (kv.1 = k)
  | [], _, _, r => by
    simp only [RpK] at r
    subst r
    rfl
  | (kd, e) :: ds, _, k, r => by
    simp only [RpK] at r
    obtain ⟨j, x, r, rfl, rfl, h1, h2⟩ := r
    rw [List.any_cons, List.any_cons, eqKd_kD, RpK.any h2]
theorem RpK.snoc : ∀ {ds : List (D × D)} {ks : List (Key × V)} {k : Key} {d : D} {v : V}, RpK K G ds ks → Rp K G d v → RpK K G (ds ++ [(kD k, d)]) (ks ++ [(k, v)])
  | [], _, k, d, v, r, h => by
    simp only [RpK] at r
    subst r
    simp only [List.nil_append, RpK]
    exact ⟨k, v, [], rfl, rfl, h, rfl⟩
  | (kd, e) :: ds, _, k, d, v, r, h => by
    simp only [RpK] at r
    obtain ⟨j, x, r, rfl, e0, h1, h2⟩ := r
    simp only [List.cons_append, RpK]
    exact ⟨j, x, r ++ [(k, v)], rfl, e0, h1, RpK.snoc h2 h⟩
theorem RpK.repl : ∀ {ds : List (D × D)} {ks : List (Key × V)} {k : Key} {d : D} {v : V}, RpK K G ds ks → Rp K G d v → RpK K G (ds.map fun kv => if eqKd kv.1 (kD k) = true then (kv.1, d) else kv) (ks.map fun kv => if kv.1 = k then (kv.1, v) else kv)
  | [], _, _, _, _, r, _ => by
    simp only [RpK] at r
    subst r
    simp only [List.map_nil, RpK]
  | (kd, e) :: ds, _, k, d, v, r, h => by
    simp only [RpK] at r
    obtain ⟨j, x, r, rfl, rfl, h1, h2⟩ := r
    simp only [List.map_cons, eqKd_kD]
    have ih := RpK.repl (k := k) h2 h
    by_cases hk : j = k
    · simp only [hk, decide_true, if_true, RpK]
      exact ⟨k, v, _, rfl, rfl, h, ih⟩
    · simp only [hk, decide_false, if_false, Bool.false_eq_true, RpK]
      exact ⟨j, x, _, rfl, rfl, h1, ih⟩
theorem RpK.put {ds : List (D × D)} {ks : List (Key × V)} {k : Key} {d : D} {v : V} (r : RpK K G ds ks) (h : Rp K G d v) : RpK K G (putD ds (kD k) d) (putK ks k v) := by
  unfold putD putK
  rw [r.any]
  split
  · exact r.repl h
  · exact r.snoc h
theorem RpK.len : ∀ {ds : List (D × D)} {ks : List (Key × V)}, RpK K G ds ks → ds.length = ks.length
  | [], _, r => by
    simp only [RpK] at r
    subst r
    rfl
  | (kd, e) :: ds, _, r => by
    simp only [RpK] at r
    obtain ⟨j, x, r, rfl, _, _, h2⟩ := r
    simp only [List.length_cons, RpK.len h2]
theorem RpT.get : ∀ {ds : List (D × D)} {ks : List (List Key × V)} {k : List Key} {d : D}, RpT K G ds ks → lookD ds (kTD k) = some d → ∃ v, valV ks k = some v ∧ Rp K G d v
  | [], _, _, _, _, h => by cases h
  | (kd, e) :: ds, _, k, d, r, h => by
    simp only [RpT] at r
    obtain ⟨j, x, r, rfl, rfl, h1, h2⟩ := r
    unfold lookD at h
    rw [List.find?_cons] at h
    simp only [eqKd_kTD] at h
    by_cases hk : j = k
    · rw [decide_eq_true hk] at h
      cases h
      exact ⟨x, valV_pos hk, h1⟩
    · rw [decide_eq_false hk] at h
      rw [valV_neg hk]
      exact RpT.get h2 h
theorem RpT.no : ∀ {ds : List (D × D)} {ks : List (List Key × V)} {k : List Key}, RpT K G ds ks → lookD ds (kTD k) = none → valV ks k = none
  | [], _, _, r, _ => by
    simp only [RpT] at r
    subst r
    rfl
  | (kd, e) :: ds, _, k, r, h => by
    simp only [RpT] at r
    obtain ⟨j, x, r, rfl, rfl, h1, h2⟩ := r
    unfold lookD at h
    rw [List.find?_cons] at h
    simp only [eqKd_kTD] at h
    by_cases hk : j = k
    · rw [decide_eq_true hk] at h
      cases h
    · rw [decide_eq_false hk] at h
      rw [valV_neg hk]
      exact RpT.no h2 h
theorem RpT.any : ∀ {ds : List (D × D)} {ks : List (List Key × V)} {k : List Key}, RpT K G ds ks → (ds.any fun kv => eqKd kv.1 (kTD k)) = ks.any fun kv => decide (kv.1 = k)
  | [], _, _, r => by
    simp only [RpT] at r
    subst r
    rfl
  | (kd, e) :: ds, _, k, r => by
    simp only [RpT] at r
    obtain ⟨j, x, r, rfl, rfl, h1, h2⟩ := r
    rw [List.any_cons, List.any_cons, eqKd_kTD, RpT.any h2]
theorem RpT.snoc : ∀ {ds : List (D × D)} {ks : List (List Key × V)} {k : List Key} {d : D} {v : V}, RpT K G ds ks → Rp K G d v → RpT K G (ds ++ [(kTD k, d)]) (ks ++ [(k, v)])
  | [], _, k, d, v, r, h => by
    simp only [RpT] at r
    subst r
    simp only [List.nil_append, RpT]
    exact ⟨k, v, [], rfl, rfl, h, rfl⟩
  | (kd, e) :: ds, _, k, d, v, r, h => by
    simp only [RpT] at r
    obtain ⟨j, x, r, rfl, e0, h1, h2⟩ := r
    simp only [List.cons_append, RpT]
    exact ⟨j, x, r ++ [(k, v)], rfl, e0, h1, RpT.snoc h2 h⟩
theorem RpT.repl : ∀ {ds : List (D × D)} {ks : List (List Key × V)} {k : List Key} {d : D} {v : V}, RpT K G ds ks → Rp K G d v → RpT K G (ds.map fun kv => if eqKd kv.1 (kTD k) = true then (kv.1, d) else kv) (ks.map fun kv => if kv.1 = k then (kv.1, v) else kv)
  | [], _, _, _, _, r, _ => by
    simp only [RpT] at r
    subst r
    simp only [List.map_nil, RpT]
  | (kd, e) :: ds, _, k, d, v, r, h => by
    simp only [RpT] at r
    obtain ⟨j, x, r, rfl, rfl, h1, h2⟩ := r
    simp only [List.map_cons, eqKd_kTD]
    have ih := RpT.repl (k := k) h2 h
    by_cases hk : j = k
    · simp only [hk, decide_true, if_true, RpT]
      exact ⟨k, v, _, rfl, rfl, h, ih⟩
    · simp only [hk, decide_false, if_false, Bool.false_eq_true, RpT]
      exact ⟨j, x, _, rfl, rfl, h1, ih⟩
theorem RpT.put {ds : List (D × D)} {ks : List (List Key × V)} {k : List Key} {d : D} {v : V} (r : RpT K G ds ks) (h : Rp K G d v) : RpT K G (putD ds (kTD k) d) (putK ks k v) := by
  unfold putD putK
  rw [r.any]
  split
  · exact r.repl h
  · exact r.snoc h
theorem RpT.len : ∀ {ds : List (D × D)} {ks : List (List Key × V)}, RpT K G ds ks → ds.length = ks.length
  | [], _, r => by
    simp only [RpT] at r
    subst r
    rfl
  | (kd, e) :: ds, _, r => by
    simp only [RpT] at r
    obtain ⟨j, x, r, rfl, _, _, h2⟩ := r
    simp only [List.length_cons, RpT.len h2]
end
/-! ### the dict at a, the key y -/
section
variable {K : PySem.W.Frag} {H G : Hp}
/-- a dict that is looked at: the value at a key -/
def DicAt (K : PySem.W.Frag) (H G : Hp) (t : Bool) (ds : List (D × D)) (a : Addr) : Prop := (t = false ∧ ∃ ks, Rd H a (.dK ks) ∧ RpK K G ds ks) ∨ (t = true ∧ ∃ ks, Rd H a (.dT ks) ∧ RpT K G ds ks)
theorem rpb_dic {t : Bool} {ds : List (D × D)} {v : V} (r : RpB K H G (.dic t ds) v) : ∃ a, v = .ref a ∧ DicAt K H G t ds a := r
theorem key_split {t : Bool} {k : D} (h : keyOk t k = true) : (t = false ∧ ∃ j, k = kD j) ∨ (t = true ∧ ∃ j, k = kTD j) := by
  cases k with
  | tup xs =>
    simp only [keyOk, Bool.and_eq_true] at h
    obtain ⟨j, hj⟩ := Option.isSome_iff_exists.mp h.2
    exact .inr ⟨h.1, j, by rw [isFs_some hj]; rfl⟩
  | int i =>
    simp only [keyOk, Bool.and_eq_true, Bool.not_eq_true'] at h
    exact .inl ⟨h.1, .inl i, rfl⟩
  | str i =>
    simp only [keyOk, Bool.and_eq_true, Bool.not_eq_true'] at h
    exact .inl ⟨h.1, .inr i, rfl⟩
  | _ =>
    exfalso
    simp [keyOk, isF] at h
theorem dget_of {t : Bool} {ds : List (D × D)} {a : Addr} {k : D} {y : V} (w : Wf H G) (hd : DicAt K H G t ds a) (hk : keyOk t k = true) (ry : Rp K G k y) :
    ∃ o, DGet H a y o ∧ (∀ d, lookD ds k = some d → ∃ v, o = some v ∧ Rp K G d v) ∧ (lookD ds k = none → o = none) := by
  rcases key_split hk with ⟨ht, j, rfl⟩ | ⟨ht, j, rfl⟩
  · rcases hd with ⟨_, ks, h1, h2⟩ | ⟨h0, _⟩
    · have e := rp_kD ry
      subst e
      exact ⟨valV ks j, .inl ⟨ks, j, h1, rfl, rfl⟩, fun d hl => h2.get hl, fun hl => h2.no hl⟩
    · rw [ht] at h0
      cases h0
  · rcases hd with ⟨h0, _⟩ | ⟨_, ks, h1, h2⟩
    · rw [ht] at h0
      cases h0
    · unfold kTD at ry
      simp only [Rp] at ry
      obtain ⟨b, xs, rfl, h3, h4⟩ := ry
      have e := rpl_kD h4
      subst e
      exact ⟨valV ks j, .inr ⟨ks, j, b, h1, rfl, w.sub _ _ h3, rfl⟩, fun d hl => h2.get hl, fun hl => h2.no hl⟩
end
section
variable {X : Cx} {a b e o ke : Expr} {fo fk f fv : Fe} {pos p pos' tpos : Pos}
/-! ### d[k], k in d -/
def gDGet : D → D → Option D
  | .dic t kvs, k => if keyOk t k then lookD kvs k else none
  | _, _ => none
def eDGet (fo fk : Fe) : Fe := fun env => (fo env).bind fun x => (fk env).bind fun k => gDGet x k
theorem ex_dget (hu : X.A.units + 65 < cLine) (ho : BX X o fo) (hi : EX X ke fk) (hs : NoSl ke := by intro _ _; rfl) : EX X (.Subscript o ke pos) (eDGet fo fk) := pe_imp (pe_dget (by omega) ho hi hs) fun σ H Q q => by
  obtain ⟨H0, G0, G, env, d, S, e1, q⟩ := q
  obtain ⟨x, h1, e1⟩ := Option.bind_eq_some_iff.mp e1
  obtain ⟨k, h2, e1⟩ := Option.bind_eq_some_iff.mp e1
  unfold gDGet at e1
  split at e1
  · rename_i t kvs k
    split at e1
    · rename_i hk
      refine ⟨H0, G0, G, env, _, S, h1, fun v H1 G1 x1 r1 => ⟨H0, G0, G1, env, _, S.ext x1, h2, fun y H2 G2 x2 r2 => ?_⟩⟩
      obtain ⟨a, rfl, hd⟩ := rpb_dic (r1.ext x2)
      obtain ⟨ov, g, hv, _⟩ := dget_of x2.wf hd hk r2
      obtain ⟨v, rfl, rv⟩ := hv _ e1
      exact ⟨a, v, rfl, g, q v H2 G2 (x1.trans x2) rv⟩
    · cases e1
  · cases e1
def gDIn (n : Bool) : D → D → Option D
  | k, .dic t kvs => if keyOk t k then some (.bl (if n then !(lookD kvs k).isSome else (lookD kvs k).isSome)) else none
  | _, _ => none
def eDIn (n : Bool) (fk fo : Fe) : Fe := fun env => (fk env).bind fun k => (fo env).bind fun x => gDIn n k x
theorem dIn_imp {σ : L2.St} {H : Hp} {Q : VK} {n : Bool} (q : tD X.K (eDIn n fk fo) σ H Q) : (tD X.K fk) σ H fun y H1 => (tB X.K fo) σ H1 fun x H2 => ∃ a ov, x = .ref a ∧ DGet H2 a y ov ∧ Q (.bl (if n then !ov.isSome else ov.isSome)) H2 := by
  obtain ⟨H0, G0, G, env, d, S, e1, q⟩ := q
  obtain ⟨k, h1, e1⟩ := Option.bind_eq_some_iff.mp e1
  obtain ⟨x, h2, e1⟩ := Option.bind_eq_some_iff.mp e1
  unfold gDIn at e1
  split at e1
  · rename_i t kvs
    split at e1
    · rename_i hk
      cases e1
      refine ⟨H0, G0, G, env, _, S, h1, fun y H1 G1 x1 r1 => ⟨H0, G0, G1, env, _, S.ext x1, h2, fun v H2 G2 x2 r2 => ?_⟩⟩
      obtain ⟨a, rfl, hd⟩ := rpb_dic r2
      obtain ⟨ov, g, hv, hno⟩ := dget_of x2.wf hd hk (Rp.mono x2.gg _ _ r1)
      have es : ov.isSome = (lookD kvs k).isSome := by
        cases hl : lookD kvs k with
        | none =>
          rw [hno hl]
          rfl
        | some d =>
          obtain ⟨v, rfl, _⟩ := hv d hl
          rfl
      refine ⟨a, ov, rfl, g, q _ H2 G2 (x1.trans x2) ?_⟩
      rw [es]
      exact rp_bl _
    · cases e1
  · cases e1
theorem ex_din (hu : X.A.units + 65 < cLine) (hi : EX X ke fk) (ho : BX X o fo) (hm : behindInMarks .In o = false := by rfl) : EX X (.Compare ke [.In] [o] pos) (eDIn false fk fo) := pe_imp (pe_cmp (pc_din (by omega) hi ho) hm) fun σ H Q q => dIn_imp q
theorem ex_dnotin (hu : X.A.units + 65 < cLine) (hi : EX X ke fk) (ho : BX X o fo) (hm : behindInMarks .NotIn o = false := by rfl) : EX X (.Compare ke [.NotIn] [o] pos) (eDIn true fk fo) := pe_imp (pe_cmp (pc_dnotin (by omega) hi ho) hm) fun σ H Q q => dIn_imp q
theorem tx_din (hu : X.A.units + 65 < cLine) (hi : EX X ke fk) (ho : BX X o fo) (hm : behindInMarks .In o = false := by rfl) : TX X (.Compare ke [.In] [o] pos) (asB (eDIn false fk fo)) := pt_imp (pt_cmp (pc_din (by omega) hi ho) hm) fun σ H Q q => dIn_imp (asB_imp q)
theorem tx_dnotin (hu : X.A.units + 65 < cLine) (hi : EX X ke fk) (ho : BX X o fo) (hm : behindInMarks .NotIn o = false := by rfl) : TX X (.Compare ke [.NotIn] [o] pos) (asB (eDIn true fk fo)) := pt_imp (pt_cmp (pc_dnotin (by omega) hi ho) hm) fun σ H Q q => dIn_imp (asB_imp q)
end

section
variable {X : Cx} {a b e o ke : Expr} {fo fk f fv : Fe} {pos p pos' tpos : Pos} {x : Str}
/-! ### d[k] = v, d[k] op= v -/
def putS (env : List Sl) (i : Nat) (k d : D) : Option Out := match env[i]? with
  | some (.ownD t kvs) => if keyOk t k && lim (kvs.length + 1) then some (.nx (env.set i (.ownD t (putD kvs k d)))) else none
  | _ => none
def sDSet (i : Nat) (fk f : Fe) : Cmd := fun env => (f env).bind fun d => (fk env).bind fun k => putS env i k d
theorem put_own {K : PySem.W.Frag} {H0 G0 H G : Hp} {σ : L2.St} {env : List Sl} (S : Ste K H0 G0 H G σ env) {i : Nat} {k d : D} {y v : V} {o : Out} {E : Ends} (e : putS env i k d = some o) (rk : Rp K G k y) (rv : Rp K G d v) (q : OutOk K H0 G0 E o) :
    ∃ w, σ[i]? = some (some w) ∧ ∃ a H4, w = .ref a ∧ DPut H a y v H4 ∧ E.nx σ H4 := by
  unfold putS at e
  split at e
  · rename_i t kvs hi
    split at e
    · rename_i hz
      rw [Bool.and_eq_true] at hz
      cases e
      obtain ⟨x, hx, a, rfl, g, h0, hd⟩ := S.at hi
      have hl := lim_le hz.2
      refine ⟨.ref a, hx, a, ?_⟩
      rcases key_split hz.1 with ⟨ht, j, rfl⟩ | ⟨ht, j, rfl⟩
      · rcases hd with ⟨_, ks, h1, h2⟩ | ⟨z, _⟩
        · have ey := rp_kD rk
          subst ey
          refine ⟨_, rfl, DPut.k h1 (by rw [← h2.len]; omega), ?_⟩
          exact q σ _ G (S.change hi rfl hx h1 g h0 rfl ⟨a, rfl, g, h0, .inl ⟨ht, _, upd_same, h2.put rv⟩⟩)
        · rw [ht] at z
          cases z
      · rcases hd with ⟨z, _⟩ | ⟨_, ks, h1, h2⟩
        · rw [ht] at z
          cases z
        · unfold kTD at rk
          simp only [Rp] at rk
          obtain ⟨c, xs, rfl, h3, h4⟩ := rk
          have ey := rpl_kD h4
          subst ey
          refine ⟨_, rfl, DPut.t h1 (S.wf.sub _ _ h3) (by rw [← h2.len]; omega), ?_⟩
          exact q σ _ G (S.change hi rfl hx h1 g h0 rfl ⟨a, rfl, g, h0, .inr ⟨ht, _, upd_same, h2.put rv⟩⟩)
    · cases e
  · cases e
theorem sx_dset {i : Nat} (hu : X.A.units + 65 < cLine) (hN : X.N[i]? = some x) (hv : Vis X.env.scope x) (hk : EX X ke fk) (he : EX X e f) (hd : (x == ("__debug__" : Str)) = false := by decide) (hcd : (x == ("__classdict__" : Str)) = false := by decide)
    (hs : swapsWith e (some (.Subscript (.Name x p) ke pos')) pos.line X.env = pure false := by rfl) : SX X (.Assign [.Subscript (.Name x p) ke pos'] e pos) (sDSet i fk f) :=
  ps_imp (ps_dput (by omega) (pe_var hN hv hd hcd) hk he hs) fun E σ H q => by
    obtain ⟨H0, G0, G, env, oo, S, e1, q⟩ := q
    obtain ⟨d, h2, e1⟩ := Option.bind_eq_some_iff.mp e1
    obtain ⟨k, h3, e1⟩ := Option.bind_eq_some_iff.mp e1
    refine ⟨H0, G0, G, env, d, S, h2, fun v H1 G1 x1 r1 => ?_⟩
    have S1 := S.ext x1
    have hi : ∃ s, env[i]? = some s := by
      unfold putS at e1
      cases hq : env[i]? with
      | none => rw [hq] at e1; cases e1
      | some s => exact ⟨s, rfl⟩
    obtain ⟨s, hi⟩ := hi
    obtain ⟨w, hw, _⟩ := S1.at hi
    have hw' : ∃ v, w = some v := by
      unfold putS at e1
      rw [hi] at e1
      cases s with
      | ownD t kvs =>
        obtain ⟨w2, hw2, a, rfl, _⟩ := S1.at hi
        rw [hw] at hw2
        cases hw2
        exact ⟨_, rfl⟩
      | _ => cases e1
    obtain ⟨w, rfl⟩ := hw'
    refine ⟨w, hw, H0, G0, G1, env, k, S1, h3, fun y H2 G2 x2 r2 => ?_⟩
    obtain ⟨w2, hw2, a, H4, rfl, hp, hn⟩ := put_own (S1.ext x2) e1 r2 (Rp.mono x2.gg _ _ r1) q
    rw [hw] at hw2
    cases hw2
    exact ⟨a, H4, rfl, hp, hn⟩
def sDAugD (i : Nat) (g : D → D → Option D) (fk f : Fe) : Cmd := fun env => (fk env).bind fun k => match env[i]? with
  | some (.ownD t kvs) => if keyOk t k then (lookD kvs k).bind fun old => (f env).bind fun y => (g old y).bind fun z => putS env i k z else none
  | _ => none
theorem sx_daug {i : Nat} {op : Operator} {g : D → D → Option D} (hu : X.A.units + 65 < cLine) (hN : X.N[i]? = some x) (hv : Vis X.env.scope x) (hk : EX X ke fk) (he : EX X e f) (ho : PipD X op g) (hd : (x == ("__debug__" : Str)) = false := by decide) (hcd : (x == ("__classdict__" : Str)) = false := by decide)
    (ha : ∀ ov iv new, augStore ke ov iv new = (do holding [new, ov, iv] (setItem ov iv new); release [new, ov, iv] []; pure .next) := by intros; rfl) : SX X (.AugAssign (.Subscript (.Name x p) ke tpos) op e pos) (sDAugD i g fk f) :=
  ps_imp (ps_daug (by omega) (pe_var hN hv hd hcd) hk he (show InOp X op (rD X.K g) from fun pins s σ H x y u v Q I rx ry q => ho pins s σ H x y u v Q I rx ry q) ha) fun E σ H q => by
    obtain ⟨H0, G0, G, env, oo, S, e1, q⟩ := q
    obtain ⟨k, h3, e1⟩ := Option.bind_eq_some_iff.mp e1
    split at e1
    · rename_i t kvs hi
      split at e1
      · rename_i hko
        obtain ⟨old, h4, e1⟩ := Option.bind_eq_some_iff.mp e1
        obtain ⟨dy, h5, e1⟩ := Option.bind_eq_some_iff.mp e1
        obtain ⟨dz, h6, e1⟩ := Option.bind_eq_some_iff.mp e1
        obtain ⟨w, hw, a, rfl, _⟩ := S.at hi
        refine ⟨.ref a, hw, H0, G0, G, env, k, S, h3, fun y H1 G1 x1 r1 => ?_⟩
        have S1 := S.ext x1
        obtain ⟨w2, hw2, a2, e2, g2, h02, hd2⟩ := S1.at hi
        rw [hw] at hw2
        cases hw2
        cases e2
        obtain ⟨ov, gg, hvv, _⟩ := dget_of S1.wf (show DicAt X.K H1 G1 t kvs a from rd_own hd2) hko r1
        obtain ⟨vo, rfl, ro⟩ := hvv old h4
        refine ⟨a, vo, rfl, gg, H0, G0, G1, env, dy, S1, h5, fun y2 H2 G2 x2 r2 => ⟨G2, old, dy, dz, x2.wf, RpB.of x2.wf (Rp.mono x2.gg _ _ ro), RpB.of x2.wf r2, h6, fun z H3 G3 x3 r3 => ?_⟩⟩
        have x23 := x2.trans x3
        obtain ⟨w3, hw3, a3, H4, e3, hp, hn⟩ := put_own (S1.ext x23) e1 (Rp.mono x23.gg _ _ r1) r3 q
        rw [hw] at hw3
        cases hw3
        cases e3
        exact ⟨H4, hp, hn⟩
      · cases e1
    · cases e1
/-! ### new dicts -/
def dN (t : Bool) : Fn := fun _ => some (.ownD t [])
theorem nx_dnewK : NX X (.Dict [] [] pos) (dN false) := pe_imp pe_dnewK fun σ H Q q => by
  obtain ⟨H0, G0, G, env, sl, S, e1, q⟩ := q
  cases e1
  exact fun p hp => q _ _ G (Ext.fresh S.wf hp rfl) ⟨p, rfl, hp, wf_none S.wf hp, .inl ⟨rfl, [], upd_same, by simp only [RpK]⟩⟩
theorem nx_dnewT : NX X (.Dict [] [] pos) (dN true) := pe_imp pe_dnewT fun σ H Q q => by
  obtain ⟨H0, G0, G, env, sl, S, e1, q⟩ := q
  cases e1
  exact fun p hp => q _ _ G (Ext.fresh S.wf hp rfl) ⟨p, rfl, hp, wf_none S.wf hp, .inr ⟨rfl, [], upd_same, by simp only [RpT]⟩⟩
/-! ### len -/
def gLenD : List D → Option D
  | [.dic _ kvs] => some (.int kvs.length)
  | _ => none
theorem clenD : CallR X (.builtin "len") (rC X.K gLenD) := by
  intro pins s σ H vs us Q I r h
  obtain ⟨G, ds, d, w, rr, e, q⟩ := h
  unfold gLenD at e
  split at e
  · cases e
    obtain ⟨v, rfl, hd⟩ := rpbl1 rr
    have hd3 := rpb_dic hd
    obtain ⟨a, hv, hd2⟩ := hd3
    subst hv
    obtain ⟨u, rfl, rx⟩ := vals1 r
    obtain rfl : u = .ref a := rx
    rcases hd2 with ⟨_, ks, h1, h2⟩ | ⟨_, ks, h1, h2⟩
    · refine d_len I h1 fun t s' I' => ⟨.int (ks.length : Nat), H, I', ⟨t, rfl⟩, ?_⟩
      rw [← h2.len]
      exact q _ H G (Ext.refl w) (rp_int _)
    · obtain ⟨z, hs, ys, rel, dd⟩ := dt_rd I.hok h1
      have hl : ks.length = ys.length := Paired.length rel
      refine PySem.call_len_dictH hs dd (by rw [← hl]; rw [sizeLine_eq] at z; omega) ?_
      rw [← hl, ← h2.len]
      exact ⟨.int (_ : Nat), H, I.tok _, ⟨_, rfl⟩, q _ H G (Ext.refl w) (rp_int _)⟩
  · cases e
/-! ### walking a settled dict -/
def keysD : D → Option (List D)
  | .dic _ kvs => some (kvs.map (·.1))
  | _ => none
def valsD : D → Option (List D)
  | .dic false kvs => some (kvs.map (·.2))
  | _ => none
def itemsDD : D → Option (List D)
  | .dic false kvs => some (kvs.map fun kv => .tup [kv.1, kv.2])
  | _ => none
def iKy (f : Fe) : Fl := fun env => (f env).bind keysD
def iVl (f : Fe) : Fl := fun env => (f env).bind valsD
def iIt (f : Fe) : Fl := fun env => (f env).bind itemsDD
theorem RpK.at {K : PySem.W.Frag} {G : Hp} : ∀ {ds : List (D × D)} {ks : List (Key × V)}, RpK K G ds ks → ∀ {i : Nat} {kd d : D}, ds[i]? = some (kd, d) → ∃ k v, ks[i]? = some (k, v) ∧ kd = kD k ∧ Rp K G d v
  | [], _, _, i, kd, d, h => by simp at h
  | (e, e') :: ds, _, r, i, kd, d, h => by
    simp only [RpK] at r
    obtain ⟨j, x, r, rfl, e0, h1, h2⟩ := r
    cases i with
    | zero =>
      simp only [List.getElem?_cons_zero, Option.some.injEq, Prod.mk.injEq] at h
      exact ⟨j, x, rfl, by rw [← h.1]; exact e0, by rw [← h.2]; exact h1⟩
    | succ i =>
      simp only [List.getElem?_cons_succ] at h ⊢
      exact RpK.at h2 h
theorem RpT.at {K : PySem.W.Frag} {G : Hp} : ∀ {ds : List (D × D)} {ks : List (List Key × V)}, RpT K G ds ks → ∀ {i : Nat} {kd d : D}, ds[i]? = some (kd, d) → ∃ k v, ks[i]? = some (k, v) ∧ kd = kTD k ∧ Rp K G d v
  | [], _, _, i, kd, d, h => by simp at h
  | (e, e') :: ds, _, r, i, kd, d, h => by
    simp only [RpT] at r
    obtain ⟨j, x, r, rfl, e0, h1, h2⟩ := r
    cases i with
    | zero =>
      simp only [List.getElem?_cons_zero, Option.some.injEq, Prod.mk.injEq] at h
      exact ⟨j, x, rfl, by rw [← h.1]; exact e0, by rw [← h.2]; exact h1⟩
    | succ i =>
      simp only [List.getElem?_cons_succ] at h ⊢
      exact RpT.at h2 h
variable {tg : Expr} {td : TE}
theorem ilx_keys {f : Fe} (h : EX X e f) : ILX X tg e (iKy f) := pi_imp (pi_keys h) fun σ H R q => by
  obtain ⟨H0, G0, G, env, ds, S, e1, q⟩ := q
  obtain ⟨d, h1, e1⟩ := Option.bind_eq_some_iff.mp e1
  refine ⟨H0, G0, G, env, d, S, h1, fun v H1 G1 x1 r1 => ?_⟩
  unfold keysD at e1
  split at e1
  · cases e1
    simp only [Rp] at r1
    obtain ⟨a, rfl, hd⟩ := r1
    rcases hd with ⟨_, o, ks, h2, h3⟩ | ⟨_, o, ks, h2, h3⟩
    · refine ⟨a, o, rfl, .inl ⟨ks, x1.wf.sub _ _ h2, q _ H1 G1 x1 fun i H G sg w => ⟨fun hi => ⟨w.sub _ _ (sg _ _ h2), ?_⟩, fun z hz => ?_⟩⟩⟩
      · rw [List.length_map, h3.len] at hi
        exact hi
      · rw [List.getElem?_map] at hz
        obtain ⟨⟨kd, dv⟩, hq, rfl⟩ := Option.map_eq_some_iff.mp hz
        obtain ⟨k, v, hk, rfl, rv⟩ := h3.at hq
        refine ⟨⟨w.sub _ _ (sg _ _ h2), (List.getElem?_eq_some_iff.mp hk).1⟩, fun y H' hy => ?_⟩
        obtain ⟨rfl, k2, v2, h5, rfl⟩ := hy
        rw [hk] at h5
        cases h5
        exact ⟨G, Ext.refl w, kV_rp _⟩
    · refine ⟨a, o, rfl, .inr ⟨ks, x1.wf.sub _ _ h2, q _ H1 G1 x1 fun i H G sg w => ⟨fun hi => ⟨w.sub _ _ (sg _ _ h2), ?_⟩, fun z hz => ?_⟩⟩⟩
      · rw [List.length_map, h3.len] at hi
        exact hi
      · rw [List.getElem?_map] at hz
        obtain ⟨⟨kd, dv⟩, hq, rfl⟩ := Option.map_eq_some_iff.mp hz
        obtain ⟨k, v, hk, rfl, rv⟩ := h3.at hq
        refine ⟨⟨w.sub _ _ (sg _ _ h2), (List.getElem?_eq_some_iff.mp hk).1⟩, fun y H' hy => ?_⟩
        obtain ⟨rfl, k2, v2, b, h5, rfl, h6⟩ := hy
        rw [hk] at h5
        cases h5
        refine ⟨G, Ext.refl w, ?_⟩
        unfold kTD
        simp only [Rp]
        exact ⟨b, _, rfl, w.tin _ _ h6 rfl, kV_rpl _⟩
  · cases e1
theorem ilx_vals {f : Fe} {apos cpos : Pos} (h : EX X e f) (hbase : attributeBase e "values" X.env (eval e X.env) = eval e X.env := by rfl) (hline : (apos.endLine == cpos.line) = true := by rfl) : ILX X tg (.Call (.Attribute e "values" apos) [] [] cpos) (iVl f) := pi_imp (pi_values h hbase hline) fun σ H R q => by
  obtain ⟨H0, G0, G, env, ds, S, e1, q⟩ := q
  obtain ⟨d, h1, e1⟩ := Option.bind_eq_some_iff.mp e1
  refine ⟨H0, G0, G, env, d, S, h1, fun v H1 G1 x1 r1 => ?_⟩
  unfold valsD at e1
  split at e1
  · cases e1
    simp only [Rp] at r1
    obtain ⟨a, rfl, hd⟩ := r1
    rcases hd with ⟨_, o, ks, h2, h3⟩ | ⟨ht, _⟩
    · refine ⟨a, o, ks, rfl, x1.wf.sub _ _ h2, q _ H1 G1 x1 fun i H G sg w => ⟨fun hi => ⟨w.sub _ _ (sg _ _ h2), ?_⟩, fun z hz => ?_⟩⟩
      · rw [List.length_map, h3.len] at hi
        exact hi
      · rw [List.getElem?_map] at hz
        obtain ⟨⟨kd, dv⟩, hq, rfl⟩ := Option.map_eq_some_iff.mp hz
        obtain ⟨k, v, hk, rfl, rv⟩ := h3.at hq
        refine ⟨⟨w.sub _ _ (sg _ _ h2), (List.getElem?_eq_some_iff.mp hk).1⟩, fun y H' hy => ?_⟩
        obtain ⟨rfl, k2, h5⟩ := hy
        rw [hk] at h5
        cases h5
        exact ⟨G, Ext.refl w, Rp.mono sg _ _ rv⟩
    · cases ht
  · cases e1
theorem ilx_items {f : Fe} {apos cpos : Pos} {elts : List Expr} {kk : Nat} (h : EX X e f) (hbase : attributeBase e "items" X.env (eval e X.env) = eval e X.env := by rfl) (hline : (apos.endLine == cpos.line) = true := by rfl) : ILX X (.Tuple elts kk tpos) (.Call (.Attribute e "items" apos) [] [] cpos) (iIt f) := pi_imp (pi_items h hbase hline) fun σ H R q => by
  obtain ⟨H0, G0, G, env, ds, S, e1, q⟩ := q
  obtain ⟨d, h1, e1⟩ := Option.bind_eq_some_iff.mp e1
  refine ⟨H0, G0, G, env, d, S, h1, fun v H1 G1 x1 r1 => ?_⟩
  unfold itemsDD at e1
  split at e1
  · cases e1
    simp only [Rp] at r1
    obtain ⟨a, rfl, hd⟩ := r1
    rcases hd with ⟨_, o, ks, h2, h3⟩ | ⟨ht, _⟩
    · refine ⟨a, o, ks, rfl, x1.wf.sub _ _ h2, q _ H1 G1 x1 fun i H G sg w => ⟨fun hi => ⟨w.sub _ _ (sg _ _ h2), ?_⟩, fun z hz => ?_⟩⟩
      · rw [List.length_map, h3.len] at hi
        exact hi
      · rw [List.getElem?_map] at hz
        obtain ⟨⟨kd, dv⟩, hq, rfl⟩ := Option.map_eq_some_iff.mp hz
        obtain ⟨k, v, hk, rfl, rv⟩ := h3.at hq
        refine ⟨⟨w.sub _ _ (sg _ _ h2), (List.getElem?_eq_some_iff.mp hk).1⟩, fun y H' hy => ?_⟩
        obtain ⟨T, k2, v2, h5, rfl, hT, rfl⟩ := hy
        rw [hk] at h5
        cases h5
        exact new_pair w hT (kV_rp _) (Rp.mono sg _ _ rv)
    · cases ht
  · cases e1

/-! ### dict comprehensions -/
def compD (t : Ft) (c : Fb) (ky y : Fe) (env : List Sl) : List D → List (D × D) → Option (List (D × D))
  | [], acc => some acc
  | x :: xs, acc => (t x env).bind fun e => (c e).bind fun k => if k then (ky e).bind fun kk => (y e).bind fun d => if keyOk false kk then compD t c ky y env xs (putD acc kk d) else none else compD t c ky y env xs acc
def fDc (own : List Nat) (it : Fl) (t : Ft) (c : Fb) (ky y : Fe) : Fn := fun env => (it env).bind fun xs => if lim xs.length then (compD t c ky y (wipeE env own) xs []).map (.ownD false) else none
theorem putD_len (kvs : List (D × D)) (k d : D) : (putD kvs k d).length ≤ kvs.length + 1 := by
  unfold putD
  split
  · rw [List.length_map]
    omega
  · rw [List.length_append, List.length_singleton]
    omega
theorem Ext.growD {H1 G1 H G : Hp} (x : Ext H1 G1 H G) {p : Addr} {ks : List (Key × V)} (n : H1 p = none) (g : G p = none) : Ext H1 G1 (upd H p (.dK ks)) G := by
  refine ⟨fun b o e => ?_, x.gg, ⟨fun b o e => ?_, fun b o e hh => ?_⟩, x.new⟩
  · rw [upd_ne (ne_of_none e n)]
    exact x.hh b o e
  · rw [upd_ne (ne_of_none e g)]
    exact x.wf.sub b o e
  · by_cases hb : b = p
    · subst hb
      rw [upd_same] at e
      cases e
      cases hh
    · rw [upd_ne hb] at e
      exact x.wf.tin b o e hh
theorem tDc_of {K : PySem.W.Frag} {it : Fl} {t : Ft} {Sg : List Nat} {ct : Fb} {ky y : Fe} {vs : List Nat} (hsub : ∀ i ∈ Sg, i ∈ vs) {σ : L2.St} {H : Hp} {Q : VK} (q : tN K (fDc vs it t ct ky y) σ H Q) : tDc (iC K it) (tG K t Sg) (tT K ct) (tD K ky) (tD K y) vs σ H Q := by
  obtain ⟨H0, G0, G, env, sl, S, e1, q⟩ := q
  obtain ⟨xs, h1, e1⟩ := Option.bind_eq_some_iff.mp e1
  split at e1
  · rename_i hz
    obtain ⟨ds, e2, rfl⟩ := Option.map_eq_some_iff.mp e1
    refine ⟨H0, G0, G, env, xs, S, h1, fun J H1 G1 x1 hJ Dd hD => ?_⟩
    have S1 := S.ext x1
    have hz' := lim_le hz
    refine ⟨fun i m H2 => m = xs.length - i ∧ i ≤ xs.length ∧ ∃ G2 ks acc, Ext H1 G1 H2 G2 ∧ H2 Dd = some (.dK ks) ∧ G2 Dd = none ∧ RpK K G2 acc ks ∧ acc.length ≤ i ∧ compD t ct ky y (wipeE env vs) (xs.drop i) acc = some ds,
      ⟨xs.length, by omega, Nat.zero_le _, G1, [], [], Ext.fresh x1.wf hD rfl, upd_same, wf_none x1.wf hD, by simp only [RpK], Nat.le_refl _, e2⟩, ?_⟩
    rintro i m H2 ⟨rfl, hi, G2, ks, acc, x2, hD2, gD2, r2, hl2, hc2⟩
    have hj := hJ i H2 G2 x2.hh x2.gg x2.wf
    by_cases hlt : i < xs.length
    · obtain ⟨go, hy⟩ := hj.2 _ (List.getElem?_eq_getElem hlt)
      rw [List.drop_eq_getElem_cons hlt] at hc2
      obtain ⟨env1, h3, h4⟩ := Option.bind_eq_some_iff.mp (show (t xs[i] (wipeE env vs)).bind _ = some ds from hc2)
      obtain ⟨k, h5, h6⟩ := Option.bind_eq_some_iff.mp h4
      refine .inr ⟨go, fun H3 => ∃ m', m' < xs.length - i ∧ (m' = xs.length - (i + 1) ∧ i + 1 ≤ xs.length ∧ ∃ G2 ks acc, Ext H1 G1 H3 G2 ∧ H3 Dd = some (.dK ks) ∧ G2 Dd = none ∧ RpK K G2 acc ks ∧ acc.length ≤ i + 1 ∧ compD t ct ky y (wipeE env vs) (xs.drop (i + 1)) acc = some ds), fun H3 h => h, fun x H3 hyld => ?_⟩
      obtain ⟨G3, x3, r3⟩ := hy x H3 hyld
      have S3 : Ste K H0 G0 H3 G3 (L2.wipe σ vs) (wipeE env vs) := ((S1.ext x2).ext x3).wipe vs
      refine ⟨H0, G0, G3, _, _, env1, S3, r3, h3, fun σ4 S4 o4 => ⟨out_wipe o4 hsub, H0, G0, G3, env1, k, S4, h5, fun H5 G5 x5 => ?_⟩⟩
      have x35 := x3.trans x5
      cases k with
      | true =>
        obtain ⟨kk, h7, h8⟩ := Option.bind_eq_some_iff.mp (show (ky env1).bind _ = some ds from h6)
        obtain ⟨d, h9, h10⟩ := Option.bind_eq_some_iff.mp h8
        split at h10
        · rename_i hko
          refine ⟨H0, G0, G5, env1, kk, S4.ext x5, h7, fun yv H6 G6 x6 r6 => ⟨H0, G0, G6, env1, d, (S4.ext x5).ext x6, h9, fun z H7 G7 x7 r7 => ?_⟩⟩
          have x27 := x35.trans (x6.trans x7)
          have gD := ext_none x27 hD2 gD2
          rcases key_split hko with ⟨_, j, rfl⟩ | ⟨z, _⟩
          · have ey := rp_kD r6
            have rk := RpK.mono x27.gg _ _ r2
            have hl : ks.length ≤ i := by
              rw [← r2.len]
              exact hl2
            exact ⟨ks, j, ey, x27.hh _ _ hD2, by omega, xs.length - (i + 1), by omega, rfl, hlt, G7, _, putD acc (kD j) d, (x2.trans x27).growD hD gD, upd_same, gD, rk.put r7, Nat.le_trans (putD_len _ _ _) (Nat.succ_le_succ hl2), h10⟩
          · cases z
        · cases h10
      | false => exact ⟨xs.length - (i + 1), by omega, rfl, hlt, G5, ks, acc, x2.trans x35, x35.hh _ _ hD2, ext_none x35 hD2 gD2, RpK.mono x35.gg _ _ r2, by omega, h6⟩
    · have e : i = xs.length := by omega
      subst e
      rw [List.drop_length] at hc2
      cases hc2
      exact .inl ⟨hj.1 (Nat.le_refl _), q _ H2 G2 (x1.trans x2) ⟨Dd, rfl, x1.hh.free hD, gD2, .inl ⟨rfl, ks, hD2, r2⟩⟩⟩
  · cases e1
variable {kx vx iter : Expr} {ifs : List Expr} {scope : Scope} {own : List (Str × Nat)} {it : Fl} {t : Ft} {Sg : List Nat} {ct : Fb} {ky y : Fe}
theorem nx_dc (hc : X.calm = true) (hN : X.N.Nodup) (hi : ICX X tg iter it) (ok : BlkOk X.N X.env.scope scope own) (hsub : ∀ i ∈ Sg, i ∈ own.map (·.2))
    (hg : ∀ (s : Shared) (H : Hp) (C : Addr) (cl : List (Str × Addr)) (fp : List Addr), GX (X.blk s H scope (compEnvC scope cl C X.env) fp) tg t Sg) (ht : ∀ (s : Shared) (H : Hp) (C : Addr) (cl : List (Str × Addr)) (fp : List Addr), PTs (X.blk s H scope (compEnvC scope cl C X.env) fp) ifs (tT X.K ct))
    (hk : ∀ (s : Shared) (H : Hp) (C : Addr) (cl : List (Str × Addr)) (fp : List Addr), EX (X.blk s H scope (compEnvC scope cl C X.env) fp) kx ky)
    (he : ∀ (s : Shared) (H : Hp) (C : Addr) (cl : List (Str × Addr)) (fp : List Addr), EX (X.blk s H scope (compEnvC scope cl C X.env) fp) vx y) (hs : ∀ x, foldedSetIterable iter X.env x = pure x := by intro _; rfl) :
    NX X (.DictComp kx vx [⟨tg, iter, ifs, 0⟩] scope pos) (fDc (own.map (·.2)) it t ct ky y) := pe_imp (pe_dc hc hN hi ok hg ht hk he hs) fun _ _ _ q => tDc_of hsub q
end
end PD

set_option Elab.async false
set_option linter.all false
set_option maxRecDepth 100000
namespace PD
open PySem PySem.Spec PyProof.Rows L2
open PySem.W (alike alikeAll dataLt minD maxD AlikeAll)
/-! ### min, max of data -/
mutual
theorem py_inj : ∀ (n m : Nat) (d e : D), okN n d = true → okN m e = true → py d = py e → d = e
  | n, m, .non, e, _, h, q => by cases e <;> first | rfl | (simp [py] at q; done) | (cases m <;> simp [okN] at h; done)
  | n, m, .bl b, e, _, h, q => by cases e <;> first | (simp [py] at q; done) | (simp only [py, PyData.bool.injEq] at q; rw [q])
  | n, m, .int b, e, _, h, q => by cases e <;> first | (simp [py] at q; done) | (simp only [py, PyData.int.injEq] at q; rw [q])
  | n, m, .str b, e, _, h, q => by cases e <;> first | (simp [py] at q; done) | (simp only [py, PyData.str.injEq] at q; rw [q])
  | 0, m, .tup xs, e, h, _, _ => by simp [okN] at h
  | n + 1, m, .tup xs, e, h, h', q => by
    cases e with
    | tup ys =>
      cases m with
      | zero => simp [okN] at h'
      | succ m =>
        simp only [py, PyData.tuple.injEq] at q
        rw [pyL_inj n m xs ys (by simpa [okN] using h) (by simpa [okN] using h') q]
    | _ => simp [py] at q
  | 0, m, .lst xs, e, h, _, _ => by simp [okN] at h
  | n + 1, m, .lst xs, e, h, h', q => by
    cases e with
    | lst ys =>
      cases m with
      | zero => simp [okN] at h'
      | succ m =>
        simp only [py, PyData.list.injEq] at q
        rw [pyL_inj n m xs ys (by simpa [okN] using h) (by simpa [okN] using h') q]
    | scr ys => cases m <;> simp [okN] at h'
    | st ys => cases m <;> simp [okN] at h'
    | _ => simp [py] at q
  | n, m, .dic _ _, e, h, _, _ => by cases n <;> simp [okN] at h
  | n, m, .scr _, e, h, _, _ => by cases n <;> simp [okN] at h
  | n, m, .st _, e, h, _, _ => by cases n <;> simp [okN] at h
theorem pyL_inj : ∀ (n m : Nat) (xs ys : List D), (∀ x ∈ xs, okN n x = true) → (∀ y ∈ ys, okN m y = true) → pyL xs = pyL ys → xs = ys
  | _, _, [], [], _, _, _ => rfl
  | _, _, [], _ :: _, _, _, q => by simp [pyL] at q
  | _, _, _ :: _, [], _, _, q => by simp [pyL] at q
  | n, m, x :: xs, y :: ys, h, h', q => by
    simp only [pyL, List.cons.injEq] at q
    rw [py_inj n m x y (h x List.mem_cons_self) (h' y List.mem_cons_self) q.1, pyL_inj n m xs ys (fun z hz => h z (List.mem_cons_of_mem _ hz)) (fun z hz => h' z (List.mem_cons_of_mem _ hz)) q.2]
end
def ltD (x y : D) : Bool := dataLt (py x) (py y)
def minDD (x : D) (xs : List D) : D := xs.foldl (fun a y => if ltD y a then y else a) x
def maxDD (x : D) (xs : List D) : D := xs.foldl (fun a y => if ltD a y then y else a) x
def minOk (xs : List D) : Bool := xs.all (okN 62) && (xs.all fun x => !isNon x) && xs.all fun a => xs.all fun b => alikeD a b
theorem pyL_map : ∀ xs : List D, pyL xs = xs.map py
  | [] => rfl
  | x :: xs => by simp only [pyL, List.map_cons, pyL_map xs]
theorem minD_py : ∀ (xs : List D) (x : D), minD (py x) (pyL xs) = py (minDD x xs)
  | [], x => rfl
  | y :: xs, x => by
    have := minD_py xs (if ltD y x then y else x)
    unfold minD minDD at this ⊢
    rw [pyL_map] at this ⊢
    simp only [List.map_cons, List.foldl_cons]
    rw [← this]
    congr 1
    unfold ltD
    split <;> rfl

theorem maxD_py : ∀ (xs : List D) (x : D), maxD (py x) (pyL xs) = py (maxDD x xs)
  | [], x => rfl
  | y :: xs, x => by
    have := maxD_py xs (if ltD x y then y else x)
    unfold maxD maxDD at this ⊢
    rw [pyL_map] at this ⊢
    simp only [List.map_cons, List.foldl_cons]
    rw [← this]
    congr 1
    unfold ltD
    split <;> rfl
theorem minDD_mem : ∀ (xs : List D) (x : D), minDD x xs ∈ x :: xs
  | [], x => List.mem_cons_self
  | y :: xs, x => by
    have h : minDD x (y :: xs) = minDD (if ltD y x then y else x) xs := rfl
    rw [h]
    have := minDD_mem xs (if ltD y x then y else x)
    rcases List.mem_cons.mp this with q | q
    · rw [q]
      split
      · exact List.mem_cons_of_mem _ List.mem_cons_self
      · exact List.mem_cons_self
    · exact List.mem_cons_of_mem _ (List.mem_cons_of_mem _ q)
theorem maxDD_mem : ∀ (xs : List D) (x : D), maxDD x xs ∈ x :: xs
  | [], x => List.mem_cons_self
  | y :: xs, x => by
    have h : maxDD x (y :: xs) = maxDD (if ltD x y then y else x) xs := rfl
    rw [h]
    have := maxDD_mem xs (if ltD x y then y else x)
    rcases List.mem_cons.mp this with q | q
    · rw [q]
      split
      · exact List.mem_cons_of_mem _ List.mem_cons_self
      · exact List.mem_cons_self
    · exact List.mem_cons_of_mem _ (List.mem_cons_of_mem _ q)
theorem minOk_s {xs : List D} (h : minOk xs = true) : (∀ x ∈ xs, okN 62 x = true) ∧ AlikeAll (pyL xs) := by
  unfold minOk at h
  rw [Bool.and_eq_true, Bool.and_eq_true] at h
  obtain ⟨⟨h1, h2⟩, h3⟩ := h
  rw [pyL_map]
  refine ⟨List.all_eq_true.mp h1, fun p hp q hq => ?_, fun p hp => ?_⟩
  · obtain ⟨x, hx, rfl⟩ := List.mem_map.mp hp
    obtain ⟨y, hy, rfl⟩ := List.mem_map.mp hq
    exact List.all_eq_true.mp (List.all_eq_true.mp h3 x hx) y hy
  · obtain ⟨x, hx, rfl⟩ := List.mem_map.mp hp
    have a := List.all_eq_true.mp h1 x hx
    have b := List.all_eq_true.mp h2 x hx
    cases x <;> first | (simp [isNon] at b; done) | (simp [okN] at a; done) | simp [py]
theorem depthAll_le : ∀ {xs : List D}, (∀ x ∈ xs, okN 62 x = true) → PyData.depthAll (pyL xs) ≤ 62
  | [], _ => by simp [pyL, PyData.depthAll]
  | x :: xs, h => by
    have h1 := (okN_lay 62 x (h x List.mem_cons_self)).2
    have h2 := depthAll_le fun y hy => h y (List.mem_cons_of_mem _ hy)
    simp only [pyL, PyData.depthAll]
    omega
def rBestD (K : PySem.W.Frag) (best : D → List D → D) : List V → Hp → VK → Prop := fun vs H Q => ∃ a xs d ds G, vs = [V.ref a] ∧ (SqL K H a xs ∨ SqT K H a xs) ∧ Wf H G ∧ RpL K G (d :: ds) xs ∧ minOk (d :: ds) = true ∧ ∀ v, Rp K G (best d ds) v → Q v H
theorem best_end {X : Cx} {pins : List (Addr × Obj)} {σ : L2.St} {H G : Hp} {s : Shared} {xs : List V} {its : List Value} {d : D} {ds : List D} {m : D} {Q : VK} (I : Inv X pins σ H s) (w : Wf H G) (r : RpL X.K G (d :: ds) xs) (rv : Vals xs its) (hk : minOk (d :: ds) = true) (hm : m ∈ d :: ds) (q : ∀ v, Rp X.K G m v → Q v H)
    {i : Nat} {v : Value} {h' : Heap} {tk : Nat} {bs : List Addr} (hv : its.toArray[i]? = some v) (rm : Reads h' v (py m) bs) (k : ∀ b o, s.heap.get? b = some o → h'.get? b = some o) : EP X pins σ Q v { s with heap := h', toks := tk } := by
  obtain ⟨o1, al⟩ := minOk_s hk
  have hv' : its[i]? = some v := by simpa using hv
  have hi : i < its.length := (List.getElem?_eq_some_iff.mp hv').1
  have hl := rv.length
  have hx : xs[i]? = some (xs[i]'(by omega)) := List.getElem?_eq_getElem (by omega)
  obtain ⟨u, hu, ru⟩ := rv.get hx
  rw [hv'] at hu
  cases hu
  have hd : (d :: ds)[i]? = some ((d :: ds)[i]'(by rw [r.len]; omega)) := List.getElem?_eq_getElem (by rw [r.len]; omega)
  have re := r.get hd hx
  have hme : (d :: ds)[i]'(by rw [r.len]; omega) ∈ d :: ds := List.getElem_mem _
  generalize (d :: ds)[i]'(by rw [r.len]; omega) = e at hd re hme
  obtain ⟨as, ra⟩ := Dp.reads I _ _ _ (Rp.dp _ _ 62 (o1 _ hme) (Rp.mono w.sub _ _ re)) ru
  have ra' := PyProof.Rows.Reads.keeps k ra
  have hal : alike (py e) (py m) = true := al.1 _ (by rw [pyL_map]; exact List.mem_map.mpr ⟨_, hme, rfl⟩) _ (by rw [pyL_map]; exact List.mem_map.mpr ⟨_, hm, rfl⟩)
  have ee := py_inj 62 62 _ _ (o1 _ hme) (o1 _ hm) (PySem.W.alike_unique _ _ _ _ _ hal ra' rm)
  rw [ee] at re
  exact ⟨_, H, I.kept (t' := tk) k, ru, q _ re⟩
theorem call_minD {X : Cx} (hc : X.calm = true) (hu : X.A.units + 65 < cLine) : CallR X (.builtin "min") (rBestD X.K minDD) := by
  intro pins s σ H vs us Q I r h
  obtain ⟨a, xs, d, ds, G, rfl, hs, w, hr, hk, q⟩ := h
  obtain ⟨o1, al⟩ := minOk_s hk
  have hdp := depthAll_le o1
  rw [Vals.ref1 r]
  rcases hs with hs | hs
  · obtain ⟨its, rv, hl, hz⟩ := I.list hs
    obtain ⟨as, ra⟩ := Dp.readsAll I _ _ _ (RpL.dp _ _ 62 o1 (RpL.mono w.sub _ _ hr)) rv
    refine PySem.W.min_list_data (x := py d) (xs := pyL ds) (I.ok.hd hc) hl.isList (show ReadsAll s.heap its.toArray.toList (pyL (d :: ds)) as from ra) al (by
      show X.A.units + 1 + PyData.depthAll (pyL (d :: ds)) < cLine
      omega) fun i v h' tk bs hv rm k => ?_
    rw [minD_py] at rm
    exact best_end I w hr rv hk (minDD_mem ds d) q hv rm k
  · obtain ⟨its, rv, hl, hz⟩ := I.tuple hs
    obtain ⟨as, ra⟩ := Dp.readsAll I _ _ _ (RpL.dp _ _ 62 o1 (RpL.mono w.sub _ _ hr)) rv
    refine PySem.W.min_tuple_data (x := py d) (xs := pyL ds) (I.ok.hd hc) (show s.heap.IsTuple a its.toArray from hl) (show ReadsAll s.heap its.toArray.toList (pyL (d :: ds)) as from ra) al (by
      show X.A.units + 1 + PyData.depthAll (pyL (d :: ds)) < cLine
      omega) fun i v h' tk bs hv rm k => ?_
    rw [minD_py] at rm
    exact best_end I w hr rv hk (minDD_mem ds d) q hv rm k
theorem call_maxD {X : Cx} (hc : X.calm = true) (hu : X.A.units + 65 < cLine) : CallR X (.builtin "max") (rBestD X.K maxDD) := by
  intro pins s σ H vs us Q I r h
  obtain ⟨a, xs, d, ds, G, rfl, hs, w, hr, hk, q⟩ := h
  obtain ⟨o1, al⟩ := minOk_s hk
  have hdp := depthAll_le o1
  rw [Vals.ref1 r]
  rcases hs with hs | hs
  · obtain ⟨its, rv, hl, hz⟩ := I.list hs
    obtain ⟨as, ra⟩ := Dp.readsAll I _ _ _ (RpL.dp _ _ 62 o1 (RpL.mono w.sub _ _ hr)) rv
    refine PySem.W.max_list_data (x := py d) (xs := pyL ds) (I.ok.hd hc) hl.isList (show ReadsAll s.heap its.toArray.toList (pyL (d :: ds)) as from ra) al (by
      show X.A.units + 1 + PyData.depthAll (pyL (d :: ds)) < cLine
      omega) fun i v h' tk bs hv rm k => ?_
    rw [maxD_py] at rm
    exact best_end I w hr rv hk (maxDD_mem ds d) q hv rm k
  · obtain ⟨its, rv, hl, hz⟩ := I.tuple hs
    obtain ⟨as, ra⟩ := Dp.readsAll I _ _ _ (RpL.dp _ _ 62 o1 (RpL.mono w.sub _ _ hr)) rv
    refine PySem.W.max_tuple_data (x := py d) (xs := pyL ds) (I.ok.hd hc) (show s.heap.IsTuple a its.toArray from hl) (show ReadsAll s.heap its.toArray.toList (pyL (d :: ds)) as from ra) al (by
      show X.A.units + 1 + PyData.depthAll (pyL (d :: ds)) < cLine
      omega) fun i v h' tk bs hv rm k => ?_
    rw [maxD_py] at rm
    exact best_end I w hr rv hk (maxDD_mem ds d) q hv rm k
/-- min(xs), max(xs): whole numbers, or other data that are alike -/
def gBest (bi : Int → List Int → Int) (bd : D → List D → D) (xs : List D) : Option D := match intsOf xs with
  | some [] => none
  | some (n :: r) => some (.int (bi n r))
  | none => match xs with
    | [] => none
    | d :: ds => if minOk (d :: ds) then some (bd d ds) else none
def gMinA : List D → Option D
  | [.lst xs] => gBest minL minDD xs
  | [.tup xs] => gBest minL minDD xs
  | _ => none
def gMaxA : List D → Option D
  | [.lst xs] => gBest maxL maxDD xs
  | [.tup xs] => gBest maxL maxDD xs
  | _ => none
theorem ints_alike (n : Int) (r : List Int) : minOk ((n :: r).map D.int) = true := by
  unfold minOk
  simp only [Bool.and_eq_true, List.all_eq_true]
  refine ⟨⟨fun x hx => ?_, fun x hx => ?_⟩, fun x hx y hy => ?_⟩
  · obtain ⟨i, _, rfl⟩ := List.mem_map.mp hx
    rfl
  · obtain ⟨i, _, rfl⟩ := List.mem_map.mp hx
    rfl
  · obtain ⟨i, _, rfl⟩ := List.mem_map.mp hx
    obtain ⟨j, _, rfl⟩ := List.mem_map.mp hy
    simp [alikeD, py, alike]
theorem minDD_ints : ∀ (r : List Int) (n : Int), minDD (.int n) (r.map D.int) = .int (minL n r)
  | [], n => rfl
  | x :: r, n => by
    have h : minDD (.int n) ((x :: r).map D.int) = minDD (if ltD (.int x) (.int n) then .int x else .int n) (r.map D.int) := rfl
    have e : (if ltD (.int x) (.int n) = true then D.int x else D.int n) = .int (min n x) := by
      unfold ltD
      simp only [py, PySem.W.dataLt_int, decide_eq_true_eq]
      split
      · congr 1
        omega
      · congr 1
        omega
    rw [h, e, minDD_ints r]
    rfl
theorem maxDD_ints : ∀ (r : List Int) (n : Int), maxDD (.int n) (r.map D.int) = .int (maxL n r)
  | [], n => rfl
  | x :: r, n => by
    have h : maxDD (.int n) ((x :: r).map D.int) = maxDD (if ltD (.int n) (.int x) then .int x else .int n) (r.map D.int) := rfl
    have e : (if ltD (.int n) (.int x) = true then D.int x else D.int n) = .int (max n x) := by
      unfold ltD
      simp only [py, PySem.W.dataLt_int, decide_eq_true_eq]
      split
      · congr 1
        omega
      · congr 1
        omega
    rw [h, e, maxDD_ints r]
    rfl
theorem gBest_of {bi : Int → List Int → Int} {bd : D → List D → D} (hb : ∀ (r : List Int) (n : Int), bd (.int n) (r.map D.int) = .int (bi n r)) {xs : List D} {m : D} (e : gBest bi bd xs = some m) : ∃ d ds, xs = d :: ds ∧ minOk (d :: ds) = true ∧ m = bd d ds := by
  unfold gBest at e
  split at e
  · cases e
  · rename_i n r h
    cases e
    have := intsOf_some h
    subst this
    exact ⟨.int n, r.map D.int, rfl, ints_alike n r, (hb r n).symm⟩
  · split at e
    · cases e
    · rename_i d ds _
      split at e
      · rename_i hk
        cases e
        exact ⟨d, ds, rfl, hk, rfl⟩
      · cases e
theorem cminA {X : Cx} (hc : X.calm = true) (hu : X.A.units + 65 < cLine) : CallR X (.builtin "min") (rC X.K gMinA) := (call_minD hc hu).imp fun vs H Q q => by
  obtain ⟨G, ds, m, w, r, e, q⟩ := q
  unfold gMinA at e
  split at e
  · obtain ⟨d, rest, rfl, hk, rfl⟩ := gBest_of minDD_ints e
    obtain ⟨a, xs, rfl, h2, h3⟩ := rpbl_lst r
    exact ⟨a, xs, d, rest, G, rfl, .inl (SqL.of h2), w, h3, hk, fun v rv => q v H G (Ext.refl w) rv⟩
  · obtain ⟨d, rest, rfl, hk, rfl⟩ := gBest_of minDD_ints e
    obtain ⟨a, xs, rfl, h2, h3⟩ := rpbl_tup r
    exact ⟨a, xs, d, rest, G, rfl, .inr (sqt_up w h2), w, h3, hk, fun v rv => q v H G (Ext.refl w) rv⟩
  · cases e
theorem cmaxA {X : Cx} (hc : X.calm = true) (hu : X.A.units + 65 < cLine) : CallR X (.builtin "max") (rC X.K gMaxA) := (call_maxD hc hu).imp fun vs H Q q => by
  obtain ⟨G, ds, m, w, r, e, q⟩ := q
  unfold gMaxA at e
  split at e
  · obtain ⟨d, rest, rfl, hk, rfl⟩ := gBest_of maxDD_ints e
    obtain ⟨a, xs, rfl, h2, h3⟩ := rpbl_lst r
    exact ⟨a, xs, d, rest, G, rfl, .inl (SqL.of h2), w, h3, hk, fun v rv => q v H G (Ext.refl w) rv⟩
  · obtain ⟨d, rest, rfl, hk, rfl⟩ := gBest_of maxDD_ints e
    obtain ⟨a, xs, rfl, h2, h3⟩ := rpbl_tup r
    exact ⟨a, xs, d, rest, G, rfl, .inr (sqt_up w h2), w, h3, hk, fun v rv => q v H G (Ext.refl w) rv⟩
  · cases e
end PD

set_option Elab.async false
set_option linter.all false
set_option maxRecDepth 100000
namespace PD
open PySem PySem.Spec PyProof.Rows L2
section
variable {X : Cx} {tg a b c e ke : Expr} {f fi fv : Fe} {fl : Fl} {p pos tpos apos cpos : Pos} {x : Str}
/-! ### range(i, j, -1) -/
def rngC (lo c : Int) (n : Nat) : List D := (List.range n).map fun k => .int (lo + (k : Nat) * c)
theorem itc_okL {K : PySem.W.Frag} {lo c : Int} {n : Nat} {H1 G1 : Hp} : ItL K (Itc lo c n) (rngC lo c n) H1 G1 := fun i H G sg w => by
  unfold rngC
  refine ⟨fun hi => ?_, fun d hd => ?_⟩
  · rw [List.length_map, List.length_range] at hi
    exact hi
  · rw [List.getElem?_map] at hd
    obtain ⟨k, hk, rfl⟩ := Option.map_eq_some_iff.mp hd
    obtain ⟨hi, hk⟩ := List.getElem?_eq_some_iff.mp hk
    rw [List.getElem_range] at hk
    subst hk
    rw [List.length_range] at hi
    refine ⟨hi, fun y H' hy => ?_⟩
    obtain ⟨rfl, rfl⟩ := hy
    exact ⟨G, Ext.refl w, rp_int _⟩
def iRg3 (fl : Fl) : Fl := fun env => match fl env with
  | some [.int i, .int j, .int c] => if rngOk i && rngOk j && decide (c = -1) then some (rngC i (-1) (i - j).toNat) else none
  | _ => none
theorem ilx_rg3 (hg : Gl X "range") (hm : X.mg "range" = none) (ha : ABX X [a, b, c] fl) (hs : starEach [a, b, c] X.env = (false, eval a X.env) :: starEach [b, c] X.env := by rfl) (hpl : (backTo pos (starEach [b, c] X.env)).any (·.1) = false := by rfl) :
    ILX X tg (.Call (.Name "range" p) [a, b, c] [] pos) (iRg3 fl) := pi_imp (pi_range3 hg hm ha hs hpl) fun σ H R q => by
  obtain ⟨H0, G0, G, env, ds, S, e1, q⟩ := q
  unfold iRg3 at e1
  split at e1
  · rename_i i j c hj
    split at e1
    · rename_i hz
      simp only [Bool.and_eq_true, decide_eq_true_eq] at hz
      obtain ⟨⟨h1, h2⟩, rfl⟩ := hz
      cases e1
      have b1 := rngOk_b h1
      have b2 := rngOk_b h2
      refine ⟨H0, G0, G, env, _, S, hj, fun vs H1 G1 x1 r1 => ?_⟩
      obtain ⟨v, r, rfl, ra, r1⟩ := r1
      obtain ⟨v2, r, rfl, rb, r1⟩ := r1
      obtain ⟨v3, r, rfl, rc, r1⟩ := r1
      have r1 : r = [] := r1
      subst r1
      exact ⟨i, j, -1, (i - j).toNat, by rw [rpb_int ra, rpb_int rb, rpb_int rc], RgC.neg b1.1 b1.2 b2.1 b2.2, q _ H1 G1 x1 itc_okL⟩
    · cases e1
  · cases e1
/-! ### xs[::-1] of a list -/
def gRev : D → Option D
  | .lst xs => some (.lst xs.reverse)
  | _ => none
def eRev (f : Fe) : Fe := fun env => (f env).bind gRev
theorem ex_revL {k : Nat} {p1 p2 p3 : Pos} (h : BX X e f) : EX X (.Subscript e (.Slice none none (some (.UnaryOp .USub (.Constant (.int 1) k p1) p2)) p3) pos) (eRev f) := pe_imp (pe_revL h) fun σ H Q q => by
  obtain ⟨H0, G0, G, env, d, S, e1, q⟩ := q
  obtain ⟨y, h1, e1⟩ := Option.bind_eq_some_iff.mp e1
  unfold gRev at e1
  split at e1
  · cases e1
    refine ⟨H0, G0, G, env, _, S, h1, fun v H1 G1 x1 r1 => ?_⟩
    obtain ⟨a, xs, rfl, h2, h3⟩ := r1
    exact ⟨a, xs, rfl, SqL.of h2, new_lst x1.wf h3.reverse fun v H2 G2 x2 r2 => q v H2 G2 (x1.trans x2) r2⟩
  · cases e1
/-! ### x[i] op= e -/
def rGetL (K : PySem.W.Frag) : V → V → Hp → VK → Prop := fun o i H Q => ∃ (a : Addr) (xs : List V) (k : Int) (z : V), o = .ref a ∧ i = .int k ∧ SqL K H a xs ∧ atI xs k = some z ∧ Q z H
theorem get_list : PGet X (rGetL X.K) := by
  intro pins s σ H o i ov iv Q I ro ri h
  obtain ⟨a, xs, k, z, rfl, rfl, hq, he, q⟩ := h
  cases ro
  obtain ⟨t, rfl⟩ := ri
  obtain ⟨its, r, pl, hz⟩ := I.list hq
  obtain ⟨j, h1, h2, h3, h4, h5⟩ := atI_get he
  obtain ⟨w, ew, rw'⟩ := r.get h2
  have hl := r.length
  have hn := line63
  have fin : EP X pins σ Q w s := ⟨z, H, I, rw', q⟩
  by_cases h0 : 0 ≤ k
  · have hj : k.toNat = j := by
      rw [seqIndex_of h0 h5] at h1
      exact Option.some.inj h1
    exact wpAny_getItem_list pl.isList h0 (by omega) (by rw [hj]; simpa using ew) fin
  · have hj : (k + (its.toArray.size : Int)).toNat = j := by
      rw [seqIndex_neg (by omega) h4] at h1
      rw [List.size_toArray, ← hl]
      exact Option.some.inj h1
    exact wpAny_getItem_list_neg pl.isList (by omega) (by rw [List.size_toArray] <;> omega) (by omega) (by rw [hj]; simpa using ew) fin
def sAugI (i : Nat) (g : D → D → Option D) (fi f : Fe) : Cmd := fun env => (fi env).bind fun k => match k, env[i]? with
  | .int z, some (.own ds) => (ixN ds.length z).bind fun j => (ds[j]?).bind fun old => (f env).bind fun y => (g old y).map fun d => Out.nx (env.set i (.own (ds.set j d)))
  | _, _ => none
theorem sx_augI {i : Nat} {op : Operator} {g : D → D → Option D} (hN : X.N[i]? = some x) (hv : Vis X.env.scope x) (hi : BX X ke fi) (he : EX X e f) (ho : PipD X op g) (hd : (x == ("__debug__" : Str)) = false := by decide) (hcd : (x == ("__classdict__" : Str)) = false := by decide)
    (ha : ∀ ov iv new, augStore ke ov iv new = (do holding [new, ov, iv] (setItem ov iv new); release [new, ov, iv] []; pure .next) := by intros; rfl) : SX X (.AugAssign (.Subscript (.Name x p) ke tpos) op e pos) (sAugI i g fi f) :=
  ps_imp (ps_augS (pe_var hN hv hd hcd) hi get_list he (show PIp X op (rD X.K g) from fun pins s σ H x y v u Q I rx ry q => ho pins s σ H x y v u Q I rx ry q) set_list ha) fun E σ H q => by
    obtain ⟨H0, G0, G, env, oo, S, e1, q⟩ := q
    obtain ⟨k, h3, e1⟩ := Option.bind_eq_some_iff.mp e1
    split at e1
    · rename_i z ds hi
      obtain ⟨j, h4, e1⟩ := Option.bind_eq_some_iff.mp e1
      obtain ⟨old, h5, e1⟩ := Option.bind_eq_some_iff.mp e1
      obtain ⟨dy, h6, e1⟩ := Option.bind_eq_some_iff.mp e1
      obtain ⟨d, h7, rfl⟩ := Option.map_eq_some_iff.mp e1
      obtain ⟨w, hw, a, xs, rfl, _⟩ := S.at hi
      refine ⟨.ref a, hw, H0, G0, G, env, _, S, h3, fun y H1 G1 x1 r1 => ?_⟩
      have S1 := S.ext x1
      obtain ⟨w2, hw2, a2, xs2, e2, hh, g2, h02, hr⟩ := S1.at hi
      rw [hw] at hw2
      cases hw2
      cases e2
      obtain ⟨vo, hvo, ro⟩ := hr.at h5
      have hat : atI xs2 z = some vo := by
        unfold atI
        rw [← hr.len, h4]
        exact hvo
      refine ⟨a, xs2, z, vo, rfl, rpb_int r1, SqL.of hh, hat, H0, G0, G1, env, dy, S1, h6, fun y2 H2 G2 x2 r2 => ⟨G2, old, dy, d, x2.wf, RpB.of x2.wf (Rp.mono x2.gg _ _ ro), RpB.of x2.wf r2, h7, fun v H3 G3 x3 r3 => ?_⟩⟩
      have x23 := x2.trans x3
      have S3 := S1.ext x23
      have g3 := ext_none x23 hh g2
      have l3 := RpL.mono x23.gg _ _ hr
      refine ⟨a, xs2, z, j, rfl, rpb_int r1, x23.hh _ _ hh, by rw [← hr.len]; exact h4, ?_⟩
      exact q σ _ G3 (S3.change hi rfl hw (x23.hh _ _ hh) g3 h02 rfl ⟨a, _, rfl, upd_same, g3, h02, RpL.set r3 _ l3⟩)
    · cases e1
/-! ### xs.index(y), xs.count(y) of a list; gcd, bit_length -/
def eM1 (g : D → D → Option D) (fo fa : Fe) : Fe := fun env => (fo env).bind fun x => (fa env).bind fun y => g x y
def gIndex : D → D → Option D
  | .lst xs, y => if xs.all (okN 62) && okN 62 y then (match xs.findIdx? (fun z => eqD z y) with
    | some j => some (.int (j : Nat))
    | none => none) else none
  | _, _ => none
def gCount : D → D → Option D
  | .lst xs, .int k => (intsOf xs).map fun ns => .int (ns.count k : Nat)
  | _, _ => none
theorem ex_count {o : Expr} {fo fa : Fe} (ho : BX X o fo) (ha : BX X a fa) (hbase : attributeBase o "count" X.env (eval o X.env) = eval o X.env := by rfl)
    (hfew : ((backTo cpos (starEach [a] X.env)).all (fun x => !x.1) && (backToKw cpos (keywordEach [] X.env)).all (fun x => x.1.isSome) && decide (([a] : List Expr).length + ([] : List Keyword).length + (if ([] : List Keyword).isEmpty then 0 else 1) < 30)) = true := by rfl)
    (hline : (apos.endLine == cpos.line) = true := by rfl) (hs : starEach [a] X.env = (false, eval a X.env) :: starEach [] X.env := by rfl) (hpl : (backTo cpos (starEach [] X.env)).any (·.1) = false := by rfl) : EX X (.Call (.Attribute o "count" apos) [a] [] cpos) (eM1 gCount fo fa) :=
  pe_imp (pe_bm PySem.F.plainAttrs_list PySem.F.slot_list_count PySem.F.type_list_count mt_lcount ho (pa_cons ha pa_nil hs) hbase hfew hline hs hpl) fun σ H Q q => by
    obtain ⟨H0, G0, G, env, d, S, e1, q⟩ := q
    obtain ⟨x, h1, e1⟩ := Option.bind_eq_some_iff.mp e1
    obtain ⟨y, h2, e1⟩ := Option.bind_eq_some_iff.mp e1
    unfold gCount at e1
    split at e1
    · rename_i xs k _
      obtain ⟨ns, h3, rfl⟩ := Option.map_eq_some_iff.mp e1
      refine ⟨H0, G0, G, env, _, S, h1, fun v H1 G1 x1 r1 => ?_⟩
      obtain ⟨b, vs, rfl, h4, h5⟩ := r1
      refine ⟨.inl ⟨rfl, vs, SqL.of h4⟩, H0, G0, G1, env, _, S.ext x1, h2, fun u H2 G2 x2 r2 => ?_⟩
      rw [intsOf_some h3] at h5
      rw [h5.ints] at h4
      exact ⟨b, ns, k, rfl, by rw [rpb_int r2], SqL.of (x2.hh _ _ h4), q _ H2 G2 (x1.trans x2) (rp_int _)⟩
    · cases e1
theorem ex_index {o : Expr} {fo fa : Fe} (hu : X.A.units + 65 < cLine) (ho : BX X o fo) (ha : BX X a fa) (hbase : attributeBase o "index" X.env (eval o X.env) = eval o X.env := by rfl)
    (hfew : ((backTo cpos (starEach [a] X.env)).all (fun x => !x.1) && (backToKw cpos (keywordEach [] X.env)).all (fun x => x.1.isSome) && decide (([a] : List Expr).length + ([] : List Keyword).length + (if ([] : List Keyword).isEmpty then 0 else 1) < 30)) = true := by rfl)
    (hline : (apos.endLine == cpos.line) = true := by rfl) (hs : starEach [a] X.env = (false, eval a X.env) :: starEach [] X.env := by rfl) (hpl : (backTo cpos (starEach [] X.env)).any (·.1) = false := by rfl) : EX X (.Call (.Attribute o "index" apos) [a] [] cpos) (eM1 gIndex fo fa) :=
  pe_imp (pe_bm PySem.F.plainAttrs_list PySem.F.slot_list_index PySem.F.type_list_index (mt_indexD hu) ho (pa_cons ha pa_nil hs) hbase hfew hline hs hpl) fun σ H Q q => by
    obtain ⟨H0, G0, G, env, d, S, e1, q⟩ := q
    obtain ⟨x, h1, e1⟩ := Option.bind_eq_some_iff.mp e1
    obtain ⟨y, h2, e1⟩ := Option.bind_eq_some_iff.mp e1
    cases x with
    | lst xs =>
      have e1 : (if xs.all (okN 62) && okN 62 y then (match xs.findIdx? (fun z => eqD z y) with
        | some j => some (.int (j : Nat))
        | none => none) else none) = some d := e1
      split at e1
      · rename_i hz
        rw [Bool.and_eq_true] at hz
        have hall : ∀ z ∈ xs, okN 62 z = true := List.all_eq_true.mp hz.1
        split at e1
        · rename_i j hj
          cases e1
          refine ⟨H0, G0, G, env, _, S, h1, fun v H1 G1 x1 r1 => ?_⟩
          obtain ⟨b, vs, rfl, h4, h5⟩ := r1
          refine ⟨.inl ⟨rfl, vs, SqL.of h4⟩, H0, G0, G1, env, _, S.ext x1, h2, fun u H2 G2 x2 r2 => ?_⟩
          obtain ⟨hjl, hjt, hjn⟩ := List.findIdx?_eq_some_iff_getElem.mp hj
          have hok : okN 63 (.lst xs) = true := by simpa [okN] using hall
          have sh : ∀ (n : Nat) (d : D), n ≤ 64 → okN n d = true → SeqAt.shaped (py d) = true := fun n d hn hd => by
            have := okN_lay n d hd
            unfold SeqAt.shaped
            rw [Bool.and_eq_true]
            exact ⟨this.1, decide_eq_true (by omega)⟩
          refine ⟨b, u, py y, pyL xs, j, py xs[j], rfl, rfl, ?_, Rp.dp y u 62 hz.2 (r2.all x2.wf (okN_nd hz.2)), ?_, sh 62 y (by omega) hz.2, ?_, hjt, fun m z' hm hz' => ?_, q _ H2 G2 (x1.trans x2) (rp_int _)⟩
          · exact Rp.dp (.lst xs) (.ref b) 63 hok (by simp only [Rp]; exact ⟨b, vs, rfl, x2.hh _ _ h4, RpL.mono (x2.gg.trans x2.wf.sub) _ _ h5⟩)
          · exact sh 63 (.lst xs) (by omega) hok
          · rw [pyL_map, List.getElem?_map, List.getElem?_eq_getElem hjl]
            rfl
          · rw [pyL_map, List.getElem?_map] at hz'
            have hml : m < xs.length := by omega
            rw [List.getElem?_eq_getElem hml] at hz'
            cases hz'
            have := hjn m hm
            simpa [eqD] using this
        · cases e1
      · cases e1
    | _ => cases e1
end
end PD

set_option Elab.async false
set_option linter.all false
set_option maxRecDepth 100000
namespace PD
open PySem PySem.Spec PyProof.Rows L2
open PySem.W (alike alikeAll dataLt minD maxD AlikeAll)
/-! ### built-in functions that are called with keywords -/
theorem pk_imp {X : Cx} {kws : List Keyword} {t t' : TA} (h : PK X kws t) (i : ∀ σ H Q, t' σ H Q → t σ H Q) : PK X kws t' := ⟨fun pos pins s σ H Q I q => h.run pos pins s σ H Q I (i σ H Q q)⟩
abbrev KX (X : Cx) (kws : List Keyword) (f : Fl) : Prop := PK X kws (tA X.K f)
section
variable {X : Cx} {x : Str} {p pos kpos : Pos} {e : Expr} {es : List Expr} {kws : List Keyword} {id : String} {ks : List Str} {ff : Fe} {fl fk : Fl} {nm : Option Str}
theorem kx_nil : KX X [] aNil := pk_imp pk_nil fun σ H Q q => by
  obtain ⟨H0, G0, G, env, ds, S, e1, q⟩ := q
  cases e1
  exact q _ H G (Ext.refl S.wf) RpL.nil
theorem kx_cons (ha : EX X e ff) (hr : KX X kws fl) : KX X (⟨nm, e, kpos⟩ :: kws) (aCons ff fl) :=
  pk_imp (pk_cons ha hr) fun σ H Q q => by
    obtain ⟨H0, G0, G, env, ds, S, e1, q⟩ := q
    obtain ⟨d, h1, e1⟩ := Option.bind_eq_some_iff.mp e1
    obtain ⟨r, h2, e1⟩ := Option.bind_eq_some_iff.mp e1
    cases e1
    exact ⟨H0, G0, G, env, d, S, h1, fun v H1 G1 x1 r1 => ⟨H0, G0, G1, env, r, S.ext x1, h2, fun vs H2 G2 x2 r2 => q _ H2 G2 (x1.trans x2) (RpL.cons (Rp.mono x2.gg _ _ r1) r2)⟩⟩
def rCK (K : PySem.W.Frag) (g : List D → List D → Option D) : List V → List V → Hp → VK → Prop := fun vs zs H Q => ∃ G ds es d, Wf H G ∧ RpBL K H G ds vs ∧ RpL K G es zs ∧ g ds es = some d ∧ ∀ v H' G', Ext H G H' G' → Rp K G' d v → Q v H'
def eCallK (g : List D → List D → Option D) (fl fk : Fl) : Fe := fun env => (fl env).bind fun ds => (fk env).bind fun es => g ds es
theorem ex_callBK {g : List D → List D → Option D} (hc : CallRK X (.builtin id) ks (rCK X.K g)) (hg : Gl X x) (hm : X.mg x = none) (hv : bootBuiltins x = some (.builtin id)) (ha : ABX X (e :: es) fl) (hk : KX X kws fk) (hn : x ≠ "__name__" := by decide) (hdb : (x == ("__debug__" : Str)) = false := by decide)
    (he : backTo pos (starEach (e :: es) X.env) = (false, eval e X.env) :: backTo pos (starEach es X.env) := by rfl) (hpl : (backTo pos (starEach (e :: es) X.env)).any (·.1) = false := by rfl)
    (hall : (backToKw pos (keywordEach kws X.env)).all (·.1.isSome) = true := by rfl) (hnone : (backToKw pos (keywordEach kws X.env)).any (·.1.isNone) = false := by rfl) (hks : (backToKw pos (keywordEach kws X.env)).filterMap (·.1) = ks := by rfl) :
    EX X (.Call (.Name x p) (e :: es) kws pos) (eCallK g fl fk) :=
  pe_imp (pe_callBK hc hg hm hv ha hk hn hdb he hpl hall hnone hks) fun σ H Q q => by
    obtain ⟨H0, G0, G, env, d, S, e1, q⟩ := q
    obtain ⟨ds, h1, e1⟩ := Option.bind_eq_some_iff.mp e1
    obtain ⟨es', h2, e1⟩ := Option.bind_eq_some_iff.mp e1
    exact ⟨H0, G0, G, env, ds, S, h1, fun vs H1 G1 x1 r1 => ⟨H0, G0, G1, env, es', S.ext x1, h2, fun zs H2 G2 x2 r2 => ⟨G2, ds, es', d, x2.wf, r1.ext x2, r2, e1, fun v H3 G3 x3 r3 => q v H3 G3 ((x1.trans x2).trans x3) r3⟩⟩⟩
end
/-! min(xs, default=d), max(xs, default=d) -/
def gMinD : List D → List D → Option D
  | [.lst []], [d] => some d
  | [.tup []], [d] => some d
  | [x], [_] => gMinA [x]
  | _, _ => none
def gMaxD : List D → List D → Option D
  | [.lst []], [d] => some d
  | [.tup []], [d] => some d
  | [x], [_] => gMaxA [x]
  | _, _ => none
def rDfl (K : PySem.W.Frag) (best : D → List D → D) : List V → List V → Hp → VK → Prop := fun vs zs H Q => ∃ a xs ds G z, vs = [V.ref a] ∧ zs = [z] ∧ (SqL K H a xs ∨ SqT K H a xs) ∧ Wf H G ∧ RpL K G ds xs ∧ minOk ds = true ∧ (ds = [] → Q z H) ∧ ∀ d ds', ds = d :: ds' → ∀ v, Rp K G (best d ds') v → Q v H
theorem minOk_nil : minOk [] = true := rfl
theorem alike_nil : AlikeAll (pyL []) := ⟨fun p hp => (by simp [pyL] at hp), fun p hp => (by simp [pyL] at hp)⟩
theorem vals_one {zs : V} {ws : List Value} (r : Vals [zs] ws) : ∃ w, ws = [w] ∧ RelV zs w := by
  cases r with
  | cons h t =>
    cases t
    exact ⟨_, rfl, h⟩
theorem rpl_nil {K : PySem.W.Frag} {G : Hp} {d : D} {ds : List D} (h : RpL K G (d :: ds) []) : False := by
  have := h.len
  simp at this
theorem call_minDfl {X : Cx} (hc : X.calm = true) (hu : X.A.units + 65 < cLine) : CallRK X (.builtin "min") [Str.ofString "default"] (rDfl X.K minDD) := by
  intro pins s σ H vs zs us ws Q I r rz h
  obtain ⟨a, xs, ds, G, z, rfl, rfl, hs, w, hr, hk, q0, q1⟩ := h
  obtain ⟨o1, al⟩ := minOk_s hk
  have hdp := depthAll_le o1
  rw [Vals.ref1 r]
  obtain ⟨wz, rfl, rw1⟩ := vals_one rz
  show wpAny _ _ (PySem.call (.builtin "min") [.ref a] [(Str.ofString "default", wz)]) _ _ _
  rcases hs with hs | hs
  · obtain ⟨its, rv, hl, hz⟩ := I.list hs
    obtain ⟨as, ra⟩ := Dp.readsAll I _ _ _ (RpL.dp _ _ 62 o1 (RpL.mono w.sub _ _ hr)) rv
    refine PySem.W.min_list_default (I.ok.hd hc) hl.isList (show ReadsAll s.heap its.toArray.toList (pyL ds) as from ra) al (by omega) (fun e0 h' tk k => ?_) fun y ys i v h' tk bs e1 hv rm k => ?_
    · cases ds with
      | nil => exact ⟨_, H, I.kept (t' := tk) k, rw1, q0 rfl⟩
      | cons d ds => simp [pyL] at e0
    · cases ds with
      | nil => simp [pyL] at e1
      | cons d ds =>
        rw [pyL] at e1
        cases e1
        rw [minD_py] at rm
        exact best_end I w hr rv hk (minDD_mem ds d) (q1 d ds rfl) hv rm k
  · obtain ⟨its, rv, hl, hz⟩ := I.tuple hs
    obtain ⟨as, ra⟩ := Dp.readsAll I _ _ _ (RpL.dp _ _ 62 o1 (RpL.mono w.sub _ _ hr)) rv
    refine PySem.W.min_tuple_default (I.ok.hd hc) (show s.heap.IsTuple a its.toArray from hl) (show ReadsAll s.heap its.toArray.toList (pyL ds) as from ra) al (by omega) (fun e0 h' tk k => ?_) fun y ys i v h' tk bs e1 hv rm k => ?_
    · cases ds with
      | nil => exact ⟨_, H, I.kept (t' := tk) k, rw1, q0 rfl⟩
      | cons d ds => simp [pyL] at e0
    · cases ds with
      | nil => simp [pyL] at e1
      | cons d ds =>
        rw [pyL] at e1
        cases e1
        rw [minD_py] at rm
        exact best_end I w hr rv hk (minDD_mem ds d) (q1 d ds rfl) hv rm k
theorem call_maxDfl {X : Cx} (hc : X.calm = true) (hu : X.A.units + 65 < cLine) : CallRK X (.builtin "max") [Str.ofString "default"] (rDfl X.K maxDD) := by
  intro pins s σ H vs zs us ws Q I r rz h
  obtain ⟨a, xs, ds, G, z, rfl, rfl, hs, w, hr, hk, q0, q1⟩ := h
  obtain ⟨o1, al⟩ := minOk_s hk
  have hdp := depthAll_le o1
  rw [Vals.ref1 r]
  obtain ⟨wz, rfl, rw1⟩ := vals_one rz
  show wpAny _ _ (PySem.call (.builtin "max") [.ref a] [(Str.ofString "default", wz)]) _ _ _
  rcases hs with hs | hs
  · obtain ⟨its, rv, hl, hz⟩ := I.list hs
    obtain ⟨as, ra⟩ := Dp.readsAll I _ _ _ (RpL.dp _ _ 62 o1 (RpL.mono w.sub _ _ hr)) rv
    refine PySem.W.max_list_default (I.ok.hd hc) hl.isList (show ReadsAll s.heap its.toArray.toList (pyL ds) as from ra) al (by omega) (fun e0 h' tk k => ?_) fun y ys i v h' tk bs e1 hv rm k => ?_
    · cases ds with
      | nil => exact ⟨_, H, I.kept (t' := tk) k, rw1, q0 rfl⟩
      | cons d ds => simp [pyL] at e0
    · cases ds with
      | nil => simp [pyL] at e1
      | cons d ds =>
        rw [pyL] at e1
        cases e1
        rw [maxD_py] at rm
        exact best_end I w hr rv hk (maxDD_mem ds d) (q1 d ds rfl) hv rm k
  · obtain ⟨its, rv, hl, hz⟩ := I.tuple hs
    obtain ⟨as, ra⟩ := Dp.readsAll I _ _ _ (RpL.dp _ _ 62 o1 (RpL.mono w.sub _ _ hr)) rv
    refine PySem.W.max_tuple_default (I.ok.hd hc) (show s.heap.IsTuple a its.toArray from hl) (show ReadsAll s.heap its.toArray.toList (pyL ds) as from ra) al (by omega) (fun e0 h' tk k => ?_) fun y ys i v h' tk bs e1 hv rm k => ?_
    · cases ds with
      | nil => exact ⟨_, H, I.kept (t' := tk) k, rw1, q0 rfl⟩
      | cons d ds => simp [pyL] at e0
    · cases ds with
      | nil => simp [pyL] at e1
      | cons d ds =>
        rw [pyL] at e1
        cases e1
        rw [maxD_py] at rm
        exact best_end I w hr rv hk (maxDD_mem ds d) (q1 d ds rfl) hv rm k
theorem _root_.L2.CallRK.imp {X : Cx} {f : Value} {ks : List Str} {r r' : List V → List V → Hp → VK → Prop} (h : CallRK X f ks r) (i : ∀ vs zs H Q, r' vs zs H Q → r vs zs H Q) : CallRK X f ks r' := fun pins s σ H xs zs us ws Q I r1 r2 q => h pins s σ H xs zs us ws Q I r1 r2 (i _ _ _ _ q)
theorem rpl_one {K : PySem.W.Frag} {G : Hp} {d : D} {zs : List V} (h : RpL K G [d] zs) : ∃ z, zs = [z] ∧ Rp K G d z := by
  simp only [RpL] at h
  obtain ⟨z, r, rfl, h1, rfl⟩ := h
  exact ⟨z, rfl, h1⟩
theorem dfl_rc {K : PySem.W.Frag} {bi : Int → List Int → Int} {bd : D → List D → D} {gA : List D → Option D} {gD : List D → List D → Option D} (hb : ∀ (r : List Int) (n : Int), bd (.int n) (r.map D.int) = .int (bi n r))
    (hA : ∀ xs, gA [.lst xs] = gBest bi bd xs ∧ gA [.tup xs] = gBest bi bd xs)
    (hD : ∀ ds es m, gD ds es = some m → ∃ x z, ds = [x] ∧ es = [z] ∧ (((x = .lst [] ∨ x = .tup []) ∧ m = z) ∨ ∃ d r, (x = .lst (d :: r) ∨ x = .tup (d :: r)) ∧ gBest bi bd (d :: r) = some m))
    {vs zs : List V} {H : Hp} {Q : VK} (q : rCK K gD vs zs H Q) : rDfl K bd vs zs H Q := by
  obtain ⟨G, ds, es, m, w, r, rz, e, q⟩ := q
  obtain ⟨x, z, rfl, rfl, h⟩ := hD ds es m e
  obtain ⟨zv, rfl, hz⟩ := rpl_one rz
  rcases h with ⟨hx, rfl⟩ | ⟨d, rs, hx, hm⟩
  · rcases hx with rfl | rfl
    · obtain ⟨a, xs, rfl, h2, h3⟩ := rpbl_lst r
      exact ⟨a, xs, [], G, zv, rfl, rfl, .inl (SqL.of h2), w, h3, rfl, fun _ => q zv H G (Ext.refl w) hz, fun d ds' e => nomatch e⟩
    · obtain ⟨a, xs, rfl, h2, h3⟩ := rpbl_tup r
      exact ⟨a, xs, [], G, zv, rfl, rfl, .inr (sqt_up w h2), w, h3, rfl, fun _ => q zv H G (Ext.refl w) hz, fun d ds' e => nomatch e⟩
  · obtain ⟨d', rs', e', hk, rfl⟩ := gBest_of hb hm
    cases e'
    rcases hx with rfl | rfl
    · obtain ⟨a, xs, rfl, h2, h3⟩ := rpbl_lst r
      refine ⟨a, xs, d :: rs, G, zv, rfl, rfl, .inl (SqL.of h2), w, h3, hk, (fun e => nomatch e), fun d1 r1 e v hv => ?_⟩
      cases e
      exact q v H G (Ext.refl w) hv
    · obtain ⟨a, xs, rfl, h2, h3⟩ := rpbl_tup r
      refine ⟨a, xs, d :: rs, G, zv, rfl, rfl, .inr (sqt_up w h2), w, h3, hk, (fun e => nomatch e), fun d1 r1 e v hv => ?_⟩
      cases e
      exact q v H G (Ext.refl w) hv
theorem cminD {X : Cx} (hc : X.calm = true) (hu : X.A.units + 65 < cLine) : CallRK X (.builtin "min") [Str.ofString "default"] (rCK X.K gMinD) :=
  L2.CallRK.imp (call_minDfl hc hu) fun vs zs H Q q => dfl_rc (gA := gMinA) (gD := gMinD) minDD_ints (fun xs => ⟨rfl, rfl⟩) (fun ds es m e => by
    unfold gMinD at e
    split at e
    · cases e
      exact ⟨_, _, rfl, rfl, .inl ⟨.inl rfl, rfl⟩⟩
    · cases e
      exact ⟨_, _, rfl, rfl, .inl ⟨.inr rfl, rfl⟩⟩
    · rename_i x z h1 h2
      refine ⟨_, _, rfl, rfl, .inr ?_⟩
      cases x with
      | lst xs =>
        cases xs with
        | nil => exact absurd rfl h1
        | cons d r => exact ⟨d, r, .inl rfl, e⟩
      | tup xs =>
        cases xs with
        | nil => exact absurd rfl h2
        | cons d r => exact ⟨d, r, .inr rfl, e⟩
      | _ => cases e
    · cases e) q
theorem cmaxD {X : Cx} (hc : X.calm = true) (hu : X.A.units + 65 < cLine) : CallRK X (.builtin "max") [Str.ofString "default"] (rCK X.K gMaxD) :=
  L2.CallRK.imp (call_maxDfl hc hu) fun vs zs H Q q => dfl_rc (gA := gMaxA) (gD := gMaxD) maxDD_ints (fun xs => ⟨rfl, rfl⟩) (fun ds es m e => by
    unfold gMaxD at e
    split at e
    · cases e
      exact ⟨_, _, rfl, rfl, .inl ⟨.inl rfl, rfl⟩⟩
    · cases e
      exact ⟨_, _, rfl, rfl, .inl ⟨.inr rfl, rfl⟩⟩
    · rename_i x z h1 h2
      refine ⟨_, _, rfl, rfl, .inr ?_⟩
      cases x with
      | lst xs =>
        cases xs with
        | nil => exact absurd rfl h1
        | cons d r => exact ⟨d, r, .inl rfl, e⟩
      | tup xs =>
        cases xs with
        | nil => exact absurd rfl h2
        | cons d r => exact ⟨d, r, .inr rfl, e⟩
      | _ => cases e
    · cases e) q
end PD

set_option Elab.async false
set_option linter.all false
set_option maxRecDepth 100000
namespace PD
open PySem PySem.Spec PyProof.Rows L2
/-! ### a dict comprehension that is given a name -/
section
variable {X : Cx} {kx vx tg iter : Expr} {ifs : List Expr} {scope : Scope} {own : List (Str × Nat)} {pos : Pos}
theorem ps_setDN {i : Nat} {z : Str} {py spos : Pos} {wi : TI} {g : TG} {tt : TT} {tk tv : TE} (hc : X.calm = true) (hN : X.N.Nodup) (hz : X.N[i]? = some z) (hzl : X.env.scope.names.lookup z = some .local)
    (hsw : swapsWith (.DictComp kx vx [⟨tg, iter, ifs, 0⟩] scope pos) (some (.Name z py)) spos.line X.env = pure true) (hi : PI X tg iter wi) (ok : BlkOk X.N X.env.scope scope own)
    (hg : ∀ (s : Shared) (H : Hp) (C : Addr) (cl : List (Str × Addr)) (fp : List Addr), PG (X.blk s H scope (compEnvC scope cl C X.env) fp) tg g) (ht : ∀ (s : Shared) (H : Hp) (C : Addr) (cl : List (Str × Addr)) (fp : List Addr), PTs (X.blk s H scope (compEnvC scope cl C X.env) fp) ifs tt)
    (hk : ∀ (s : Shared) (H : Hp) (C : Addr) (cl : List (Str × Addr)) (fp : List Addr), PE (X.blk s H scope (compEnvC scope cl C X.env) fp) kx tk)
    (he : ∀ (s : Shared) (H : Hp) (C : Addr) (cl : List (Str × Addr)) (fp : List Addr), PE (X.blk s H scope (compEnvC scope cl C X.env) fp) vx tv) (hs : ∀ x, foldedSetIterable iter X.env x = pure x := by intro _; rfl) :
    PS X (.Assign [.Name z py] (.DictComp kx vx [⟨tg, iter, ifs, 0⟩] scope pos) spos) (tAsg (tDc wi g tt tk tv (own.map (·.2))) (gName i)) := ⟨fun pins s σ H D I h => by
  rw [exec_Assign_Name_used _ _ _ _ hsw]
  refine wpAny_bind (wpAny_standAt (wpAny_bind ?_)); show wpAny _ X.A (do let _ ← comprehension (.DictComp kx vx [⟨tg, iter, ifs, 0⟩] scope pos) scope X.env (firstIterPos [⟨tg, iter, ifs, 0⟩] pos) newDict false (eval iter X.env) (some (assign (.Name z py) X.env))) _ _ s
  have h1 : tDc wi g tt tk tv (own.map (·.2)) σ H (fun x H1 => gName i x σ H1 D.nx) := h
  refine wpAny_bind (thn (dc_core (Qf := fun _ s1 => SP X pins D .next s1) hc hN I hi ok hg ht hk he hs h1 fun L C s1 m H1 I1 q hn f => ?_) fun _ s1 hq => wpAny_pure (wpAny_pure hq))
  show wpAny _ _ (assign (.Name z py) X.env (.ref L)) _ _ _; refine wpAny_assign_Name (store_ok2 (v := V.ref L) I1 hN hz (.inl hzl) rfl (fun s2 I2 ⟨a, sb, ha⟩ => ?_) (.inr hzl))
  obtain ⟨g0, g1, g2, g3, g4, g5⟩ := f
  have ne : C ≠ a := ha.elim (fun e => by rw [e]; exact g1) fun e q => g4 z a e q.symm
  exact ⟨m, hn.sameBut sb ne, fun h3 sb3 => ⟨_, H1, I2.turned (t' := s2.toks) (fun b o hb e => (sb3.2 b hb).trans e) g0 g1 g3 g4 g5, q⟩⟩⟩
theorem swD_true {kx vx : Expr} {gs : List Comprehension} {scope : Scope} {pos py : Pos} {y : Str} {l : Nat} {env : Env} (hk : env.scope.kind = .function) (hy : env.scope.names.lookup y = some .local) (hl : (py.line == pos.line) = true)
    (ha : (scope.names.any fun (n, k) => n == y && (k == .local || k == .cell)) = false) : swapsWith (.DictComp kx vx gs scope pos) (some (.Name y py)) l env = pure true := by
  have k1 : env.kindOf y = some .local := hy
  have k2 : env.blockKind = .function := by unfold Env.blockKind; rw [hk] <;> rfl
  unfold swapsWith; simp only [k2, k1, ha, Expr.pos, hl] <;> rfl
variable {it : Fl} {t : Ft} {Sg : List Nat} {ct : Fb} {ky y : Fe}
theorem sx_setDc {i : Nat} {z : Str} {py spos : Pos} (hc : X.calm = true) (hN : X.N.Nodup) (hz : X.N[i]? = some z) (hzl : X.env.scope.names.lookup z = some .local)
    (hsw : swapsWith (.DictComp kx vx [⟨tg, iter, ifs, 0⟩] scope pos) (some (.Name z py)) spos.line X.env = pure true) (hi : ICX X tg iter it) (ok : BlkOk X.N X.env.scope scope own) (hsub : ∀ i ∈ Sg, i ∈ own.map (·.2))
    (hg : ∀ (s : Shared) (H : Hp) (C : Addr) (cl : List (Str × Addr)) (fp : List Addr), GX (X.blk s H scope (compEnvC scope cl C X.env) fp) tg t Sg) (ht : ∀ (s : Shared) (H : Hp) (C : Addr) (cl : List (Str × Addr)) (fp : List Addr), PTs (X.blk s H scope (compEnvC scope cl C X.env) fp) ifs (tT X.K ct))
    (hk : ∀ (s : Shared) (H : Hp) (C : Addr) (cl : List (Str × Addr)) (fp : List Addr), EX (X.blk s H scope (compEnvC scope cl C X.env) fp) kx ky)
    (he : ∀ (s : Shared) (H : Hp) (C : Addr) (cl : List (Str × Addr)) (fp : List Addr), EX (X.blk s H scope (compEnvC scope cl C X.env) fp) vx y) (hs : ∀ x, foldedSetIterable iter X.env x = pure x := by intro _; rfl) :
    SX X (.Assign [.Name z py] (.DictComp kx vx [⟨tg, iter, ifs, 0⟩] scope pos) spos) (sSetN i (fDc (own.map (·.2)) it t ct ky y)) :=
  ps_imp (ps_setDN hc hN hz hzl hsw hi ok hg ht hk he hs) fun E σ H q => tAsg_setN (fun _ q => tDc_of hsub q) q
end
end PD

set_option Elab.async false
set_option linter.all false
set_option maxRecDepth 100000
namespace PD
open PySem PySem.Spec PyProof.Rows L2
/-! ### sorted(set(xs)), xs a list of tuples of small whole numbers -/
def sortV (ws : List (List Int)) : List (List Int) := ws.mergeSort fun a b => decide (a ≤ b)
def dedupV (ws : List (List Int)) : List (List Int) := ws.foldl (fun acc w => if w ∈ acc then acc else acc ++ [w]) []
def wordsOf : List D → Option (List (List Int))
  | [] => some []
  | .tup xs :: r => (intsOf xs).bind fun w => (wordsOf r).map (w :: ·)
  | _ => none
theorem wordsOf_some : ∀ {ds : List D} {ws : List (List Int)}, wordsOf ds = some ws → ds = ws.map fun w => D.tup (w.map D.int)
  | [], _, h => by cases h; rfl
  | d :: r, ws, h => by
    cases d with
    | tup xs =>
      obtain ⟨w, h1, h2⟩ := Option.bind_eq_some_iff.mp (show (intsOf xs).bind (fun w => (wordsOf r).map (w :: ·)) = some ws from h)
      obtain ⟨vs, h3, rfl⟩ := Option.map_eq_some_iff.mp h2
      rw [intsOf_some h1, wordsOf_some h3]
      rfl
    | _ => cases h
theorem wordsOf_map : ∀ ws : List (List Int), wordsOf (ws.map fun w => D.tup (w.map D.int)) = some ws
  | [] => rfl
  | w :: r => by
    show (intsOf (w.map D.int)).bind (fun w => (wordsOf (r.map fun w => D.tup (w.map D.int))).map (w :: ·)) = _
    rw [intsOf_map, wordsOf_map r]
    rfl
def setOk (ws : List (List Int)) : Bool := decide (ws.length < 64) && ws.all fun w => decide (0 < w.length) && decide (w.length = (ws.headD []).length) && w.all fun x => decide (0 ≤ x) && decide (x < 1048576)
def gSortSet : List D → Option (List D)
  | [.lst xs] => (wordsOf xs).bind fun ws => if setOk ws then some ((sortV (dedupV ws)).map fun w => D.tup (w.map D.int)) else none
  | _ => none
theorem fold_mem : ∀ (ws acc : List (List Int)) (w : List Int), w ∈ ws.foldl (fun acc w => if w ∈ acc then acc else acc ++ [w]) acc ↔ w ∈ acc ∨ w ∈ ws
  | [], acc, w => by simp
  | x :: r, acc, w => by
    rw [List.foldl_cons, fold_mem r]
    by_cases h : x ∈ acc
    · rw [if_pos h, List.mem_cons]
      constructor
      · rintro (q | q)
        · exact .inl q
        · exact .inr (.inr q)
      · rintro (q | q | q)
        · exact .inl q
        · exact .inl (q ▸ h)
        · exact .inr q
    · rw [if_neg h, List.mem_append, List.mem_singleton, List.mem_cons, or_assoc]
theorem fold_nd : ∀ (ws acc : List (List Int)), acc.Nodup → (ws.foldl (fun acc w => if w ∈ acc then acc else acc ++ [w]) acc).Nodup
  | [], acc, h => h
  | x :: r, acc, h => by
    rw [List.foldl_cons]
    refine fold_nd r _ ?_
    split
    · exact h
    · rename_i q
      refine List.nodup_append.mpr ⟨h, by simp, fun a ha b hb => ?_⟩
      rw [List.mem_singleton] at hb
      rw [hb]
      intro z
      rw [z] at ha
      exact q ha
theorem dedupV_mem {ws : List (List Int)} {w : List Int} : w ∈ dedupV ws ↔ w ∈ ws := by
  unfold dedupV
  rw [fold_mem]
  simp
theorem dedupV_nd (ws : List (List Int)) : (dedupV ws).Nodup := fold_nd ws [] List.nodup_nil
theorem sortV_perm (ws : List (List Int)) : (sortV ws).Perm ws := List.mergeSort_perm ws _
theorem sortV_sorted (ws : List (List Int)) : (sortV ws).Pairwise (· ≤ ·) := by
  have := List.pairwise_mergeSort (le := fun a b : List Int => decide (a ≤ b)) (fun a b c h1 h2 => decide_eq_true (List.le_trans (of_decide_eq_true h1) (of_decide_eq_true h2))) (fun a b => by
    rcases List.le_total a b with h | h
    · simp [h]
    · simp [h]) ws
  exact this.imp fun h => of_decide_eq_true h
theorem sortedV_unique : ∀ {as bs : List (List Int)}, as.Perm bs → as.Pairwise (· ≤ ·) → bs.Pairwise (· ≤ ·) → as = bs
  | [], bs, p, _, _ => List.Perm.nil_eq p
  | a :: as, bs, p, h1, h2 => by
    cases bs with
    | nil => exact absurd p.length_eq (by simp)
    | cons b bs =>
      have ha : a ∈ b :: bs := p.mem_iff.mp List.mem_cons_self
      have hb : b ∈ a :: as := p.mem_iff.mpr List.mem_cons_self
      have e : a = b := by
        refine List.le_antisymm ?_ ?_
        · rcases List.mem_cons.mp hb with z | z
          · rw [z]
            exact List.le_refl _
          · exact (List.pairwise_cons.mp h1).1 b z
        · rcases List.mem_cons.mp ha with z | z
          · rw [z]
            exact List.le_refl _
          · exact (List.pairwise_cons.mp h2).1 a z
      subst e
      rw [sortedV_unique (List.Perm.cons_inv p) (List.pairwise_cons.mp h1).2 (List.pairwise_cons.mp h2).2]
/-- the code's order is the tuples' -/
theorem code_lex {B : Int} : ∀ {u v : List Int}, u.length = v.length → TS.Bd B u → TS.Bd B v → u < v → TS.code B u < TS.code B v
  | [], [], _, _, _, h => absurd h (List.lt_irrefl _)
  | x :: u, y :: v, hl, hu, hv, h => by
    have hl' : u.length = v.length := by simpa using hl
    rcases List.cons_lt_cons_iff.mp h with q | ⟨q, q'⟩
    · exact TS.code_lt hl' hu.tail hv.tail q
    · subst q
      exact (TS.code_same hl').mpr (code_lex hl' hu.tail hv.tail q')
  | [], _ :: _, hl, _, _, _ => by simp at hl
  | _ :: _, [], hl, _, _, _ => by simp at hl
theorem nodup_perm {a b : List (List Int)} (ha : a.Nodup) (hb : b.Nodup) (h : ∀ x, x ∈ a ↔ x ∈ b) : a.Perm b := (List.perm_ext_iff_of_nodup ha hb).mpr h
theorem refs_rp {K : PySem.W.Frag} {G : Hp} : ∀ {ws : List (List Int)} {xs : List V}, RpL K G (ws.map fun w => D.tup (w.map D.int)) xs → ∃ ks : List (Addr × List Int), xs = ks.map (fun p => V.ref p.1) ∧ ks.map (·.2) = ws ∧ ∀ p ∈ ks, G p.1 = some (.tup (p.2.map V.int))
  | [], xs, h => by
    simp only [List.map_nil, RpL] at h
    exact ⟨[], h, rfl, fun p hp => nomatch hp⟩
  | w :: ws, xs, h => by
    simp only [List.map_cons, RpL, Rp] at h
    obtain ⟨x, r, rfl, ⟨a, ys, rfl, h2, h3⟩, h4⟩ := h
    rw [h3.ints] at h2
    obtain ⟨ks, rfl, e2, e3⟩ := refs_rp h4
    refine ⟨(a, w) :: ks, rfl, by rw [List.map_cons, e2], fun p hp => ?_⟩
    rcases List.mem_cons.mp hp with rfl | hp
    · exact h2
    · exact e3 p hp
theorem rp_refs {K : PySem.W.Frag} {G : Hp} : ∀ (ks : List (Addr × List Int)), (∀ p ∈ ks, G p.1 = some (.tup (p.2.map V.int))) → RpL K G ((ks.map (·.2)).map fun w => D.tup (w.map D.int)) (ks.map fun p => V.ref p.1)
  | [], _ => RpL.nil
  | p :: ks, h => RpL.cons (by simp only [Rp]; exact ⟨p.1, p.2.map V.int, rfl, h p List.mem_cons_self, RpL.of_ints _⟩) (rp_refs ks fun q hq => h q (List.mem_cons_of_mem _ hq))
theorem pa_one {X : Cx} {e : Expr} {te : TE} (h : PE X e te) (hs : starEach [e] X.env = (false, eval e X.env) :: starEach [] X.env := by rfl) : PA X [e] (tCons te tNil) := pa_cons h pa_nil hs
variable {X : Cx} {a : Expr} {fa : Fe} {p p2 q pos : Pos}
theorem fx_sortset (hc : X.calm = true) (hu : X.A.units + 65 < cLine) (hg : Gl X "sorted") (hm : X.mg "sorted" = none) (hg2 : Gl X "set") (hm2 : X.mg "set" = none) (hv : bootBuiltins "sorted" = some (.builtin "sorted")) (hv2 : bootBuiltins "set" = some (.type "set")) (ha : BX X a fa)
    (h1 : starEach [a] X.env = (false, eval a X.env) :: starEach [] X.env := by rfl) (h2 : starEach [Expr.Call (.Name "set" p2) [a] [] q] X.env = (false, eval (Expr.Call (.Name "set" p2) [a] [] q) X.env) :: starEach [] X.env := by rfl)
    (hp1 : (backTo q (starEach [] X.env)).any (·.1) = false := by rfl) (hp2 : (backTo pos (starEach [] X.env)).any (·.1) = false := by rfl) :
    FX X (.Call (.Name "sorted" p) [.Call (.Name "set" p2) [a] [] q] [] pos) (fCall gSortSet (aCons fa aNil)) := by
  have inner : PE X (.Call (.Name "set" p2) [a] [] q) (tCB (rSetOfT X.K X.prog X.w) (tCons (tB X.K fa) tNil)) := pe_callTy (cr_setOfT hc (by omega)) hg2 hm2 hv2 (pa_one ha h1) (by decide) (by decide) h1 hp1
  refine pe_imp (pe_callB (cr_sortedT hc) hg hm hv (pa_one inner h2) (by decide) (by decide) h2 hp2) fun σ H Q q => ?_
  obtain ⟨H0, G0, G, env, ds, S, e1, q⟩ := q
  obtain ⟨as, e2, e3⟩ := Option.bind_eq_some_iff.mp e1
  obtain ⟨x, e4, e5⟩ := Option.bind_eq_some_iff.mp e2
  cases e5
  cases x with
  | lst xs =>
    obtain ⟨ws, e6, e7⟩ := Option.bind_eq_some_iff.mp (show (wordsOf xs).bind _ = some ds from e3)
    split at e7
    · rename_i hok
      cases e7
      refine ⟨H0, G0, G, env, _, S, e4, fun v H1 G1 x1 r1 => ?_⟩
      obtain ⟨l, vs, rfl, hl, hr⟩ := r1
      rw [wordsOf_some e6] at hr
      obtain ⟨ks, rfl, hk1, hk2⟩ := refs_rp hr
      unfold setOk at hok
      rw [Bool.and_eq_true, decide_eq_true_eq, List.all_eq_true] at hok
      obtain ⟨ho1, ho2⟩ := hok
      have hbd : ∀ w ∈ ws, 0 < w.length ∧ w.length = (ws.headD []).length ∧ TS.Bd 1048576 w := fun w hw => by
        have := ho2 w hw
        rw [Bool.and_eq_true, Bool.and_eq_true, decide_eq_true_eq, decide_eq_true_eq, List.all_eq_true] at this
        refine ⟨this.1.1, this.1.2, fun m hm => ?_⟩
        have := this.2 m hm
        rw [Bool.and_eq_true, decide_eq_true_eq, decide_eq_true_eq] at this
        exact this
      have hkl : ks.length = ws.length := by rw [← hk1, List.length_map]
      have hseq : ∀ p ∈ ks, SqT X.K H1 p.1 (p.2.map V.int) := fun p hp => sqt_up x1.wf (hk2 p hp)
      refine ⟨l, ks, rfl, SqL.of hl, hseq, by omega, fun A L hA hL1 hL2 => ?_⟩
      have hLw : ∀ p ∈ L, p.2 ∈ ws := fun p hp => by
        rw [← hk1]
        exact List.mem_map.mpr ⟨p, hL1 p hp, rfl⟩
      have x2 : Ext H1 G1 (upd H1 A (SetTO X.prog X.w A L)) G1 := Ext.fresh x1.wf hA rfl
      by_cases hemp : ws = []
      · have hL0 : L = [] := by
          cases L with
          | nil => rfl
          | cons p r =>
            have := hLw p List.mem_cons_self
            rw [hemp] at this
            cases this
        subst hL0
        refine ⟨A, [], 1, 1, rfl, upd_same, (fun p hp => nomatch hp), Nat.le_refl 1, (fun p hp => nomatch hp), fun L' P pm nd few pw hP => ?_⟩
        have : L' = [] := List.perm_nil.mp pm
        subst this
        refine q P [] _ G1 ((x1.trans x2).trans (Ext.fresh x2.wf hP rfl)) ((x1.trans x2).hh.free hP) upd_same (wf_none x2.wf hP) ?_
        rw [hemp]
        have : sortV (dedupV []) = [] := List.perm_nil.mp (sortV_perm _)
        rw [this]
        exact RpL.nil
      · have hd : ∀ w ∈ ws, w.length = (ws.headD []).length := fun w hw => (hbd w hw).2.1
        have hd1 : 1 ≤ (ws.headD []).length := by
          obtain ⟨w, hw⟩ := List.exists_mem_of_ne_nil ws hemp
          have := hbd w hw
          omega
        refine ⟨A, L, (ws.headD []).length, 1048576, rfl, upd_same, fun p hp => ?_, hd1, fun p hp => ⟨hd _ (hLw p hp), (hbd _ (hLw p hp)).2.2⟩, fun L' P pm nd few pw hP => ?_⟩
        · exact sqt_up x2.wf (hk2 p (hL1 p hp))
        · have hL'w : ∀ p ∈ L', p.2 ∈ ws := fun p hp => hLw p (pm.mem_iff.mp hp)
          have hsorted : (L'.map (·.2)).Pairwise (· ≤ ·) := by
            refine List.pairwise_map.mpr (pw.imp_of_mem fun {u v} hu hv h => ?_)
            refine List.not_lt.mp fun z => ?_
            have := code_lex (B := 1048576) (by rw [hd _ (hL'w v hv), hd _ (hL'w u hu)]) (hbd _ (hL'w v hv)).2.2 (hbd _ (hL'w u hu)).2.2 z
            omega
          have hmem : ∀ w, w ∈ L'.map (·.2) ↔ w ∈ dedupV ws := fun w => by
            rw [dedupV_mem, (pm.map (·.2)).mem_iff]
            constructor
            · intro h
              obtain ⟨p, hp, rfl⟩ := List.mem_map.mp h
              exact hLw p hp
            · intro h
              rw [← hk1] at h
              obtain ⟨p, hp, rfl⟩ := List.mem_map.mp h
              exact hL2 p hp
          have hperm : (L'.map (·.2)).Perm (dedupV ws) := nodup_perm nd (dedupV_nd ws) hmem
          have heq : L'.map (·.2) = sortV (dedupV ws) := sortedV_unique (hperm.trans (sortV_perm _).symm) hsorted (sortV_sorted _)
          refine q P (L'.map fun p => V.ref p.1) _ G1 ((x1.trans x2).trans (Ext.fresh x2.wf hP rfl)) ((x1.trans x2).hh.free hP) upd_same (wf_none x2.wf hP) ?_
          rw [← heq]
          exact rp_refs L' fun p hp => hk2 p (hL1 p (pm.mem_iff.mp hp))
    · cases e7
  | _ => cases e3
end PD

set_option Elab.async false
set_option linter.all false
set_option maxRecDepth 100000
set_option maxHeartbeats 4000000
/-! enumerate of a tuple -/
namespace PD
open PySem PySem.Spec PyProof.Rows L2
def en1 (h : Heap) (a : Addr) : Heap := h.push (SK.io .t a)
def en2 (h : Heap) (a : Addr) : Heap := (en1 h a).push { cls := .type "enumerate", data := .fields #[.none, .bool false, .ref h.objs.size, rawInt 0, .none, .none] }
theorem meets_enT (a : Addr) (xs : Array Value) : Meets (Builtin.«enumerate.__new__» ⟨[.type "enumerate", .ref a], []⟩) (fun _ R s => s.heap.IsTuple a xs ∧
      R (.ok (.ret (.ref (en1 s.heap a).objs.size))) { s with heap := en2 s.heap a }) :=
  .of_wp fun prog w A R s h => by
    obtain ⟨hp, g, d, tk, os⟩ := s
    obtain ⟨ha, h⟩ := h
    have hsub := sub_enumerate
    have A1 : Heap.IsTuple (Shared.heap ⟨hp, g, d, tk, os⟩) a xs := ha
    wp_walk using wpAny_pyIter_tuple A1
    refine wpAny_stack_any fun st => wpAny_pure ?_
    split
    · rename_i c _ _ _ _ _
      cases (c == Value.type "enumerate")
      · wp_walk using wpAny_pyIter_tuple A1
        exact ⟨_, rfl, h⟩
      · wp_walk using wpAny_pyIter_tuple A1
        exact ⟨_, rfl, h⟩
    · wp_walk using wpAny_pyIter_tuple A1
      exact ⟨_, rfl, h⟩
section
variable {pg : Program} {wd : World} {Ar : Around} {Ex : Value → Shared → Prop} {s : Shared}
theorem call_enT {a : Addr} {xs : Array Value} {Q : Value → Shared → Prop} (ha : s.heap.IsTuple a xs)
    (h : ∀ g, IsEnum g (s.heap.objs.size + 1) s.heap.objs.size 0 .none → g.IsTupleIter s.heap.objs.size a 0 → (∀ c o, s.heap.get? c = some o → g.get? c = some o) → Q (.ref (s.heap.objs.size + 1)) { s with heap := g }) :
    wpAny (model pg wd) Ar (PySem.call (.type "enumerate") [.ref a]) Q Ex s := by
  refine callType_new F.called_enumerate (by decide) (F.typeCall_enumerate_1 _) (F.newCall_enumerate_1 _) (fun ob => F.args_object_init_2 ob _) F.entry_enumerate_new (meets_enT a xs) ⟨ha, ?_⟩
  have n1 : (en1 s.heap a).objs.size = s.heap.objs.size + 1 := Heap.size_push ..
  have e2 : (en2 s.heap a).get? (en1 s.heap a).objs.size = some _ := Heap.get?_push_size _ rfl
  have e1 : (en2 s.heap a).get? s.heap.objs.size = some (SK.io .t a) := Heap.get?_push_of_some _ (Heap.get?_push_size _ rfl)
  show _ ∧ _
  rw [n1] at e2
  rw [n1]
  exact ⟨⟨_, e2, rfl⟩, h _ e2 (SK.Itr.mk (k := .t) e1 rfl rfl) fun c o q => Heap.get?_push_of_some _ (Heap.get?_push_of_some _ q)⟩
theorem drawsT {it a : Addr} {xs : Array Value} (hd : Ar.handled = none) (hne : a ≠ it) : Draws pg wd Ar it [it, a] xs.size (fun i x => xs[i]? = some x) (fun i h => h.IsTupleIter it a i ∧ h.IsTuple a xs) where
  live := fun i h st => by
    obtain ⟨⟨o, ho, _⟩, _⟩ := st
    exact ⟨o, ho⟩
  frame := fun i h h' st k => by
    obtain ⟨i1, ⟨o, ho, r⟩⟩ := st
    exact ⟨i1.at fun o q => k it (by simp) o q, o, k a (by simp) o ho, r⟩
  item := fun i s Q E hi st hQ => by
    refine RZ.nextOf_tuple_item st.1 st.2 (Array.getElem?_eq_getElem hi) fun h' i1 sb => ?_
    have := hQ (xs[i]'hi) h' s.toks (Array.getElem?_eq_getElem hi) ⟨i1, st.2.extBut sb.extBut hne⟩ sb
    exact this
  done := fun s Q E st hE => RZ.nextOf_tuple_end hd st.1 st.2 (Array.getElem?_eq_none (Nat.le_refl _)) hE
end
/-- the tuple at a as it stands at each turn, each item in a new pair -/
def IteT (K : PySem.W.Frag) (a : Addr) : It :=
  ⟨fun i H => ∃ (xs : List V) (x : V), SqT K H a xs ∧ xs[i]? = some x, fun i H v H' => ∃ T x, v = .ref T ∧ H T = none ∧ H' = upd H T (.tup [.int (i : Nat), x]) ∧ ∀ xs, SqT K H a xs → xs[i]? = some x, fun i H => ∃ xs : List V, SqT K H a xs ∧ xs.length ≤ i⟩
theorem turn_enT {P : Program} {w : World} {K : PySem.W.Frag} {elts : List Expr} {kk : Nat} {tpos : Pos} (a e it : Addr) (hai : a ≠ it) (hae : a ≠ e) :
    Turn P w K (.Tuple elts kk tpos) (IteT K a) [e, it] e (fun i h => (∃ old, IsEnum h e it ((i : Nat) : Int) old) ∧ h.IsTupleIter it a i ∧ e ≠ it) where
  mem := by simp
  obj := fun i h st b hb => by
    obtain ⟨⟨old, he⟩, ⟨o, ho, hc, hd⟩, _⟩ := st
    have e' : b = e ∨ b = it := by simpa using hb
    rcases e' with z | z
    · rw [z]; exact ⟨_, he, fun v q => nomatch q⟩
    · rw [z]; exact ⟨o, ho, fun v q => by rw [hd] at q; cases q⟩
  keep := fun i h h' st k => let ⟨⟨old, he⟩, hi, hne⟩ := st; ⟨⟨old, k e (by simp) _ he⟩, hi.at fun o q => k it (by simp) o q, hne⟩
  item := by
    intro X hP hw hK hc i pins s σ H E I hf st hg
    subst hP hw hK
    obtain ⟨⟨old, he⟩, hit, hne⟩ := st
    obtain ⟨xs, x, hq, hx⟩ := hg
    obtain ⟨its, rv, p, hla⟩ := inv_sq (k := .t) I hq
    obtain ⟨u, hu, ru⟩ := rv.get hx
    have hel : e < s.heap.objs.size := Heap.lt_size he
    have hil : it < s.heap.objs.size := by obtain ⟨_, q, _⟩ := hit; exact Heap.lt_size q
    have hlt : i < its.toArray.size := by
      obtain ⟨z, _⟩ := List.getElem?_eq_some_iff.mp hu
      simpa using z
    refine wpAny_pyNext_enum_itemD (drawsT (Ar := X.A.in1) (I.ok.hd hc) hai) he ⟨hit, p⟩ hlt hne (by simp [hne, Ne.symm hae]) fun y h' tk hy ho hit' hT hsz hk => ?_
    obtain ⟨hit', hta'⟩ := hit'
    have hyu : y = u := by
      have : its.toArray[i]? = some u := by simpa using hu
      rw [this] at hy
      cases hy
      rfl
    subst hyu
    refine ⟨_, rfl, wpAny_letOwnedTupleGo_enum (s := { s with heap := h', toks := tk + 1 }) ho fun h'' he' sb => ?_⟩
    have hT2 : h''.get? s.heap.objs.size = some { cls := .type "tuple", data := .seq #[.int i tk, y] } := (sb.2 _ (Nat.ne_of_gt hel)).trans hT
    have new : ObjOk X.prog X.w (upd H s.heap.objs.size (.tup [.int (i : Nat), x])) h'' s.heap.objs.size (.tup [.int (i : Nat), x]) :=
      ⟨by show 2 ≤ sizeLine; decide, [.int i tk, y], .cons ⟨_, rfl⟩ (.cons ru .nil), ⟨_, hT2, rfl, _, rfl⟩⟩
    have I1 : Inv X pins σ (upd H s.heap.objs.size (.tup [.int (i : Nat), x])) { s with heap := h'', toks := tk + 1 } :=
      I.turnedNew (ch := [e, it]) (fun b ob hb q => (sb.2 b (fun z => hb (by simp [z]))).trans (hk b ob (fun z => hb (by simp [z])) (fun z => hb (by simp [z])) q)) hf (Nat.le_refl _) new
    refine ⟨.ref s.heap.objs.size, _, I1, rfl, ⟨_, x, rfl, I.hok.fresh (Nat.le_refl _), rfl, fun ys hy => by rw [sqk_inj (k := .t) I hy hq]; exact hx⟩, ⟨⟨y, ?_⟩, hit'.at fun o q => (sb.2 it (Ne.symm hne)).trans q, hne⟩, fun b hb => ?_⟩
    · have e1 : ((i + 1 : Nat) : Int) = (i : Int) + 1 := by omega
      rw [e1]; exact he'
    · have hb' : b < s.heap.objs.size := by
        have e' : b = e ∨ b = it := by simpa using hb
        rcases e' with z | z
        · rw [z]; exact hel
        · rw [z]; exact hil
      rw [upd_ne (Nat.ne_of_lt hb')]
      exact (hf b hb).1
  done := by
    intro X hP hw hK hc i pins s σ H E I hf st hg
    subst hP hw hK
    obtain ⟨⟨old, he⟩, hit, hne⟩ := st
    obtain ⟨xs, hq, hx⟩ := hg
    obtain ⟨its, rv, p, hla⟩ := inv_sq (k := .t) I hq
    obtain ⟨f0, f1, f2, f3, f4, f5⟩ := hf it (by simp)
    have hl := rv.length
    refine wpAny_pyNext_enum_endD (n := i) (P := fun _ _ => True) (St := fun j h => h.IsTupleIter it a j ∧ h.IsTuple a its.toArray ∧ j = i) (fp := [it, a])
      ⟨fun j h st => ?_, fun j h h' st k => ?_, fun j s Q E hj st hQ => ?_, fun s Q E st hE => ?_⟩ he ⟨hit, p, rfl⟩ fun h' eb => ⟨rfl, I.turned (t' := s.toks) (fun b o hb q => eb b o hb q) f0 f1 f3 f4 f5⟩
    · obtain ⟨⟨o, ho, _⟩, _⟩ := st
      exact ⟨o, ho⟩
    · obtain ⟨i1, ⟨o, ho, r⟩, z⟩ := st
      exact ⟨i1.at fun o q => k it (by simp) o q, ⟨o, k a (by simp) o ho, r⟩, z⟩
    · exact absurd st.2.2 (Nat.ne_of_lt hj)
    · exact RZ.nextOf_tuple_end (I.ok.hd hc) st.1 st.2.1 (Array.getElem?_eq_none (by simp; omega)) hE
  self := fun A i s Q E st h => let ⟨⟨_, he⟩, _⟩ := st; wpAny_pyIter_enum he h
def iEnumT (K : PySem.W.Frag) (ta : TA) : TI := fun σ H R => ta σ H fun vs H1 => ∃ a xs, vs = [.ref a] ∧ ((SqL K H1 a xs ∧ R (Ite K a) H1) ∨ (SqT K H1 a xs ∧ R (IteT K a) H1))
theorem pi_enA {X : Cx} {e : Expr} {ta : TA} {p pos tpos : Pos} {elts : List Expr} {kk : Nat} (hg : Gl X "enumerate") (hm : X.mg "enumerate" = none) (ha : PA X [e] ta) (hs : starEach [e] X.env = [(false, eval e X.env)] := by rfl) :
    PI X (.Tuple elts kk tpos) (.Call (.Name "enumerate" p) [e] [] pos) (iEnumT X.K ta) := by
  refine ⟨fun pins s σ H R I h => ?_⟩
  refine Call_ (ld_blt I hg hm boot_enumerate (PyProof.Rows.callWith_type1 (thn (ha.run pos pins s σ H _ I h) fun us t ⟨vs, H1, I1, r1, q1⟩ => ?_) hs rfl))
  obtain ⟨a, xs, ex, q⟩ := q1
  subst ex
  cases r1 with
  | cons r rr =>
    cases rr
    cases r
    rcases q with ⟨hq, q⟩ | ⟨hq, q⟩
    · obtain ⟨its, rv, p', hz⟩ := I1.list hq
      refine call_enumerate_list p'.isList fun g he hit hsz old => wpAny_pyIter_enum he ?_
      have I2 : Inv X pins σ H1 { t with heap := g } := I1.kept (t' := t.toks) old
      refine ⟨t.heap.objs.size + 1, [t.heap.objs.size + 1, t.heap.objs.size], _, _, H1, rfl, I2, turn_enum a (t.heap.objs.size + 1) t.heap.objs.size, ⟨⟨.none, he⟩, hit, Nat.succ_ne_self _⟩, fun b hb => ?_, q⟩
      have le : t.heap.objs.size ≤ b := by
        have e' : b = t.heap.objs.size + 1 ∨ b = t.heap.objs.size := by simpa using hb
        rcases e' with z | z
        · rw [z]; exact Nat.le_add_right _ _
        · rw [z]; exact Nat.le_refl _
      exact I1.fpOk le (I1.hok.fresh le)
    · obtain ⟨its, rv, p', hla⟩ := inv_sq (k := .t) I1 hq
      refine call_enT p' fun g he hit old => wpAny_pyIter_enum he ?_
      have I2 : Inv X pins σ H1 { t with heap := g } := I1.kept (t' := t.toks) old
      refine ⟨t.heap.objs.size + 1, [t.heap.objs.size + 1, t.heap.objs.size], _, _, H1, rfl, I2, turn_enT a (t.heap.objs.size + 1) t.heap.objs.size (Nat.ne_of_lt hla) (Nat.ne_of_lt (Nat.lt_succ_of_lt hla)), ⟨⟨.none, he⟩, hit, Nat.succ_ne_self _⟩, fun b hb => ?_, q⟩
      have le : t.heap.objs.size ≤ b := by
        have e' : b = t.heap.objs.size + 1 ∨ b = t.heap.objs.size := by simpa using hb
        rcases e' with z | z
        · rw [z]; exact Nat.le_add_right _ _
        · rw [z]; exact Nat.le_refl _
      exact I1.fpOk le (I1.hok.fresh le)
section
variable {X : Cx} {tg a b e : Expr} {f : Fe} {fl : Fl} {pos p tpos : Pos} {elts : List Expr} {kk : Nat}
theorem iteT_ok {K : PySem.W.Frag} {a : Addr} {xs : List V} {ds : List D} {H1 G1 : Hp} (h : ∀ H G : Hp, Same G1 G → Wf H G → SqT K H a xs) (r : RpL K G1 ds xs) : ItL K (IteT K a) (enumL ds) H1 G1 := fun i H G sg w => by
  have hs := h H G sg w
  refine ⟨fun hi => ⟨xs, hs, by rw [enumL_len] at hi; rw [← r.len]; exact hi⟩, fun d hd => ?_⟩
  rw [enumL_get] at hd
  obtain ⟨d0, hd0, rfl⟩ := Option.map_eq_some_iff.mp hd
  obtain ⟨x, hx, rx⟩ := r.at hd0
  refine ⟨⟨xs, x, hs, hx⟩, fun y H' hy => ?_⟩
  obtain ⟨T, x', rfl, hT, rfl, hy⟩ := hy
  have := hy xs hs
  rw [hx] at this
  cases this
  exact new_pair w hT (rp_int _) (Rp.mono sg _ _ rx)
/-- enumerate of a list or a tuple -/
def iEnumA (fl : Fl) : Fl := fun env => match fl env with
  | some [.lst xs] => some (enumL xs)
  | some [.tup xs] => some (enumL xs)
  | _ => none
theorem icx_enumA (hg : Gl X "enumerate") (hm : X.mg "enumerate" = none) (ha : ABX X [e] fl) (hs : starEach [e] X.env = [(false, eval e X.env)] := by rfl) : ICX X (.Tuple elts kk tpos) (.Call (.Name "enumerate" p) [e] [] pos) (iEnumA fl) := pi_imp (pi_enA hg hm ha hs) fun σ H R q => by
  obtain ⟨H0, G0, G, env, ds, S, e1, q⟩ := q
  unfold iEnumA at e1
  split at e1
  · rename_i xs hf
    cases e1
    refine ⟨H0, G0, G, env, _, S, hf, fun vs H1 G1 x1 r1 => ?_⟩
    obtain ⟨a, ys, rfl, h1, h2⟩ := rpbl_lst r1
    exact ⟨a, ys, rfl, .inl ⟨SqL.of h1, q _ H1 G1 x1 (ite_ok (fun H G _ _ sh => SqL.of (sh _ _ h1)) h2)⟩⟩
  · rename_i xs hf
    cases e1
    refine ⟨H0, G0, G, env, _, S, hf, fun vs H1 G1 x1 r1 => ?_⟩
    obtain ⟨v, r, rfl, r1, rfl⟩ := r1
    obtain ⟨a, ys, rfl, h1, h2⟩ := rpb_tup r1
    have := iteT_ok (H1 := H1) (fun H G sg w => sqt_up w (sg _ _ h1)) h2
    exact ⟨a, ys, rfl, .inr ⟨sqt_up x1.wf h1, q _ H1 G1 x1 fun i H G sh sg w => this i H G sg w⟩⟩
  · cases e1
theorem ilx_enumA (hg : Gl X "enumerate") (hm : X.mg "enumerate" = none) (ha : AX X [e] fl) (hs : starEach [e] X.env = [(false, eval e X.env)] := by rfl) : ILX X (.Tuple elts kk tpos) (.Call (.Name "enumerate" p) [e] [] pos) (iEnumA fl) := pi_imp (pi_enA hg hm ha hs) fun σ H R q => by
  obtain ⟨H0, G0, G, env, ds, S, e1, q⟩ := q
  unfold iEnumA at e1
  split at e1
  · rename_i xs hf
    cases e1
    refine ⟨H0, G0, G, env, _, S, hf, fun vs H1 G1 x1 r1 => ?_⟩
    simp only [RpL, Rp] at r1
    obtain ⟨v, r, rfl, ⟨a, ys, rfl, h1, h2⟩, rfl⟩ := r1
    exact ⟨a, ys, rfl, .inl ⟨SqL.of (x1.wf.sub _ _ h1), q _ H1 G1 x1 (ite_okL h1 h2)⟩⟩
  · rename_i xs hf
    cases e1
    refine ⟨H0, G0, G, env, _, S, hf, fun vs H1 G1 x1 r1 => ?_⟩
    simp only [RpL, Rp] at r1
    obtain ⟨v, r, rfl, ⟨a, ys, rfl, h1, h2⟩, rfl⟩ := r1
    exact ⟨a, ys, rfl, .inr ⟨sqt_up x1.wf h1, q _ H1 G1 x1 (iteT_ok (fun H G sg w => sqt_up w (sg _ _ h1)) h2)⟩⟩
  · cases e1
end
end PD

set_option Elab.async false
set_option linter.all false
set_option maxRecDepth 100000
set_option maxHeartbeats 4000000
/-! sorted(xs, key=f), f a def of the program, in the walk's own invariant -/
namespace PD
open PySem PySem.Spec PyProof.Rows L2
open PySem.W (KeyedOut EachIs AllAlike sortVals dataKind SortsAt copyHeap)
/-- all but two objects are kept -/
def But2 (a k : Addr) (h h' : Heap) : Prop := ∀ b o, b ≠ a → b ≠ k → h.get? b = some o → h'.get? b = some o
section
variable {pg : Program} {wd : World} {Ar : Around} {Ex : Value → Shared → Prop} {t : Shared} {a kS : Addr} {us : List Value} {ks : Array Value} {n n1 : Nat} {F : PySem.Fin → Shared → Prop} {kz : List PyData}
theorem key_tail {st : SortSt} {out : List Value} (gk : t.heap.get? kS = some (seqObj "list" ks n)) (ga : t.heap.get? a = some (seqObj "list" #[] n1)) (ne : kS ≠ a)
    (z1 : ks.size ≤ sizeLine) (z2 : out.length ≤ sizeLine) (nf : failedOf st = none) (eo : (arrOf st).map (·.2) = out.toArray)
    (fin : ∀ g tk c, But2 a kS t.heap g → g.get? a = some (seqObj "list" out.toArray c) → F (.done (.ret .none)) { t with heap := g, toks := tk }) :
    wpAny (model pg wd) Ar (ksk_tail a false n1 (.ref kS) st) F Ex t := by
  have u1 := Heap.SameBut.update t.heap kS (Obj.mapSeq fun _ => (#[] : Array Value))
  have ga1 : (t.heap.update kS (Obj.mapSeq fun _ => (#[] : Array Value))).get? a = some (seqObj "list" #[] n1) := (u1.2 a ne.symm).trans ga
  have u2 := Heap.SameBut.update (t.heap.update kS (Obj.mapSeq fun _ => (#[] : Array Value))) a (Obj.mapSeq fun _ => out.toArray)
  obtain ⟨c, hc⟩ : ∃ c, ((t.heap.update kS (Obj.mapSeq fun _ => (#[] : Array Value))).update a (Obj.mapSeq fun _ => out.toArray)).get? a = some (seqObj "list" out.toArray c) := ⟨_, get?_update_seq ga1 fun _ => out.toArray⟩
  have z3 : out.toArray.size ≤ sizeLine + 1 := by
    rw [List.size_toArray]; omega
  unfold ksk_tail; try dsimp only
  simp only [Bool.false_eq_true, if_false]; rw [eo]
  refine wpAny_bind (listUpdate_at gk rfl ?_ z1 (Nat.zero_le _)); refine wpAny_bind (wpAny_letGo ?_); refine wpAny_bind (seqEpoch_at ga1 rfl ?_)
  refine wpAny_bind (listUpdate_at ga1 rfl ?_ (Nat.zero_le _) z3); rw [nf]
  simp only [bne_self_eq_false, Bool.false_eq_true, if_false]; exact wpAny_pure (fin _ _ c (fun b o hb hk q => (u2.2 b hb).trans ((u1.2 b hk).trans q)) hc)
theorem key_end {κ : PyProof.Rows.KeyKind} (gk : t.heap.get? kS = some (seqObj "list" ks n)) (ga : t.heap.get? a = some (seqObj "list" #[] n1)) (ne : kS ≠ a)
    (S : SortsAt pg wd Ar t κ ks.toList) (z1 : ks.size = us.length) (z2 : us.length ≤ sizeLine)
    (fin : ∀ g tk c, But2 a kS t.heap g → g.get? a = some (seqObj "list" (sortVals κ false ks.toList us).toArray c) → F (.done (.ret .none)) { t with heap := g, toks := tk }) :
    wpAny (model pg wd) Ar (ksk_end a false us.toArray n1 (.ref kS) ks) F Ex t := by
  obtain ⟨kd, h1, h2⟩ := S.kind
  have kl : ks.toList.length = us.length := by rw [Array.length_toList]; exact z1
  have kO : PyProof.Rows.KeysOf κ (ks.zip us.toArray) := PySem.W.keysOf_zip S.keys
  have ol : (sortVals κ false ks.toList us).length = us.length := PySem.W.sortVals_length false kl
  have zs : (ks.zip us.toArray).size = us.length := by rw [Array.size_zip, z1, List.size_toArray, Nat.min_self]
  have done : ∀ st : SortSt, (arrOf st).Perm (ks.zip us.toArray) → SortedToK κ (arrOf st) (ks.zip us.toArray).size → Stable κ (arrOf st) (ks.zip us.toArray) → (arrOf st).map (·.2) = (sortVals κ false ks.toList us).toArray := by
    intro st p1 p2 p3
    have e := congrArg List.toArray (PySem.W.sort_out (rev := false) (keys := ks) (items := us.toArray) (xs := arrOf st) (κ := κ) kO p1 p2 p3)
    rw [Array.toArray_toList] at e; exact e
  unfold ksk_end; try dsimp only
  simp only [Bool.false_eq_true, if_false]
  by_cases q : us.toArray.size < 2
  · rw [if_pos q, if_pos q]; refine wpAny_bind (wpAny_pure ?_)
    rw [StateT.run_pure]; refine wpAny_bind (wpAny_pure ?_)
    try dsimp only
    refine key_tail (st := SortSt.mk' general' (ks.zip us.toArray) #[] 7 none) gk ga ne (by rw [z1]; exact z2) (by rw [ol]; exact z2) rfl (done _ (Array.Perm.refl _) ?_ (Stable.refl _)) fin
    intro i j hij hj
    rw [zs] at hj; rw [List.size_toArray] at q
    have : i = j := by omega
    subst this
    exact KeyOrd.kle_refl _
  · rw [if_neg q, if_neg q]; rw [List.size_toArray] at q
    refine wpAny_bind (h2 (by omega) _ ?_)
    refine wpAny_bind (wpAny_mono (H.wpS_sortRunsSt (κ := κ) (kd := kd) (a₀ := ks.zip us.toArray) (st := SortSt.mk' kd (ks.zip us.toArray) #[] 7 none)
      (Q := fun _ st => failedOf st = none ∧ (arrOf st).map (·.2) = (sortVals κ false ks.toList us).toArray) h1 (kO.perm (Array.Perm.refl _)) ⟨Array.Perm.refl _, rfl, rfl⟩ rfl (Stable.refl _) (by rw [zs]; omega) fun st b1 b2 b3 b4 => ⟨b2, done st b1 b3 b4⟩) ?_ fun _ _ e => e)
    rintro ⟨⟨⟩, st⟩ t' ⟨rfl, hf, ho⟩; try dsimp only at ho ⊢
    exact key_tail gk ga ne (by rw [z1]; exact z2) (by rw [ol]; exact z2) hf ho fin
end
section
variable {X : Cx} {pins : List (Addr × Obj)} {σ : L2.St}
/-- a record that is ours, not tracked -/
structure Mine (X : Cx) (pins : List (Addr × Obj)) (b : Addr) : Prop where
  sz : X.s_0.heap.objs.size ≤ b
  loc : b ≠ X.env.locals
  cel : ∀ x c, X.env.cells.lookup x = some c → c ≠ b
  pin : ∀ p ∈ X.pn ++ pins, p.1 ≠ b
  fr : b ∉ frs X.stack
theorem mine_of {H : Hp} {s : Shared} (I : Inv X pins σ H s) {b : Addr} (hb : s.heap.objs.size ≤ b) : Mine X pins b := by
  obtain ⟨f0, f1, f2, f3, f4, f5⟩ := I.fpOk (H' := fun _ => none) hb rfl
  refine ⟨Nat.le_trans I.sz hb, f1, f4, f5, fun z => ?_⟩
  rcases List.mem_cons.mp (I.stkSub b z) with q | q
  · exact f1 q
  · exact f2 q
theorem Mine.turn {H : Hp} {s : Shared} {g : Heap} {t : Nat} {b : Addr} (m : Mine X pins b) (I : Inv X pins σ H s) (hn : H b = none) (k : ∀ c o, c ≠ b → s.heap.get? c = some o → g.get? c = some o) : Inv X pins σ H { s with heap := g, toks := t } :=
  I.turned k hn m.loc (.inr m.sz) m.cel m.pin
/-- a record that is ours becomes a list that is tracked; another one may have turned -/
theorem Mine.adopt {H : Hp} {s : Shared} {g : Heap} {t : Nat} {a b : Addr} {xs : List V} (m : Mine X pins a) (m2 : Mine X pins b) (I : Inv X pins σ H s) (na : H a = none) (nb : H b = none) (k : But2 a b s.heap g) (ok : ObjOk X.prog X.w (upd H a (.lst xs)) g a (.lst xs)) : Inv X pins σ (upd H a (.lst xs)) { s with heap := g, toks := t } := by
  have ha : ∃ o, g.get? a = some o := by
    obtain ⟨_, its, n, _, e⟩ := ok
    exact ⟨_, e⟩
  refine I.step (g' := s.gens) (d' := s.drawn) (ch := [a, b]) (fun c hc => ?_) (fun c o _ _ hc e _ => k c o (fun z => hc (by simp [z])) (fun z => hc (by simp [z])) e) (fun c o _ _ hc e _ => ⟨o.slots, k c o (fun z => hc (by simp [z])) (fun z => hc (by simp [z])) e⟩)
    (fun c o hc _ n => by rw [upd_ne (fun z => hc (by simp [z]))]; exact n) (fun c o hc e => ⟨o, k c o (fun z => hc (by simp [z])) (fun z => hc (by simp [z])) e⟩)
    (fun c ys e => by rw [upd_ne (ne_of_none e na)]; exact e) (fun c o u e => by rw [upd_ne (ne_of_none e na)]; exact e) (fun c ps e => ⟨#[], by rw [upd_ne (ne_of_none e na), e]; simp⟩) (fun mm hm => ?_) (fun c u e => ?_) I.bare
  · have e : c = a ∨ c = b := by simpa using hc
    rcases e with rfl | rfl
    · exact ⟨.inr m.sz, m.loc, m.cel, m.pin⟩
    · exact ⟨.inr m2.sz, m2.loc, m2.cel, m2.pin⟩
  · obtain ⟨o, es, ep, ho, r⟩ := hm
    exact ⟨o, es, ep, k _ o (Ne.symm m.loc) (Ne.symm m2.loc) ho, r⟩
  · by_cases hc : c = a
    · subst hc
      rw [upd_same] at e
      cases e
      exact ok
    · rw [upd_ne hc] at e
      refine (I.hok c u e).stay (fun d v hd q => k d v ?_ ?_ q) (fun d q => by rw [upd_ne (ne_of_none q na)]; exact q) fun d ys q => by rw [upd_ne (ne_of_none q na)]; exact q
      · rcases hd with z | z
        · rw [z]
          exact hc
        · exact ne_of_none z na
      · rcases hd with z | z
        · rw [z]
          exact ne_of_none e nb
        · exact ne_of_none z nb
variable {fa : Addr} {fd : FuncData} {ps : List Str} {lv : Nat} {run : List D → Option D}
/-- the key of one item is asked -/
theorem key_call {H G : Hp} {t : Shared} {v : V} {u : Value} {d kd : D} (F : FnOk X.prog X.w X.K X.mg X.base CX0 lv fa fd ps (spD X.K run 1)) (hb : L2.Binds X.K fd ps []) (hr : Room lv X.A.in1.in1) (I : Inv X pins σ H t) (w : Wf H G) (r : RelV v u) (rp : Rp X.K G d v) (hk : run [d] = some kd)
    {a kS : Addr} {oa ok : Obj} (ma : Mine X pins a) (mk : Mine X pins kS) (na : H a = none) (nk : H kS = none) (ga : t.heap.get? a = some oa) (gk : t.heap.get? kS = some ok) :
    wpAny (model X.prog X.w) X.A.in1.in1 (PySem.call (.ref fa) [u]) (fun y t' => ∃ z H' G', Inv X pins σ H' t' ∧ Ext H G H' G' ∧ RelV z y ∧ Rp X.K G' kd z ∧ H' a = none ∧ H' kS = none ∧ t'.heap.get? a = some oa ∧ t'.heap.get? kS = some ok) (fun _ _ => False) t := by
  have hs : spD X.K run 1 ([v] ++ []) H (fun z H' => ∃ G', Ext H G H' G' ∧ Rp X.K G' kd z) E0 := ⟨rfl, G, [d], kd, w, RpL.cons rp RpL.nil, hk, fun z H' G' x q => ⟨G', x, q⟩⟩
  have vs : Vals ([v] ++ []) ([u] ++ []) := .cons r .nil
  have hl : ([u] ++ [] : List Value).length = ps.length := by rw [← vs.length]; exact F.len _ _ _ _ hs
  refine wpAny_call (codeAny_mono (F.run X.A.in1.in1 X.stack t H ⟨[u], []⟩ ([u] ++ []) ([v] ++ []) _ E0 hr I.env0.in1.in1 (hb t [u] I.kIn hl) vs hs) fun y t' hq => ?_)
  cases y with
  | error e => exact False.elim hq
  | ok fl =>
    cases fl with
    | ret y =>
      obtain ⟨z, H', os, bare, un, hok, rz, G', x, q⟩ := hq
      obtain ⟨hh, g, dr, tk, os'⟩ := t'
      obtain rfl : os' = t.os := os
      refine ⟨z, H', G', I.call (h' := hh) (g' := g) (d' := dr) (t' := tk) (ch := []) un hok bare (fun b z => absurd z (by simp)), x, rz, q, un.free a _ ga na (by simp), un.free kS _ gk nk (by simp), un.keep a _ ga na ma.fr (by simp), un.keep kS _ gk nk mk.fr (by simp)⟩
    | next => exact False.elim hq
    | brk => exact False.elim hq
    | cont => exact False.elim hq
def sortK (kf : D → D) (ds : List D) : List D := ds.mergeSort (PySem.W.dataLe false fun d => py (kf d))
theorem key_rest {Ex : Value → Shared → Prop} {P : PySem.Fin → Shared → Prop} {H1 G1 : Hp} {t1 : Shared} {ds : List D} {xs : List V} {us : List Value} {kf : D → D} {a kS : Addr} {n1 : Nat} (F : FnOk X.prog X.w X.K X.mg X.base CX0 lv fa fd ps (spD X.K run 1)) (hb : L2.Binds X.K fd ps []) (hr : Room lv X.A.in1.in1)
    (I1 : Inv X pins σ H1 t1) (w1 : Wf H1 G1) (rp : RpL X.K G1 ds xs) (rv : Vals xs us) (hk : ∀ d ∈ ds, run [d] = some (kf d)) (so : sortOk (ds.map kf) = true) (zu : us.length ≤ sizeLine) (hu : X.A.units + 70 < cLine)
    (ma : Mine X pins a) (mk : Mine X pins kS) (na : H1 a = none) (nk : H1 kS = none) (ga : t1.heap.get? a = some (seqObj "list" #[] n1)) (gk : t1.heap.get? kS = some (seqObj "list" #[] 0)) (ne : kS ≠ a)
    (fin : ∀ H' G' ys t', Inv X pins σ (upd H' a (.lst ys)) t' → Ext H1 G1 H' G' → H' a = none → RpL X.K G' (sortK kf ds) ys → P (.done (.ret .none)) t') :
    wpAny (model X.prog X.w) X.A.in1.in1 (ksk_rest a (.ref fa) false us.toArray n1 (.ref kS)) P Ex t1 := by
  obtain ⟨o1, o2, o3⟩ := sortOk_s so
  have ld : ds.length = us.length := rp.len.trans rv.length
  unfold ksk_rest
  refine wpAny_bind (wpAny_rule ?_)
  first
    | rw [List.forIn_toArray]
    | (rw [← Array.forIn_toList]; simp only [List.toList_toArray])
    | rw [← Array.forIn_toList]
  refine wpAny_bind (ksk_fold (fun i t => ∃ H' G' kA e kvs, Inv X pins σ H' t ∧ Ext H1 G1 H' G' ∧ H' a = none ∧ H' kS = none ∧ t.heap.get? a = some (seqObj "list" #[] n1) ∧ t.heap.get? kS = some (seqObj "list" kA e) ∧ Vals kvs kA.toList ∧ RpL X.K G' ((ds.map kf).take i) kvs) us 0 t1
    ⟨H1, G1, #[], 0, [], I1, Ext.refl w1, na, nk, ga, gk, .nil, by rw [List.take_zero]; exact RpL.nil⟩ ?st ?dn)
  case st =>
    rintro j x t hx ⟨H', G', kA, e, kvs, I, x0, na', nk', ga', gk', vk, rk⟩
    simp only [Nat.zero_add] at rk ⊢
    have hj : j < us.length := (List.getElem?_eq_some_iff.mp hx).1
    have hd : ds[j]? = some (ds[j]'(by omega)) := List.getElem?_eq_getElem (by omega)
    obtain ⟨v, hv, rpv⟩ := rp.at hd
    obtain ⟨u, hu2, rvu⟩ := rv.get hv
    rw [hx] at hu2
    cases hu2
    have hkd := hk _ (List.mem_of_getElem? hd)
    have zk : kA.size ≤ us.length := by
      have h1 := vk.length
      have h2 := rk.len
      rw [List.length_take, List.length_map] at h2
      have h3 : kA.toList.length = kA.size := Array.length_toList
      omega
    refine wpAny_bind (wpAny_attempt (wpAny_mono (key_call F hb hr I x0.wf rvu (Rp.mono x0.gg _ _ rpv) hkd ma mk na' nk' ga' gk') (fun y t' q => ?_) fun _ _ z => z.elim))
    obtain ⟨z, H2, G2, I2, x2, rz, rkd, na2, nk2, ga2, gk2⟩ := q
    try dsimp only
    have u1 := Heap.SameBut.update t'.heap kS (Obj.mapSeq (·.push y))
    obtain ⟨c2, hc2⟩ : ∃ c2, (t'.heap.update kS (Obj.mapSeq (·.push y))).get? kS = some (seqObj "list" (kA.push y) c2) := ⟨_, get?_update_seq gk2 (·.push y)⟩
    refine wpAny_bind (listUpdate_at gk2 rfl ?_ (Nat.le_trans zk zu) (by rw [Array.size_push]; omega))
    refine wpAny_pure ⟨rfl, H2, G2, kA.push y, c2, kvs ++ [z], mk.turn I2 nk2 (fun c o hc q => (u1.2 c hc).trans q), x0.trans x2, na2, nk2, (u1.2 a ne.symm).trans ga2, hc2, ?_, ?_⟩
    · rw [show (kA.push y).toList = kA.toList ++ [y] from by simp]
      exact vk.append (.cons rz .nil)
    · have e1 : (ds.map kf).take (j + 1) = (ds.map kf).take j ++ [kf (ds[j]'(by omega))] := by
        rw [List.take_add_one, List.getElem?_map, hd]
        simp
      rw [e1]
      exact (RpL.mono x2.gg _ _ rk).snoc rkd
  case dn =>
    rintro t ⟨H', G', kA, e, kvs, I, x0, na', nk', ga', gk', vk, rk⟩
    have e3 : (ds.map kf).take (0 + us.length) = ds.map kf := List.take_of_length_le (by rw [List.length_map]; omega)
    rw [e3] at rk
    have zk : kA.size = us.length := by
      have h1 := vk.length
      have h2 := rk.len
      rw [List.length_map] at h2
      have h3 : kA.toList.length = kA.size := Array.length_toList
      omega
    have er := sv_reads I x0.wf o1 (sv_each rk vk)
    try dsimp only
    refine wpAny_bind (listItems_at gk' rfl ?_)
    have S : SortsAt X.prog X.w X.A.in1.in1 t (dataKind t.heap ((ds.map kf).map py)) kA.toList := sortsAt_all (PySem.W.each_map (R := fun v d => ∃ as, Reads t.heap v d as) py er) o3 o2 fun d hd => by
      obtain ⟨b, hb, rfl⟩ := List.mem_map.mp hd
      have := (okN_lay 62 b (o1 b hb)).2
      show X.A.units + 1 + 1 + (py b).depth < cLine
      omega
    refine key_end gk' ga' ne S zk zu fun g tk c k2 g2 => ?_
    have ko : KeyedOut false (ds.map fun d => py (kf d)) us (sortVals (dataKind t.heap ((ds.map kf).map py)) false kA.toList us) := by
      have : (ds.map kf).map py = ds.map fun d => py (kf d) := by rw [List.map_map]; rfl
      rw [this] at o3 ⊢
      exact ⟨t.heap, kA.toList, o3, rfl, by rw [← this]; exact PySem.W.each_map (R := fun v d => ∃ as, Reads t.heap v d as) py er⟩
    have eo := PySem.W.keyedOut_each (fun d => py (kf d)) ko (sv_each (RpL.mono x0.gg _ _ rp) rv)
    obtain ⟨ys, hy, ry⟩ := sv_back eo
    have hlen : ys.length ≤ sizeLine := by
      rw [ry.length, eo.length, List.length_mergeSort]
      omega
    exact fin H' G' ys _ (ma.adopt mk I na' nk' k2 ⟨hlen, _, c, ry, g2⟩) x0 na' hy
def rKey (K : PySem.W.Frag) (fa : Addr) (run : List D → Option D) : List V → List V → Hp → VK → Prop := fun vs zs H Q => ∃ l xs ds G kf, vs = [V.ref l] ∧ zs = [V.ref fa] ∧ SqL K H l xs ∧ Wf H G ∧ RpL K G ds xs ∧ (∀ d ∈ ds, run [d] = some (kf d)) ∧ sortOk (ds.map kf) = true ∧
  ∀ p ys H' G', Ext H G H' G' → H p = none → H' p = some (.lst ys) → G' p = none → RpL K G' (sortK kf ds) ys → Q (.ref p) H'
theorem call_key (F : FnOk X.prog X.w X.K X.mg X.base CX0 lv fa fd ps (spD X.K run 1)) (hb : L2.Binds X.K fd ps []) (hr : Room (lv + 2) X.A) : CallRK X (.builtin "sorted") [Str.ofString "key"] (rKey X.K fa run) := by
  intro pins s σ H vs zs us ws Q I r rz h
  obtain ⟨l, xs, ds, G, kf, rfl, rfl, hs, w, rp, hk, so, q⟩ := h
  obtain ⟨its, rv, hl, hz⟩ := I.list hs
  rw [Vals.ref1 r, Vals.ref1 rz]
  have zi : its.length ≤ sizeLine := by
    rw [← rv.length]
    exact hz
  have hu : X.A.units + 70 < cLine := by
    have := hr.un
    omega
  show wpAny _ _ (PySem.call (.builtin "sorted") [.ref l] [(Str.ofString "key", .ref fa)]) _ _ _
  refine PySem.W.sorted_of_sort (vs := its) hl.isList zi (ksk_s1 _ _) (fun _ => ksk_l1 _ _) fun E' => ?_
  rw [ksk_t1]
  have ho := PySem.W.copyHeap_at s.heap its
  generalize ha : s.heap.objs.size + 1 = a at ho ⊢
  have keep0 : ∀ b o, s.heap.get? b = some o → (copyHeap s.heap its).get? b = some o := fun b o e => PySem.W.copyHeap_old e
  generalize copyHeap s.heap its = h0 at ho keep0 ⊢
  have la : a < h0.objs.size := Heap.lt_size ho
  have u0 := Heap.SameBut.update h0 a (Obj.mapSeq fun _ => (#[] : Array Value))
  obtain ⟨n1, ho1⟩ : ∃ n1, (h0.update a (Obj.mapSeq fun _ => (#[] : Array Value))).get? a = some (seqObj "list" #[] n1) := ⟨_, get?_update_seq ho fun _ => #[]⟩
  have zk : ((h0.update a (Obj.mapSeq fun _ => (#[] : Array Value))).push (seqObj "tuple" its.toArray 0)).objs.size = h0.objs.size + 1 := by rw [size_push', Heap.size_update]
  unfold ksk_tree
  refine wpAny_bind (listItems_at ho rfl ?_)
  refine wpAny_bind (listUpdate_at ho rfl ?_ (by rw [List.size_toArray]; exact zi) (Nat.zero_le _))
  refine wpAny_bind (seqEpoch_at ho1 rfl ?_)
  refine wpAny_bind (wpAny_newTuple ?_ (by show its.length ≤ _; exact zi))
  refine wpAny_bind (wpAny_newList ?_ (Nat.zero_le _))
  refine wpAny_holding ?_
  have old : ∀ b o, s.heap.get? b = some o → (((h0.update a (Obj.mapSeq fun _ => (#[] : Array Value))).push (seqObj "tuple" its.toArray 0)).push (seqObj "list" #[] 0)).get? b = some o := fun b o e => by
    have hb : b ≠ a := Nat.ne_of_lt (by rw [← ha]; exact Nat.lt_succ_of_lt (Heap.lt_size e))
    exact Heap.get?_push_of_some _ (Heap.get?_push_of_some _ ((u0.2 b hb).trans (keep0 b o e)))
  have I1 : Inv X pins σ H { s with heap := ((h0.update a (Obj.mapSeq fun _ => (#[] : Array Value))).push (seqObj "tuple" its.toArray 0)).push (seqObj "list" #[] 0) } := I.kept (t' := s.toks) old
  have ls : s.heap.objs.size < h0.objs.size := Nat.lt_trans (by rw [← ha]; exact Nat.lt_succ_self _) la
  have hk0 : s.heap.objs.size ≤ ((h0.update a (Obj.mapSeq fun _ => (#[] : Array Value))).push (seqObj "tuple" its.toArray 0)).objs.size := by
    rw [zk]
    exact Nat.le_succ_of_le (Nat.le_of_lt ls)
  have na : H a = none := I.hok.fresh (by omega)
  refine key_rest F hb ⟨hr.hd, by have := hr.dp; show X.A.depth + 3 * lv + 5 < _; omega, by have := hr.un; show X.A.units + 1 + 1 + 16 * lv + 200 < _; omega⟩ I1 w rp rv hk so zi hu (mine_of I (by omega)) (mine_of I hk0) na (I.hok.fresh hk0) (Heap.get?_push_of_some _ (Heap.get?_push_of_some _ ho1)) (Heap.get?_push_size _ rfl) (Nat.ne_of_gt (by rw [zk]; exact Nat.lt_succ_of_lt la)) fun H' G' ys t' I' x na' ry => ⟨rfl, ?_⟩
  exact ⟨.ref a, _, I', rfl, q a ys _ G' (x.trans (Ext.fresh x.wf na' rfl)) na upd_same (wf_none x.wf na') ry⟩
/-- the def's own value, told by its name -/
theorem pe_def {x : Str} {p : Pos} (hg : Gl X x) (hm : X.mg x = some (.ref fa)) (hdb : (x == ("__debug__" : Str)) = false := by decide) : PE X (.Name x p) (fun _ H Q => Q (.ref fa) H) :=
  ⟨fun pins s σ H Q I h => ld_glob I hg hm ⟨.ref fa, H, I, rfl, h⟩ hdb⟩
end
def gKey (run : List D → Option D) : List D → Option (List D)
  | [.lst ds] => if (ds.all fun d => (run [d]).isSome) && sortOk (ds.map fun d => (run [d]).getD .non) then some (sortK (fun d => (run [d]).getD .non) ds) else none
  | _ => none
section
variable {X : Cx} {x y : Str} {lv lv' : Nat} {run : List D → Option D} {a : Expr} {fa : Fe} {p p2 kp pos : Pos}
/-- sorted(xs, key=f) -/
theorem fx_sortkey (F : FnT X.prog X.w X.K X.mg X.base y lv 1 run) (hr : Room lv' X.A) (hl : lv + 2 ≤ lv') (hg : Gl X "sorted") (hm : X.mg "sorted" = none) (hgy : Gl X y) (hv : bootBuiltins "sorted" = some (.builtin "sorted")) (ha : BX X a fa) (hdy : (y == ("__debug__" : Str)) = false := by decide)
    (h1 : starEach [a] X.env = (false, eval a X.env) :: starEach [] X.env := by rfl)
    (he : backTo pos (starEach [a] X.env) = (false, eval a X.env) :: backTo pos (starEach [] X.env) := by rfl) (hpl : (backTo pos (starEach [a] X.env)).any (·.1) = false := by rfl)
    (hall : (backToKw pos (keywordEach [⟨some "key", .Name y p2, kp⟩] X.env)).all (·.1.isSome) = true := by rfl) (hnone : (backToKw pos (keywordEach [⟨some "key", .Name y p2, kp⟩] X.env)).any (·.1.isNone) = false := by rfl) (hks : (backToKw pos (keywordEach [⟨some "key", .Name y p2, kp⟩] X.env)).filterMap (·.1) = [Str.ofString "key"] := by rfl) :
    FX X (.Call (.Name "sorted" p) [a] [⟨some "key", .Name y p2, kp⟩] pos) (fCall (gKey run) (aCons fa aNil)) := by
  obtain ⟨g, fd, ps, F1, hmy, hkp, hb⟩ := F.ex
  refine pe_imp (pe_callBK (call_key F1 hb (hr.mono hl)) hg hm hv (pa_one ha h1) (pk_cons (pe_def hgy hmy hdy) pk_nil) (by decide) (by decide) he hpl hall hnone hks) fun σ H Q q => ?_
  obtain ⟨H0, G0, G, env, ds, S, e1, q⟩ := q
  obtain ⟨as, e2, e3⟩ := Option.bind_eq_some_iff.mp e1
  obtain ⟨x, e4, e5⟩ := Option.bind_eq_some_iff.mp e2
  cases e5
  unfold gKey at e3
  split at e3
  · rename_i es hz
    cases hz
    split at e3
    · rename_i hok
      cases e3
      rw [Bool.and_eq_true, List.all_eq_true] at hok
      refine ⟨H0, G0, G, env, _, S, e4, fun v H1 G1 x1 r1 => ?_⟩
      obtain ⟨l, vs, rfl, hl, hr⟩ := r1
      refine ⟨l, vs, es, G1, fun d => (run [d]).getD .non, rfl, rfl, SqL.of hl, x1.wf, hr, fun d hd => ?_, hok.2, fun p ys H2 G2 x2 np hp gp ry => q p ys H2 G2 (x1.trans x2) (x1.hh.free np) hp gp ry⟩
      obtain ⟨z, hz⟩ := Option.isSome_iff_exists.mp (hok.1 d hd)
      show run [d] = some ((run [d]).getD .non)
      rw [hz]
      rfl
    · cases e3
  · cases e3
end
end PD

set_option Elab.async false
set_option linter.all false
set_option maxRecDepth 100000
set_option maxHeartbeats 4000000
/-! sets of whole numbers: sorted(set(xs)), k in set(xs) -/
namespace PD
open PySem PySem.Spec PyProof.Rows L2
section
variable {pg : Program} {wd : World} {Ar : Around} {Ex : Value → Shared → Prop} {s : Shared}
theorem call_set_lstI {lo : Addr} {its : Array Value} (ms : List Int) {Q : Value → Shared → Prop} (kh : Ar.handled = none) (kl : s.heap.IsList lo its) (ki : IntsAre its.toList ms) (kb : ms.length + 1 < scanBound)
    (h : ∀ (h' : Heap) (tk c : Nat), SetR wd h' s.heap.objs.size (fun j => decide (j ∈ ms)) c → c ≤ ms.length → (∀ b o, s.heap.get? b = some o → h'.get? b = some o) → Q (.ref s.heap.objs.size) { s with heap := h', toks := tk }) :
    wpAny (model pg wd) Ar (PySem.call (.type "set") [.ref lo]) Q Ex s := by
  have zs : its.size = ms.length := by
    have q := IntsAre.length ki
    rw [Array.length_toList] at q
    exact q
  obtain ⟨c, tl0, kmro⟩ := F.called_set.mro
  have kmade := F.called_set.made
  have ksub := F.called_set.sub
  refine wpAny_call (codeAny_of_tree ?_); show wpAny _ _ (callAny (.type "set") _) _ _ _
  refine wpAny_pure ⟨Code.quiet_builtin _ (by decide +kernel), codeAny_builtin F.entry_type_call ?_⟩; rw [Around.under_plain (weight_type_call_type "set" [.ref lo] []) rfl]
  have p1 := F.called_set.notType
  have p2 := F.called_set.canCreate
  have kct := F.typeCall_set_1 (.ref lo)
  (repeat (any_goals (first | assumption | wp_step))); refine codeAny_mono (code_set_led1 (.ref lo) (E := Ex) (Q₁ := fun oj t₁ => oj = .ref s.heap.objs.size ∧ t₁ = { s with heap := s.heap.push { cls := .type "set", dict := none, data := .set #[] 0 (.fresh 0 0 (!wd.params.followText "set-order")) } }) ⟨rfl, rfl⟩) fun r t₁ mr => ?_
  cases r with
  | error e => exact mr
  | ok fw =>
    cases fw with
    | ret oj =>
      obtain ⟨rfl, rfl⟩ := mr
      have mS : (s.heap.push { cls := .type "set", dict := none, data := .set #[] 0 (.fresh 0 0 (!wd.params.followText "set-order")) }).get? s.heap.objs.size = some { cls := .type "set", dict := none, data := .set #[] 0 (.fresh 0 0 (!wd.params.followText "set-order")) } := Heap.get?_push_size _ rfl
      have mT : Shared.TypeIs { s with heap := s.heap.push { cls := .type "set", dict := none, data := .set #[] 0 (.fresh 0 0 (!wd.params.followText "set-order")) } } (.ref s.heap.objs.size) "set" := ⟨_, mS, rfl⟩
      have mli := F.called_set.init.lookup
      have mbi := F.called_set.init.bind (.ref s.heap.objs.size)
      (repeat (any_goals (first | assumption | wp_step))); refine codeAny_mono (codeAny_call_builtin (R := wants (fun r t₂ => r = .none ∧ ∃ h' tk c, t₂ = { s with heap := h', toks := tk } ∧ SetR wd h' s.heap.objs.size (fun j => decide (j ∈ ms)) c ∧ c ≤ ms.length ∧
          (∀ b o, s.heap.get? b = some o → h'.get? b = some o)) Ex) F.called_set.init.plain F.entry_set_init (check_set_init_1 mT ?_)) fun y₂ t₂ mr₂ => ?_
      · obtain ⟨ob, mob, mcl, nb, mdl⟩ := kl
        obtain ⟨oc, od, ot, os1⟩ := ob
        simp only at mcl mdl
        subst mcl; subst mdl
        have mob' : (s.heap.push { cls := .type "set", dict := none, data := .set #[] 0 (.fresh 0 0 (!wd.params.followText "set-order")) }).get? lo = some { cls := .type "list", dict := od, data := .seq its nb, slots := os1 } := Heap.get?_push_of_some _ mob
        have msl := F.sub_list_set
        have msf := F.sub_list_frozenset
        have mne : (Value.type "list" == Value.type "dict") = false := by decide
        have kl1 : (s.heap.push { cls := .type "set", dict := none, data := .set #[] 0 (.fresh 0 0 (!wd.params.followText "set-order")) }).IsList lo its := ⟨_, mob', rfl, nb, rfl⟩
        unfold Builtin.«set.__init__» noKeywords Builtin.Frozenset.updateFrom; generalize mPI : pyIter = JI
        wp_walk
        subst mPI
        refine wpAny_pyIter_list kl1 ?_
        refine wpAny_bind (wpAny_runValue ?_); have klS : lo < s.heap.objs.size := Heap.lt_size mob
        have k3 : Ar.in1.in1.in1.handled = none := by simp [kh]
        have kz1 : (s.heap.push { cls := .type "set", dict := none, data := .set #[] 0 (.fresh 0 0 (!wd.params.followText "set-order")) }).objs.size = s.heap.objs.size + 1 := Heap.size_push ..
        have kneI : lo ≠ (s.heap.push { cls := .type "set", dict := none, data := .set #[] 0 (.fresh 0 0 (!wd.params.followText "set-order")) }).objs.size := by
          rw [Heap.size_push]; exact Nat.ne_of_lt (Nat.lt_succ_of_lt klS)
        have mSf : s.heap.objs.size ∉ [(s.heap.push { cls := .type "set", dict := none, data := .set #[] 0 (.fresh 0 0 (!wd.params.followText "set-order")) }).objs.size, lo] := by
          rw [Heap.size_push]; simp only [List.mem_cons, List.mem_singleton, List.not_mem_nil, or_false, not_or]; exact ⟨Nat.ne_of_lt (Nat.lt_succ_self _), Nat.ne_of_gt klS⟩
        have mval : ∀ (i : Nat) (v : Value), its[i]? = some v → ∃ k t, ms[i]? = some k ∧ v = .int k t := fun i v hv => by
          have hj : i < ms.length := by rw [← zs]; exact (Array.getElem?_eq_some_iff.mp hv).1
          obtain ⟨t, e⟩ := PyProof.Rows.IntsAre.int_at ki i v (by rw [Array.getElem?_toList]; exact hv)
          refine ⟨ms[i], t, List.getElem?_eq_getElem hj, ?_⟩
          rw [e, List.getD_eq_getElem?_getD, List.getElem?_eq_getElem hj] <;> rfl
        refine set_update_ints ((Walks.list k3 _ lo kneI its).toS) s.heap.objs.size
          mSf ms zs kb mval (its.size - 0) 0 _ (by omega) (Nat.zero_le _)
          ⟨⟨_, Heap.get?_push_size _ rfl, rfl, rfl⟩, (kl1.push _)⟩ ?hS0 ?hR
        case hS0 =>
          have mget : ((s.heap.push { cls := .type "set", dict := none, data := .set #[] 0 (.fresh 0 0 (!wd.params.followText "set-order")) }).push { cls := .type "list_iterator", data := .fields #[.ref lo, .int 0 0] }).get? s.heap.objs.size
              = some { cls := .type "set", dict := none, data := .set #[] 0 (.fresh 0 0 (!wd.params.followText "set-order")) } := Heap.get?_push_of_some _ mS
          exact ⟨0, Nat.le_refl 0, setR_new_at mget⟩
        case hR =>
          intro s' c' mm mc' mS'
          obtain ⟨h', g2, d', tk', os'⟩ := s'; have e_g : g2 = s.gens := mm.gens
          have e_d : d' = s.drawn := mm.drawn
          have e_o : os' = s.os := mm.os
          subst e_g; subst e_d; subst e_o
          show wpAny _ _ _ _ _ _
          refine wpAny_pure ?_
          show wpAny _ _ (ret Value.none) _ _ _; rw [zs] at mc'
          refine wpAny_pure ⟨rfl, h', tk', c', rfl, mS', mc', fun b o e => ?_⟩
          have kb0 : b < s.heap.objs.size := Heap.lt_size e
          have kb1 : b ≠ s.heap.objs.size := Nat.ne_of_lt kb0
          have kb2 : b ≠ (s.heap.push { cls := .type "set", dict := none, data := .set #[] 0 (.fresh 0 0 (!wd.params.followText "set-order")) }).objs.size := by
            rw [Heap.size_push]; exact Nat.ne_of_lt (Nat.lt_succ_of_lt kb0)
          exact mm.heap b o (by simp only [List.mem_cons, List.mem_singleton, List.not_mem_nil, or_false, not_or]; exact ⟨kb1, kb2⟩) (Heap.get?_push_of_some _ (Heap.get?_push_of_some _ e))
      · cases y₂ with
        | error e => exact mr₂
        | ok fw₂ =>
          cases fw₂ with
          | ret r =>
            obtain ⟨rfl, h', tk, c', rfl, mS', mc', mk'⟩ := mr₂
            (repeat (any_goals (first | assumption | wp_step))); exact h _ _ _ mS' mc' mk'
          | _ => exact mr₂.elim
    | _ => exact mr.elim
end
end PD

set_option Elab.async false
set_option linter.all false
set_option maxRecDepth 100000
set_option maxHeartbeats 4000000
namespace PD
open PySem PySem.Spec PyProof.Rows L2
/-! the set of a list or a tuple of whole numbers -/
theorem inv_set {X : Cx} {pins : List (Addr × Obj)} {σ : L2.St} {H : Hp} {s : Shared} {h' : Heap} {tk c : Nat} {ms : List Int} (I : Inv X pins σ H s) (R : SetR X.w h' s.heap.objs.size (fun j => decide (j ∈ ms)) c) (k : ∀ b o, s.heap.get? b = some o → h'.get? b = some o) :
    Inv X pins σ (upd H s.heap.objs.size (SetO X.w s.heap.objs.size (fun j => decide (j ∈ ms)) c)) { s with heap := h', toks := tk } :=
  I.laid (t' := tk) k (Nat.le_refl _) (setO_new R)
def rSetI (w : World) (K : PySem.W.Frag) : List V → Hp → VK → Prop := fun vs H Q => ∃ (l : Addr) (ms : List Int), vs = [V.ref l] ∧ (SqL K H l (ms.map V.int) ∨ SqT K H l (ms.map V.int)) ∧ ms.length ≤ 4000 ∧
  ∀ p c, H p = none → c ≤ ms.length → Q (.ref p) (upd H p (SetO w p (fun j => decide (j ∈ ms)) c))
theorem cr_setI {X : Cx} (hc : X.calm = true) : CallR X (.type "set") (rSetI X.w X.K) := by
  intro pins s σ H vs us Q I r h
  obtain ⟨l, ms, rfl, hq, h1, q⟩ := h
  rw [Vals.ref1 r]
  have zb : ms.length + 1 < scanBound := by
    unfold scanBound
    omega
  rcases hq with hq | hq
  · obtain ⟨its, rv, pl, hz⟩ := I.list hq
    refine call_set_lstI ms (I.ok.hd hc) pl.isList (by simpa using ints_of_vals rv) zb fun h' tk c R hc k => ?_
    exact ⟨.ref _, _, inv_set I R k, rfl, q _ c (I.hok.fresh (Nat.le_refl _)) hc⟩
  · obtain ⟨its, rv, pl, hz⟩ := I.tuple hq
    refine call_set_tupI ms (I.ok.hd hc) pl (by simpa using ints_of_vals rv) zb fun h' tk c R hc k => ?_
    exact ⟨.ref _, _, inv_set I R k, rfl, q _ c (I.hok.fresh (Nat.le_refl _)) hc⟩
def dedupI (ms : List Int) : List Int := ms.foldl (fun acc k => if k ∈ acc then acc else acc ++ [k]) []
theorem foldI_mem : ∀ (ms acc : List Int) (k : Int), k ∈ ms.foldl (fun acc k => if k ∈ acc then acc else acc ++ [k]) acc ↔ k ∈ acc ∨ k ∈ ms
  | [], acc, w => by simp
  | x :: r, acc, w => by
    rw [List.foldl_cons, foldI_mem r]
    by_cases h : x ∈ acc
    · rw [if_pos h, List.mem_cons]
      constructor
      · rintro (q | q)
        · exact .inl q
        · exact .inr (.inr q)
      · rintro (q | q | q)
        · exact .inl q
        · exact .inl (q ▸ h)
        · exact .inr q
    · rw [if_neg h, List.mem_append, List.mem_singleton, List.mem_cons, or_assoc]
theorem foldI_nd : ∀ (ms acc : List Int), acc.Nodup → (ms.foldl (fun acc k => if k ∈ acc then acc else acc ++ [k]) acc).Nodup
  | [], acc, h => h
  | x :: r, acc, h => by
    rw [List.foldl_cons]
    refine foldI_nd r _ ?_
    split
    · exact h
    · rename_i q
      refine List.nodup_append.mpr ⟨h, by simp, fun a ha b hb => ?_⟩
      rw [List.mem_singleton] at hb
      rw [hb]
      intro z
      rw [z] at ha
      exact q ha
theorem dedupI_mem {ms : List Int} {k : Int} : k ∈ dedupI ms ↔ k ∈ ms := by
  unfold dedupI
  rw [foldI_mem]
  simp
theorem dedupI_nd (ms : List Int) : (dedupI ms).Nodup := foldI_nd ms [] List.nodup_nil
/-- sorted(set(ms)) -/
def sortSI (ms : List Int) : List Int := sortI (dedupI ms)
theorem sortSI_mem {ms : List Int} {k : Int} : k ∈ sortSI ms ↔ k ∈ ms := by
  unfold sortSI
  rw [(sortI_perm _).mem_iff, dedupI_mem]
theorem sortSI_lt (ms : List Int) : (sortSI ms).Pairwise (· < ·) := by
  have h1 := sortI_sorted (dedupI ms)
  have h2 : (sortSI ms).Nodup := (sortI_perm _).nodup_iff.mpr (dedupI_nd ms)
  exact (h1.and h2).imp fun ⟨a, b⟩ => by omega
theorem lt_unique : ∀ {as bs : List Int}, (∀ x, x ∈ as ↔ x ∈ bs) → as.Pairwise (· < ·) → bs.Pairwise (· < ·) → as = bs
  | [], [], _, _, _ => rfl
  | [], b :: bs, h, _, _ => by
    have := (h b).mpr List.mem_cons_self
    cases this
  | a :: as, [], h, _, _ => by
    have := (h a).mp List.mem_cons_self
    cases this
  | a :: as, b :: bs, h, h1, h2 => by
    have p1 := List.pairwise_cons.mp h1
    have p2 := List.pairwise_cons.mp h2
    have e : a = b := by
      rcases List.mem_cons.mp ((h a).mp List.mem_cons_self) with z | z
      · exact z
      · rcases List.mem_cons.mp ((h b).mpr List.mem_cons_self) with y | y
        · exact y.symm
        · have := p2.1 a z
          have := p1.1 b y
          omega
    subst e
    rw [lt_unique (fun x => ?_) p1.2 p2.2]
    have hx := h x
    rw [List.mem_cons, List.mem_cons] at hx
    constructor
    · intro q
      rcases hx.mp (.inr q) with z | z
      · have := p1.1 x q
        omega
      · exact z
    · intro q
      rcases hx.mpr (.inr q) with z | z
      · have := p2.1 x q
        omega
      · exact z
def itemsO : D → Option (List D)
  | .lst xs => some xs
  | .tup xs => some xs
  | _ => none
def gSortSetI : List D → Option (List D)
  | [x] => (itemsO x).bind fun xs => (intsOf xs).bind fun ms => if decide (ms.length < 64) then some ((sortSI ms).map D.int) else none
  | _ => none
def gLenSetI : List D → Option D
  | [x] => (itemsO x).bind fun xs => (intsOf xs).bind fun ms => if decide (ms.length ≤ 4000) then some (.int ((dedupI ms).length : Nat)) else none
  | _ => none
theorem rpb_ints {K : PySem.W.Frag} {H G : Hp} (w : Wf H G) {d : D} {xs : List D} {ms : List Int} {v : V} (h : itemsO d = some xs) (h2 : intsOf xs = some ms) (r : RpB K H G d v) : ∃ l, v = V.ref l ∧ (SqL K H l (ms.map V.int) ∨ SqT K H l (ms.map V.int)) := by
  unfold itemsO at h
  split at h
  · cases h
    obtain ⟨l, vs, rfl, hl, hr⟩ := r
    rw [intsOf_some h2] at hr
    rw [RpL.ints hr] at hl
    exact ⟨l, rfl, .inl (SqL.of hl)⟩
  · cases h
    obtain ⟨l, vs, rfl, hl, hr⟩ := rpb_tup r
    rw [intsOf_some h2] at hr
    rw [RpL.ints hr] at hl
    exact ⟨l, rfl, .inr (sqt_up w hl)⟩
  · cases h
theorem setR_count {w : World} {h : Heap} {a : Addr} {ms : List Int} {c : Nat} (R : SetR w h a (fun j => decide (j ∈ ms)) c) : c = (dedupI ms).length := by
  obtain ⟨o, es, ep, t, ho, hx, hd, hg, nd, mem, hs, hf, hn, _⟩ := R
  have p : (es.toList.map keyOf).Perm (dedupI ms) := (List.perm_ext_iff_of_nodup nd (dedupI_nd ms)).mpr fun k => by
    rw [dedupI_mem, ← mem k, decide_eq_true_eq]
  have := p.length_eq
  rw [List.length_map, Array.length_toList] at this
  omega
section
variable {X : Cx} {a : Expr} {fa : Fe} {p p2 q pos : Pos}
theorem fx_sortseti (hc : X.calm = true) (hg : Gl X "sorted") (hm : X.mg "sorted" = none) (hg2 : Gl X "set") (hm2 : X.mg "set" = none) (hv : bootBuiltins "sorted" = some (.builtin "sorted")) (hv2 : bootBuiltins "set" = some (.type "set")) (ha : BX X a fa)
    (h1 : starEach [a] X.env = (false, eval a X.env) :: starEach [] X.env := by rfl) (h2 : starEach [Expr.Call (.Name "set" p2) [a] [] q] X.env = (false, eval (Expr.Call (.Name "set" p2) [a] [] q) X.env) :: starEach [] X.env := by rfl)
    (hp1 : (backTo q (starEach [] X.env)).any (·.1) = false := by rfl) (hp2 : (backTo pos (starEach [] X.env)).any (·.1) = false := by rfl) :
    FX X (.Call (.Name "sorted" p) [.Call (.Name "set" p2) [a] [] q] [] pos) (fCall gSortSetI (aCons fa aNil)) := by
  have inner : PE X (.Call (.Name "set" p2) [a] [] q) (tCB (rSetI X.w X.K) (tCons (tB X.K fa) tNil)) := pe_callTy (cr_setI hc) hg2 hm2 hv2 (pa_one ha h1) (by decide) (by decide) h1 hp1
  refine pe_imp (pe_callB (cr_sortedSet hc) hg hm hv (pa_one inner h2) (by decide) (by decide) h2 hp2) fun σ H Q q => ?_
  obtain ⟨H0, G0, G, env, ds, S, e1, q⟩ := q
  obtain ⟨as, e2, e3⟩ := Option.bind_eq_some_iff.mp e1
  obtain ⟨x, e4, e5⟩ := Option.bind_eq_some_iff.mp e2
  cases e5
  obtain ⟨xs, e6, e7⟩ := Option.bind_eq_some_iff.mp (show (itemsO x).bind _ = some ds from e3)
  obtain ⟨ms, e8, e9⟩ := Option.bind_eq_some_iff.mp e7
  split at e9
  · rename_i hok
    cases e9
    have hok := of_decide_eq_true hok
    refine ⟨H0, G0, G, env, _, S, e4, fun v H1 G1 x1 r1 => ?_⟩
    obtain ⟨l, rfl, hl⟩ := rpb_ints x1.wf e6 e8 r1
    refine ⟨l, ms, rfl, hl, by omega, fun A c hA hc2 => ?_⟩
    have x2 : Ext H1 G1 (upd H1 A (SetO X.w A (fun j => decide (j ∈ ms)) c)) G1 := Ext.fresh x1.wf hA rfl
    refine ⟨A, _, c, rfl, upd_same, by omega, fun ns P pw hmem hlen hP => ?_⟩
    have e : ns = sortSI ms := lt_unique (fun k => by rw [hmem k, sortSI_mem, decide_eq_true_eq]) pw (sortSI_lt ms)
    refine q P _ _ G1 ((x1.trans x2).trans (Ext.fresh x2.wf hP rfl)) ((x1.trans x2).hh.free hP) upd_same (wf_none x2.wf hP) ?_
    rw [e]
    exact RpL.of_ints _
  · cases e9
theorem pe_or {e : Expr} {t1 t2 : TE} (h1 : PE X e t1) (h2 : PE X e t2) : PE X e (fun σ H Q => t1 σ H Q ∨ t2 σ H Q) := ⟨fun pins s σ H Q I h => h.elim (h1.run pins s σ H Q I) (h2.run pins s σ H Q I)⟩
/-- of tuples or of whole numbers -/
def gSortSet2 (ds : List D) : Option (List D) := match gSortSetI ds with
  | some r => some r
  | none => gSortSet ds
theorem fx_sortset2 (hc : X.calm = true) (hu : X.A.units + 65 < cLine) (hg : Gl X "sorted") (hm : X.mg "sorted" = none) (hg2 : Gl X "set") (hm2 : X.mg "set" = none) (hv : bootBuiltins "sorted" = some (.builtin "sorted")) (hv2 : bootBuiltins "set" = some (.type "set")) (ha : BX X a fa)
    (h1 : starEach [a] X.env = (false, eval a X.env) :: starEach [] X.env := by rfl) (h2 : starEach [Expr.Call (.Name "set" p2) [a] [] q] X.env = (false, eval (Expr.Call (.Name "set" p2) [a] [] q) X.env) :: starEach [] X.env := by rfl)
    (hp1 : (backTo q (starEach [] X.env)).any (·.1) = false := by rfl) (hp2 : (backTo pos (starEach [] X.env)).any (·.1) = false := by rfl) :
    FX X (.Call (.Name "sorted" p) [.Call (.Name "set" p2) [a] [] q] [] pos) (fCall gSortSet2 (aCons fa aNil)) :=
  pe_imp (pe_or (fx_sortseti (p := p) (pos := pos) hc hg hm hg2 hm2 hv hv2 ha h1 h2 hp1 hp2) (fx_sortset hc hu hg hm hg2 hm2 hv hv2 ha h1 h2 hp1 hp2)) fun σ H Q q => by
    obtain ⟨H0, G0, G, env, ds, S, e1, q⟩ := q
    obtain ⟨as, e2, e3⟩ := Option.bind_eq_some_iff.mp e1
    unfold gSortSet2 at e3
    split at e3
    · rename_i r hr
      cases e3
      exact .inl ⟨H0, G0, G, env, _, S, Option.bind_eq_some_iff.mpr ⟨as, e2, hr⟩, q⟩
    · exact .inr ⟨H0, G0, G, env, _, S, Option.bind_eq_some_iff.mpr ⟨as, e2, e3⟩, q⟩
/-- len(set(xs)) -/
theorem ex_lenset (hc : X.calm = true) (hg : Gl X "len") (hm : X.mg "len" = none) (hg2 : Gl X "set") (hm2 : X.mg "set" = none) (hv : bootBuiltins "len" = some (.builtin "len")) (hv2 : bootBuiltins "set" = some (.type "set")) (ha : BX X a fa)
    (h1 : starEach [a] X.env = (false, eval a X.env) :: starEach [] X.env := by rfl) (h2 : starEach [Expr.Call (.Name "set" p2) [a] [] q] X.env = (false, eval (Expr.Call (.Name "set" p2) [a] [] q) X.env) :: starEach [] X.env := by rfl)
    (hp1 : (backTo q (starEach [] X.env)).any (·.1) = false := by rfl) (hp2 : (backTo pos (starEach [] X.env)).any (·.1) = false := by rfl) :
    EX X (.Call (.Name "len" p) [.Call (.Name "set" p2) [a] [] q] [] pos) (eCall gLenSetI (aCons fa aNil)) := by
  have inner : PE X (.Call (.Name "set" p2) [a] [] q) (tCB (rSetI X.w X.K) (tCons (tB X.K fa) tNil)) := pe_callTy (cr_setI hc) hg2 hm2 hv2 (pa_one ha h1) (by decide) (by decide) h1 hp1
  have lenR : CallR X (.builtin "len") (fun vs H Q => ∃ (A : Addr) (ms : List Int) (c : Nat), vs = [V.ref A] ∧ H A = some (SetO X.w A (fun j => decide (j ∈ ms)) c) ∧ c ≤ 4000 ∧ Q (.int ((dedupI ms).length : Nat)) H) := by
    intro pins s σ H vs us Q I r h
    obtain ⟨A, ms, c, rfl, hA, h4, q⟩ := h
    have R := setO_get I hA
    have ec := setR_count R
    rw [Vals.ref1 r]
    obtain ⟨o, es, ep, t, ho, hx, hd, hg, nd, mem, hs, hf, hn, _⟩ := R
    refine call_len_set ho hx hd hf (by omega) ⟨.int ((dedupI ms).length : Nat), H, ?_, ⟨_, by rw [hn, ec]⟩, q⟩
    exact (I.tok _)
  refine pe_imp (pe_callB lenR hg hm hv (pa_one inner h2) (by decide) (by decide) h2 hp2) fun σ H Q q => ?_
  obtain ⟨H0, G0, G, env, d, S, e1, q⟩ := q
  obtain ⟨as, e2, e3⟩ := Option.bind_eq_some_iff.mp e1
  obtain ⟨x, e4, e5⟩ := Option.bind_eq_some_iff.mp e2
  cases e5
  obtain ⟨xs, e6, e7⟩ := Option.bind_eq_some_iff.mp (show (itemsO x).bind _ = some d from e3)
  obtain ⟨ms, e8, e9⟩ := Option.bind_eq_some_iff.mp e7
  split at e9
  · rename_i hok
    cases e9
    have hok := of_decide_eq_true hok
    refine ⟨H0, G0, G, env, _, S, e4, fun v H1 G1 x1 r1 => ?_⟩
    obtain ⟨l, rfl, hl⟩ := rpb_ints x1.wf e6 e8 r1
    refine ⟨l, ms, rfl, hl, by omega, fun A c hA hc2 => ?_⟩
    have x2 : Ext H1 G1 (upd H1 A (SetO X.w A (fun j => decide (j ∈ ms)) c)) G1 := Ext.fresh x1.wf hA rfl
    exact ⟨A, ms, c, rfl, upd_same, by omega, q _ _ G1 (x1.trans x2) (rp_int _)⟩
  · cases e9
end
end PD

set_option Elab.async false
set_option linter.all false
set_option maxRecDepth 100000
namespace PD
open PySem PySem.Spec PyProof.Rows L2
section
variable {X : Cx} {a b e o ke fe : Expr} {fo fk f fv : Fe} {fl : Fl} {pos p apos cpos : Pos} {tg : Expr}
/-! ### d.get(k), d.get(k, x) -/
theorem isd_of {K : PySem.W.Frag} {H G : Hp} {t : Bool} {ds : List (D × D)} {a : Addr} (h : DicAt K H G t ds a) : IsD H a := by
  rcases h with ⟨_, ks, h1, _⟩ | ⟨_, ks, h1, _⟩
  · exact .inl ⟨ks, h1⟩
  · exact .inr ⟨ks, h1⟩
def gDGet2 : D → D → D → Option D
  | .dic t kvs, k, z => if keyOk t k then some ((lookD kvs k).getD z) else none
  | _, _, _ => none
def eDGet1 (fo fk : Fe) : Fe := fun env => (fo env).bind fun x => (fk env).bind fun k => gDGet2 x k .non
def eDGet2 (fo fk fz : Fe) : Fe := fun env => (fo env).bind fun x => (fk env).bind fun k => (fz env).bind fun z => gDGet2 x k z
theorem ex_dget1 (hu : X.A.units + 65 < cLine) (ho : BX X o fo) (hi : EX X ke fk) (m : M1 X o "get" apos ke cpos := by exact ⟨by rfl, by rfl, by rfl, by rfl⟩) : EX X (.Call (.Attribute o "get" apos) [ke] [] cpos) (eDGet1 fo fk) := pe_imp (pe_dget1 (by omega) ho hi m) fun σ H Q q => by
  obtain ⟨H0, G0, G, env, d, S, e1, q⟩ := q
  obtain ⟨x, h1, e1⟩ := Option.bind_eq_some_iff.mp e1
  obtain ⟨k, h2, e1⟩ := Option.bind_eq_some_iff.mp e1
  cases x with
  | dic t kvs =>
    simp only [gDGet2] at e1
    split at e1
    · rename_i hk
      cases e1
      refine ⟨H0, G0, G, env, _, S, h1, fun v H1 G1 x1 r1 => ?_⟩
      obtain ⟨a, rfl, hd⟩ := rpb_dic r1
      refine ⟨a, rfl, isd_of hd, H0, G0, G1, env, _, S.ext x1, h2, fun y H2 G2 x2 r2 => ?_⟩
      obtain ⟨a', e', hd⟩ := rpb_dic (r1.ext x2)
      cases e'
      obtain ⟨ov, g, hv, hn⟩ := dget_of x2.wf hd hk r2
      refine ⟨ov, g, q _ H2 G2 (x1.trans x2) ?_⟩
      cases hl : lookD kvs k with
      | none =>
        rw [hn hl]
        simp only [Option.getD_none, Rp]
      | some d =>
        obtain ⟨v, rfl, rv⟩ := hv d hl
        simpa only [Option.getD_some] using rv
    · cases e1
  | _ => cases e1
theorem ex_dget2 (hu : X.A.units + 65 < cLine) (ho : BX X o fo) (hi : EX X ke fk) (hf : EX X fe fv) (m : M2 X o "get" apos ke fe cpos := by exact ⟨by rfl, by rfl, by rfl, by rfl⟩) : EX X (.Call (.Attribute o "get" apos) [ke, fe] [] cpos) (eDGet2 fo fk fv) := pe_imp (pe_dget2 (by omega) ho hi hf m) fun σ H Q q => by
  obtain ⟨H0, G0, G, env, d, S, e1, q⟩ := q
  obtain ⟨x, h1, e1⟩ := Option.bind_eq_some_iff.mp e1
  obtain ⟨k, h2, e1⟩ := Option.bind_eq_some_iff.mp e1
  obtain ⟨z, h3, e1⟩ := Option.bind_eq_some_iff.mp e1
  cases x with
  | dic t kvs =>
    simp only [gDGet2] at e1
    split at e1
    · rename_i hk
      cases e1
      refine ⟨H0, G0, G, env, _, S, h1, fun v H1 G1 x1 r1 => ?_⟩
      obtain ⟨a, rfl, hd⟩ := rpb_dic r1
      refine ⟨a, rfl, isd_of hd, H0, G0, G1, env, _, S.ext x1, h2, fun y H2 G2 x2 r2 => ⟨H0, G0, G2, env, _, (S.ext x1).ext x2, h3, fun y' H3 G3 x3 r3 => ?_⟩⟩
      obtain ⟨a', e', hd⟩ := rpb_dic (r1.ext (x2.trans x3))
      cases e'
      obtain ⟨ov, g, hv, hn⟩ := dget_of x3.wf hd hk (Rp.mono x3.gg _ _ r2)
      refine ⟨ov, g, q _ H3 G3 (x1.trans (x2.trans x3)) ?_⟩
      cases hl : lookD kvs k with
      | none =>
        rw [hn hl]
        exact r3
      | some d =>
        obtain ⟨v, rfl, rv⟩ := hv d hl
        simpa only [Option.getD_some] using rv
    · cases e1
  | _ => cases e1
/-! ### a new dict as a settled value -/
def asDic (s : Fn) : Fe := fun env => match s env with
  | some (.ownD t ks) => some (.dic t ks)
  | _ => none
theorem Ext.lockD {H1 G1 H G : Hp} (x : Ext H1 G1 H G) {p : Addr} {u : HO} (n : H1 p = none) (g : G p = none) : Ext H1 G1 (upd H p u) (upd G p u) := by
  refine ⟨fun b v q => ?_, fun b v q => ?_, ⟨fun b v q => ?_, fun b v q hh => ?_⟩, fun b v q => ?_⟩
  · rw [upd_ne (ne_of_none q n)]
    exact x.hh b v q
  · have g1 : G1 p = none := x.gg.free g
    rw [upd_ne (ne_of_none q g1)]
    exact x.gg b v q
  · by_cases hb : b = p
    · subst hb
      rw [upd_same] at q ⊢
      exact q
    · rw [upd_ne hb] at q ⊢
      exact x.wf.sub b v q
  · by_cases hb : b = p
    · subst hb
      rw [upd_same] at q ⊢
      exact q
    · rw [upd_ne hb] at q ⊢
      exact x.wf.tin b v q hh
  · by_cases hb : b = p
    · subst hb
      exact .inr n
    · rw [upd_ne hb] at q
      exact x.new b v q
theorem ex_dc {s : Fn} (h : NX X e s) : EX X e (asDic s) := by
  refine ⟨fun pins sh σ H Q I q => ?_⟩
  obtain ⟨H0, G0, G, env, d, S, e1, q⟩ := q
  unfold asDic at e1
  split at e1
  · rename_i t ks hs
    cases e1
    refine thn (h.run pins sh σ H (fun v H1 => ∃ p u, v = .ref p ∧ H1 p = some u ∧ Hid u = true ∧ (∃ k, u = .dK k ∨ ∃ k, u = .dT k) ∧ ∀ od, Q v (upd H1 p (.frz od u))) I ⟨H0, G0, G, env, _, S, hs, fun v H1 G1 x1 r1 => ?_⟩) fun u s1 ⟨v, H1, I1, rv, p, w, ev, hp, hh, hk, q1⟩ => ?_
    · obtain ⟨p, rfl, n, g, r⟩ := r1
      rcases r with ⟨ht, k, h6, h7⟩ | ⟨ht, k, h6, h7⟩
      · refine ⟨p, _, rfl, h6, rfl, ⟨k, .inl rfl⟩, fun od => q _ _ (upd G1 p (.frz od (.dK k))) (x1.lockD n g) ?_⟩
        simp only [Rp]
        exact ⟨p, rfl, .inl ⟨ht, od, k, upd_same, RpK.mono (same_updN g) _ _ h7⟩⟩
      · refine ⟨p, _, rfl, h6, rfl, ⟨[], .inr ⟨k, rfl⟩⟩, fun od => q _ _ (upd G1 p (.frz od (.dT k))) (x1.lockD n g) ?_⟩
        simp only [Rp]
        exact ⟨p, rfl, .inr ⟨ht, od, k, upd_same, RpT.mono (same_updN g) _ _ h7⟩⟩
    · subst ev
      obtain ⟨k, hk⟩ := hk
      rcases hk with rfl | ⟨k, rfl⟩
      · obtain ⟨od, I'⟩ := I1.lock hp trivial
        exact ⟨_, _, I', rv, q1 od⟩
      · obtain ⟨od, I'⟩ := I1.lock hp trivial
        exact ⟨_, _, I', rv, q1 od⟩
  · cases e1
end
/-! ### list(d), sorted(d) -/
def gListD : List D → Option (List D)
  | [.dic false kvs] => some (kvs.map (·.1))
  | _ => none
theorem rpk_keys {K : PySem.W.Frag} {G : Hp} : ∀ {ds : List (D × D)} {ks : List (Key × V)}, RpK K G ds ks → RpL K G (ds.map (·.1)) (ks.map fun kv => kV kv.1)
  | [], _, h => by
    simp only [RpK] at h
    subst h
    exact RpL.nil
  | (kd, d) :: ds, _, h => by
    simp only [RpK] at h
    obtain ⟨k, x, r, rfl, rfl, _, h⟩ := h
    exact RpL.cons (kV_rp k) (rpk_keys h)
theorem rpbl_dicF {K : PySem.W.Frag} {H G : Hp} {ds : List (D × D)} {vs : List V} (h : RpBL K H G [.dic false ds] vs) : ∃ a ks, vs = [.ref a] ∧ Rd H a (.dK ks) ∧ RpK K G ds ks := by
  obtain ⟨v, e, h3⟩ := rpbl1 h
  obtain ⟨a, e2, hd⟩ := rpb_dic h3
  rw [e, e2]
  unfold DicAt at hd
  rcases hd with ⟨_, ks, h1, h2⟩ | ⟨z, _⟩
  · exact ⟨a, ks, rfl, h1, h2⟩
  · cases z
theorem clistD {X : Cx} (hc : X.calm = true) : CallR X (.type "list") (rCF X.K gListD) := (call_listD hc).imp fun vs H Q q => by
  obtain ⟨G, ds, d, w, r, e, q⟩ := q
  unfold gListD at e
  split at e
  · cases e
    obtain ⟨a, ks, rfl, h1, h2⟩ := rpbl_dicF r
    exact ⟨a, ks, rfl, h1, tF_new w (rpk_keys h2) q⟩
  · cases e
def gSortD : List D → Option (List D)
  | [.dic false kvs] => (intsOf (kvs.map (·.1))).bind fun ns => if ns.length < 64 then some ((sortI ns).map D.int) else none
  | _ => none
theorem rpk_ints {K : PySem.W.Frag} {G : Hp} : ∀ {ds : List (D × D)} {ks : List (Key × V)} {ns : List Int}, RpK K G ds ks → ds.map (·.1) = ns.map D.int → ks.map (·.1) = ns.map Sum.inl
  | [], _, ns, h, e => by
    simp only [RpK] at h
    subst h
    cases ns with
    | nil => rfl
    | cons _ _ => cases e
  | (kd, d) :: ds, _, ns, h, e => by
    simp only [RpK] at h
    obtain ⟨k, x, r, rfl, rfl, _, h⟩ := h
    cases ns with
    | nil => cases e
    | cons n ns =>
      simp only [List.map_cons, List.cons.injEq] at e ⊢
      refine ⟨?_, rpk_ints h e.2⟩
      cases k with
      | inl i =>
        have e1 := e.1
        simp only [kD, D.int.injEq] at e1
        rw [e1]
      | inr i => cases e.1
theorem csortDD {X : Cx} (hc : X.calm = true) : CallR X (.builtin "sorted") (rCF X.K gSortD) := (call_sortedDI hc).imp fun vs H Q q => by
  obtain ⟨G, ds, d, w, r, e, q⟩ := q
  unfold gSortD at e
  split at e
  · obtain ⟨ns, h1, e⟩ := Option.bind_eq_some_iff.mp e
    split at e
    · rename_i hz
      cases e
      obtain ⟨a, ks, rfl, h3, h4⟩ := rpbl_dicF r
      refine ⟨a, ks, ns, rfl, h3, rpk_ints h4 (intsOf_some h1), hz, fun ys p pm so hp => ?_⟩
      have := sorted_unique (pm.trans (sortI_perm ns).symm) so (sortI_sorted ns)
      subst this
      exact tF_new w (RpL.of_ints _) q p hp
    · cases e
  · cases e
/-! ### range(i, j, c), c from 1 on -/
def iRgU (fl : Fl) : Fl := fun env => match fl env with
  | some [.int i, .int j, .int c] => if rngOk i && rngOk j && decide (0 < c) && decide (c < 1048576) then some (rngC i c ((j - i + (c - 1)) / c).toNat) else none
  | _ => none
theorem rgc_up {i j c : Int} (h1 : rngOk i = true) (h2 : rngOk j = true) (h3 : 0 < c) (h4 : c < 1048576) : RgC i j c ((j - i + (c - 1)) / c).toNat := by
  unfold rngOk at h1 h2
  simp only [Bool.and_eq_true, decide_eq_true_eq] at h1 h2
  have es : Builtin.Range.rangeSize i j c = (((j - i + (c - 1)) / c).toNat : Int) := by
    unfold Builtin.Range.rangeSize
    rw [if_pos h3]
    by_cases hij : i < j
    · rw [if_pos hij]
      have e : (j - i + (c - 1)) / c = (j - i - 1) / c + 1 := by
        rw [show j - i + (c - 1) = (j - i - 1) + c by omega, Int.add_ediv_of_dvd_right (Int.dvd_refl c), Int.ediv_self (by omega)]
      rw [e]
      have : 0 ≤ (j - i - 1) / c := Int.ediv_nonneg (by omega) (by omega)
      omega
    · rw [if_neg hij]
      have e : (j - i + (c - 1)) / c ≤ 0 := by
        have : (j - i + (c - 1)) / c < 1 := Int.ediv_lt_of_lt_mul h3 (by omega)
        omega
      omega
  have bs : (((j - i + (c - 1)) / c).toNat : Int) ≤ 4000000000 := by
    have : (j - i + (c - 1)) / c ≤ max 0 (j - i + (c - 1)) := by
      by_cases hn : 0 ≤ j - i + (c - 1)
      · have := Int.ediv_le_self c hn
        omega
      · have : (j - i + (c - 1)) / c < 0 := Int.ediv_neg_of_neg_of_pos (by omega) h3
        omega
    omega
  have b0 : (0 : Int) ≤ (((j - i + (c - 1)) / c).toNat : Int) := by omega
  refine ⟨by omega, by omega, ?_, es⟩
  unfold Builtin.Range.small
  rw [es]
  generalize (((j - i + (c - 1)) / c).toNat : Int) = e at bs b0
  simp only [Builtin.Range.rangeFitsLong, Bool.and_eq_true, Bool.or_eq_true, decide_eq_true_eq, if_pos h3, gt_iff_lt]
  omega
section
variable {X : Cx} {tg a b c : Expr} {fl : Fl} {p pos : Pos}
theorem ilx_rgU (hg : Gl X "range") (hm : X.mg "range" = none) (ha : ABX X [a, b, c] fl) (hs : starEach [a, b, c] X.env = (false, eval a X.env) :: starEach [b, c] X.env := by rfl) (hpl : (backTo pos (starEach [b, c] X.env)).any (·.1) = false := by rfl) :
    ILX X tg (.Call (.Name "range" p) [a, b, c] [] pos) (iRgU fl) := pi_imp (pi_range3 hg hm ha hs hpl) fun σ H R q => by
  obtain ⟨H0, G0, G, env, ds, S, e1, q⟩ := q
  unfold iRgU at e1
  split at e1
  · rename_i i j c hj
    split at e1
    · rename_i hz
      simp only [Bool.and_eq_true, decide_eq_true_eq] at hz
      obtain ⟨⟨⟨h1, h2⟩, h3⟩, h4⟩ := hz
      cases e1
      refine ⟨H0, G0, G, env, _, S, hj, fun vs H1 G1 x1 r1 => ?_⟩
      obtain ⟨v, r, rfl, ra, r1⟩ := r1
      obtain ⟨v2, r, rfl, rb, r1⟩ := r1
      obtain ⟨v3, r, rfl, rc, r1⟩ := r1
      have r1 : r = [] := r1
      subst r1
      exact ⟨i, j, c, _, by rw [rpb_int ra, rpb_int rb, rpb_int rc], rgc_up h1 h2 h3 h4, q _ H1 G1 x1 itc_okL⟩
    · cases e1
  · cases e1
end
end PD

set_option Elab.async false
set_option linter.all false
set_option maxRecDepth 100000
namespace PD
open PySem PySem.Spec PyProof.Rows L2
section
variable {X : Cx} {tg a b e : Expr} {f : Fe} {fl : Fl} {pos p tpos : Pos}
/-! ### for x in reversed(xs) -/
def iRevD (f : Fe) : Fl := fun env => match f env with
  | some (.lst xs) => some xs.reverse
  | some (.tup xs) => some xs.reverse
  | _ => none
theorem itv_ok {K : PySem.W.Frag} {a : Addr} {xs : List V} {ds : List D} {H1 G1 : Hp} (h : ∀ H G : Hp, Same G1 G → Wf H G → Same H1 H → SqL K H a xs) (r : RpL K G1 ds xs) : ItC K (Itv K a xs.length) ds.reverse H1 G1 := fun i H G sh sg w => by
  have hs := h H G sg w sh
  have hl := r.len
  refine ⟨fun hi => by rw [List.length_reverse, hl] at hi; exact hi, fun d hd => ?_⟩
  have hd' := hd
  obtain ⟨hi, _⟩ := List.getElem?_eq_some_iff.mp hd'
  rw [List.length_reverse] at hi
  rw [List.getElem?_reverse hi] at hd
  rw [hl] at hd hi
  obtain ⟨x, hx, rx⟩ := r.at hd
  refine ⟨⟨hi, xs, x, hs, hx⟩, fun y H' hy => ?_⟩
  obtain ⟨rfl, hy⟩ := hy
  have := hy xs hs
  rw [hx] at this
  cases this
  exact ⟨G, Ext.refl w, Rp.mono sg _ _ rx⟩
theorem itvT_ok {K : PySem.W.Frag} {a : Addr} {xs : List V} {ds : List D} {H1 G1 : Hp} (h : ∀ H G : Hp, Same G1 G → Wf H G → SqT K H a xs) (r : RpL K G1 ds xs) : ItL K (RT.ItvT K a xs.length) ds.reverse H1 G1 := fun i H G sg w => by
  have hs := h H G sg w
  have hl := r.len
  refine ⟨fun hi => by rw [List.length_reverse, hl] at hi; exact hi, fun d hd => ?_⟩
  have hd' := hd
  obtain ⟨hi, _⟩ := List.getElem?_eq_some_iff.mp hd'
  rw [List.length_reverse] at hi
  rw [List.getElem?_reverse hi] at hd
  rw [hl] at hd hi
  obtain ⟨x, hx, rx⟩ := r.at hd
  refine ⟨⟨hi, xs, x, hs, hx⟩, fun y H' hy => ?_⟩
  obtain ⟨rfl, hy⟩ := hy
  have := hy xs hs
  rw [hx] at this
  cases this
  exact ⟨G, Ext.refl w, Rp.mono sg _ _ rx⟩
theorem ilx_rev (hg : Gl X "reversed") (hm : X.mg "reversed" = none) (he : EX X e f) (hs : starEach [e] X.env = (false, eval e X.env) :: starEach [] X.env := by rfl) : ILX X tg (.Call (.Name "reversed" p) [e] [] pos) (iRevD f) := pi_imp (RT.pi_revA hg hm he hs) fun σ H R q => by
  obtain ⟨H0, G0, G, env, ds, S, e1, q⟩ := q
  unfold iRevD at e1
  split at e1
  · rename_i xs hf
    cases e1
    refine ⟨H0, G0, G, env, _, S, hf, fun v H1 G1 x1 r1 => ?_⟩
    simp only [Rp] at r1
    obtain ⟨a, ys, rfl, h1, h2⟩ := r1
    refine ⟨a, ys, rfl, .inl ⟨SqL.of (x1.wf.sub _ _ h1), q _ H1 G1 x1 fun i H G sg w => ?_⟩⟩
    exact itv_ok (H1 := fun _ => none) (fun H G sg w _ => SqL.of (w.sub _ _ (sg _ _ h1))) h2 i H G (fun _ _ e => nomatch e) sg w
  · rename_i xs hf
    cases e1
    refine ⟨H0, G0, G, env, _, S, hf, fun v H1 G1 x1 r1 => ?_⟩
    simp only [Rp] at r1
    obtain ⟨a, ys, rfl, h1, h2⟩ := r1
    exact ⟨a, ys, rfl, .inr ⟨sqt_up x1.wf h1, q _ H1 G1 x1 (itvT_ok (fun H G sg w => sqt_up w (sg _ _ h1)) h2)⟩⟩
  · cases e1
end
end PD

set_option Elab.async false
set_option linter.all false
set_option maxRecDepth 100000
namespace PD
open PySem PySem.Spec PyProof.Rows L2
/-! ### lists of lists that change -/
theorem In2.len {K : PySem.W.Frag} {H0 H G : Hp} : ∀ {dss : List (List D)} {bs : List Addr}, In2 K H0 H G dss bs → dss.length = bs.length
  | [], _, h => by
    have h : _ = [] := h
    rw [h]
    rfl
  | ds :: dss, _, h => by
    obtain ⟨b, r, ys, rfl, h1, h2, h3, h4, h5⟩ := h
    simp only [List.length_cons, In2.len h5]
theorem In2.at {K : PySem.W.Frag} {H0 H G : Hp} : ∀ {dss : List (List D)} {bs : List Addr} {k : Nat} {ds : List D}, In2 K H0 H G dss bs → dss[k]? = some ds → ∃ b ys, bs[k]? = some b ∧ H b = some (.lst ys) ∧ RpL K G ds ys
  | [], _, k, ds, h, e => by simp at e
  | d :: dss, _, k, ds, h, e => by
    obtain ⟨b, r, ys, rfl, h1, h2, h3, h4, h5⟩ := h
    cases k with
    | zero =>
      simp only [List.getElem?_cons_zero, Option.some.injEq] at e
      subst e
      exact ⟨b, ys, rfl, h1, h4⟩
    | succ k =>
      simp only [List.getElem?_cons_succ] at e
      obtain ⟨b', ys', q1, q2, q3⟩ := In2.at h5 e
      exact ⟨b', ys', by rw [List.getElem?_cons_succ]; exact q1, q2, q3⟩
theorem In2.set {K : PySem.W.Frag} {H0 H G : Hp} {b : Addr} {ds' : List D} {ys' : List V} (r' : RpL K G ds' ys') : ∀ {dss : List (List D)} {bs : List Addr} {k : Nat}, In2 K H0 H G dss bs → bs.Nodup → bs[k]? = some b → In2 K H0 (upd H b (.lst ys')) G (dss.set k ds') bs
  | [], _, k, h, _, e => by
    have h : _ = [] := h
    rw [h] at e
    simp at e
  | d :: dss, _, k, h, nd, e => by
    obtain ⟨c, r, ys, rfl, h1, h2, h3, h4, h5⟩ := h
    have nd' := List.nodup_cons.mp nd
    cases k with
    | zero =>
      simp only [List.getElem?_cons_zero, Option.some.injEq] at e
      subst e
      refine ⟨c, r, ys', rfl, upd_same, h2, h3, r', h5.keep (Same.refl G) (fun x hx u q => ?_) fun x hx => (h5.mem x hx).2.1⟩
      rw [upd_ne (fun z => nd'.1 (by rw [← z]; exact hx))]
      exact q
    | succ k =>
      simp only [List.getElem?_cons_succ] at e
      refine ⟨c, r, ys, rfl, ?_, h2, h3, h4, In2.set r' h5 nd'.2 e⟩
      rw [upd_ne (fun z => nd'.1 (by rw [z]; exact List.mem_of_getElem? e))]
      exact h1
theorem In2.snoc {K : PySem.W.Frag} {H0 H G : Hp} {b : Addr} {ds : List D} {ys : List V} (h1 : H b = some (.lst ys)) (h2 : G b = none) (h3 : H0 b = none) (h4 : RpL K G ds ys) : ∀ {dss : List (List D)} {bs : List Addr}, In2 K H0 H G dss bs → In2 K H0 H G (dss ++ [ds]) (bs ++ [b])
  | [], _, h => by
    have h : _ = [] := h
    rw [h]
    exact ⟨b, [], ys, rfl, h1, h2, h3, h4, rfl⟩
  | d :: dss, _, h => by
    obtain ⟨c, r, zs, rfl, q1, q2, q3, q4, q5⟩ := h
    exact ⟨c, r ++ [b], zs, rfl, q1, q2, q3, q4, In2.snoc h1 h2 h3 h4 q5⟩
section
variable {K : PySem.W.Frag} {H0 G0 H G : Hp} {σ : L2.St} {env : List Sl}
/-- any object of a slot is changed -/
theorem Ste.changeF (S : Ste K H0 G0 H G σ env) {i : Nat} {s s' : Sl} {x : Option V} {a : Addr} {o u : HO} (e : env[i]? = some s) (hv : σ[i]? = some x) (fa : Foot H s x a) (hH : H a = some o) (hG : G a = none) (h0 : H0 a = none) (hu : Hid u = true)
    (ok : SlOk K H0 (upd H a u) G s' x) (hf : ∀ c, Foot (upd H a u) s' x c → Foot H s x c) : Ste K H0 G0 (upd H a u) G σ (env.set i s') := by
  have kp : ∀ (j : Nat) (t : Sl) (y : Option V), i ≠ j → env[j]? = some t → σ[j]? = some y → ∀ b v, Foot H t y b → H b = some v → upd H a u b = some v := fun j t y hj ej vj b v f q => by
    have hb : b ≠ a := fun z => by
      subst z
      exact hj (S.disF i j s t x y b e ej hv vj fa f)
    rw [upd_ne hb]
    exact q
  have old : ∀ (j : Nat) (t : Sl) (y : Option V) (c : Addr), (env.set i s')[j]? = some t → σ[j]? = some y → Foot (upd H a u) t y c → ∃ t', env[j]? = some t' ∧ Foot H t' y c := fun j t y c ej vj f => by
    rcases set_at ej with ⟨z1, z2⟩ | ⟨hj, g1⟩
    · rw [z2] at f
      rw [← z1] at vj ⊢
      rw [hv] at vj
      cases vj
      exact ⟨s, e, hf c f⟩
    · exact ⟨t, g1, foot_back (S.sl j t y g1 vj) (kp j t y hj g1 vj) f⟩
  refine ⟨⟨fun b v q => ?_, S.x0.gg, ⟨fun b v q => ?_, fun b v q hh => ?_⟩, S.x0.new⟩, by rw [List.length_set]; exact S.len, fun j t y e1 e2 => ?_, fun j k t t' y z c e1 e2 v1 v2 f1 f2 => ?_⟩
  · rw [upd_ne (ne_of_none q h0)]
    exact S.x0.hh b v q
  · rw [upd_ne (ne_of_none q hG)]
    exact S.wf.sub b v q
  · by_cases hb : b = a
    · subst hb
      rw [upd_same] at q
      cases q
      rw [hu] at hh
      cases hh
    · rw [upd_ne hb] at q
      exact S.wf.tin b v q hh
  · rcases set_at e1 with ⟨rfl, rfl⟩ | ⟨hj, g1⟩
    · rw [hv] at e2
      cases e2
      exact ok
    · exact slok_keep (S.sl j t y g1 e2) (Same.refl G) (kp j t y hj g1 e2) fun b f => (foot_ok (S.sl j t y g1 e2) f).2.1
  · obtain ⟨ta, h1, h2⟩ := old j t y c e1 v1 f1
    obtain ⟨tb, h3, h4⟩ := old k t' z c e2 v2 f2
    exact S.disF j k ta tb y z c h1 h3 v1 v2 h2 h4
/-- an inner list is changed -/
theorem Ste.inner (S : Ste K H0 G0 H G σ env) {i : Nat} {dss : List (List D)} {a b : Addr} {bs : List Addr} {k : Nat} {ys ys' : List V} {ds' : List D} (e : env[i]? = some (.own2 dss)) (hv : σ[i]? = some (some (.ref a))) (ha : H a = some (.lst (bs.map V.ref))) (hb : bs[k]? = some b) (hy : H b = some (.lst ys)) (r' : RpL K G ds' ys') : Ste K H0 G0 (upd H b (.lst ys')) G σ (env.set i (.own2 (dss.set k ds'))) := by
  obtain ⟨x, hx, a', bs', rfl, h2, h3, h4, h5, h6⟩ := S.at e
  rw [hv] at hx
  cases hx
  rw [ha] at h2
  cases ref_inj (HO.lst.inj (Option.some.inj h2))
  have hm := List.mem_of_getElem? hb
  have nd := List.nodup_cons.mp h5
  have ne : a ≠ b := fun z => nd.1 (by rw [z]; exact hm)
  have hbm := h6.mem b hm
  refine S.changeF e hv (.inr ⟨a, bs, rfl, ha, hm⟩) hy hbm.2.1 hbm.2.2 rfl ⟨a, bs, rfl, by rw [upd_ne ne]; exact ha, h3, h4, h5, h6.set r' nd.2 hb⟩ fun c f => ?_
  rcases f with f | ⟨a2, bs2, f1, f2, f3⟩
  · exact .inl f
  · cases f1
    rw [upd_ne ne, ha] at f2
    cases ref_inj (HO.lst.inj (Option.some.inj f2))
    exact .inr ⟨a, bs, rfl, ha, f3⟩
end
theorem atI_ref {bs : List Addr} {z : Int} {j : Nat} {b : Addr} (h : ixN bs.length z = some j) (hb : bs[j]? = some b) : atI (bs.map V.ref) z = some (V.ref b) := by
  unfold atI
  rw [List.length_map, h]
  show (bs.map V.ref)[j]? = _
  rw [List.getElem?_map, hb]
  rfl
section
variable {X : Cx} {a b e be : Expr} {f fi fj : Fe} {pos p p1 p2 : Pos} {x : Str} {i : Nat}
/-! ### x[k], looked at -/
def bIn2 (i : Nat) (fi : Fe) : Fe := fun env => match env[i]? with
  | some (.own2 dss) => (fi env).bind fun k => match k with
    | .int z => (ixN dss.length z).bind fun j => (dss[j]?).map D.lst
    | _ => none
  | _ => none
theorem bx_in2 (hN : X.N[i]? = some x) (hv : Vis X.env.scope x) (hb : BX X b fi) (hs : PlainIx b := by intro _ _; rfl) (hd : (x == ("__debug__" : Str)) = false := by decide) (hcd : (x == ("__classdict__" : Str)) = false := by decide) : BX X (.Subscript (.Name x p) b pos) (bIn2 i fi) :=
  pe_imp (pe_ix ix_list (pe_var hN hv hd hcd) hb hs) fun σ H Q q => by
    obtain ⟨H0, G0, G, env, d, S, e1, q⟩ := q
    unfold bIn2 at e1
    split at e1
    · rename_i dss hi
      obtain ⟨k, h1, e1⟩ := Option.bind_eq_some_iff.mp e1
      split at e1
      · rename_i z
        obtain ⟨j, h2, e1⟩ := Option.bind_eq_some_iff.mp e1
        obtain ⟨ds, h3, rfl⟩ := Option.map_eq_some_iff.mp e1
        obtain ⟨y, hy, a, bs, rfl, h4, h5, h6, h7, h8⟩ := S.at hi
        refine ⟨.ref a, hy, H0, G0, G, env, _, S, h1, fun v H1 G1 x1 r1 => ?_⟩
        have S1 := S.ext x1
        obtain ⟨b, ys, h9, h10, h11⟩ := h8.at h3
        refine ⟨a, _, z, .ref b, rfl, rpb_int r1, SqL.of (x1.hh _ _ h4), atI_ref (by rw [← h8.len]; exact h2) h9, ?_⟩
        exact q _ H1 G1 x1 ⟨b, ys, rfl, x1.hh _ _ h10, RpL.mono x1.gg _ _ h11⟩
      · cases e1
    · cases e1
/-- looked at, or a settled one -/
def eOr2 (f g : Fe) (i : Nat) : Fe := fun env => match env[i]? with
  | some (.own2 _) => f env
  | _ => g env
theorem bx_or2 {f g : Fe} (h1 : BX X e f) (h2 : BX X e g) : BX X e (eOr2 f g i) := pe_imp (pe_or h1 h2) fun σ H Q q => by
  obtain ⟨H0, G0, G, env, d, S, e1, q⟩ := q
  unfold eOr2 at e1
  split at e1
  · exact .inl ⟨H0, G0, G, env, d, S, e1, q⟩
  · exact .inr ⟨H0, G0, G, env, d, S, e1, q⟩
theorem ex_or2 {f g : Fe} (h1 : EX X e f) (h2 : EX X e g) : EX X e (eOr2 f g i) := pe_imp (pe_or h1 h2) fun σ H Q q => by
  obtain ⟨H0, G0, G, env, d, S, e1, q⟩ := q
  unfold eOr2 at e1
  split at e1
  · exact .inl ⟨H0, G0, G, env, d, S, e1, q⟩
  · exact .inr ⟨H0, G0, G, env, d, S, e1, q⟩
def bIx2 (i : Nat) (fi : Fe) : Fe := eOr2 (bIn2 i fi) (eOp gIx (bVar i) fi) i
theorem bx_ix2 (hN : X.N[i]? = some x) (hv : Vis X.env.scope x) (hb : BX X b fi) (hs : PlainIx b := by intro _ _; rfl) (hd : (x == ("__debug__" : Str)) = false := by decide) (hcd : (x == ("__classdict__" : Str)) = false := by decide) : BX X (.Subscript (.Name x p) b pos) (bIx2 i fi) :=
  bx_or2 (bx_in2 hN hv hb hs hd hcd) (bx (ex_ix (bx_var hN hv hd hcd) hb hs))
/-! ### len(x) -/
def eLn2 (i : Nat) : Fe := fun env => match env[i]? with
  | some (.own2 dss) => some (.int dss.length)
  | _ => none
def eLen2 (i : Nat) : Fe := eOr2 (eLn2 i) (eCall gLen (aCons (bVar i) aNil)) i
theorem ex_len2 {xl : Str} {q : Pos} (hN : X.N[i]? = some x) (hv : Vis X.env.scope x) (hg : Gl X "len") (hm : X.mg "len" = none) (hbt : bootBuiltins "len" = some (.builtin "len"))
    (he : starEach [Expr.Name x p] X.env = (false, eval (.Name x p) X.env) :: starEach [] X.env := by rfl) (hpl : (backTo pos (starEach [] X.env)).any (·.1) = false := by rfl) (hd : (x == ("__debug__" : Str)) = false := by decide) (hcd : (x == ("__classdict__" : Str)) = false := by decide) : EX X (.Call (.Name "len" q) [.Name x p] [] pos) (eLen2 i) := by
  refine ex_or2 ?_ (ex_callB clen hg hm hbt (abx_cons (bx_var hN hv hd hcd) abx_nil he) (by decide) (by decide) he hpl)
  refine pe_imp (pe_callB call_len_seq hg hm hbt (pa_cons (pe_var hN hv hd hcd) pa_nil he) (by decide) (by decide) he hpl) fun σ H Q q => ?_
  obtain ⟨H0, G0, G, env, d, S, e1, q⟩ := q
  unfold eLn2 at e1
  split at e1
  · rename_i dss hi
    cases e1
    obtain ⟨y, hy, a, bs, rfl, h4, h5, h6, h7, h8⟩ := S.at hi
    refine ⟨.ref a, hy, a, _, rfl, .inl (SqL.of h4), ?_⟩
    rw [List.length_map, ← h8.len]
    exact q _ H G (Ext.refl S.wf) (rp_int _)
  · cases e1
/-! ### x[k][j] = v -/
def sSet2 (i : Nat) (fi fj f : Fe) : Cmd := fun env => (f env).bind fun d => match env[i]? with
  | some (.own2 dss) => (fi env).bind fun k => match k with
    | .int z => (ixN dss.length z).bind fun j => (dss[j]?).bind fun ds => (fj env).bind fun k2 => match k2 with
      | .int z2 => (ixN ds.length z2).map fun j2 => Out.nx (env.set i (.own2 (dss.set j (ds.set j2 d))))
      | _ => none
    | _ => none
  | _ => none
theorem sx_set2 {sp : Pos} (hN : X.N[i]? = some x) (hv : Vis X.env.scope x) (hb : BX X b fi) (hb2 : BX X be fj) (he : EX X e f) (hs0 : PlainIx b := by intro _ _; rfl) (hd : (x == ("__debug__" : Str)) = false := by decide) (hcd : (x == ("__classdict__" : Str)) = false := by decide)
    (ha : ∀ v, assign (.Subscript (.Subscript (.Name x p) b p1) be sp) X.env v = (do
      let ov ← holding [v] (eval (.Subscript (.Name x p) b p1) X.env)
      let iv ← holding [v, ov] (eval be X.env)
      standAt sp
      holding [v, ov, iv] (setItem ov iv v)
      release [v, ov, iv] []) := by intro _; rfl)
    (hs : swapsWithSole [.Subscript (.Subscript (.Name x p) b p1) be sp] e pos.line X.env = pure false := by rfl) (hw : swappedStores [.Subscript (.Subscript (.Name x p) b p1) be sp] e X.env = pure none := by rfl)
    (h1 : (assignEach [.Subscript (.Subscript (.Name x p) b p1) be sp] X.env).map (·.2) = [assign (.Subscript (.Subscript (.Name x p) b p1) be sp) X.env] := by rfl) :
    SX X (.Assign [.Subscript (.Subscript (.Name x p) b p1) be sp] e pos) (sSet2 i fi fj f) :=
  ps_imp (ps_asg he (pg_sub (pe_ix ix_list (pe_var hN hv hd hcd) hb hs0) hb2 set_list ha) hs hw h1) fun E σ H q => by
    obtain ⟨H0, G0, G, env, o, S, e1, q⟩ := q
    obtain ⟨d, h2, e1⟩ := Option.bind_eq_some_iff.mp e1
    split at e1
    · rename_i dss hi
      obtain ⟨k, h3, e1⟩ := Option.bind_eq_some_iff.mp e1
      split at e1
      · rename_i z
        obtain ⟨j, h4, e1⟩ := Option.bind_eq_some_iff.mp e1
        obtain ⟨ds, h5, e1⟩ := Option.bind_eq_some_iff.mp e1
        obtain ⟨k2, h6, e1⟩ := Option.bind_eq_some_iff.mp e1
        split at e1
        · rename_i z2
          obtain ⟨j2, h7, rfl⟩ := Option.map_eq_some_iff.mp e1
          refine ⟨H0, G0, G, env, d, S, h2, fun v H1 G1 x1 r1 => ?_⟩
          have S1 := S.ext x1
          obtain ⟨y, hy, a, bs, rfl, q4, q5, q6, q7, q8⟩ := S1.at hi
          refine ⟨.ref a, hy, H0, G0, G1, env, _, S1, h3, fun u H2 G2 x2 r2 => ?_⟩
          have S2 := S1.ext x2
          obtain ⟨b, ys, q9, q10, q11⟩ := q8.at h5
          refine ⟨a, _, z, .ref b, rfl, rpb_int r2, SqL.of (x2.hh _ _ q4), atI_ref (by rw [← q8.len]; exact h4) q9, H0, G0, G2, env, _, S2, h6, fun u2 H3 G3 x3 r3 => ?_⟩
          have S3 := S2.ext x3
          have x23 := x2.trans x3
          refine ⟨b, ys, z2, j2, rfl, rpb_int r3, x23.hh _ _ q10, by rw [← q11.len]; exact h7, ?_⟩
          exact q σ _ G3 (S3.inner hi hy (x23.hh _ _ q4) q9 (x23.hh _ _ q10) (RpL.set (Rp.mono x23.gg _ _ r1) _ (RpL.mono x23.gg _ _ q11)))
        · cases e1
      · cases e1
    · cases e1
/-! ### x[k][j] op= v -/
def sAug2 (i : Nat) (g : D → D → Option D) (fi fj f : Fe) : Cmd := fun env => match env[i]? with
  | some (.own2 dss) => (fi env).bind fun k => match k with
    | .int z => (ixN dss.length z).bind fun j => (dss[j]?).bind fun ds => (fj env).bind fun k2 => match k2 with
      | .int z2 => (ixN ds.length z2).bind fun j2 => (ds[j2]?).bind fun old => (f env).bind fun y => (g old y).map fun d => Out.nx (env.set i (.own2 (dss.set j (ds.set j2 d))))
      | _ => none
    | _ => none
  | _ => none
theorem sx_aug2 {op : Operator} {g : D → D → Option D} {tpos : Pos} (hN : X.N[i]? = some x) (hv : Vis X.env.scope x) (hb : BX X b fi) (hb2 : BX X be fj) (he : EX X e f) (ho : PipD X op g) (hs0 : PlainIx b := by intro _ _; rfl) (hd : (x == ("__debug__" : Str)) = false := by decide) (hcd : (x == ("__classdict__" : Str)) = false := by decide)
    (ha : ∀ ov iv new, augStore be ov iv new = (do holding [new, ov, iv] (setItem ov iv new); release [new, ov, iv] []; pure .next) := by intros; rfl) : SX X (.AugAssign (.Subscript (.Subscript (.Name x p) b p1) be tpos) op e pos) (sAug2 i g fi fj f) :=
  ps_imp (ps_augS (pe_ix ix_list (pe_var hN hv hd hcd) hb hs0) hb2 get_list he (show PIp X op (rD X.K g) from fun pins s σ H x y v u Q I rx ry q => ho pins s σ H x y v u Q I rx ry q) set_list ha) fun E σ H q => by
    obtain ⟨H0, G0, G, env, oo, S, e1, q⟩ := q
    unfold sAug2 at e1
    split at e1
    · rename_i dss hi
      obtain ⟨k, h3, e1⟩ := Option.bind_eq_some_iff.mp e1
      split at e1
      · rename_i z
        obtain ⟨j, h4, e1⟩ := Option.bind_eq_some_iff.mp e1
        obtain ⟨ds, h5, e1⟩ := Option.bind_eq_some_iff.mp e1
        obtain ⟨k2, h6, e1⟩ := Option.bind_eq_some_iff.mp e1
        split at e1
        · rename_i z2
          obtain ⟨j2, h7, e1⟩ := Option.bind_eq_some_iff.mp e1
          obtain ⟨old, h8, e1⟩ := Option.bind_eq_some_iff.mp e1
          obtain ⟨dy, h9, e1⟩ := Option.bind_eq_some_iff.mp e1
          obtain ⟨d, h10, rfl⟩ := Option.map_eq_some_iff.mp e1
          obtain ⟨y, hy, a, bs, rfl, q4, q5, q6, q7, q8⟩ := S.at hi
          refine ⟨.ref a, hy, H0, G0, G, env, _, S, h3, fun u H2 G2 x2 r2 => ?_⟩
          have S2 := S.ext x2
          obtain ⟨b, ys, q9, q10, q11⟩ := q8.at h5
          refine ⟨a, _, z, .ref b, rfl, rpb_int r2, SqL.of (x2.hh _ _ q4), atI_ref (by rw [← q8.len]; exact h4) q9, H0, G0, G2, env, _, S2, h6, fun u2 H3 G3 x3 r3 => ?_⟩
          have S3 := S2.ext x3
          have x23 := x2.trans x3
          have l3 := RpL.mono x23.gg _ _ q11
          obtain ⟨vo, hvo, ro⟩ := l3.at h8
          have hat : atI ys z2 = some vo := by
            unfold atI
            rw [← q11.len, h7]
            exact hvo
          refine ⟨b, ys, z2, vo, rfl, rpb_int r3, SqL.of (x23.hh _ _ q10), hat, H0, G0, G3, env, dy, S3, h9, fun y2 H4 G4 x4 r4 => ⟨G4, old, dy, d, x4.wf, RpB.of x4.wf (Rp.mono x4.gg _ _ ro), RpB.of x4.wf r4, h10, fun v H5 G5 x5 r5 => ?_⟩⟩
          have x45 := x4.trans x5
          have S5 := S3.ext x45
          have x25 := x23.trans x45
          refine ⟨b, ys, z2, j2, rfl, rpb_int r3, x25.hh _ _ q10, by rw [← q11.len]; exact h7, ?_⟩
          exact q σ _ G5 (S5.inner hi hy (x25.hh _ _ q4) q9 (x25.hh _ _ q10) (RpL.set r5 _ (RpL.mono x45.gg _ _ l3)))
        · cases e1
      · cases e1
    · cases e1
/-! ### x[k].append(v) -/
def sApp2 (i : Nat) (fi f : Fe) : Cmd := fun env => match env[i]? with
  | some (.own2 dss) => (fi env).bind fun k => match k with
    | .int z => (ixN dss.length z).bind fun j => (dss[j]?).bind fun ds => (f env).bind fun d => if lim (ds.length + 1) then some (Out.nx (env.set i (.own2 (dss.set j (ds ++ [d]))))) else none
    | _ => none
  | _ => none
variable {apos cpos : Pos}
theorem sx_app2 (hN : X.N[i]? = some x) (hv : Vis X.env.scope x) (hb : BX X b fi) (he : EX X e f) (hs0 : PlainIx b := by intro _ _; rfl) (hd : (x == ("__debug__" : Str)) = false := by decide) (hcd : (x == ("__classdict__" : Str)) = false := by decide)
    (hbase : attributeBase (.Subscript (.Name x p) b p1) "append" X.env (eval (.Subscript (.Name x p) b p1) X.env) = eval (.Subscript (.Name x p) b p1) X.env := by rfl)
    (hfew : ((backTo cpos (starEach (e :: []) X.env)).all (fun x => !x.1) && (backToKw cpos (keywordEach [] X.env)).all (fun x => x.1.isSome)
      && decide ((e :: []).length + ([] : List Keyword).length + (if ([] : List Keyword).isEmpty then 0 else 1) < 30)) = true := by rfl)
    (hline : (apos.endLine == cpos.line) = true := by rfl) (hs : starEach (e :: []) X.env = (false, eval e X.env) :: starEach [] X.env := by rfl) (hplain : (backTo cpos (starEach [] X.env)).any (·.1) = false := by rfl)
    (hsw : swapsWith (.Call (.Attribute (.Subscript (.Name x p) b p1) "append" apos) [e] [] cpos) none pos.line X.env = pure false := by rfl) :
    SX X (.Expr (.Call (.Attribute (.Subscript (.Name x p) b p1) "append" apos) [e] [] cpos) pos) (sApp2 i fi f) :=
  ps_imp (ps_expr (pe_bm PySem.F.plainAttrs_list PySem.F.slot_list_append PySem.F.type_list_append (show MtR X "list.append" rAppend from mt_append) (pe_ix ix_list (pe_var hN hv hd hcd) hb hs0) (pa_cons he pa_nil hs) hbase hfew hline hs hplain) hsw) fun E σ H q => by
    obtain ⟨H0, G0, G, env, o, S, e1, q⟩ := q
    unfold sApp2 at e1
    split at e1
    · rename_i dss hi
      obtain ⟨k, h3, e1⟩ := Option.bind_eq_some_iff.mp e1
      split at e1
      · rename_i z
        obtain ⟨j, h4, e1⟩ := Option.bind_eq_some_iff.mp e1
        obtain ⟨ds, h5, e1⟩ := Option.bind_eq_some_iff.mp e1
        obtain ⟨d, h6, e1⟩ := Option.bind_eq_some_iff.mp e1
        split at e1
        · rename_i hz
          cases e1
          obtain ⟨y, hy, a, bs, rfl, q4, q5, q6, q7, q8⟩ := S.at hi
          refine ⟨.ref a, hy, H0, G0, G, env, _, S, h3, fun u H2 G2 x2 r2 => ?_⟩
          have S2 := S.ext x2
          obtain ⟨b, ys, q9, q10, q11⟩ := q8.at h5
          refine ⟨a, _, z, .ref b, rfl, rpb_int r2, SqL.of (x2.hh _ _ q4), atI_ref (by rw [← q8.len]; exact h4) q9, .inl ⟨rfl, ys, SqL.of (x2.hh _ _ q10)⟩, H0, G0, G2, env, _, S2, h6, fun v H3 G3 x3 r3 => ?_⟩
          have S3 := S2.ext x3
          have x23 := x2.trans x3
          refine ⟨b, ys, v, rfl, rfl, x23.hh _ _ q10, ?_, ?_⟩
          · have := lim_le hz
            rw [← q11.len]
            omega
          · exact q σ _ G3 (S3.inner hi hy (x23.hh _ _ q4) q9 (x23.hh _ _ q10) ((RpL.mono x23.gg _ _ q11).snoc r3))
        · cases e1
      · cases e1
    · cases e1
end
/-! ### [<a new list> for ..] -/
def compLO (t : Ft) (c : Fb) (y : Fl) (env : List Sl) : List D → Option (List (List D))
  | [] => some []
  | x :: xs => (t x env).bind fun env1 => (c env1).bind fun k => if k then (y env1).bind fun d => (compLO t c y env xs).map (d :: ·) else compLO t c y env xs
def fLcO (own : List Nat) (it : Fl) (t : Ft) (c : Fb) (y : Fl) : Fn := fun env => (it env).bind fun xs => if lim xs.length then (compLO t c y (wipeE env own) xs).map Sl.own2 else none
theorem tLcO_of {K : PySem.W.Frag} {it : Fl} {t : Ft} {Sg : List Nat} {ct : Fb} {y : Fl} {vs : List Nat} (hsub : ∀ i ∈ Sg, i ∈ vs) {σ : L2.St} {H : Hp} {Q : VK} (q : tN K (fLcO vs it t ct y) σ H Q) : tLc (iC K it) (tG K t Sg) (tT K ct) (tF K y) vs σ H Q := by
  obtain ⟨H0, G0, G, env, sl, S, e1, q⟩ := q
  obtain ⟨xs, h1, e1⟩ := Option.bind_eq_some_iff.mp e1
  split at e1
  · rename_i hz
    obtain ⟨dss, e0, rfl⟩ := Option.map_eq_some_iff.mp e1
    refine ⟨H0, G0, G, env, xs, S, h1, fun J H1 G1 x1 hJ Dd hD => ?_⟩
    have S1 := S.ext x1
    have hz' := lim_le hz
    refine ⟨fun i m H2 => m = xs.length - i ∧ i ≤ xs.length ∧ ∃ (G2 : Hp) (bs : List Addr) (ds1 ds2 : List (List D)), Ext H1 G1 H2 G2 ∧ H2 Dd = some (.lst (bs.map V.ref)) ∧ G2 Dd = none ∧ (Dd :: bs).Nodup ∧ In2 K H1 H2 G2 ds1 bs ∧ ds1.length ≤ i ∧ compLO t ct y (wipeE env vs) (xs.drop i) = some ds2 ∧ dss = ds1 ++ ds2,
      ⟨xs.length, by omega, Nat.zero_le _, G1, [], [], dss, Ext.fresh x1.wf hD rfl, upd_same, wf_none x1.wf hD, by simp, rfl, Nat.le_refl _, e0, rfl⟩, ?_⟩
    rintro i m H2 ⟨rfl, hi, G2, bs, ds1, ds2, x2, hD2, gD2, nd2, r2, hl2, hc2, rfl⟩
    have hj := hJ i H2 G2 x2.hh x2.gg x2.wf
    by_cases hlt : i < xs.length
    · have hx : xs[i]? = some xs[i] := List.getElem?_eq_getElem hlt
      obtain ⟨go, hy⟩ := hj.2 _ hx
      rw [List.drop_eq_getElem_cons hlt] at hc2
      obtain ⟨env1, h3, h4⟩ := Option.bind_eq_some_iff.mp (show (t xs[i] (wipeE env vs)).bind _ = some ds2 from hc2)
      obtain ⟨k, h5, h6⟩ := Option.bind_eq_some_iff.mp h4
      refine .inr ⟨go, fun H3 => ∃ m', m' < xs.length - i ∧ (m' = xs.length - (i + 1) ∧ i + 1 ≤ xs.length ∧ ∃ (G2 : Hp) (bs : List Addr) (ds1' ds2' : List (List D)), Ext H1 G1 H3 G2 ∧ H3 Dd = some (.lst (bs.map V.ref)) ∧ G2 Dd = none ∧ (Dd :: bs).Nodup ∧ In2 K H1 H3 G2 ds1' bs ∧ ds1'.length ≤ i + 1 ∧ compLO t ct y (wipeE env vs) (xs.drop (i + 1)) = some ds2' ∧ ds1 ++ ds2 = ds1' ++ ds2'), fun H3 h => h, fun x H3 hyld => ?_⟩
      obtain ⟨G3, x3, r3⟩ := hy x H3 hyld
      have S3 : Ste K H0 G0 H3 G3 (L2.wipe σ vs) (wipeE env vs) := ((S1.ext x2).ext x3).wipe vs
      refine ⟨H0, G0, G3, _, _, env1, S3, r3, h3, fun σ4 S4 o4 => ⟨out_wipe o4 hsub, H0, G0, G3, env1, k, S4, h5, fun H5 G5 x5 => ?_⟩⟩
      have x35 := x3.trans x5
      have keep : ∀ {H6 G6 : Hp}, Ext H2 G2 H6 G6 → In2 K H1 H6 G6 ds1 bs := fun {H6 G6} x => r2.keep x.gg (fun c _ u e => x.hh _ _ e) fun c hc => by
        obtain ⟨⟨ys, m1⟩, m2, _⟩ := r2.mem c hc
        exact ext_none x m1 m2
      cases k with
      | true =>
        obtain ⟨d, h7, h8⟩ := Option.bind_eq_some_iff.mp (show (y env1).bind _ = some ds2 from h6)
        obtain ⟨ds3, h9, rfl⟩ := Option.map_eq_some_iff.mp h8
        refine ⟨H0, G0, G5, env1, d, S4.ext x5, h7, fun p zs H6 G6 x6 n6 k6 g6 r6 => ?_⟩
        have x26 := x35.trans x6
        have hD6 := x26.hh _ _ hD2
        have gD6 := ext_none x26 hD2 gD2
        have hl : bs.length ≤ i := by rw [← r2.len]; exact hl2
        have n2 : H2 p = none := x35.hh.free n6
        have n1 : H1 p = none := x2.hh.free n2
        have pD : p ≠ Dd := fun z => by
          rw [z, hD2] at n2
          cases n2
        have pb : p ∉ bs := fun z => by
          obtain ⟨⟨ys, m1⟩, _⟩ := r2.mem p z
          rw [n2] at m1
          cases m1
        have nd := List.nodup_cons.mp nd2
        refine ⟨bs.map V.ref, hD6, by rw [List.length_map]; omega, xs.length - (i + 1), by omega, rfl, hlt, G6, bs ++ [p], ds1 ++ [d], ds3, (x2.trans x26).grow hD gD6, ?_, gD6, ?_, ?_, ?_, h9, ?_⟩
        · rw [upd_same, List.map_append]
          rfl
        · refine List.nodup_cons.mpr ⟨fun z => ?_, List.nodup_append.mpr ⟨nd.2, by simp, fun a ha b hb e => ?_⟩⟩
          · rcases List.mem_append.mp z with z | z
            · exact nd.1 z
            · exact pD (List.mem_singleton.mp z).symm
          · rw [List.mem_singleton] at hb
            rw [e, hb] at ha
            exact pb ha
        · refine In2.snoc (ys := zs) ?_ g6 n1 r6 ((keep x26).keep (Same.refl G6) (fun c hc u e => ?_) fun c hc => ((keep x26).mem c hc).2.1)
          · have xx : upd H6 Dd (HO.lst ((bs.map V.ref) ++ [V.ref p])) p = some (.lst zs) := by rw [upd_ne pD]; exact k6
            exact xx
          · have cD : c ≠ Dd := fun z => nd.1 (by rw [← z]; exact hc)
            have xx : upd H6 Dd (HO.lst ((bs.map V.ref) ++ [V.ref p])) c = some u := by rw [upd_ne cD]; exact e
            exact xx
        · rw [List.length_append, List.length_singleton]
          omega
        · rw [List.append_assoc]
          rfl
      | false =>
        exact ⟨xs.length - (i + 1), by omega, rfl, hlt, G5, bs, ds1, ds2, x2.trans x35, x35.hh _ _ hD2, ext_none x35 hD2 gD2, nd2, keep x35, by omega, h6, rfl⟩
    · have e : i = xs.length := by omega
      subst e
      rw [List.drop_length] at hc2
      cases hc2
      rw [List.append_nil] at q
      exact .inl ⟨hj.1 (Nat.le_refl _), q (.ref Dd) H2 G2 (x1.trans x2) ⟨Dd, bs, rfl, x1.hh.free hD, hD2, gD2, nd2, r2.new x1.hh⟩⟩
  · cases e1
section
variable {X : Cx} {tg elt iter : Expr} {ifs : List Expr} {scope : Scope} {own : List (Str × Nat)} {it : Fl} {t : Ft} {Sg : List Nat} {ct : Fb} {y : Fl} {pos : Pos}
theorem nx_lcO (hc : X.calm = true) (hN : X.N.Nodup) (hi : ICX X tg iter it) (ok : BlkOk X.N X.env.scope scope own) (hsub : ∀ i ∈ Sg, i ∈ own.map (·.2))
    (hg : ∀ (s : Shared) (H : Hp) (C : Addr) (cl : List (Str × Addr)) (fp : List Addr), GX (X.blk s H scope (compEnvC scope cl C X.env) fp) tg t Sg) (ht : ∀ (s : Shared) (H : Hp) (C : Addr) (cl : List (Str × Addr)) (fp : List Addr), PTs (X.blk s H scope (compEnvC scope cl C X.env) fp) ifs (tT X.K ct))
    (he : ∀ (s : Shared) (H : Hp) (C : Addr) (cl : List (Str × Addr)) (fp : List Addr), FX (X.blk s H scope (compEnvC scope cl C X.env) fp) elt y) (hs : ∀ x, foldedSetIterable iter X.env x = pure x := by intro _; rfl) :
    NX X (.ListComp elt [⟨tg, iter, ifs, 0⟩] scope pos) (fLcO (own.map (·.2)) it t ct y) :=
  pe_imp (pe_lc hc hN hi ok hg ht he hs) fun _ _ _ q => tLcO_of hsub q
theorem sx_setLcN {i : Nat} {z : Str} {py spos : Pos} (hc : X.calm = true) (hN : X.N.Nodup) (hz : X.N[i]? = some z) (hzl : X.env.scope.names.lookup z = some .local)
    (hsw : swapsWith (.ListComp elt [⟨tg, iter, ifs, 0⟩] scope pos) (some (.Name z py)) spos.line X.env = pure true) (hi : ICX X tg iter it) (ok : BlkOk X.N X.env.scope scope own) (hsub : ∀ i ∈ Sg, i ∈ own.map (·.2))
    (hg : ∀ (s : Shared) (H : Hp) (C : Addr) (cl : List (Str × Addr)) (fp : List Addr), GX (X.blk s H scope (compEnvC scope cl C X.env) fp) tg t Sg) (ht : ∀ (s : Shared) (H : Hp) (C : Addr) (cl : List (Str × Addr)) (fp : List Addr), PTs (X.blk s H scope (compEnvC scope cl C X.env) fp) ifs (tT X.K ct))
    (he : ∀ (s : Shared) (H : Hp) (C : Addr) (cl : List (Str × Addr)) (fp : List Addr), FX (X.blk s H scope (compEnvC scope cl C X.env) fp) elt y) (hs : ∀ x, foldedSetIterable iter X.env x = pure x := by intro _; rfl) :
    SX X (.Assign [.Name z py] (.ListComp elt [⟨tg, iter, ifs, 0⟩] scope pos) spos) (sSetN i (fLcO (own.map (·.2)) it t ct y)) :=
  ps_imp (ps_setLc hc hN hz hzl hsw hi ok hg ht he hs) fun E σ H q => tAsg_setN (fun _ q => tLcO_of hsub q) q
end
end PD

set_option Elab.async false
set_option linter.all false
set_option maxRecDepth 100000
namespace PD
open PySem PySem.Spec PyProof.Rows L2
/-! ### a set of whole numbers, kept under a name: set(xs), k in s -/
theorem inv_setM {X : Cx} {pins : List (Addr × Obj)} {σ : L2.St} {H : Hp} {s : Shared} {p : Addr} {S : Int → Bool} {n : Nat} (I : Inv X pins σ (upd H p (SetO X.w p S n)) s) : Inv X pins σ (upd H p (SetM S p)) s := by
  have hp : upd H p (SetO X.w p S n) p = some (SetO X.w p S n) := upd_same
  have x := I.hok p _ hp
  have R : SetR X.w s.heap p S n := x.1
  obtain ⟨od, e⟩ := x.2.1
  have new : ObjOk X.prog X.w (upd (upd H p (SetO X.w p S n)) p (SetM S p)) s.heap p (SetM S p) := ⟨⟨_, _, R⟩, ⟨od, e⟩, fun h1 h2 ⟨w, n, r⟩ k => ⟨w, n, r.at k⟩⟩
  have I' := I.write (x := p) (e := p) (t' := s.toks) (h' := s.heap) (by rw [hp]; exact trivial) (.inl rfl) (fun b v _ q => q) ⟨od, e⟩ new
  have eq : upd (upd H p (SetO X.w p S n)) p (SetM S p) = upd H p (SetM S p) := by
    funext b
    by_cases hb : b = p
    · subst hb
      rw [upd_same, upd_same]
    · rw [upd_ne hb, upd_ne hb, upd_ne hb]
  rw [eq] at I'
  exact I'
def gSetM : List D → Option D
  | [x] => (itemsO x).bind fun xs => (intsOf xs).bind fun ms => if decide (ms.length ≤ 4000) then some (.st ms) else none
  | _ => none
section
variable {X : Cx} {a b ke o : Expr} {fa fk fo : Fe} {pos p : Pos}
theorem ex_setM (hc : X.calm = true) (hg : Gl X "set") (hm : X.mg "set" = none) (hv : bootBuiltins "set" = some (.type "set")) (ha : BX X a fa)
    (h1 : starEach [a] X.env = (false, eval a X.env) :: starEach [] X.env := by rfl) (hpl : (backTo pos (starEach [] X.env)).any (·.1) = false := by rfl) : EX X (.Call (.Name "set" p) [a] [] pos) (eCall gSetM (aCons fa aNil)) := by
  have base := pe_callTy (cr_setI hc) hg hm hv (pa_cons ha pa_nil h1) (by decide) (by decide) h1 hpl (p := p) (pos := pos)
  refine ⟨fun pins s σ H Q I q => ?_⟩
  obtain ⟨H0, G0, G, env, d, S, e1, q⟩ := q
  obtain ⟨ds, h2, e1⟩ := Option.bind_eq_some_iff.mp e1
  obtain ⟨x, h3, h4⟩ := Option.bind_eq_some_iff.mp h2
  have h4 : some [x] = some ds := h4
  cases h4
  obtain ⟨xs, h5, e1⟩ := Option.bind_eq_some_iff.mp (show (itemsO x).bind _ = some d from e1)
  obtain ⟨ms, h6, e1⟩ := Option.bind_eq_some_iff.mp e1
  split at e1
  · rename_i hz
    cases e1
    refine thn (base.run pins s σ H (fun v H1 => ∃ p c H2, v = .ref p ∧ H1 = upd H2 p (SetO X.w p (fun j => decide (j ∈ ms)) c) ∧ Q v (upd H2 p (SetM (fun j => decide (j ∈ ms)) p))) I ⟨H0, G0, G, env, x, S, h3, fun v H1 G1 x1 r1 => ?_⟩) fun u s1 ⟨v, H1, I1, rv, p, c, H2, ev, eh, q1⟩ => ?_
    · obtain ⟨l, rfl, hl⟩ := rpb_ints x1.wf h5 h6 r1
      refine ⟨l, ms, rfl, hl, of_decide_eq_true hz, fun p c np hc => ⟨p, c, H1, rfl, rfl, q _ _ (upd G1 p (SetM (fun j => decide (j ∈ ms)) p)) (x1.trans (Ext.alloc x1.wf np)) ?_⟩⟩
      simp only [Rp]
      exact ⟨p, rfl, upd_same⟩
    · subst ev eh
      exact ⟨_, _, inv_setM I1, rv, q1⟩
  · cases e1
theorem setOfM {P : Program} {w w' : World} {h : Heap} {a : Addr} {S : Int → Bool} {n : Nat} (R : SetR w h a S n) : h.SetOf (PySem.intKind P w') a S n := by
  obtain ⟨o, es, ep, t, ho, hx, hd, g, nd, hm, hb, hf, hn, _⟩ := R
  exact ⟨o, es, ep, t, ho, hx, hd, good_elems g, fun k => (hm k).trans (good_mem g k), hb, hf, hn⟩
def rSM (neg : Bool) : V → V → Hp → VK → Prop := fun x y H Q => ∃ k a S, x = V.int k ∧ y = V.ref a ∧ H a = some (SetM S a) ∧ Q (.bl (if neg then !S k else S k)) H
theorem or_smin : OpR X (compareOp .In) (rSM false) := by
  intro pins s σ H x y v u Q I rx ry h
  obtain ⟨k, a, S, rfl, rfl, ha, q⟩ := h
  obtain ⟨tk, rfl⟩ := rx
  cases ry
  obtain ⟨w, n, R⟩ := (I.hok a _ ha).1
  exact wpAny_inSet_of (intKind_is _ _ _ _) rfl (setOfM R) ⟨.bl (S k), H, I.tok _, rfl, q⟩
theorem or_smnot : OpR X (compareOp .NotIn) (rSM true) := by
  intro pins s σ H x y v u Q I rx ry h
  obtain ⟨k, a, S, rfl, rfl, ha, q⟩ := h
  obtain ⟨tk, rfl⟩ := rx
  cases ry
  obtain ⟨w, n, R⟩ := (I.hok a _ ha).1
  exact wpAny_notInSet_of (intKind_is _ _ _ _) rfl (setOfM R) ⟨.bl (!S k), H, I.tok _, rfl, q⟩
def gSIn (neg : Bool) : D → D → Option D
  | .int k, .st ms => some (.bl (if neg then !decide (k ∈ ms) else decide (k ∈ ms)))
  | _, _ => none
theorem smin_imp {neg : Bool} {x y : V} {H : Hp} {Q : VK} (q : rD X.K (gSIn neg) x y H Q) : rSM neg x y H Q := by
  obtain ⟨G, dx, dy, d, w, rx, ry, e, q⟩ := q
  unfold gSIn at e
  split at e
  · rename_i k ms
    cases e
    have hx := rpb_int rx
    have ry : ∃ a, y = .ref a ∧ G a = some (SetM (fun j => decide (j ∈ ms)) a) := by simpa only [RpB, Rp] using ry
    obtain ⟨a, rfl, ha⟩ := ry
    exact ⟨k, a, _, hx, rfl, w.sub _ _ ha, q _ H G (Ext.refl w) (rp_bl _)⟩
  · cases e
theorem osin : OpR X (compareOp .In) (rD X.K (gSIn false)) := or_smin.imp fun _ _ _ _ q => smin_imp q
theorem osnotin : OpR X (compareOp .NotIn) (rD X.K (gSIn true)) := or_smnot.imp fun _ _ _ _ q => smin_imp q
theorem gSetM_l {ms : List Int} (h : ms.length ≤ 4000) : gSetM [.lst (ms.map D.int)] = some (.st ms) := by
  show (intsOf (ms.map D.int)).bind _ = _
  rw [intsOf_map]
  exact if_pos (decide_eq_true h)
theorem gSetM_t {ms : List Int} (h : ms.length ≤ 4000) : gSetM [.tup (ms.map D.int)] = some (.st ms) := by
  show (intsOf (ms.map D.int)).bind _ = _
  rw [intsOf_map]
  exact if_pos (decide_eq_true h)
theorem gSIn_f {k : Int} {ms : List Int} : gSIn false (.int k) (.st ms) = some (.bl (decide (k ∈ ms))) := rfl
theorem gSIn_t {k : Int} {ms : List Int} : gSIn true (.int k) (.st ms) = some (.bl (!decide (k ∈ ms))) := rfl
end
end PD

set_option Elab.async false
set_option linter.all false
set_option maxRecDepth 100000
namespace PD
open PySem PySem.Spec PyProof.Rows L2
/-! ### for at, row in enumerate(x): row[e] op= c, x a list of lists of its own -/
def rowL (i ia ir : Nat) (g : D → D → Option D) (fi f : Fe) : List (List D) → List (List D) → List Sl → Option (List Sl)
  | _, [], env => some env
  | done, ds :: rest, env => (fi ((env.set ia (.val (.int (done.length : Nat)))).set ir .un)).bind fun k => match k with
    | .int z => (ixN ds.length z).bind fun j => (ds[j]?).bind fun old => (f ((env.set ia (.val (.int (done.length : Nat)))).set ir .un)).bind fun y => (g old y).bind fun d =>
      rowL i ia ir g fi f (done ++ [ds.set j d]) rest (((env.set ia (.val (.int (done.length : Nat)))).set ir .un).set i (.own2 (done ++ ds.set j d :: rest)))
    | _ => none
def sForRow (i ia ir : Nat) (g : D → D → Option D) (fi f : Fe) : Cmd := fun env => match env[i]? with
  | some (.own2 dss) => if decide (i ≠ ia) && decide (i ≠ ir) && decide (ir < env.length) then (rowL i ia ir g fi f [] dss env).map Out.nx else none
  | _ => none
section
variable {X : Cx} {ke e : Expr} {fi f : Fe} {i ia ir : Nat} {x xa xr : Str} {g : D → D → Option D} {op : Operator} {px pa pr pr2 pe pc pt tpos pos2 pos : Pos} {kt : Nat}
theorem sx_forRow (hp : PassesOwn (model X.prog X.w) X.A X.env X.xe) (hN : X.N.Nodup) (hi : X.N[i]? = some x) (hia : X.N[ia]? = some xa) (hir : X.N[ir]? = some xr) (hv : Vis X.env.scope x) (hvr : Vis X.env.scope xr) (hla : Loc X.env.scope xa) (hlr : Loc X.env.scope xr) (hc : X.calm = true)
    (hg : Gl X "enumerate") (hm : X.mg "enumerate" = none) (hk : BX X ke fi) (he : EX X e f) (ho : PipD X op g)
    (hd : (x == ("__debug__" : Str)) = false := by decide) (hcd : (x == ("__classdict__" : Str)) = false := by decide) (hdr : (xr == ("__debug__" : Str)) = false := by decide) (hcdr : (xr == ("__classdict__" : Str)) = false := by decide)
    (hfa : X.fn xa = true ∨ X.env.scope.names.lookup xa = some .local := by first | exact .inl rfl | exact .inr rfl | assumption) (hfr : X.fn xr = true ∨ X.env.scope.names.lookup xr = some .local := by first | exact .inl rfl | exact .inr rfl | assumption)
    (hs : starEach [Expr.Name x px] X.env = [(false, eval (.Name x px) X.env)] := by rfl)
    (ha : ∀ ov iv new, augStore ke ov iv new = (do holding [new, ov, iv] (setItem ov iv new); release [new, ov, iv] []; pure .next) := by intros; rfl)
    (h3 : (assignEach [.Name xa pa, .Name xr pr] X.env).map (·.2) = assign (.Name xa pa) X.env :: (assignEach [.Name xr pr] X.env).map (·.2) := by rfl) (h4 : (assignEach [.Name xr pr] X.env).map (·.2) = assign (.Name xr pr) X.env :: (assignEach [] X.env).map (·.2) := by rfl)
    (hn : (assignEach [.Name xa pa, .Name xr pr] X.env).length = 2 := by rfl) (hst : (assignEach [.Name xa pa, .Name xr pr] X.env).findIdx? (·.1) = none := by rfl)
    (hfold : ∀ y, foldedSetIterable (.Call (.Name "enumerate" pe) [.Name x px] [] pc) X.env y = pure y := by intro _; rfl) :
    SX X (.For (.Tuple [.Name xa pa, .Name xr pr] kt pt) (.Call (.Name "enumerate" pe) [.Name x px] [] pc) [.AugAssign (.Subscript (.Name xr pr2) ke tpos) op e pos2] [] pos) (sForRow i ia ir g fi f) := by
  have body := pss_one (ps_augS (tpos := tpos) (pos := pos2) (pe_var (pos := pr2) hir hvr hdr hcdr) hk get_list he (show PIp X op (rD X.K g) from fun pins s σ H x y v u Q I rx ry q => ho pins s σ H x y v u Q I rx ry q) set_list ha)
  refine ps_imp (ps_for hp hc (pi_enum hg hm (pa_cons (pe_var hi hv hd hcd) pa_nil hs) hs) (pg_tup hc (pgs_cons (pg_name hN hia hla hfa) (pgs_cons (pg_name hN hir hlr hfr) pgs_nil h4) h3) hn hst) body hfold) fun E σ H q => ?_
  obtain ⟨H0, G0, G, env, o, S, e1, q⟩ := q
  unfold sForRow at e1
  split at e1
  · rename_i dss hsl
    split at e1
    · rename_i hz
      simp only [Bool.and_eq_true, decide_eq_true_eq] at hz
      obtain ⟨⟨nia, nir⟩, lir⟩ := hz
      obtain ⟨efin, e2, rfl⟩ := Option.map_eq_some_iff.mp e1
      obtain ⟨y, hy, a, bs, rfl, q4, q5, q6, q7, q8⟩ := S.at hsl
      refine ⟨.ref a, hy, a, bs.map V.ref, rfl, SqL.of q4, ?_⟩
      refine ⟨fun n m σ2 H2 => m = dss.length - n ∧ ∃ (G2 : Hp) (done rest : List (List D)) (env2 : List Sl), Ste X.K H0 G0 H2 G2 σ2 env2 ∧ env2[i]? = some (.own2 (done ++ rest)) ∧ done.length = n ∧ done.length + rest.length = dss.length ∧ σ2[i]? = some (some (.ref a)) ∧ ir < env2.length ∧ rowL i ia ir g fi f done rest env2 = some efin,
        ⟨dss.length, by omega, G, [], dss, env, S, hsl, rfl, by simp, hy, lir, e2⟩, ?_⟩
      rintro n m σ2 H2 ⟨rfl, G2, done, rest, env2, S2, hs2, hd2, hl2, hy2, lir2, e2⟩
      obtain ⟨y', hy', a', bs', rfl, p4, p5, p6, p7, p8⟩ := S2.at hs2
      rw [hy2] at hy'
      cases hy'
      have lbs := p8.len
      rw [List.length_append] at lbs
      cases rest with
      | nil =>
        have e2 : some env2 = some efin := e2
        cases e2
        simp only [List.length_nil, Nat.add_zero] at lbs hl2
        exact .inl ⟨⟨_, SqL.of p4, by rw [List.length_map]; omega⟩, q σ2 H2 G2 S2⟩
      | cons ds rest =>
        simp only [List.length_cons] at lbs hl2
        have hat : (done ++ ds :: rest)[n]? = some ds := by
          rw [List.getElem?_append_right (by omega), hd2, Nat.sub_self]
          rfl
        obtain ⟨b, ys, p9, p10, p11⟩ := p8.at hat
        have hxs : (bs'.map V.ref)[n]? = some (V.ref b) := by
          rw [List.getElem?_map, p9]
          rfl
        refine .inr ⟨⟨_, _, SqL.of p4, hxs⟩, fun σ3 H3 => ∃ m', m' < dss.length - n ∧ (m' = dss.length - (n + 1) ∧ ∃ (G2 : Hp) (done rest : List (List D)) (env2 : List Sl), Ste X.K H0 G0 H3 G2 σ3 env2 ∧ env2[i]? = some (.own2 (done ++ rest)) ∧ done.length = n + 1 ∧ done.length + rest.length = dss.length ∧ σ3[i]? = some (some (.ref a)) ∧ ir < env2.length ∧ rowL i ia ir g fi f done rest env2 = some efin), fun _ _ h => h, fun v H3 hyld => ?_⟩
        obtain ⟨T, x', rfl, hT, rfl, hx'⟩ := hyld
        have := hx' _ (SqL.of p4)
        rw [hxs] at this
        cases this
        refine ⟨T, [.int (n : Nat), .ref b], rfl, SqT.of upd_same, rfl, .int (n : Nat), [.ref b], rfl, .ref b, [], rfl, rfl, ?_⟩
        have x3 : Ext H2 G2 (upd H2 T (.tup [.int (n : Nat), .ref b])) (upd G2 T (.tup [.int (n : Nat), .ref b])) := Ext.alloc S2.wf hT
        generalize upd H2 T (.tup [.int (n : Nat), .ref b]) = H3 at x3 ⊢
        generalize upd G2 T (.tup [.int (n : Nat), .ref b]) = G3 at x3
        have S4 : Ste X.K H0 G0 H3 G3 ((σ2.set ia (some (.int (n : Nat)))).set ir (some (.ref b))) ((env2.set ia (.val (.int (done.length : Nat)))).set ir .un) := by
          rw [hd2]
          have T4 := (S2.ext x3).setV ia (s := .val (.int (n : Nat))) (x := some (.int (n : Nat))) rfl ⟨_, rfl, rp_int _⟩
          exact T4.setV ir (s := .un) (x := some (.ref b)) rfl trivial
        obtain ⟨k, h5, e2⟩ := Option.bind_eq_some_iff.mp (show (fi _).bind _ = some efin from e2)
        split at e2
        · rename_i z
          obtain ⟨j, h6, e2⟩ := Option.bind_eq_some_iff.mp e2
          obtain ⟨old, h7, e2⟩ := Option.bind_eq_some_iff.mp e2
          obtain ⟨dy, h8, e2⟩ := Option.bind_eq_some_iff.mp e2
          obtain ⟨d, h9, e2⟩ := Option.bind_eq_some_iff.mp e2
          have lσ : σ2.length = env2.length := S2.len
          have hvr : ((σ2.set ia (some (.int (n : Nat)))).set ir (some (.ref b)))[ir]? = some (some (V.ref b)) := List.getElem?_set_self (by rw [List.length_set]; omega)
          have hsi : ((env2.set ia (.val (.int (done.length : Nat)))).set ir .un)[i]? = some (.own2 (done ++ ds :: rest)) := by
            rw [List.getElem?_set_ne (fun z => nir z.symm), List.getElem?_set_ne (fun z => nia z.symm)]
            exact hs2
          have hvi : ((σ2.set ia (some (.int (n : Nat)))).set ir (some (.ref b)))[i]? = some (some (V.ref a)) := by
            rw [List.getElem?_set_ne (fun z => nir z.symm), List.getElem?_set_ne (fun z => nia z.symm)]
            exact hy2
          refine ⟨.ref b, hvr, H0, G0, G3, _, _, S4, h5, fun u2 H4 G4 x4 r4 => ?_⟩
          have x34 := x3.trans x4
          have l4 := RpL.mono x34.gg _ _ p11
          obtain ⟨vo, hvo, ro⟩ := l4.at h7
          have hat2 : atI ys z = some vo := by
            unfold atI
            rw [← p11.len, h6]
            exact hvo
          refine ⟨b, ys, z, vo, rfl, rpb_int r4, SqL.of (x34.hh _ _ p10), hat2, H0, G0, G4, _, dy, S4.ext x4, h8, fun y2 H5 G5 x5 r5 => ⟨G5, old, dy, d, x5.wf, RpB.of x5.wf (Rp.mono x5.gg _ _ ro), RpB.of x5.wf r5, h9, fun v H6 G6 x6 r6 => ?_⟩⟩
          have x56 := x5.trans x6
          have x36 := x34.trans x56
          refine ⟨b, ys, z, j, rfl, rpb_int r4, x36.hh _ _ p10, by rw [← p11.len]; exact h6, ?_⟩
          have S6 := (S4.ext x4).ext x56
          have S7 := S6.inner hsi hvi (x36.hh _ _ p4) p9 (x36.hh _ _ p10) (RpL.set r6 j (RpL.mono x56.gg _ _ l4))
          have es : (done ++ ds :: rest).set n (ds.set j d) = (done ++ [ds.set j d]) ++ rest := by
            rw [List.set_append_right _ _ (by omega), hd2, Nat.sub_self, List.append_assoc]
            rfl
          rw [es] at S7
          have es2 : done ++ ds.set j d :: rest = (done ++ [ds.set j d]) ++ rest := by rw [List.append_assoc]; rfl
          rw [es2] at e2
          refine ⟨dss.length - (n + 1), by omega, rfl, G6, done ++ [ds.set j d], rest, _, S7, List.getElem?_set_self ?_, by rw [List.length_append, List.length_singleton, hd2], by rw [List.length_append, List.length_singleton]; omega, hvi, by simp only [List.length_set]; exact lir2, e2⟩
          exact (List.getElem?_eq_some_iff.mp hsi).1
        · cases e2
    · cases e1
  · cases e1
end
end PD

set_option Elab.async false
set_option linter.all false
set_option maxRecDepth 100000
namespace PD
open PySem PySem.Spec PyProof.Rows L2
/-! ### x = y, where y gives what it alone holds away -/
def sMov (i j : Nat) : Cmd := fun env => if i = j then none else match env[j]? with
  | some (.val d) => some (.nx (env.set i (.val d)))
  | some .un => none
  | some s => some (.nx ((env.set j .un).set i s))
  | none => none
section
variable {X : Cx} {i j : Nat} {x y : Str} {px py pos : Pos}
theorem sx_mov (hN : X.N.Nodup) (hi : X.N[i]? = some x) (hj : X.N[j]? = some y) (hx : Loc X.env.scope x) (hv : Vis X.env.scope y) (hd : (y == ("__debug__" : Str)) = false := by decide) (hcd : (y == ("__classdict__" : Str)) = false := by decide)
    (hs : swapsWith (.Name y py) (some (.Name x px)) pos.line X.env = pure false := by rfl) (hf : X.fn x = true ∨ X.env.scope.names.lookup x = some .local := by first | exact .inl rfl | exact .inr rfl | assumption) :
    SX X (.Assign [.Name x px] (.Name y py) pos) (sMov i j) := ps_imp (ps_set hN hi hx (pe_var hj hv hd hcd) hs hf) fun E σ H q => by
  obtain ⟨H0, G0, G, env, o, S, e, q⟩ := q
  unfold sMov at e
  split at e
  · cases e
  · rename_i hij
    have own : ∀ s : Sl, s.isOwn = true → env[j]? = some s → o = .nx ((env.set j .un).set i s) → tAsg (tVar j) (gName i) E σ H := fun s so hs eo => by
      subst eo
      obtain ⟨z, hz, hk⟩ := S.at hs
      have ez : ∃ a, z = some (V.ref a) := by
        cases s with
        | un => cases so
        | val _ => cases so
        | own ds => obtain ⟨a, _, e, _⟩ := hk; exact ⟨a, e⟩
        | ownD t ds => obtain ⟨a, e, _⟩ := hk; exact ⟨a, e⟩
        | own2 ds => obtain ⟨a, _, e, _⟩ := hk; exact ⟨a, e⟩
      obtain ⟨a, rfl⟩ := ez
      refine ⟨.ref a, hz, q _ H G ?_⟩
      have S1 := S.setV j (s := .un) (x := some (.ref a)) rfl trivial
      have es : σ.set j (some (V.ref a)) = σ := by
        apply List.ext_getElem?
        intro k
        by_cases h : j = k
        · subst h
          rw [List.getElem?_set_self (List.getElem?_eq_some_iff.mp hz).1, hz]
        · rw [List.getElem?_set_ne h]
      rw [es] at S1
      refine S1.setO i hk fun k t w c hki ek wk f f2 => ?_
      rcases set_at' ek with ⟨rfl, rfl⟩ | ⟨hjk, ek'⟩
      · exact f
      · exact hjk (S.disF j k s t _ w c hs ek' hz wk f2 f)
    split at e
    · rename_i d hs
      cases e
      obtain ⟨z, hz, v, rfl, hr⟩ := S.at hs
      exact ⟨v, hz, q _ H G (S.setV i rfl ⟨v, rfl, hr⟩)⟩
    · cases e
    · rename_i s hnv hnu hs
      cases e
      refine own s ?_ hs rfl
      cases s with
      | un => exact (hnu rfl).elim
      | val d => exact (hnv d rfl).elim
      | _ => rfl
    · cases e
end
end PD

set_option Elab.async false
set_option linter.all false
set_option maxRecDepth 100000
/-! the order of tuples and other data -/
namespace PD
open PySem PySem.Spec PyProof.Rows L2
def cmpOk (x y : D) : Bool := okN 62 x && okN 62 y && alikeD x y && (match x with
  | .non => false
  | _ => true)
def gLtD (x y : D) : Option D := if cmpOk x y then some (.bl (ltD x y)) else none
def gGtD (x y : D) : Option D := if cmpOk x y then some (.bl (ltD y x)) else none
def gLeD (x y : D) : Option D := if cmpOk x y then some (.bl (!ltD y x)) else none
def gGeD (x y : D) : Option D := if cmpOk x y then some (.bl (!ltD x y)) else none
section
variable {X : Cx}
theorem cmp_use {H G : Hp} {pins : List (Addr × Obj)} {σ : L2.St} {s : Shared} {x y : V} {v u : Value} {dx dy : D} (I : Inv X pins σ H s) (w : Wf H G) (rx : RelV x v) (ry : RelV y u) (bx : RpB X.K H G dx x) (by' : RpB X.K H G dy y) (hu : X.A.units + 65 < cLine) (h : cmpOk dx dy = true) :
    ∃ as bs, Reads s.heap v (py dx) as ∧ Reads s.heap u (py dy) bs ∧ PySem.W.alike (py dx) (py dy) = true ∧ py dx ≠ .none ∧ X.A.units + min (py dx).depth (py dy).depth < cLine := by
  unfold cmpOk at h
  rw [Bool.and_eq_true, Bool.and_eq_true, Bool.and_eq_true] at h
  obtain ⟨⟨⟨h1, h2⟩, h3⟩, h4⟩ := h
  have nd : ∀ d : D, okN 62 d = true → notDic d = true := fun d h => by
    cases d <;> first | rfl | (simp [okN] at h)
  obtain ⟨as, ra⟩ := Dp.reads I _ x v (Rp.dp dx x 62 h1 (RpB.all w (nd dx h1) bx)) rx
  obtain ⟨bs, rb⟩ := Dp.reads I _ y u (Rp.dp dy y 62 h2 (RpB.all w (nd dy h2) by')) ry
  have d1 := (okN_lay 62 dx h1).2
  refine ⟨as, bs, ra, rb, h3, fun z => ?_, ?_⟩
  · cases dx <;> first | (simp at h4; done) | (simp [py] at z; done) | (simp [okN] at h1; done)
  · have : min (py dx).depth (py dy).depth ≤ (py dx).depth := Nat.min_le_left _ _
    omega
theorem cmp_mk {op : CmpOp} {g : D → D → Option D} {r : D → D → Bool} (hg : ∀ x y d, g x y = some d → cmpOk x y = true ∧ d = .bl (r x y))
    (h : ∀ (s : Shared) (v u : Value) (dx dy : D) (as bs : List Addr) (E : Value → Shared → Prop) (Q : Value → Shared → Prop), Reads s.heap v (py dx) as → Reads s.heap u (py dy) bs → PySem.W.alike (py dx) (py dy) = true → py dx ≠ .none → X.A.units + min (py dx).depth (py dy).depth < cLine → Q (.bool (r dx dy)) s → wpAny (model X.prog X.w) X.A (compareOp op v u) Q E s)
    (hu : X.A.units + 65 < cLine) : OpR X (compareOp op) (rD X.K g) := by
  intro pins s σ H x y v u Q I rx ry q
  obtain ⟨G, dx, dy, d, w, bx, by', e, q⟩ := q
  obtain ⟨hc, rfl⟩ := hg dx dy d e
  obtain ⟨as, bs, ra, rb, al, nn, hd⟩ := cmp_use I w rx ry bx by' hu hc
  exact h s v u dx dy as bs _ _ ra rb al nn hd ⟨.bl (r dx dy), H, I, rfl, q _ H G (Ext.refl w) (rp_bl _)⟩
theorem oltD (hu : X.A.units + 65 < cLine) : OpR X (compareOp .Lt) (rD X.K gLtD) := cmp_mk (r := fun x y => ltD x y) (fun x y d e => by
  unfold gLtD at e
  split at e
  · rename_i h
    cases e
    exact ⟨h, rfl⟩
  · cases e) (fun s v u dx dy as bs E Q ra rb al nn hd q => PySem.W.lt_data ra rb al nn hd q) hu
theorem ogtD (hu : X.A.units + 65 < cLine) : OpR X (compareOp .Gt) (rD X.K gGtD) := cmp_mk (r := fun x y => ltD y x) (fun x y d e => by
  unfold gGtD at e
  split at e
  · rename_i h
    cases e
    exact ⟨h, rfl⟩
  · cases e) (fun s v u dx dy as bs E Q ra rb al nn hd q => PySem.W.gt_data ra rb al nn hd q) hu
theorem oleD (hu : X.A.units + 65 < cLine) : OpR X (compareOp .LtE) (rD X.K gLeD) := cmp_mk (r := fun x y => !ltD y x) (fun x y d e => by
  unfold gLeD at e
  split at e
  · rename_i h
    cases e
    exact ⟨h, rfl⟩
  · cases e) (fun s v u dx dy as bs E Q ra rb al nn hd q => PySem.W.le_data ra rb al nn hd q) hu
theorem ogeD (hu : X.A.units + 65 < cLine) : OpR X (compareOp .GtE) (rD X.K gGeD) := cmp_mk (r := fun x y => !ltD x y) (fun x y d e => by
  unfold gGeD at e
  split at e
  · rename_i h
    cases e
    exact ⟨h, rfl⟩
  · cases e) (fun s v u dx dy as bs E Q ra rb al nn hd q => PySem.W.ge_data ra rb al nn hd q) hu
end
end PD

set_option Elab.async false
set_option linter.all false
set_option maxRecDepth 100000
namespace PD
open PySem PySem.Spec PyProof.Rows L2
/-! ### a, b = e1, e2 where a or b is a cell -/
theorem NewOk.ext2 {K : PySem.W.Frag} {H H1 G1 H2 G2 : Hp} (x : Ext H1 G1 H2 G2) {s : Sl} {v : V} (h : NewOk K H H1 G1 s v) : NewOk K H H2 G2 s v := h.ext x
section
variable {X : Cx} {a b : Expr} {s1 s2 : Fn} {pos : Pos}
theorem sx_parC {i j : Nat} {x y : Str} {px py pt : Pos} {kt k2 pt2} (hc : X.calm = true) (hN : X.N.Nodup) (hi : X.N[i]? = some x) (hj : X.N[j]? = some y) (hij : i ≠ j)
    (hx : Loc X.env.scope x) (hy : Loc X.env.scope y) (ha : NX X a s1) (hb : NX X b s2)
    (hs : swapsWithSole [.Tuple [.Name x px, .Name y py] kt pt] (.Tuple [a, b] k2 pt2) pos.line X.env = pure false := by rfl) (hw : swappedStores [.Tuple [.Name x px, .Name y py] kt pt] (.Tuple [a, b] k2 pt2) X.env = pure none := by rfl)
    (h0 : (assignEach [.Tuple [.Name x px, .Name y py] kt pt] X.env).map (·.2) = [assign (.Tuple [.Name x px, .Name y py] kt pt) X.env] := by rfl)
    (h1 : starEach [a, b] X.env = (false, eval a X.env) :: starEach [b] X.env := by rfl) (h2 : starEach [b] X.env = (false, eval b X.env) :: starEach [] X.env := by rfl)
    (h3 : (assignEach [.Name x px, .Name y py] X.env).map (·.2) = assign (.Name x px) X.env :: (assignEach [.Name y py] X.env).map (·.2) := by rfl) (h4 : (assignEach [.Name y py] X.env).map (·.2) = assign (.Name y py) X.env :: (assignEach [] X.env).map (·.2) := by rfl)
    (hn : (assignEach [.Name x px, .Name y py] X.env).length = 2 := by rfl) (hst : (assignEach [.Name x px, .Name y py] X.env).findIdx? (·.1) = none := by rfl)
    (hfx : X.fn x = true ∨ X.env.scope.names.lookup x = some .local := by first | exact .inl rfl | exact .inr rfl | assumption) (hfy : X.fn y = true ∨ X.env.scope.names.lookup y = some .local := by first | exact .inl rfl | exact .inr rfl | assumption) :
    SX X (.Assign [.Tuple [.Name x px, .Name y py] kt pt] (.Tuple [a, b] k2 pt2) pos) (sParN i j s1 s2) :=
  ps_imp (ps_asg (pe_tup (pa_cons ha (pa_cons hb pa_nil h2) h1)) (pg_tup hc (pgs_cons (pg_name hN hi hx hfx) (pgs_cons (pg_name hN hj hy hfy) pgs_nil h4) h3) hn hst) hs hw h0) fun E σ H q => by
  obtain ⟨H0, G0, G, env, o, S, e, q⟩ := q
  obtain ⟨u, e1, e⟩ := Option.bind_eq_some_iff.mp e
  obtain ⟨v, e2, rfl⟩ := Option.map_eq_some_iff.mp e
  refine ⟨H0, G0, G, env, u, S, e1, fun p H1 G1 x1 r1 => ⟨H0, G0, G1, env, v, S.ext x1, e2, fun w H2 G2 x2 r2 => ⟨by show 2 ≤ sizeLine; decide, fun T hT => ?_⟩⟩⟩
  have x3 : Ext H2 G2 (upd H2 T (.tup [p, w])) (upd G2 T (.tup [p, w])) := Ext.alloc x2.wf hT
  refine ⟨T, [p, w], rfl, SqT.of upd_same, rfl, p, [w], rfl, w, [], rfl, rfl, ?_⟩
  have S1 := S.ext x1
  have S2 := S1.ext x2
  have S3 := S2.ext x3
  have T1 : Ste X.K H0 G0 (upd H2 T (.tup [p, w])) (upd G2 T (.tup [p, w])) (σ.set i (some p)) (env.set i u) := S3.setN i S.x0.hh ((r1.ext x2).ext x3) fun k t y c hk ek ev f => S.foot_old (x1.trans (x2.trans x3)).hh ek ev f
  refine q _ _ _ (T1.setN j S1.x0.hh (r2.ext x3) fun k t y c hk ek ev f => ?_)
  rcases set_at' ek with ⟨rfl, rfl⟩ | ⟨hki, ek'⟩
  · rcases set_at' ev with ⟨_, rfl⟩ | ⟨hki, _⟩
    · exact (newok_foot r1 (x2.trans x3).hh f).2
    · exact absurd rfl hki
  · rw [get_set_ne hki] at ev
    exact S1.foot_old (x2.trans x3).hh ek' ev f
end
/-! ### a slice of a list, as a new list -/
section
variable {X : Cx} {a : Expr} {fa : Fe} {lo hi : Option Expr} {fo fh : Fo} {p2 pos : Pos}
def gSlF : D → Option Int → Option Int → Option (List D)
  | .lst xs, lo, hi => some (cutD xs lo hi)
  | _, _, _ => none
def fSl (f : Fe) (lo hi : Fo) : Fl := fun env => (f env).bind fun x => (lo env).bind fun l => (hi env).bind fun h => gSlF x l h
def rSlF (K : PySem.W.Frag) : V → Option Int → Option Int → Hp → VK → Prop := fun x lo hi H Q => ∃ G dx d, Wf H G ∧ RpB K H G dx x ∧ gSlF dx lo hi = some d ∧ ∀ p xs H' G', Ext H G H' G' → H p = none → H' p = some (.lst xs) → G' p = none → RpL K G' d xs → Q (.ref p) H'
theorem slF : SlR X (rSlF X.K) := (sl_list (X := X)).imp fun x lo hi H Q q => by
  obtain ⟨G, dx, d, w, rx, e, q⟩ := q
  cases dx with
  | lst ds =>
    obtain ⟨a, xs, rfl, h1, h2⟩ := rx
    cases e
    exact ⟨a, xs, rfl, SqL.of h1, tF_new w (h2.cut lo hi) q⟩
  | _ => cases e
theorem fx_sl (ha : BX X a fa) (hl : OX X lo fo) (hh : OX X hi fh) : FX X (.Subscript a (.Slice lo hi none p2) pos) (fSl fa fo fh) := pe_imp (pe_slice slF ha hl hh) fun σ H Q q => by
  obtain ⟨H0, G0, G, env, d, S, e1, q⟩ := q
  obtain ⟨dx, h1, e1⟩ := Option.bind_eq_some_iff.mp e1
  obtain ⟨l, h2, e1⟩ := Option.bind_eq_some_iff.mp e1
  obtain ⟨u, h3, e1⟩ := Option.bind_eq_some_iff.mp e1
  exact ⟨H0, G0, G, env, dx, S, h1, fun v H1 G1 x1 r1 => ⟨H0, G0, G1, env, l, S.ext x1, h2, fun H2 G2 x2 => ⟨H0, G0, G2, env, u, (S.ext x1).ext x2, h3, fun H3 G3 x3 =>
    ⟨G3, dx, d, x3.wf, (r1.ext x2).ext x3, e1, fun p xs H4 G4 x4 n4 h4 g4 r4 => q p xs H4 G4 (x1.trans (x2.trans (x3.trans x4))) (x1.hh.free (x2.hh.free (x3.hh.free n4))) h4 g4 r4⟩⟩⟩⟩
end
end PD

set_option Elab.async false
set_option linter.all false
set_option maxRecDepth 100000
namespace PD
open PySem PySem.Spec PyProof.Rows L2
theorem funt_mk {K : PySem.W.Frag} {h : Heap} {mg : Str → Option Value} {x : Str} {st : Stmt} {f : Addr} {oc : Value} {od an : Option Addr} {osl : Array (Option Value)} {kV doc pm cdv ct : Value} (X : K.In h) (G : h.Ns mainGlobals mg)
    (a : PySem.W.nsIn K mainGlobals x = some (some (.ref f))) (l : K.lookup f = some ⟨oc, od, .func (PySem.W.fnOf x x (defArgs st) (defBody st) (defScope st) .none kV doc pm an cdv ct), osl⟩)
    (c : PySem.W.codeIn K cdv x = true) (k : PySem.W.keepIn K (.ref f) = true) : FunT K mg x st := ⟨f, _, fun_mk l c k, PySem.W.mg_of X G a⟩
theorem ci_mk {K : PySem.W.Frag} {h : Heap} {mg : Str → Option Value} {x : Str} {i : Int} {t : Tok} (X : K.In h) (G : h.Ns mainGlobals mg) (a : PySem.W.nsIn K mainGlobals x = some (some (.int i t))) : CI mg x i := ⟨t, PySem.W.mg_of X G a⟩
/-- the law's own end -/
theorem law_sp {K : PySem.W.Frag} {run : List D → Option D} {H : Hp} {a : Addr} {ns : List Int} (h : run [.scr ns] = some (.bl true)) (hS : SqL K H a (ns.map V.int)) : spD K run 1 [.ref a] H (fun v _ => v = .bl true) fun _ _ _ => False :=
  ⟨rfl, H, [.scr ns], .bl true, ⟨Same.refl H, fun _ _ e _ => e⟩, RpL.cons (by simp only [Rp]; exact ⟨a, rfl, hS⟩) RpL.nil, h, fun v H' G' x r => by simpa only [Rp] using r⟩
end PD

set_option Elab.async false
set_option linter.all false
set_option maxRecDepth 100000
namespace PD
open PySem L2

/-! ### how the combinators run: one statement at a time -/
section
variable {a b c : Cmd} {env e e1 : List Sl} {o : Option Out} {d : D} {f : Fe} {t : Fb} {i : Nat}
theorem seq_nx (h : a env = some (.nx e)) (h2 : b e = o) : sSeq a b env = o := by
  unfold sSeq
  rw [h]
  exact h2
theorem seq_rt (h : a env = some (.rt d)) : sSeq a b env = some (.rt d) := by
  unfold sSeq
  rw [h]
theorem seq_set (h : f env = some d) (h2 : b (env.set i (.val d)) = o) : sSeq (sSet i f) b env = o := seq_nx (by unfold sSet; rw [h]; rfl) h2
theorem seq_setO {fl : Fl} {ds : List D} (h : fl env = some ds) (h2 : b (env.set i (.own ds)) = o) : sSeq (sSetO i fl) b env = o := seq_nx (by unfold sSetO; rw [h]; rfl) h2
theorem run_set (h : f env = some d) : sSet i f env = some (.nx (env.set i (.val d))) := by
  unfold sSet
  rw [h]
  rfl
theorem run_if1 (h : t env = some true) (h2 : a env = o) : sIf t a b env = o := by
  unfold sIf
  rw [h]
  exact h2
theorem run_if0 (h : t env = some false) (h2 : b env = o) : sIf t a b env = o := by
  unfold sIf
  rw [h]
  exact h2
theorem run_ret (h : f env = some d) : sRet f env = some (.rt d) := by
  unfold sRet
  rw [h]
  rfl
/-- if c: (else nothing): not taken -/
theorem seq_if0 (h : t env = some false) (h2 : b env = o) : sSeq (sIf t a sNop) b env = o := seq_nx (run_if0 h rfl) h2
theorem seq_if1 (h : t env = some true) (h2 : a env = some (.nx e)) (h3 : b e = o) : sSeq (sIf t a c) b env = o := seq_nx (run_if1 h h2) h3
theorem seq_if1r (h : t env = some true) (h2 : a env = some (.rt d)) : sSeq (sIf t a c) b env = some (.rt d) := seq_rt (run_if1 h h2)
theorem seq_ifE (h : t env = some false) (h2 : c env = some (.nx e)) (h3 : b e = o) : sSeq (sIf t a c) b env = o := seq_nx (run_if0 h h2) h3
theorem seq_par {j : Nat} {s1 s2 : Fn} {x y : Sl} (h1 : s1 env = some x) (h2 : s2 env = some y) (h3 : b ((env.set i x).set j y) = o) : sSeq (sParN i j s1 s2) b env = o := seq_nx (by unfold sParN; rw [h1, h2]; rfl) h3
theorem seq_par3 {j l : Nat} {s1 s2 s3 : Fn} {x y z : Sl} (h1 : s1 env = some x) (h2 : s2 env = some y) (h3 : s3 env = some z) (h4 : b (((env.set i x).set j y).set l z) = o) : sSeq (sPar3N i j l s1 s2 s3) b env = o := seq_nx (by unfold sPar3N; rw [h1, h2, h3]; rfl) h4
theorem seq_asg {g : Ft} (h1 : f env = some d) (h2 : g d env = some e) (h3 : b e = o) : sSeq (sAsg g f) b env = o := seq_nx (by unfold sAsg; rw [h1]; show (g d env).map Out.nx = _; rw [h2]; rfl) h3
theorem run_frz {is : List Nat} (h : a (frzL is env) = o) : sFrz is a env = o := h
theorem seq_frz {is : List Nat} (h : a (frzL is env) = some (.nx e)) (h2 : b e = o) : sSeq (sFrz is a) b env = o := seq_nx h h2
theorem seq_app {ds : List D} (h : f env = some d) (h1 : env[i]? = some (.own ds)) (hz : ds.length < 16777216) (h2 : b (env.set i (.own (ds ++ [d]))) = o) : sSeq (sApp i f) b env = o := seq_nx (by
  unfold sApp
  rw [h]
  show (match env[i]? with
    | some (.own ds) => if lim (ds.length + 1) then some (Out.nx (env.set i (.own (ds ++ [d])))) else none
    | _ => none) = _
  rw [h1]
  simp only [lim, decide_eq_true (show ds.length + 1 ≤ 16777216 by omega), if_true]) h2
theorem run_app {ds : List D} (h : f env = some d) (h1 : env[i]? = some (.own ds)) (hz : ds.length < 16777216) : sApp i f env = some (.nx (env.set i (.own (ds ++ [d])))) := by
  unfold sApp
  rw [h]
  show (match env[i]? with
    | some (.own ds) => if lim (ds.length + 1) then some (Out.nx (env.set i (.own (ds ++ [d])))) else none
    | _ => none) = _
  rw [h1]
  simp only [lim, decide_eq_true (show ds.length + 1 ≤ 16777216 by omega), if_true]
theorem run_par {j : Nat} {s1 s2 : Fn} {x y : Sl} (h1 : s1 env = some x) (h2 : s2 env = some y) : sParN i j s1 s2 env = some (.nx ((env.set i x).set j y)) := by
  unfold sParN
  rw [h1, h2]
  rfl
theorem runC_rt {n k : Nat} {ds : List D} (hl : ds.length = n) (h : c (ds.map .val ++ List.replicate k .un) = some (.rt d)) : runC n k c ds = some d := by
  unfold runC
  rw [if_pos hl, h]
theorem runC_nx {n k : Nat} {ds : List D} (hl : ds.length = n) (h : c (ds.map .val ++ List.replicate k .un) = some (.nx e)) : runC n k c ds = some .non := by
  unfold runC
  rw [if_pos hl, h]
/-- a for loop: the state behind each turn -/
theorem forL_inv {α : Type} {g : Ft} {enc : α → D} (st : List α → List Sl) (xs : List α) : ∀ (ys zs : List α), xs = ys ++ zs → (∀ (ys : List α) (x : α) (zs : List α), xs = ys ++ x :: zs → ∃ e, g (enc x) (st ys) = some e ∧ (a e = some (.nx (st (ys ++ [x]))) ∨ a e = some (.ct (st (ys ++ [x]))))) → forL g a (zs.map enc) (st ys) = some (.nx (st xs))
  | ys, [], hx, h => by
    rw [List.append_nil] at hx
    subst hx
    rfl
  | ys, z :: zs, hx, h => by
    obtain ⟨e, h1, h2⟩ := h ys z zs hx
    show (g (enc z) (st ys)).bind _ = _
    rw [h1]
    have ih := forL_inv (g := g) st xs (ys ++ [z]) zs (by rw [hx, List.append_assoc]; rfl) h
    show (match a e with
      | some (.nx e) => forL g a (zs.map enc) e
      | some (.ct e) => forL g a (zs.map enc) e
      | some (.bk e) => some (.nx e)
      | some (.rt d) => some (.rt d)
      | none => none) = _
    rcases h2 with h2 | h2 <;> rw [h2] <;> exact ih
theorem seq_for {α : Type} {g : Ft} {it : Fl} {enc : α → D} {xs : List α} (st : List α → List Sl) (h0 : it env = some (xs.map enc)) (hs : st [] = env) (h1 : ∀ (ys : List α) (x : α) (zs : List α), xs = ys ++ x :: zs → ∃ e, g (enc x) (st ys) = some e ∧ (a e = some (.nx (st (ys ++ [x]))) ∨ a e = some (.ct (st (ys ++ [x]))))) (h2 : b (st xs) = o) : sSeq (sFor it g a) b env = o := seq_nx (by
  unfold sFor
  rw [h0]
  show forL g a (xs.map enc) env = _
  rw [← hs]
  exact forL_inv st xs [] xs rfl h1) h2
end

/-! ### expressions -/
section
variable {env : List Sl} {fa fb f : Fe} {fl : Fl} {d x y : D} {i j : Nat}
@[simp] theorem ev_c : eC d env = some d := rfl
@[simp] theorem ev_op {g : D → D → Option D} : eOp g fa fb env = (fa env).bind fun x => (fb env).bind fun y => g x y := rfl
@[simp] theorem ev_call {g : List D → Option D} : eCall g fl env = (fl env).bind g := rfl
@[simp] theorem ev_fn {g : List D → Option D} : eFn g fl env = (fl env).bind g := rfl
@[simp] theorem ev_cons : aCons f fl env = (f env).bind fun d => (fl env).bind fun ds => some (d :: ds) := rfl
@[simp] theorem ev_nil : aNil env = some [] := rfl
@[simp] theorem ev_asL : asL fl env = (fl env).map .lst := rfl
@[simp] theorem ev_fcall {g : List D → Option (List D)} : fCall g fl env = (fl env).bind g := rfl
@[simp] theorem ev_tYes : tYesF env = some true := rfl
@[simp] theorem ev_isi {T : String} : eIsi T f env = (f env).bind (isiO T) := rfl
@[simp] theorem isiO_int {T : String} {i : Int} : isiO T (.int i) = some (.bl (isiD T (.int i))) := rfl
@[simp] theorem isiO_bl {T : String} {i : Bool} : isiO T (.bl i) = some (.bl (isiD T (.bl i))) := rfl
@[simp] theorem isiO_str {T : String} {i : Str} : isiO T (.str i) = some (.bl (isiD T (.str i))) := rfl
@[simp] theorem isiO_non {T : String} : isiO T .non = some (.bl (isiD T .non)) := rfl
@[simp] theorem isiO_tup {T : String} {i : List D} : isiO T (.tup i) = some (.bl (isiD T (.tup i))) := rfl
@[simp] theorem isiO_lst {T : String} {i : List D} : isiO T (.lst i) = some (.bl (isiD T (.lst i))) := rfl
theorem isiO_of {T : String} {d : D} (h : notDic d = true) : isiO T d = some (.bl (isiD T d)) := if_pos h
@[simp] theorem ev_un {g : D → Option D} : eUn g f env = (f env).bind g := rfl
@[simp] theorem ev_iseq : iSeq f env = (f env).bind itemsD := rfl
@[simp] theorem ev_vN : vN f env = (f env).map .val := rfl
@[simp] theorem ev_oN : oN fl env = (fl env).map .own := rfl
@[simp] theorem ev_asT : asT f env = (f env).bind truD := rfl
@[simp] theorem ev_and {f g : Fb} : tAndF f g env = (f env).bind fun k => if k then g env else some false := rfl
@[simp] theorem ev_or {f g : Fb} : tOrF f g env = (f env).bind fun k => if k then some true else g env := rfl
@[simp] theorem ev_not {f : Fb} : tNotF f env = (f env).bind fun k => some (!k) := rfl
@[simp] theorem ev_eif {c : Fb} : eIf c fa fb env = (c env).bind fun k => if k then fa env else fb env := rfl
def blD : D → Option Bool
  | .bl b => some b
  | _ => none
@[simp] theorem blD_bl {k : Bool} : blD (.bl k) = some k := rfl
@[simp] theorem ev_asB : asB f env = (f env).bind blD := by
  unfold asB
  cases f env with
  | none => rfl
  | some d => cases d <;> rfl
@[simp] theorem ev_eand : eAnd fa fb env = (fa env).bind fun x => (blD x).bind fun k => if k then fb env else some (.bl false) := by
  unfold eAnd
  cases fa env with
  | none => rfl
  | some d => cases d with
    | bl k => cases k <;> rfl
    | _ => rfl
@[simp] theorem ev_eor : eOr fa fb env = (fa env).bind fun x => (blD x).bind fun k => if k then some (.bl true) else fb env := by
  unfold eOr
  cases fa env with
  | none => rfl
  | some d => cases d with
    | bl k => cases k <;> rfl
    | _ => rfl
@[simp] theorem ev_enot : eNot fa env = (fa env).bind fun x => (blD x).bind fun k => some (.bl !k) := by
  unfold eNot
  cases fa env with
  | none => rfl
  | some d => cases d <;> rfl
def slV : Sl → Option D
  | .val d => some d
  | _ => none
def slB : Sl → Option D
  | .val d => some d
  | .own ds => some (.lst ds)
  | .ownD t ds => some (.dic t ds)
  | _ => none
@[simp] theorem slV_val : slV (.val d) = some d := rfl
@[simp] theorem slB_val : slB (.val d) = some d := rfl
@[simp] theorem slB_own {ds : List D} : slB (.own ds) = some (.lst ds) := rfl
@[simp] theorem slB_ownD {t : Bool} {ds : List (D × D)} : slB (.ownD t ds) = some (.dic t ds) := rfl
@[simp] theorem ev_var : eVar i env = env[i]?.bind slV := by
  unfold eVar
  cases env[i]? with
  | none => rfl
  | some s => cases s <;> rfl
@[simp] theorem ev_bvar : bVar i env = env[i]?.bind slB := by
  unfold bVar
  cases env[i]? with
  | none => rfl
  | some s => cases s <;> rfl
@[simp] theorem frz_nil : frzL [] env = env := rfl
@[simp] theorem frz_cons {is : List Nat} : frzL (i :: is) env = frzL is (frz1 i env) := rfl
theorem frz_own {ds : List D} (h : env[i]? = some (.own ds)) : frz1 i env = env.set i (.val (.lst ds)) := by
  unfold frz1
  rw [h]
theorem frz_val {d : D} (h : env[i]? = some (.val d)) : frz1 i env = env := by
  unfold frz1
  rw [h]

/-! ### operations -/
@[simp] theorem gAdd_i {i j : Int} : gAdd (.int i) (.int j) = some (.int (i + j)) := rfl
@[simp] theorem gSub_i {i j : Int} : gSub (.int i) (.int j) = some (.int (i - j)) := rfl
theorem gMul_i {i j : Int} (h : mulOk i j = true) : gMul (.int i) (.int j) = some (.int (i * j)) := by
  show (if mulOk i j = true then some (D.int (i * j)) else none) = _
  rw [if_pos h]
theorem mulOk_l {i j : Int} (h1 : -18446744073709551616 < i) (h2 : i < 18446744073709551616) : mulOk i j = true := by
  unfold mulOk
  rw [decide_eq_true h1, decide_eq_true h2]
  rfl
theorem mulOk_r {i j : Int} (h1 : -18446744073709551616 < j) (h2 : j < 18446744073709551616) : mulOk i j = true := by
  unfold mulOk
  rw [decide_eq_true h1, decide_eq_true h2]
  simp
theorem gMod_i {i j : Int} (h : 0 < j) : gMod (.int i) (.int j) = some (.int (i % j)) := by
  unfold gMod gI
  simp only [decide_eq_true h, if_true]
theorem gDiv_i {i j : Int} (h : 0 < j) (h2 : j < 1073741824) : gDiv (.int i) (.int j) = some (.int (i / j)) := by
  unfold gDiv gI
  simp only [decide_eq_true h, decide_eq_true h2, Bool.and_self, if_true]
@[simp] theorem gLt_i {i j : Int} : gLt (.int i) (.int j) = some (.bl (decide (i < j))) := rfl
@[simp] theorem gLe_i {i j : Int} : gLe (.int i) (.int j) = some (.bl (decide (i ≤ j))) := rfl
@[simp] theorem gGt_i {i j : Int} : gGt (.int i) (.int j) = some (.bl (decide (j < i))) := rfl
@[simp] theorem gGe_i {i j : Int} : gGe (.int i) (.int j) = some (.bl (decide (j ≤ i))) := rfl
@[simp] theorem gEq_i {i j : Int} : gEq (.int i) (.int j) = some (.bl (decide (i = j))) := by
  have h : (i == j) = decide (i = j) := by
    by_cases e : i = j
    · simp [e]
    · simp [e]
  simp [gEq, okN, eqD, py, PyData.eqv, h]
@[simp] theorem gNe_i {i j : Int} : gNe (.int i) (.int j) = some (.bl (!decide (i = j))) := by
  have h : (i == j) = decide (i = j) := by
    by_cases e : i = j
    · simp [e]
    · simp [e]
  simp [gNe, okN, eqD, py, PyData.eqv, h]
@[simp] theorem gEq_b {i j : Bool} : gEq (.bl i) (.bl j) = some (.bl (i == j)) := by
  simp [gEq, okN, eqD, py, PyData.eqv]
@[simp] theorem gNe_b {i j : Bool} : gNe (.bl i) (.bl j) = some (.bl (!(i == j))) := by
  simp [gNe, okN, eqD, py, PyData.eqv]
@[simp] theorem gInt_i {i : Int} : gInt [.int i] = some (.int i) := rfl
@[simp] theorem gInt_b {b : Bool} : gInt [.bl b] = some (.int (if b then 1 else 0)) := rfl
@[simp] theorem gLen_l {xs : List D} : gLen [.lst xs] = some (.int xs.length) := rfl
@[simp] theorem gLen_t {xs : List D} : gLen [.tup xs] = some (.int xs.length) := rfl
@[simp] theorem gLen_s {ns : List Int} : gLen [.scr ns] = some (.int ns.length) := rfl
@[simp] theorem gTuple_l {xs : List D} : gTuple [.lst xs] = some (.tup xs) := rfl
@[simp] theorem gTuple_t {xs : List D} : gTuple [.tup xs] = some (.tup xs) := rfl
@[simp] theorem gNeg_i {i : Int} : gNeg (.int i) = some (.int (-i)) := rfl
@[simp] theorem itemsD_l {xs : List D} : itemsD (.lst xs) = some xs := rfl
@[simp] theorem itemsD_t {xs : List D} : itemsD (.tup xs) = some xs := rfl
@[simp] theorem gSum_l {ns : List Int} : gSum [.lst (ns.map D.int)] = some (.int ns.sum) := by
  unfold gSum
  simp only [intsOf_map, Option.map_some]
@[simp] theorem gSum_t {ns : List Int} : gSum [.tup (ns.map D.int)] = some (.int ns.sum) := by
  unfold gSum
  simp only [intsOf_map, Option.map_some]
@[simp] theorem gAll_l {ns : List Bool} : gAll [.lst (ns.map D.bl)] = some (.bl (ns.all id)) := by
  unfold gAll
  simp only [blsOf_map, Option.map_some]
@[simp] theorem gAny_l {ns : List Bool} : gAny [.lst (ns.map D.bl)] = some (.bl (ns.any id)) := by
  unfold gAny
  simp only [blsOf_map, Option.map_some]
@[simp] theorem gAbs_i {i : Int} : gAbs [.int i] = some (.int (if i < 0 then -i else i)) := by
  unfold gAbs
  first | rfl | (split <;> simp_all; done) | (congr 1; congr 1; omega)
/-- xs[i] -/
theorem atI_in {α : Type} {xs : List α} {i : Int} (h0 : 0 ≤ i) (h1 : i < xs.length) : atI xs i = xs[i.toNat]? := by
  unfold atI ixN
  rw [if_pos h0, if_pos h1]
  rfl
theorem gIx_l {xs : List D} {i : Int} (h0 : 0 ≤ i) (h1 : i < xs.length) : gIx (.lst xs) (.int i) = xs[i.toNat]? := atI_in h0 h1
theorem gIx_t {xs : List D} {i : Int} (h0 : 0 ≤ i) (h1 : i < xs.length) : gIx (.tup xs) (.int i) = xs[i.toNat]? := atI_in h0 h1
theorem gIx_li {ns : List Int} {i : Int} (h0 : 0 ≤ i) (h1 : i < ns.length) : gIx (.lst (ns.map D.int)) (.int i) = some (.int (ns.getD i.toNat 0)) := by
  rw [gIx_l h0 (by rw [List.length_map]; exact h1), List.getElem?_map]
  have h : i.toNat < ns.length := by omega
  rw [List.getElem?_eq_getElem h]
  simp [List.getD, List.getElem?_eq_getElem h]
theorem gIx_ti {ns : List Int} {i : Int} (h0 : 0 ≤ i) (h1 : i < ns.length) : gIx (.tup (ns.map D.int)) (.int i) = some (.int (ns.getD i.toNat 0)) := by
  rw [gIx_t h0 (by rw [List.length_map]; exact h1), List.getElem?_map]
  have h : i.toNat < ns.length := by omega
  rw [List.getElem?_eq_getElem h]
  simp [List.getD, List.getElem?_eq_getElem h]
theorem gIx_s {ns : List Int} {i : Int} (h0 : 0 ≤ i) (h1 : i < ns.length) : gIx (.scr ns) (.int i) = some (.int (ns.getD i.toNat 0)) := by
  show (atI ns i).map D.int = _
  rw [atI_in h0 h1]
  have h : i.toNat < ns.length := by omega
  rw [List.getElem?_eq_getElem h]
  simp [List.getD, List.getElem?_eq_getElem h]

/-! ### comprehensions -/
theorem compL_filter {α : Type} {t : Ft} {c : Fb} {y : Fe} {enc g : α → D} {p : α → Bool} : ∀ xs : List α, (∀ x ∈ xs, ∃ e, t (enc x) env = some e ∧ c e = some (p x) ∧ (p x = true → y e = some (g x))) → compL t c y env (xs.map enc) = some ((xs.filter p).map g)
  | [], _ => rfl
  | x :: xs, h => by
    obtain ⟨e, h1, h2, h3⟩ := h x List.mem_cons_self
    have ih := compL_filter xs fun y hy => h y (List.mem_cons_of_mem _ hy)
    show (t (enc x) env).bind _ = _
    rw [h1]
    show (c e).bind _ = _
    rw [h2]
    show (if p x = true then (y e).bind fun d => (compL t c y env (xs.map enc)).map (d :: ·) else compL t c y env (xs.map enc)) = _
    rw [ih]
    cases hp : p x with
    | true =>
      rw [if_pos rfl, h3 hp, List.filter_cons_of_pos hp]
      rfl
    | false => rw [if_neg Bool.false_ne_true, List.filter_cons_of_neg (by simp [hp])]
theorem compL_map {α : Type} {t : Ft} {c : Fb} {y : Fe} {enc g : α → D} (xs : List α) (h : ∀ x ∈ xs, ∃ e, t (enc x) env = some e ∧ c e = some true ∧ y e = some (g x)) : compL t c y env (xs.map enc) = some (xs.map g) := by
  have := compL_filter (t := t) (c := c) (y := y) (env := env) (enc := enc) (g := g) (p := fun _ => true) xs fun x hx => by
    obtain ⟨e, h1, h2, h3⟩ := h x hx
    exact ⟨e, h1, h2, fun _ => h3⟩
  rw [this, List.filter_eq_self.mpr (fun _ _ => rfl)]
theorem fLc_map {α : Type} {own : List Nat} {it : Fl} {t : Ft} {c : Fb} {y : Fe} {enc g : α → D} {xs : List α} (h0 : it env = some (xs.map enc)) (hz : xs.length ≤ 16777216) (h : ∀ x ∈ xs, ∃ e, t (enc x) (wipeE env own) = some e ∧ c e = some true ∧ y e = some (g x)) : fLc own it t c y env = some (xs.map g) := by
  unfold fLc
  rw [h0]
  show (if lim (xs.map enc).length = true then _ else _) = _
  rw [if_pos (by rw [List.length_map]; exact decide_eq_true hz)]
  exact compL_map xs h
theorem fLc_filter {α : Type} {own : List Nat} {it : Fl} {t : Ft} {c : Fb} {y : Fe} {enc g : α → D} {p : α → Bool} {xs : List α} (h0 : it env = some (xs.map enc)) (hz : xs.length ≤ 16777216) (h : ∀ x ∈ xs, ∃ e, t (enc x) (wipeE env own) = some e ∧ c e = some (p x) ∧ (p x = true → y e = some (g x))) : fLc own it t c y env = some ((xs.filter p).map g) := by
  unfold fLc
  rw [h0]
  show (if lim (xs.map enc).length = true then _ else _) = _
  rw [if_pos (by rw [List.length_map]; exact decide_eq_true hz)]
  exact compL_filter xs h
/-- a range as a list of ints -/
def rngN (n : Nat) : List Int := (List.range n).map fun k : Nat => (k : Int)
theorem rngL_map (n : Nat) : rngL 0 n = (rngN n).map D.int := by
  unfold rngL rngN
  rw [List.map_map]
  apply List.map_congr_left
  intro k _
  simp
theorem rngN_len (n : Nat) : (rngN n).length = n := by simp [rngN]
theorem mem_rngN {n : Nat} {x : Int} (h : x ∈ rngN n) : 0 ≤ x ∧ x < n := by
  unfold rngN at h
  obtain ⟨k, hk, rfl⟩ := List.mem_map.mp h
  have := List.mem_range.mp hk
  omega
theorem ev_rg1 {j : Int} (h : fl env = some [.int j]) (h0 : -1000000000 ≤ j) (h1 : j ≤ 1000000000) : iRg1 fl env = some ((rngN j.toNat).map D.int) := by
  unfold iRg1
  rw [h]
  show (if rngOk j = true then _ else _) = _
  rw [if_pos (by unfold rngOk; rw [decide_eq_true h0, decide_eq_true h1]; rfl), rngL_map]
@[simp] theorem ev_gNm : gNm i d env = some (env.set i (.val d)) := rfl
@[simp] theorem ev_gTp {g : Fts} {xs : List D} : gTp g (.tup xs) env = g xs env := rfl
@[simp] theorem ev_gTl {g : Fts} {xs : List D} : gTl g (.lst xs) env = g xs env := rfl
@[simp] theorem ev_gsNil : gsNil [] env = some env := rfl
@[simp] theorem ev_gsCons {f : Ft} {g : Fts} {xs : List D} : gsCons f g (d :: xs) env = (f d env).bind fun e => g xs e := rfl
@[simp] theorem wipe_nil : wipeE env [] = env := rfl
@[simp] theorem wipe_cons {v : Nat} {vs : List Nat} : wipeE env (v :: vs) = (wipeE env vs).set v .un := rfl
end
end PD

set_option Elab.async false
set_option linter.all false
set_option maxRecDepth 100000
namespace PD
open PySem L2
/-! ### the helpers that every law has -/
def b_l_mixed : Cmd :=
    (sSeq (sSet 2 (eC (.int 0)))
    (sSeq (sIf (asB (eOp gGt (eCall gLen (aCons (bVar 0) aNil)) (eC (.int 0))))
    (sSet 2 (eOp gIx (bVar 0) (eOp gMod (bVar 1) (eCall gLen (aCons (bVar 0) aNil)))))
    sNop)
    (sSeq (sSet 3 (eOp gMod (eCall gInt (aCons (eOp gAdd (eOp gAdd (eOp gMul (bVar 2) (eC (.int 48271))) (eOp gMul (bVar 1) (eC (.int 69621)))) (eC (.int 8191))) aNil)) (eC (.int 2147483647))))
    (sSeq (sSet 4 (eOp gMod (eCall gInt (aCons (eOp gAdd (eOp gAdd (eOp gMul (bVar 3) (bVar 3)) (eOp gDiv (bVar 3) (eC (.int 7)))) (eOp gMul (bVar 1) (eC (.int 16807)))) aNil)) (eC (.int 2147483629))))
    (sSeq (sSet 5 (eOp gMod (eCall gInt (aCons (eOp gAdd (eOp gAdd (eOp gMul (bVar 4) (bVar 4)) (eOp gDiv (bVar 4) (eC (.int 11)))) (eC (.int 40692))) aNil)) (eC (.int 2147483563))))
    (sRet (eOp gMod (eOp gDiv (bVar 5) (eC (.int 5))) (eC (.int 1000003)))))))))
def run_l_mixed : List D → Option D := runC 2 4 b_l_mixed
def b_l_row : Cmd :=
    (sSeq (sSet 2 (eC (.int 0)))
    (sSeq (sIf (tAndF (asB (eOp gGt (eCall gLen (aCons (bVar 0) aNil)) (eC (.int 0)))) (asB (eOp gGe (eOp gIx (bVar 0) (eC (.int 0))) (eOp gPow (eC (.int 10)) (eC (.int 18))))))
    (sSet 2 (eOp gIx (bVar 0) (eC (.int 0))))
    sNop)
    (sSeq (sSetO 3 (fun env => (aNil env).bind fun ds => if lim ds.length then some ds else none))
    (sSeq (sFor (iRg1 (aCons (bVar 1) aNil)) (gNm 4)
    (sIf (asB (eOp gGt (bVar 2) (eC (.int 0))))
    (sSeq (sApp 3 (eOp gMod (eCall gInt (aCons (bVar 2) aNil)) (eC (.int 1000))))
    (sSet 2 (eOp gDiv (bVar 2) (eC (.int 1000)))))
    (sApp 3 (eFn run_l_mixed (aCons (eVar 0) (aCons (eVar 4) aNil))))))
    (sFrz [3] (sRet (eVar 3)))))))
def run_l_row : List D → Option D := runC 2 3 b_l_row
def b_l_is_int : Cmd :=
    (sRet (eAnd (eIsi "int" (bVar 0)) (eNot (eIsi "bool" (bVar 0)))))
def run_l_is_int : List D → Option D := runC 1 0 b_l_is_int
def b_l_like (rec : List D → Option D) : Cmd :=
    (sSeq (sIf (asB (eOp gIs (bVar 1) (eC .non)))
    (sRet (eOp gIs (bVar 0) (eC .non)))
    sNop)
    (sSeq (sIf (asT (eIsi "bool" (bVar 1)))
    (sRet (eAnd (eIsi "bool" (bVar 0)) (eOp gEq (bVar 0) (bVar 1))))
    sNop)
    (sSeq (sIf (asT (eIsi "tuple" (bVar 1)))
    (sSeq (sIf (tOrF (tNotF (asT (eIsi "tuple" (bVar 0)))) (asB (eOp gNe (eCall gLen (aCons (bVar 0) aNil)) (eCall gLen (aCons (bVar 1) aNil)))))
    (sRet (eC (.bl false)))
    sNop)
    (sRet (eCall gAll (aCons (asL (fLc [2] (iRg1 (aCons (eCall gLen (aCons (bVar 1) aNil)) aNil)) (gNm 2) tYesF (eFn rec (aCons (eOp gIx (bVar 0) (bVar 2)) (aCons (eOp gIx (bVar 1) (bVar 2)) aNil))))) aNil))))
    sNop)
    (sSeq (sIf (asT (eIsi "str" (bVar 1)))
    (sRet (eAnd (eIsi "str" (bVar 0)) (eOp gEq (bVar 0) (bVar 1))))
    sNop)
    (sRet (eAnd (eFn run_l_is_int (aCons (eVar 0) aNil)) (eOp gEq (bVar 0) (bVar 1))))))))
def run_l_like : Nat → List D → Option D
  | 0 => fun _ => none
  | fuel + 1 => runC 2 1 (b_l_like (run_l_like fuel))
theorem mod_lt {a b : Int} (h : 0 < b) : 0 ≤ a % b ∧ a % b < b := ⟨Int.emod_nonneg a (by omega), Int.emod_lt_of_pos a h⟩
theorem run_mixed (ns : List Int) (k : Int) (h0 : 0 ≤ k) : ∃ x : Int, run_l_mixed [.scr ns, .int k] = some (.int x) ∧ 0 ≤ x ∧ x < 1000003 := by
  have fin : ∀ cell : Int, ∃ x : Int, 0 ≤ x ∧ x < 1000003 ∧ ∀ e : List Sl, e.length = 6 → e[1]? = some (.val (.int k)) → e[2]? = some (.val (.int cell)) →
      (sSeq (sSet 3 (eOp gMod (eCall gInt (aCons (eOp gAdd (eOp gAdd (eOp gMul (bVar 2) (eC (.int 48271))) (eOp gMul (bVar 1) (eC (.int 69621)))) (eC (.int 8191))) aNil)) (eC (.int 2147483647))))
    (sSeq (sSet 4 (eOp gMod (eCall gInt (aCons (eOp gAdd (eOp gAdd (eOp gMul (bVar 3) (bVar 3)) (eOp gDiv (bVar 3) (eC (.int 7)))) (eOp gMul (bVar 1) (eC (.int 16807)))) aNil)) (eC (.int 2147483629))))
    (sSeq (sSet 5 (eOp gMod (eCall gInt (aCons (eOp gAdd (eOp gAdd (eOp gMul (bVar 4) (bVar 4)) (eOp gDiv (bVar 4) (eC (.int 11)))) (eC (.int 40692))) aNil)) (eC (.int 2147483563))))
    (sRet (eOp gMod (eOp gDiv (bVar 5) (eC (.int 5))) (eC (.int 1000003))))))) e = some (.rt (.int x)) := by
    intro cell
    have b1 := mod_lt (a := cell * 48271 + k * 69621 + 8191) (b := 2147483647) (by omega)
    generalize e1 : (cell * 48271 + k * 69621 + 8191) % 2147483647 = x1 at b1
    have b2 := mod_lt (a := x1 * x1 + x1 / 7 + k * 16807) (b := 2147483629) (by omega)
    generalize e2 : (x1 * x1 + x1 / 7 + k * 16807) % 2147483629 = x2 at b2
    have b3 := mod_lt (a := x2 * x2 + x2 / 11 + 40692) (b := 2147483563) (by omega)
    generalize e3 : (x2 * x2 + x2 / 11 + 40692) % 2147483563 = x3 at b3
    have b4 := mod_lt (a := x3 / 5) (b := 1000003) (by omega)
    refine ⟨_, b4.1, b4.2, fun e hl h1 h2 => ?_⟩
    refine seq_set (d := .int x1) ?_ ?_
    · simp only [ev_op, ev_call, ev_cons, ev_nil, ev_c, ev_bvar, h1, h2, Option.bind_some, slB_val, gMul_i (mulOk_r (i := cell) (j := 48271) (by omega) (by omega)), gMul_i (mulOk_r (i := k) (j := 69621) (by omega) (by omega)), gAdd_i, gInt_i, gMod_i (show (0:Int) < 2147483647 by omega), e1]
    refine seq_set (d := .int x2) ?_ ?_
    · have g1 : (e.set 3 (.val (.int x1)))[1]? = some (.val (.int k)) := by rw [List.getElem?_set_ne (by omega)]; exact h1
      have g3 : (e.set 3 (.val (.int x1)))[3]? = some (.val (.int x1)) := by rw [List.getElem?_set_self (by omega)]
      simp only [ev_op, ev_call, ev_cons, ev_nil, ev_c, ev_bvar, g1, g3, Option.bind_some, slB_val, gMul_i (mulOk_r (i := x1) (j := x1) (by omega) (by omega)), gMul_i (mulOk_r (i := k) (j := 16807) (by omega) (by omega)), gDiv_i (i := x1) (show (0:Int) < 7 by omega) (by omega), gAdd_i, gInt_i, gMod_i (show (0:Int) < 2147483629 by omega), e2]
    refine seq_set (d := .int x3) ?_ ?_
    · have g4 : ((e.set 3 (.val (.int x1))).set 4 (.val (.int x2)))[4]? = some (.val (.int x2)) := by rw [List.getElem?_set_self (by simp; omega)]
      simp only [ev_op, ev_call, ev_cons, ev_nil, ev_c, ev_bvar, g4, Option.bind_some, slB_val, gMul_i (mulOk_r (i := x2) (j := x2) (by omega) (by omega)), gDiv_i (i := x2) (show (0:Int) < 11 by omega) (by omega), gAdd_i, gInt_i, gMod_i (show (0:Int) < 2147483563 by omega), e3]
    refine run_ret ?_
    have g5 : (((e.set 3 (.val (.int x1))).set 4 (.val (.int x2))).set 5 (.val (.int x3)))[5]? = some (.val (.int x3)) := by rw [List.getElem?_set_self (by simp; omega)]
    simp only [ev_op, ev_c, ev_bvar, g5, Option.bind_some, slB_val, gDiv_i (i := x3) (show (0:Int) < 5 by omega) (by omega), gMod_i (show (0:Int) < 1000003 by omega)]
  by_cases hp : 0 < ns.length
  · have hpz : (0 : Int) < (ns.length : Nat) := by omega
    have bm := mod_lt (a := k) hpz
    obtain ⟨x, hx0, hx1, hx⟩ := fin (ns.getD (k % (ns.length : Nat)).toNat 0)
    refine ⟨x, runC_rt rfl ?_, hx0, hx1⟩
    refine seq_set (d := .int 0) rfl ?_
    refine seq_if1 (e := [.val (.scr ns), .val (.int k), .val (.int (ns.getD (k % (ns.length : Nat)).toNat 0)), .un, .un, .un]) ?_ ?_ ?_
    · simp [hp]
    · refine run_set ?_
      simp [gMod_i hpz, gIx_s bm.1 bm.2]
    · exact hx _ rfl rfl rfl
  · obtain ⟨x, hx0, hx1, hx⟩ := fin 0
    refine ⟨x, runC_rt rfl ?_, hx0, hx1⟩
    refine seq_set (d := .int 0) rfl ?_
    refine seq_if0 ?_ ?_
    · have z : ns = [] := List.length_eq_zero_iff.mp (by omega)
      simp [z]
    · exact hx _ rfl rfl rfl

def rowBody : Cmd := (sIf (asB (eOp gGt (bVar 2) (eC (.int 0))))
    (sSeq (sApp 3 (eOp gMod (eCall gInt (aCons (bVar 2) aNil)) (eC (.int 1000))))
    (sSet 2 (eOp gDiv (bVar 2) (eC (.int 1000)))))
    (sApp 3 (eFn run_l_mixed (aCons (eVar 0) (aCons (eVar 4) aNil)))))
theorem row_loop (ns : List Int) (m : D) : ∀ (zs : List Int) (acc : List Int) (big : Int) (k0 : Sl), (∀ z ∈ zs, 0 ≤ z) → 0 ≤ big → acc.length + zs.length ≤ 1000000 → (∀ x ∈ acc, 0 ≤ x ∧ x < 1000003) →
    ∃ (acc' : List Int) (big' : Int) (k1 : Sl), forL (gNm 4) rowBody (zs.map D.int) [.val (.scr ns), .val m, .val (.int big), .own (acc.map D.int), k0] = some (.nx [.val (.scr ns), .val m, .val (.int big'), .own (acc'.map D.int), k1]) ∧ acc'.length = acc.length + zs.length ∧ ∀ x ∈ acc', 0 ≤ x ∧ x < 1000003
  | [], acc, big, k0, _, _, _, ha => ⟨acc, big, k0, rfl, rfl, ha⟩
  | z :: zs, acc, big, k0, hz, hb, hl, ha => by
    rw [List.length_cons] at hl
    have hz0 := hz z List.mem_cons_self
    by_cases hp : 0 < big
    · have bm := mod_lt (a := big) (b := 1000) (by omega)
      have hb' : 0 ≤ big / 1000 := Int.ediv_nonneg hb (by omega)
      obtain ⟨acc', big', k1, h1, h2, h3⟩ := row_loop ns m zs (acc ++ [big % 1000]) (big / 1000) (.val (.int z)) (fun y hy => hz y (List.mem_cons_of_mem _ hy)) hb' (by simp; omega) (fun x hx => by
        rcases List.mem_append.mp hx with h | h
        · exact ha x h
        · rw [List.mem_singleton.mp h]
          omega)
      refine ⟨acc', big', k1, ?_, by rw [h2]; simp; omega, h3⟩
      show ((gNm 4 (.int z) _).bind _) = _
      rw [ev_gNm]
      show (match rowBody [.val (.scr ns), .val m, .val (.int big), .own (acc.map D.int), .val (.int z)] with
        | some (.nx e) => forL (gNm 4) rowBody (zs.map D.int) e
        | some (.ct e) => forL (gNm 4) rowBody (zs.map D.int) e
        | some (.bk e) => some (.nx e)
        | some (.rt d) => some (.rt d)
        | none => none) = _
      have hbd : rowBody [.val (.scr ns), .val m, .val (.int big), .own (acc.map D.int), .val (.int z)] = some (.nx [.val (.scr ns), .val m, .val (.int (big / 1000)), .own ((acc ++ [big % 1000]).map D.int), .val (.int z)]) := by
        refine run_if1 (by simp [hp]) ?_
        refine seq_app (d := .int (big % 1000)) (ds := acc.map D.int) (by simp [gMod_i (i := big) (show (0:Int) < 1000 by omega)]) rfl (by simp; omega) ?_
        rw [List.map_append]
        exact run_set (d := .int (big / 1000)) (by simp [gDiv_i (i := big) (show (0:Int) < 1000 by omega) (by omega)])
      rw [hbd]
      exact h1
    · obtain ⟨x, hx, hx0, hx1⟩ := run_mixed ns z hz0
      obtain ⟨acc', big', k1, h1, h2, h3⟩ := row_loop ns m zs (acc ++ [x]) big (.val (.int z)) (fun y hy => hz y (List.mem_cons_of_mem _ hy)) hb (by simp; omega) (fun y hy => by
        rcases List.mem_append.mp hy with h | h
        · exact ha y h
        · rw [List.mem_singleton.mp h]
          omega)
      refine ⟨acc', big', k1, ?_, by rw [h2]; simp; omega, h3⟩
      show (match rowBody [.val (.scr ns), .val m, .val (.int big), .own (acc.map D.int), .val (.int z)] with
        | some (.nx e) => forL (gNm 4) rowBody (zs.map D.int) e
        | some (.ct e) => forL (gNm 4) rowBody (zs.map D.int) e
        | some (.bk e) => some (.nx e)
        | some (.rt d) => some (.rt d)
        | none => none) = _
      have hbd : rowBody [.val (.scr ns), .val m, .val (.int big), .own (acc.map D.int), .val (.int z)] = some (.nx [.val (.scr ns), .val m, .val (.int big), .own ((acc ++ [x]).map D.int), .val (.int z)]) := by
        refine run_if0 (by simp; omega) ?_
        rw [List.map_append]
        exact run_app (d := .int x) (by simp [hx]) rfl (by simp; omega)
      rw [hbd]
      exact h1
/-- the numbers that a law draws -/
theorem run_row (ns : List Int) (many : Nat) (hm : many ≤ 1000000) : ∃ row : List Int, run_l_row [.scr ns, .int many] = some (.lst (row.map D.int)) ∧ row.length = many ∧ ∀ x ∈ row, 0 ≤ x ∧ x < 1000003 := by
  have fin : ∀ big : Int, 0 ≤ big → ∃ row : List Int, row.length = many ∧ (∀ x ∈ row, 0 ≤ x ∧ x < 1000003) ∧
      (sSeq (sSetO 3 (fun env => (aNil env).bind fun ds => if lim ds.length then some ds else none))
    (sSeq (sFor (iRg1 (aCons (bVar 1) aNil)) (gNm 4) rowBody)
    (sFrz [3] (sRet (eVar 3))))) [.val (.scr ns), .val (.int many), .val (.int big), .un, .un] = some (.rt (.lst (row.map D.int))) := by
    intro big hb
    obtain ⟨row, big', k1, h1, h2, h3⟩ := row_loop ns (.int many) (rngN many) [] big .un (fun z hz => (mem_rngN hz).1) hb (by rw [rngN_len]; simpa using hm) (fun x hx => nomatch hx)
    refine ⟨row, by rw [h2, rngN_len]; simp, h3, ?_⟩
    refine seq_setO (ds := []) rfl ?_
    refine seq_nx (e := [.val (.scr ns), .val (.int many), .val (.int big'), .own (row.map D.int), k1]) ?_ ?_
    · unfold sFor
      have hr := ev_rg1 (fl := aCons (bVar 1) aNil) (env := [.val (.scr ns), .val (.int many), .val (.int big), .own [], .un]) (j := many) rfl (by omega) (by omega)
      show (iRg1 (aCons (bVar 1) aNil) [.val (.scr ns), .val (.int many), .val (.int big), .own [], .un]).bind _ = _
      rw [hr, Int.toNat_natCast]
      exact h1
    · refine run_frz ?_
      rw [frz_cons, frz_own (ds := row.map D.int) rfl]
      exact run_ret rfl
  have key : ∃ big : Int, 0 ≤ big ∧ ∀ o, (sSeq (sSetO 3 (fun env => (aNil env).bind fun ds => if lim ds.length then some ds else none))
    (sSeq (sFor (iRg1 (aCons (bVar 1) aNil)) (gNm 4) rowBody)
    (sFrz [3] (sRet (eVar 3))))) [.val (.scr ns), .val (.int many), .val (.int big), .un, .un] = o → b_l_row [.val (.scr ns), .val (.int many), .un, .un, .un] = o := by
    have p10 : gPow (.int 10) (.int 18) = some (.int 1000000000000000000) := rfl
    by_cases hp : 0 < ns.length
    · have hx := gIx_s (ns := ns) (i := 0) (by omega) (by omega)
      by_cases hq : 1000000000000000000 ≤ ns.getD 0 0
      · refine ⟨ns.getD 0 0, by omega, fun o h => ?_⟩
        refine seq_set (d := .int 0) rfl ?_
        refine seq_if1 (e := [.val (.scr ns), .val (.int many), .val (.int (ns.getD 0 0)), .un, .un]) ?_ (run_set hx) h
        simp only [ev_and, ev_asB, ev_op, ev_call, ev_cons, ev_nil, ev_c, ev_bvar, List.set_cons_succ, List.set_cons_zero, List.getElem?_cons_zero, Option.bind_some, slB_val, gLen_s, gGt_i, blD_bl, p10, hx, gGe_i]
        simp only [Int.toNat_zero, decide_eq_true hq, decide_eq_true (show (0:Int) < (ns.length : Nat) by omega), if_true]
      · refine ⟨0, by omega, fun o h => ?_⟩
        refine seq_set (d := .int 0) rfl ?_
        refine seq_if0 ?_ h
        simp only [ev_and, ev_asB, ev_op, ev_call, ev_cons, ev_nil, ev_c, ev_bvar, List.set_cons_succ, List.set_cons_zero, List.getElem?_cons_zero, Option.bind_some, slB_val, gLen_s, gGt_i, blD_bl, p10, hx, gGe_i]
        simp only [Int.toNat_zero, decide_eq_false hq, decide_eq_true (show (0:Int) < (ns.length : Nat) by omega), if_true]
    · refine ⟨0, by omega, fun o h => ?_⟩
      refine seq_set (d := .int 0) rfl ?_
      refine seq_if0 ?_ h
      simp only [ev_and, ev_asB, ev_op, ev_call, ev_cons, ev_nil, ev_c, ev_bvar, List.set_cons_succ, List.set_cons_zero, List.getElem?_cons_zero, Option.bind_some, slB_val, gLen_s, gGt_i, blD_bl]
      simp only [decide_eq_false (show ¬ (0:Int) < (ns.length : Nat) by omega), Bool.false_eq_true, if_false]
  obtain ⟨big, hb, hk⟩ := key
  obtain ⟨row, h1, h2, h3⟩ := fin big hb
  exact ⟨row, runC_rt rfl (hk _ h3), h1, h2⟩

/-! ### _law_like -/
def okL : Nat → D → Bool
  | _ + 1, .non => true
  | _ + 1, .bl _ => true
  | _ + 1, .int _ => true
  | _ + 1, .str x => PyData.strOk x
  | n + 1, .tup xs => xs.all (okL n) && lim xs.length
  | _, _ => false
theorem gIs_non {d : D} : gIs d .non = some (.bl (isNon d)) := rfl
theorem isiD_of {T : String} {d : D} {b : Bool} (h : isiD T d = b) : isiD T d = b := h
theorem isi_bool_int {i : Int} : isiD "bool" (.int i) = false := by simp [isiD, tyD]
theorem isi_bool_bl {i : Bool} : isiD "bool" (.bl i) = true := by simp [isiD, tyD]
theorem isi_bool_tup {i : List D} : isiD "bool" (.tup i) = false := by simp [isiD, tyD]
theorem isi_bool_lst {i : List D} : isiD "bool" (.lst i) = false := by simp [isiD, tyD]
theorem isi_bool_str {i : Str} : isiD "bool" (.str i) = false := by simp [isiD, tyD]
theorem isi_bool_non : isiD "bool" .non = false := by simp [isiD, tyD]
theorem isi_tup_int {i : Int} : isiD "tuple" (.int i) = false := by simp [isiD, tyD]
theorem isi_tup_bl {i : Bool} : isiD "tuple" (.bl i) = false := by simp [isiD, tyD]
theorem isi_tup_tup {i : List D} : isiD "tuple" (.tup i) = true := by simp [isiD, tyD]
theorem isi_tup_lst {i : List D} : isiD "tuple" (.lst i) = false := by simp [isiD, tyD]
theorem isi_tup_str {i : Str} : isiD "tuple" (.str i) = false := by simp [isiD, tyD]
theorem isi_tup_non : isiD "tuple" .non = false := by simp [isiD, tyD]
theorem isi_str_int {i : Int} : isiD "str" (.int i) = false := by simp [isiD, tyD]
theorem isi_str_bl {i : Bool} : isiD "str" (.bl i) = false := by simp [isiD, tyD]
theorem isi_str_tup {i : List D} : isiD "str" (.tup i) = false := by simp [isiD, tyD]
theorem isi_str_str {i : Str} : isiD "str" (.str i) = true := by simp [isiD, tyD]
theorem isi_int_int {i : Int} : isiD "int" (.int i) = true := by simp [isiD, tyD]
theorem isi_int_bl {i : Bool} : isiD "int" (.bl i) = true := by simp [isiD, tyD]
theorem isi_int_tup {i : List D} : isiD "int" (.tup i) = false := by simp [isiD, tyD]
theorem isi_int_str {i : Str} : isiD "int" (.str i) = false := by simp [isiD, tyD]
theorem isi_int_non : isiD "int" .non = false := by simp [isiD, tyD]
@[simp] theorem truD_bl {b : Bool} : truD (.bl b) = some b := rfl
theorem run_is_int (d : D) (hd : notDic d = true) : run_l_is_int [d] = some (.bl (isiD "int" d && !isiD "bool" d)) := by
  refine runC_rt rfl (run_ret ?_)
  show (eAnd (eIsi "int" (bVar 0)) (eNot (eIsi "bool" (bVar 0)))) [.val d] = _
  simp only [ev_eand, ev_isi, ev_enot, ev_bvar, List.getElem?_cons_zero, Option.bind_some, slB_val, blD_bl, isiO_of hd]
  cases isiD "int" d <;> cases isiD "bool" d <;> rfl
section
variable {n : Nat} {v d : D}
theorem like_int {i j : Int} : run_l_like (n + 1) [.int i, .int j] = some (.bl (decide (i = j))) := by
  refine runC_rt rfl ?_
  show b_l_like (run_l_like n) [.val (.int i), .val (.int j), .un] = _
  refine seq_if0 (by simp [gIs_non, isNon]) ?_
  refine seq_if0 (by simp [isi_bool_int]) ?_
  refine seq_if0 (by simp [isi_tup_int]) ?_
  refine seq_if0 (by simp [isi_str_int]) ?_
  refine run_ret ?_
  simp [run_is_int (.int i) rfl, isi_int_int, isi_bool_int]
theorem like_bool {i j : Bool} : run_l_like (n + 1) [.bl i, .bl j] = some (.bl (i == j)) := by
  refine runC_rt rfl ?_
  show b_l_like (run_l_like n) [.val (.bl i), .val (.bl j), .un] = _
  refine seq_if0 (by simp [gIs_non, isNon]) ?_
  refine seq_if1r (by simp [isi_bool_bl]) (run_ret ?_)
  simp [isi_bool_bl]
theorem like_non : run_l_like (n + 1) [.non, .non] = some (.bl true) := by
  refine runC_rt rfl ?_
  show b_l_like (run_l_like n) [.val .non, .val .non, .un] = _
  refine seq_if1r (by simp [gIs_non, isNon]) (run_ret ?_)
  simp [gIs_non, isNon]
theorem str_beq (x : Str) : (x == x) = true := by simp
theorem like_str {x : Str} (h : PyData.strOk x = true) : run_l_like (n + 1) [.str x, .str x] = some (.bl true) := by
  refine runC_rt rfl ?_
  show b_l_like (run_l_like n) [.val (.str x), .val (.str x), .un] = _
  refine seq_if0 (by simp [gIs_non, isNon]) ?_
  refine seq_if0 (by simp [isi_bool_str]) ?_
  refine seq_if0 (by simp [isi_tup_str]) ?_
  refine seq_if1r (by simp [isi_str_str]) (run_ret ?_)
  simp [isi_str_str, gEq, okN, h, eqD, py, PyData.eqv]
theorem like_tup {xs : List D} (hz : xs.length ≤ 16777216) (h : ∀ x ∈ xs, run_l_like n [x, x] = some (.bl true)) : run_l_like (n + 1) [.tup xs, .tup xs] = some (.bl true) := by
  refine runC_rt rfl ?_
  show b_l_like (run_l_like n) [.val (.tup xs), .val (.tup xs), .un] = _
  refine seq_if0 (by simp [gIs_non, isNon]) ?_
  refine seq_if0 (by simp [isi_bool_tup]) ?_
  refine seq_if1r (by simp [isi_tup_tup]) ?_
  refine seq_if0 (by simp [isi_tup_tup]) ?_
  refine run_ret ?_
  have hr : iRg1 (aCons (eCall gLen (aCons (bVar 1) aNil)) aNil) [.val (.tup xs), .val (.tup xs), .un] = some ((rngN xs.length).map D.int) := by
    have := ev_rg1 (fl := aCons (eCall gLen (aCons (bVar 1) aNil)) aNil) (env := [.val (.tup xs), .val (.tup xs), .un]) (j := xs.length) rfl (by omega) (by omega)
    rw [this, Int.toNat_natCast]
  have hf := fLc_map (own := [2]) (t := gNm 2) (c := tYesF) (y := eFn (run_l_like n) (aCons (eOp gIx (bVar 0) (bVar 2)) (aCons (eOp gIx (bVar 1) (bVar 2)) aNil))) (g := fun _ => D.bl true) hr (by rw [rngN_len]; exact hz) (fun z hz => by
    obtain ⟨z0, z1⟩ := mem_rngN hz
    have zn : z.toNat < xs.length := by omega
    refine ⟨_, rfl, rfl, ?_⟩
    have g1 : gIx (.tup xs) (.int z) = some xs[z.toNat] := by rw [gIx_t z0 z1, List.getElem?_eq_getElem zn]
    simp [g1, h _ (List.getElem_mem zn)])
  rw [ev_call, ev_cons, ev_asL, hf]
  have e : (rngN xs.length).map (fun _ => D.bl true) = ((rngN xs.length).map fun _ => true).map D.bl := by rw [List.map_map]; rfl
  simp only [Option.map_some, Option.bind_some, ev_nil]
  rw [e, gAll_l]
  congr 2
  rw [List.all_eq_true]
  intro b hb
  obtain ⟨_, _, rfl⟩ := List.mem_map.mp hb
  rfl
end
theorem like_refl : ∀ (n : Nat) (d : D), okL n d = true → run_l_like n [d, d] = some (.bl true)
  | 0, d, h => by cases d <;> simp [okL] at h
  | n + 1, .non, _ => like_non
  | n + 1, .bl b, _ => by rw [like_bool]; simp
  | n + 1, .int i, _ => by rw [like_int]; simp
  | n + 1, .str x, h => like_str (by simpa [okL] using h)
  | n + 1, .tup xs, h => by
    simp only [okL, Bool.and_eq_true] at h
    exact like_tup (by simpa [lim] using h.2) fun x hx => like_refl n x (List.all_eq_true.mp h.1 x hx)
  | n + 1, .lst _, h => by simp [okL] at h
  | n + 1, .dic _ _, h => by simp [okL] at h
  | n + 1, .scr _, h => by simp [okL] at h
  | n + 1, .st _, h => by simp [okL] at h
end PD

set_option Elab.async false
set_option linter.all false
set_option maxRecDepth 100000
set_option maxHeartbeats 4000000
namespace K65
section
open PySem PySem.Spec PyProof.Rows L2 PD
def topS (i : Nat) : Stmt := PySem.Challenge.pw_farkept_k65_whole_marks.main.body.getD i (.Pass ⟨0, 0, 0, 0⟩)
structure Bs (mg : Str → Option Value) : Prop where
  b_tuple : mg "tuple" = none
  b_len : mg "len" = none
  b_all : mg "all" = none
  b_range : mg "range" = none
  b_set : mg "set" = none
  b_enumerate : mg "enumerate" = none
  b_min : mg "min" = none
  b_sorted : mg "sorted" = none
  b_int : mg "int" = none
  b_isinstance : mg "isinstance" = none
  b_bool : mg "bool" = none
  b_str : mg "str" = none
  b_list : mg "list" = none
variable {P : Program} {w : World} {K : PySem.W.Frag} {mg : Str → Option Value} {base : Heap}

/-! _marks_of(key, n): 0 key, 1 n -/
abbrev s_marks_of : Stmt := topS 1
theorem sc_marks_of : FnScope ["key", "n"] ["key", "n"] (defScope s_marks_of) := ⟨rfl, rfl, rfl, by decide +kernel, rfl, by decide +kernel, by decide +kernel⟩
def b_marks_of : Cmd :=
    (sRet (eTup (aCons (eOp gMod (eOp gAdd (eOp gAdd (eOp gMul (bVar 0) (bVar 0)) (eOp gMul (eC (.int 3)) (bVar 0))) (eC (.int 1))) (bVar 1)) (aCons (eOp gMod (eOp gAdd (eOp gMul (eC (.int 5)) (bVar 0)) (eC (.int 2))) (bVar 1)) (aCons (eOp gMod (eOp gAdd (eOp gMul (eOp gMul (eC (.int 7)) (bVar 0)) (bVar 0)) (eC (.int 4))) (bVar 1)) aNil)))))
def run_marks_of : List D → Option D := runC 2 0 b_marks_of
theorem ok_marks_of (B : Bs mg) (F : FunT K mg "_marks_of" s_marks_of) : FnT P w K mg base "_marks_of" 1 2 run_marks_of :=
  fnt_mk (lv := 0) F sc_marks_of rfl rfl (fun _ _ _ _ _ _ us hl => match us, hl with | [_, _], _ => rfl) (fun f cdv A outer s H E hr =>
    (ssx_one (sx_ret (ex_tup (ax_cons (ex_op omod (bx (ex_op oadd (bx (ex_op oadd (bx (ex_op omul (bx_var (i := 0) rfl (Or.inl rfl)) (bx_var (i := 0) rfl (Or.inl rfl)))) (bx (ex_op omul (bx ex_int) (bx_var (i := 0) rfl (Or.inl rfl)))))) (bx ex_int))) (bx_var (i := 1) rfl (Or.inl rfl))) (ax_cons (ex_op omod (bx (ex_op oadd (bx (ex_op omul (bx ex_int) (bx_var (i := 0) rfl (Or.inl rfl)))) (bx ex_int))) (bx_var (i := 1) rfl (Or.inl rfl))) (ax_cons (ex_op omod (bx (ex_op oadd (bx (ex_op omul (bx (ex_op omul (bx ex_int) (bx_var (i := 0) rfl (Or.inl rfl)))) (bx_var (i := 0) rfl (Or.inl rfl)))) (bx ex_int))) (bx_var (i := 1) rfl (Or.inl rfl))) ax_nil)))))))

/-! mark_bits(keys, n): 0 keys, 1 n, 2 bits, 3 key, 4 place -/
abbrev s_mark_bits : Stmt := topS 2
theorem sc_mark_bits : FnScope ["keys", "n", "bits", "key", "place"] ["keys", "n"] (defScope s_mark_bits) := ⟨rfl, rfl, rfl, by decide +kernel, rfl, by decide +kernel, by decide +kernel⟩
def b_mark_bits : Cmd :=
    (sSeq (sSetO 2 (fOp gRepF (eLst (aCons (eC (.int 0)) aNil)) (bVar 1)))
    (sSeq (sFor (iSeq (eVar 0)) (gNm 3)
    (sFor (iSeq (eFn run_marks_of (aCons (eVar 3) (aCons (eVar 1) aNil)))) (gNm 4)
    (sSetI 2 (bVar 4) (eC (.int 1)))))
    (sRet (eCall gTuple (aCons (bVar 2) aNil)))))
def run_mark_bits : List D → Option D := runC 2 3 b_mark_bits
theorem ok_mark_bits (B : Bs mg) (F : FunT K mg "mark_bits" s_mark_bits) (c_marks_of : FnT P w K mg base "_marks_of" 1 2 run_marks_of) : FnT P w K mg base "mark_bits" 2 2 run_mark_bits :=
  fnt_mk (lv := 1) F sc_mark_bits rfl rfl (fun _ _ _ _ _ _ us hl => match us, hl with | [_, _], _ => rfl) (fun f cdv A outer s H E hr =>
    (ssx_cons (sx_setO (i := 2) sc_mark_bits.nd rfl (Or.inl rfl) (fx_op orepF (bx (ex_lst (ax_cons ex_int ax_nil))) (bx_var (i := 1) rfl (Or.inl rfl)))) (ssx_cons (sx_for PassesOwn.never rfl (ilx_seq (ex_var (i := 0) rfl (Or.inl rfl))) (gx_nm (i := 3) sc_mark_bits.nd rfl (Or.inl rfl)) (ssx_one (sx_for PassesOwn.never rfl (ilx_seq (ex_fnT c_marks_of hr (by decide) (by rfl) (ax_cons (ex_var (i := 3) rfl (Or.inl rfl)) (ax_cons (ex_var (i := 1) rfl (Or.inl rfl)) ax_nil)))) (gx_nm (i := 4) sc_mark_bits.nd rfl (Or.inl rfl)) (ssx_one (sx_setI (i := 2) rfl (Or.inl rfl) (bx_var (i := 4) rfl (Or.inl rfl)) ex_int))))) (ssx_one (sx_ret (ex_callTy ctuple (by rfl) B.b_tuple (by decide +kernel) (abx_cons (bx_var (i := 2) rfl (Or.inl rfl)) abx_nil)))))))

/-! may_have(bits, key): 0 bits, 1 key, 2 place -/
abbrev s_may_have : Stmt := topS 3
theorem sc_may_have : FnScope ["bits", "key", "place"] ["bits", "key"] (defScope s_may_have) := ⟨rfl, rfl, rfl, by decide +kernel, rfl, by decide +kernel, by decide +kernel⟩
def b_may_have : Cmd :=
    (sRet (eCall gAll (aCons (asL (fLc [2] (iSeq (eFn run_marks_of (aCons (eVar 1) (aCons (eCall gLen (aCons (bVar 0) aNil)) aNil)))) (gNm 2) tYesF (eOp gEq (eOp gIx (bVar 0) (bVar 2)) (eC (.int 1))))) aNil)))
def run_may_have : List D → Option D := runC 2 1 b_may_have
theorem ok_may_have (B : Bs mg) (F : FunT K mg "may_have" s_may_have) (c_marks_of : FnT P w K mg base "_marks_of" 1 2 run_marks_of) : FnT P w K mg base "may_have" 2 2 run_may_have :=
  fnt_mk (lv := 1) F sc_may_have rfl rfl (fun _ _ _ _ _ _ us hl => match us, hl with | [_, _], _ => rfl) (fun f cdv A outer s H E hr =>
    (ssx_one (sx_ret (ex_callB (call rfl) (by rfl) B.b_all (by decide +kernel) (abx_cons (bx (ex_f (fx_lc (own := [("place", 2)]) rfl sc_may_have.nd (icx_seq (bx (ex_fnT c_marks_of hr (by decide) (by rfl) (ax_cons (ex_var (i := 1) rfl (Or.inl rfl)) (ax_cons (ex_callB clen (by rfl) B.b_len PySem.boot_len (abx_cons (bx_var (i := 0) rfl (Or.inr (Or.inl rfl))) abx_nil)) ax_nil))))) (blkOk_by (by kernel_rfl)) (by decide) (fun _ _ _ _ _ => (gx_nm (i := 2) sc_may_have.nd rfl (by first | exact Or.inl rfl | exact Or.inr rfl))) (fun _ _ _ _ _ => pts_no) (fun _ _ _ _ _ => (ex_cmp (oeq hr.units) (bx (ex_ix (bx_var (i := 0) rfl (by first | exact Or.inl rfl | exact Or.inr (Or.inr rfl) | exact Or.inr (Or.inl rfl))) (bx_var (i := 2) rfl (by first | exact Or.inl rfl | exact Or.inr (Or.inr rfl) | exact Or.inr (Or.inl rfl))) (fun _ _ => rfl))) (bx ex_int) (nomark _)))))) abx_nil)))))

/-! false_keys(bits, keys, m): 0 bits, 1 keys, 2 m, 3 there, 4 key -/
abbrev s_false_keys : Stmt := topS 4
theorem sc_false_keys : FnScope ["bits", "keys", "m", "there", "key"] ["bits", "keys", "m"] (defScope s_false_keys) := ⟨rfl, rfl, rfl, by decide +kernel, rfl, by decide +kernel, by decide +kernel⟩
def b_false_keys : Cmd :=
    (sSeq (sSet 3 (eCall gSetM (aCons (bVar 1) aNil)))
    (sRet (eCall gTuple (aCons (asL (fLc [4] (iRg1 (aCons (bVar 2) aNil)) (gNm 4) (tAndF (asB (eOp (gSIn true) (bVar 4) (bVar 3))) (asT (eFn run_may_have (aCons (eVar 0) (aCons (eVar 4) aNil))))) (eVar 4))) aNil))))
def run_false_keys : List D → Option D := runC 3 2 b_false_keys
theorem ok_false_keys (B : Bs mg) (F : FunT K mg "false_keys" s_false_keys) (c_may_have : FnT P w K mg base "may_have" 2 2 run_may_have) : FnT P w K mg base "false_keys" 3 3 run_false_keys :=
  fnt_mk (lv := 2) F sc_false_keys rfl rfl (fun _ _ _ _ _ _ us hl => match us, hl with | [_, _, _], _ => rfl) (fun f cdv A outer s H E hr =>
    (ssx_cons (sx_set (i := 3) sc_false_keys.nd rfl (Or.inr rfl) (ex_setM rfl (by rfl) B.b_set (by decide +kernel) (bx_var (i := 1) rfl (Or.inl rfl)))) (ssx_one (sx_ret (ex_callTy ctuple (by rfl) B.b_tuple (by decide +kernel) (abx_cons (bx (ex_f (fx_lc (own := [("key", 4)]) rfl sc_false_keys.nd (ilx_c (ilx_rg1 (by rfl) B.b_range (abx_cons (bx_var (i := 2) rfl (Or.inl rfl)) abx_nil))) (blkOk_by (by kernel_rfl)) (by decide) (fun _ _ _ _ _ => (gx_nm (i := 4) sc_false_keys.nd rfl (by first | exact Or.inl rfl | exact Or.inr rfl))) (fun _ _ _ _ _ => (pts_if (PW.pt (wx_and (tx_cmp osnotin (bx_var (i := 4) rfl (by first | exact Or.inl rfl | exact Or.inr (Or.inr rfl) | exact Or.inr (Or.inl rfl))) (bx_var (i := 3) rfl (by first | exact Or.inl rfl | exact Or.inr (Or.inr rfl) | exact Or.inr (Or.inl rfl))) (by rfl)) (wx_and1 (tx_tru (bx (ex_fnT c_may_have hr (by decide) (by rfl) (ax_cons (ex_var (i := 0) rfl (by first | exact Or.inl rfl | exact Or.inr (Or.inr rfl) | exact Or.inr (Or.inl rfl))) (ax_cons (ex_var (i := 4) rfl (by first | exact Or.inl rfl | exact Or.inr (Or.inr rfl) | exact Or.inr (Or.inl rfl))) ax_nil)))))))))) (fun _ _ _ _ _ => (ex_var (i := 4) rfl (by first | exact Or.inl rfl | exact Or.inr (Or.inr rfl) | exact Or.inr (Or.inl rfl))))))) abx_nil))))))

/-! _spot_of(key, row, n): 0 key, 1 row, 2 n -/
abbrev s_spot_of : Stmt := topS 5
theorem sc_spot_of : FnScope ["key", "row", "n"] ["key", "row", "n"] (defScope s_spot_of) := ⟨rfl, rfl, rfl, by decide +kernel, rfl, by decide +kernel, by decide +kernel⟩
def b_spot_of : Cmd :=
    (sRet (eOp gMod (eOp gAdd (eOp gMul (eOp gAdd (eOp gMul (eC (.int 2)) (bVar 1)) (eC (.int 1))) (bVar 0)) (bVar 1)) (bVar 2)))
def run_spot_of : List D → Option D := runC 3 0 b_spot_of
theorem ok_spot_of (B : Bs mg) (F : FunT K mg "_spot_of" s_spot_of) : FnT P w K mg base "_spot_of" 1 3 run_spot_of :=
  fnt_mk (lv := 0) F sc_spot_of rfl rfl (fun _ _ _ _ _ _ us hl => match us, hl with | [_, _, _], _ => rfl) (fun f cdv A outer s H E hr =>
    (ssx_one (sx_ret (ex_op omod (bx (ex_op oadd (bx (ex_op omul (bx (ex_op oadd (bx (ex_op omul (bx ex_int) (bx_var (i := 1) rfl (Or.inl rfl)))) (bx ex_int))) (bx_var (i := 0) rfl (Or.inl rfl)))) (bx_var (i := 1) rfl (Or.inl rfl)))) (bx_var (i := 2) rfl (Or.inl rfl))))))

/-! counted(keys, rows, n): 0 keys, 1 rows, 2 n, 3 table, 4 key, 5 at, 6 row, 7 _ -/
abbrev s_counted : Stmt := topS 6
theorem sc_counted : FnScope ["keys", "rows", "n", "table", "key", "at", "row", "_"] ["keys", "rows", "n"] (defScope s_counted) := ⟨rfl, rfl, rfl, by decide +kernel, rfl, by decide +kernel, by decide +kernel⟩
def b_counted : Cmd :=
    (sSeq (sSetN 3 (fLcO [7] (iRg1 (aCons (bVar 1) aNil)) (gNm 7) tYesF (fOp gRepF (eLst (aCons (eC (.int 0)) aNil)) (bVar 2))))
    (sSeq (sFor (iSeq (eVar 0)) (gNm 4)
    (sForRow 3 5 6 (gI (fun _ _ => true) fun i j => .int (i + j)) (eFn run_spot_of (aCons (eVar 4) (aCons (eVar 5) (aCons (eVar 2) aNil)))) (eC (.int 1))))
    (sFrz [3] (sRet (eCall gTuple (aCons (asL (fLc [6] (iSeq (bVar 3)) (gNm 6) tYesF (eCall gTuple (aCons (bVar 6) aNil)))) aNil))))))
def run_counted : List D → Option D := runC 3 5 b_counted
theorem ok_counted (B : Bs mg) (F : FunT K mg "counted" s_counted) (c_spot_of : FnT P w K mg base "_spot_of" 1 3 run_spot_of) : FnT P w K mg base "counted" 2 3 run_counted :=
  fnt_mk (lv := 1) F sc_counted rfl rfl (fun _ _ _ _ _ _ us hl => match us, hl with | [_, _, _], _ => rfl) (fun f cdv A outer s H E hr =>
    (ssx_cons (sx_setLcN (i := 3) (own := [("_", 7)]) rfl sc_counted.nd rfl rfl (sw_true rfl rfl rfl (by decide +kernel)) (ilx_c (ilx_rg1 (by rfl) B.b_range (abx_cons (bx_var (i := 1) rfl (Or.inl rfl)) abx_nil))) (blkOk_by (by kernel_rfl)) (by decide) (fun _ _ _ _ _ => (gx_nm (i := 7) sc_counted.nd rfl (by first | exact Or.inl rfl | exact Or.inr rfl))) (fun _ _ _ _ _ => pts_no) (fun _ _ _ _ _ => (fx_op orepF (bx (ex_lst (ax_cons ex_int ax_nil))) (bx_var (i := 2) rfl (by first | exact Or.inl rfl | exact Or.inr (Or.inr rfl) | exact Or.inr (Or.inl rfl)))))) (ssx_cons (sx_for PassesOwn.never rfl (ilx_seq (ex_var (i := 0) rfl (Or.inl rfl))) (gx_nm (i := 4) sc_counted.nd rfl (Or.inl rfl)) (ssx_one (sx_forRow (i := 3) (ia := 5) (ir := 6) PassesOwn.never sc_counted.nd rfl rfl rfl (Or.inl rfl) (Or.inl rfl) (Or.inl rfl) (Or.inl rfl) rfl (by rfl) B.b_enumerate (bx (ex_fnT c_spot_of hr (by decide) (by rfl) (ax_cons (ex_var (i := 4) rfl (Or.inl rfl)) (ax_cons (ex_var (i := 5) rfl (Or.inl rfl)) (ax_cons (ex_var (i := 2) rfl (Or.inr (Or.inl rfl))) ax_nil))))) ex_int iadd))) (ssx_one (sx_frz (is := [3]) (sx_ret (ex_callTy ctuple (by rfl) B.b_tuple (by decide +kernel) (abx_cons (bx (ex_f (fx_lc (own := [("row", 6)]) rfl sc_counted.nd (icx_seq (bx_var (i := 3) rfl (Or.inl rfl))) (blkOk_by (by kernel_rfl)) (by decide) (fun _ _ _ _ _ => (gx_nm (i := 6) sc_counted.nd rfl (by first | exact Or.inl rfl | exact Or.inr rfl))) (fun _ _ _ _ _ => pts_no) (fun _ _ _ _ _ => (ex_callTy ctuple (by rfl) B.b_tuple (by decide +kernel) (abx_cons (bx_var (i := 6) rfl (by first | exact Or.inl rfl | exact Or.inr (Or.inr rfl) | exact Or.inr (Or.inl rfl))) abx_nil)))))) abx_nil))))))))

/-! most_counted(table, key): 0 table, 1 key, 2 at, 3 row -/
abbrev s_most_counted : Stmt := topS 7
theorem sc_most_counted : FnScope ["table", "key", "at", "row"] ["table", "key"] (defScope s_most_counted) := ⟨rfl, rfl, rfl, by decide +kernel, rfl, by decide +kernel, by decide +kernel⟩
def b_most_counted : Cmd :=
    (sRet (eCall gMinA (aCons (asL (fLc [2, 3] (iEnumA (aCons (bVar 0) aNil)) (gTp (gsCons (gNm 2) (gsCons (gNm 3) gsNil))) tYesF (eOp gIx (bVar 3) (eFn run_spot_of (aCons (eVar 1) (aCons (eVar 2) (aCons (eCall gLen (aCons (bVar 3) aNil)) aNil))))))) aNil)))
def run_most_counted : List D → Option D := runC 2 2 b_most_counted
theorem ok_most_counted (B : Bs mg) (F : FunT K mg "most_counted" s_most_counted) (c_spot_of : FnT P w K mg base "_spot_of" 1 3 run_spot_of) : FnT P w K mg base "most_counted" 2 2 run_most_counted :=
  fnt_mk (lv := 1) F sc_most_counted rfl rfl (fun _ _ _ _ _ _ us hl => match us, hl with | [_, _], _ => rfl) (fun f cdv A outer s H E hr =>
    (ssx_one (sx_ret (ex_callB (cminA rfl (room65 hr)) (by rfl) B.b_min (by decide +kernel) (abx_cons (bx (ex_f (fx_lc (own := [("at", 2), ("row", 3)]) rfl sc_most_counted.nd (icx_enumA (by rfl) B.b_enumerate (abx_cons (bx_var (i := 0) rfl (Or.inl rfl)) abx_nil)) (blkOk_by (by kernel_rfl)) (by decide) (fun _ _ _ _ _ => (gx_tp rfl (gsx_cons (gx_nm (i := 2) sc_most_counted.nd rfl (by first | exact Or.inl rfl | exact Or.inr rfl)) (gsx_cons (gx_nm (i := 3) sc_most_counted.nd rfl (by first | exact Or.inl rfl | exact Or.inr rfl)) gsx_nil)) (gsl_cons (gsl_cons gsl_nil)))) (fun _ _ _ _ _ => pts_no) (fun _ _ _ _ _ => (ex_ix (bx_var (i := 3) rfl (by first | exact Or.inl rfl | exact Or.inr (Or.inr rfl) | exact Or.inr (Or.inl rfl))) (bx (ex_fnT c_spot_of hr (by decide) (by rfl) (ax_cons (ex_var (i := 1) rfl (by first | exact Or.inl rfl | exact Or.inr (Or.inr rfl) | exact Or.inr (Or.inl rfl))) (ax_cons (ex_var (i := 2) rfl (by first | exact Or.inl rfl | exact Or.inr (Or.inr rfl) | exact Or.inr (Or.inl rfl))) (ax_cons (ex_callB clen (by rfl) B.b_len PySem.boot_len (abx_cons (bx_var (i := 3) rfl (by first | exact Or.inl rfl | exact Or.inr (Or.inr rfl) | exact Or.inr (Or.inl rfl))) abx_nil)) ax_nil))))) (fun _ _ => rfl)))))) abx_nil)))))

/-! heavy_ones(numbers, k): 0 numbers, 1 k, 2 counts, 3 thing, 4 other -/
abbrev s_heavy_ones : Stmt := topS 9
theorem sc_heavy_ones : FnScope ["numbers", "k", "counts", "thing", "other"] ["numbers", "k"] (defScope s_heavy_ones) := ⟨rfl, rfl, rfl, by decide +kernel, rfl, by decide +kernel, by decide +kernel⟩
def b_heavy_ones : Cmd :=
    (sSeq (sSetN 2 (dN false))
    (sSeq (sFor (iSeq (eVar 0)) (gNm 3)
    (sIf (asB (eDIn false (eVar 3) (bVar 2)))
    (sDAugD 2 (gI (fun _ _ => true) fun i j => .int (i + j)) (eVar 3) (eC (.int 1)))
    (sIf (asB (eOp gLt (eCall gLenD (aCons (bVar 2) aNil)) (eOp gSub (bVar 1) (eC (.int 1)))))
    (sDSet 2 (eVar 3) (eC (.int 1)))
    (sFrz [2] (sSetN 2 (fDc [4] (iKy (eVar 2)) (gNm 4) (asB (eOp gGt (eDGet (bVar 2) (eVar 4)) (eC (.int 1)))) (eVar 4) (eOp gSub (eDGet (bVar 2) (eVar 4)) (eC (.int 1)))))))))
    (sFrz [2] (sRet (eCall gTuple (aCons (asL (fCall gSortA (aCons (asL (fLc [3] (iKy (eVar 2)) (gNm 3) tYesF (eTup (aCons (eVar 3) (aCons (eDGet (bVar 2) (eVar 3)) aNil))))) aNil))) aNil))))))
def run_heavy_ones : List D → Option D := runC 2 3 b_heavy_ones
theorem ok_heavy_ones (B : Bs mg) (F : FunT K mg "heavy_ones" s_heavy_ones) : FnT P w K mg base "heavy_ones" 1 2 run_heavy_ones :=
  fnt_mk (lv := 0) F sc_heavy_ones rfl rfl (fun _ _ _ _ _ _ us hl => match us, hl with | [_, _], _ => rfl) (fun f cdv A outer s H E hr =>
    (ssx_cons (sx_setN (i := 2) sc_heavy_ones.nd rfl (Or.inr rfl) nx_dnewK) (ssx_cons (sx_for PassesOwn.never rfl (ilx_seq (ex_var (i := 0) rfl (Or.inl rfl))) (gx_nm (i := 3) sc_heavy_ones.nd rfl (Or.inl rfl)) (ssx_one (sx_if (tx_din (room65 hr) (ex_var (i := 3) rfl (Or.inl rfl)) (bx_var (i := 2) rfl (Or.inr (Or.inl rfl)))) (ssx_one (sx_daug (i := 2) (room65 hr) rfl (Or.inr (Or.inl rfl)) (ex_var (i := 3) rfl (Or.inl rfl)) ex_int iadd)) (ssx_one (sx_if (tx_cmp olt (bx (ex_callB clenD (by rfl) B.b_len PySem.boot_len (abx_cons (bx_var (i := 2) rfl (Or.inr (Or.inl rfl))) abx_nil))) (bx (ex_op osub (bx_var (i := 1) rfl (Or.inl rfl)) (bx ex_int))) (nomark _)) (ssx_one (sx_dset (i := 2) (room65 hr) rfl (Or.inr (Or.inl rfl)) (ex_var (i := 3) rfl (Or.inl rfl)) ex_int)) (ssx_one (sx_frz (is := [2]) (sx_setN (i := 2) sc_heavy_ones.nd rfl (Or.inr rfl) (nx_dc (own := [("other", 4)]) rfl sc_heavy_ones.nd (ilx_c (ilx_keys (ex_var (i := 2) rfl (Or.inr (Or.inl rfl))))) (blkOk_by (by kernel_rfl)) (by decide) (fun _ _ _ _ _ => (gx_nm (i := 4) sc_heavy_ones.nd rfl (by first | exact Or.inl rfl | exact Or.inr rfl))) (fun _ _ _ _ _ => (pts_if (tx_cmp ogt (bx (ex_dget (room65 hr) (bx_var (i := 2) rfl (by first | exact Or.inl rfl | exact Or.inr (Or.inr rfl) | exact Or.inr (Or.inl rfl))) (ex_var (i := 4) rfl (by first | exact Or.inl rfl | exact Or.inr (Or.inr rfl) | exact Or.inr (Or.inl rfl))))) (bx ex_int) (nomark _)))) (fun _ _ _ _ _ => (ex_var (i := 4) rfl (by first | exact Or.inl rfl | exact Or.inr (Or.inr rfl) | exact Or.inr (Or.inl rfl)))) (fun _ _ _ _ _ => (ex_op osub (bx (ex_dget (room65 hr) (bx_var (i := 2) rfl (by first | exact Or.inl rfl | exact Or.inr (Or.inr rfl) | exact Or.inr (Or.inl rfl))) (ex_var (i := 4) rfl (by first | exact Or.inl rfl | exact Or.inr (Or.inr rfl) | exact Or.inr (Or.inl rfl))))) (bx ex_int)))))))))))) (ssx_one (sx_frz (is := [2]) (sx_ret (ex_callTy ctuple (by rfl) B.b_tuple (by decide +kernel) (abx_cons (bx (ex_f (fx_callB (csortA (room65 hr)) (by rfl) B.b_sorted (by decide +kernel) (abx_cons (bx (ex_f (fx_lc (own := [("thing", 3)]) rfl sc_heavy_ones.nd (ilx_c (ilx_keys (ex_var (i := 2) rfl (Or.inr (Or.inl rfl))))) (blkOk_by (by kernel_rfl)) (by decide) (fun _ _ _ _ _ => (gx_nm (i := 3) sc_heavy_ones.nd rfl (by first | exact Or.inl rfl | exact Or.inr rfl))) (fun _ _ _ _ _ => pts_no) (fun _ _ _ _ _ => (ex_tup (ax_cons (ex_var (i := 3) rfl (by first | exact Or.inl rfl | exact Or.inr (Or.inr rfl) | exact Or.inr (Or.inl rfl))) (ax_cons (ex_dget (room65 hr) (bx_var (i := 2) rfl (by first | exact Or.inl rfl | exact Or.inr (Or.inr rfl) | exact Or.inr (Or.inl rfl))) (ex_var (i := 3) rfl (by first | exact Or.inl rfl | exact Or.inr (Or.inr rfl) | exact Or.inr (Or.inl rfl)))) ax_nil))))))) abx_nil)))) abx_nil))))))))

/-! _law_mixed(script, k): 0 script, 1 k, 2 cell, 3 first, 4 second, 5 third -/
abbrev s_l_mixed : Stmt := topS 11
theorem sc_l_mixed : FnScope ["script", "k", "cell", "first", "second", "third"] ["script", "k"] (defScope s_l_mixed) := ⟨rfl, rfl, rfl, by decide +kernel, rfl, by decide +kernel, by decide +kernel⟩
def b_l_mixed : Cmd :=
    (sSeq (sSet 2 (eC (.int 0)))
    (sSeq (sIf (asB (eOp gGt (eCall gLen (aCons (bVar 0) aNil)) (eC (.int 0))))
    (sSet 2 (eOp gIx (bVar 0) (eOp gMod (bVar 1) (eCall gLen (aCons (bVar 0) aNil)))))
    sNop)
    (sSeq (sSet 3 (eOp gMod (eCall gInt (aCons (eOp gAdd (eOp gAdd (eOp gMul (bVar 2) (eC (.int 48271))) (eOp gMul (bVar 1) (eC (.int 69621)))) (eC (.int 8191))) aNil)) (eC (.int 2147483647))))
    (sSeq (sSet 4 (eOp gMod (eCall gInt (aCons (eOp gAdd (eOp gAdd (eOp gMul (bVar 3) (bVar 3)) (eOp gDiv (bVar 3) (eC (.int 7)))) (eOp gMul (bVar 1) (eC (.int 16807)))) aNil)) (eC (.int 2147483629))))
    (sSeq (sSet 5 (eOp gMod (eCall gInt (aCons (eOp gAdd (eOp gAdd (eOp gMul (bVar 4) (bVar 4)) (eOp gDiv (bVar 4) (eC (.int 11)))) (eC (.int 40692))) aNil)) (eC (.int 2147483563))))
    (sRet (eOp gMod (eOp gDiv (bVar 5) (eC (.int 5))) (eC (.int 1000003)))))))))
def run_l_mixed : List D → Option D := runC 2 4 b_l_mixed
theorem ok_l_mixed (B : Bs mg) (F : FunT K mg "_law_mixed" s_l_mixed) : FnT P w K mg base "_law_mixed" 1 2 run_l_mixed :=
  fnt_mk (lv := 0) F sc_l_mixed rfl rfl (fun _ _ _ _ _ _ us hl => match us, hl with | [_, _], _ => rfl) (fun f cdv A outer s H E hr =>
    (ssx_cons (sx_set (i := 2) sc_l_mixed.nd rfl (Or.inl rfl) ex_int) (ssx_cons (sx_if (tx_cmp ogt (bx (ex_callB clen (by rfl) B.b_len PySem.boot_len (abx_cons (bx_var (i := 0) rfl (Or.inl rfl)) abx_nil))) (bx ex_int) (nomark _)) (ssx_one (sx_set (i := 2) sc_l_mixed.nd rfl (Or.inl rfl) (ex_ix (bx_var (i := 0) rfl (Or.inl rfl)) (bx (ex_op omod (bx_var (i := 1) rfl (Or.inl rfl)) (bx (ex_callB clen (by rfl) B.b_len PySem.boot_len (abx_cons (bx_var (i := 0) rfl (Or.inl rfl)) abx_nil))))) (fun _ _ => rfl)))) ssx_nil) (ssx_cons (sx_set (i := 3) sc_l_mixed.nd rfl (Or.inl rfl) (ex_op omod (bx (ex_callTy cint (by rfl) B.b_int (by decide +kernel) (abx_cons (bx (ex_op oadd (bx (ex_op oadd (bx (ex_op omul (bx_var (i := 2) rfl (Or.inl rfl)) (bx ex_int))) (bx (ex_op omul (bx_var (i := 1) rfl (Or.inl rfl)) (bx ex_int))))) (bx ex_int))) abx_nil))) (bx ex_int))) (ssx_cons (sx_set (i := 4) sc_l_mixed.nd rfl (Or.inl rfl) (ex_op omod (bx (ex_callTy cint (by rfl) B.b_int (by decide +kernel) (abx_cons (bx (ex_op oadd (bx (ex_op oadd (bx (ex_op omul (bx_var (i := 3) rfl (Or.inl rfl)) (bx_var (i := 3) rfl (Or.inl rfl)))) (bx (ex_op odiv (bx_var (i := 3) rfl (Or.inl rfl)) (bx ex_int))))) (bx (ex_op omul (bx_var (i := 1) rfl (Or.inl rfl)) (bx ex_int))))) abx_nil))) (bx ex_int))) (ssx_cons (sx_set (i := 5) sc_l_mixed.nd rfl (Or.inl rfl) (ex_op omod (bx (ex_callTy cint (by rfl) B.b_int (by decide +kernel) (abx_cons (bx (ex_op oadd (bx (ex_op oadd (bx (ex_op omul (bx_var (i := 4) rfl (Or.inl rfl)) (bx_var (i := 4) rfl (Or.inl rfl)))) (bx (ex_op odiv (bx_var (i := 4) rfl (Or.inl rfl)) (bx ex_int))))) (bx ex_int))) abx_nil))) (bx ex_int))) (ssx_one (sx_ret (ex_op omod (bx (ex_op odiv (bx_var (i := 5) rfl (Or.inl rfl)) (bx ex_int))) (bx ex_int))))))))))

/-! _law_row(script, many): 0 script, 1 many, 2 big, 3 row, 4 k -/
abbrev s_l_row : Stmt := topS 12
theorem sc_l_row : FnScope ["script", "many", "big", "row", "k"] ["script", "many"] (defScope s_l_row) := ⟨rfl, rfl, rfl, by decide +kernel, rfl, by decide +kernel, by decide +kernel⟩
def b_l_row : Cmd :=
    (sSeq (sSet 2 (eC (.int 0)))
    (sSeq (sIf (tAndF (asB (eOp gGt (eCall gLen (aCons (bVar 0) aNil)) (eC (.int 0)))) (asB (eOp gGe (eOp gIx (bVar 0) (eC (.int 0))) (eOp gPow (eC (.int 10)) (eC (.int 18))))))
    (sSet 2 (eOp gIx (bVar 0) (eC (.int 0))))
    sNop)
    (sSeq (sSetO 3 (fun env => (aNil env).bind fun ds => if lim ds.length then some ds else none))
    (sSeq (sFor (iRg1 (aCons (bVar 1) aNil)) (gNm 4)
    (sIf (asB (eOp gGt (bVar 2) (eC (.int 0))))
    (sSeq (sApp 3 (eOp gMod (eCall gInt (aCons (bVar 2) aNil)) (eC (.int 1000))))
    (sSet 2 (eOp gDiv (bVar 2) (eC (.int 1000)))))
    (sApp 3 (eFn run_l_mixed (aCons (eVar 0) (aCons (eVar 4) aNil))))))
    (sFrz [3] (sRet (eVar 3)))))))
def run_l_row : List D → Option D := runC 2 3 b_l_row
theorem ok_l_row (B : Bs mg) (F : FunT K mg "_law_row" s_l_row) (c_l_mixed : FnT P w K mg base "_law_mixed" 1 2 run_l_mixed) : FnT P w K mg base "_law_row" 2 2 run_l_row :=
  fnt_mk (lv := 1) F sc_l_row rfl rfl (fun _ _ _ _ _ _ us hl => match us, hl with | [_, _], _ => rfl) (fun f cdv A outer s H E hr =>
    (ssx_cons (sx_set (i := 2) sc_l_row.nd rfl (Or.inl rfl) ex_int) (ssx_cons (sx_if (PW.pt (wx_and (tx_cmp ogt (bx (ex_callB clen (by rfl) B.b_len PySem.boot_len (abx_cons (bx_var (i := 0) rfl (Or.inl rfl)) abx_nil))) (bx ex_int) (nomark _)) (wx_and1 (tx_cmp oge (bx (ex_ix (bx_var (i := 0) rfl (Or.inl rfl)) (bx ex_int) (fun _ _ => rfl))) (bx (ex_op opow (bx ex_int) (bx ex_int))) (nomark _))))) (ssx_one (sx_set (i := 2) sc_l_row.nd rfl (Or.inl rfl) (ex_ix (bx_var (i := 0) rfl (Or.inl rfl)) (bx ex_int) (fun _ _ => rfl)))) ssx_nil) (ssx_cons (sx_setO (i := 3) sc_l_row.nd rfl (Or.inl rfl) (fx_lst ax_nil)) (ssx_cons (sx_for PassesOwn.never rfl (ilx_rg1 (by rfl) B.b_range (abx_cons (bx_var (i := 1) rfl (Or.inl rfl)) abx_nil)) (gx_nm (i := 4) sc_l_row.nd rfl (Or.inl rfl)) (ssx_one (sx_if (tx_cmp ogt (bx_var (i := 2) rfl (Or.inl rfl)) (bx ex_int) (nomark _)) (ssx_cons (sx_app (i := 3) rfl (Or.inl rfl) (ex_op omod (bx (ex_callTy cint (by rfl) B.b_int (by decide +kernel) (abx_cons (bx_var (i := 2) rfl (Or.inl rfl)) abx_nil))) (bx ex_int))) (ssx_one (sx_set (i := 2) sc_l_row.nd rfl (Or.inl rfl) (ex_op odiv (bx_var (i := 2) rfl (Or.inl rfl)) (bx ex_int))))) (ssx_one (sx_app (i := 3) rfl (Or.inl rfl) (ex_fnT c_l_mixed hr (by decide) (by rfl) (ax_cons (ex_var (i := 0) rfl (Or.inl rfl)) (ax_cons (ex_var (i := 4) rfl (Or.inl rfl)) ax_nil)))))))) (ssx_one (sx_frz (is := [3]) (sx_ret (ex_var (i := 3) rfl (Or.inl rfl))))))))))

/-! _law_is_int(value): 0 value -/
abbrev s_l_is_int : Stmt := topS 13
theorem sc_l_is_int : FnScope ["value"] ["value"] (defScope s_l_is_int) := ⟨rfl, rfl, rfl, by decide +kernel, rfl, by decide +kernel, by decide +kernel⟩
def b_l_is_int : Cmd :=
    (sRet (eAnd (eIsi "int" (bVar 0)) (eNot (eIsi "bool" (bVar 0)))))
def run_l_is_int : List D → Option D := runC 1 0 b_l_is_int
theorem ok_l_is_int (B : Bs mg) (F : FunT K mg "_law_is_int" s_l_is_int) : FnT P w K mg base "_law_is_int" 1 1 run_l_is_int :=
  fnt_mk (lv := 0) F sc_l_is_int rfl rfl (fun _ _ _ _ _ _ us hl => match us, hl with | [_], _ => rfl) (fun f cdv A outer s H E hr =>
    (ssx_one (sx_ret (ex_and (ex_isi kit_int (by rfl) B.b_isinstance (bx_var (i := 0) rfl (Or.inl rfl)) (by rfl) B.b_int (by decide +kernel)) (ex_one (ex_not (ex_isi kit_bool (by rfl) B.b_isinstance (bx_var (i := 0) rfl (Or.inl rfl)) (by rfl) B.b_bool (by decide +kernel))))))))

/-! _law_like(value, due): 0 value, 1 due, 2 k -/
abbrev s_l_like : Stmt := topS 14
theorem sc_l_like : FnScope ["value", "due", "k"] ["value", "due"] (defScope s_l_like) := ⟨rfl, rfl, rfl, by decide +kernel, rfl, by decide +kernel, by decide +kernel⟩
def b_l_like (rec : List D → Option D) : Cmd :=
    (sSeq (sIf (asB (eOp gIs (bVar 1) (eC .non)))
    (sRet (eOp gIs (bVar 0) (eC .non)))
    sNop)
    (sSeq (sIf (asT (eIsi "bool" (bVar 1)))
    (sRet (eAnd (eIsi "bool" (bVar 0)) (eOp gEq (bVar 0) (bVar 1))))
    sNop)
    (sSeq (sIf (asT (eIsi "tuple" (bVar 1)))
    (sSeq (sIf (tOrF (tNotF (asT (eIsi "tuple" (bVar 0)))) (asB (eOp gNe (eCall gLen (aCons (bVar 0) aNil)) (eCall gLen (aCons (bVar 1) aNil)))))
    (sRet (eC (.bl false)))
    sNop)
    (sRet (eCall gAll (aCons (asL (fLc [2] (iRg1 (aCons (eCall gLen (aCons (bVar 1) aNil)) aNil)) (gNm 2) tYesF (eFn rec (aCons (eOp gIx (bVar 0) (bVar 2)) (aCons (eOp gIx (bVar 1) (bVar 2)) aNil))))) aNil))))
    sNop)
    (sSeq (sIf (asT (eIsi "str" (bVar 1)))
    (sRet (eAnd (eIsi "str" (bVar 0)) (eOp gEq (bVar 0) (bVar 1))))
    sNop)
    (sRet (eAnd (eFn run_l_is_int (aCons (eVar 0) aNil)) (eOp gEq (bVar 0) (bVar 1))))))))
def run_l_like : Nat → List D → Option D
  | 0 => fun _ => none
  | fuel + 1 => runC 2 1 (b_l_like (run_l_like fuel))
theorem ok_l_like (B : Bs mg) (F : FunT K mg "_law_like" s_l_like) (c_l_is_int : FnT P w K mg base "_law_is_int" 1 1 run_l_is_int) : ∀ fuel, FnT P w K mg base "_law_like" (1 + fuel) 2 (run_l_like fuel)
  | 0 => fnt_zero (ps := ["value", "due"]) F (fun _ _ _ _ _ _ us hl => match us, hl with | [_, _], _ => rfl)
  | fuel + 1 => have c_l_like := ok_l_like B F c_l_is_int fuel
    fnt_mk (lv := 1 + fuel) F sc_l_like rfl rfl (fun _ _ _ _ _ _ us hl => match us, hl with | [_, _], _ => rfl) (fun f cdv A outer s H E hr =>
    (ssx_cons (sx_if (tx_cmp ois (bx_var (i := 1) rfl (Or.inr (Or.inl rfl))) (bx ex_non) (nomark _)) (ssx_one (sx_ret (ex_cmp ois (bx_var (i := 0) rfl (Or.inr (Or.inl rfl))) (bx ex_non) (nomark _)))) ssx_nil) (ssx_cons (sx_if (tx_tru (bx (ex_isi kit_bool (by rfl) B.b_isinstance (bx_var (i := 1) rfl (Or.inr (Or.inl rfl))) (by rfl) B.b_bool (by decide +kernel)))) (ssx_one (sx_ret (ex_and (ex_isi kit_bool (by rfl) B.b_isinstance (bx_var (i := 0) rfl (Or.inr (Or.inl rfl))) (by rfl) B.b_bool (by decide +kernel)) (ex_one (ex_cmp (oeq hr.units) (bx_var (i := 0) rfl (Or.inr (Or.inl rfl))) (bx_var (i := 1) rfl (Or.inr (Or.inl rfl))) (nomark _)))))) ssx_nil) (ssx_cons (sx_if (tx_tru (bx (ex_isi kit_tuple (by rfl) B.b_isinstance (bx_var (i := 1) rfl (Or.inr (Or.inl rfl))) (by rfl) B.b_tuple (by decide +kernel)))) (ssx_cons (sx_if (PW.pt (wx_or (tx_not (tx_tru (bx (ex_isi kit_tuple (by rfl) B.b_isinstance (bx_var (i := 0) rfl (Or.inr (Or.inl rfl))) (by rfl) B.b_tuple (by decide +kernel))))) (wx_or1 (tx_cmp (one hr.units) (bx (ex_callB clen (by rfl) B.b_len PySem.boot_len (abx_cons (bx_var (i := 0) rfl (Or.inr (Or.inl rfl))) abx_nil))) (bx (ex_callB clen (by rfl) B.b_len PySem.boot_len (abx_cons (bx_var (i := 1) rfl (Or.inr (Or.inl rfl))) abx_nil))) (nomark _))))) (ssx_one (sx_ret ex_bl)) ssx_nil) (ssx_one (sx_ret (ex_callB (call rfl) (by rfl) B.b_all (by decide +kernel) (abx_cons (bx (ex_f (fx_lc (own := [("k", 2)]) rfl sc_l_like.nd (ilx_c (ilx_rg1 (by rfl) B.b_range (abx_cons (bx (ex_callB clen (by rfl) B.b_len PySem.boot_len (abx_cons (bx_var (i := 1) rfl (Or.inr (Or.inl rfl))) abx_nil))) abx_nil))) (blkOk_by (by kernel_rfl)) (by decide) (fun _ _ _ _ _ => (gx_nm (i := 2) sc_l_like.nd rfl (by first | exact Or.inl rfl | exact Or.inr rfl))) (fun _ _ _ _ _ => pts_no) (fun _ _ _ _ _ => (ex_fnT c_l_like hr (by omega) (by rfl) (ax_cons (ex_ix (bx_var (i := 0) rfl (by first | exact Or.inl rfl | exact Or.inr (Or.inr rfl) | exact Or.inr (Or.inl rfl))) (bx_var (i := 2) rfl (by first | exact Or.inl rfl | exact Or.inr (Or.inr rfl) | exact Or.inr (Or.inl rfl))) (fun _ _ => rfl)) (ax_cons (ex_ix (bx_var (i := 1) rfl (by first | exact Or.inl rfl | exact Or.inr (Or.inr rfl) | exact Or.inr (Or.inl rfl))) (bx_var (i := 2) rfl (by first | exact Or.inl rfl | exact Or.inr (Or.inr rfl) | exact Or.inr (Or.inl rfl))) (fun _ _ => rfl)) ax_nil))))))) abx_nil))))) ssx_nil) (ssx_cons (sx_if (tx_tru (bx (ex_isi kit_str (by rfl) B.b_isinstance (bx_var (i := 1) rfl (Or.inr (Or.inl rfl))) (by rfl) B.b_str (by decide +kernel)))) (ssx_one (sx_ret (ex_and (ex_isi kit_str (by rfl) B.b_isinstance (bx_var (i := 0) rfl (Or.inr (Or.inl rfl))) (by rfl) B.b_str (by decide +kernel)) (ex_one (ex_cmp (oeq hr.units) (bx_var (i := 0) rfl (Or.inr (Or.inl rfl))) (bx_var (i := 1) rfl (Or.inr (Or.inl rfl))) (nomark _)))))) ssx_nil) (ssx_one (sx_ret (ex_and (ex_fnT c_l_is_int hr (by omega) (by rfl) (ax_cons (ex_var (i := 0) rfl (Or.inr (Or.inl rfl))) ax_nil)) (ex_one (ex_cmp (oeq hr.units) (bx_var (i := 0) rfl (Or.inr (Or.inl rfl))) (bx_var (i := 1) rfl (Or.inr (Or.inl rfl))) (nomark _)))))))))))

/-! _law_keys(row): 0 row, 1 top, 2 found, 3 k, 4 one -/
abbrev s_l_keys : Stmt := topS 15
theorem sc_l_keys : FnScope ["row", "top", "found", "k", "one"] ["row"] (defScope s_l_keys) := ⟨rfl, rfl, rfl, by decide +kernel, rfl, by decide +kernel, by decide +kernel⟩
def b_l_keys : Cmd :=
    (sSeq (sSet 1 (eOp gIx (eTup (aCons (eC (.int 6)) (aCons (eC (.int 201)) (aCons (eC (.int 1000003)) aNil)))) (eOp gMod (eCall gInt (aCons (eOp gIx (bVar 0) (eC (.int 1))) aNil)) (eC (.int 3)))))
    (sSeq (sSet 2 (asL (fLc [3] (iRg1 (aCons (eOp gMod (eCall gInt (aCons (eOp gIx (bVar 0) (eC (.int 0))) aNil)) (eC (.int 21))) aNil)) (gNm 3) tYesF (eOp gMod (eCall gInt (aCons (eOp gIx (bVar 0) (eOp gAdd (eC (.int 6)) (bVar 3))) aNil)) (bVar 1)))))
    (sSeq (sIf (tAndF (asB (eOp gGt (eCall gLen (aCons (bVar 2) aNil)) (eC (.int 0)))) (asB (eOp gEq (eOp gMod (eCall gInt (aCons (eOp gIx (bVar 0) (eC (.int 2))) aNil)) (eC (.int 2))) (eC (.int 0)))))
    (sSet 2 (asL (fLc [4] (iSeq (bVar 2)) (gNm 4) tYesF (eOp gIx (bVar 2) (eOp gMod (eCall gInt (aCons (bVar 4) aNil)) (eOp gAdd (eC (.int 1)) (eOp gDiv (eCall gLen (aCons (bVar 2) aNil)) (eC (.int 2)))))))))
    sNop)
    (sRet (eCall gTuple (aCons (bVar 2) aNil))))))
def run_l_keys : List D → Option D := runC 1 4 b_l_keys
theorem ok_l_keys (B : Bs mg) (F : FunT K mg "_law_keys" s_l_keys) : FnT P w K mg base "_law_keys" 1 1 run_l_keys :=
  fnt_mk (lv := 0) F sc_l_keys rfl rfl (fun _ _ _ _ _ _ us hl => match us, hl with | [_], _ => rfl) (fun f cdv A outer s H E hr =>
    (ssx_cons (sx_set (i := 1) sc_l_keys.nd rfl (Or.inr rfl) (ex_ix (bx (ex_tup (ax_cons ex_int (ax_cons ex_int (ax_cons ex_int ax_nil))))) (bx (ex_op omod (bx (ex_callTy cint (by rfl) B.b_int (by decide +kernel) (abx_cons (bx (ex_ix (bx_var (i := 0) rfl (Or.inr (Or.inl rfl))) (bx ex_int) (fun _ _ => rfl))) abx_nil))) (bx ex_int))) (fun _ _ => rfl))) (ssx_cons (sx_set (i := 2) sc_l_keys.nd rfl (Or.inr rfl) (ex_f (fx_lc (own := [("k", 3)]) rfl sc_l_keys.nd (ilx_c (ilx_rg1 (by rfl) B.b_range (abx_cons (bx (ex_op omod (bx (ex_callTy cint (by rfl) B.b_int (by decide +kernel) (abx_cons (bx (ex_ix (bx_var (i := 0) rfl (Or.inr (Or.inl rfl))) (bx ex_int) (fun _ _ => rfl))) abx_nil))) (bx ex_int))) abx_nil))) (blkOk_by (by kernel_rfl)) (by decide) (fun _ _ _ _ _ => (gx_nm (i := 3) sc_l_keys.nd rfl (by first | exact Or.inl rfl | exact Or.inr rfl))) (fun _ _ _ _ _ => pts_no) (fun _ _ _ _ _ => (ex_op omod (bx (ex_callTy cint (by rfl) B.b_int (by decide +kernel) (abx_cons (bx (ex_ix (bx_var (i := 0) rfl (by first | exact Or.inl rfl | exact Or.inr (Or.inr rfl) | exact Or.inr (Or.inl rfl))) (bx (ex_op oadd (bx ex_int) (bx_var (i := 3) rfl (by first | exact Or.inl rfl | exact Or.inr (Or.inr rfl) | exact Or.inr (Or.inl rfl))))) (fun _ _ => rfl))) abx_nil))) (bx_var (i := 1) rfl (by first | exact Or.inl rfl | exact Or.inr (Or.inr rfl) | exact Or.inr (Or.inl rfl)))))))) (ssx_cons (sx_if (PW.pt (wx_and (tx_cmp ogt (bx (ex_callB clen (by rfl) B.b_len PySem.boot_len (abx_cons (bx_var (i := 2) rfl (Or.inr (Or.inl rfl))) abx_nil))) (bx ex_int) (nomark _)) (wx_and1 (tx_cmp (oeq hr.units) (bx (ex_op omod (bx (ex_callTy cint (by rfl) B.b_int (by decide +kernel) (abx_cons (bx (ex_ix (bx_var (i := 0) rfl (Or.inr (Or.inl rfl))) (bx ex_int) (fun _ _ => rfl))) abx_nil))) (bx ex_int))) (bx ex_int) (nomark _))))) (ssx_one (sx_set (i := 2) sc_l_keys.nd rfl (Or.inr rfl) (ex_f (fx_lc (own := [("one", 4)]) rfl sc_l_keys.nd (icx_seq (bx_var (i := 2) rfl (Or.inr (Or.inl rfl)))) (blkOk_by (by kernel_rfl)) (by decide) (fun _ _ _ _ _ => (gx_nm (i := 4) sc_l_keys.nd rfl (by first | exact Or.inl rfl | exact Or.inr rfl))) (fun _ _ _ _ _ => pts_no) (fun _ _ _ _ _ => (ex_ix (bx_var (i := 2) rfl (by first | exact Or.inl rfl | exact Or.inr (Or.inr rfl) | exact Or.inr (Or.inl rfl))) (bx (ex_op omod (bx (ex_callTy cint (by rfl) B.b_int (by decide +kernel) (abx_cons (bx_var (i := 4) rfl (by first | exact Or.inl rfl | exact Or.inr (Or.inr rfl) | exact Or.inr (Or.inl rfl))) abx_nil))) (bx (ex_op oadd (bx ex_int) (bx (ex_op odiv (bx (ex_callB clen (by rfl) B.b_len PySem.boot_len (abx_cons (bx_var (i := 2) rfl (by first | exact Or.inl rfl | exact Or.inr (Or.inr rfl) | exact Or.inr (Or.inl rfl))) abx_nil))) (bx ex_int))))))) (fun _ _ => rfl))))))) ssx_nil) (ssx_one (sx_ret (ex_callTy ctuple (by rfl) B.b_tuple (by decide +kernel) (abx_cons (bx_var (i := 2) rfl (Or.inr (Or.inl rfl))) abx_nil))))))))

/-! _law_marks(key, n): 0 key, 1 n -/
abbrev s_l_marks : Stmt := topS 16
theorem sc_l_marks : FnScope ["key", "n"] ["key", "n"] (defScope s_l_marks) := ⟨rfl, rfl, rfl, by decide +kernel, rfl, by decide +kernel, by decide +kernel⟩
def b_l_marks : Cmd :=
    (sRet (eLst (aCons (eOp gMod (eCall gInt (aCons (eOp gAdd (eOp gAdd (eOp gMul (bVar 0) (bVar 0)) (eOp gMul (eC (.int 3)) (bVar 0))) (eC (.int 1))) aNil)) (bVar 1)) (aCons (eOp gMod (eCall gInt (aCons (eOp gAdd (eOp gMul (eC (.int 5)) (bVar 0)) (eC (.int 2))) aNil)) (bVar 1)) (aCons (eOp gMod (eCall gInt (aCons (eOp gAdd (eOp gMul (eOp gMul (eC (.int 7)) (bVar 0)) (bVar 0)) (eC (.int 4))) aNil)) (bVar 1)) aNil)))))
def run_l_marks : List D → Option D := runC 2 0 b_l_marks
theorem ok_l_marks (B : Bs mg) (F : FunT K mg "_law_marks" s_l_marks) : FnT P w K mg base "_law_marks" 1 2 run_l_marks :=
  fnt_mk (lv := 0) F sc_l_marks rfl rfl (fun _ _ _ _ _ _ us hl => match us, hl with | [_, _], _ => rfl) (fun f cdv A outer s H E hr =>
    (ssx_one (sx_ret (ex_lst (ax_cons (ex_op omod (bx (ex_callTy cint (by rfl) B.b_int (by decide +kernel) (abx_cons (bx (ex_op oadd (bx (ex_op oadd (bx (ex_op omul (bx_var (i := 0) rfl (Or.inl rfl)) (bx_var (i := 0) rfl (Or.inl rfl)))) (bx (ex_op omul (bx ex_int) (bx_var (i := 0) rfl (Or.inl rfl)))))) (bx ex_int))) abx_nil))) (bx_var (i := 1) rfl (Or.inl rfl))) (ax_cons (ex_op omod (bx (ex_callTy cint (by rfl) B.b_int (by decide +kernel) (abx_cons (bx (ex_op oadd (bx (ex_op omul (bx ex_int) (bx_var (i := 0) rfl (Or.inl rfl)))) (bx ex_int))) abx_nil))) (bx_var (i := 1) rfl (Or.inl rfl))) (ax_cons (ex_op omod (bx (ex_callTy cint (by rfl) B.b_int (by decide +kernel) (abx_cons (bx (ex_op oadd (bx (ex_op omul (bx (ex_op omul (bx ex_int) (bx_var (i := 0) rfl (Or.inl rfl)))) (bx_var (i := 0) rfl (Or.inl rfl)))) (bx ex_int))) abx_nil))) (bx_var (i := 1) rfl (Or.inl rfl))) ax_nil)))))))

/-! _law_all_marked(bits, key): 0 bits, 1 key, 2 place -/
abbrev s_l_all_marked : Stmt := topS 17
theorem sc_l_all_marked : FnScope ["bits", "key", "place"] ["bits", "key"] (defScope s_l_all_marked) := ⟨rfl, rfl, rfl, by decide +kernel, rfl, by decide +kernel, by decide +kernel⟩
def b_l_all_marked : Cmd :=
    (sRet (eCall gAll (aCons (asL (fLc [2] (iSeq (eFn run_l_marks (aCons (eVar 1) (aCons (eCall gLen (aCons (bVar 0) aNil)) aNil)))) (gNm 2) tYesF (eOp gEq (eOp gIx (bVar 0) (bVar 2)) (eC (.int 1))))) aNil)))
def run_l_all_marked : List D → Option D := runC 2 1 b_l_all_marked
theorem ok_l_all_marked (B : Bs mg) (F : FunT K mg "_law_all_marked" s_l_all_marked) (c_l_marks : FnT P w K mg base "_law_marks" 1 2 run_l_marks) : FnT P w K mg base "_law_all_marked" 2 2 run_l_all_marked :=
  fnt_mk (lv := 1) F sc_l_all_marked rfl rfl (fun _ _ _ _ _ _ us hl => match us, hl with | [_, _], _ => rfl) (fun f cdv A outer s H E hr =>
    (ssx_one (sx_ret (ex_callB (call rfl) (by rfl) B.b_all (by decide +kernel) (abx_cons (bx (ex_f (fx_lc (own := [("place", 2)]) rfl sc_l_all_marked.nd (icx_seq (bx (ex_fnT c_l_marks hr (by decide) (by rfl) (ax_cons (ex_var (i := 1) rfl (Or.inl rfl)) (ax_cons (ex_callB clen (by rfl) B.b_len PySem.boot_len (abx_cons (bx_var (i := 0) rfl (Or.inr (Or.inl rfl))) abx_nil)) ax_nil))))) (blkOk_by (by kernel_rfl)) (by decide) (fun _ _ _ _ _ => (gx_nm (i := 2) sc_l_all_marked.nd rfl (by first | exact Or.inl rfl | exact Or.inr rfl))) (fun _ _ _ _ _ => pts_no) (fun _ _ _ _ _ => (ex_cmp (oeq hr.units) (bx (ex_ix (bx_var (i := 0) rfl (by first | exact Or.inl rfl | exact Or.inr (Or.inr rfl) | exact Or.inr (Or.inl rfl))) (bx_var (i := 2) rfl (by first | exact Or.inl rfl | exact Or.inr (Or.inr rfl) | exact Or.inr (Or.inl rfl))) (fun _ _ => rfl))) (bx ex_int) (nomark _)))))) abx_nil)))))

/-! _law_bits(keys, n): 0 keys, 1 n, 2 bits, 3 key, 4 place, 5 k -/
abbrev s_l_bits : Stmt := topS 18
theorem sc_l_bits : FnScope ["keys", "n", "bits", "key", "place", "k"] ["keys", "n"] (defScope s_l_bits) := ⟨rfl, rfl, rfl, by decide +kernel, rfl, by decide +kernel, by decide +kernel⟩
def b_l_bits : Cmd :=
    (sSeq (sSetO 2 (fLc [5] (iRg1 (aCons (bVar 1) aNil)) (gNm 5) tYesF (eC (.int 0))))
    (sSeq (sFor (iSeq (eVar 0)) (gNm 3)
    (sFor (iSeq (eFn run_l_marks (aCons (eVar 3) (aCons (eVar 1) aNil)))) (gNm 4)
    (sSetI 2 (bVar 4) (eC (.int 1)))))
    (sFrz [2] (sRet (eVar 2)))))
def run_l_bits : List D → Option D := runC 2 4 b_l_bits
theorem ok_l_bits (B : Bs mg) (F : FunT K mg "_law_bits" s_l_bits) (c_l_marks : FnT P w K mg base "_law_marks" 1 2 run_l_marks) : FnT P w K mg base "_law_bits" 2 2 run_l_bits :=
  fnt_mk (lv := 1) F sc_l_bits rfl rfl (fun _ _ _ _ _ _ us hl => match us, hl with | [_, _], _ => rfl) (fun f cdv A outer s H E hr =>
    (ssx_cons (sx_setLcO (i := 2) (own := [("k", 5)]) rfl sc_l_bits.nd rfl rfl (sw_true rfl rfl rfl (by decide +kernel)) (ilx_c (ilx_rg1 (by rfl) B.b_range (abx_cons (bx_var (i := 1) rfl (Or.inl rfl)) abx_nil))) (blkOk_by (by kernel_rfl)) (by decide) (fun _ _ _ _ _ => (gx_nm (i := 5) sc_l_bits.nd rfl (by first | exact Or.inl rfl | exact Or.inr rfl))) (fun _ _ _ _ _ => pts_no) (fun _ _ _ _ _ => ex_int)) (ssx_cons (sx_for PassesOwn.never rfl (ilx_seq (ex_var (i := 0) rfl (Or.inl rfl))) (gx_nm (i := 3) sc_l_bits.nd rfl (Or.inl rfl)) (ssx_one (sx_for PassesOwn.never rfl (ilx_seq (ex_fnT c_l_marks hr (by decide) (by rfl) (ax_cons (ex_var (i := 3) rfl (Or.inl rfl)) (ax_cons (ex_var (i := 1) rfl (Or.inl rfl)) ax_nil)))) (gx_nm (i := 4) sc_l_bits.nd rfl (Or.inl rfl)) (ssx_one (sx_setI (i := 2) rfl (Or.inl rfl) (bx_var (i := 4) rfl (Or.inl rfl)) ex_int))))) (ssx_one (sx_frz (is := [2]) (sx_ret (ex_var (i := 2) rfl (Or.inl rfl))))))))

/-! _law_marks_right(keys, n, row): 0 keys, 1 n, 2 row, 3 bits, 4 asked, 5 key, 6 most, 7 due, 8 less, 9 k -/
abbrev s_l_marks_right : Stmt := topS 19
theorem sc_l_marks_right : FnScope ["keys", "n", "row", "bits", "asked", "key", "most", "due", "less", "k"] ["keys", "n", "row"] (defScope s_l_marks_right) := ⟨rfl, rfl, rfl, by decide +kernel, rfl, by decide +kernel, by decide +kernel⟩
def b_l_marks_right : Cmd :=
    (sSeq (sSet 3 (eFn run_l_bits (aCons (eVar 0) (aCons (eVar 1) aNil))))
    (sSeq (sIf (tNotF (asT (eFn (run_l_like 8) (aCons (eFn run_mark_bits (aCons (eVar 0) (aCons (eVar 1) aNil))) (aCons (eCall gTuple (aCons (bVar 3) aNil)) aNil)))))
    (sRet (eC (.bl false)))
    sNop)
    (sSeq (sSet 4 (eOp gAdd (asL (fCall gListF (aCons (bVar 0) aNil))) (asL (fLc [9] (iRg1 (aCons (eC (.int 6)) aNil)) (gNm 9) tYesF (eOp gMod (eCall gInt (aCons (eOp gIx (bVar 2) (eOp gAdd (eC (.int 30)) (bVar 9))) aNil)) (eC (.int 300)))))))
    (sSeq (sFor (iSeq (eVar 4)) (gNm 5)
    (sIf (tNotF (asT (eFn (run_l_like 8) (aCons (eFn run_may_have (aCons (eCall gTuple (aCons (bVar 3) aNil)) (aCons (eVar 5) aNil))) (aCons (eFn run_l_all_marked (aCons (eVar 3) (aCons (eVar 5) aNil))) aNil)))))
    (sRet (eC (.bl false)))
    sNop))
    (sSeq (sSet 6 (eOp gMod (eCall gInt (aCons (eOp gIx (bVar 2) (eC (.int 3))) aNil)) (eC (.int 61))))
    (sSeq (sSet 7 (asL (fLc [5] (iRg1 (aCons (bVar 6) aNil)) (gNm 5) (tAndF (asB (eOp gNotIn (bVar 5) (bVar 0))) (asT (eFn run_l_all_marked (aCons (eVar 3) (aCons (eVar 5) aNil))))) (eVar 5))))
    (sSeq (sIf (tNotF (asT (eFn (run_l_like 8) (aCons (eFn run_false_keys (aCons (eCall gTuple (aCons (bVar 3) aNil)) (aCons (eVar 0) (aCons (eVar 6) aNil)))) (aCons (eCall gTuple (aCons (bVar 7) aNil)) aNil)))))
    (sRet (eC (.bl false)))
    sNop)
    (sSeq (sSetO 8 (fCall gListF (aCons (bVar 3) aNil)))
    (sSeq (sSetI 8 (eOp gMod (eCall gInt (aCons (eOp gIx (bVar 2) (eC (.int 36))) aNil)) (bVar 1)) (eC (.int 0)))
    (sSeq (sFor (iSeq (eVar 4)) (gNm 5)
    (sIf (tNotF (asT (eFn (run_l_like 8) (aCons (eFn run_may_have (aCons (eCall gTuple (aCons (bVar 8) aNil)) (aCons (eVar 5) aNil))) (aCons (eFnB run_l_all_marked (aCons (bVar 8) (aCons (bVar 5) aNil))) aNil)))))
    (sRet (eC (.bl false)))
    sNop))
    (sRet (eC (.bl true)))))))))))))
def run_l_marks_right : List D → Option D := runC 3 7 b_l_marks_right
theorem ok_l_marks_right (B : Bs mg) (F : FunT K mg "_law_marks_right" s_l_marks_right) (c_l_like : FnT P w K mg base "_law_like" 9 2 (run_l_like 8)) (c_l_all_marked : FnT P w K mg base "_law_all_marked" 2 2 run_l_all_marked) (c_may_have : FnT P w K mg base "may_have" 2 2 run_may_have) (c_false_keys : FnT P w K mg base "false_keys" 3 3 run_false_keys) (c_mark_bits : FnT P w K mg base "mark_bits" 2 2 run_mark_bits) (c_l_bits : FnT P w K mg base "_law_bits" 2 2 run_l_bits) : FnT P w K mg base "_law_marks_right" 10 3 run_l_marks_right :=
  fnt_mk (lv := 9) F sc_l_marks_right rfl rfl (fun _ _ _ _ _ _ us hl => match us, hl with | [_, _, _], _ => rfl) (fun f cdv A outer s H E hr =>
    (ssx_cons (sx_set (i := 3) sc_l_marks_right.nd rfl (Or.inr rfl) (ex_fnT c_l_bits hr (by decide) (by rfl) (ax_cons (ex_var (i := 0) rfl (Or.inr (Or.inl rfl))) (ax_cons (ex_var (i := 1) rfl (Or.inl rfl)) ax_nil)))) (ssx_cons (sx_if (tx_not (tx_tru (bx (ex_fnT c_l_like hr (by decide) (by rfl) (ax_cons (ex_fnT c_mark_bits hr (by decide) (by rfl) (ax_cons (ex_var (i := 0) rfl (Or.inr (Or.inl rfl))) (ax_cons (ex_var (i := 1) rfl (Or.inl rfl)) ax_nil))) (ax_cons (ex_callTy ctuple (by rfl) B.b_tuple (by decide +kernel) (abx_cons (bx_var (i := 3) rfl (Or.inr (Or.inl rfl))) abx_nil)) ax_nil)))))) (ssx_one (sx_ret ex_bl)) ssx_nil) (ssx_cons (sx_set (i := 4) sc_l_marks_right.nd rfl (Or.inl rfl) (ex_op oadd (bx (ex_f (fx_callTy clistF (by rfl) B.b_list (by decide +kernel) (abx_cons (bx_var (i := 0) rfl (Or.inr (Or.inl rfl))) abx_nil)))) (bx (ex_f (fx_lc (own := [("k", 9)]) rfl sc_l_marks_right.nd (ilx_c (ilx_rg1 (by rfl) B.b_range (abx_cons (bx ex_int) abx_nil))) (blkOk_by (by kernel_rfl)) (by decide) (fun _ _ _ _ _ => (gx_nm (i := 9) sc_l_marks_right.nd rfl (by first | exact Or.inl rfl | exact Or.inr rfl))) (fun _ _ _ _ _ => pts_no) (fun _ _ _ _ _ => (ex_op omod (bx (ex_callTy cint (by rfl) B.b_int (by decide +kernel) (abx_cons (bx (ex_ix (bx_var (i := 2) rfl (by first | exact Or.inl rfl | exact Or.inr (Or.inr rfl) | exact Or.inr (Or.inl rfl))) (bx (ex_op oadd (bx ex_int) (bx_var (i := 9) rfl (by first | exact Or.inl rfl | exact Or.inr (Or.inr rfl) | exact Or.inr (Or.inl rfl))))) (fun _ _ => rfl))) abx_nil))) (bx ex_int)))))))) (ssx_cons (sx_for PassesOwn.never rfl (ilx_seq (ex_var (i := 4) rfl (Or.inl rfl))) (gx_nm (i := 5) sc_l_marks_right.nd rfl (Or.inl rfl)) (ssx_one (sx_if (tx_not (tx_tru (bx (ex_fnT c_l_like hr (by decide) (by rfl) (ax_cons (ex_fnT c_may_have hr (by decide) (by rfl) (ax_cons (ex_callTy ctuple (by rfl) B.b_tuple (by decide +kernel) (abx_cons (bx_var (i := 3) rfl (Or.inr (Or.inl rfl))) abx_nil)) (ax_cons (ex_var (i := 5) rfl (Or.inl rfl)) ax_nil))) (ax_cons (ex_fnT c_l_all_marked hr (by decide) (by rfl) (ax_cons (ex_var (i := 3) rfl (Or.inr (Or.inl rfl))) (ax_cons (ex_var (i := 5) rfl (Or.inl rfl)) ax_nil))) ax_nil)))))) (ssx_one (sx_ret ex_bl)) ssx_nil))) (ssx_cons (sx_set (i := 6) sc_l_marks_right.nd rfl (Or.inl rfl) (ex_op omod (bx (ex_callTy cint (by rfl) B.b_int (by decide +kernel) (abx_cons (bx (ex_ix (bx_var (i := 2) rfl (Or.inr (Or.inl rfl))) (bx ex_int) (fun _ _ => rfl))) abx_nil))) (bx ex_int))) (ssx_cons (sx_setLc (i := 7) (own := [("key", 5)]) rfl sc_l_marks_right.nd rfl rfl (sw_true rfl rfl rfl (by decide +kernel)) (ilx_c (ilx_rg1 (by rfl) B.b_range (abx_cons (bx_var (i := 6) rfl (Or.inl rfl)) abx_nil))) (blkOk_by (by kernel_rfl)) (by decide) (fun _ _ _ _ _ => (gx_nm (i := 5) sc_l_marks_right.nd rfl (by first | exact Or.inl rfl | exact Or.inr rfl))) (fun _ _ _ _ _ => (pts_if (PW.pt (wx_and (tx_cmp (onotin (room65 hr)) (bx_var (i := 5) rfl (by first | exact Or.inl rfl | exact Or.inr (Or.inr rfl) | exact Or.inr (Or.inl rfl))) (bx_var (i := 0) rfl (by first | exact Or.inl rfl | exact Or.inr (Or.inr rfl) | exact Or.inr (Or.inl rfl))) (by rfl)) (wx_and1 (tx_tru (bx (ex_fnT c_l_all_marked hr (by decide) (by rfl) (ax_cons (ex_var (i := 3) rfl (by first | exact Or.inl rfl | exact Or.inr (Or.inr rfl) | exact Or.inr (Or.inl rfl))) (ax_cons (ex_var (i := 5) rfl (by first | exact Or.inl rfl | exact Or.inr (Or.inr rfl) | exact Or.inr (Or.inl rfl))) ax_nil)))))))))) (fun _ _ _ _ _ => (ex_var (i := 5) rfl (by first | exact Or.inl rfl | exact Or.inr (Or.inr rfl) | exact Or.inr (Or.inl rfl))))) (ssx_cons (sx_if (tx_not (tx_tru (bx (ex_fnT c_l_like hr (by decide) (by rfl) (ax_cons (ex_fnT c_false_keys hr (by decide) (by rfl) (ax_cons (ex_callTy ctuple (by rfl) B.b_tuple (by decide +kernel) (abx_cons (bx_var (i := 3) rfl (Or.inr (Or.inl rfl))) abx_nil)) (ax_cons (ex_var (i := 0) rfl (Or.inr (Or.inl rfl))) (ax_cons (ex_var (i := 6) rfl (Or.inl rfl)) ax_nil)))) (ax_cons (ex_callTy ctuple (by rfl) B.b_tuple (by decide +kernel) (abx_cons (bx_var (i := 7) rfl (Or.inl rfl)) abx_nil)) ax_nil)))))) (ssx_one (sx_ret ex_bl)) ssx_nil) (ssx_cons (sx_setO (i := 8) sc_l_marks_right.nd rfl (Or.inl rfl) (fx_callTy clistF (by rfl) B.b_list (by decide +kernel) (abx_cons (bx_var (i := 3) rfl (Or.inr (Or.inl rfl))) abx_nil))) (ssx_cons (sx_setI (i := 8) rfl (Or.inl rfl) (bx (ex_op omod (bx (ex_callTy cint (by rfl) B.b_int (by decide +kernel) (abx_cons (bx (ex_ix (bx_var (i := 2) rfl (Or.inr (Or.inl rfl))) (bx ex_int) (fun _ _ => rfl))) abx_nil))) (bx_var (i := 1) rfl (Or.inl rfl)))) ex_int) (ssx_cons (sx_for PassesOwn.never rfl (ilx_seq (ex_var (i := 4) rfl (Or.inl rfl))) (gx_nm (i := 5) sc_l_marks_right.nd rfl (Or.inl rfl)) (ssx_one (sx_if (tx_not (tx_tru (bx (ex_fnT c_l_like hr (by decide) (by rfl) (ax_cons (ex_fnT c_may_have hr (by decide) (by rfl) (ax_cons (ex_callTy ctuple (by rfl) B.b_tuple (by decide +kernel) (abx_cons (bx_var (i := 8) rfl (Or.inl rfl)) abx_nil)) (ax_cons (ex_var (i := 5) rfl (Or.inl rfl)) ax_nil))) (ax_cons (ex_fnTB c_l_all_marked hr (by decide) (by rfl) (abx_cons (bx_var (i := 8) rfl (Or.inl rfl)) (abx_cons (bx_var (i := 5) rfl (Or.inl rfl)) abx_nil))) ax_nil)))))) (ssx_one (sx_ret ex_bl)) ssx_nil))) (ssx_one (sx_ret ex_bl)))))))))))))

/-! _law_counts(keys, rows, n): 0 keys, 1 rows, 2 n, 3 table, 4 r, 5 line, 6 key, 7 place, 8 k -/
abbrev s_l_counts : Stmt := topS 20
theorem sc_l_counts : FnScope ["keys", "rows", "n", "table", "r", "line", "key", "place", "k"] ["keys", "rows", "n"] (defScope s_l_counts) := ⟨rfl, rfl, rfl, by decide +kernel, rfl, by decide +kernel, by decide +kernel⟩
def b_l_counts : Cmd :=
    (sSeq (sSetO 3 (fun env => (aNil env).bind fun ds => if lim ds.length then some ds else none))
    (sSeq (sFor (iRg1 (aCons (bVar 1) aNil)) (gNm 4)
    (sSeq (sSetO 5 (fLc [8] (iRg1 (aCons (bVar 2) aNil)) (gNm 8) tYesF (eC (.int 0))))
    (sSeq (sFor (iSeq (eVar 0)) (gNm 6)
    (sSeq (sSet 7 (eOp gMod (eCall gInt (aCons (eOp gAdd (eOp gMul (eOp gAdd (eOp gMul (eC (.int 2)) (bVar 4)) (eC (.int 1))) (bVar 6)) (bVar 4)) aNil)) (bVar 2)))
    (sSetI 5 (bVar 7) (eOp gAdd (eOp gIx (bVar 5) (bVar 7)) (eC (.int 1))))))
    (sApp 3 (eCall gTuple (aCons (bVar 5) aNil))))))
    (sRet (eCall gTuple (aCons (bVar 3) aNil)))))
def run_l_counts : List D → Option D := runC 3 6 b_l_counts
theorem ok_l_counts (B : Bs mg) (F : FunT K mg "_law_counts" s_l_counts) : FnT P w K mg base "_law_counts" 1 3 run_l_counts :=
  fnt_mk (lv := 0) F sc_l_counts rfl rfl (fun _ _ _ _ _ _ us hl => match us, hl with | [_, _, _], _ => rfl) (fun f cdv A outer s H E hr =>
    (ssx_cons (sx_setO (i := 3) sc_l_counts.nd rfl (Or.inl rfl) (fx_lst ax_nil)) (ssx_cons (sx_for PassesOwn.never rfl (ilx_rg1 (by rfl) B.b_range (abx_cons (bx_var (i := 1) rfl (Or.inl rfl)) abx_nil)) (gx_nm (i := 4) sc_l_counts.nd rfl (Or.inl rfl)) (ssx_cons (sx_setLcO (i := 5) (own := [("k", 8)]) rfl sc_l_counts.nd rfl rfl (sw_true rfl rfl rfl (by decide +kernel)) (ilx_c (ilx_rg1 (by rfl) B.b_range (abx_cons (bx_var (i := 2) rfl (Or.inl rfl)) abx_nil))) (blkOk_by (by kernel_rfl)) (by decide) (fun _ _ _ _ _ => (gx_nm (i := 8) sc_l_counts.nd rfl (by first | exact Or.inl rfl | exact Or.inr rfl))) (fun _ _ _ _ _ => pts_no) (fun _ _ _ _ _ => ex_int)) (ssx_cons (sx_for PassesOwn.never rfl (ilx_seq (ex_var (i := 0) rfl (Or.inl rfl))) (gx_nm (i := 6) sc_l_counts.nd rfl (Or.inl rfl)) (ssx_cons (sx_set (i := 7) sc_l_counts.nd rfl (Or.inl rfl) (ex_op omod (bx (ex_callTy cint (by rfl) B.b_int (by decide +kernel) (abx_cons (bx (ex_op oadd (bx (ex_op omul (bx (ex_op oadd (bx (ex_op omul (bx ex_int) (bx_var (i := 4) rfl (Or.inl rfl)))) (bx ex_int))) (bx_var (i := 6) rfl (Or.inl rfl)))) (bx_var (i := 4) rfl (Or.inl rfl)))) abx_nil))) (bx_var (i := 2) rfl (Or.inl rfl)))) (ssx_one (sx_setI (i := 5) rfl (Or.inl rfl) (bx_var (i := 7) rfl (Or.inl rfl)) (ex_op oadd (bx (ex_ix (bx_var (i := 5) rfl (Or.inl rfl)) (bx_var (i := 7) rfl (Or.inl rfl)) (fun _ _ => rfl))) (bx ex_int)))))) (ssx_one (sx_app (i := 3) rfl (Or.inl rfl) (ex_callTy ctuple (by rfl) B.b_tuple (by decide +kernel) (abx_cons (bx_var (i := 5) rfl (Or.inl rfl)) abx_nil))))))) (ssx_one (sx_ret (ex_callTy ctuple (by rfl) B.b_tuple (by decide +kernel) (abx_cons (bx_var (i := 3) rfl (Or.inl rfl)) abx_nil)))))))

/-! _law_heavy(keys, k): 0 keys, 1 k, 2 found, 3 key, 4 kept, 5 other -/
abbrev s_l_heavy : Stmt := topS 21
theorem sc_l_heavy : FnScope ["keys", "k", "found", "key", "kept", "other"] ["keys", "k"] (defScope s_l_heavy) := ⟨rfl, rfl, rfl, by decide +kernel, rfl, by decide +kernel, by decide +kernel⟩
def b_l_heavy : Cmd :=
    (sSeq (sSetN 2 (dN false))
    (sSeq (sFor (iSeq (eVar 0)) (gNm 3)
    (sIf (asB (eDIn false (eVar 3) (bVar 2)))
    (sDSet 2 (eVar 3) (eOp gAdd (eDGet (bVar 2) (eVar 3)) (eC (.int 1))))
    (sIf (asB (eOp gLt (eCall gLenD (aCons (bVar 2) aNil)) (eOp gSub (bVar 1) (eC (.int 1)))))
    (sDSet 2 (eVar 3) (eC (.int 1)))
    (sSeq (sSetN 4 (dN false))
    (sSeq (sFrz [2] (sFor (iKy (eVar 2)) (gNm 5)
    (sIf (asB (eOp gGt (eDGet (bVar 2) (eVar 5)) (eC (.int 1))))
    (sDSet 4 (eVar 5) (eOp gSub (eDGet (bVar 2) (eVar 5)) (eC (.int 1))))
    sNop)))
    (sMov 2 4))))))
    (sRet (eCall gTuple (aCons (asL (fLc [3] (iSeq (asL (fCall gSortD (aCons (bVar 2) aNil)))) (gNm 3) tYesF (eTup (aCons (eVar 3) (aCons (eDGet (bVar 2) (eVar 3)) aNil))))) aNil)))))
def run_l_heavy : List D → Option D := runC 2 4 b_l_heavy
theorem ok_l_heavy (B : Bs mg) (F : FunT K mg "_law_heavy" s_l_heavy) : FnT P w K mg base "_law_heavy" 1 2 run_l_heavy :=
  fnt_mk (lv := 0) F sc_l_heavy rfl rfl (fun _ _ _ _ _ _ us hl => match us, hl with | [_, _], _ => rfl) (fun f cdv A outer s H E hr =>
    (ssx_cons (sx_setN (i := 2) sc_l_heavy.nd rfl (Or.inr rfl) nx_dnewK) (ssx_cons (sx_for PassesOwn.never rfl (ilx_seq (ex_var (i := 0) rfl (Or.inl rfl))) (gx_nm (i := 3) sc_l_heavy.nd rfl (Or.inl rfl)) (ssx_one (sx_if (tx_din (room65 hr) (ex_var (i := 3) rfl (Or.inl rfl)) (bx_var (i := 2) rfl (Or.inr (Or.inl rfl)))) (ssx_one (sx_dset (i := 2) (room65 hr) rfl (Or.inr (Or.inl rfl)) (ex_var (i := 3) rfl (Or.inl rfl)) (ex_op oadd (bx (ex_dget (room65 hr) (bx_var (i := 2) rfl (Or.inr (Or.inl rfl))) (ex_var (i := 3) rfl (Or.inl rfl)))) (bx ex_int)))) (ssx_one (sx_if (tx_cmp olt (bx (ex_callB clenD (by rfl) B.b_len PySem.boot_len (abx_cons (bx_var (i := 2) rfl (Or.inr (Or.inl rfl))) abx_nil))) (bx (ex_op osub (bx_var (i := 1) rfl (Or.inl rfl)) (bx ex_int))) (nomark _)) (ssx_one (sx_dset (i := 2) (room65 hr) rfl (Or.inr (Or.inl rfl)) (ex_var (i := 3) rfl (Or.inl rfl)) ex_int)) (ssx_cons (sx_setN (i := 4) sc_l_heavy.nd rfl (Or.inl rfl) nx_dnewK) (ssx_cons (sx_frz (is := [2]) (sx_for PassesOwn.never rfl (ilx_keys (ex_var (i := 2) rfl (Or.inr (Or.inl rfl)))) (gx_nm (i := 5) sc_l_heavy.nd rfl (Or.inl rfl)) (ssx_one (sx_if (tx_cmp ogt (bx (ex_dget (room65 hr) (bx_var (i := 2) rfl (Or.inr (Or.inl rfl))) (ex_var (i := 5) rfl (Or.inl rfl)))) (bx ex_int) (nomark _)) (ssx_one (sx_dset (i := 4) (room65 hr) rfl (Or.inl rfl) (ex_var (i := 5) rfl (Or.inl rfl)) (ex_op osub (bx (ex_dget (room65 hr) (bx_var (i := 2) rfl (Or.inr (Or.inl rfl))) (ex_var (i := 5) rfl (Or.inl rfl)))) (bx ex_int)))) ssx_nil)))) (ssx_one (sx_mov (i := 2) (j := 4) sc_l_heavy.nd rfl rfl (Or.inr rfl) (Or.inl rfl)))))))))) (ssx_one (sx_ret (ex_callTy ctuple (by rfl) B.b_tuple (by decide +kernel) (abx_cons (bx (ex_f (fx_lc (own := [("key", 3)]) rfl sc_l_heavy.nd (icx_seq (bx (ex_f (fx_callB (csortDD rfl) (by rfl) B.b_sorted (by decide +kernel) (abx_cons (bx_var (i := 2) rfl (Or.inr (Or.inl rfl))) abx_nil))))) (blkOk_by (by kernel_rfl)) (by decide) (fun _ _ _ _ _ => (gx_nm (i := 3) sc_l_heavy.nd rfl (by first | exact Or.inl rfl | exact Or.inr rfl))) (fun _ _ _ _ _ => pts_no) (fun _ _ _ _ _ => (ex_tup (ax_cons (ex_var (i := 3) rfl (by first | exact Or.inl rfl | exact Or.inr (Or.inr rfl) | exact Or.inr (Or.inl rfl))) (ax_cons (ex_dget (room65 hr) (bx_var (i := 2) rfl (by first | exact Or.inl rfl | exact Or.inr (Or.inr rfl) | exact Or.inr (Or.inl rfl))) (ex_var (i := 3) rfl (by first | exact Or.inl rfl | exact Or.inr (Or.inr rfl) | exact Or.inr (Or.inl rfl)))) ax_nil))))))) abx_nil)))))))

/-! law(script): 0 script, 1 row, 2 keys, 3 n, 4 rows, 5 places, 6 table, 7 key, 8 due, 9 r -/
abbrev s_law : Stmt := topS 22
theorem sc_law : FnScope ["script", "row", "keys", "n", "rows", "places", "table", "key", "due", "r"] ["script"] (defScope s_law) := ⟨rfl, rfl, rfl, by decide +kernel, rfl, by decide +kernel, by decide +kernel⟩
def b_law : Cmd :=
    (sSeq (sSet 1 (eFn run_l_row (aCons (eVar 0) (aCons (eC (.int 42)) aNil))))
    (sSeq (sSet 2 (eFn run_l_keys (aCons (eVar 1) aNil)))
    (sSeq (sSet 3 (eOp gAdd (eC (.int 1)) (eOp gMod (eCall gInt (aCons (eOp gIx (bVar 1) (eC (.int 4))) aNil)) (eC (.int 64)))))
    (sSeq (sIf (tNotF (asT (eFn run_l_marks_right (aCons (eVar 2) (aCons (eVar 3) (aCons (eVar 1) aNil))))))
    (sRet (eC (.bl false)))
    sNop)
    (sSeq (sSet 4 (eOp gAdd (eC (.int 1)) (eOp gMod (eCall gInt (aCons (eOp gIx (bVar 1) (eC (.int 5))) aNil)) (eC (.int 4)))))
    (sSeq (sSet 5 (eOp gAdd (eC (.int 1)) (eOp gMod (eCall gInt (aCons (eOp gIx (bVar 1) (eC (.int 37))) aNil)) (eC (.int 64)))))
    (sSeq (sSet 6 (eFn run_l_counts (aCons (eVar 2) (aCons (eVar 4) (aCons (eVar 5) aNil)))))
    (sSeq (sIf (tNotF (asT (eFn (run_l_like 8) (aCons (eFn run_counted (aCons (eVar 2) (aCons (eVar 4) (aCons (eVar 5) aNil)))) (aCons (eVar 6) aNil)))))
    (sRet (eC (.bl false)))
    sNop)
    (sSeq (sFor (iSeq (eOp gAdd (asL (fCall gListF (aCons (bVar 2) aNil))) (eLst (aCons (eOp gMod (eCall gInt (aCons (eOp gIx (bVar 1) (eC (.int 38))) aNil)) (eC (.int 7))) aNil)))) (gNm 7)
    (sSeq (sSet 8 (eCall gMinA (aCons (asL (fLc [9] (iRg1 (aCons (bVar 4) aNil)) (gNm 9) tYesF (eOp gIx (eOp gIx (bVar 6) (bVar 9)) (eOp gMod (eCall gInt (aCons (eOp gAdd (eOp gMul (eOp gAdd (eOp gMul (eC (.int 2)) (bVar 9)) (eC (.int 1))) (bVar 7)) (bVar 9)) aNil)) (bVar 5))))) aNil)))
    (sIf (tNotF (asT (eFn (run_l_like 8) (aCons (eFn run_most_counted (aCons (eVar 6) (aCons (eVar 7) aNil))) (aCons (eVar 8) aNil)))))
    (sRet (eC (.bl false)))
    sNop)))
    (sRet (eFn (run_l_like 8) (aCons (eFn run_heavy_ones (aCons (eVar 2) (aCons (eOp gAdd (eC (.int 2)) (eOp gMod (eCall gInt (aCons (eOp gIx (bVar 1) (eC (.int 39))) aNil)) (eC (.int 4)))) aNil))) (aCons (eFn run_l_heavy (aCons (eVar 2) (aCons (eOp gAdd (eC (.int 2)) (eOp gMod (eCall gInt (aCons (eOp gIx (bVar 1) (eC (.int 39))) aNil)) (eC (.int 4)))) aNil))) aNil)))))))))))))
def run_law : List D → Option D := runC 1 9 b_law
theorem okf_law (B : Bs mg) {f : Addr} {fd : FuncData} (F : Fun K "law" "law" s_law f fd) (c_l_like : FnT P w K mg base "_law_like" 9 2 (run_l_like 8)) (c_l_heavy : FnT P w K mg base "_law_heavy" 1 2 run_l_heavy) (c_heavy_ones : FnT P w K mg base "heavy_ones" 1 2 run_heavy_ones) (c_most_counted : FnT P w K mg base "most_counted" 2 2 run_most_counted) (c_counted : FnT P w K mg base "counted" 2 3 run_counted) (c_l_counts : FnT P w K mg base "_law_counts" 1 3 run_l_counts) (c_l_marks_right : FnT P w K mg base "_law_marks_right" 10 3 run_l_marks_right) (c_l_keys : FnT P w K mg base "_law_keys" 1 1 run_l_keys) (c_l_row : FnT P w K mg base "_law_row" 2 2 run_l_row) : FnOk P w K mg base CX0 11 f fd ["script"] (spD K run_law 1) :=
  fn_ok (lv := 10) F sc_law rfl rfl (fun cdv A outer s H E hr =>
    (ssx_cons (sx_set (i := 1) sc_law.nd rfl (Or.inl rfl) (ex_fnT c_l_row hr (by decide) (by rfl) (ax_cons (ex_var (i := 0) rfl (Or.inl rfl)) (ax_cons ex_int ax_nil)))) (ssx_cons (sx_set (i := 2) sc_law.nd rfl (Or.inl rfl) (ex_fnT c_l_keys hr (by decide) (by rfl) (ax_cons (ex_var (i := 1) rfl (Or.inl rfl)) ax_nil))) (ssx_cons (sx_set (i := 3) sc_law.nd rfl (Or.inl rfl) (ex_op oadd (bx ex_int) (bx (ex_op omod (bx (ex_callTy cint (by rfl) B.b_int (by decide +kernel) (abx_cons (bx (ex_ix (bx_var (i := 1) rfl (Or.inl rfl)) (bx ex_int) (fun _ _ => rfl))) abx_nil))) (bx ex_int))))) (ssx_cons (sx_if (tx_not (tx_tru (bx (ex_fnT c_l_marks_right hr (by decide) (by rfl) (ax_cons (ex_var (i := 2) rfl (Or.inl rfl)) (ax_cons (ex_var (i := 3) rfl (Or.inl rfl)) (ax_cons (ex_var (i := 1) rfl (Or.inl rfl)) ax_nil))))))) (ssx_one (sx_ret ex_bl)) ssx_nil) (ssx_cons (sx_set (i := 4) sc_law.nd rfl (Or.inl rfl) (ex_op oadd (bx ex_int) (bx (ex_op omod (bx (ex_callTy cint (by rfl) B.b_int (by decide +kernel) (abx_cons (bx (ex_ix (bx_var (i := 1) rfl (Or.inl rfl)) (bx ex_int) (fun _ _ => rfl))) abx_nil))) (bx ex_int))))) (ssx_cons (sx_set (i := 5) sc_law.nd rfl (Or.inr rfl) (ex_op oadd (bx ex_int) (bx (ex_op omod (bx (ex_callTy cint (by rfl) B.b_int (by decide +kernel) (abx_cons (bx (ex_ix (bx_var (i := 1) rfl (Or.inl rfl)) (bx ex_int) (fun _ _ => rfl))) abx_nil))) (bx ex_int))))) (ssx_cons (sx_set (i := 6) sc_law.nd rfl (Or.inr rfl) (ex_fnT c_l_counts hr (by decide) (by rfl) (ax_cons (ex_var (i := 2) rfl (Or.inl rfl)) (ax_cons (ex_var (i := 4) rfl (Or.inl rfl)) (ax_cons (ex_var (i := 5) rfl (Or.inr (Or.inl rfl))) ax_nil))))) (ssx_cons (sx_if (tx_not (tx_tru (bx (ex_fnT c_l_like hr (by decide) (by rfl) (ax_cons (ex_fnT c_counted hr (by decide) (by rfl) (ax_cons (ex_var (i := 2) rfl (Or.inl rfl)) (ax_cons (ex_var (i := 4) rfl (Or.inl rfl)) (ax_cons (ex_var (i := 5) rfl (Or.inr (Or.inl rfl))) ax_nil)))) (ax_cons (ex_var (i := 6) rfl (Or.inr (Or.inl rfl))) ax_nil)))))) (ssx_one (sx_ret ex_bl)) ssx_nil) (ssx_cons (sx_for PassesOwn.never rfl (ilx_seq (ex_op oadd (bx (ex_f (fx_callTy clistF (by rfl) B.b_list (by decide +kernel) (abx_cons (bx_var (i := 2) rfl (Or.inl rfl)) abx_nil)))) (bx (ex_lst (ax_cons (ex_op omod (bx (ex_callTy cint (by rfl) B.b_int (by decide +kernel) (abx_cons (bx (ex_ix (bx_var (i := 1) rfl (Or.inl rfl)) (bx ex_int) (fun _ _ => rfl))) abx_nil))) (bx ex_int)) ax_nil))))) (gx_nm (i := 7) sc_law.nd rfl (Or.inr rfl)) (ssx_cons (sx_set (i := 8) sc_law.nd rfl (Or.inl rfl) (ex_callB (cminA rfl (room65 hr)) (by rfl) B.b_min (by decide +kernel) (abx_cons (bx (ex_f (fx_lc (own := [("r", 9)]) rfl sc_law.nd (ilx_c (ilx_rg1 (by rfl) B.b_range (abx_cons (bx_var (i := 4) rfl (Or.inl rfl)) abx_nil))) (blkOk_by (by kernel_rfl)) (by decide) (fun _ _ _ _ _ => (gx_nm (i := 9) sc_law.nd rfl (by first | exact Or.inl rfl | exact Or.inr rfl))) (fun _ _ _ _ _ => pts_no) (fun _ _ _ _ _ => (ex_ix (bx (ex_ix (bx_var (i := 6) rfl (by first | exact Or.inl rfl | exact Or.inr (Or.inr rfl) | exact Or.inr (Or.inl rfl))) (bx_var (i := 9) rfl (by first | exact Or.inl rfl | exact Or.inr (Or.inr rfl) | exact Or.inr (Or.inl rfl))) (fun _ _ => rfl))) (bx (ex_op omod (bx (ex_callTy cint (by rfl) B.b_int (by decide +kernel) (abx_cons (bx (ex_op oadd (bx (ex_op omul (bx (ex_op oadd (bx (ex_op omul (bx ex_int) (bx_var (i := 9) rfl (by first | exact Or.inl rfl | exact Or.inr (Or.inr rfl) | exact Or.inr (Or.inl rfl))))) (bx ex_int))) (bx_var (i := 7) rfl (by first | exact Or.inl rfl | exact Or.inr (Or.inr rfl) | exact Or.inr (Or.inl rfl))))) (bx_var (i := 9) rfl (by first | exact Or.inl rfl | exact Or.inr (Or.inr rfl) | exact Or.inr (Or.inl rfl))))) abx_nil))) (bx_var (i := 5) rfl (by first | exact Or.inl rfl | exact Or.inr (Or.inr rfl) | exact Or.inr (Or.inl rfl))))) (fun _ _ => rfl)))))) abx_nil))) (ssx_one (sx_if (tx_not (tx_tru (bx (ex_fnT c_l_like hr (by decide) (by rfl) (ax_cons (ex_fnT c_most_counted hr (by decide) (by rfl) (ax_cons (ex_var (i := 6) rfl (Or.inr (Or.inl rfl))) (ax_cons (ex_var (i := 7) rfl (Or.inr (Or.inl rfl))) ax_nil))) (ax_cons (ex_var (i := 8) rfl (Or.inl rfl)) ax_nil)))))) (ssx_one (sx_ret ex_bl)) ssx_nil)))) (ssx_one (sx_ret (ex_fnT c_l_like hr (by decide) (by rfl) (ax_cons (ex_fnT c_heavy_ones hr (by decide) (by rfl) (ax_cons (ex_var (i := 2) rfl (Or.inl rfl)) (ax_cons (ex_op oadd (bx ex_int) (bx (ex_op omod (bx (ex_callTy cint (by rfl) B.b_int (by decide +kernel) (abx_cons (bx (ex_ix (bx_var (i := 1) rfl (Or.inl rfl)) (bx ex_int) (fun _ _ => rfl))) abx_nil))) (bx ex_int)))) ax_nil))) (ax_cons (ex_fnT c_l_heavy hr (by decide) (by rfl) (ax_cons (ex_var (i := 2) rfl (Or.inl rfl)) (ax_cons (ex_op oadd (bx ex_int) (bx (ex_op omod (bx (ex_callTy cint (by rfl) B.b_int (by decide +kernel) (abx_cons (bx (ex_ix (bx_var (i := 1) rfl (Or.inl rfl)) (bx ex_int) (fun _ _ => rfl))) abx_nil))) (bx ex_int)))) ax_nil))) ax_nil)))))))))))))))

theorem all_mk {l : PySem.W.OpenLaw} {w : World} {K : PySem.W.Frag} {h : Heap} {mg : Str → Option Value} {fa : Addr} (X : K.In h) (G : h.Ns mainGlobals mg) (hfa : mg "law" = some (.ref fa))
    {f0 : Addr} {od0 an0 : Option Addr} {sl0 : Array (Option Value)} {oc0 kV0 dc0 pm0 cd0 ct0 : Value}
    (a0 : PySem.W.nsIn K mainGlobals "_marks_of" = some (some (.ref f0))) (l0 : K.lookup f0 = some ⟨oc0, od0, .func (PySem.W.fnOf "_marks_of" "_marks_of" (defArgs s_marks_of) (defBody s_marks_of) (defScope s_marks_of) .none kV0 dc0 pm0 an0 cd0 ct0), sl0⟩) (c0 : PySem.W.codeIn K cd0 "_marks_of" = true) (k0 : PySem.W.keepIn K (.ref f0) = true)
    {f1 : Addr} {od1 an1 : Option Addr} {sl1 : Array (Option Value)} {oc1 kV1 dc1 pm1 cd1 ct1 : Value}
    (a1 : PySem.W.nsIn K mainGlobals "mark_bits" = some (some (.ref f1))) (l1 : K.lookup f1 = some ⟨oc1, od1, .func (PySem.W.fnOf "mark_bits" "mark_bits" (defArgs s_mark_bits) (defBody s_mark_bits) (defScope s_mark_bits) .none kV1 dc1 pm1 an1 cd1 ct1), sl1⟩) (c1 : PySem.W.codeIn K cd1 "mark_bits" = true) (k1 : PySem.W.keepIn K (.ref f1) = true)
    {f2 : Addr} {od2 an2 : Option Addr} {sl2 : Array (Option Value)} {oc2 kV2 dc2 pm2 cd2 ct2 : Value}
    (a2 : PySem.W.nsIn K mainGlobals "may_have" = some (some (.ref f2))) (l2 : K.lookup f2 = some ⟨oc2, od2, .func (PySem.W.fnOf "may_have" "may_have" (defArgs s_may_have) (defBody s_may_have) (defScope s_may_have) .none kV2 dc2 pm2 an2 cd2 ct2), sl2⟩) (c2 : PySem.W.codeIn K cd2 "may_have" = true) (k2 : PySem.W.keepIn K (.ref f2) = true)
    {f3 : Addr} {od3 an3 : Option Addr} {sl3 : Array (Option Value)} {oc3 kV3 dc3 pm3 cd3 ct3 : Value}
    (a3 : PySem.W.nsIn K mainGlobals "false_keys" = some (some (.ref f3))) (l3 : K.lookup f3 = some ⟨oc3, od3, .func (PySem.W.fnOf "false_keys" "false_keys" (defArgs s_false_keys) (defBody s_false_keys) (defScope s_false_keys) .none kV3 dc3 pm3 an3 cd3 ct3), sl3⟩) (c3 : PySem.W.codeIn K cd3 "false_keys" = true) (k3 : PySem.W.keepIn K (.ref f3) = true)
    {f4 : Addr} {od4 an4 : Option Addr} {sl4 : Array (Option Value)} {oc4 kV4 dc4 pm4 cd4 ct4 : Value}
    (a4 : PySem.W.nsIn K mainGlobals "_spot_of" = some (some (.ref f4))) (l4 : K.lookup f4 = some ⟨oc4, od4, .func (PySem.W.fnOf "_spot_of" "_spot_of" (defArgs s_spot_of) (defBody s_spot_of) (defScope s_spot_of) .none kV4 dc4 pm4 an4 cd4 ct4), sl4⟩) (c4 : PySem.W.codeIn K cd4 "_spot_of" = true) (k4 : PySem.W.keepIn K (.ref f4) = true)
    {f5 : Addr} {od5 an5 : Option Addr} {sl5 : Array (Option Value)} {oc5 kV5 dc5 pm5 cd5 ct5 : Value}
    (a5 : PySem.W.nsIn K mainGlobals "counted" = some (some (.ref f5))) (l5 : K.lookup f5 = some ⟨oc5, od5, .func (PySem.W.fnOf "counted" "counted" (defArgs s_counted) (defBody s_counted) (defScope s_counted) .none kV5 dc5 pm5 an5 cd5 ct5), sl5⟩) (c5 : PySem.W.codeIn K cd5 "counted" = true) (k5 : PySem.W.keepIn K (.ref f5) = true)
    {f6 : Addr} {od6 an6 : Option Addr} {sl6 : Array (Option Value)} {oc6 kV6 dc6 pm6 cd6 ct6 : Value}
    (a6 : PySem.W.nsIn K mainGlobals "most_counted" = some (some (.ref f6))) (l6 : K.lookup f6 = some ⟨oc6, od6, .func (PySem.W.fnOf "most_counted" "most_counted" (defArgs s_most_counted) (defBody s_most_counted) (defScope s_most_counted) .none kV6 dc6 pm6 an6 cd6 ct6), sl6⟩) (c6 : PySem.W.codeIn K cd6 "most_counted" = true) (k6 : PySem.W.keepIn K (.ref f6) = true)
    {f7 : Addr} {od7 an7 : Option Addr} {sl7 : Array (Option Value)} {oc7 kV7 dc7 pm7 cd7 ct7 : Value}
    (a7 : PySem.W.nsIn K mainGlobals "heavy_ones" = some (some (.ref f7))) (l7 : K.lookup f7 = some ⟨oc7, od7, .func (PySem.W.fnOf "heavy_ones" "heavy_ones" (defArgs s_heavy_ones) (defBody s_heavy_ones) (defScope s_heavy_ones) .none kV7 dc7 pm7 an7 cd7 ct7), sl7⟩) (c7 : PySem.W.codeIn K cd7 "heavy_ones" = true) (k7 : PySem.W.keepIn K (.ref f7) = true)
    {f8 : Addr} {od8 an8 : Option Addr} {sl8 : Array (Option Value)} {oc8 kV8 dc8 pm8 cd8 ct8 : Value}
    (a8 : PySem.W.nsIn K mainGlobals "_law_mixed" = some (some (.ref f8))) (l8 : K.lookup f8 = some ⟨oc8, od8, .func (PySem.W.fnOf "_law_mixed" "_law_mixed" (defArgs s_l_mixed) (defBody s_l_mixed) (defScope s_l_mixed) .none kV8 dc8 pm8 an8 cd8 ct8), sl8⟩) (c8 : PySem.W.codeIn K cd8 "_law_mixed" = true) (k8 : PySem.W.keepIn K (.ref f8) = true)
    {f9 : Addr} {od9 an9 : Option Addr} {sl9 : Array (Option Value)} {oc9 kV9 dc9 pm9 cd9 ct9 : Value}
    (a9 : PySem.W.nsIn K mainGlobals "_law_row" = some (some (.ref f9))) (l9 : K.lookup f9 = some ⟨oc9, od9, .func (PySem.W.fnOf "_law_row" "_law_row" (defArgs s_l_row) (defBody s_l_row) (defScope s_l_row) .none kV9 dc9 pm9 an9 cd9 ct9), sl9⟩) (c9 : PySem.W.codeIn K cd9 "_law_row" = true) (k9 : PySem.W.keepIn K (.ref f9) = true)
    {f10 : Addr} {od10 an10 : Option Addr} {sl10 : Array (Option Value)} {oc10 kV10 dc10 pm10 cd10 ct10 : Value}
    (a10 : PySem.W.nsIn K mainGlobals "_law_is_int" = some (some (.ref f10))) (l10 : K.lookup f10 = some ⟨oc10, od10, .func (PySem.W.fnOf "_law_is_int" "_law_is_int" (defArgs s_l_is_int) (defBody s_l_is_int) (defScope s_l_is_int) .none kV10 dc10 pm10 an10 cd10 ct10), sl10⟩) (c10 : PySem.W.codeIn K cd10 "_law_is_int" = true) (k10 : PySem.W.keepIn K (.ref f10) = true)
    {f11 : Addr} {od11 an11 : Option Addr} {sl11 : Array (Option Value)} {oc11 kV11 dc11 pm11 cd11 ct11 : Value}
    (a11 : PySem.W.nsIn K mainGlobals "_law_like" = some (some (.ref f11))) (l11 : K.lookup f11 = some ⟨oc11, od11, .func (PySem.W.fnOf "_law_like" "_law_like" (defArgs s_l_like) (defBody s_l_like) (defScope s_l_like) .none kV11 dc11 pm11 an11 cd11 ct11), sl11⟩) (c11 : PySem.W.codeIn K cd11 "_law_like" = true) (k11 : PySem.W.keepIn K (.ref f11) = true)
    {f12 : Addr} {od12 an12 : Option Addr} {sl12 : Array (Option Value)} {oc12 kV12 dc12 pm12 cd12 ct12 : Value}
    (a12 : PySem.W.nsIn K mainGlobals "_law_keys" = some (some (.ref f12))) (l12 : K.lookup f12 = some ⟨oc12, od12, .func (PySem.W.fnOf "_law_keys" "_law_keys" (defArgs s_l_keys) (defBody s_l_keys) (defScope s_l_keys) .none kV12 dc12 pm12 an12 cd12 ct12), sl12⟩) (c12 : PySem.W.codeIn K cd12 "_law_keys" = true) (k12 : PySem.W.keepIn K (.ref f12) = true)
    {f13 : Addr} {od13 an13 : Option Addr} {sl13 : Array (Option Value)} {oc13 kV13 dc13 pm13 cd13 ct13 : Value}
    (a13 : PySem.W.nsIn K mainGlobals "_law_marks" = some (some (.ref f13))) (l13 : K.lookup f13 = some ⟨oc13, od13, .func (PySem.W.fnOf "_law_marks" "_law_marks" (defArgs s_l_marks) (defBody s_l_marks) (defScope s_l_marks) .none kV13 dc13 pm13 an13 cd13 ct13), sl13⟩) (c13 : PySem.W.codeIn K cd13 "_law_marks" = true) (k13 : PySem.W.keepIn K (.ref f13) = true)
    {f14 : Addr} {od14 an14 : Option Addr} {sl14 : Array (Option Value)} {oc14 kV14 dc14 pm14 cd14 ct14 : Value}
    (a14 : PySem.W.nsIn K mainGlobals "_law_all_marked" = some (some (.ref f14))) (l14 : K.lookup f14 = some ⟨oc14, od14, .func (PySem.W.fnOf "_law_all_marked" "_law_all_marked" (defArgs s_l_all_marked) (defBody s_l_all_marked) (defScope s_l_all_marked) .none kV14 dc14 pm14 an14 cd14 ct14), sl14⟩) (c14 : PySem.W.codeIn K cd14 "_law_all_marked" = true) (k14 : PySem.W.keepIn K (.ref f14) = true)
    {f15 : Addr} {od15 an15 : Option Addr} {sl15 : Array (Option Value)} {oc15 kV15 dc15 pm15 cd15 ct15 : Value}
    (a15 : PySem.W.nsIn K mainGlobals "_law_bits" = some (some (.ref f15))) (l15 : K.lookup f15 = some ⟨oc15, od15, .func (PySem.W.fnOf "_law_bits" "_law_bits" (defArgs s_l_bits) (defBody s_l_bits) (defScope s_l_bits) .none kV15 dc15 pm15 an15 cd15 ct15), sl15⟩) (c15 : PySem.W.codeIn K cd15 "_law_bits" = true) (k15 : PySem.W.keepIn K (.ref f15) = true)
    {f16 : Addr} {od16 an16 : Option Addr} {sl16 : Array (Option Value)} {oc16 kV16 dc16 pm16 cd16 ct16 : Value}
    (a16 : PySem.W.nsIn K mainGlobals "_law_marks_right" = some (some (.ref f16))) (l16 : K.lookup f16 = some ⟨oc16, od16, .func (PySem.W.fnOf "_law_marks_right" "_law_marks_right" (defArgs s_l_marks_right) (defBody s_l_marks_right) (defScope s_l_marks_right) .none kV16 dc16 pm16 an16 cd16 ct16), sl16⟩) (c16 : PySem.W.codeIn K cd16 "_law_marks_right" = true) (k16 : PySem.W.keepIn K (.ref f16) = true)
    {f17 : Addr} {od17 an17 : Option Addr} {sl17 : Array (Option Value)} {oc17 kV17 dc17 pm17 cd17 ct17 : Value}
    (a17 : PySem.W.nsIn K mainGlobals "_law_counts" = some (some (.ref f17))) (l17 : K.lookup f17 = some ⟨oc17, od17, .func (PySem.W.fnOf "_law_counts" "_law_counts" (defArgs s_l_counts) (defBody s_l_counts) (defScope s_l_counts) .none kV17 dc17 pm17 an17 cd17 ct17), sl17⟩) (c17 : PySem.W.codeIn K cd17 "_law_counts" = true) (k17 : PySem.W.keepIn K (.ref f17) = true)
    {f18 : Addr} {od18 an18 : Option Addr} {sl18 : Array (Option Value)} {oc18 kV18 dc18 pm18 cd18 ct18 : Value}
    (a18 : PySem.W.nsIn K mainGlobals "_law_heavy" = some (some (.ref f18))) (l18 : K.lookup f18 = some ⟨oc18, od18, .func (PySem.W.fnOf "_law_heavy" "_law_heavy" (defArgs s_l_heavy) (defBody s_l_heavy) (defScope s_l_heavy) .none kV18 dc18 pm18 an18 cd18 ct18), sl18⟩) (c18 : PySem.W.codeIn K cd18 "_law_heavy" = true) (k18 : PySem.W.keepIn K (.ref f18) = true)
    {f19 : Addr} {od19 an19 : Option Addr} {sl19 : Array (Option Value)} {oc19 kV19 dc19 pm19 cd19 ct19 : Value}
    (a19 : PySem.W.nsIn K mainGlobals "law" = some (some (.ref f19))) (l19 : K.lookup f19 = some ⟨oc19, od19, .func (PySem.W.fnOf "law" "law" (defArgs s_law) (defBody s_law) (defScope s_law) .none kV19 dc19 pm19 an19 cd19 ct19), sl19⟩) (c19 : PySem.W.codeIn K cd19 "law" = true) (k19 : PySem.W.keepIn K (.ref f19) = true)
    (z0 : PySem.W.nsIn K mainGlobals "tuple" = some none)
    (z1 : PySem.W.nsIn K mainGlobals "len" = some none)
    (z2 : PySem.W.nsIn K mainGlobals "all" = some none)
    (z3 : PySem.W.nsIn K mainGlobals "range" = some none)
    (z4 : PySem.W.nsIn K mainGlobals "set" = some none)
    (z5 : PySem.W.nsIn K mainGlobals "enumerate" = some none)
    (z6 : PySem.W.nsIn K mainGlobals "min" = some none)
    (z7 : PySem.W.nsIn K mainGlobals "sorted" = some none)
    (z8 : PySem.W.nsIn K mainGlobals "int" = some none)
    (z9 : PySem.W.nsIn K mainGlobals "isinstance" = some none)
    (z10 : PySem.W.nsIn K mainGlobals "bool" = some none)
    (z11 : PySem.W.nsIn K mainGlobals "str" = some none)
    (z12 : PySem.W.nsIn K mainGlobals "list" = some none)
    : ∃ fd : FuncData, (∀ (s : Shared) (v : Value), BindsTo s fd ⟨[v], []⟩ [("script", v)]) ∧ ∀ base : Heap, K.In base → base.Ns mainGlobals mg → FnOk l.prog w K mg base CX0 11 fa fd ["script"] (spD K run_law 1) := by
  have e := hfa.symm.trans (PySem.W.mg_of X G a19)
  cases e
  have B : Bs mg := ⟨PySem.W.mg_none_of X G z0, PySem.W.mg_none_of X G z1, PySem.W.mg_none_of X G z2, PySem.W.mg_none_of X G z3, PySem.W.mg_none_of X G z4, PySem.W.mg_none_of X G z5, PySem.W.mg_none_of X G z6, PySem.W.mg_none_of X G z7, PySem.W.mg_none_of X G z8, PySem.W.mg_none_of X G z9, PySem.W.mg_none_of X G z10, PySem.W.mg_none_of X G z11, PySem.W.mg_none_of X G z12⟩
  have FL := fun_mk (st := s_law) l19 c19 k19
  refine ⟨PySem.W.fnOf "law" "law" (defArgs s_law) (defBody s_law) (defScope s_law) .none kV19 dc19 pm19 an19 cd19 ct19, fun s v => .of_eq rfl, fun base _ _ => ?_⟩
  have q_marks_of := ok_marks_of (P := l.prog) (w := w) (base := base) B (funt_mk (st := s_marks_of) X G a0 l0 c0 k0)
  have q_mark_bits := ok_mark_bits (P := l.prog) (w := w) (base := base) B (funt_mk (st := s_mark_bits) X G a1 l1 c1 k1) q_marks_of
  have q_may_have := ok_may_have (P := l.prog) (w := w) (base := base) B (funt_mk (st := s_may_have) X G a2 l2 c2 k2) q_marks_of
  have q_false_keys := ok_false_keys (P := l.prog) (w := w) (base := base) B (funt_mk (st := s_false_keys) X G a3 l3 c3 k3) q_may_have
  have q_spot_of := ok_spot_of (P := l.prog) (w := w) (base := base) B (funt_mk (st := s_spot_of) X G a4 l4 c4 k4)
  have q_counted := ok_counted (P := l.prog) (w := w) (base := base) B (funt_mk (st := s_counted) X G a5 l5 c5 k5) q_spot_of
  have q_most_counted := ok_most_counted (P := l.prog) (w := w) (base := base) B (funt_mk (st := s_most_counted) X G a6 l6 c6 k6) q_spot_of
  have q_heavy_ones := ok_heavy_ones (P := l.prog) (w := w) (base := base) B (funt_mk (st := s_heavy_ones) X G a7 l7 c7 k7)
  have q_l_mixed := ok_l_mixed (P := l.prog) (w := w) (base := base) B (funt_mk (st := s_l_mixed) X G a8 l8 c8 k8)
  have q_l_row := ok_l_row (P := l.prog) (w := w) (base := base) B (funt_mk (st := s_l_row) X G a9 l9 c9 k9) q_l_mixed
  have q_l_is_int := ok_l_is_int (P := l.prog) (w := w) (base := base) B (funt_mk (st := s_l_is_int) X G a10 l10 c10 k10)
  have q_l_like := ok_l_like (P := l.prog) (w := w) (base := base) B (funt_mk (st := s_l_like) X G a11 l11 c11 k11) q_l_is_int 8
  have q_l_keys := ok_l_keys (P := l.prog) (w := w) (base := base) B (funt_mk (st := s_l_keys) X G a12 l12 c12 k12)
  have q_l_marks := ok_l_marks (P := l.prog) (w := w) (base := base) B (funt_mk (st := s_l_marks) X G a13 l13 c13 k13)
  have q_l_all_marked := ok_l_all_marked (P := l.prog) (w := w) (base := base) B (funt_mk (st := s_l_all_marked) X G a14 l14 c14 k14) q_l_marks
  have q_l_bits := ok_l_bits (P := l.prog) (w := w) (base := base) B (funt_mk (st := s_l_bits) X G a15 l15 c15 k15) q_l_marks
  have q_l_marks_right := ok_l_marks_right (P := l.prog) (w := w) (base := base) B (funt_mk (st := s_l_marks_right) X G a16 l16 c16 k16) q_l_like q_l_all_marked q_may_have q_false_keys q_mark_bits q_l_bits
  have q_l_counts := ok_l_counts (P := l.prog) (w := w) (base := base) B (funt_mk (st := s_l_counts) X G a17 l17 c17 k17)
  have q_l_heavy := ok_l_heavy (P := l.prog) (w := w) (base := base) B (funt_mk (st := s_l_heavy) X G a18 l18 c18 k18)
  exact okf_law (P := l.prog) (w := w) (base := base) B FL q_l_like q_l_heavy q_heavy_ones q_most_counted q_counted q_l_counts q_l_marks_right q_l_keys q_l_row
end
end K65

set_option Elab.async false
set_option linter.all false
set_option maxRecDepth 100000
namespace PD
open PySem L2
/-! ### far, and the law's own sum -/
def b_far : Cmd :=
    (sSeq (sSet 3 (asL (fLc [5, 6] (iZipD (aCons (bVar 1) (aCons (bVar 2) aNil))) (gTp (gsCons (gNm 5) (gsCons (gNm 6) gsNil))) tYesF (eOp gSub (bVar 5) (bVar 6)))))
    (sSeq (sIf (asB (eOp gEq (bVar 0) (eC (.str (PySem.Str.ofString "steps")))))
    (sRet (eCall gSum (aCons (asL (fLc [7] (iSeq (bVar 3)) (gNm 7) tYesF (eCall gAbs (aCons (bVar 7) aNil)))) aNil)))
    sNop)
    (sSeq (sIf (asB (eOp gEq (bVar 0) (eC (.str (PySem.Str.ofString "air")))))
    (sRet (eCall gSum (aCons (asL (fLc [7] (iSeq (bVar 3)) (gNm 7) tYesF (eOp gMul (bVar 7) (bVar 7)))) aNil)))
    sNop)
    (sSeq (sIf (asB (eOp gEq (bVar 0) (eC (.str (PySem.Str.ofString "widest")))))
    (sRet (eCall gMaxA (aCons (asL (fLc [7] (iSeq (bVar 3)) (gNm 7) tYesF (eCall gAbs (aCons (bVar 7) aNil)))) aNil)))
    sNop)
    (sSeq (sIf (asB (eOp gEq (bVar 0) (eC (.str (PySem.Str.ofString "unlike")))))
    (sRet (eCall gLen (aCons (asL (fLc [7] (iSeq (bVar 3)) (gNm 7) (asB (eOp gNe (bVar 7) (eC (.int 0)))) (eC (.int 1)))) aNil)))
    sNop)
    (sSeq (sIf (asB (eOp gEq (eOp gIx (bVar 0) (eC (.int 0))) (eC (.str (PySem.Str.ofString "weights")))))
    (sRet (eCall gSum (aCons (asL (fLc [8, 7] (iZipD (aCons (eOp gIx (bVar 0) (eC (.int 1))) (aCons (bVar 3) aNil))) (gTp (gsCons (gNm 8) (gsCons (gNm 7) gsNil))) tYesF (eOp gMul (bVar 8) (eCall gAbs (aCons (bVar 7) aNil))))) aNil)))
    sNop)
    (sSeq (sSet 4 (eOp gIx (bVar 0) (eC (.int 1))))
    (sRet (eCall gSum (aCons (asL (fLc [9] (iRg1 (aCons (eCall gLen (aCons (bVar 3) aNil)) aNil)) (gNm 9) tYesF (eOp gMul (eOp gIx (bVar 3) (bVar 9)) (eCall gSum (aCons (asL (fLc [10, 7] (iZipD (aCons (eOp gIx (bVar 4) (bVar 9)) (aCons (bVar 3) aNil))) (gTp (gsCons (gNm 10) (gsCons (gNm 7) gsNil))) tYesF (eOp gMul (bVar 10) (bVar 7)))) aNil))))) aNil))))))))))
def run_far : List D → Option D := runC 3 8 b_far
def b_l_far : Cmd :=
    (sSeq (sSet 3 (asL (fLc [6] (iRg1 (aCons (eCall gLen (aCons (bVar 1) aNil)) aNil)) (gNm 6) tYesF (eOp gSub (eOp gIx (bVar 1) (bVar 6)) (eOp gIx (bVar 2) (bVar 6))))))
    (sSeq (sIf (asB (eOp gEq (bVar 0) (eC (.str (PySem.Str.ofString "steps")))))
    (sRet (eCall gSum (aCons (asL (fLc [7] (iSeq (bVar 3)) (gNm 7) tYesF (eCall gAbs (aCons (bVar 7) aNil)))) aNil)))
    sNop)
    (sSeq (sIf (asB (eOp gEq (bVar 0) (eC (.str (PySem.Str.ofString "air")))))
    (sRet (eCall gSum (aCons (asL (fLc [7] (iSeq (bVar 3)) (gNm 7) tYesF (eOp gMul (bVar 7) (bVar 7)))) aNil)))
    sNop)
    (sSeq (sIf (asB (eOp gEq (bVar 0) (eC (.str (PySem.Str.ofString "widest")))))
    (sRet (eCall gMaxA (aCons (asL (fLc [7] (iSeq (bVar 3)) (gNm 7) tYesF (eCall gAbs (aCons (bVar 7) aNil)))) aNil)))
    sNop)
    (sSeq (sIf (asB (eOp gEq (bVar 0) (eC (.str (PySem.Str.ofString "unlike")))))
    (sRet (eCall gLen (aCons (asL (fLc [7] (iSeq (bVar 3)) (gNm 7) (asB (eOp gNe (bVar 7) (eC (.int 0)))) (eVar 7))) aNil)))
    sNop)
    (sSeq (sIf (asB (eOp gEq (eOp gIx (bVar 0) (eC (.int 0))) (eC (.str (PySem.Str.ofString "weights")))))
    (sRet (eCall gSum (aCons (asL (fLc [6] (iRg1 (aCons (eCall gLen (aCons (bVar 1) aNil)) aNil)) (gNm 6) tYesF (eOp gMul (eOp gIx (eOp gIx (bVar 0) (eC (.int 1))) (bVar 6)) (eCall gAbs (aCons (eOp gIx (bVar 3) (bVar 6)) aNil))))) aNil)))
    sNop)
    (sSeq (sSet 4 (eC (.int 0)))
    (sSeq (sFor (iRg1 (aCons (eCall gLen (aCons (bVar 1) aNil)) aNil)) (gNm 5)
    (sSet 4 (eOp gAdd (bVar 4) (eOp gMul (eOp gIx (bVar 3) (bVar 5)) (eCall gSum (aCons (asL (fLc [8] (iRg1 (aCons (eCall gLen (aCons (bVar 1) aNil)) aNil)) (gNm 8) tYesF (eOp gMul (eOp gIx (eOp gIx (eOp gIx (bVar 0) (eC (.int 1))) (bVar 5)) (bVar 8)) (eOp gIx (bVar 3) (bVar 8))))) aNil))))))
    (sRet (eVar 4))))))))))
def run_l_far : List D → Option D := runC 3 6 b_l_far
def absI (i : Int) : Int := if i < 0 then -i else i
theorem absI_eq (i : Int) : absI i = if i < 0 then -i else i := rfl
/-- a way to tell distances -/
inductive Way where
  | steps | air | widest | unlike | weights (ws : List Int) | form (rows : List (List Int))
def sS (s : String) : D := .str (PySem.Str.ofString s)
def intT (ns : List Int) : D := .tup (ns.map D.int)
def Way.d : Way → D
  | .steps => sS "steps"
  | .air => sS "air"
  | .widest => sS "widest"
  | .unlike => sS "unlike"
  | .weights ws => .tup [sS "weights", intT ws]
  | .form rows => .tup [sS "form", .tup (rows.map intT)]
def dotI (u v : List Int) : Int := (List.zipWith (fun x y => x * y) u v).sum
def max0 : List Int → Int
  | [] => 0
  | x :: r => maxL x r
def Way.far : Way → List Int → Int
  | .steps, s => (s.map absI).sum
  | .air, s => (s.map fun x => x * x).sum
  | .widest, s => max0 (s.map absI)
  | .unlike, s => (s.filter fun x => !decide (x = 0)).length
  | .weights ws, s => (List.zipWith (fun w x => w * absI x) ws s).sum
  | .form rows, s => (List.zipWith (fun x r => x * dotI r s) s rows).sum
/-- a way for vectors of n numbers -/
def Way.ok (n : Nat) : Way → Prop
  | .widest => 0 < n
  | .weights ws => ws.length = n ∧ ∀ w ∈ ws, -1000000000 ≤ w ∧ w ≤ 1000000000
  | .form rows => rows.length = n ∧ ∀ r ∈ rows, r.length = n ∧ ∀ x ∈ r, -1000000000 ≤ x ∧ x ≤ 1000000000
  | _ => True
def small (ns : List Int) : Prop := ∀ x ∈ ns, -1000000000 ≤ x ∧ x ≤ 1000000000
def subI (u v : List Int) : List Int := List.zipWith (fun x y => x - y) u v
theorem zipL_ints (u v : List Int) : zipL (u.map D.int) (v.map D.int) = (u.zip v).map fun p => .tup [.int p.1, .int p.2] := by
  induction u generalizing v with
  | nil => simp [zipL]
  | cons x u ih =>
    cases v with
    | nil => simp [zipL]
    | cons y v => simp [zipL, ih]
theorem subI_zip (u v : List Int) : (u.zip v).map (fun p => p.1 - p.2) = subI u v := by
  unfold subI
  rw [List.zip_eq_zipWith, List.map_zipWith]
theorem subI_len {u v : List Int} (h : u.length = v.length) : (subI u v).length = u.length := by simp [subI, h]
theorem subI_small {u v : List Int} (hu : small u) (hv : small v) : ∀ x ∈ subI u v, -2000000000 ≤ x ∧ x ≤ 2000000000 := by
  intro x hx
  rw [← subI_zip] at hx
  obtain ⟨p, hp, rfl⟩ := List.mem_map.mp hx
  have h1 := hu p.1 (List.of_mem_zip hp).1
  have h2 := hv p.2 (List.of_mem_zip hp).2
  omega
theorem gEq_str {x y : Str} (hx : PyData.strOk x = true) (hy : PyData.strOk y = true) : gEq (.str x) (.str y) = some (.bl (x == y)) := by
  simp [gEq, okN, hx, hy, eqD, py, PyData.eqv]
theorem gEq_tup_str {xs : List D} {y : Str} (hx : okN 64 (.tup xs) = true) (hy : PyData.strOk y = true) : gEq (.tup xs) (.str y) = some (.bl false) := by
  unfold gEq
  rw [hx, show okN 64 (.str y) = true from hy]
  simp [eqD, py, PyData.eqv]
theorem okN_ints (n : Nat) (ns : List Int) : okN (n + 1) (intT ns) = true := by
  unfold intT
  simp only [okN, List.all_eq_true]
  intro x hx
  obtain ⟨i, _, rfl⟩ := List.mem_map.mp hx
  cases n <;> rfl
theorem okN_rows (n : Nat) (rows : List (List Int)) : okN (n + 2) (.tup (rows.map intT)) = true := by
  simp only [okN, List.all_eq_true]
  intro x hx
  obtain ⟨r, _, rfl⟩ := List.mem_map.mp hx
  exact okN_ints n r
theorem ok_w : PyData.strOk (PySem.Str.ofString "weights") = true := by decide +kernel
theorem ok_f : PyData.strOk (PySem.Str.ofString "form") = true := by decide +kernel
theorem way_ok (w : Way) : okN 64 w.d = true := by
  cases w with
  | steps => show PyData.strOk _ = true; decide +kernel
  | air => show PyData.strOk _ = true; decide +kernel
  | widest => show PyData.strOk _ = true; decide +kernel
  | unlike => show PyData.strOk _ = true; decide +kernel
  | weights ws =>
    show ([sS "weights", intT ws].all (okN 63)) = true
    simp only [List.all_cons, List.all_nil, Bool.and_true, Bool.and_eq_true]
    exact ⟨ok_w, okN_ints 62 ws⟩
  | form rows =>
    show ([sS "form", .tup (rows.map intT)].all (okN 63)) = true
    simp only [List.all_cons, List.all_nil, Bool.and_true, Bool.and_eq_true]
    exact ⟨ok_f, okN_rows 61 rows⟩
/-- a way's name, as the program asks for it -/
def Way.nm : Way → String
  | .steps => "steps"
  | .air => "air"
  | .widest => "widest"
  | .unlike => "unlike"
  | _ => ""
theorem bl_eq {a b : Bool} (h : a = b) : some (D.bl a) = some (D.bl b) := by rw [h]
theorem way_is (w : Way) (s : String) (hs : s ∈ ["steps", "air", "widest", "unlike"]) : gEq w.d (.str (PySem.Str.ofString s)) = some (.bl (decide (w.nm = s))) := by
  have hok : PyData.strOk (PySem.Str.ofString s) = true := by
    simp only [List.mem_cons, List.not_mem_nil, or_false] at hs
    rcases hs with rfl | rfl | rfl | rfl <;> decide +kernel
  cases w with
  | weights ws =>
    rw [show (Way.weights ws).d = .tup [sS "weights", intT ws] from rfl, gEq_tup_str (way_ok (.weights ws)) hok]
    simp only [List.mem_cons, List.not_mem_nil, or_false] at hs
    rcases hs with rfl | rfl | rfl | rfl <;> exact bl_eq (by simp [Way.nm])
  | form rows =>
    rw [show (Way.form rows).d = .tup [sS "form", .tup (rows.map intT)] from rfl, gEq_tup_str (way_ok (.form rows)) hok]
    simp only [List.mem_cons, List.not_mem_nil, or_false] at hs
    rcases hs with rfl | rfl | rfl | rfl <;> exact bl_eq (by simp [Way.nm])
  | _ =>
    simp only [Way.d, sS]
    rw [gEq_str (by decide +kernel) hok]
    simp only [List.mem_cons, List.not_mem_nil, or_false] at hs
    rcases hs with rfl | rfl | rfl | rfl <;> exact bl_eq (by decide +kernel)

theorem h_w : gEq (sS "weights") (.str (PySem.Str.ofString "weights")) = some (.bl true) := by
  rw [show sS "weights" = D.str (PySem.Str.ofString "weights") from rfl, gEq_str ok_w ok_w]
  exact bl_eq (by decide +kernel)
theorem h_f : gEq (sS "form") (.str (PySem.Str.ofString "weights")) = some (.bl false) := by
  rw [show sS "form" = D.str (PySem.Str.ofString "form") from rfl, gEq_str ok_f ok_w]
  exact bl_eq (by decide +kernel)

/-! the program's own -/
theorem far_steps {w : D} {u v : List Int} {r : List Sl} (hz : u.length ≤ 1000000) :
    asL (fLc [5, 6] (iZipD (aCons (bVar 1) (aCons (bVar 2) aNil))) (gTp (gsCons (gNm 5) (gsCons (gNm 6) gsNil))) tYesF (eOp gSub (bVar 5) (bVar 6))) [.val w, .val (intT u), .val (intT v), .un, .un, .un, .un, .un, .un, .un, .un] = some (.lst ((subI u v).map D.int)) := by
  have h := fLc_map (own := [5, 6]) (it := iZipD (aCons (bVar 1) (aCons (bVar 2) aNil))) (t := gTp (gsCons (gNm 5) (gsCons (gNm 6) gsNil))) (c := tYesF) (y := eOp gSub (bVar 5) (bVar 6)) (env := [.val w, .val (intT u), .val (intT v), .un, .un, .un, .un, .un, .un, .un, .un])
    (enc := fun p : Int × Int => .tup [.int p.1, .int p.2]) (g := fun p => .int (p.1 - p.2)) (xs := u.zip v) (by
      show (seqD (intT u)).bind (fun xs => (seqD (intT v)).bind fun ys => some (zipL xs ys)) = _
      show some (zipL (u.map D.int) (v.map D.int)) = _
      rw [zipL_ints]) (by rw [List.length_zip]; omega) (fun p _ => ⟨_, rfl, rfl, rfl⟩)
  rw [ev_asL, h, ← subI_zip, List.map_map]
  rfl
theorem lst_map {α : Type} {xs : List α} {f : α → Int} {g : α → D} (h : ∀ x, g x = D.int (f x)) : xs.map g = (xs.map f).map D.int := by
  rw [List.map_map]
  exact List.map_congr_left fun x _ => h x
theorem gMaxA_l (s : List Int) (h : 0 < s.length) : gMaxA [.lst (s.map D.int)] = some (.int (max0 s)) := by
  show gBest maxL maxDD (s.map D.int) = _
  unfold gBest
  rw [intsOf_map]
  cases s with
  | nil => cases h
  | cons x r => rfl
theorem nm_form (rows : List (List Int)) (s : String) (h : s ≠ "") : decide ((Way.form rows).nm = s) = false := decide_eq_false fun e => h e.symm
/-- a comprehension over the steps -/
theorem over_steps {i : Nat} {env : List Sl} {st : List Int} {f : Int → Int} {y : Fe} (h3 : env[3]? = some (.val (.lst (st.map D.int)))) (hz : st.length ≤ 1000000) (h : ∀ x ∈ st, y ((env.set i .un).set i (.val (.int x))) = some (.int (f x))) :
    asL (fLc [i] (iSeq (bVar 3)) (gNm i) tYesF y) env = some (.lst ((st.map f).map D.int)) := by
  have h' := fLc_map (own := [i]) (it := iSeq (bVar 3)) (t := gNm i) (c := tYesF) (y := y) (env := env) (enc := D.int) (g := fun x => .int (f x)) (xs := st) (by
      rw [ev_iseq, ev_bvar, h3]
      rfl) (by omega) (fun x hx => ⟨_, rfl, rfl, by rw [wipe_cons, wipe_nil]; exact h x hx⟩)
  rw [ev_asL, h', List.map_map]
  rfl
theorem zip_rng {α β : Type} (f : α → β → Int) (a0 : α) (b0 : β) (xs : List α) (ys : List β) (n : Nat) (h1 : xs.length = n) (h2 : ys.length = n) : (rngN n).map (fun i => f (xs.getD i.toNat a0) (ys.getD i.toNat b0)) = List.zipWith f xs ys := by
  apply List.ext_getElem
  · simp [rngN_len, h1, h2]
  · intro i q1 q2
    have l1 : i < xs.length := by
      rw [List.length_map, rngN_len] at q1
      omega
    have l2 : i < ys.length := by omega
    rw [List.getElem_map, List.getElem_zipWith]
    unfold rngN
    rw [List.getElem_map, List.getElem_range, Int.toNat_natCast]
    simp [List.getD, List.getElem?_eq_getElem l1, List.getElem?_eq_getElem l2]
theorem gIx_rows {rows : List (List Int)} {i : Int} (h0 : 0 ≤ i) (h1 : i < rows.length) : gIx (.tup (rows.map intT)) (.int i) = some (intT (rows.getD i.toNat [])) := by
  rw [gIx_t h0 (by rw [List.length_map]; exact h1), List.getElem?_map]
  have h : i.toNat < rows.length := by omega
  rw [List.getElem?_eq_getElem h]
  simp [List.getD, List.getElem?_eq_getElem h]
theorem getD_mem {α : Type} {xs : List α} {i : Nat} (a : α) (h : i < xs.length) : xs.getD i a ∈ xs := by
  simp [List.getD, List.getElem?_eq_getElem h]
theorem run_far_ok (w : Way) (u v : List Int) (hl : u.length = v.length) (hw : w.ok u.length) (hz : u.length ≤ 1000000) (hu : small u) (hv : small v) : run_far [w.d, intT u, intT v] = some (.int (w.far (subI u v))) := by
  have hs := subI_small hu hv
  have hn := subI_len hl
  generalize hst : subI u v = st at hs hn
  refine runC_rt rfl ?_
  refine seq_set (far_steps (r := []) hz) ?_
  rw [hst]
  simp only [List.map_cons, List.map_nil, List.cons_append, List.nil_append, List.replicate, List.set_cons_succ, List.set_cons_zero]
  have t1 := way_is w "steps" (by decide)
  have t2 := way_is w "air" (by decide)
  have t3 := way_is w "widest" (by decide)
  have t4 := way_is w "unlike" (by decide)
  have hz' : st.length ≤ 1000000 := by omega
  cases w with
  | steps =>
    refine seq_if1r (by simp [t1, Way.nm]) (run_ret ?_)
    rw [ev_call, ev_cons, over_steps (f := absI) rfl hz' (fun x hx => by simp [gAbs_i, absI])]
    simp only [Option.bind_some, ev_nil, gSum_l]
    rfl
  | air =>
    refine seq_if0 (by simp [t1, Way.nm]) ?_
    refine seq_if1r (by simp [t2, Way.nm]) (run_ret ?_)
    rw [ev_call, ev_cons, over_steps (f := fun x => x * x) rfl hz' (fun x hx => by
      have := hs x hx
      simp [gMul_i (mulOk_l (i := x) (j := x) (by omega) (by omega))])]
    simp only [Option.bind_some, ev_nil, gSum_l]
    rfl
  | widest =>
    refine seq_if0 (by simp [t1, Way.nm]) ?_
    refine seq_if0 (by simp [t2, Way.nm]) ?_
    refine seq_if1r (by simp [t3, Way.nm]) (run_ret ?_)
    rw [ev_call, ev_cons, over_steps (f := absI) rfl hz' (fun x hx => by simp [gAbs_i, absI])]
    have hp : 0 < (st.map absI).length := by
      rw [List.length_map, hn]
      exact hw
    simp only [Option.bind_some, ev_nil]
    exact gMaxA_l _ hp
  | unlike =>
    refine seq_if0 (by simp [t1, Way.nm]) ?_
    refine seq_if0 (by simp [t2, Way.nm]) ?_
    refine seq_if0 (by simp [t3, Way.nm]) ?_
    refine seq_if1r (by simp [t4, Way.nm]) (run_ret ?_)
    rw [ev_call, ev_cons, ev_asL, fLc_filter (enc := D.int) (g := fun _ => D.int 1) (p := fun x => !decide (x = 0)) (xs := st) (by rfl) (by omega) (fun x hx => ⟨_, rfl, by simp, fun _ => rfl⟩)]
    simp [Way.far]
  | weights ws =>
    refine seq_if0 (by simp [t1, Way.nm]) ?_
    refine seq_if0 (by simp [t2, Way.nm]) ?_
    refine seq_if0 (by simp [t3, Way.nm]) ?_
    refine seq_if0 (by simp [t4, Way.nm]) ?_
    have g0 : gIx (Way.weights ws).d (.int 0) = some (sS "weights") := rfl
    have g1 : gIx (Way.weights ws).d (.int 1) = some (intT ws) := rfl
    refine seq_if1r (by simp [g0, h_w]) (run_ret ?_)
    have hf := fLc_map (own := [8, 7]) (it := iZipD (aCons (eOp gIx (bVar 0) (eC (.int 1))) (aCons (bVar 3) aNil))) (t := gTp (gsCons (gNm 8) (gsCons (gNm 7) gsNil))) (c := tYesF) (y := eOp gMul (bVar 8) (eCall gAbs (aCons (bVar 7) aNil))) (env := [.val (Way.weights ws).d, .val (intT u), .val (intT v), .val (.lst (st.map D.int)), .un, .un, .un, .un, .un, .un, .un])
      (enc := fun p : Int × Int => .tup [.int p.1, .int p.2]) (g := fun p => .int (p.1 * absI p.2)) (xs := ws.zip st) (by
        show some (zipL (ws.map D.int) (st.map D.int)) = _
        rw [zipL_ints]) (by rw [List.length_zip]; omega) (fun p hp => by
        have h1 := hw.2 p.1 (List.of_mem_zip hp).1
        refine ⟨_, rfl, rfl, ?_⟩
        simp [gAbs_i, gMul_i (mulOk_l (i := p.1) (j := absI p.2) (by omega) (by omega)), ← absI_eq])
    rw [ev_call, ev_cons, ev_asL, hf, lst_map (f := fun p : Int × Int => p.1 * absI p.2) (fun _ => rfl)]
    simp only [Option.map_some, Option.bind_some, ev_nil, gSum_l]
    unfold Way.far
    rw [List.zip_eq_zipWith, List.map_zipWith]
  | form rows =>
    refine seq_if0 (by simp [t1, Way.nm]) ?_
    refine seq_if0 (by simp [t2, Way.nm]) ?_
    refine seq_if0 (by simp [t3, Way.nm]) ?_
    refine seq_if0 (by simp [t4, Way.nm]) ?_
    have g0 : gIx (Way.form rows).d (.int 0) = some (sS "form") := rfl
    have g1 : gIx (Way.form rows).d (.int 1) = some (.tup (rows.map intT)) := rfl
    refine seq_if0 (by simp [g0, h_f]) ?_
    refine seq_set (d := .tup (rows.map intT)) (by simp [g1]) ?_
    simp only [List.set_cons_succ, List.set_cons_zero]
    refine run_ret ?_
    have hr := ev_rg1 (fl := aCons (eCall gLen (aCons (bVar 3) aNil)) aNil) (env := [.val (Way.form rows).d, .val (intT u), .val (intT v), .val (.lst (st.map D.int)), .val (.tup (rows.map intT)), .un, .un, .un, .un, .un, .un]) (j := st.length) (by simp) (by omega) (by omega)
    have hf := fLc_map (own := [9]) (t := gNm 9) (c := tYesF) (y := eOp gMul (eOp gIx (bVar 3) (bVar 9)) (eCall gSum (aCons (asL (fLc [10, 7] (iZipD (aCons (eOp gIx (bVar 4) (bVar 9)) (aCons (bVar 3) aNil))) (gTp (gsCons (gNm 10) (gsCons (gNm 7) gsNil))) tYesF (eOp gMul (bVar 10) (bVar 7)))) aNil)))
      (g := fun i => D.int (st.getD i.toNat 0 * dotI (rows.getD i.toNat []) st)) hr (by rw [rngN_len]; omega) (fun i hi => by
        obtain ⟨i0, i1⟩ := mem_rngN hi
        have il : i.toNat < st.length := by omega
        have il2 : i.toNat < rows.length := by
          rw [hw.1]
          omega
        refine ⟨_, rfl, rfl, ?_⟩
        have e1 := gIx_li (ns := st) i0 (by omega)
        have e2 := gIx_rows (rows := rows) i0 (by omega)
        have b1 := hs _ (getD_mem 0 il)
        obtain ⟨lr, br⟩ := hw.2 _ (getD_mem [] il2)
        have hin := fLc_map (own := [10, 7]) (it := iZipD (aCons (eOp gIx (bVar 4) (bVar 9)) (aCons (bVar 3) aNil))) (t := gTp (gsCons (gNm 10) (gsCons (gNm 7) gsNil))) (c := tYesF) (y := eOp gMul (bVar 10) (bVar 7)) (env := [.val (Way.form rows).d, .val (intT u), .val (intT v), .val (.lst (st.map D.int)), .val (.tup (rows.map intT)), .un, .un, .un, .un, .val (.int i), .un])
          (enc := fun p : Int × Int => .tup [.int p.1, .int p.2]) (g := fun p => .int (p.1 * p.2)) (xs := (rows.getD i.toNat []).zip st) (by
            unfold iZipD
            simp only [ev_cons, ev_op, ev_bvar, ev_nil, List.getElem?_cons_succ, List.getElem?_cons_zero, Option.bind_some, slB_val, e2]
            show some (zipL ((rows.getD i.toNat []).map D.int) (st.map D.int)) = _
            rw [zipL_ints]) (by rw [List.length_zip]; omega) (fun p hp => by
            have h1 := br p.1 (List.of_mem_zip hp).1
            refine ⟨_, rfl, rfl, ?_⟩
            simp [gMul_i (mulOk_l (i := p.1) (j := p.2) (by omega) (by omega))])
        show (eOp gMul (eOp gIx (bVar 3) (bVar 9)) (eCall gSum (aCons (asL (fLc [10, 7] (iZipD (aCons (eOp gIx (bVar 4) (bVar 9)) (aCons (bVar 3) aNil))) (gTp (gsCons (gNm 10) (gsCons (gNm 7) gsNil))) tYesF (eOp gMul (bVar 10) (bVar 7)))) aNil))) [.val (Way.form rows).d, .val (intT u), .val (intT v), .val (.lst (st.map D.int)), .val (.tup (rows.map intT)), .un, .un, .un, .un, .val (.int i), .un] = _
        rw [ev_op, ev_call, ev_cons, ev_asL, hin, lst_map (f := fun p : Int × Int => p.1 * p.2) (fun _ => rfl)]
        simp only [ev_op, ev_bvar, ev_nil, List.getElem?_cons_succ, List.getElem?_cons_zero, Option.bind_some, Option.map_some, slB_val, e1, gSum_l]
        rw [gMul_i (mulOk_l (by omega) (by omega))]
        unfold dotI
        rw [List.zip_eq_zipWith, List.map_zipWith])
    rw [ev_call, ev_cons, ev_asL, hf, lst_map (f := fun i : Int => st.getD i.toNat 0 * dotI (rows.getD i.toNat []) st) (fun _ => rfl)]
    simp only [Option.map_some, Option.bind_some, ev_nil, gSum_l, Int.toNat_natCast]
    rw [zip_rng (fun x r => x * dotI r st) 0 [] st rows st.length rfl (by rw [hw.1, hn])]
    rfl

/-! the law's own -/
def lastS (ys : List Int) : Sl := match ys.getLast? with
  | none => .un
  | some i => .val (.int i)
theorem lastS_snoc (ys : List Int) (x : Int) : lastS (ys ++ [x]) = .val (.int x) := by simp [lastS]
theorem run_l_far_ok (w : Way) (u v : List Int) (hl : u.length = v.length) (hw : w.ok u.length) (hz : u.length ≤ 1000000) (hu : small u) (hv : small v) : run_l_far [w.d, intT u, intT v] = some (.int (w.far (subI u v))) := by
  have hs := subI_small hu hv
  have hn := subI_len hl
  have h0 : asL (fLc [6] (iRg1 (aCons (eCall gLen (aCons (bVar 1) aNil)) aNil)) (gNm 6) tYesF (eOp gSub (eOp gIx (bVar 1) (bVar 6)) (eOp gIx (bVar 2) (bVar 6)))) [.val w.d, .val (intT u), .val (intT v), .un, .un, .un, .un, .un, .un] = some (.lst ((subI u v).map D.int)) := by
    have hr := ev_rg1 (fl := aCons (eCall gLen (aCons (bVar 1) aNil)) aNil) (env := [.val w.d, .val (intT u), .val (intT v), .un, .un, .un, .un, .un, .un]) (j := u.length) (by simp [intT]) (by omega) (by omega)
    have hf := fLc_map (own := [6]) (t := gNm 6) (c := tYesF) (y := eOp gSub (eOp gIx (bVar 1) (bVar 6)) (eOp gIx (bVar 2) (bVar 6))) (g := fun i => D.int (u.getD i.toNat 0 - v.getD i.toNat 0)) hr (by rw [rngN_len]; omega) (fun i hi => by
      obtain ⟨i0, i1⟩ := mem_rngN hi
      refine ⟨_, rfl, rfl, ?_⟩
      have e1 : gIx (intT u) (.int i) = _ := gIx_ti (ns := u) i0 (by omega)
      have e2 : gIx (intT v) (.int i) = _ := gIx_ti (ns := v) i0 (by omega)
      simp only [ev_op, ev_bvar, wipe_cons, wipe_nil, List.set_cons_succ, List.set_cons_zero, List.getElem?_cons_succ, List.getElem?_cons_zero, Option.bind_some, slB_val, e1, e2, gSub_i])
    rw [ev_asL, hf, lst_map (f := fun i : Int => u.getD i.toNat 0 - v.getD i.toNat 0) (fun _ => rfl), Int.toNat_natCast, zip_rng (fun x y => x - y) 0 0 u v u.length rfl hl.symm]
    rfl
  generalize hst : subI u v = st at hs hn h0
  refine runC_rt rfl ?_
  refine seq_set h0 ?_
  simp only [List.map_cons, List.map_nil, List.cons_append, List.nil_append, List.replicate, List.set_cons_succ, List.set_cons_zero]
  have t1 := way_is w "steps" (by decide)
  have t2 := way_is w "air" (by decide)
  have t3 := way_is w "widest" (by decide)
  have t4 := way_is w "unlike" (by decide)
  have hz' : st.length ≤ 1000000 := by omega
  cases w with
  | steps =>
    refine seq_if1r (by simp [t1, Way.nm]) (run_ret ?_)
    rw [ev_call, ev_cons, over_steps (f := absI) rfl hz' (fun x hx => by simp [gAbs_i, absI])]
    simp only [Option.bind_some, ev_nil, gSum_l]
    rfl
  | air =>
    refine seq_if0 (by simp [t1, Way.nm]) ?_
    refine seq_if1r (by simp [t2, Way.nm]) (run_ret ?_)
    rw [ev_call, ev_cons, over_steps (f := fun x => x * x) rfl hz' (fun x hx => by
      have := hs x hx
      simp [gMul_i (mulOk_l (i := x) (j := x) (by omega) (by omega))])]
    simp only [Option.bind_some, ev_nil, gSum_l]
    rfl
  | widest =>
    refine seq_if0 (by simp [t1, Way.nm]) ?_
    refine seq_if0 (by simp [t2, Way.nm]) ?_
    refine seq_if1r (by simp [t3, Way.nm]) (run_ret ?_)
    rw [ev_call, ev_cons, over_steps (f := absI) rfl hz' (fun x hx => by simp [gAbs_i, absI])]
    have hp : 0 < (st.map absI).length := by
      rw [List.length_map, hn]
      exact hw
    simp only [Option.bind_some, ev_nil]
    exact gMaxA_l _ hp
  | unlike =>
    refine seq_if0 (by simp [t1, Way.nm]) ?_
    refine seq_if0 (by simp [t2, Way.nm]) ?_
    refine seq_if0 (by simp [t3, Way.nm]) ?_
    refine seq_if1r (by simp [t4, Way.nm]) (run_ret ?_)
    rw [ev_call, ev_cons, ev_asL, fLc_filter (enc := D.int) (g := fun x => D.int x) (p := fun x => !decide (x = 0)) (xs := st) (by rfl) (by omega) (fun x hx => ⟨_, rfl, by simp, fun _ => by simp⟩)]
    simp [Way.far]
  | weights ws =>
    refine seq_if0 (by simp [t1, Way.nm]) ?_
    refine seq_if0 (by simp [t2, Way.nm]) ?_
    refine seq_if0 (by simp [t3, Way.nm]) ?_
    refine seq_if0 (by simp [t4, Way.nm]) ?_
    have g0 : gIx (Way.weights ws).d (.int 0) = some (sS "weights") := rfl
    have g1 : gIx (Way.weights ws).d (.int 1) = some (intT ws) := rfl
    refine seq_if1r (by simp [g0, h_w]) (run_ret ?_)
    have hr := ev_rg1 (fl := aCons (eCall gLen (aCons (bVar 1) aNil)) aNil) (env := [.val (Way.weights ws).d, .val (intT u), .val (intT v), .val (.lst (st.map D.int)), .un, .un, .un, .un, .un]) (j := u.length) (by simp [intT]) (by omega) (by omega)
    have hf := fLc_map (own := [6]) (t := gNm 6) (c := tYesF) (y := eOp gMul (eOp gIx (eOp gIx (bVar 0) (eC (.int 1))) (bVar 6)) (eCall gAbs (aCons (eOp gIx (bVar 3) (bVar 6)) aNil))) (g := fun i => D.int (ws.getD i.toNat 0 * absI (st.getD i.toNat 0))) hr (by rw [rngN_len]; omega) (fun i hi => by
      obtain ⟨i0, i1⟩ := mem_rngN hi
      have lw : i.toNat < ws.length := by
        rw [hw.1]
        omega
      refine ⟨_, rfl, rfl, ?_⟩
      have e1 : gIx (intT ws) (.int i) = _ := gIx_ti (ns := ws) i0 (by omega)
      have e2 := gIx_li (ns := st) i0 (by omega)
      have b1 := hw.2 _ (getD_mem 0 lw)
      simp only [ev_op, ev_call, ev_cons, ev_nil, ev_c, ev_bvar, wipe_cons, wipe_nil, List.set_cons_succ, List.set_cons_zero, List.getElem?_cons_succ, List.getElem?_cons_zero, Option.bind_some, slB_val, g1, e1, e2, gAbs_i, ← absI_eq]
      rw [gMul_i (mulOk_l (by omega) (by omega))])
    rw [ev_call, ev_cons, ev_asL, hf, lst_map (f := fun i : Int => ws.getD i.toNat 0 * absI (st.getD i.toNat 0)) (fun _ => rfl)]
    simp only [Option.map_some, Option.bind_some, ev_nil, gSum_l, Int.toNat_natCast]
    rw [zip_rng (fun x y => x * absI y) 0 0 ws st u.length hw.1 hn]
    rfl
  | form rows =>
    refine seq_if0 (by simp [t1, Way.nm]) ?_
    refine seq_if0 (by simp [t2, Way.nm]) ?_
    refine seq_if0 (by simp [t3, Way.nm]) ?_
    refine seq_if0 (by simp [t4, Way.nm]) ?_
    have g0 : gIx (Way.form rows).d (.int 0) = some (sS "form") := rfl
    have g1 : gIx (Way.form rows).d (.int 1) = some (.tup (rows.map intT)) := rfl
    refine seq_if0 (by simp [g0, h_f]) ?_
    refine seq_set (d := .int 0) rfl ?_
    simp only [List.set_cons_succ, List.set_cons_zero]
    have hr := ev_rg1 (fl := aCons (eCall gLen (aCons (bVar 1) aNil)) aNil) (env := [.val (Way.form rows).d, .val (intT u), .val (intT v), .val (.lst (st.map D.int)), .val (.int 0), .un, .un, .un, .un]) (j := u.length) (by simp [intT]) (by omega) (by omega)
    rw [Int.toNat_natCast] at hr
    refine seq_for (fun ys => [.val (Way.form rows).d, .val (intT u), .val (intT v), .val (.lst (st.map D.int)), .val (.int (ys.map fun i : Int => st.getD i.toNat 0 * dotI (rows.getD i.toNat []) st).sum), lastS ys, .un, .un, .un]) hr rfl (fun ys i zs hi => ?_) ?_
    · have him : i ∈ rngN u.length := by
        rw [hi]
        simp
      obtain ⟨i0, i1⟩ := mem_rngN him
      have il : i.toNat < st.length := by omega
      have il2 : i.toNat < rows.length := by
        rw [hw.1]
        omega
      have e1 := gIx_li (ns := st) i0 (by omega)
      have e2 := gIx_rows (rows := rows) i0 (by omega)
      have b1 := hs _ (getD_mem 0 il)
      obtain ⟨lr, br⟩ := hw.2 _ (getD_mem [] il2)
      refine ⟨[.val (Way.form rows).d, .val (intT u), .val (intT v), .val (.lst (st.map D.int)), .val (.int (ys.map fun i : Int => st.getD i.toNat 0 * dotI (rows.getD i.toNat []) st).sum), .val (.int i), .un, .un, .un], rfl, .inl ?_⟩
      have hr2 := ev_rg1 (fl := aCons (eCall gLen (aCons (bVar 1) aNil)) aNil) (env := [.val (Way.form rows).d, .val (intT u), .val (intT v), .val (.lst (st.map D.int)), .val (.int (ys.map fun i : Int => st.getD i.toNat 0 * dotI (rows.getD i.toNat []) st).sum), .val (.int i), .un, .un, .un]) (j := u.length) (by simp [intT]) (by omega) (by omega)
      have hf := fLc_map (own := [8]) (t := gNm 8) (c := tYesF) (y := eOp gMul (eOp gIx (eOp gIx (eOp gIx (bVar 0) (eC (.int 1))) (bVar 5)) (bVar 8)) (eOp gIx (bVar 3) (bVar 8))) (g := fun j => D.int ((rows.getD i.toNat []).getD j.toNat 0 * st.getD j.toNat 0)) hr2 (by rw [rngN_len]; omega) (fun j hj => by
        obtain ⟨j0, j1⟩ := mem_rngN hj
        have jl : j.toNat < (rows.getD i.toNat []).length := by
          rw [lr]
          omega
        refine ⟨_, rfl, rfl, ?_⟩
        have e3 : gIx (intT (rows.getD i.toNat [])) (.int j) = _ := gIx_ti j0 (by omega)
        have e4 := gIx_li (ns := st) j0 (by omega)
        have b2 := br _ (getD_mem 0 jl)
        simp only [ev_op, ev_c, ev_bvar, wipe_cons, wipe_nil, List.set_cons_succ, List.set_cons_zero, List.getElem?_cons_succ, List.getElem?_cons_zero, Option.bind_some, slB_val, g1, e2, e3, e4]
        rw [gMul_i (mulOk_l (by omega) (by omega))])
      rw [Int.toNat_natCast] at hf
      rw [lst_map (f := fun j : Int => (rows.getD i.toNat []).getD j.toNat 0 * st.getD j.toNat 0) (fun _ => rfl), zip_rng (fun x y => x * y) 0 0 (rows.getD i.toNat []) st u.length lr hn] at hf
      rw [run_set (d := .int ((ys.map fun i : Int => st.getD i.toNat 0 * dotI (rows.getD i.toNat []) st).sum + st.getD i.toNat 0 * dotI (rows.getD i.toNat []) st)) (by
        rw [ev_op, ev_op, ev_call, ev_cons, ev_asL, hf]
        simp only [ev_op, ev_bvar, ev_nil, List.getElem?_cons_succ, List.getElem?_cons_zero, Option.bind_some, Option.map_some, slB_val, e1, gSum_l]
        rw [gMul_i (mulOk_l (by omega) (by omega))]
        rfl)]
      rw [lastS_snoc, List.map_append, List.sum_append]
      simp
    · refine run_ret ?_
      simp only [ev_var, List.getElem?_cons_succ, List.getElem?_cons_zero, Option.bind_some, slV_val]
      rw [zip_rng (fun x r => x * dotI r st) 0 [] st rows u.length hn hw.1]
      rfl
end PD

set_option Elab.async false
set_option linter.all false
set_option maxRecDepth 100000
namespace PD
open PySem L2
/-! ### a way that is drawn -/
def b_l_way : Cmd :=
    (sSeq (sSet 3 (eOp gMod (eCall gInt (aCons (eOp gIx (bVar 0) (bVar 1)) aNil)) (eC (.int 6))))
    (sSeq (sIf (asB (eOp gEq (bVar 3) (eC (.int 4))))
    (sRet (eTup (aCons (eC (.str (PySem.Str.ofString "weights"))) (aCons (eCall gTuple (aCons (asL (fLc [6] (iRg1 (aCons (bVar 2) aNil)) (gNm 6) tYesF (eOp gAdd (eC (.int 1)) (eOp gMod (eCall gInt (aCons (eOp gIx (bVar 0) (eOp gAdd (eOp gAdd (bVar 1) (eC (.int 1))) (bVar 6))) aNil)) (eC (.int 5)))))) aNil)) aNil))))
    sNop)
    (sSeq (sIf (asB (eOp gEq (bVar 3) (eC (.int 5))))
    (sSeq (sSetO 4 (fun env => (aNil env).bind fun ds => if lim ds.length then some ds else none))
    (sSeq (sFor (iRg1 (aCons (bVar 2) aNil)) (gNm 5)
    (sApp 4 (eCall gTuple (aCons (asL (fLc [6] (iRg1 (aCons (bVar 2) aNil)) (gNm 6) tYesF (eOp gAdd (eOp gMul (eOp gAdd (eOp gMod (eCall gInt (aCons (eOp gIx (bVar 0) (eOp gAdd (eOp gAdd (bVar 1) (eC (.int 1))) (bVar 5))) aNil)) (eC (.int 3))) (eC (.int 4))) (eCall gInt (aCons (eOp gEq (bVar 5) (bVar 6)) aNil))) (eOp gMul (eOp gSub (eOp gMod (eCall gInt (aCons (eOp gIx (bVar 0) (eOp gAdd (bVar 1) (eC (.int 4)))) aNil)) (eC (.int 3))) (eC (.int 1))) (eCall gInt (aCons (eOp gNe (bVar 5) (bVar 6)) aNil)))))) aNil))))
    (sRet (eTup (aCons (eC (.str (PySem.Str.ofString "form"))) (aCons (eCall gTuple (aCons (bVar 4) aNil)) aNil))))))
    sNop)
    (sRet (eOp gIx (eTup (aCons (eC (.str (PySem.Str.ofString "steps"))) (aCons (eC (.str (PySem.Str.ofString "air"))) (aCons (eC (.str (PySem.Str.ofString "widest"))) (aCons (eC (.str (PySem.Str.ofString "unlike"))) aNil))))) (bVar 3))))))
def run_l_way : List D → Option D := runC 3 4 b_l_way
def b_l_cloud : Cmd :=
    (sSeq (sSetO 5 (fun env => (aNil env).bind fun ds => if lim ds.length then some ds else none))
    (sSeq (sFor (iRg1 (aCons (eOp gMod (eCall gInt (aCons (eOp gIx (bVar 0) (bVar 1)) aNil)) (eOp gAdd (bVar 2) (eC (.int 1)))) aNil)) (gNm 6)
    (sApp 5 (eCall gTuple (aCons (asL (fLc [7] (iRg1 (aCons (bVar 3) aNil)) (gNm 7) tYesF (eOp gSub (eOp gMod (eCall gInt (aCons (eOp gIx (bVar 0) (eOp gAdd (eOp gAdd (eOp gAdd (bVar 1) (eC (.int 1))) (eOp gMul (eC (.int 3)) (bVar 6))) (bVar 7))) aNil)) (eOp gAdd (eOp gMul (eC (.int 2)) (bVar 4)) (eC (.int 1)))) (bVar 4)))) aNil))))
    (sRet (eCall gTuple (aCons (bVar 5) aNil)))))
def run_l_cloud : List D → Option D := runC 5 3 b_l_cloud
/-- the numbers that a law draws -/
def Row (row : List Int) : Prop := ∀ x ∈ row, 0 ≤ x ∧ x < 1000003
theorem Row.at {row : List Int} (h : Row row) (i : Nat) : 0 ≤ row.getD i 0 ∧ row.getD i 0 < 1000003 := by
  by_cases hi : i < row.length
  · exact h _ (getD_mem 0 hi)
  · simp [List.getD, List.getElem?_eq_none (by omega : row.length ≤ i)]
def formR (ds : List Int) (t : Int) : List (List Int) := (rngN ds.length).map fun i => (rngN ds.length).map fun j => if i = j then ds.getD i.toNat 0 else t
def Way.good (n : Nat) : Way → Prop
  | .weights ws => ws.length = n ∧ ∀ w ∈ ws, 1 ≤ w ∧ w ≤ 5
  | .form rows => ∃ ds t, ds.length = n ∧ (∀ d ∈ ds, 4 ≤ d ∧ d ≤ 6) ∧ -1 ≤ t ∧ t ≤ 1 ∧ rows = formR ds t
  | _ => 0 < n
theorem Way.good_ok {n : Nat} {w : Way} (h : w.good n) (hn : 0 < n) : w.ok n := by
  cases w with
  | weights ws => exact ⟨h.1, fun x hx => by have := h.2 x hx; omega⟩
  | form rows =>
    obtain ⟨ds, t, h1, h2, h3, h4, rfl⟩ := h
    refine ⟨by simp [formR, rngN_len, h1], fun r hr => ?_⟩
    obtain ⟨i, hi, rfl⟩ := List.mem_map.mp hr
    refine ⟨by simp [rngN_len, h1], fun x hx => ?_⟩
    obtain ⟨j, hj, rfl⟩ := List.mem_map.mp hx
    obtain ⟨i0, i1⟩ := mem_rngN hi
    have := h2 _ (getD_mem 0 (show i.toNat < ds.length by omega))
    split <;> omega
  | widest => exact hn
  | _ => trivial
theorem wayIx {k : Int} (h0 : 0 ≤ k) (h1 : k < 4) : ∃ w : Way, gIx (.tup [sS "steps", sS "air", sS "widest", sS "unlike"]) (.int k) = some w.d ∧ ∀ n, 0 < n → w.good n := by
  have : k = 0 ∨ k = 1 ∨ k = 2 ∨ k = 3 := by omega
  rcases this with rfl | rfl | rfl | rfl
  · exact ⟨.steps, rfl, fun n h => h⟩
  · exact ⟨.air, rfl, fun n h => h⟩
  · exact ⟨.widest, rfl, fun n h => h⟩
  · exact ⟨.unlike, rfl, fun n h => h⟩
theorem gNe_i' {i j : Int} : gNe (.int i) (.int j) = some (.bl (!decide (i = j))) := gNe_i
theorem run_way (row : List Int) (a : Nat) (n : Nat) (hr : a + 5 ≤ row.length) (hz : row.length ≤ 1000000) (hn : 0 < n) (hn2 : a + 1 + n ≤ row.length) : ∃ w : Way, run_l_way [.lst (row.map D.int), .int a, .int n] = some w.d ∧ w.good n := by
  have e0 := gIx_li (ns := row) (i := (a : Int)) (by omega) (by omega)
  have b0 := mod_lt (a := row.getD (a : Int).toNat 0) (b := 6) (by omega)
  generalize hk : row.getD (a : Int).toNat 0 % 6 = k at b0
  have hrg : ∀ env : List Sl, env[2]? = some (.val (.int n)) → iRg1 (aCons (bVar 2) aNil) env = some ((rngN n).map D.int) := fun env h => by
    have := ev_rg1 (fl := aCons (bVar 2) aNil) (env := env) (j := n) (by simp [h]) (by omega) (by omega)
    rw [this, Int.toNat_natCast]
  have k0 : eOp gMod (eCall gInt (aCons (eOp gIx (bVar 0) (bVar 1)) aNil)) (eC (.int 6)) [.val (.lst (row.map D.int)), .val (.int a), .val (.int n), .un, .un, .un, .un] = some (.int k) := by
    simp only [ev_op, ev_call, ev_cons, ev_nil, ev_c, ev_bvar, List.getElem?_cons_succ, List.getElem?_cons_zero, Option.bind_some, slB_val, e0, gInt_i, gMod_i (i := row.getD (a : Int).toNat 0) (show (0:Int) < 6 by omega), hk]
  by_cases h4 : k = 4
  · refine ⟨.weights ((rngN n).map fun j => 1 + row.getD ((a : Int) + 1 + j).toNat 0 % 5), ?_, by simp [rngN_len], fun w hw => ?_⟩
    · refine runC_rt rfl ?_
      refine seq_set (d := .int k) k0 ?_
      refine seq_if1r (by simp [h4]) (run_ret ?_)
      have hf := fLc_map (own := [6]) (t := gNm 6) (c := tYesF) (y := eOp gAdd (eC (.int 1)) (eOp gMod (eCall gInt (aCons (eOp gIx (bVar 0) (eOp gAdd (eOp gAdd (bVar 1) (eC (.int 1))) (bVar 6))) aNil)) (eC (.int 5)))) (g := fun j => D.int (1 + row.getD ((a : Int) + 1 + j).toNat 0 % 5)) (hrg [.val (.lst (row.map D.int)), .val (.int a), .val (.int n), .val (.int k), .un, .un, .un] rfl) (by rw [rngN_len]; omega) (fun j hj => by
        obtain ⟨j0, j1⟩ := mem_rngN hj
        refine ⟨_, rfl, rfl, ?_⟩
        have e1 := gIx_li (ns := row) (i := (a : Int) + 1 + j) (by omega) (by omega)
        simp only [ev_op, ev_call, ev_cons, ev_nil, ev_c, ev_bvar, wipe_cons, wipe_nil, List.set_cons_succ, List.set_cons_zero, List.getElem?_cons_succ, List.getElem?_cons_zero, Option.bind_some, slB_val, gAdd_i, e1, gInt_i, gMod_i (show (0:Int) < 5 by omega)])
      show eTup (aCons (eC (.str (PySem.Str.ofString "weights"))) (aCons (eCall gTuple (aCons (asL (fLc [6] (iRg1 (aCons (bVar 2) aNil)) (gNm 6) tYesF (eOp gAdd (eC (.int 1)) (eOp gMod (eCall gInt (aCons (eOp gIx (bVar 0) (eOp gAdd (eOp gAdd (bVar 1) (eC (.int 1))) (bVar 6))) aNil)) (eC (.int 5)))))) aNil)) aNil)) [.val (.lst (row.map D.int)), .val (.int a), .val (.int n), .val (.int k), .un, .un, .un] = _
      unfold eTup
      rw [ev_cons, ev_cons, ev_call, ev_cons, ev_asL, hf, lst_map (f := fun j : Int => 1 + row.getD ((a : Int) + 1 + j).toNat 0 % 5) (fun _ => rfl)]
      rfl
    · obtain ⟨j, hj, rfl⟩ := List.mem_map.mp hw
      have := mod_lt (a := row.getD ((a : Int) + 1 + j).toNat 0) (b := 5) (by omega)
      omega
  · by_cases h5 : k = 5
    · have et := gIx_li (ns := row) (i := (a : Int) + 4) (by omega) (by omega)
      refine ⟨.form (formR ((rngN n).map fun i => row.getD ((a : Int) + 1 + i).toNat 0 % 3 + 4) (row.getD ((a : Int) + 4).toNat 0 % 3 - 1)), ?_, _, _, by simp [rngN_len], fun d hd => ?_, ?_, ?_, rfl⟩
      · refine runC_rt rfl ?_
        refine seq_set (d := .int k) k0 ?_
        refine seq_if0 (by simp [h4]) ?_
        refine seq_if1r (by simp [h5]) ?_
        refine seq_setO (ds := []) rfl ?_
        simp only [List.map_cons, List.map_nil, List.cons_append, List.nil_append, List.replicate, List.set_cons_succ, List.set_cons_zero]
        refine seq_for (fun ys => [.val (.lst (row.map D.int)), .val (.int a), .val (.int n), .val (.int k), .own (ys.map fun i => intT ((rngN n).map fun j => (row.getD ((a : Int) + 1 + i).toNat 0 % 3 + 4) * (if i = j then 1 else 0) + (row.getD ((a : Int) + 4).toNat 0 % 3 - 1) * (if i = j then 0 else 1))), lastS ys, .un]) (hrg _ rfl) rfl (fun ys i zs hi => ?_) ?_
        · have him : i ∈ rngN n := by
            rw [hi]
            simp
          have hyl : ys.length < n := by
            have := congrArg List.length hi
            rw [rngN_len, List.length_append, List.length_cons] at this
            omega
          obtain ⟨i0, i1⟩ := mem_rngN him
          refine ⟨_, rfl, .inl ?_⟩
          have e1 := gIx_li (ns := row) (i := (a : Int) + 1 + i) (by omega) (by omega)
          have hf := fLc_map (own := [6]) (t := gNm 6) (c := tYesF) (y := eOp gAdd (eOp gMul (eOp gAdd (eOp gMod (eCall gInt (aCons (eOp gIx (bVar 0) (eOp gAdd (eOp gAdd (bVar 1) (eC (.int 1))) (bVar 5))) aNil)) (eC (.int 3))) (eC (.int 4))) (eCall gInt (aCons (eOp gEq (bVar 5) (bVar 6)) aNil))) (eOp gMul (eOp gSub (eOp gMod (eCall gInt (aCons (eOp gIx (bVar 0) (eOp gAdd (bVar 1) (eC (.int 4)))) aNil)) (eC (.int 3))) (eC (.int 1))) (eCall gInt (aCons (eOp gNe (bVar 5) (bVar 6)) aNil))))
            (g := fun j => D.int ((row.getD ((a : Int) + 1 + i).toNat 0 % 3 + 4) * (if i = j then 1 else 0) + (row.getD ((a : Int) + 4).toNat 0 % 3 - 1) * (if i = j then 0 else 1)))
            (hrg [.val (.lst (row.map D.int)), .val (.int a), .val (.int n), .val (.int k), .own (ys.map fun i => intT ((rngN n).map fun j => (row.getD ((a : Int) + 1 + i).toNat 0 % 3 + 4) * (if i = j then 1 else 0) + (row.getD ((a : Int) + 4).toNat 0 % 3 - 1) * (if i = j then 0 else 1))), .val (.int i), .un] rfl) (by rw [rngN_len]; omega) (fun j hj => by
            refine ⟨_, rfl, rfl, ?_⟩
            simp only [ev_op, ev_call, ev_cons, ev_nil, ev_c, ev_bvar, wipe_cons, wipe_nil, List.set_cons_succ, List.set_cons_zero, List.getElem?_cons_succ, List.getElem?_cons_zero, Option.bind_some, slB_val, gAdd_i, gSub_i, e1, et, gInt_i, gMod_i (show (0:Int) < 3 by omega), gEq_i, gNe_i, gInt_b]
            have bq := mod_lt (a := row.getD ((a : Int) + 1 + i).toNat 0) (b := 3) (by omega)
            have bt := mod_lt (a := row.getD ((a : Int) + 4).toNat 0) (b := 3) (by omega)
            by_cases hij : i = j
            · simp only [hij, decide_true, Bool.not_true, if_true, Bool.false_eq_true, if_false]
              rw [hij] at bq
              rw [gMul_i (mulOk_l (by omega) (by omega)), gMul_i (mulOk_l (by omega) (by omega))]
              rfl
            · simp only [hij, decide_false, Bool.not_false, if_true, Bool.false_eq_true, if_false]
              rw [gMul_i (mulOk_l (by omega) (by omega)), gMul_i (mulOk_l (by omega) (by omega))]
              rfl)
          have hap := run_app (i := 4) (env := [.val (.lst (row.map D.int)), .val (.int a), .val (.int n), .val (.int k), .own (ys.map fun i => intT ((rngN n).map fun j => (row.getD ((a : Int) + 1 + i).toNat 0 % 3 + 4) * (if i = j then 1 else 0) + (row.getD ((a : Int) + 4).toNat 0 % 3 - 1) * (if i = j then 0 else 1))), .val (.int i), .un])
            (f := eCall gTuple (aCons (asL (fLc [6] (iRg1 (aCons (bVar 2) aNil)) (gNm 6) tYesF (eOp gAdd (eOp gMul (eOp gAdd (eOp gMod (eCall gInt (aCons (eOp gIx (bVar 0) (eOp gAdd (eOp gAdd (bVar 1) (eC (.int 1))) (bVar 5))) aNil)) (eC (.int 3))) (eC (.int 4))) (eCall gInt (aCons (eOp gEq (bVar 5) (bVar 6)) aNil))) (eOp gMul (eOp gSub (eOp gMod (eCall gInt (aCons (eOp gIx (bVar 0) (eOp gAdd (bVar 1) (eC (.int 4)))) aNil)) (eC (.int 3))) (eC (.int 1))) (eCall gInt (aCons (eOp gNe (bVar 5) (bVar 6)) aNil)))))) aNil))
            (d := intT ((rngN n).map fun j => (row.getD ((a : Int) + 1 + i).toNat 0 % 3 + 4) * (if i = j then 1 else 0) + (row.getD ((a : Int) + 4).toNat 0 % 3 - 1) * (if i = j then 0 else 1))) (by
              rw [ev_call, ev_cons, ev_asL, hf, lst_map (f := fun j : Int => (row.getD ((a : Int) + 1 + i).toNat 0 % 3 + 4) * (if i = j then 1 else 0) + (row.getD ((a : Int) + 4).toNat 0 % 3 - 1) * (if i = j then 0 else 1)) (fun _ => rfl)]
              rfl) rfl (by rw [List.length_map]; omega)
          refine hap.trans ?_
          rw [lastS_snoc, List.map_append]
          rfl
        · refine run_ret ?_
          unfold eTup
          simp only [ev_cons, ev_c, ev_call, ev_bvar, ev_nil, List.getElem?_cons_succ, List.getElem?_cons_zero, Option.bind_some, slB_own, gTuple_l]
          have e : (rngN n).map (fun i => intT ((rngN n).map fun j => (row.getD ((a : Int) + 1 + i).toNat 0 % 3 + 4) * (if i = j then 1 else 0) + (row.getD ((a : Int) + 4).toNat 0 % 3 - 1) * (if i = j then 0 else 1))) = (formR ((rngN n).map fun i => row.getD ((a : Int) + 1 + i).toNat 0 % 3 + 4) (row.getD ((a : Int) + 4).toNat 0 % 3 - 1)).map intT := by
            unfold formR
            rw [List.map_map, List.length_map, rngN_len]
            apply List.map_congr_left
            intro i hi
            show intT _ = intT _
            congr 1
            apply List.map_congr_left
            intro j hj
            obtain ⟨i0, i1⟩ := mem_rngN hi
            by_cases hij : i = j
            · simp only [hij, if_true, Int.mul_one, Int.mul_zero, Int.add_zero]
              rw [hij] at i0 i1
              have hl : j.toNat < n := by omega
              unfold rngN
              simp [List.getD, hl, Int.toNat_of_nonneg i0]
            · simp only [hij, if_false, Int.mul_one, Int.mul_zero, Int.zero_add]
          rw [e]
          rfl
      · obtain ⟨j, hj, rfl⟩ := List.mem_map.mp hd
        have := mod_lt (a := row.getD ((a : Int) + 1 + j).toNat 0) (b := 3) (by omega)
        omega
      · have := mod_lt (a := row.getD ((a : Int) + 4).toNat 0) (b := 3) (by omega)
        omega
      · have := mod_lt (a := row.getD ((a : Int) + 4).toNat 0) (b := 3) (by omega)
        omega
    · obtain ⟨w, hw, hg⟩ := wayIx (k := k) b0.1 (by omega)
      refine ⟨w, ?_, hg n hn⟩
      refine runC_rt rfl ?_
      refine seq_set (d := .int k) k0 ?_
      refine seq_if0 (by simp [h4]) ?_
      refine seq_if0 (by simp [h5]) ?_
      exact run_ret hw
end PD

set_option Elab.async false
set_option linter.all false
set_option maxRecDepth 100000
namespace PD
open PySem L2
/-! ### sorted pairs; the nearest of a shelf -/
def b_told_pairs : Cmd :=
    (sRet (asL (fCall gSortA (aCons (asL (fLc [3, 4, 5] (iSeq (bVar 0)) (gTp (gsCons (gNm 3) (gsCons (gNm 4) (gsCons (gNm 5) gsNil)))) tYesF (eTup (aCons (eFn run_far (aCons (eVar 2) (aCons (eVar 1) (aCons (eVar 4) aNil)))) (aCons (eVar 3) aNil))))) aNil))))
def run_told_pairs : List D → Option D := runC 3 3 b_told_pairs
def b_nearest : Cmd :=
    (sRet (eCall gTuple (aCons (eSl (eFn run_told_pairs (aCons (eVar 0) (aCons (eVar 1) (aCons (eVar 2) aNil)))) oNo (oYes (bVar 3))) aNil)))
def run_nearest : List D → Option D := runC 4 0 b_nearest
def pairD (p : Int × Int) : D := .tup [.int p.1, .int p.2]
def leP (p q : Int × Int) : Bool := decide (p.1 < q.1 ∨ (p.1 = q.1 ∧ p.2 ≤ q.2))
def sortP (ps : List (Int × Int)) : List (Int × Int) := ps.mergeSort leP
theorem leD_pair (p q : Int × Int) : leD (pairD p) (pairD q) = leP p q := by
  have h := PySem.W.dataLe_ii (β := Int × Int) (fun b => b.1) (fun b => b.2)
  exact congrFun (congrFun h p) q
theorem sortD_pair (ps : List (Int × Int)) : sortD (ps.map pairD) = (sortP ps).map pairD := by
  unfold sortD sortP
  rw [List.map_mergeSort]
  intro a _ b _
  exact (leD_pair a b).symm
theorem sortOk_pair (ps : List (Int × Int)) : sortOk (ps.map pairD) = true := by
  unfold sortOk
  simp only [Bool.and_eq_true, Bool.or_eq_true, List.all_eq_true]
  refine ⟨⟨fun x hx => ?_, .inl fun x hx => ?_⟩, fun x hx y hy => ?_⟩
  · obtain ⟨p, _, rfl⟩ := List.mem_map.mp hx
    rfl
  · obtain ⟨p, _, rfl⟩ := List.mem_map.mp hx
    rfl
  · obtain ⟨p, _, rfl⟩ := List.mem_map.mp hx
    obtain ⟨q, _, rfl⟩ := List.mem_map.mp hy
    simp [alikeD, pairD, py, pyL, PySem.W.alike, PySem.W.alikeAll]
theorem gSortA_pair (ps : List (Int × Int)) : gSortA [.lst (ps.map pairD)] = some ((sortP ps).map pairD) := by
  cases ps with
  | nil =>
    show some ((sortI []).map D.int) = some ((sortP []).map pairD)
    simp [sortI, sortP]
  | cons p ps =>
    have h : gSortA [.lst ((p :: ps).map pairD)] = if sortOk ((p :: ps).map pairD) then some (sortD ((p :: ps).map pairD)) else none := rfl
    rw [h, sortOk_pair, if_pos rfl, sortD_pair]
theorem okL_pair (n : Nat) (p : Int × Int) : okL (n + 2) (pairD p) = true := by
  simp [okL, pairD, lim]
theorem okL_pairs (n : Nat) (ps : List (Int × Int)) (h : ps.length ≤ 16777216) : okL (n + 3) (.tup (ps.map pairD)) = true := by
  simp only [okL, Bool.and_eq_true, List.all_eq_true]
  refine ⟨fun x hx => ?_, by simpa [lim] using h⟩
  obtain ⟨p, _, rfl⟩ := List.mem_map.mp hx
  exact okL_pair n p
/-- a key, a vector, a tag -/
structure It3 where
  key : Int
  vec : List Int
  tag : Int
def It3.d (x : It3) : D := .tup [.int x.key, intT x.vec, .int x.tag]
def pairsOf (w : Way) (u : List Int) (xs : List It3) : List (Int × Int) := xs.map fun x => (w.far (subI u x.vec), x.key)
theorem run_told (w : Way) (u : List Int) (xs : List It3) (hw : w.ok u.length) (hz : u.length ≤ 1000000) (hu : small u) (hx : ∀ x ∈ xs, x.vec.length = u.length ∧ small x.vec) (hn : xs.length ≤ 16777216) :
    run_told_pairs [.tup (xs.map It3.d), intT u, w.d] = some (.lst ((sortP (pairsOf w u xs)).map pairD)) := by
  refine runC_rt rfl (run_ret ?_)
  have hf := fLc_map (own := [3, 4, 5]) (it := iSeq (bVar 0)) (t := gTp (gsCons (gNm 3) (gsCons (gNm 4) (gsCons (gNm 5) gsNil)))) (c := tYesF) (y := eTup (aCons (eFn run_far (aCons (eVar 2) (aCons (eVar 1) (aCons (eVar 4) aNil)))) (aCons (eVar 3) aNil)))
    (env := [.val (.tup (xs.map It3.d)), .val (intT u), .val w.d, .un, .un, .un]) (enc := It3.d) (g := fun x => pairD (w.far (subI u x.vec), x.key)) (xs := xs) rfl hn (fun x hm => by
      obtain ⟨h1, h2⟩ := hx x hm
      refine ⟨[.val (.tup (xs.map It3.d)), .val (intT u), .val w.d, .val (.int x.key), .val (intT x.vec), .val (.int x.tag)], rfl, rfl, ?_⟩
      have := run_far_ok w u x.vec h1.symm hw hz hu h2
      unfold eTup
      simp only [ev_cons, ev_fn, ev_var, ev_nil, List.getElem?_cons_succ, List.getElem?_cons_zero, Option.bind_some, slV_val, this]
      rfl)
  show asL (fCall gSortA (aCons (asL (fLc [3, 4, 5] (iSeq (bVar 0)) (gTp (gsCons (gNm 3) (gsCons (gNm 4) (gsCons (gNm 5) gsNil)))) tYesF (eTup (aCons (eFn run_far (aCons (eVar 2) (aCons (eVar 1) (aCons (eVar 4) aNil)))) (aCons (eVar 3) aNil))))) aNil)) [.val (.tup (xs.map It3.d)), .val (intT u), .val w.d, .un, .un, .un] = _
  rw [ev_asL, ev_fcall, ev_cons, ev_asL, hf]
  have e : xs.map (fun x => pairD (w.far (subI u x.vec), x.key)) = (pairsOf w u xs).map pairD := by
    unfold pairsOf
    rw [List.map_map]
    rfl
  rw [e]
  simp only [Option.map_some, Option.bind_some, ev_nil, gSortA_pair]
theorem run_near (w : Way) (u : List Int) (xs : List It3) (k : Int) (hw : w.ok u.length) (hz : u.length ≤ 1000000) (hu : small u) (hx : ∀ x ∈ xs, x.vec.length = u.length ∧ small x.vec) (hn : xs.length ≤ 16777216) :
    run_nearest [.tup (xs.map It3.d), intT u, w.d, .int k] = some (.tup (cutD ((sortP (pairsOf w u xs)).map pairD) none (some k))) := by
  refine runC_rt rfl (run_ret ?_)
  have := run_told w u xs hw hz hu hx hn
  show (eCall gTuple (aCons (eSl (eFn run_told_pairs (aCons (eVar 0) (aCons (eVar 1) (aCons (eVar 2) aNil)))) oNo (oYes (bVar 3))) aNil)) [.val (.tup (xs.map It3.d)), .val (intT u), .val w.d, .val (.int k)] = _
  have hs : eSl (eFn run_told_pairs (aCons (eVar 0) (aCons (eVar 1) (aCons (eVar 2) aNil)))) oNo (oYes (bVar 3)) [.val (.tup (xs.map It3.d)), .val (intT u), .val w.d, .val (.int k)] = some (.lst (cutD ((sortP (pairsOf w u xs)).map pairD) none (some k))) := by
    unfold eSl
    simp only [ev_cons, ev_fn, ev_var, ev_nil, List.getElem?_cons_succ, List.getElem?_cons_zero, Option.bind_some, slV_val, this]
    rfl
  rw [ev_call, ev_cons, hs]
  rfl
theorem cutD_map {α β : Type} (f : α → β) (xs : List α) (lo hi : Option Int) : cutD (xs.map f) lo hi = (cutD xs lo hi).map f := by
  unfold cutD
  rw [List.length_map, List.map_take, List.map_drop]
theorem cutD_len {α : Type} (xs : List α) (lo hi : Option Int) : (cutD xs lo hi).length ≤ xs.length := by
  unfold cutD
  rw [List.length_take, List.length_drop]
  omega
end PD

set_option Elab.async false
set_option linter.all false
set_option maxRecDepth 100000
namespace PD
open PySem L2
/-! ### comprehensions as maps: the form that simp walks into -/
def fltM {α : Type} (C : α → Option Bool) (F : α → Option D) : List α → Option (List D)
  | [] => some []
  | x :: r => (C x).bind fun k => if k then (F x).bind fun d => (fltM C F r).map (d :: ·) else fltM C F r
theorem fltM_congr {α : Type} {C C' : α → Option Bool} {F F' : α → Option D} : ∀ (xs : List α), (∀ x ∈ xs, C x = C' x) → (∀ x ∈ xs, C' x = some true → F x = F' x) → fltM C F xs = fltM C' F' xs
  | [], _, _ => rfl
  | x :: r, h1, h2 => by
    show (C x).bind _ = (C' x).bind _
    rw [h1 x List.mem_cons_self, fltM_congr r (fun y hy => h1 y (List.mem_cons_of_mem _ hy)) fun y hy => h2 y (List.mem_cons_of_mem _ hy)]
    cases h : C' x with
    | none => rfl
    | some k =>
      cases k with
      | false => rfl
      | true =>
        show (F x).bind _ = (F' x).bind _
        rw [h2 x List.mem_cons_self h]
theorem fltM_map {α β : Type} {e : α → β} {C : β → Option Bool} {F : β → Option D} : ∀ xs : List α, fltM C F (xs.map e) = fltM (fun x => C (e x)) (fun x => F (e x)) xs
  | [] => rfl
  | x :: r => by
    show (C (e x)).bind _ = _
    rw [fltM_map r]
    rfl
/-! The test and the element take the membership along, so that simp finds it at hand inside the binders. -/
open Classical in
noncomputable def fltE {α : Type} (xs : List α) (C : ∀ x, x ∈ xs → Option Bool) (F : ∀ x, x ∈ xs → Option D) : Option (List D) := fltM (fun x => if h : x ∈ xs then C x h else none) (fun x => if h : x ∈ xs then F x h else none) xs
theorem fltE_n {α : Type} {xs : List α} {C : α → Option Bool} {F : α → Option D} : fltE xs (fun x _ => C x) (fun x _ => F x) = fltM C F xs := by
  unfold fltE
  exact fltM_congr xs (fun x hx => dif_pos hx) fun x hx _ => dif_pos hx
noncomputable def mapME {α : Type} (xs : List α) (F : ∀ x, x ∈ xs → Option D) : Option (List D) := fltE xs (fun _ _ => some true) F
open Classical in
noncomputable def fltP {α : Type} (xs : List α) (p : α → Bool) (F : ∀ x, x ∈ xs → p x = true → Option D) : Option (List D) := fltM (fun x => some (p x)) (fun x => if h : x ∈ xs ∧ p x = true then F x h.1 h.2 else none) xs
theorem compL_flt {t : Ft} {c : Fb} {y : Fe} {env : List Sl} : ∀ xs : List D, compL t c y env xs = fltM (fun x => (t x env).bind c) (fun x => (t x env).bind y) xs
  | [] => rfl
  | x :: r => by
    show ((t x env).bind fun e => (c e).bind fun k => if k then (y e).bind fun d => (compL t c y env r).map (d :: ·) else compL t c y env r) = _
    rw [compL_flt r]
    show _ = ((t x env).bind c).bind _
    cases h : t x env with
    | none => rfl
    | some e =>
      show (c e).bind _ = (c e).bind _
      have hy : (fun x => (t x env).bind y) x = y e := by
        show (t x env).bind y = _
        rw [h]
        rfl
      rw [hy]
theorem ev_lc {own : List Nat} {it : Fl} {t : Ft} {c : Fb} {y : Fe} {env : List Sl} : fLc own it t c y env = (it env).bind fun xs => if lim xs.length then fltE xs (fun x _ => (t x (wipeE env own)).bind c) (fun x _ => (t x (wipeE env own)).bind y) else none := by
  unfold fLc
  simp only [compL_flt, fltE_n]
theorem fltE_yes {α : Type} {xs : List α} {F : ∀ x, x ∈ xs → Option D} : fltE xs (fun _ _ => some true) F = mapME xs F := rfl
open Classical in
theorem fltE_p {α : Type} {xs : List α} {p : α → Bool} {F : ∀ x, x ∈ xs → Option D} : fltE xs (fun x _ => some (p x)) F = fltP xs p (fun x h _ => F x h) := by
  refine fltM_congr xs (fun x hx => dif_pos hx) fun x hx hp => ?_
  rw [dif_pos hx, dif_pos ⟨hx, Option.some.inj hp⟩]
theorem fltE_map {α β : Type} {xs : List α} {e : α → β} {C : ∀ x, x ∈ xs.map e → Option Bool} {F : ∀ x, x ∈ xs.map e → Option D} : fltE (xs.map e) C F = fltE xs (fun x h => C (e x) (List.mem_map_of_mem h)) (fun x h => F (e x) (List.mem_map_of_mem h)) := by
  unfold fltE
  rw [fltM_map]
  refine fltM_congr xs (fun x hx => ?_) fun x hx _ => ?_
  · rw [dif_pos hx, dif_pos (List.mem_map_of_mem hx)]
  · rw [dif_pos hx, dif_pos (List.mem_map_of_mem hx)]
theorem mapME_map {α β : Type} {xs : List α} {e : α → β} {F : ∀ x, x ∈ xs.map e → Option D} : mapME (xs.map e) F = mapME xs (fun x h => F (e x) (List.mem_map_of_mem h)) := fltE_map
theorem fltP_some {α : Type} {xs : List α} {p : α → Bool} {g : α → D} : fltP xs p (fun x _ _ => some (g x)) = some ((xs.filter p).map g) := by
  have e : fltP xs p (fun x _ _ => some (g x)) = fltM (fun x => some (p x)) (fun x => some (g x)) xs := fltM_congr xs (fun _ _ => rfl) fun x hx hp => dif_pos ⟨hx, Option.some.inj hp⟩
  rw [e]
  clear e
  induction xs with
  | nil => rfl
  | cons x r ih =>
    show (if p x = true then (some (g x)).bind fun d => (fltM (fun x => some (p x)) (fun x => some (g x)) r).map (d :: ·) else fltM (fun x => some (p x)) (fun x => some (g x)) r) = _
    rw [ih]
    cases h : p x with
    | true =>
      rw [List.filter_cons_of_pos h]
      rfl
    | false =>
      rw [List.filter_cons_of_neg (by simp [h])]
      rfl
theorem mapME_some {α : Type} {xs : List α} {g : α → D} : mapME xs (fun x _ => some (g x)) = some (xs.map g) := by
  have := fltP_some (xs := xs) (p := fun _ => true) (g := g)
  rw [List.filter_eq_self.mpr (fun _ _ => rfl)] at this
  rw [← this]
  exact fltE_p (p := fun _ => true)
theorem lim_ok {n : Nat} (h : n ≤ 16777216) : lim n = true := decide_eq_true h
/-! the elements -/
def nth {α : Type} [Inhabited α] (xs : List α) (i : Int) : α := xs.getD i.toNat default
theorem at_nth {α : Type} [Inhabited α] {e : α → D} {xs : List α} {i : Int} (h0 : 0 ≤ i) (h1 : i < xs.length) : (xs.map e)[i.toNat]? = some (e (nth xs i)) := by
  have h : i.toNat < xs.length := by omega
  unfold nth
  rw [List.getElem?_map, List.getElem?_eq_getElem h]
  simp [List.getD, List.getElem?_eq_getElem h]
theorem gIx_lm {α : Type} [Inhabited α] {e : α → D} {xs : List α} {i : Int} (h0 : 0 ≤ i) (h1 : i < xs.length) : gIx (.lst (xs.map e)) (.int i) = some (e (nth xs i)) := by
  rw [gIx_l h0 (by rw [List.length_map]; exact h1), at_nth h0 h1]
theorem gIx_tm {α : Type} [Inhabited α] {e : α → D} {xs : List α} {i : Int} (h0 : 0 ≤ i) (h1 : i < xs.length) : gIx (.tup (xs.map e)) (.int i) = some (e (nth xs i)) := by
  rw [gIx_t h0 (by rw [List.length_map]; exact h1), at_nth h0 h1]
theorem gIx_iT {xs : List Int} {i : Int} (h0 : 0 ≤ i) (h1 : i < xs.length) : gIx (intT xs) (.int i) = some (.int (nth xs i)) := gIx_tm h0 h1
/-! what is walked, without side conditions on the expression -/
def rgO (j : Int) : Option (List D) := if rngOk j then some (rngL 0 j.toNat) else none
def rgA : List D → Option (List D)
  | [.int j] => rgO j
  | _ => none
theorem ev_rg1' {f : Fl} {env : List Sl} : iRg1 f env = (f env).bind rgA := by
  unfold iRg1
  cases f env with
  | none => rfl
  | some ds =>
    cases ds with
    | nil => rfl
    | cons a r =>
      cases r with
      | nil => cases a <;> rfl
      | cons b r => cases a <;> rfl
theorem rgA_1 {j : Int} : rgA [.int j] = rgO j := rfl
theorem rgO_ok {j : Int} (h0 : -1000000000 ≤ j) (h1 : j ≤ 1000000000) : rgO j = some ((rngN j.toNat).map D.int) := by
  unfold rgO
  rw [if_pos (by unfold rngOk; rw [decide_eq_true h0, decide_eq_true h1]; rfl), rngL_map]
/-! over a range, and with a test -/
theorem gLen_iT {xs : List Int} : gLen [intT xs] = some (.int xs.length) := by
  unfold intT
  rw [gLen_t, List.length_map]
theorem rg_in {n : Nat} {x : Int} (h0 : 0 ≤ x) (h1 : x < n) : x ∈ rngN n := by
  unfold rngN
  exact List.mem_map.mpr ⟨x.toNat, List.mem_range.mpr (by omega), by show ((x.toNat : Nat) : Int) = x; omega⟩
noncomputable def mapRg (n : Nat) (F : ∀ i : Int, 0 ≤ i → i < n → Option D) : Option (List D) := mapME (rngN n) fun x h => F x (mem_rngN h).1 (mem_rngN h).2
theorem mapME_rg {n : Nat} {F : ∀ x, x ∈ rngN n → Option D} : mapME (rngN n) F = mapRg n (fun i h0 h1 => F i (rg_in h0 h1)) := rfl
theorem mapRg_some {n : Nat} {g : Int → D} : mapRg n (fun x _ _ => some (g x)) = some ((rngN n).map g) := mapME_some
noncomputable def fltRg (n : Nat) (C : ∀ i : Int, 0 ≤ i → i < n → Option Bool) (F : ∀ i : Int, 0 ≤ i → i < n → Option D) : Option (List D) := fltE (rngN n) (fun x h => C x (mem_rngN h).1 (mem_rngN h).2) fun x h => F x (mem_rngN h).1 (mem_rngN h).2
theorem fltE_rg {n : Nat} {C : ∀ x, x ∈ rngN n → Option Bool} {F : ∀ x, x ∈ rngN n → Option D} : fltE (rngN n) C F = fltRg n (fun i h0 h1 => C i (rg_in h0 h1)) (fun i h0 h1 => F i (rg_in h0 h1)) := rfl
noncomputable def fltRp (n : Nat) (p : Int → Bool) (F : ∀ i : Int, 0 ≤ i → i < n → p i = true → Option D) : Option (List D) := fltP (rngN n) p fun x h hp => F x (mem_rngN h).1 (mem_rngN h).2 hp
theorem fltRg_p {n : Nat} {p : Int → Bool} {F : ∀ i : Int, 0 ≤ i → i < n → Option D} : fltRg n (fun x _ _ => some (p x)) F = fltRp n p (fun x h0 h1 _ => F x h0 h1) := fltE_p
theorem fltRg_yes {n : Nat} {F : ∀ i : Int, 0 ≤ i → i < n → Option D} : fltRg n (fun x _ _ => some true) F = mapRg n F := rfl
theorem fltRp_some {n : Nat} {p : Int → Bool} {g : Int → D} : fltRp n p (fun x _ _ _ => some (g x)) = some (((rngN n).filter p).map g) := fltP_some
/-! lists of ints -/
theorem map_i {α : Type} {xs : List α} {f : α → Int} : xs.map (fun x => D.int (f x)) = (xs.map f).map D.int := by
  rw [List.map_map]
  rfl
/-! statements -/
section
variable {a b c : Cmd} {env : List Sl} {o : Option Out} {t : Fb} {f : Fe} {d : D} {k : Bool}
theorem seq_ifk (h : t env = some k) (h1 : k = true → sSeq a b env = o) (h0 : k = false → sSeq c b env = o) : sSeq (sIf t a c) b env = o := by
  have e : sSeq (sIf t a c) b env = if k = true then sSeq a b env else sSeq c b env := by
    unfold sSeq sIf
    rw [h]
    cases k <;> rfl
  rw [e]
  cases k with
  | true => exact h1 rfl
  | false => exact h0 rfl
theorem run_ifk (h : t env = some k) (h1 : k = true → a env = o) (h0 : k = false → c env = o) : sIf t a c env = o := by
  have e : sIf t a c env = if k = true then a env else c env := by
    unfold sIf
    rw [h]
    cases k <;> rfl
  rw [e]
  cases k with
  | true => exact h1 rfl
  | false => exact h0 rfl
theorem seq_ret (h : f env = some d) : sSeq (sRet f) b env = some (.rt d) := seq_rt (run_ret h)
theorem seq_nop : sSeq sNop b env = b env := rfl
theorem seq_assoc : sSeq (sSeq a b) c env = sSeq a (sSeq b c) env := by
  unfold sSeq
  cases a env with
  | none => rfl
  | some o => cases o <;> rfl
end
/-! more of the operations -/
theorem gMul_l {i j : Int} (h1 : -18446744073709551616 < i) (h2 : i < 18446744073709551616) : gMul (.int i) (.int j) = some (.int (i * j)) := gMul_i (mulOk_l h1 h2)
theorem gMul_r {i j : Int} (h1 : -18446744073709551616 < j) (h2 : j < 18446744073709551616) : gMul (.int i) (.int j) = some (.int (i * j)) := gMul_i (mulOk_r h1 h2)
def maxI (s : List Int) : Int := max0 s
def minI : List Int → Int
  | [] => 0
  | x :: r => minL x r
theorem gMaxA_l' {s : List Int} (h : 0 < s.length) : gMaxA [.lst (s.map D.int)] = some (.int (maxI s)) := gMaxA_l s h
theorem gMinA_l' {s : List Int} (h : 0 < s.length) : gMinA [.lst (s.map D.int)] = some (.int (minI s)) := by
  show gBest minL minDD (s.map D.int) = _
  unfold gBest
  rw [intsOf_map]
  cases s with
  | nil => cases h
  | cons x r => rfl
theorem gMaxA_t' {s : List Int} (h : 0 < s.length) : gMaxA [.tup (s.map D.int)] = some (.int (maxI s)) := gMaxA_l s h
theorem gMinA_t' {s : List Int} (h : 0 < s.length) : gMinA [.tup (s.map D.int)] = some (.int (minI s)) := gMinA_l' h
theorem gSortA_l' {s : List Int} : gSortA [.lst (s.map D.int)] = some ((sortI s).map D.int) := by
  show (match intsOf (s.map D.int) with
    | some ns => some ((sortI ns).map D.int)
    | none => if sortOk (s.map D.int) then some (sortD (s.map D.int)) else none) = _
  rw [intsOf_map]
theorem gSortA_t' {s : List Int} : gSortA [.tup (s.map D.int)] = some ((sortI s).map D.int) := by
  show (intsOf (s.map D.int)).map (fun ns => (sortI ns).map D.int) = _
  rw [intsOf_map]
  rfl
theorem sortI_len {s : List Int} : (sortI s).length = s.length := (sortI_perm s).length_eq
theorem gIx_last {α : Type} [Inhabited α] {e : α → D} {xs : List α} (h : 0 < xs.length) : gIx (.lst (xs.map e)) (.int (-1)) = some (e (nth xs ((xs.length : Int) - 1))) := by
  have q : gIx (.lst (xs.map e)) (.int (-1)) = (xs.map e)[xs.length - 1]? := by
    show atI (xs.map e) (-1) = _
    unfold atI ixN
    rw [if_neg (by omega)]
    simp only [List.length_map]
    rw [if_pos (by omega)]
    rw [show ((-1 : Int) + (xs.length : Int)).toNat = xs.length - 1 from by omega]
    rfl
  rw [q]
  have h2 := at_nth (e := e) (xs := xs) (i := (xs.length : Int) - 1) (by omega) (by omega)
  rw [show ((xs.length : Int) - 1).toNat = xs.length - 1 from by omega] at h2
  exact h2
theorem truD_lm {α : Type} {e : α → D} {xs : List α} : truD (.lst (xs.map e)) = some (decide (0 < xs.length)) := by
  show some (!(xs.map e).isEmpty) = _
  cases xs <;> simp
theorem truD_tm {α : Type} {e : α → D} {xs : List α} : truD (.tup (xs.map e)) = some (decide (0 < xs.length)) := by
  show some (!(xs.map e).isEmpty) = _
  cases xs <;> simp
theorem ev_m1 {g : D → D → Option D} {fo fa : Fe} {env : List Sl} : eM1 g fo fa env = (fo env).bind fun x => (fa env).bind fun y => g x y := rfl
theorem gIndex_i {xs : List Int} {k : Int} (h : k ∈ xs) : gIndex (.lst (xs.map D.int)) (.int k) = some (.int (xs.idxOf k)) := by
  have h1 : ((xs.map D.int).all (okN 62) && okN 62 (D.int k)) = true := by
    rw [Bool.and_eq_true]
    refine ⟨List.all_eq_true.mpr fun x hx => ?_, rfl⟩
    obtain ⟨i, _, rfl⟩ := List.mem_map.mp hx
    rfl
  have h2 : (xs.map D.int).findIdx? (fun z => eqD z (D.int k)) = some (xs.idxOf k) := by
    rw [List.findIdx?_map]
    have e : ((fun z => eqD z (D.int k)) ∘ D.int) = fun x : Int => x == k := by
      funext x
      simp [eqD, py, PyData.eqv]
    rw [e, List.findIdx?_eq_some_iff_findIdx_eq]
    exact ⟨List.idxOf_lt_length_of_mem h, rfl⟩
  show (if ((xs.map D.int).all (okN 62) && okN 62 (D.int k)) = true then (match (xs.map D.int).findIdx? (fun z => eqD z (D.int k)) with
    | some j => some (D.int (j : Nat))
    | none => none) else none) = _
  rw [h1, h2]
  rfl
def intO : D → Option (Option Int)
  | .int i => some (some i)
  | _ => none
theorem ev_oNo {env : List Sl} : oNo env = some none := rfl
theorem ev_oYes {f : Fe} {env : List Sl} : oYes f env = (f env).bind intO := by
  unfold oYes
  cases f env with
  | none => rfl
  | some d => cases d <;> rfl
theorem intO_i {i : Int} : intO (.int i) = some (some i) := rfl
theorem ev_sl {f : Fe} {lo hi : Fo} {env : List Sl} : eSl f lo hi env = (f env).bind fun x => (lo env).bind fun l => (hi env).bind fun h => gSl x l h := rfl
theorem gSl_l {xs : List D} {lo hi : Option Int} : gSl (.lst xs) lo hi = some (.lst (cutD xs lo hi)) := rfl
theorem gSl_t {xs : List D} {lo hi : Option Int} : gSl (.tup xs) lo hi = some (.tup (cutD xs lo hi)) := rfl
theorem inD_i {x : Int} : ∀ xs : List Int, inD (.int x) (xs.map D.int) = decide (x ∈ xs)
  | [] => by simp [inD]
  | y :: r => by
    have ih := inD_i (x := x) r
    unfold inD at ih ⊢
    rw [List.map_cons, List.any_cons, ih]
    have h : eqD (.int y) (.int x) = decide (y = x) := by
      by_cases e : y = x <;> simp [eqD, py, PyData.eqv, e]
    have h' : eqD (.int x) (.int y) = decide (x = y) := by
      by_cases e : x = y <;> simp [eqD, py, PyData.eqv, e]
    first | rw [h] | rw [h']
    by_cases e : x = y
    · simp [e]
    · have e' : ¬ y = x := fun q => e q.symm
      simp [e, e']
theorem okN_li (xs : List Int) : okN 64 (.lst (xs.map D.int)) = true := by
  simp only [okN, List.all_eq_true]
  intro x hx
  obtain ⟨i, _, rfl⟩ := List.mem_map.mp hx
  rfl
theorem okN_ti (xs : List Int) : okN 64 (.tup (xs.map D.int)) = true := by
  simp only [okN, List.all_eq_true]
  intro x hx
  obtain ⟨i, _, rfl⟩ := List.mem_map.mp hx
  rfl
theorem gIn_il {x : Int} {xs : List Int} : gIn (.int x) (.lst (xs.map D.int)) = some (.bl (decide (x ∈ xs))) := by
  show (if (okN 64 (D.int x) && okN 64 (.lst (xs.map D.int))) = true then some (D.bl (inD (.int x) (xs.map D.int))) else none) = _
  rw [okN_li, inD_i]
  rfl
theorem gIn_it {x : Int} {xs : List Int} : gIn (.int x) (.tup (xs.map D.int)) = some (.bl (decide (x ∈ xs))) := by
  show (if (okN 64 (D.int x) && okN 64 (.tup (xs.map D.int))) = true then some (D.bl (inD (.int x) (xs.map D.int))) else none) = _
  rw [okN_ti, inD_i]
  rfl
theorem gNotIn_il {x : Int} {xs : List Int} : gNotIn (.int x) (.lst (xs.map D.int)) = some (.bl (!decide (x ∈ xs))) := by
  show (if (okN 64 (D.int x) && okN 64 (.lst (xs.map D.int))) = true then some (D.bl (!inD (.int x) (xs.map D.int))) else none) = _
  rw [okN_li, inD_i]
  rfl
theorem gNotIn_it {x : Int} {xs : List Int} : gNotIn (.int x) (.tup (xs.map D.int)) = some (.bl (!decide (x ∈ xs))) := by
  show (if (okN 64 (D.int x) && okN 64 (.tup (xs.map D.int))) = true then some (D.bl (!inD (.int x) (xs.map D.int))) else none) = _
  rw [okN_ti, inD_i]
  rfl
theorem gIs_n {x : D} : gIs x .non = some (.bl (isNon x)) := rfl
theorem gIsNot_n {x : D} : gIsNot x .non = some (.bl (!isNon x)) := rfl
theorem isNon_n : isNon .non = true := rfl
theorem isNon_t {xs : List D} : isNon (.tup xs) = false := rfl
theorem isNon_l {xs : List D} : isNon (.lst xs) = false := rfl
theorem isNon_i {x : Int} : isNon (.int x) = false := rfl
theorem isNon_b {x : Bool} : isNon (.bl x) = false := rfl
def limT (ds : List D) : Option D := if lim ds.length then some (.tup ds) else none
theorem ev_tup {fl : Fl} {env : List Sl} : eTup fl env = (fl env).bind limT := rfl
/-- the last turn's value in a slot -/
def lastW {α : Type} (f : α → Sl) (ys : List α) : Sl := match ys.getLast? with
  | none => .un
  | some i => f i
theorem lastW_snoc {α : Type} {f : α → Sl} {ys : List α} {x : α} : lastW f (ys ++ [x]) = f x := by simp [lastW]
theorem limT_0 : limT [] = some (.tup []) := rfl
theorem mkL_0 : mkL [] = some (.lst []) := rfl
theorem limT_1 {a : D} : limT [a] = some (.tup [a]) := rfl
theorem mkL_1 {a : D} : mkL [a] = some (.lst [a]) := rfl
theorem limT_2 {a b : D} : limT [a, b] = some (.tup [a, b]) := rfl
theorem mkL_2 {a b : D} : mkL [a, b] = some (.lst [a, b]) := rfl
theorem limT_3 {a b c : D} : limT [a, b, c] = some (.tup [a, b, c]) := rfl
theorem mkL_3 {a b c : D} : mkL [a, b, c] = some (.lst [a, b, c]) := rfl
theorem limT_4 {a b c d : D} : limT [a, b, c, d] = some (.tup [a, b, c, d]) := rfl
theorem mkL_4 {a b c d : D} : mkL [a, b, c, d] = some (.lst [a, b, c, d]) := rfl
theorem limT_5 {a b c d e : D} : limT [a, b, c, d, e] = some (.tup [a, b, c, d, e]) := rfl
theorem mkL_5 {a b c d e : D} : mkL [a, b, c, d, e] = some (.lst [a, b, c, d, e]) := rfl
theorem limT_6 {a b c d e f : D} : limT [a, b, c, d, e, f] = some (.tup [a, b, c, d, e, f]) := rfl
theorem mkL_6 {a b c d e f : D} : mkL [a, b, c, d, e, f] = some (.lst [a, b, c, d, e, f]) := rfl
theorem limT_7 {a b c d e f g : D} : limT [a, b, c, d, e, f, g] = some (.tup [a, b, c, d, e, f, g]) := rfl
theorem mkL_7 {a b c d e f g : D} : mkL [a, b, c, d, e, f, g] = some (.lst [a, b, c, d, e, f, g]) := rfl
theorem limT_8 {a b c d e f g h : D} : limT [a, b, c, d, e, f, g, h] = some (.tup [a, b, c, d, e, f, g, h]) := rfl
theorem mkL_8 {a b c d e f g h : D} : mkL [a, b, c, d, e, f, g, h] = some (.lst [a, b, c, d, e, f, g, h]) := rfl
theorem ev_lst {fl : Fl} {env : List Sl} : eLst fl env = (fl env).bind mkL := rfl
theorem gIx_t0 {a : D} {r : List D} : gIx (.tup (a :: r)) (.int 0) = some a := by
  rw [gIx_t (by omega) (by simp only [List.length_cons]; omega)]
  rfl
theorem gIx_l0 {a : D} {r : List D} : gIx (.lst (a :: r)) (.int 0) = some a := by
  rw [gIx_l (by omega) (by simp only [List.length_cons]; omega)]
  rfl
theorem gIx_t1 {a b : D} {r : List D} : gIx (.tup (a :: b :: r)) (.int 1) = some b := by
  rw [gIx_t (by omega) (by simp only [List.length_cons]; omega)]
  rfl
theorem gIx_l1 {a b : D} {r : List D} : gIx (.lst (a :: b :: r)) (.int 1) = some b := by
  rw [gIx_l (by omega) (by simp only [List.length_cons]; omega)]
  rfl
theorem gIx_t2 {a b c : D} {r : List D} : gIx (.tup (a :: b :: c :: r)) (.int 2) = some c := by
  rw [gIx_t (by omega) (by simp only [List.length_cons]; omega)]
  rfl
theorem gIx_l2 {a b c : D} {r : List D} : gIx (.lst (a :: b :: c :: r)) (.int 2) = some c := by
  rw [gIx_l (by omega) (by simp only [List.length_cons]; omega)]
  rfl
theorem gIx_t3 {a b c d : D} {r : List D} : gIx (.tup (a :: b :: c :: d :: r)) (.int 3) = some d := by
  rw [gIx_t (by omega) (by simp only [List.length_cons]; omega)]
  rfl
theorem gIx_l3 {a b c d : D} {r : List D} : gIx (.lst (a :: b :: c :: d :: r)) (.int 3) = some d := by
  rw [gIx_l (by omega) (by simp only [List.length_cons]; omega)]
  rfl
theorem gIx_t4 {a b c d e : D} {r : List D} : gIx (.tup (a :: b :: c :: d :: e :: r)) (.int 4) = some e := by
  rw [gIx_t (by omega) (by simp only [List.length_cons]; omega)]
  rfl
theorem gIx_l4 {a b c d e : D} {r : List D} : gIx (.lst (a :: b :: c :: d :: e :: r)) (.int 4) = some e := by
  rw [gIx_l (by omega) (by simp only [List.length_cons]; omega)]
  rfl
theorem gIx_t5 {a b c d e f : D} {r : List D} : gIx (.tup (a :: b :: c :: d :: e :: f :: r)) (.int 5) = some f := by
  rw [gIx_t (by omega) (by simp only [List.length_cons]; omega)]
  rfl
theorem gIx_l5 {a b c d e f : D} {r : List D} : gIx (.lst (a :: b :: c :: d :: e :: f :: r)) (.int 5) = some f := by
  rw [gIx_l (by omega) (by simp only [List.length_cons]; omega)]
  rfl
theorem some_or {a b : Bool} : (if a = true then some true else some b) = some (a || b) := by cases a <;> rfl
theorem some_and {a b : Bool} : (if a = true then some b else some false) = some (a && b) := by cases a <;> rfl
theorem bl_or {a b : Bool} : (if a = true then some (D.bl true) else some (D.bl b)) = some (D.bl (a || b)) := by cases a <;> rfl
theorem bl_and {a b : Bool} : (if a = true then some (D.bl b) else some (D.bl false)) = some (D.bl (a && b)) := by cases a <;> rfl
theorem or_dec {p q : Prop} [Decidable p] [Decidable q] (h : (decide p || decide q) = true) : p ∨ q := by simpa using h
theorem or_decF {p q : Prop} [Decidable p] [Decidable q] (h : (decide p || decide q) = false) : ¬ (p ∨ q) := by simpa using h
theorem gAdd_ll {α : Type} {e : α → D} {xs ys : List α} (h : xs.length + ys.length ≤ 16777216) : gAdd (.lst (xs.map e)) (.lst (ys.map e)) = some (.lst ((xs ++ ys).map e)) := by
  show mkL (xs.map e ++ ys.map e) = _
  rw [← List.map_append]
  unfold mkL
  rw [if_pos (by rw [List.length_map, List.length_append]; exact decide_eq_true h)]
theorem gAdd_tt {α : Type} {e : α → D} {xs ys : List α} (h : xs.length + ys.length ≤ 16777216) : gAdd (.tup (xs.map e)) (.tup (ys.map e)) = some (.tup ((xs ++ ys).map e)) := by
  show mkT (xs.map e ++ ys.map e) = _
  rw [← List.map_append]
  unfold mkT
  rw [if_pos (by rw [List.length_map, List.length_append]; exact decide_eq_true h)]
theorem gMax2_i {i j : Int} : gMax2 [.int i, .int j] = some (.int (max i j)) := by
  show some (D.int (if j > i then j else i)) = _
  congr 2
  split <;> omega
theorem gMin2_i {i j : Int} : gMin2 [.int i, .int j] = some (.int (min i j)) := by
  show some (D.int (if j < i then j else i)) = _
  congr 2
  split <;> omega
theorem gIx_p0 {p : Int × Int} : gIx (pairD p) (.int 0) = some (.int p.1) := gIx_t0
theorem gIx_p1 {p : Int × Int} : gIx (pairD p) (.int 1) = some (.int p.2) := gIx_t1
theorem ev_rev {f : Fe} {env : List Sl} : eRev f env = (f env).bind gRev := rfl
theorem cutD_take {α : Type} {xs : List α} {k : Int} (h : 0 ≤ k) : cutD xs none (some k) = xs.take k.toNat := by
  have e : HT.sIx xs.length xs.length (some k) = min k.toNat xs.length := by
    show (if k < 0 then (k + (xs.length : Int)).toNat else min k.toNat xs.length) = _
    rw [if_neg (by omega)]
  unfold cutD
  rw [e, show HT.sIx xs.length 0 none = 0 from rfl, List.drop_zero, Nat.sub_zero, ← List.take_take, List.take_length]
theorem cutD_drop {α : Type} {xs : List α} {k : Int} (h : 0 ≤ k) : cutD xs (some k) none = xs.drop k.toNat := by
  have e : HT.sIx xs.length 0 (some k) = min k.toNat xs.length := by
    show (if k < 0 then (k + (xs.length : Int)).toNat else min k.toNat xs.length) = _
    rw [if_neg (by omega)]
  unfold cutD
  rw [e, show HT.sIx xs.length xs.length none = xs.length from rfl]
  by_cases hk : k.toNat ≤ xs.length
  · rw [Nat.min_eq_left hk]
    exact List.take_of_length_le (by rw [List.length_drop]; exact Nat.le_refl _)
  · rw [Nat.min_eq_right (by omega), List.drop_eq_nil_of_le (Nat.le_refl _), List.drop_eq_nil_of_le (by omega), List.take_nil]
end PD

set_option Elab.async false
set_option linter.all false
set_option maxRecDepth 100000
namespace PD
open PySem L2
/-! ### the k least pairs -/
theorem leP_trans (a b c : Int × Int) (h1 : leP a b = true) (h2 : leP b c = true) : leP a c = true := by
  unfold leP at *
  simp only [decide_eq_true_eq] at *
  omega
theorem leP_total (a b : Int × Int) : (leP a b || leP b a) = true := by
  unfold leP
  simp only [Bool.or_eq_true, decide_eq_true_eq]
  omega
theorem leP_refl (a : Int × Int) : leP a a = true := by
  unfold leP
  simp
theorem leP_anti (a b : Int × Int) (h1 : leP a b = true) (h2 : leP b a = true) : a = b := by
  unfold leP at *
  simp only [decide_eq_true_eq] at *
  exact Prod.ext (by omega) (by omega)
theorem sortP_perm (ps : List (Int × Int)) : (sortP ps).Perm ps := List.mergeSort_perm ps _
theorem sortP_sorted (ps : List (Int × Int)) : (sortP ps).Pairwise (fun a b => leP a b = true) := List.pairwise_mergeSort (le := leP) leP_trans leP_total ps
theorem sorted_eq {a b : List (Int × Int)} (p : a.Perm b) (ha : a.Pairwise (fun a b => leP a b = true)) (hb : b.Pairwise (fun a b => leP a b = true)) : a = b :=
  p.eq_of_pairwise (fun a b _ _ h1 h2 => leP_anti a b h1 h2) ha hb
theorem sortP_of {a b : List (Int × Int)} (p : a.Perm b) (ha : a.Pairwise (fun a b => leP a b = true)) : sortP b = a := sorted_eq ((sortP_perm b).trans p.symm) (sortP_sorted b) ha
theorem sortP_congr {a b : List (Int × Int)} (p : a.Perm b) : sortP a = sortP b := sortP_of (((sortP_perm b).trans p.symm)) (sortP_sorted b)
def topk (k : Nat) (ps : List (Int × Int)) : List (Int × Int) := (sortP ps).take k
theorem topk_len {k : Nat} {ps : List (Int × Int)} : (topk k ps).length ≤ k := by
  unfold topk
  rw [List.length_take]
  omega
theorem sortP_len {ps : List (Int × Int)} : (sortP ps).length = ps.length := (sortP_perm ps).length_eq
theorem topk_perm {k : Nat} {a b : List (Int × Int)} (p : a.Perm b) : topk k a = topk k b := by
  unfold topk
  rw [sortP_congr p]
theorem topk_sorted (k : Nat) (ps : List (Int × Int)) : (topk k ps).Pairwise (fun a b => leP a b = true) := (sortP_sorted ps).sublist (List.take_sublist _ _)
/-- those that stand first already -/
theorem sortP_app {F R : List (Int × Int)} (hF : F.Pairwise (fun a b => leP a b = true)) (h : ∀ f ∈ F, ∀ r ∈ R, leP f r = true) : sortP (F ++ R) = F ++ sortP R :=
  sortP_of ((sortP_perm R).append_left F) (List.pairwise_append.mpr ⟨hF, sortP_sorted R, fun f hf r hr => h f hf r ((sortP_perm R).mem_iff.mp hr)⟩)
theorem topk_keep {k : Nat} {F R : List (Int × Int)} (hF : F.Pairwise (fun a b => leP a b = true)) (hk : F.length = k) (h : ∀ f ∈ F, ∀ r ∈ R, leP f r = true) : topk k (F ++ R) = F := by
  unfold topk
  rw [sortP_app hF h, List.take_append_of_le_length (by omega), List.take_of_length_le (by omega)]
theorem topk_short {k : Nat} {ps : List (Int × Int)} (h : ps.length ≤ k) : topk k ps = sortP ps := by
  unfold topk
  exact List.take_of_length_le (by rw [sortP_len]; exact h)
theorem take_drop_le {k : Nat} {ps : List (Int × Int)} : ∀ f ∈ topk k ps, ∀ r ∈ (sortP ps).drop k, leP f r = true := by
  have h := sortP_sorted ps
  rw [← List.take_append_drop k (sortP ps)] at h
  exact (List.pairwise_append.mp h).2.2
/-- what the least of a part leave out does not count -/
theorem topk_part {k : Nat} {A B : List (Int × Int)} : topk k (topk k A ++ B) = topk k (A ++ B) := by
  by_cases hz : A.length ≤ k
  · rw [topk_short hz]
    exact topk_perm ((sortP_perm A).append_right B)
  have hl : (topk k A).length = k := by
    unfold topk
    rw [List.length_take, sortP_len]
    omega
  have hp : (topk k (topk k A ++ B) ++ ((sortP (topk k A ++ B)).drop k ++ (sortP A).drop k)).Perm (A ++ B) := by
    rw [← List.append_assoc]
    have h1 : (topk k (topk k A ++ B) ++ (sortP (topk k A ++ B)).drop k).Perm (topk k A ++ B) := by
      unfold topk
      rw [List.take_append_drop]
      exact sortP_perm _
    refine (h1.append_right _).trans ?_
    have h2 : (topk k A ++ B ++ (sortP A).drop k).Perm (topk k A ++ (sortP A).drop k ++ B) := by
      rw [List.append_assoc, List.append_assoc]
      exact List.perm_append_comm.append_left _
    refine h2.trans ?_
    refine List.Perm.append_right B ?_
    unfold topk
    rw [List.take_append_drop]
    exact sortP_perm A
  rw [← topk_perm hp]
  have hy : (topk k (topk k A ++ B)).length = k := by
    unfold topk
    rw [List.length_take, sortP_len, List.length_append]
    have : (List.take k (sortP A)).length = k := hl
    omega
  refine (topk_keep (topk_sorted _ _) hy fun y hyy r hr => ?_).symm
  rcases List.mem_append.mp hr with hr | hr
  · exact take_drop_le y hyy r hr
  · refine Classical.byContradiction fun hn => ?_
    have hYs := sortP_sorted (topk k A ++ B)
    have hYp := sortP_perm (topk k A ++ B)
    have hyy' : y ∈ (sortP (topk k A ++ B)).take k := hyy
    generalize sortP (topk k A ++ B) = Y at hyy' hYs hYp
    obtain ⟨j, hj, hyj⟩ := List.mem_iff_getElem.mp hyy'
    rw [List.length_take] at hj
    rw [List.getElem_take] at hyj
    have c1 : (topk k A).countP (fun f => !leP y f) = k := by
      refine (List.countP_eq_length.mpr fun f hf => ?_).trans hl
      have h1 := take_drop_le f hf r hr
      have h2 : leP r y = true := by
        have := leP_total y r
        cases hc : leP y r with
        | true => exact absurd hc hn
        | false =>
          rw [hc] at this
          simpa using this
      cases hc : leP y f with
      | false => rfl
      | true => exact absurd (leP_trans _ _ _ hc h1) hn
    have c2 : Y.countP (fun f => !leP y f) ≤ j := by
      rw [← List.take_append_drop j Y, List.countP_append]
      have z : (Y.drop j).countP (fun f => !leP y f) = 0 := by
        refine List.countP_eq_zero.mpr fun f hf => ?_
        obtain ⟨i, hi, e⟩ := List.mem_iff_getElem.mp hf
        rw [List.getElem_drop] at e
        have : leP y f = true := by
          rw [← hyj, ← e]
          by_cases hi0 : i = 0
          · subst hi0
            exact leP_refl _
          · exact List.pairwise_iff_getElem.mp hYs j (j + i) (by omega) (by rw [List.length_drop] at hi; omega) (by omega)
        simp [this]
      have := List.countP_le_length (p := fun f => !leP y f) (l := Y.take j)
      rw [List.length_take] at this
      omega
    have c3 := hYp.countP_eq (fun f => !leP y f)
    rw [List.countP_append, c1] at c3
    omega
end PD
namespace PD
open PySem L2
theorem topk_self {k : Nat} {F : List (Int × Int)} (hF : F.Pairwise (fun a b => leP a b = true)) (hk : F.length ≤ k) : topk k F = F := by
  rw [topk_short hk]
  exact sortP_of (List.Perm.refl F) hF
end PD

set_option Elab.async false
set_option linter.all false
set_option maxRecDepth 100000
set_option maxHeartbeats 4000000
namespace PD
open PySem L2
/-! ### a cloud that is drawn -/

def cloudV (row : List Int) (a n : Nat) (top : Int) (k : Int) : List Int := (rngN n).map fun j => nth row ((a : Int) + 1 + 3 * k + j) % (2 * top + 1) - top
def cloudL (row : List Int) (a most n : Nat) (top : Int) : List (List Int) := (rngN (nth row a % ((most : Int) + 1)).toNat).map (cloudV row a n top)
theorem gIx_row {row : List Int} {i : Int} (h0 : 0 ≤ i) (h1 : i < row.length) : gIx (.lst (row.map D.int)) (.int i) = some (.int (nth row i)) := gIx_lm h0 h1
theorem run_cloud (row : List Int) (a most n : Nat) (top : Int) (ht : 0 ≤ top ∧ top ≤ 1000) (hn : n ≤ 3) (hm : most ≤ 1000) (ha : a + 1 + 3 * most + n ≤ row.length) : run_l_cloud [.lst (row.map D.int), .int a, .int most, .int n, .int top] = some (.tup ((cloudL row a most n top).map intT)) := by
  have b0 := mod_lt (a := nth row a) (b := (most : Int) + 1) (by omega)
  refine runC_rt rfl ?_
  simp only [List.map_cons, List.map_nil, List.replicate, List.cons_append, List.nil_append, List.set_cons_succ, List.set_cons_zero]
  refine seq_setO (ds := []) rfl ?_
  simp only [List.map_cons, List.map_nil, List.replicate, List.cons_append, List.nil_append, List.set_cons_succ, List.set_cons_zero]
  refine seq_for (xs := rngN (nth row a % ((most : Int) + 1)).toNat) (enc := D.int) (fun ys => [.val (.lst (row.map D.int)), .val (.int a), .val (.int most), .val (.int n), .val (.int top), .own ((ys.map (cloudV row a n top)).map intT), lastW (fun a => .val (.int a)) ys, .un]) ?_ rfl (fun ys k zs hx => ?_) ?_
  · simp -implicitDefEqProofs (disch := first | assumption | omega | (simp only [List.length_map, rngN_len, sortI_len]; omega)) only [ev_asL, ev_lc, ev_rg1', ev_call, ev_cons, ev_nil, ev_op, ev_c, ev_bvar, ev_var, List.getElem?_cons_succ, List.getElem?_cons_zero, Option.bind_some, Option.map_some, slB_val, slV_val, slB_own, gLen_l, gLen_t, gLen_iT, List.length_map, rgA_1, rgO_ok, lim_ok, rngN_len, if_true, ↓fltE_map, ↓mapME_map, ev_gNm, ev_tYes, wipe_cons, wipe_nil, List.set_cons_succ, List.set_cons_zero, fltE_yes, fltE_p, fltP_some, fltE_rg, fltRg_p, fltRg_yes, fltRp_some, mapME_rg, mapRg_some, ev_iseq, itemsD_l, itemsD_t, mapME_some, gIx_lm, gIx_tm, Int.toNat_natCast, gAdd_i, gSub_i, map_i, ev_un, ev_asB, ev_asT, ev_not, ev_and, ev_or, ev_eif, ev_fcall, blD_bl, gEq_i, gNe_i, gLt_i, gLe_i, gGt_i, gGe_i, gNeg_i, truD_bl, ev_fn, gTuple_l, gTuple_t, gMod_i, gDiv_i, gMul_l, gMul_r, gMaxA_l', gMinA_l', gMaxA_t', gMinA_t', gSortA_l', gSortA_t', sortI_len, gIx_last, truD_lm, truD_tm, ev_m1, gIndex_i, ev_oNo, ev_oYes, intO_i, ev_sl, gSl_l, gSl_t, cutD_map, gInt_i, gInt_b, gAbs_i, gSum_l, gSum_t, ev_isi, ev_eand, ev_eor, ev_enot, gIn_il, gIn_it, gNotIn_il, gNotIn_it, gIs_n, gIsNot_n, isNon_n, isNon_t, isNon_l, isNon_i, isNon_b, ev_tup, ev_lst, limT_0, mkL_0, limT_1, mkL_1, limT_2, mkL_2, limT_3, mkL_3, limT_4, mkL_4, limT_5, mkL_5, limT_6, mkL_6, limT_7, mkL_7, limT_8, mkL_8, gAdd_ll, gAdd_tt, gMax2_i, gMin2_i, gIx_p0, gIx_p1, ev_rev, cutD_take, cutD_drop, gSortA_pair, some_or, some_and, bl_or, bl_and, gIx_t0, gIx_l0, gIx_t1, gIx_l1, gIx_t2, gIx_l2, gIx_t3, gIx_l3, gIx_t4, gIx_l4, gIx_t5, gIx_l5]
  · have hk : k ∈ rngN (nth row a % ((most : Int) + 1)).toNat := by rw [hx]; simp
    obtain ⟨k0, k1⟩ := mem_rngN hk
    have hl : ys.length < 2000 := by
      have := congrArg List.length hx
      rw [rngN_len, List.length_append, List.length_cons] at this
      omega
    refine ⟨_, rfl, .inl ?_⟩
    simp only [List.map_cons, List.map_nil, List.replicate, List.cons_append, List.nil_append, List.set_cons_succ, List.set_cons_zero]
    refine (run_app (d := intT (cloudV row a n top k)) (by
      simp -implicitDefEqProofs (disch := first | assumption | omega | (simp only [List.length_map, rngN_len, sortI_len]; omega)) only [ev_asL, ev_lc, ev_rg1', ev_call, ev_cons, ev_nil, ev_op, ev_c, ev_bvar, ev_var, List.getElem?_cons_succ, List.getElem?_cons_zero, Option.bind_some, Option.map_some, slB_val, slV_val, slB_own, gLen_l, gLen_t, gLen_iT, List.length_map, rgA_1, rgO_ok, lim_ok, rngN_len, if_true, ↓fltE_map, ↓mapME_map, ev_gNm, ev_tYes, wipe_cons, wipe_nil, List.set_cons_succ, List.set_cons_zero, fltE_yes, fltE_p, fltP_some, fltE_rg, fltRg_p, fltRg_yes, fltRp_some, mapME_rg, mapRg_some, ev_iseq, itemsD_l, itemsD_t, mapME_some, gIx_lm, gIx_tm, Int.toNat_natCast, gAdd_i, gSub_i, map_i, ev_un, ev_asB, ev_asT, ev_not, ev_and, ev_or, ev_eif, ev_fcall, blD_bl, gEq_i, gNe_i, gLt_i, gLe_i, gGt_i, gGe_i, gNeg_i, truD_bl, ev_fn, gTuple_l, gTuple_t, gMod_i, gDiv_i, gMul_l, gMul_r, gMaxA_l', gMinA_l', gMaxA_t', gMinA_t', gSortA_l', gSortA_t', sortI_len, gIx_last, truD_lm, truD_tm, ev_m1, gIndex_i, ev_oNo, ev_oYes, intO_i, ev_sl, gSl_l, gSl_t, cutD_map, gInt_i, gInt_b, gAbs_i, gSum_l, gSum_t, ev_isi, ev_eand, ev_eor, ev_enot, gIn_il, gIn_it, gNotIn_il, gNotIn_it, gIs_n, gIsNot_n, isNon_n, isNon_t, isNon_l, isNon_i, isNon_b, ev_tup, ev_lst, limT_0, mkL_0, limT_1, mkL_1, limT_2, mkL_2, limT_3, mkL_3, limT_4, mkL_4, limT_5, mkL_5, limT_6, mkL_6, limT_7, mkL_7, limT_8, mkL_8, gAdd_ll, gAdd_tt, gMax2_i, gMin2_i, gIx_p0, gIx_p1, ev_rev, cutD_take, cutD_drop, gSortA_pair, some_or, some_and, bl_or, bl_and, gIx_t0, gIx_l0, gIx_t1, gIx_l1, gIx_t2, gIx_l2, gIx_t3, gIx_l3, gIx_t4, gIx_l4, gIx_t5, gIx_l5]
      first | done | exact rfl) rfl (by simp only [List.length_map]; omega)).trans ?_
    simp only [List.map_cons, List.map_nil, List.replicate, List.cons_append, List.nil_append, List.set_cons_succ, List.set_cons_zero, lastW_snoc, List.map_append]
  · refine run_ret ?_
    simp -implicitDefEqProofs (disch := first | assumption | omega | (simp only [List.length_map, rngN_len, sortI_len]; omega)) only [ev_asL, ev_lc, ev_rg1', ev_call, ev_cons, ev_nil, ev_op, ev_c, ev_bvar, ev_var, List.getElem?_cons_succ, List.getElem?_cons_zero, Option.bind_some, Option.map_some, slB_val, slV_val, slB_own, gLen_l, gLen_t, gLen_iT, List.length_map, rgA_1, rgO_ok, lim_ok, rngN_len, if_true, ↓fltE_map, ↓mapME_map, ev_gNm, ev_tYes, wipe_cons, wipe_nil, List.set_cons_succ, List.set_cons_zero, fltE_yes, fltE_p, fltP_some, fltE_rg, fltRg_p, fltRg_yes, fltRp_some, mapME_rg, mapRg_some, ev_iseq, itemsD_l, itemsD_t, mapME_some, gIx_lm, gIx_tm, Int.toNat_natCast, gAdd_i, gSub_i, map_i, ev_un, ev_asB, ev_asT, ev_not, ev_and, ev_or, ev_eif, ev_fcall, blD_bl, gEq_i, gNe_i, gLt_i, gLe_i, gGt_i, gGe_i, gNeg_i, truD_bl, ev_fn, gTuple_l, gTuple_t, gMod_i, gDiv_i, gMul_l, gMul_r, gMaxA_l', gMinA_l', gMaxA_t', gMinA_t', gSortA_l', gSortA_t', sortI_len, gIx_last, truD_lm, truD_tm, ev_m1, gIndex_i, ev_oNo, ev_oYes, intO_i, ev_sl, gSl_l, gSl_t, cutD_map, gInt_i, gInt_b, gAbs_i, gSum_l, gSum_t, ev_isi, ev_eand, ev_eor, ev_enot, gIn_il, gIn_it, gNotIn_il, gNotIn_it, gIs_n, gIsNot_n, isNon_n, isNon_t, isNon_l, isNon_i, isNon_b, ev_tup, ev_lst, limT_0, mkL_0, limT_1, mkL_1, limT_2, mkL_2, limT_3, mkL_3, limT_4, mkL_4, limT_5, mkL_5, limT_6, mkL_6, limT_7, mkL_7, limT_8, mkL_8, gAdd_ll, gAdd_tt, gMax2_i, gMin2_i, gIx_p0, gIx_p1, ev_rev, cutD_take, cutD_drop, gSortA_pair, some_or, some_and, bl_or, bl_and, gIx_t0, gIx_l0, gIx_t1, gIx_l1, gIx_t2, gIx_l2, gIx_t3, gIx_l3, gIx_t4, gIx_l4, gIx_t5, gIx_l5]
    first | done | exact rfl
theorem cloud_len {row : List Int} {a n : Nat} {top : Int} {most : Nat} : ∀ v ∈ cloudL row a most n top, v.length = n := by
  intro v hv
  obtain ⟨k, _, rfl⟩ := List.mem_map.mp hv
  simp [cloudV, rngN_len]
theorem cloud_small {row : List Int} {a n : Nat} {top : Int} {most : Nat} (ht : 0 ≤ top) : ∀ v ∈ cloudL row a most n top, ∀ x ∈ v, -top ≤ x ∧ x ≤ top := by
  intro v hv x hx
  obtain ⟨k, _, rfl⟩ := List.mem_map.mp hv
  obtain ⟨j, _, rfl⟩ := List.mem_map.mp hx
  have := mod_lt (a := nth row ((a : Int) + 1 + 3 * k + j)) (b := 2 * top + 1) (by omega)
  omega
theorem cloud_count {row : List Int} {a n : Nat} {top : Int} {most : Nat} : (cloudL row a most n top).length ≤ most := by
  have := mod_lt (a := nth row a) (b := (most : Int) + 1) (by omega)
  simp only [cloudL, List.length_map, rngN_len]
  omega
end PD

set_option Elab.async false
set_option linter.all false
set_option maxRecDepth 100000
namespace PD
open PySem L2
theorem eqvAll_pairs : ∀ ps : List (Int × Int), PyData.eqvAll (pyL (ps.map pairD)) (pyL (ps.map pairD)) = true
  | [] => by simp [pyL, PyData.eqvAll]
  | p :: r => by
    have ih := eqvAll_pairs r
    simp only [List.map_cons, pyL, PyData.eqvAll, ih, Bool.and_true]
    simp [pairD, py, pyL, PyData.eqv, PyData.eqvAll]
theorem okN_pairs (ps : List (Int × Int)) : okN 64 (.tup (ps.map pairD)) = true := by
  simp only [okN, List.all_eq_true]
  intro x hx
  obtain ⟨p, _, rfl⟩ := List.mem_map.mp hx
  simp [pairD, okN]
theorem gNe_pairs {ps : List (Int × Int)} : gNe (.tup (ps.map pairD)) (.tup (ps.map pairD)) = some (.bl false) := by
  unfold gNe
  rw [okN_pairs]
  have e : eqD (.tup (ps.map pairD)) (.tup (ps.map pairD)) = true := by
    unfold eqD
    simp only [py, PyData.eqv]
    exact eqvAll_pairs ps
  rw [e]
  rfl
end PD

set_option Elab.async false
set_option linter.all false
set_option maxRecDepth 100000
namespace PD
open PySem L2
/-! ### loops: the state behind k turns of a range, or any property of it -/
section
variable {α : Type} {g : Ft} {it : Fl} {enc : α → D} {a b : Cmd} {env : List Sl} {o : Option Out} {t : Fb} {d : D}
theorem forL_P (P : List α → List Sl → Prop) (xs : List α) : ∀ (ys zs : List α) (e0 : List Sl), xs = ys ++ zs → P ys e0 → (∀ (ys : List α) (x : α) (zs : List α), xs = ys ++ x :: zs → ∀ e, P ys e → ∃ e1 e2, g (enc x) e = some e1 ∧ (a e1 = some (.nx e2) ∨ a e1 = some (.ct e2)) ∧ P (ys ++ [x]) e2) → ∃ e, forL g a (zs.map enc) e0 = some (.nx e) ∧ P xs e
  | ys, [], e0, hx, h0, h => by
    rw [List.append_nil] at hx
    subst hx
    exact ⟨e0, rfl, h0⟩
  | ys, z :: zs, e0, hx, h0, h => by
    obtain ⟨e1, e2, h1, h2, h3⟩ := h ys z zs hx e0 h0
    obtain ⟨e, ih, hp⟩ := forL_P P xs (ys ++ [z]) zs e2 (by rw [hx, List.append_assoc]; rfl) h3 h
    refine ⟨e, ?_, hp⟩
    show (g (enc z) e0).bind _ = _
    rw [h1]
    show (match a e1 with
      | some (.nx e) => forL g a (zs.map enc) e
      | some (.ct e) => forL g a (zs.map enc) e
      | some (.bk e) => some (.nx e)
      | some (.rt d) => some (.rt d)
      | none => none) = _
    rcases h2 with h2 | h2 <;> rw [h2] <;> exact ih
theorem seq_forP {xs : List α} (P : List α → List Sl → Prop) (h0 : it env = some (xs.map enc)) (hs : P [] env) (h1 : ∀ (ys : List α) (x : α) (zs : List α), xs = ys ++ x :: zs → ∀ e, P ys e → ∃ e1 e2, g (enc x) e = some e1 ∧ (a e1 = some (.nx e2) ∨ a e1 = some (.ct e2)) ∧ P (ys ++ [x]) e2) (h2 : ∀ e, P xs e → b e = o) : sSeq (sFor it g a) b env = o := by
  obtain ⟨e, h3, h4⟩ := forL_P (g := g) (a := a) P xs [] xs env rfl hs h1
  refine seq_nx (e := e) ?_ (h2 e h4)
  unfold sFor
  rw [h0]
  exact h3
theorem run_forP {xs : List α} (P : List α → List Sl → Prop) (h0 : it env = some (xs.map enc)) (hs : P [] env) (h1 : ∀ (ys : List α) (x : α) (zs : List α), xs = ys ++ x :: zs → ∀ e, P ys e → ∃ e1 e2, g (enc x) e = some e1 ∧ (a e1 = some (.nx e2) ∨ a e1 = some (.ct e2)) ∧ P (ys ++ [x]) e2) : ∃ e, sFor it g a env = some (.nx e) ∧ P xs e := by
  obtain ⟨e, h3, h4⟩ := forL_P (g := g) (a := a) P xs [] xs env rfl hs h1
  refine ⟨e, ?_, h4⟩
  unfold sFor
  rw [h0]
  exact h3
theorem rng_pre {n : Nat} {ys zs : List Int} {x : Int} (h : rngN n = ys ++ x :: zs) : x = ys.length ∧ ys.length < n := by
  have h1 : (rngN n)[ys.length]? = some x := by rw [h]; simp
  unfold rngN at h1
  rw [List.getElem?_map, Option.map_eq_some_iff] at h1
  obtain ⟨k, h2, h3⟩ := h1
  obtain ⟨h4, h5⟩ := List.getElem?_eq_some_iff.mp h2
  rw [List.getElem_range] at h5
  rw [List.length_range] at h4
  exact ⟨by omega, h4⟩
theorem seq_rngP {n : Nat} (P : Nat → List Sl → Prop) (h0 : it env = some ((rngN n).map D.int)) (hs : P 0 env) (h1 : ∀ k : Nat, k < n → ∀ e, P k e → ∃ e1 e2, g (.int k) e = some e1 ∧ (a e1 = some (.nx e2) ∨ a e1 = some (.ct e2)) ∧ P (k + 1) e2) (h2 : ∀ e, P n e → b e = o) : sSeq (sFor it g a) b env = o := by
  refine seq_forP (fun ys e => P ys.length e) h0 hs (fun ys x zs hx e he => ?_) fun e he => h2 e (by rwa [rngN_len] at he)
  obtain ⟨hx1, hx2⟩ := rng_pre hx
  subst hx1
  have := h1 ys.length hx2 e he
  simpa using this
theorem run_rngP {n : Nat} (P : Nat → List Sl → Prop) (h0 : it env = some ((rngN n).map D.int)) (hs : P 0 env) (h1 : ∀ k : Nat, k < n → ∀ e, P k e → ∃ e1 e2, g (.int k) e = some e1 ∧ (a e1 = some (.nx e2) ∨ a e1 = some (.ct e2)) ∧ P (k + 1) e2) : ∃ e, sFor it g a env = some (.nx e) ∧ P n e := by
  obtain ⟨e, h3, h4⟩ := run_forP (g := g) (a := a) (fun ys e => P ys.length e) h0 hs (fun ys x zs hx e he => by
    obtain ⟨hx1, hx2⟩ := rng_pre hx
    subst hx1
    have := h1 ys.length hx2 e he
    simpa using this)
  exact ⟨e, h3, by rwa [rngN_len] at h4⟩
theorem seq_rng {n : Nat} (st : Nat → List Sl) (h0 : it env = some ((rngN n).map D.int)) (hs : st 0 = env) (h1 : ∀ k : Nat, k < n → ∃ e1, g (.int k) (st k) = some e1 ∧ (a e1 = some (.nx (st (k + 1))) ∨ a e1 = some (.ct (st (k + 1))))) (h2 : b (st n) = o) : sSeq (sFor it g a) b env = o := by
  refine seq_rngP (fun k e => e = st k) h0 hs.symm (fun k hk e he => ?_) fun e he => by rw [he]; exact h2
  subst he
  obtain ⟨e1, h3, h4⟩ := h1 k hk
  exact ⟨e1, _, h3, h4, rfl⟩
theorem run_rng {n : Nat} (st : Nat → List Sl) (h0 : it env = some ((rngN n).map D.int)) (hs : st 0 = env) (h1 : ∀ k : Nat, k < n → ∃ e1, g (.int k) (st k) = some e1 ∧ (a e1 = some (.nx (st (k + 1))) ∨ a e1 = some (.ct (st (k + 1))))) : sFor it g a env = some (.nx (st n)) := by
  obtain ⟨e, h3, h4⟩ := run_rngP (g := g) (a := a) (fun k e => e = st k) h0 hs.symm (fun k hk e he => by
    subst he
    obtain ⟨e1, h3, h4⟩ := h1 k hk
    exact ⟨e1, _, h3, h4, rfl⟩)
  rw [h3, h4]
theorem run_for {xs : List α} (st : List α → List Sl) (h0 : it env = some (xs.map enc)) (hs : st [] = env) (h1 : ∀ (ys : List α) (x : α) (zs : List α), xs = ys ++ x :: zs → ∃ e, g (enc x) (st ys) = some e ∧ (a e = some (.nx (st (ys ++ [x]))) ∨ a e = some (.ct (st (ys ++ [x]))))) : sFor it g a env = some (.nx (st xs)) := by
  unfold sFor
  rw [h0]
  show forL g a (xs.map enc) env = _
  rw [← hs]
  exact forL_inv st xs [] xs rfl h1
theorem wh_nx {n : Nat} {e : List Sl} (h1 : t env = some true) (h2 : a env = some (.nx e)) (h3 : whL t a n e = o) : whL t a (n + 1) env = o := by
  unfold whL
  rw [h1, h2]
  exact h3
theorem wh_rt {n : Nat} (h1 : t env = some true) (h2 : a env = some (.rt d)) : whL t a (n + 1) env = some (.rt d) := by
  unfold whL
  rw [h1, h2]
  rfl
theorem wh_end {n : Nat} (h1 : t env = some false) : whL t a (n + 1) env = some (.nx env) := by
  unfold whL
  rw [h1]
  rfl
end
/-! sums, least and greatest ones -/
theorem sum_map_add {α : Type} {f g : α → Int} : ∀ xs : List α, (xs.map fun x => f x + g x).sum = (xs.map f).sum + (xs.map g).sum
  | [] => rfl
  | x :: r => by
    have := sum_map_add (f := f) (g := g) r
    simp only [List.map_cons, List.sum_cons]
    omega
theorem sum_map_le {α : Type} {f g : α → Int} : ∀ xs : List α, (∀ x ∈ xs, f x ≤ g x) → (xs.map f).sum ≤ (xs.map g).sum
  | [], _ => Int.le_refl 0
  | x :: r, h => by
    have h1 := h x List.mem_cons_self
    have h2 := sum_map_le r fun y hy => h y (List.mem_cons_of_mem _ hy)
    simp only [List.map_cons, List.sum_cons]
    omega
end PD

set_option Elab.async false
set_option linter.all false
set_option maxRecDepth 100000
namespace PD
open PySem L2
/-! ### comprehensions with two fors -/
def catM {α : Type} (F : α → Option (List D)) : List α → Option (List D)
  | [] => some []
  | x :: r => (F x).bind fun d => (catM F r).map (d ++ ·)
theorem catM_congr {α : Type} {F F' : α → Option (List D)} : ∀ (xs : List α), (∀ x ∈ xs, F x = F' x) → catM F xs = catM F' xs
  | [], _ => rfl
  | x :: r, h => by
    show (F x).bind _ = (F' x).bind _
    rw [h x List.mem_cons_self, catM_congr r fun y hy => h y (List.mem_cons_of_mem _ hy)]
theorem catM_map {α β : Type} {e : α → β} {F : β → Option (List D)} : ∀ xs : List α, catM F (xs.map e) = catM (fun x => F (e x)) xs
  | [] => rfl
  | x :: r => by
    show (F (e x)).bind _ = _
    rw [catM_map r]
    rfl
theorem catM_some {α : Type} {g : α → List D} : ∀ xs : List α, catM (fun x => some (g x)) xs = some (xs.flatMap g)
  | [] => rfl
  | x :: r => by
    show (some (g x)).bind _ = _
    rw [catM_some r]
    rfl
open Classical in
noncomputable def catE {α : Type} (xs : List α) (F : ∀ x, x ∈ xs → Option (List D)) : Option (List D) := catM (fun x => if h : x ∈ xs then F x h else none) xs
theorem catE_n {α : Type} {xs : List α} {F : α → Option (List D)} : catE xs (fun x _ => F x) = catM F xs := catM_congr xs fun x hx => dif_pos hx
theorem catE_map {α β : Type} {xs : List α} {e : α → β} {F : ∀ x, x ∈ xs.map e → Option (List D)} : catE (xs.map e) F = catE xs (fun x h => F (e x) (List.mem_map_of_mem h)) := by
  unfold catE
  rw [catM_map]
  refine catM_congr xs fun x hx => ?_
  rw [dif_pos hx, dif_pos (List.mem_map_of_mem hx)]
theorem catE_some {α : Type} {xs : List α} {g : α → List D} : catE xs (fun x _ => some (g x)) = some (xs.flatMap g) := catE_n.trans (catM_some xs)
noncomputable def catRg (n : Nat) (F : ∀ i : Int, 0 ≤ i → i < n → Option (List D)) : Option (List D) := catE (rngN n) fun x h => F x (mem_rngN h).1 (mem_rngN h).2
theorem catE_rg {n : Nat} {F : ∀ x, x ∈ rngN n → Option (List D)} : catE (rngN n) F = catRg n (fun i h0 h1 => F i (rg_in h0 h1)) := rfl
theorem catRg_some {n : Nat} {g : Int → List D} : catRg n (fun x _ _ => some (g x)) = some ((rngN n).flatMap g) := catE_some
theorem compL2_cat {t : Ft} {c : Fb} {it1 : Fl} {t1 : Ft} {c1 : Fb} {y : Fe} {vs1 : List Nat} {env : List Sl} : ∀ xs : List D, compL2 t c it1 t1 c1 y vs1 env xs = catM (fun x => (t x env).bind fun e => (c e).bind fun k => if k then (it1 e).bind fun zs => fltE zs (fun z _ => (t1 z (wipeE e vs1)).bind c1) (fun z _ => (t1 z (wipeE e vs1)).bind y) else some []) xs
  | [] => rfl
  | x :: r => by
    show ((t x env).bind fun e => (c e).bind fun k => (if k then (it1 e).bind fun zs => compL t1 c1 y (wipeE e vs1) zs else some []).bind fun ds => (compL2 t c it1 t1 c1 y vs1 env r).map (ds ++ ·)) = _
    rw [compL2_cat r]
    rw [catM]
    cases t x env with
    | none => rfl
    | some e =>
      show ((c e).bind fun k => _) = ((c e).bind fun k => _).bind _
      cases hc : c e with
      | none => rfl
      | some k =>
        simp only [Option.bind_some, compL_flt, fltE_n]
theorem ev_lc2 {own vs1 : List Nat} {it : Fl} {t : Ft} {c : Fb} {it1 : Fl} {t1 : Ft} {c1 : Fb} {y : Fe} {env : List Sl} : fLc2 own vs1 it t c it1 t1 c1 y env = (it env).bind fun xs => (catE xs fun x _ => (t x (wipeE env own)).bind fun e => (c e).bind fun k => if k then (it1 e).bind fun zs => fltE zs (fun z _ => (t1 z (wipeE e vs1)).bind c1) (fun z _ => (t1 z (wipeE e vs1)).bind y) else some []).bind fun ds => if lim ds.length then some ds else none := by
  unfold fLc2
  simp only [compL2_cat, catE_n]
/-! a range from one number up to another -/
def rngB (i j : Int) : List Int := (rngN (j - i).toNat).map fun k => i + k
theorem mem_rngB {i j x : Int} : x ∈ rngB i j ↔ i ≤ x ∧ x < j := by
  unfold rngB
  rw [List.mem_map]
  constructor
  · rintro ⟨k, hk, rfl⟩
    have := mem_rngN hk
    omega
  · intro h
    exact ⟨x - i, rg_in (by omega) (by omega), by omega⟩
theorem rngB_len {i j : Int} : (rngB i j).length = (j - i).toNat := by
  unfold rngB
  rw [List.length_map, rngN_len]
theorem rngB_0 {j : Int} : rngB 0 j = rngN j.toNat := by
  unfold rngB
  rw [show (fun k : Int => 0 + k) = id from funext fun k => by simp, List.map_id, Int.sub_zero]
def rgB : List D → Option (List D)
  | [.int i, .int j] => if rngOk i && rngOk j then some (rngL i (j - i).toNat) else none
  | _ => none
theorem rngL_from (i : Int) (n : Nat) : rngL i n = (rngN n).map fun k => D.int (i + k) := by
  unfold rngL rngN
  rw [List.map_map]
  rfl
theorem rgB_ok {i j : Int} (h0 : -1000000000 ≤ i) (h1 : i ≤ 1000000000) (h2 : -1000000000 ≤ j) (h3 : j ≤ 1000000000) : rgB [.int i, .int j] = some ((rngB i j).map D.int) := by
  unfold rngB
  show (if (rngOk i && rngOk j) = true then some (rngL i (j - i).toNat) else none) = _
  rw [if_pos (by unfold rngOk; simp [decide_eq_true h0, decide_eq_true h1, decide_eq_true h2, decide_eq_true h3]), rngL_from, List.map_map]
  rfl
theorem ev_rg2 {f : Fl} {env : List Sl} : iRg2 f env = (f env).bind rgB := by
  unfold iRg2
  cases f env with
  | none => rfl
  | some ds =>
    cases ds with
    | nil => rfl
    | cons a r =>
      cases a <;> first | rfl | (cases r with
        | nil => rfl
        | cons b r => cases b <;> first | rfl | (cases r <;> rfl))
noncomputable def mapAB (i j : Int) (F : ∀ x : Int, i ≤ x → x < j → Option D) : Option (List D) := mapME (rngB i j) fun x h => F x (mem_rngB.mp h).1 (mem_rngB.mp h).2
theorem mapME_ab {i j : Int} {F : ∀ x, x ∈ rngB i j → Option D} : mapME (rngB i j) F = mapAB i j (fun x h0 h1 => F x (mem_rngB.mpr ⟨h0, h1⟩)) := rfl
theorem mapAB_some {i j : Int} {g : Int → D} : mapAB i j (fun x _ _ => some (g x)) = some ((rngB i j).map g) := mapME_some
noncomputable def fltAB (i j : Int) (C : ∀ x : Int, i ≤ x → x < j → Option Bool) (F : ∀ x : Int, i ≤ x → x < j → Option D) : Option (List D) := fltE (rngB i j) (fun x h => C x (mem_rngB.mp h).1 (mem_rngB.mp h).2) fun x h => F x (mem_rngB.mp h).1 (mem_rngB.mp h).2
theorem fltE_ab {i j : Int} {C : ∀ x, x ∈ rngB i j → Option Bool} {F : ∀ x, x ∈ rngB i j → Option D} : fltE (rngB i j) C F = fltAB i j (fun x h0 h1 => C x (mem_rngB.mpr ⟨h0, h1⟩)) (fun x h0 h1 => F x (mem_rngB.mpr ⟨h0, h1⟩)) := rfl
noncomputable def fltABp (i j : Int) (p : Int → Bool) (F : ∀ x : Int, i ≤ x → x < j → p x = true → Option D) : Option (List D) := fltP (rngB i j) p fun x h hp => F x (mem_rngB.mp h).1 (mem_rngB.mp h).2 hp
theorem fltAB_p {i j : Int} {p : Int → Bool} {F : ∀ x : Int, i ≤ x → x < j → Option D} : fltAB i j (fun x _ _ => some (p x)) F = fltABp i j p (fun x h0 h1 _ => F x h0 h1) := fltE_p
theorem fltAB_yes {i j : Int} {F : ∀ x : Int, i ≤ x → x < j → Option D} : fltAB i j (fun x _ _ => some true) F = mapAB i j F := rfl
theorem fltABp_some {i j : Int} {p : Int → Bool} {g : Int → D} : fltABp i j p (fun x _ _ _ => some (g x)) = some (((rngB i j).filter p).map g) := fltP_some
theorem map_mapi {β : Type} {xs : List Int} {f : D → β} : (xs.map D.int).map f = xs.map fun x => f (.int x) := List.map_map ..
theorem map_mapT {β : Type} {xs : List (List Int)} {f : D → β} : (xs.map intT).map f = xs.map fun x => f (intT x) := List.map_map ..
/-! least and greatest with a default; calls with keywords -/
theorem ev_callK {g : List D → List D → Option D} {fl fk : Fl} {env : List Sl} : eCallK g fl fk env = (fl env).bind fun ds => (fk env).bind fun es => g ds es := rfl
end PD

set_option Elab.async false
set_option linter.all false
set_option maxRecDepth 100000
namespace PD
open PySem L2
/-! ### the least of pairs of a number and a tuple of numbers -/
def minW {α : Type} (lt : α → α → Bool) (x : α) (xs : List α) : α := xs.foldl (fun a y => if lt y a then y else a) x
theorem minDD_enc {α : Type} {enc : α → D} {lt : α → α → Bool} (h : ∀ a b, ltD (enc a) (enc b) = lt a b) : ∀ (xs : List α) (x : α), minDD (enc x) (xs.map enc) = enc (minW lt x xs)
  | [], x => rfl
  | y :: xs, x => by
    have ih := minDD_enc h xs (if lt y x then y else x)
    show minDD (if ltD (enc y) (enc x) then enc y else enc x) (xs.map enc) = enc (minW lt (if lt y x then y else x) xs)
    rw [← ih, h]
    split <;> rfl
theorem minW_mem {α : Type} {lt : α → α → Bool} : ∀ (xs : List α) (x : α), minW lt x xs ∈ x :: xs
  | [], x => List.mem_cons_self
  | y :: xs, x => by
    have ih := minW_mem (lt := lt) xs (if lt y x then y else x)
    show minW lt (if lt y x then y else x) xs ∈ _
    rcases List.mem_cons.mp ih with q | q
    · rw [q]
      split
      · exact List.mem_cons_of_mem _ List.mem_cons_self
      · exact List.mem_cons_self
    · exact List.mem_cons_of_mem _ (List.mem_cons_of_mem _ q)
theorem minW_le {α : Type} {lt : α → α → Bool} {R : α → α → Prop} (rf : ∀ a, R a a) (tr : ∀ a b c, R a b → R b c → R a c) (h1 : ∀ a b, lt a b = true → R a b) (h2 : ∀ a b, lt a b = false → R b a) : ∀ (xs : List α) (x : α), ∀ y ∈ x :: xs, R (minW lt x xs) y
  | [], x, y, hy => by
    rw [List.mem_singleton] at hy
    subst hy
    exact rf _
  | z :: xs, x, y, hy => by
    have ih := minW_le rf tr h1 h2 xs (if lt z x then z else x)
    show R (minW lt (if lt z x then z else x) xs) y
    have hx : R (if lt z x = true then z else x) x := by
      cases e : lt z x with
      | true => exact h1 _ _ e
      | false => exact rf _
    have hz : R (if lt z x = true then z else x) z := by
      cases e : lt z x with
      | true => exact rf _
      | false => exact h2 _ _ e
    have h0 := ih _ List.mem_cons_self
    rcases List.mem_cons.mp hy with rfl | hy
    · exact tr _ _ _ h0 hx
    · rcases List.mem_cons.mp hy with rfl | hy
      · exact tr _ _ _ h0 hz
      · exact ih y (List.mem_cons_of_mem _ hy)
def pcD (p : Int × List Int) : D := .tup [.int p.1, intT p.2]
def tokL (s : List Int) : List (Int ⊕ List Nat) := PySem.W.keyToksAll (pyL (s.map D.int))
def ltC (p q : Int × List Int) : Bool := if p.1 = q.1 then PyProof.Rows.lexLt PyProof.Rows.itemOrd (tokL p.2 ++ [.inl 0]) (tokL q.2 ++ [.inl 0]) else decide (p.1 < q.1)
theorem ltD_pc (p q : Int × List Int) : ltD (pcD p) (pcD q) = ltC p q := by
  have hd : ∀ r : Int × List Int, PySem.W.keyToks (py (pcD r)) = .inl 1 :: .inl r.1 :: .inl 1 :: (tokL r.2 ++ [.inl 0]) := fun r => by
    simp only [pcD, intT, py, pyL, PySem.W.keyToks, PySem.W.keyToksAll, List.cons_append, List.nil_append]
    rfl
  unfold ltD PySem.W.dataLt
  rw [hd, hd, PyProof.Rows.lex_self]
  unfold ltC
  by_cases e : p.1 = q.1
  · rw [if_pos e, e, PyProof.Rows.lex_self, PyProof.Rows.lex_self]
  · rw [if_neg e, PySem.W.lex_atom (fun h => e (Sum.inl.inj h))]
    exact PySem.W.dataLt_int p.1 q.1
theorem alike_ints : ∀ s t : List Int, PySem.W.alikeAll (pyL (s.map D.int)) (pyL (t.map D.int)) = true
  | [], t => by simp only [List.map_nil, pyL]; unfold PySem.W.alikeAll; rfl
  | x :: s, [] => by simp only [List.map_nil, List.map_cons, pyL]; unfold PySem.W.alikeAll; rfl
  | x :: s, y :: t => by
    have ih := alike_ints s t
    simp only [List.map_cons, pyL, py]
    unfold PySem.W.alikeAll
    rw [ih]
    simp [PySem.W.alike]
theorem okN_int62 (s : List Int) : okN 61 (intT s) = true := by
  simp only [intT, okN, List.all_eq_true]
  intro x hx
  obtain ⟨i, _, rfl⟩ := List.mem_map.mp hx
  rfl
theorem minOk_pc (xs : List (Int × List Int)) : minOk (xs.map pcD) = true := by
  unfold minOk
  simp only [Bool.and_eq_true, List.all_eq_true]
  refine ⟨⟨fun x hx => ?_, fun x hx => ?_⟩, fun x hx y hy => ?_⟩
  · obtain ⟨p, _, rfl⟩ := List.mem_map.mp hx
    have := okN_int62 p.2
    simp only [pcD, okN, List.all_cons, List.all_nil, this, Bool.and_self]
  · obtain ⟨p, _, rfl⟩ := List.mem_map.mp hx
    rfl
  · obtain ⟨p, _, rfl⟩ := List.mem_map.mp hx
    obtain ⟨q, _, rfl⟩ := List.mem_map.mp hy
    have := alike_ints p.2 q.2
    simp [alikeD, pcD, intT, py, pyL, PySem.W.alike, PySem.W.alikeAll, this]
def bestC (xs : List (Int × List Int)) : Int × List Int := match xs with
  | [] => (0, [])
  | x :: r => minW ltC x r
theorem intsOf_pc {xs : List (Int × List Int)} (h : 0 < xs.length) : intsOf (xs.map pcD) = none := by
  cases xs with
  | nil => cases h
  | cons x r => rfl
theorem gBest_pc {xs : List (Int × List Int)} (h : 0 < xs.length) : gBest minL minDD (xs.map pcD) = some (pcD (bestC xs)) := by
  unfold gBest
  rw [intsOf_pc h]
  cases xs with
  | nil => cases h
  | cons x r =>
    show (if minOk ((x :: r).map pcD) = true then some (minDD (pcD x) (r.map pcD)) else none) = _
    rw [minOk_pc, if_pos rfl, minDD_enc ltD_pc]
    rfl
theorem gMinA_pcl {xs : List (Int × List Int)} (h : 0 < xs.length) : gMinA [.lst (xs.map pcD)] = some (pcD (bestC xs)) := gBest_pc h
theorem gMinA_pct {xs : List (Int × List Int)} (h : 0 < xs.length) : gMinA [.tup (xs.map pcD)] = some (pcD (bestC xs)) := gBest_pc h
theorem bestC_mem {xs : List (Int × List Int)} (h : 0 < xs.length) : bestC xs ∈ xs := by
  cases xs with
  | nil => cases h
  | cons x r => exact minW_mem r x
theorem bestC_le {xs : List (Int × List Int)} : ∀ y ∈ xs, (bestC xs).1 ≤ y.1 := by
  cases xs with
  | nil => exact fun y hy => nomatch hy
  | cons x r =>
    refine minW_le (R := fun a b => a.1 ≤ b.1) (fun a => Int.le_refl _) (fun a b c => Int.le_trans) (fun a b h => ?_) (fun a b h => ?_) r x
    · unfold ltC at h
      split at h
      · omega
      · have := of_decide_eq_true h
        omega
    · unfold ltC at h
      split at h
      · omega
      · have := of_decide_eq_false h
        omega
/-- pairs of two numbers -/
def ltP (p q : Int × Int) : Bool := !leP q p
theorem gMinA_pair1 {xs : List (Int × Int)} (h : 0 < xs.length) : gMinA [.lst (xs.map fun p => pcD (p.1, [p.2]))] = some (pcD ((bestC (xs.map fun p => (p.1, [p.2]))))) := by
  have := gMinA_pcl (xs := xs.map fun p => (p.1, [p.2])) (by simpa using h)
  rw [List.map_map] at this
  exact this
theorem ltC_one (p q : Int × Int) : ltC (p.1, [p.2]) (q.1, [q.2]) = ltP p q := by
  have t : ∀ i : Int, tokL [i] ++ [.inl 0] = .inl 1 :: .inl i :: [.inl 0, .inl 0] := fun i => by
    simp only [tokL, List.map_cons, List.map_nil, pyL, py, PySem.W.keyToksAll, PySem.W.keyToks]
    rfl
  unfold ltC ltP leP
  simp only [t]
  by_cases e : p.1 = q.1
  · rw [if_pos e, PyProof.Rows.lex_self]
    by_cases e2 : p.2 = q.2
    · rw [e2, PyProof.Rows.lex_self, PyProof.Rows.lex_self, PyProof.Rows.lex_self]
      simp [e, PyProof.Rows.lexLt]
    · rw [PySem.W.lex_atom (fun h => e2 (Sum.inl.inj h))]
      have h2 := PySem.W.dataLt_int p.2 q.2
      unfold PySem.W.dataLt PySem.W.keyToks at h2
      rw [h2]
      rw [← decide_not]
      congr 1
      apply propext
      omega
  · rw [if_neg e, ← decide_not]
    congr 1
    apply propext
    omega
/-- the least of pairs whose second part is one number -/
theorem best_one {xs : List (Int × Int)} (h : 0 < xs.length) : ∃ p ∈ xs, bestC (xs.map fun p => (p.1, [p.2])) = (p.1, [p.2]) ∧ ∀ q ∈ xs, leP p q = true := by
  cases xs with
  | nil => cases h
  | cons x r =>
    have e : ∀ (r : List (Int × Int)) (x : Int × Int), minW ltC (x.1, [x.2]) (r.map fun p => (p.1, [p.2])) = ((minW ltP x r).1, [(minW ltP x r).2]) := by
      intro r
      induction r with
      | nil => exact fun x => rfl
      | cons y r ih =>
        intro x
        show minW ltC (if ltC (y.1, [y.2]) (x.1, [x.2]) = true then (y.1, [y.2]) else (x.1, [x.2])) (r.map fun p => (p.1, [p.2])) = _
        rw [ltC_one]
        have : (if ltP y x = true then (y.1, [y.2]) else (x.1, [x.2])) = (((if ltP y x = true then y else x).1, [(if ltP y x = true then y else x).2]) : Int × List Int) := by split <;> rfl
        rw [this, ih]
        rfl
    refine ⟨minW ltP x r, minW_mem r x, e r x, fun q hq => ?_⟩
    refine minW_le (R := fun a b => leP a b = true) leP_refl leP_trans (fun a b h => ?_) (fun a b h => ?_) r x q hq
    · unfold ltP at h
      have t := leP_total a b
      cases hb : leP b a with
      | true => rw [hb] at h; cases h
      | false => rw [hb, Bool.or_false] at t; exact t
    · unfold ltP at h
      simpa using h
end PD

set_option Elab.async false
set_option linter.all false
set_option maxRecDepth 100000
namespace PD
open PySem L2
/-! ### places of a row; what _law_like takes -/
theorem nth_map {α β : Type} [Inhabited α] [Inhabited β] {f : α → β} {xs : List α} {i : Int} (h0 : 0 ≤ i) (h1 : i < xs.length) : nth (xs.map f) i = f (nth xs i) := by
  have h : i.toNat < xs.length := by omega
  unfold nth
  simp [List.getD, h]
theorem nth_mem {α : Type} [Inhabited α] {xs : List α} {i : Int} (h0 : 0 ≤ i) (h1 : i < xs.length) : nth xs i ∈ xs := by
  have h : i.toNat < xs.length := by omega
  unfold nth
  simp only [List.getD, List.getElem?_eq_getElem h, Option.getD_some]
  exact List.getElem_mem h
theorem nth_rng {n : Nat} {i : Int} (h0 : 0 ≤ i) (h1 : i < n) : nth (rngN n) i = i := by
  have h : i.toNat < n := by omega
  unfold nth rngN
  simp [List.getD, h]
  omega
theorem nth_get {xs : List Int} {i : Nat} (h : i < xs.length) : nth xs (i : Int) = xs[i] := by
  unfold nth
  simp [List.getD, h]
theorem okL_i {n : Nat} {i : Int} : okL (n + 1) (.int i) = true := by simp [okL]
theorem okL_n {n : Nat} : okL (n + 1) .non = true := by simp [okL]
theorem okL_ints {n : Nat} {ps : List Int} (h : ps.length ≤ 1000) : okL (n + 2) (intT ps) = true := by
  simp only [okL, intT, Bool.and_eq_true, List.all_eq_true]
  refine ⟨fun x hx => ?_, by simp [lim]; omega⟩
  obtain ⟨i, _, rfl⟩ := List.mem_map.mp hx
  exact okL_i
end PD

set_option Elab.async false
set_option linter.all false
set_option maxRecDepth 100000
namespace PD
open PySem L2
/-! ### tuples of whole numbers in order -/
theorem pyL_ints (s : List Int) : pyL (s.map D.int) = s.map PyData.int := by
  rw [pyL_map, List.map_map]
  rfl
theorem eqv_ints : ∀ u v : List Int, PyData.eqvAll (u.map PyData.int) (v.map PyData.int) = decide (u = v)
  | [], [] => by simp [PyData.eqvAll]
  | [], y :: v => by simp [PyData.eqvAll]
  | x :: u, [] => by simp [PyData.eqvAll]
  | x :: u, y :: v => by
    rw [List.map_cons, List.map_cons, PySem.W.eqv_all_cons, eqv_ints u v]
    by_cases h : x = y <;> by_cases h2 : u = v <;> simp [PyData.eqv, h, h2]
theorem ltD_iT (u v : List Int) : ltD (intT u) (intT v) = decide (u < v) := by
  have h := PySem.W.dataLt_ints u v
  unfold PySem.W.rowLt at h
  unfold ltD PySem.W.dataLt
  simp only [intT, py, pyL_ints, PySem.W.keyToks]
  exact h
theorem leD_iT (u v : List Int) : leD (intT u) (intT v) = decide (u ≤ v) := by
  show (!PySem.W.dataLt (py (intT v)) (py (intT u))) = _
  have h := ltD_iT v u
  unfold ltD at h
  rw [h, ← decide_not]
  congr 1
  first | done | exact h
theorem ltC_lex (p q : Int × List Int) : ltC p q = decide (p.1 < q.1 ∨ (p.1 = q.1 ∧ p.2 < q.2)) := by
  rw [← ltD_pc]
  have ha : PySem.W.alike (py (intT p.2)) (py (intT q.2)) = true := by
    have := alike_ints p.2 q.2
    simpa [intT, py, PySem.W.alike] using this
  have e := PySem.W.dataLt_pair (x := .int p.1) (x' := .int q.1) (y := py (intT p.2)) (y' := py (intT q.2)) (by simp [PySem.W.alike]) ha
  have e1 : ltD (pcD p) (pcD q) = PySem.W.dataLt (.tuple [.int p.1, py (intT p.2)]) (.tuple [.int q.1, py (intT q.2)]) := by
    unfold ltD
    simp only [pcD, py, pyL]
  rw [e1, e, PySem.W.dataLt_int]
  have h2 : PySem.W.dataLt (py (intT p.2)) (py (intT q.2)) = decide (p.2 < q.2) := ltD_iT p.2 q.2
  have h3 : PyData.eqv (py (intT p.2)) (py (intT q.2)) = decide (p.2 = q.2) := by
    simp only [intT, py, PyData.eqv, pyL_ints]
    exact eqv_ints _ _
  rw [h2, h3]
  by_cases c : p.1 = q.1
  · by_cases c2 : p.2 = q.2
    · simp [PyData.eqv, c, c2]
    · simp [PyData.eqv, c, c2]
  · simp [PyData.eqv, c]
def leC (p q : Int × List Int) : Prop := p.1 < q.1 ∨ (p.1 = q.1 ∧ p.2 ≤ q.2)
theorem leC_refl (p : Int × List Int) : leC p p := .inr ⟨rfl, List.le_refl _⟩
theorem leC_trans (a b c : Int × List Int) (h1 : leC a b) (h2 : leC b c) : leC a c := by
  rcases h1 with h1 | ⟨h1, h1'⟩ <;> rcases h2 with h2 | ⟨h2, h2'⟩
  · exact .inl (by omega)
  · exact .inl (by omega)
  · exact .inl (by omega)
  · exact .inr ⟨by omega, List.le_trans h1' h2'⟩
theorem leC_anti {a b : Int × List Int} (h1 : leC a b) (h2 : leC b a) : a = b := by
  rcases h1 with h1 | ⟨h1, h1'⟩ <;> rcases h2 with h2 | ⟨h2, h2'⟩
  · omega
  · omega
  · omega
  · exact Prod.ext h1 (List.le_antisymm h1' h2')
theorem bestC_lex {xs : List (Int × List Int)} : ∀ y ∈ xs, leC (bestC xs) y := by
  cases xs with
  | nil => exact fun y hy => nomatch hy
  | cons x r =>
    refine minW_le (R := leC) leC_refl leC_trans (fun a b h => ?_) (fun a b h => ?_) r x
    · rw [ltC_lex, decide_eq_true_eq] at h
      rcases h with h | ⟨h, h'⟩
      · exact .inl h
      · exact .inr ⟨h, List.le_of_lt h'⟩
    · rw [ltC_lex, decide_eq_false_iff_not] at h
      by_cases c : b.1 < a.1
      · exact .inl c
      · by_cases c2 : a.1 < b.1
        · exact absurd (.inl c2) h
        · exact .inr ⟨by omega, List.not_lt.mp fun q => h (.inr ⟨by omega, q⟩)⟩
theorem bestC_eq {xs : List (Int × List Int)} {p : Int × List Int} (hp : p ∈ xs) (h : ∀ y ∈ xs, leC p y) : bestC xs = p := leC_anti (bestC_lex p hp) (h _ (bestC_mem (List.length_pos_of_mem hp)))
/-! sorted words -/
def sortW (ws : List (List Int)) : List (List Int) := ws.mergeSort fun a b => decide (a ≤ b)
theorem sortW_perm (ws : List (List Int)) : (sortW ws).Perm ws := List.mergeSort_perm ws _
theorem sortW_sorted (ws : List (List Int)) : (sortW ws).Pairwise (· ≤ ·) := by
  have := List.pairwise_mergeSort (le := fun a b : List Int => decide (a ≤ b)) (fun a b c h1 h2 => decide_eq_true (List.le_trans (of_decide_eq_true h1) (of_decide_eq_true h2))) (fun a b => by
    rcases List.le_total a b with h | h
    · simp [h]
    · simp [h]) ws
  exact this.imp fun h => of_decide_eq_true h
theorem okN_w (s : List Int) : okN 62 (intT s) = true := by
  simp only [intT, okN, List.all_eq_true]
  intro x hx
  obtain ⟨i, _, rfl⟩ := List.mem_map.mp hx
  rfl
theorem gSortA_w (ws : List (List Int)) : gSortA [.lst (ws.map intT)] = some ((sortW ws).map intT) := by
  cases ws with
  | nil =>
    show some ((sortI []).map D.int) = some ((sortW []).map intT)
    rw [List.perm_nil.mp (sortI_perm []), List.perm_nil.mp (sortW_perm [])]
    rfl
  | cons w r =>
    have h0 : intsOf ((w :: r).map intT) = none := rfl
    have hk : sortOk ((w :: r).map intT) = true := by
      unfold sortOk
      simp only [Bool.and_eq_true, Bool.or_eq_true, List.all_eq_true]
      refine ⟨⟨fun x hx => ?_, .inl fun x hx => ?_⟩, fun x hx y hy => ?_⟩
      · obtain ⟨p, _, rfl⟩ := List.mem_map.mp hx
        exact okN_w p
      · obtain ⟨p, _, rfl⟩ := List.mem_map.mp hx
        rfl
      · obtain ⟨p, _, rfl⟩ := List.mem_map.mp hx
        obtain ⟨q, _, rfl⟩ := List.mem_map.mp hy
        have := alike_ints p q
        simpa [alikeD, intT, py, PySem.W.alike] using this
    show (match intsOf ((w :: r).map intT) with
      | some ns => some ((sortI ns).map D.int)
      | none => if sortOk ((w :: r).map intT) then some (sortD ((w :: r).map intT)) else none) = _
    rw [h0, hk]
    show some (sortD ((w :: r).map intT)) = _
    congr 1
    unfold sortD sortW
    rw [List.map_mergeSort]
    intro a _ b _
    exact (leD_iT a b).symm
end PD

set_option Elab.async false
set_option linter.all false
set_option maxRecDepth 100000
namespace PD
open PySem PySem.Spec PyProof.Rows
open L2 hiding nth
/-! enumerate, by places -/
theorem enumL_map {α : Type} [Inhabited α] {f : α → D} (xs : List α) : enumL (xs.map f) = (rngN xs.length).map fun i => D.tup [.int i, f (nth xs i)] := by
  apply List.ext_getElem?
  intro i
  rw [enumL_get, List.getElem?_map, List.getElem?_map]
  by_cases h : i < xs.length
  · have h1 : xs[i]? = some xs[i] := List.getElem?_eq_getElem h
    have h2 : (rngN xs.length)[i]? = some (i : Int) := by
      unfold rngN
      rw [List.getElem?_map, List.getElem?_range h]
      rfl
    rw [h1, h2]
    have h3 : nth xs (i : Int) = xs[i] := by
      unfold nth
      rw [Int.toNat_natCast]
      simp [h]
    simp only [Option.map_some, h3]
  · have h1 : xs[i]? = none := List.getElem?_eq_none (by omega)
    have h2 : (rngN xs.length)[i]? = none := List.getElem?_eq_none (by rw [rngN_len]; omega)
    rw [h1, h2]
    rfl
theorem ev_enA {f : Fe} {env : List Sl} : iEnumA (aCons f aNil) env = (f env).bind fun d => (seqD d).map enumL := by
  unfold iEnumA
  rw [ev_cons]
  cases f env with
  | none => rfl
  | some d => cases d <;> rfl
theorem seqD_l {xs : List D} : seqD (.lst xs) = some xs := rfl
theorem seqD_t {xs : List D} : seqD (.tup xs) = some xs := rfl
theorem seqD_iT {s : List Int} : seqD (intT s) = some (s.map D.int) := rfl
theorem run_ext {i : Nat} {f : Fe} {env : List Sl} {ds es : List D} (h : f env = some (.lst es)) (h1 : env[i]? = some (.own ds)) (hz : ds.length + es.length ≤ 16777216) : sExt i f env = some (.nx (env.set i (.own (ds ++ es)))) := by
  unfold sExt
  rw [h, h1]
  show (if lim (ds.length + es.length) = true then _ else _) = _
  rw [lim_ok hz]
  rfl
end PD

set_option Elab.async false
set_option linter.all false
set_option maxRecDepth 100000
namespace PD
open PySem L2
/-- a row without repetition is no longer than one that holds it -/
theorem nodup_len {α : Type} [DecidableEq α] : ∀ (l l' : List α), l.Nodup → (∀ x ∈ l, x ∈ l') → l.length ≤ l'.length
  | [], _, _, _ => Nat.zero_le _
  | x :: l, l', hn, hs => by
    have hx : x ∈ l' := hs x List.mem_cons_self
    have h1 := nodup_len l (l'.erase x) (List.nodup_cons.mp hn).2 fun y hy => (List.mem_erase_of_ne (fun e => (List.nodup_cons.mp hn).1 (by rw [← e]; exact hy))).mpr (hs y (List.mem_cons_of_mem _ hy))
    rw [List.length_erase_of_mem hx] at h1
    have := List.length_pos_of_mem hx
    simp only [List.length_cons]
    omega
theorem rngN_nodup {n : Nat} : (rngN n).Nodup := by
  unfold rngN
  exact List.Pairwise.map (R := (· ≠ ·)) (fun k : Nat => (k : Int)) (fun a b h e => h (by omega)) List.nodup_range
/-! ### dicts whose keys are numbers and whose values are True -/
def kvT (ks : List Int) : List (D × D) := ks.map fun k => (D.int k, D.bl true)
theorem eqKd_i (a b : Int) : eqKd (.int a) (.int b) = decide (a = b) := eqF_kD (.inl a) (.inl b) |>.trans (by simp)
theorem any_T (ks : List Int) (k : Int) : ((kvT ks).any fun kv => eqKd kv.1 (.int k)) = decide (k ∈ ks) := by
  induction ks with
  | nil => simp [kvT]
  | cons a r ih =>
    show (eqKd (.int a) (.int k) || (kvT r).any fun kv => eqKd kv.1 (.int k)) = _
    rw [ih, eqKd_i]
    by_cases h : a = k
    · simp [h]
    · have h' : ¬ k = a := fun q => h q.symm
      simp [h, h']
def addK (ks : List Int) (k : Int) : List Int := if k ∈ ks then ks else ks ++ [k]
theorem putD_T (ks : List Int) (k : Int) : putD (kvT ks) (.int k) (.bl true) = kvT (addK ks k) := by
  unfold putD addK
  rw [any_T]
  by_cases h : k ∈ ks
  · rw [decide_eq_true h, if_pos rfl, if_pos h]
    unfold kvT
    rw [List.map_map]
    refine List.map_congr_left fun a _ => ?_
    show (if eqKd (.int a) (.int k) = true then (D.int a, D.bl true) else (D.int a, D.bl true)) = _
    split <;> rfl
  · rw [decide_eq_false h, if_neg (by simp), if_neg h]
    unfold kvT
    rw [List.map_append]
    rfl
theorem kvT_len (ks : List Int) : (kvT ks).length = ks.length := List.length_map ..
theorem keyOk_i (k : Int) : keyOk false (.int k) = true := rfl
theorem gLenD_T {ks : List Int} : gLenD [.dic false (kvT ks)] = some (.int ks.length) := by
  show some (D.int ((kvT ks).length : Nat)) = _
  rw [kvT_len]
theorem addK_len {ks : List Int} {k : Int} : (addK ks k).length ≤ ks.length + 1 := by
  unfold addK
  split
  · omega
  · rw [List.length_append]
    exact Nat.le_refl _
theorem putS_T {env : List Sl} {i : Nat} {ks : List Int} {k : Int} (h : env[i]? = some (.ownD false (kvT ks))) (hz : ks.length + 1 ≤ 16777216) : putS env i (.int k) (.bl true) = some (.nx (env.set i (.ownD false (kvT (addK ks k))))) := by
  unfold putS
  rw [h]
  show (if (keyOk false (.int k) && lim ((kvT ks).length + 1)) = true then _ else _) = _
  rw [kvT_len, keyOk_i, lim_ok hz, putD_T]
  rfl
theorem gDIn_T {n : Bool} {ks : List Int} {k : Int} : gDIn n (.int k) (.dic false (kvT ks)) = some (.bl (if n then !decide (k ∈ ks) else decide (k ∈ ks))) := by
  have h : (lookD (kvT ks) (.int k)).isSome = decide (k ∈ ks) := by
    rw [← any_T]
    unfold lookD
    rw [Option.isSome_map]
    induction kvT ks with
    | nil => rfl
    | cons a r ih =>
      rw [List.find?_cons, List.any_cons]
      cases eqKd a.1 (.int k) with
      | true => rfl
      | false => exact ih
  show (if keyOk false (.int k) = true then some (D.bl (if n then !(lookD (kvT ks) (.int k)).isSome else (lookD (kvT ks) (.int k)).isSome)) else none) = _
  rw [keyOk_i, if_pos rfl, h]
end PD

set_option Elab.async false
set_option linter.all false
set_option maxRecDepth 100000
namespace PD
open PySem PySem.Spec PyProof.Rows
open L2 hiding nth
/-! ### dicts whose keys are whole numbers -/
section
variable {β : Type} {e : β → D} {l : List (Int × β)} {k j : Int} {v : β}
def kvI (e : β → D) (l : List (Int × β)) : List (D × D) := l.map fun p => (D.int p.1, e p.2)
def keysI (l : List (Int × β)) : List Int := l.map (·.1)
def putI (l : List (Int × β)) (k : Int) (v : β) : List (Int × β) := if k ∈ keysI l then l.map (fun p => if p.1 = k then (p.1, v) else p) else l ++ [(k, v)]
def lookI (l : List (Int × β)) (k : Int) : Option β := (l.find? fun p => decide (p.1 = k)).map (·.2)
def valI [Inhabited β] (l : List (Int × β)) (k : Int) : β := (lookI l k).getD default
theorem kvI_len : (kvI e l).length = l.length := List.length_map ..
theorem keysI_len : (keysI l).length = l.length := List.length_map ..
theorem any_I : ((kvI e l).any fun kv => eqKd kv.1 (.int k)) = decide (k ∈ keysI l) := by
  induction l with
  | nil => simp [kvI, keysI]
  | cons a r ih =>
    show (eqKd (.int a.1) (.int k) || (kvI e r).any fun kv => eqKd kv.1 (.int k)) = _
    rw [ih, eqKd_i]
    show _ = decide (k ∈ a.1 :: keysI r)
    by_cases h : a.1 = k
    · simp [h]
    · have h' : ¬ k = a.1 := fun q => h q.symm
      simp [h, h']
theorem putD_I : putD (kvI e l) (.int k) (e v) = kvI e (putI l k v) := by
  unfold putD putI
  rw [any_I]
  by_cases h : k ∈ keysI l
  · rw [decide_eq_true h, if_pos rfl, if_pos h]
    unfold kvI
    rw [List.map_map, List.map_map]
    refine List.map_congr_left fun a _ => ?_
    show (if eqKd (.int a.1) (.int k) = true then (D.int a.1, e v) else (D.int a.1, e a.2)) = _
    rw [eqKd_i]
    by_cases q : a.1 = k
    · simp [q]
    · simp [q]
  · rw [decide_eq_false h, if_neg (by simp), if_neg h]
    unfold kvI
    rw [List.map_append]
    rfl
theorem lookD_I : lookD (kvI e l) (.int k) = (lookI l k).map e := by
  unfold lookD lookI
  induction l with
  | nil => rfl
  | cons a r ih =>
    show (((D.int a.1, e a.2) :: kvI e r).find? fun kv : D × D => eqKd kv.1 (.int k)).map (·.2) = _
    rw [List.find?_cons, List.find?_cons]
    show (match eqKd (.int a.1) (.int k) with
      | true => some (D.int a.1, e a.2)
      | false => (kvI e r).find? fun kv : D × D => eqKd kv.1 (.int k)).map (fun x : D × D => x.2) = _
    rw [eqKd_i]
    by_cases q : a.1 = k
    · simp [q]
    · rw [decide_eq_false q]
      exact ih
theorem lookI_nil : lookI ([] : List (Int × β)) k = none := rfl
theorem lookI_cons {p : Int × β} : lookI (p :: l) k = if p.1 = k then some p.2 else lookI l k := by
  unfold lookI
  rw [List.find?_cons]
  by_cases q : p.1 = k
  · simp [q]
  · simp [q]
theorem lookI_app {m : List (Int × β)} : lookI (l ++ m) k = (lookI l k).or (lookI m k) := by
  unfold lookI
  rw [List.find?_append]
  cases (l.find? fun p => decide (p.1 = k)) <;> rfl
theorem lookI_none (h : k ∉ keysI l) : lookI l k = none := by
  induction l with
  | nil => rfl
  | cons a r ih =>
    rw [lookI_cons, if_neg (fun q => h (by rw [← q]; exact List.mem_cons_self)), ih fun q => h (List.mem_cons_of_mem _ q)]
theorem lookI_some (h : k ∈ keysI l) : ∃ v, lookI l k = some v := by
  induction l with
  | nil => cases h
  | cons a r ih =>
    rw [lookI_cons]
    by_cases q : a.1 = k
    · exact ⟨_, if_pos q⟩
    · rw [if_neg q]
      rcases List.mem_cons.mp h with z | z
      · exact absurd z.symm q
      · exact ih z
theorem lookI_in [Inhabited β] (h : k ∈ keysI l) : lookI l k = some (valI l k) := by
  obtain ⟨v, hv⟩ := lookI_some h
  unfold valI
  rw [hv]
  rfl
theorem lookI_isSome : (lookI l k).isSome = decide (k ∈ keysI l) := by
  by_cases h : k ∈ keysI l
  · obtain ⟨v, hv⟩ := lookI_some h
    rw [hv, decide_eq_true h]
    rfl
  · rw [lookI_none h, decide_eq_false h]
    rfl
theorem lookI_mem {v : β} (h : lookI l k = some v) : (k, v) ∈ l := by
  induction l with
  | nil => cases h
  | cons a r ih =>
    rw [lookI_cons] at h
    by_cases q : a.1 = k
    · rw [if_pos q] at h
      cases h
      rw [← q]
      exact List.mem_cons_self
    · rw [if_neg q] at h
      exact List.mem_cons_of_mem _ (ih h)
theorem lookI_of_mem {v : β} (nd : (keysI l).Nodup) (h : (k, v) ∈ l) : lookI l k = some v := by
  induction l with
  | nil => cases h
  | cons a r ih =>
    have nd' := List.nodup_cons.mp (show (a.1 :: keysI r).Nodup from nd)
    rw [lookI_cons]
    rcases List.mem_cons.mp h with z | z
    · rw [← z]
      exact if_pos rfl
    · rw [if_neg (fun q => nd'.1 (by rw [q]; exact List.mem_map.mpr ⟨_, z, rfl⟩))]
      exact ih nd'.2 z
theorem keys_put : keysI (putI l k v) = addK (keysI l) k := by
  unfold putI addK
  by_cases h : k ∈ keysI l
  · rw [if_pos h, if_pos h]
    unfold keysI
    rw [List.map_map]
    refine List.map_congr_left fun a _ => ?_
    show (if a.1 = k then (a.1, v) else a).1 = a.1
    split <;> rfl
  · rw [if_neg h, if_neg h]
    unfold keysI
    rw [List.map_append]
    rfl
theorem mem_addK {ks : List Int} {k j : Int} : j ∈ addK ks k ↔ j ∈ ks ∨ j = k := by
  unfold addK
  by_cases h : k ∈ ks
  · rw [if_pos h]
    constructor
    · exact .inl
    · rintro (q | rfl)
      · exact q
      · exact h
  · rw [if_neg h, List.mem_append, List.mem_singleton]
theorem nodup_addK {ks : List Int} {k : Int} (h : ks.Nodup) : (addK ks k).Nodup := by
  unfold addK
  by_cases q : k ∈ ks
  · rw [if_pos q]
    exact h
  · rw [if_neg q]
    refine List.nodup_append.mpr ⟨h, by simp, fun a ha b hb e => ?_⟩
    rw [List.mem_singleton] at hb
    rw [e, hb] at ha
    exact q ha
theorem mem_put : j ∈ keysI (putI l k v) ↔ j ∈ keysI l ∨ j = k := by rw [keys_put, mem_addK]
theorem nodup_put (h : (keysI l).Nodup) : (keysI (putI l k v)).Nodup := by
  rw [keys_put]
  exact nodup_addK h
theorem lookI_rep : ∀ l : List (Int × β), lookI (l.map fun p => if p.1 = k then (p.1, v) else p) j = if j = k then (lookI l j).map fun _ => v else lookI l j
  | [] => by
    rw [List.map_nil, lookI_nil]
    split <;> rfl
  | a :: r => by
    have ih := lookI_rep r
    rw [List.map_cons, lookI_cons, lookI_cons, ih]
    by_cases h1 : a.1 = k
    · rw [if_pos h1]
      show (if a.1 = j then some v else _) = _
      by_cases h2 : a.1 = j
      · rw [if_pos h2, if_pos h2, if_pos (h2.symm.trans h1)]
        rfl
      · rw [if_neg h2, if_neg h2]
    · rw [if_neg h1]
      by_cases h2 : a.1 = j
      · rw [if_pos h2, if_pos h2, if_neg (fun q => h1 (h2.trans q))]
      · rw [if_neg h2, if_neg h2]
theorem lookI_put : lookI (putI l k v) j = if j = k then some v else lookI l j := by
  unfold putI
  by_cases h : k ∈ keysI l
  · rw [if_pos h, lookI_rep]
    by_cases hj : j = k
    · rw [if_pos hj, if_pos hj, hj]
      obtain ⟨w, hw⟩ := lookI_some h
      rw [hw]
      rfl
    · rw [if_neg hj, if_neg hj]
  · rw [if_neg h, lookI_app, lookI_cons, lookI_nil]
    by_cases q : j = k
    · rw [if_pos q, q, lookI_none h, if_pos rfl]
      rfl
    · rw [if_neg q, if_neg (fun z => q z.symm)]
      cases lookI l j <;> rfl
theorem valI_put [Inhabited β] : valI (putI l k v) j = if j = k then v else valI l j := by
  unfold valI
  rw [lookI_put]
  split <;> rfl
/-! the operations -/
theorem gDGet_I [Inhabited β] (h : k ∈ keysI l) : gDGet (.dic false (kvI e l)) (.int k) = some (e (valI l k)) := by
  show (if keyOk false (.int k) = true then lookD (kvI e l) (.int k) else none) = _
  rw [keyOk_i, if_pos rfl, lookD_I, lookI_in h]
  rfl
theorem gDGet_S [Inhabited β] (h : k ∈ sortI (keysI l)) : gDGet (.dic false (kvI e l)) (.int k) = some (e (valI l k)) := gDGet_I ((sortI_perm _).mem_iff.mp h)
theorem gDGet2_I {z : D} : gDGet2 (.dic false (kvI e l)) (.int k) z = some (((lookI l k).map e).getD z) := by
  show (if keyOk false (.int k) = true then some ((lookD (kvI e l) (.int k)).getD z) else none) = _
  rw [keyOk_i, if_pos rfl, lookD_I]
theorem gDGet2_Ii {l : List (Int × Int)} {z : Int} : gDGet2 (.dic false (kvI D.int l)) (.int k) (.int z) = some (.int ((lookI l k).getD z)) := by
  rw [gDGet2_I]
  cases lookI l k <;> rfl
theorem gDIn_I {n : Bool} : gDIn n (.int k) (.dic false (kvI e l)) = some (.bl (if n then !decide (k ∈ keysI l) else decide (k ∈ keysI l))) := by
  show (if keyOk false (.int k) = true then some (D.bl (if n then !(lookD (kvI e l) (.int k)).isSome else (lookD (kvI e l) (.int k)).isSome)) else none) = _
  rw [keyOk_i, if_pos rfl, lookD_I, Option.isSome_map, lookI_isSome]
theorem gDIn_If : gDIn false (.int k) (.dic false (kvI e l)) = some (.bl (decide (k ∈ keysI l))) := gDIn_I
theorem gDIn_It : gDIn true (.int k) (.dic false (kvI e l)) = some (.bl (!decide (k ∈ keysI l))) := gDIn_I
theorem gSortD_I (h : l.length < 64) : gSortD [.dic false (kvI e l)] = some ((sortI (keysI l)).map D.int) := by
  have q : (kvI e l).map (·.1) = (keysI l).map D.int := by
    unfold kvI keysI
    rw [List.map_map, List.map_map]
    rfl
  show ((intsOf ((kvI e l).map (·.1))).bind fun ns => if ns.length < 64 then some ((sortI ns).map D.int) else none) = _
  rw [q, intsOf_map]
  show (if (keysI l).length < 64 then some ((sortI (keysI l)).map D.int) else none) = _
  rw [keysI_len, if_pos h]
theorem gListD_I : gListD [.dic false (kvI e l)] = some ((keysI l).map D.int) := by
  show some ((kvI e l).map (·.1)) = _
  unfold kvI keysI
  rw [List.map_map, List.map_map]
  rfl
theorem keysD_I : keysD (.dic false (kvI e l)) = some ((keysI l).map D.int) := gListD_I
theorem gLenD_I : gLenD [.dic false (kvI e l)] = some (.int l.length) := by
  show some (D.int ((kvI e l).length : Nat)) = _
  rw [kvI_len]
variable {env : List Sl} {i : Nat} {f fk fo fz : Fe} {a : Cmd} {o : Option Out}
theorem putS_I (h : env[i]? = some (.ownD false (kvI e l))) (hz : l.length + 1 ≤ 16777216) : putS env i (.int k) (e v) = some (.nx (env.set i (.ownD false (kvI e (putI l k v))))) := by
  unfold putS
  rw [h]
  show (if (keyOk false (.int k) && lim ((kvI e l).length + 1)) = true then _ else _) = _
  rw [kvI_len, keyOk_i, lim_ok hz, putD_I]
  rfl
theorem run_dset (h1 : f env = some (e v)) (h2 : fk env = some (.int k)) (h : env[i]? = some (.ownD false (kvI e l))) (hz : l.length + 1 ≤ 16777216) : sDSet i fk f env = some (.nx (env.set i (.ownD false (kvI e (putI l k v))))) := by
  unfold sDSet
  rw [h1, h2]
  exact putS_I h hz
theorem ev_dgetE : eDGet fo fk env = (fo env).bind fun x => (fk env).bind fun k => gDGet x k := rfl
theorem ev_dget1E : eDGet1 fo fk env = (fo env).bind fun x => (fk env).bind fun k => gDGet2 x k .non := rfl
theorem ev_dget2E : eDGet2 fo fk fz env = (fo env).bind fun x => (fk env).bind fun k => (fz env).bind fun z => gDGet2 x k z := rfl
theorem ev_dinE {n : Bool} : eDIn n fk fo env = (fk env).bind fun k => (fo env).bind fun x => gDIn n k x := rfl
theorem ev_iky : iKy f env = (f env).bind keysD := rfl
/-- many puts -/
def putsI (l ps : List (Int × β)) : List (Int × β) := ps.foldl (fun l p => putI l p.1 p.2) l
theorem putsI_nd : ∀ {ps l : List (Int × β)}, (keysI l).Nodup → (keysI (putsI l ps)).Nodup
  | [], _, h => h
  | p :: ps, _, h => putsI_nd (ps := ps) (nodup_put h)
theorem putsI_mem {j : Int} : ∀ {ps l : List (Int × β)}, j ∈ keysI (putsI l ps) ↔ j ∈ keysI l ∨ j ∈ keysI ps
  | [], _ => by simp [putsI, keysI]
  | p :: ps, l => by
    have ih := putsI_mem (j := j) (ps := ps) (l := putI l p.1 p.2)
    show j ∈ keysI (putsI (putI l p.1 p.2) ps) ↔ j ∈ keysI l ∨ j ∈ p.1 :: keysI ps
    rw [ih, mem_put, List.mem_cons, or_assoc]
theorem putsI_snoc {ps : List (Int × β)} {p : Int × β} : putsI l (ps ++ [p]) = putI (putsI l ps) p.1 p.2 := by
  unfold putsI
  rw [List.foldl_append]
  rfl
theorem putsI_app {ps qs : List (Int × β)} : putsI l (ps ++ qs) = putsI (putsI l ps) qs := by
  unfold putsI
  rw [List.foldl_append]
theorem putI_len : (putI l k v).length ≤ l.length + 1 := by
  rw [← keysI_len, ← keysI_len, keys_put]
  exact addK_len
/-- a dict comprehension -/
theorem compD_I {α : Type} {enc : α → D} {t : Ft} {c : Fb} {ky y : Fe} {kf : α → Int} {vf : α → β} {env : List Sl} : ∀ (xs : List α) (acc : List (Int × β)), (∀ x ∈ xs, ∃ e', t (enc x) env = some e' ∧ c e' = some true ∧ ky e' = some (.int (kf x)) ∧ y e' = some (e (vf x))) → compD t c ky y env (xs.map enc) (kvI e acc) = some (kvI e (putsI acc (xs.map fun x => (kf x, vf x))))
  | [], acc, _ => rfl
  | x :: xs, acc, h => by
    obtain ⟨e', h1, h2, h3, h4⟩ := h x List.mem_cons_self
    have ih := compD_I xs (putI acc (kf x) (vf x)) fun z hz => h z (List.mem_cons_of_mem _ hz)
    show (t (enc x) env).bind _ = _
    rw [h1]
    show (c e').bind _ = _
    rw [h2]
    show (ky e').bind _ = _
    rw [h3]
    show (y e').bind _ = _
    rw [h4]
    show compD t c ky y env (xs.map enc) (putD (kvI e acc) (.int (kf x)) (e (vf x))) = _
    rw [putD_I, ih]
    rfl
theorem putsI_nodup : ∀ (ps acc : List (Int × β)), (keysI (acc ++ ps)).Nodup → putsI acc ps = acc ++ ps
  | [], acc, _ => by rw [List.append_nil]; rfl
  | p :: ps, acc, h => by
    have hn : p.1 ∉ keysI acc := fun q => by
      unfold keysI at h q
      rw [List.map_append, List.map_cons] at h
      exact (List.nodup_append.mp h).2.2 _ q _ List.mem_cons_self rfl
    have e : putI acc p.1 p.2 = acc ++ [p] := by
      unfold putI
      rw [if_neg hn]
    show putsI (putI acc p.1 p.2) ps = _
    rw [e, putsI_nodup ps (acc ++ [p]) (by rw [List.append_assoc]; exact h), List.append_assoc]
    rfl
theorem compD_F {α : Type} {enc : α → D} {t : Ft} {c : Fb} {ky y : Fe} {kf : α → Int} {vf : α → β} {p : α → Bool} {env : List Sl} : ∀ (xs : List α) (acc : List (Int × β)), (∀ x ∈ xs, ∃ e', t (enc x) env = some e' ∧ c e' = some (p x) ∧ (p x = true → ky e' = some (.int (kf x)) ∧ y e' = some (e (vf x)))) → compD t c ky y env (xs.map enc) (kvI e acc) = some (kvI e (putsI acc ((xs.filter p).map fun x => (kf x, vf x))))
  | [], acc, _ => rfl
  | x :: xs, acc, h => by
    obtain ⟨e', h1, h2, h3⟩ := h x List.mem_cons_self
    show (t (enc x) env).bind _ = _
    rw [h1]
    show (c e').bind _ = _
    rw [h2]
    cases hp : p x with
    | true =>
      obtain ⟨h4, h5⟩ := h3 hp
      show (ky e').bind _ = _
      rw [h4]
      show (y e').bind _ = _
      rw [h5]
      show compD t c ky y env (xs.map enc) (putD (kvI e acc) (.int (kf x)) (e (vf x))) = _
      rw [putD_I, compD_F xs _ fun z hz => h z (List.mem_cons_of_mem _ hz), List.filter_cons_of_pos hp]
      rfl
    | false =>
      show compD t c ky y env (xs.map enc) (kvI e acc) = _
      rw [compD_F xs _ fun z hz => h z (List.mem_cons_of_mem _ hz), List.filter_cons_of_neg (by simp [hp])]
end
end PD

set_option Elab.async false
set_option linter.all false
set_option maxRecDepth 100000
namespace PD
open PySem PySem.Spec PyProof.Rows
open L2 hiding nth
/-! ### data that are equal only if they are the same -/
def pl : Nat → D → Bool
  | _, .non => true
  | _, .int _ => true
  | _, .str x => PyData.strOk x
  | n + 1, .tup xs => xs.all (pl n)
  | n + 1, .lst xs => xs.all (pl n)
  | _, _ => false
theorem pl_okN : ∀ {n : Nat} {d : D}, pl n d = true → okN n d = true
  | n, .non, _ => by cases n <;> rfl
  | n, .int _, _ => by cases n <;> rfl
  | n, .str x, h => by
    have h' : PyData.strOk x = true := by cases n <;> simpa [pl] using h
    cases n <;> simpa [okN] using h'
  | 0, .tup _, h => by simp [pl] at h
  | 0, .lst _, h => by simp [pl] at h
  | n, .bl _, h => by cases n <;> simp [pl] at h
  | n, .dic _ _, h => by cases n <;> simp [pl] at h
  | n, .scr _, h => by cases n <;> simp [pl] at h
  | n, .st _, h => by cases n <;> simp [pl] at h
  | n + 1, .tup xs, h => by
    simp only [pl, List.all_eq_true] at h
    simp only [okN, List.all_eq_true]
    exact fun x hx => pl_okN (h x hx)
  | n + 1, .lst xs, h => by
    simp only [pl, List.all_eq_true] at h
    simp only [okN, List.all_eq_true]
    exact fun x hx => pl_okN (h x hx)
mutual
theorem eqv_pl : ∀ (n m : Nat) (x y : D), pl n x = true → pl m y = true → (PyData.eqv (py x) (py y) = true ↔ x = y)
  | n, m, .non, y, _, h => by
    cases y <;> first | (cases m <;> simp [pl] at h; done) | simp [py, PyData.eqv]
  | n, m, .int i, y, _, h => by
    cases y <;> first | (cases m <;> simp [pl] at h; done) | simp [py, PyData.eqv]
  | n, m, .str i, y, _, h => by
    cases y <;> first | (cases m <;> simp [pl] at h; done) | simp [py, PyData.eqv]
  | n, m, .bl _, y, h, _ => by cases n <;> simp [pl] at h
  | n, m, .dic _ _, y, h, _ => by cases n <;> simp [pl] at h
  | n, m, .scr _, y, h, _ => by cases n <;> simp [pl] at h
  | n, m, .st _, y, h, _ => by cases n <;> simp [pl] at h
  | 0, m, .tup _, y, h, _ => by simp [pl] at h
  | 0, m, .lst _, y, h, _ => by simp [pl] at h
  | n + 1, m, .tup xs, y, h1, h => by
    cases y with
    | tup ys =>
      cases m with
      | zero => simp [pl] at h
      | succ m =>
        simp only [pl] at h h1
        have := eqvL_pl n m xs ys h1 h
        simp only [py, PyData.eqv, D.tup.injEq]
        exact this
    | _ => first | (cases m <;> simp [pl] at h; done) | simp [py, PyData.eqv]
  | n + 1, m, .lst xs, y, h1, h => by
    cases y with
    | lst ys =>
      cases m with
      | zero => simp [pl] at h
      | succ m =>
        simp only [pl] at h h1
        have := eqvL_pl n m xs ys h1 h
        simp only [py, PyData.eqv, D.lst.injEq]
        exact this
    | _ => first | (cases m <;> simp [pl] at h; done) | simp [py, PyData.eqv]
theorem eqvL_pl : ∀ (n m : Nat) (xs ys : List D), xs.all (pl n) = true → ys.all (pl m) = true → (PyData.eqvAll (pyL xs) (pyL ys) = true ↔ xs = ys)
  | n, m, [], [], _, _ => by simp [pyL, PyData.eqvAll]
  | n, m, [], _ :: _, _, _ => by simp [pyL, PyData.eqvAll]
  | n, m, _ :: _, [], _, _ => by simp [pyL, PyData.eqvAll]
  | n, m, x :: xs, y :: ys, h1, h2 => by
    rw [List.all_cons, Bool.and_eq_true] at h1 h2
    have a := eqv_pl n m x y h1.1 h2.1
    have b := eqvL_pl n m xs ys h1.2 h2.2
    simp only [pyL, PyData.eqvAll, Bool.and_eq_true, a, b, List.cons.injEq]
end
section
variable {α : Type} [DecidableEq α] {enc : α → D}
structure Enc (enc : α → D) : Prop where
  inj : ∀ a b, enc a = enc b → a = b
  ok : ∀ a, pl 60 (enc a) = true
theorem eqD_enc (E : Enc enc) {a b : α} : eqD (enc a) (enc b) = decide (a = b) := by
  unfold eqD
  have h := eqv_pl 60 60 (enc a) (enc b) (E.ok a) (E.ok b)
  by_cases q : a = b
  · rw [decide_eq_true q]
    exact h.mpr (by rw [q])
  · rw [decide_eq_false q]
    cases e : PyData.eqv (py (enc a)) (py (enc b)) with
    | false => rfl
    | true => exact absurd (E.inj _ _ (h.mp e)) q
theorem pl_mono : ∀ {n m : Nat} {d : D}, n ≤ m → pl n d = true → pl m d = true
  | n, m, .non, _, _ => by cases m <;> rfl
  | n, m, .int _, _, _ => by cases m <;> rfl
  | n, m, .str x, _, h => by
    have h' : PyData.strOk x = true := by cases n <;> simpa [pl] using h
    cases m <;> simpa [pl] using h'
  | n, m, .bl _, _, h => by cases n <;> simp [pl] at h
  | n, m, .dic _ _, _, h => by cases n <;> simp [pl] at h
  | n, m, .scr _, _, h => by cases n <;> simp [pl] at h
  | n, m, .st _, _, h => by cases n <;> simp [pl] at h
  | 0, m, .tup _, _, h => by simp [pl] at h
  | 0, m, .lst _, _, h => by simp [pl] at h
  | n + 1, 0, _, l, _ => absurd l (by omega)
  | n + 1, m + 1, .tup xs, l, h => by
    simp only [pl, List.all_eq_true] at h ⊢
    exact fun x hx => pl_mono (Nat.le_of_succ_le_succ l) (h x hx)
  | n + 1, m + 1, .lst xs, l, h => by
    simp only [pl, List.all_eq_true] at h ⊢
    exact fun x hx => pl_mono (Nat.le_of_succ_le_succ l) (h x hx)
theorem okN_enc (E : Enc enc) {n : Nat} (hn : 60 ≤ n) {a : α} : okN n (enc a) = true := pl_okN (pl_mono hn (E.ok a))
theorem gEq_enc (E : Enc enc) {a b : α} : gEq (enc a) (enc b) = some (.bl (decide (a = b))) := by
  unfold gEq
  rw [okN_enc E (by omega), okN_enc E (by omega), eqD_enc E]
  rfl
theorem gNe_enc (E : Enc enc) {a b : α} : gNe (enc a) (enc b) = some (.bl (!decide (a = b))) := by
  unfold gNe
  rw [okN_enc E (by omega), okN_enc E (by omega), eqD_enc E]
  rfl
theorem inD_enc (E : Enc enc) {a : α} : ∀ {xs : List α}, inD (enc a) (xs.map enc) = decide (a ∈ xs)
  | [] => by simp [inD]
  | x :: xs => by
    show (eqD (enc x) (enc a) || inD (enc a) (xs.map enc)) = _
    rw [inD_enc E, eqD_enc E]
    by_cases h : x = a
    · simp [h]
    · have : ¬ a = x := fun q => h q.symm
      simp [h, this]
theorem okN_l (E : Enc enc) {xs : List α} : okN 64 (.lst (xs.map enc)) = true := by
  simp only [okN, List.all_eq_true]
  intro d hd
  obtain ⟨a, _, rfl⟩ := List.mem_map.mp hd
  exact okN_enc E (by omega)
theorem okN_t (E : Enc enc) {xs : List α} : okN 64 (.tup (xs.map enc)) = true := by
  simp only [okN, List.all_eq_true]
  intro d hd
  obtain ⟨a, _, rfl⟩ := List.mem_map.mp hd
  exact okN_enc E (by omega)
theorem gIn_el (E : Enc enc) {a : α} {xs : List α} : gIn (enc a) (.lst (xs.map enc)) = some (.bl (decide (a ∈ xs))) := by
  show (if (okN 64 (enc a) && okN 64 (.lst (xs.map enc))) = true then some (D.bl (inD (enc a) (xs.map enc))) else none) = _
  rw [okN_enc E (by omega), okN_l E, inD_enc E]
  rfl
theorem gIn_et (E : Enc enc) {a : α} {xs : List α} : gIn (enc a) (.tup (xs.map enc)) = some (.bl (decide (a ∈ xs))) := by
  show (if (okN 64 (enc a) && okN 64 (.tup (xs.map enc))) = true then some (D.bl (inD (enc a) (xs.map enc))) else none) = _
  rw [okN_enc E (by omega), okN_t E, inD_enc E]
  rfl
theorem gNotIn_el (E : Enc enc) {a : α} {xs : List α} : gNotIn (enc a) (.lst (xs.map enc)) = some (.bl (!decide (a ∈ xs))) := by
  show (if (okN 64 (enc a) && okN 64 (.lst (xs.map enc))) = true then some (D.bl (!inD (enc a) (xs.map enc))) else none) = _
  rw [okN_enc E (by omega), okN_l E, inD_enc E]
  rfl
theorem gNotIn_et (E : Enc enc) {a : α} {xs : List α} : gNotIn (enc a) (.tup (xs.map enc)) = some (.bl (!decide (a ∈ xs))) := by
  show (if (okN 64 (enc a) && okN 64 (.tup (xs.map enc))) = true then some (D.bl (!inD (enc a) (xs.map enc))) else none) = _
  rw [okN_enc E (by omega), okN_t E, inD_enc E]
  rfl
theorem map_inj {f : α → D} (hf : ∀ a b, f a = f b → a = b) : ∀ {xs ys : List α}, xs.map f = ys.map f → xs = ys
  | [], [], _ => rfl
  | [], _ :: _, h => by cases h
  | _ :: _, [], h => by cases h
  | x :: xs, y :: ys, h => by
    simp only [List.map_cons, List.cons.injEq] at h
    rw [hf _ _ h.1, map_inj hf h.2]
/-- of lists and tuples of such -/
theorem enc_tup {m : Nat} (hm : m + 1 ≤ 60) (hi : ∀ a b, enc a = enc b → a = b) (hp : ∀ a, pl m (enc a) = true) : Enc (fun xs : List α => D.tup (xs.map enc)) where
  inj a b h := map_inj hi (D.tup.inj h)
  ok a := pl_mono hm (by
    simp only [pl, List.all_eq_true]
    intro d hd
    obtain ⟨x, _, rfl⟩ := List.mem_map.mp hd
    exact hp x)
theorem enc_lst {m : Nat} (hm : m + 1 ≤ 60) (hi : ∀ a b, enc a = enc b → a = b) (hp : ∀ a, pl m (enc a) = true) : Enc (fun xs : List α => D.lst (xs.map enc)) where
  inj a b h := map_inj hi (D.lst.inj h)
  ok a := pl_mono hm (by
    simp only [pl, List.all_eq_true]
    intro d hd
    obtain ⟨x, _, rfl⟩ := List.mem_map.mp hd
    exact hp x)
theorem enc_int : Enc D.int := ⟨fun a b h => D.int.inj h, fun a => rfl⟩
theorem enc_intT : Enc intT := enc_tup (m := 0) (by omega) (fun a b h => D.int.inj h) (fun a => rfl)
end
end PD

set_option Elab.async false
set_option linter.all false
set_option maxRecDepth 100000
namespace PD
open PySem PySem.Spec PyProof.Rows
open L2 hiding nth
/-! ### x[i] = v, x[i] += v, of a list of its own -/
section
variable {α : Type} [Inhabited α] {enc : α → D} {i : Nat} {fi f : Fe} {env : List Sl} {l : List α} {z : Int} {y : α}
theorem ixN_ok {n : Nat} {z : Int} (h0 : 0 ≤ z) (h1 : z < n) : ixN n z = some z.toNat := by
  unfold ixN
  rw [if_pos h0, if_pos h1]
theorem run_setE (he : env[i]? = some (.own (l.map enc))) (h1 : fi env = some (.int z)) (h2 : f env = some (enc y)) (h0 : 0 ≤ z) (hz : z < l.length) : sSetI i fi f env = some (.nx (env.set i (.own ((l.set z.toNat y).map enc)))) := by
  unfold sSetI
  rw [h2, Option.bind_some, h1, Option.bind_some, he]
  show (ixN (l.map enc).length z).map _ = _
  rw [ixN_ok h0 (by rw [List.length_map]; exact hz), List.map_set]
  rfl
theorem run_augE {l : List Int} {y : Int} (he : env[i]? = some (.own (l.map D.int))) (h1 : fi env = some (.int z)) (h2 : f env = some (.int y)) (h0 : 0 ≤ z) (hz : z < l.length) : sAugI i (gI (fun _ _ => true) fun i j => .int (i + j)) fi f env = some (.nx (env.set i (.own ((l.set z.toNat (nth l z + y)).map D.int)))) := by
  have at_int : (l.map D.int)[z.toNat]? = some (.int (nth l z)) := at_nth h0 hz
  unfold sAugI
  rw [h1, Option.bind_some, he]
  show (ixN (l.map D.int).length z).bind _ = _
  rw [ixN_ok h0 (by rw [List.length_map]; exact hz), Option.bind_some, at_int, Option.bind_some, h2, Option.bind_some, List.map_set]
  rfl
theorem rep_flat {d : D} (n : Nat) : (List.replicate n [d]).flatten = List.replicate n d := by
  induction n with
  | zero => rfl
  | succ n ih =>
    rw [List.replicate_succ, List.flatten_cons, ih]
    rfl
theorem nth_set {l : List α} {z j : Int} {y : α} (h0 : 0 ≤ z) (hz : z < l.length) (j0 : 0 ≤ j) : nth (l.set z.toNat y) j = if j = z then y else nth l j := by
  unfold nth
  rw [List.getD_eq_getElem?_getD, List.getD_eq_getElem?_getD, List.getElem?_set]
  by_cases h : j = z
  · subst h
    rw [if_pos rfl, if_pos rfl, if_pos (by omega)]
    rfl
  · rw [if_neg (by omega), if_neg h]
end
theorem run_aug {i : Nat} {g : D → D → Option D} {f : Fe} {env : List Sl} {x y d : D} (h : env[i]? = some (.val x)) (h1 : f env = some y) (h2 : g x y = some d) : sAug i g f env = some (.nx (env.set i (.val d))) := by
  have hb : bVar i env = some x := by
    rw [ev_bvar, h]
    rfl
  unfold sAug
  rw [hb]
  show (f env).bind _ = _
  rw [h1]
  show (g x y).map _ = _
  rw [h2]
  rfl
theorem ev_fop {g : D → D → Option (List D)} {fa fb : Fe} {env : List Sl} : fOp g fa fb env = (fa env).bind fun x => (fb env).bind fun y => g x y := rfl
theorem gRep_e {d : D} {n : Nat} (h : n ≤ 1000000) : gRepF (.lst [d]) (.int (n : Int)) = some (List.replicate n d) := by
  show (if (decide (-1000000000 ≤ (n : Int)) && decide ((n : Int) ≤ 1000000000) && lim (1 * (n : Int).toNat)) = true then some (List.replicate (n : Int).toNat [d]).flatten else none) = _
  rw [decide_eq_true (show -1000000000 ≤ (n : Int) by omega), decide_eq_true (show (n : Int) ≤ 1000000000 by omega), lim_ok (by omega), Int.toNat_natCast, rep_flat]
  rfl
theorem gAugAdd_i {i j : Int} : (gI (fun _ _ => true) fun i j => .int (i + j)) (.int i) (.int j) = some (.int (i + j)) := rfl
section
variable {g : Ft} {it : Fl} {enc : Int → D} {a b : Cmd} {env : List Sl} {o : Option Out}
/-- a loop over what is told of 0, 1, .. -/
theorem seq_rngE {n : Nat} (P : Nat → List Sl → Prop) (h0 : it env = some ((rngN n).map enc)) (hs : P 0 env) (h1 : ∀ k : Nat, k < n → ∀ e, P k e → ∃ e1 e2, g (enc k) e = some e1 ∧ (a e1 = some (.nx e2) ∨ a e1 = some (.ct e2)) ∧ P (k + 1) e2) (h2 : ∀ e, P n e → b e = o) : sSeq (sFor it g a) b env = o := by
  refine seq_forP (fun ys e => P ys.length e) h0 hs (fun ys x zs hx e he => ?_) fun e he => h2 e (by rwa [rngN_len] at he)
  obtain ⟨hx1, hx2⟩ := rng_pre hx
  subst hx1
  have := h1 ys.length hx2 e he
  simpa using this
theorem run_rngE {n : Nat} (P : Nat → List Sl → Prop) (h0 : it env = some ((rngN n).map enc)) (hs : P 0 env) (h1 : ∀ k : Nat, k < n → ∀ e, P k e → ∃ e1 e2, g (enc k) e = some e1 ∧ (a e1 = some (.nx e2) ∨ a e1 = some (.ct e2)) ∧ P (k + 1) e2) : ∃ e, sFor it g a env = some (.nx e) ∧ P n e := by
  obtain ⟨e, h3, h4⟩ := run_forP (g := g) (a := a) (fun ys e => P ys.length e) h0 hs (fun ys x zs hx e he => by
    obtain ⟨hx1, hx2⟩ := rng_pre hx
    subst hx1
    have := h1 ys.length hx2 e he
    simpa using this)
  exact ⟨e, h3, by rwa [rngN_len] at h4⟩
end
theorem fltE_two {α : Type} {a b : α} {C : α → Option Bool} {F : α → Option D} : fltE [a, b] (fun x _ => C x) (fun x _ => F x) = fltM C F [a, b] := fltE_n
theorem fltM_c {α : Type} {C : α → Option Bool} {F : α → Option D} {x : α} {r : List α} : fltM C F (x :: r) = (C x).bind fun k => if k then (F x).bind fun d => (fltM C F r).map (d :: ·) else fltM C F r := rfl
theorem fltM_n {α : Type} {C : α → Option Bool} {F : α → Option D} : fltM C F [] = some [] := rfl
theorem gAdd_t1 {xs : List Int} {a : Int} (h : xs.length + 1 ≤ 16777216) : gAdd (.tup (xs.map D.int)) (.tup [.int a]) = some (.tup ((xs ++ [a]).map D.int)) := gAdd_tt (e := D.int) (xs := xs) (ys := [a]) h
theorem gAdd_l1 {xs : List Int} {a : Int} (h : xs.length + 1 ≤ 16777216) : gAdd (.lst (xs.map D.int)) (.lst [.int a]) = some (.lst ((xs ++ [a]).map D.int)) := gAdd_ll (e := D.int) (xs := xs) (ys := [a]) h
theorem gAdd_l2 {xs : List Int} {a b : Int} (h : xs.length + 2 ≤ 16777216) : gAdd (.lst (xs.map D.int)) (.lst [.int a, .int b]) = some (.lst ((xs ++ [a, b]).map D.int)) := gAdd_ll (e := D.int) (xs := xs) (ys := [a, b]) h
end PD

set_option Elab.async false
set_option linter.all false
set_option maxRecDepth 100000
set_option maxHeartbeats 4000000
namespace K65
open PySem PD
open L2 hiding nth
theorem e_row : run_l_row = PD.run_l_row := rfl
theorem e_like : ∀ n, K65.run_l_like n = PD.run_l_like n
  | 0 => rfl
  | n + 1 => by
    show runC 2 1 (K65.b_l_like (K65.run_l_like n)) = runC 2 1 (PD.b_l_like (PD.run_l_like n))
    rw [e_like n]
    rfl
theorem l8 {d : D} (h : okL 8 d = true) : run_l_like 8 [d, d] = some (.bl true) := by
  rw [e_like]
  exact like_refl 8 d h
theorem okL_i {n : Nat} {i : Int} : okL (n + 1) (.int i) = true := by simp [okL]
theorem okL_ints {n : Nat} {ps : List Int} (h : ps.length ≤ 1000) : okL (n + 2) (intT ps) = true := by
  simp only [okL, intT, Bool.and_eq_true, List.all_eq_true]
  refine ⟨fun x hx => ?_, by simp [lim]; omega⟩
  obtain ⟨i, _, rfl⟩ := List.mem_map.mp hx
  exact okL_i
theorem mod_lt {a b : Int} (h : 0 < b) : 0 ≤ a % b ∧ a % b < b := ⟨Int.emod_nonneg _ (by omega), Int.emod_lt_of_pos _ h⟩
/-! ### marks -/
def Sm (k : Int) : Prop := -2000000 ≤ k ∧ k ≤ 2000000
def marks (key n : Int) : List Int := [(key * key + 3 * key + 1) % n, (5 * key + 2) % n, (7 * key * key + 4) % n]
theorem marks_rg {key n : Int} (h : 0 < n) : ∀ p ∈ marks key n, 0 ≤ p ∧ p < n := fun p hp => by
  simp only [marks, List.mem_cons, List.not_mem_nil, or_false] at hp
  rcases hp with rfl | rfl | rfl <;> exact mod_lt h
theorem run_marks {key n : Int} (hn : 0 < n) (hk : Sm key) : run_marks_of [.int key, .int n] = some (intT (marks key n)) := by
  have h1 := hk.1
  have h2 := hk.2
  refine runC_rt rfl ?_
  simp only [List.map_cons, List.map_nil, List.replicate, List.cons_append, List.nil_append, List.set_cons_succ, List.set_cons_zero]
  refine run_ret ?_
  simp -implicitDefEqProofs (disch := first | assumption | omega | (simp only [List.length_map, rngN_len, sortI_len]; omega)) only [ev_asL, ev_lc, ev_rg1', ev_call, ev_cons, ev_nil, ev_op, ev_c, ev_bvar, ev_var, List.getElem?_cons_succ, List.getElem?_cons_zero, Option.bind_some, Option.map_some, slB_val, slV_val, slB_own, gLen_l, gLen_t, gLen_iT, List.length_map, rgA_1, rgO_ok, lim_ok, rngN_len, if_true, ↓fltE_map, ↓mapME_map, ev_gNm, ev_tYes, wipe_cons, wipe_nil, List.set_cons_succ, List.set_cons_zero, fltE_yes, fltE_p, fltP_some, fltE_rg, fltRg_p, fltRg_yes, fltRp_some, mapME_rg, mapRg_some, ev_iseq, itemsD_l, itemsD_t, mapME_some, gIx_lm, gIx_tm, Int.toNat_natCast, gAdd_i, gSub_i, map_i, ev_un, ev_asB, ev_asT, ev_not, ev_and, ev_or, ev_eif, ev_fcall, blD_bl, gEq_i, gNe_i, gLt_i, gLe_i, gGt_i, gGe_i, gNeg_i, truD_bl, ev_fn, gTuple_l, gTuple_t, gMod_i, gDiv_i, gMul_l, gMul_r, gMaxA_l', gMinA_l', gMaxA_t', gMinA_t', gSortA_l', gSortA_t', sortI_len, gIx_last, truD_lm, truD_tm, ev_m1, gIndex_i, ev_oNo, ev_oYes, intO_i, ev_sl, gSl_l, gSl_t, cutD_map, gInt_i, gInt_b, gAbs_i, gSum_l, gSum_t, ev_isi, ev_eand, ev_eor, ev_enot, gIn_il, gIn_it, gNotIn_il, gNotIn_it, gIs_n, gIsNot_n, isNon_n, isNon_t, isNon_l, isNon_i, isNon_b, ev_tup, ev_lst, limT_0, mkL_0, limT_1, mkL_1, limT_2, mkL_2, limT_3, mkL_3, limT_4, mkL_4, limT_5, mkL_5, limT_6, mkL_6, limT_7, mkL_7, limT_8, mkL_8, gAdd_ll, gAdd_tt, gMax2_i, gMin2_i, gIx_p0, gIx_p1, ev_rev, cutD_take, cutD_drop, gSortA_pair, some_or, some_and, bl_or, bl_and, gIx_t0, gIx_l0, gIx_t1, gIx_l1, gIx_t2, gIx_l2, gIx_t3, gIx_l3, gIx_t4, gIx_l4, gIx_t5, gIx_l5, ev_lc2, ↓catE_map, catE_some, catE_rg, catRg_some, ev_rg2, rgB_ok, mapME_ab, mapAB_some, fltE_ab, fltAB_p, fltAB_yes, fltABp_some, ev_callK, map_mapi, map_mapT]
  rfl
theorem run_lmarks {key n : Int} (hn : 0 < n) (hk : Sm key) : run_l_marks [.int key, .int n] = some (.lst ((marks key n).map D.int)) := by
  have h1 := hk.1
  have h2 := hk.2
  refine runC_rt rfl ?_
  simp only [List.map_cons, List.map_nil, List.replicate, List.cons_append, List.nil_append, List.set_cons_succ, List.set_cons_zero]
  refine run_ret ?_
  simp -implicitDefEqProofs (disch := first | assumption | omega | (simp only [List.length_map, rngN_len, sortI_len]; omega)) only [ev_asL, ev_lc, ev_rg1', ev_call, ev_cons, ev_nil, ev_op, ev_c, ev_bvar, ev_var, List.getElem?_cons_succ, List.getElem?_cons_zero, Option.bind_some, Option.map_some, slB_val, slV_val, slB_own, gLen_l, gLen_t, gLen_iT, List.length_map, rgA_1, rgO_ok, lim_ok, rngN_len, if_true, ↓fltE_map, ↓mapME_map, ev_gNm, ev_tYes, wipe_cons, wipe_nil, List.set_cons_succ, List.set_cons_zero, fltE_yes, fltE_p, fltP_some, fltE_rg, fltRg_p, fltRg_yes, fltRp_some, mapME_rg, mapRg_some, ev_iseq, itemsD_l, itemsD_t, mapME_some, gIx_lm, gIx_tm, Int.toNat_natCast, gAdd_i, gSub_i, map_i, ev_un, ev_asB, ev_asT, ev_not, ev_and, ev_or, ev_eif, ev_fcall, blD_bl, gEq_i, gNe_i, gLt_i, gLe_i, gGt_i, gGe_i, gNeg_i, truD_bl, ev_fn, gTuple_l, gTuple_t, gMod_i, gDiv_i, gMul_l, gMul_r, gMaxA_l', gMinA_l', gMaxA_t', gMinA_t', gSortA_l', gSortA_t', sortI_len, gIx_last, truD_lm, truD_tm, ev_m1, gIndex_i, ev_oNo, ev_oYes, intO_i, ev_sl, gSl_l, gSl_t, cutD_map, gInt_i, gInt_b, gAbs_i, gSum_l, gSum_t, ev_isi, ev_eand, ev_eor, ev_enot, gIn_il, gIn_it, gNotIn_il, gNotIn_it, gIs_n, gIsNot_n, isNon_n, isNon_t, isNon_l, isNon_i, isNon_b, ev_tup, ev_lst, limT_0, mkL_0, limT_1, mkL_1, limT_2, mkL_2, limT_3, mkL_3, limT_4, mkL_4, limT_5, mkL_5, limT_6, mkL_6, limT_7, mkL_7, limT_8, mkL_8, gAdd_ll, gAdd_tt, gMax2_i, gMin2_i, gIx_p0, gIx_p1, ev_rev, cutD_take, cutD_drop, gSortA_pair, some_or, some_and, bl_or, bl_and, gIx_t0, gIx_l0, gIx_t1, gIx_l1, gIx_t2, gIx_l2, gIx_t3, gIx_l3, gIx_t4, gIx_l4, gIx_t5, gIx_l5, ev_lc2, ↓catE_map, catE_some, catE_rg, catRg_some, ev_rg2, rgB_ok, mapME_ab, mapAB_some, fltE_ab, fltAB_p, fltAB_yes, fltABp_some, ev_callK, map_mapi, map_mapT]
  rfl
def setM (b : List Int) (p : Int) : List Int := b.set p.toNat 1
def bitsL (keys : List Int) (n : Nat) : List Int := (keys.flatMap fun k => marks k n).foldl setM (List.replicate n 0)
theorem fold_len : ∀ (ps b : List Int), (ps.foldl setM b).length = b.length
  | [], b => rfl
  | p :: ps, b => by
    rw [List.foldl_cons, fold_len ps]
    exact List.length_set
theorem bits_len {keys : List Int} {n : Nat} : (bitsL keys n).length = n := by
  unfold bitsL
  rw [fold_len, List.length_replicate]
theorem bits_snoc {ys : List Int} {k : Int} {n : Nat} : bitsL (ys ++ [k]) n = (marks k n).foldl setM (bitsL ys n) := by
  unfold bitsL
  rw [List.flatMap_append, List.foldl_append]
  simp
/-- the marks of one key are set -/
theorem run_set3 {it : Fl} {v0 v1 v3 x : Sl} {tl : List Sl} {b ms : List Int} (hit : it (v0 :: v1 :: .own (b.map D.int) :: v3 :: x :: tl) = some (ms.map D.int)) (hm : ∀ p ∈ ms, 0 ≤ p ∧ p < b.length) :
    ∃ x', sFor it (gNm 4) (sSetI 2 (bVar 4) (eC (.int 1))) (v0 :: v1 :: .own (b.map D.int) :: v3 :: x :: tl) = some (.nx (v0 :: v1 :: .own ((ms.foldl setM b).map D.int) :: v3 :: x' :: tl)) := by
  obtain ⟨e, he, x', rfl⟩ := run_forP (xs := ms) (enc := D.int) (it := it) (g := gNm 4) (a := sSetI 2 (bVar 4) (eC (.int 1))) (env := v0 :: v1 :: .own (b.map D.int) :: v3 :: x :: tl)
    (fun ys e => ∃ x', e = v0 :: v1 :: .own ((ys.foldl setM b).map D.int) :: v3 :: x' :: tl) hit ⟨x, rfl⟩ fun ys p zs hx e he => by
      obtain ⟨x', rfl⟩ := he
      have hp := hm p (by rw [hx]; exact List.mem_append_right _ List.mem_cons_self)
      refine ⟨_, _, rfl, .inl (run_setE (i := 2) (l := ys.foldl setM b) (z := p) (y := (1 : Int)) (enc := D.int) rfl rfl rfl hp.1 (by rw [fold_len]; exact hp.2)), .val (.int p), ?_⟩
      rw [List.foldl_append]
      rfl
  exact ⟨x', he⟩
theorem run_bits {keys : List Int} {n : Nat} (hn : 0 < n) (hn2 : n ≤ 1000) (hk : ∀ k ∈ keys, Sm k) : run_mark_bits [intT keys, .int n] = some (intT (bitsL keys n)) := by
  refine runC_rt rfl ?_
  simp only [List.map_cons, List.map_nil, List.replicate, List.cons_append, List.nil_append, List.set_cons_succ, List.set_cons_zero]
  refine seq_setO (ds := (List.replicate n (0 : Int)).map D.int) (by
    rw [List.map_replicate]
    exact gRep_e (d := .int 0) (by omega)) ?_
  simp only [List.set_cons_succ, List.set_cons_zero]
  refine seq_forP (xs := keys) (enc := D.int) (fun ys e => ∃ a b, e = [.val (intT keys), .val (.int n), .own ((bitsL ys n).map D.int), a, b]) rfl ⟨_, _, rfl⟩ (fun ys k zs hx e he => ?_) fun e he => ?_
  · obtain ⟨a, b, rfl⟩ := he
    have hkk := hk k (by rw [hx]; exact List.mem_append_right _ List.mem_cons_self)
    have hm := run_marks (n := n) (by omega) hkk
    obtain ⟨x', hr⟩ := run_set3 (it := iSeq (eFn run_marks_of (aCons (eVar 3) (aCons (eVar 1) aNil)))) (v0 := .val (intT keys)) (v1 := .val (.int n)) (v3 := .val (.int k)) (x := b) (tl := []) (b := bitsL ys n) (ms := marks k n) (by
      simp -implicitDefEqProofs (disch := first | assumption | omega | (simp only [List.length_map, rngN_len, sortI_len]; omega)) only [ev_asL, ev_lc, ev_rg1', ev_call, ev_cons, ev_nil, ev_op, ev_c, ev_bvar, ev_var, List.getElem?_cons_succ, List.getElem?_cons_zero, Option.bind_some, Option.map_some, slB_val, slV_val, slB_own, gLen_l, gLen_t, gLen_iT, List.length_map, rgA_1, rgO_ok, lim_ok, rngN_len, if_true, ↓fltE_map, ↓mapME_map, ev_gNm, ev_tYes, wipe_cons, wipe_nil, List.set_cons_succ, List.set_cons_zero, fltE_yes, fltE_p, fltP_some, fltE_rg, fltRg_p, fltRg_yes, fltRp_some, mapME_rg, mapRg_some, ev_iseq, itemsD_l, itemsD_t, mapME_some, gIx_lm, gIx_tm, Int.toNat_natCast, gAdd_i, gSub_i, map_i, ev_un, ev_asB, ev_asT, ev_not, ev_and, ev_or, ev_eif, ev_fcall, blD_bl, gEq_i, gNe_i, gLt_i, gLe_i, gGt_i, gGe_i, gNeg_i, truD_bl, ev_fn, gTuple_l, gTuple_t, gMod_i, gDiv_i, gMul_l, gMul_r, gMaxA_l', gMinA_l', gMaxA_t', gMinA_t', gSortA_l', gSortA_t', sortI_len, gIx_last, truD_lm, truD_tm, ev_m1, gIndex_i, ev_oNo, ev_oYes, intO_i, ev_sl, gSl_l, gSl_t, cutD_map, gInt_i, gInt_b, gAbs_i, gSum_l, gSum_t, ev_isi, ev_eand, ev_eor, ev_enot, gIn_il, gIn_it, gNotIn_il, gNotIn_it, gIs_n, gIsNot_n, isNon_n, isNon_t, isNon_l, isNon_i, isNon_b, ev_tup, ev_lst, limT_0, mkL_0, limT_1, mkL_1, limT_2, mkL_2, limT_3, mkL_3, limT_4, mkL_4, limT_5, mkL_5, limT_6, mkL_6, limT_7, mkL_7, limT_8, mkL_8, gAdd_ll, gAdd_tt, gMax2_i, gMin2_i, gIx_p0, gIx_p1, ev_rev, cutD_take, cutD_drop, gSortA_pair, some_or, some_and, bl_or, bl_and, gIx_t0, gIx_l0, gIx_t1, gIx_l1, gIx_t2, gIx_l2, gIx_t3, gIx_l3, gIx_t4, gIx_l4, gIx_t5, gIx_l5, ev_lc2, ↓catE_map, catE_some, catE_rg, catRg_some, ev_rg2, rgB_ok, mapME_ab, mapAB_some, fltE_ab, fltAB_p, fltAB_yes, fltABp_some, ev_callK, map_mapi, map_mapT, hm]
      rfl) (fun p hp => by rw [bits_len]; exact marks_rg (by omega) p hp)
    rw [← bits_snoc] at hr
    exact ⟨_, _, rfl, .inl hr, _, _, rfl⟩
  · obtain ⟨a, b, rfl⟩ := he
    exact run_ret rfl
theorem run_lbits {keys : List Int} {n : Nat} (hn : 0 < n) (hn2 : n ≤ 1000) (hk : ∀ k ∈ keys, Sm k) : run_l_bits [intT keys, .int n] = some (.lst ((bitsL keys n).map D.int)) := by
  refine runC_rt rfl ?_
  simp only [List.map_cons, List.map_nil, List.replicate, List.cons_append, List.nil_append, List.set_cons_succ, List.set_cons_zero]
  refine seq_setO (ds := (List.replicate n (0 : Int)).map D.int) (by
    simp -implicitDefEqProofs (disch := first | assumption | omega | (simp only [List.length_map, rngN_len, sortI_len]; omega)) only [ev_asL, ev_lc, ev_rg1', ev_call, ev_cons, ev_nil, ev_op, ev_c, ev_bvar, ev_var, List.getElem?_cons_succ, List.getElem?_cons_zero, Option.bind_some, Option.map_some, slB_val, slV_val, slB_own, gLen_l, gLen_t, gLen_iT, List.length_map, rgA_1, rgO_ok, lim_ok, rngN_len, if_true, ↓fltE_map, ↓mapME_map, ev_gNm, ev_tYes, wipe_cons, wipe_nil, List.set_cons_succ, List.set_cons_zero, fltE_yes, fltE_p, fltP_some, fltE_rg, fltRg_p, fltRg_yes, fltRp_some, mapME_rg, mapRg_some, ev_iseq, itemsD_l, itemsD_t, mapME_some, gIx_lm, gIx_tm, Int.toNat_natCast, gAdd_i, gSub_i, map_i, ev_un, ev_asB, ev_asT, ev_not, ev_and, ev_or, ev_eif, ev_fcall, blD_bl, gEq_i, gNe_i, gLt_i, gLe_i, gGt_i, gGe_i, gNeg_i, truD_bl, ev_fn, gTuple_l, gTuple_t, gMod_i, gDiv_i, gMul_l, gMul_r, gMaxA_l', gMinA_l', gMaxA_t', gMinA_t', gSortA_l', gSortA_t', sortI_len, gIx_last, truD_lm, truD_tm, ev_m1, gIndex_i, ev_oNo, ev_oYes, intO_i, ev_sl, gSl_l, gSl_t, cutD_map, gInt_i, gInt_b, gAbs_i, gSum_l, gSum_t, ev_isi, ev_eand, ev_eor, ev_enot, gIn_il, gIn_it, gNotIn_il, gNotIn_it, gIs_n, gIsNot_n, isNon_n, isNon_t, isNon_l, isNon_i, isNon_b, ev_tup, ev_lst, limT_0, mkL_0, limT_1, mkL_1, limT_2, mkL_2, limT_3, mkL_3, limT_4, mkL_4, limT_5, mkL_5, limT_6, mkL_6, limT_7, mkL_7, limT_8, mkL_8, gAdd_ll, gAdd_tt, gMax2_i, gMin2_i, gIx_p0, gIx_p1, ev_rev, cutD_take, cutD_drop, gSortA_pair, some_or, some_and, bl_or, bl_and, gIx_t0, gIx_l0, gIx_t1, gIx_l1, gIx_t2, gIx_l2, gIx_t3, gIx_l3, gIx_t4, gIx_l4, gIx_t5, gIx_l5, ev_lc2, ↓catE_map, catE_some, catE_rg, catRg_some, ev_rg2, rgB_ok, mapME_ab, mapAB_some, fltE_ab, fltAB_p, fltAB_yes, fltABp_some, ev_callK, map_mapi, map_mapT]
    congr 1
    apply List.ext_getElem
    · simp [rngN_len]
    · intro i h1 h2
      simp) ?_
  simp only [List.set_cons_succ, List.set_cons_zero]
  refine seq_forP (xs := keys) (enc := D.int) (fun ys e => ∃ a b, e = [.val (intT keys), .val (.int n), .own ((bitsL ys n).map D.int), a, b, .un]) rfl ⟨_, _, rfl⟩ (fun ys k zs hx e he => ?_) fun e he => ?_
  · obtain ⟨a, b, rfl⟩ := he
    have hkk := hk k (by rw [hx]; exact List.mem_append_right _ List.mem_cons_self)
    have hm := run_lmarks (n := n) (by omega) hkk
    obtain ⟨x', hr⟩ := run_set3 (it := iSeq (eFn run_l_marks (aCons (eVar 3) (aCons (eVar 1) aNil)))) (v0 := .val (intT keys)) (v1 := .val (.int n)) (v3 := .val (.int k)) (x := b) (tl := [.un]) (b := bitsL ys n) (ms := marks k n) (by
      simp -implicitDefEqProofs (disch := first | assumption | omega | (simp only [List.length_map, rngN_len, sortI_len]; omega)) only [ev_asL, ev_lc, ev_rg1', ev_call, ev_cons, ev_nil, ev_op, ev_c, ev_bvar, ev_var, List.getElem?_cons_succ, List.getElem?_cons_zero, Option.bind_some, Option.map_some, slB_val, slV_val, slB_own, gLen_l, gLen_t, gLen_iT, List.length_map, rgA_1, rgO_ok, lim_ok, rngN_len, if_true, ↓fltE_map, ↓mapME_map, ev_gNm, ev_tYes, wipe_cons, wipe_nil, List.set_cons_succ, List.set_cons_zero, fltE_yes, fltE_p, fltP_some, fltE_rg, fltRg_p, fltRg_yes, fltRp_some, mapME_rg, mapRg_some, ev_iseq, itemsD_l, itemsD_t, mapME_some, gIx_lm, gIx_tm, Int.toNat_natCast, gAdd_i, gSub_i, map_i, ev_un, ev_asB, ev_asT, ev_not, ev_and, ev_or, ev_eif, ev_fcall, blD_bl, gEq_i, gNe_i, gLt_i, gLe_i, gGt_i, gGe_i, gNeg_i, truD_bl, ev_fn, gTuple_l, gTuple_t, gMod_i, gDiv_i, gMul_l, gMul_r, gMaxA_l', gMinA_l', gMaxA_t', gMinA_t', gSortA_l', gSortA_t', sortI_len, gIx_last, truD_lm, truD_tm, ev_m1, gIndex_i, ev_oNo, ev_oYes, intO_i, ev_sl, gSl_l, gSl_t, cutD_map, gInt_i, gInt_b, gAbs_i, gSum_l, gSum_t, ev_isi, ev_eand, ev_eor, ev_enot, gIn_il, gIn_it, gNotIn_il, gNotIn_it, gIs_n, gIsNot_n, isNon_n, isNon_t, isNon_l, isNon_i, isNon_b, ev_tup, ev_lst, limT_0, mkL_0, limT_1, mkL_1, limT_2, mkL_2, limT_3, mkL_3, limT_4, mkL_4, limT_5, mkL_5, limT_6, mkL_6, limT_7, mkL_7, limT_8, mkL_8, gAdd_ll, gAdd_tt, gMax2_i, gMin2_i, gIx_p0, gIx_p1, ev_rev, cutD_take, cutD_drop, gSortA_pair, some_or, some_and, bl_or, bl_and, gIx_t0, gIx_l0, gIx_t1, gIx_l1, gIx_t2, gIx_l2, gIx_t3, gIx_l3, gIx_t4, gIx_l4, gIx_t5, gIx_l5, ev_lc2, ↓catE_map, catE_some, catE_rg, catRg_some, ev_rg2, rgB_ok, mapME_ab, mapAB_some, fltE_ab, fltAB_p, fltAB_yes, fltABp_some, ev_callK, map_mapi, map_mapT, hm]) (fun p hp => by rw [bits_len]; exact marks_rg (by omega) p hp)
    rw [← bits_snoc] at hr
    exact ⟨_, _, rfl, .inl hr, _, _, rfl⟩
  · obtain ⟨a, b, rfl⟩ := he
    exact run_ret rfl
def allM (bits : List Int) (key : Int) : Bool := (marks key bits.length).all fun p => decide (nth bits p = 1)
theorem run_may {bits : List Int} {key : Int} (hb : 0 < bits.length) (hb2 : bits.length ≤ 1000) (hk : Sm key) : run_may_have [intT bits, .int key] = some (.bl (allM bits key)) := by
  have hm := run_marks (key := key) (n := bits.length) (by omega) hk
  have hg : ∀ p ∈ marks key bits.length, gIx (intT bits) (.int p) = some (.int (nth bits p)) := fun p hp => gIx_iT (marks_rg (by omega) p hp).1 (marks_rg (by omega) p hp).2
  have hml : (marks key bits.length).length = 3 := rfl
  have e : intT (marks key bits.length) = .tup ((marks key bits.length).map D.int) := rfl
  rw [e] at hm
  refine runC_rt rfl ?_
  simp only [List.map_cons, List.map_nil, List.replicate, List.cons_append, List.nil_append, List.set_cons_succ, List.set_cons_zero]
  refine run_ret ?_
  simp -implicitDefEqProofs (disch := first | assumption | omega | (simp only [List.length_map, rngN_len, sortI_len]; omega)) only [ev_asL, ev_lc, ev_rg1', ev_call, ev_cons, ev_nil, ev_op, ev_c, ev_bvar, ev_var, List.getElem?_cons_succ, List.getElem?_cons_zero, Option.bind_some, Option.map_some, slB_val, slV_val, slB_own, gLen_l, gLen_t, gLen_iT, List.length_map, rgA_1, rgO_ok, lim_ok, rngN_len, if_true, ↓fltE_map, ↓mapME_map, ev_gNm, ev_tYes, wipe_cons, wipe_nil, List.set_cons_succ, List.set_cons_zero, fltE_yes, fltE_p, fltP_some, fltE_rg, fltRg_p, fltRg_yes, fltRp_some, mapME_rg, mapRg_some, ev_iseq, itemsD_l, itemsD_t, mapME_some, gIx_lm, gIx_tm, Int.toNat_natCast, gAdd_i, gSub_i, map_i, ev_un, ev_asB, ev_asT, ev_not, ev_and, ev_or, ev_eif, ev_fcall, blD_bl, gEq_i, gNe_i, gLt_i, gLe_i, gGt_i, gGe_i, gNeg_i, truD_bl, ev_fn, gTuple_l, gTuple_t, gMod_i, gDiv_i, gMul_l, gMul_r, gMaxA_l', gMinA_l', gMaxA_t', gMinA_t', gSortA_l', gSortA_t', sortI_len, gIx_last, truD_lm, truD_tm, ev_m1, gIndex_i, ev_oNo, ev_oYes, intO_i, ev_sl, gSl_l, gSl_t, cutD_map, gInt_i, gInt_b, gAbs_i, gSum_l, gSum_t, ev_isi, ev_eand, ev_eor, ev_enot, gIn_il, gIn_it, gNotIn_il, gNotIn_it, gIs_n, gIsNot_n, isNon_n, isNon_t, isNon_l, isNon_i, isNon_b, ev_tup, ev_lst, limT_0, mkL_0, limT_1, mkL_1, limT_2, mkL_2, limT_3, mkL_3, limT_4, mkL_4, limT_5, mkL_5, limT_6, mkL_6, limT_7, mkL_7, limT_8, mkL_8, gAdd_ll, gAdd_tt, gMax2_i, gMin2_i, gIx_p0, gIx_p1, ev_rev, cutD_take, cutD_drop, gSortA_pair, some_or, some_and, bl_or, bl_and, gIx_t0, gIx_l0, gIx_t1, gIx_l1, gIx_t2, gIx_l2, gIx_t3, gIx_l3, gIx_t4, gIx_l4, gIx_t5, gIx_l5, ev_lc2, ↓catE_map, catE_some, catE_rg, catRg_some, ev_rg2, rgB_ok, mapME_ab, mapAB_some, fltE_ab, fltAB_p, fltAB_yes, fltABp_some, ev_callK, map_mapi, map_mapT, hm, hg]
  rfl
theorem run_allm {bits : List Int} {key : Int} {d : D} (hd : d = intT bits ∨ d = .lst (bits.map D.int)) (hb : 0 < bits.length) (hb2 : bits.length ≤ 1000) (hk : Sm key) : run_l_all_marked [d, .int key] = some (.bl (allM bits key)) := by
  have hm := run_lmarks (key := key) (n := bits.length) (by omega) hk
  have hg : ∀ p ∈ marks key bits.length, gIx d (.int p) = some (.int (nth bits p)) := fun p hp => by
    rcases hd with rfl | rfl
    · exact gIx_iT (marks_rg (by omega) p hp).1 (marks_rg (by omega) p hp).2
    · exact gIx_lm (marks_rg (by omega) p hp).1 (marks_rg (by omega) p hp).2
  have hl : gLen [d] = some (.int bits.length) := by
    rcases hd with rfl | rfl
    · exact gLen_iT
    · rw [gLen_l, List.length_map]
  have hml : (marks key bits.length).length = 3 := rfl
  refine runC_rt rfl ?_
  simp only [List.map_cons, List.map_nil, List.replicate, List.cons_append, List.nil_append, List.set_cons_succ, List.set_cons_zero]
  refine run_ret ?_
  simp -implicitDefEqProofs (disch := first | assumption | omega | (simp only [List.length_map, rngN_len, sortI_len]; omega)) only [ev_asL, ev_lc, ev_rg1', ev_call, ev_cons, ev_nil, ev_op, ev_c, ev_bvar, ev_var, List.getElem?_cons_succ, List.getElem?_cons_zero, Option.bind_some, Option.map_some, slB_val, slV_val, slB_own, gLen_l, gLen_t, gLen_iT, List.length_map, rgA_1, rgO_ok, lim_ok, rngN_len, if_true, ↓fltE_map, ↓mapME_map, ev_gNm, ev_tYes, wipe_cons, wipe_nil, List.set_cons_succ, List.set_cons_zero, fltE_yes, fltE_p, fltP_some, fltE_rg, fltRg_p, fltRg_yes, fltRp_some, mapME_rg, mapRg_some, ev_iseq, itemsD_l, itemsD_t, mapME_some, gIx_lm, gIx_tm, Int.toNat_natCast, gAdd_i, gSub_i, map_i, ev_un, ev_asB, ev_asT, ev_not, ev_and, ev_or, ev_eif, ev_fcall, blD_bl, gEq_i, gNe_i, gLt_i, gLe_i, gGt_i, gGe_i, gNeg_i, truD_bl, ev_fn, gTuple_l, gTuple_t, gMod_i, gDiv_i, gMul_l, gMul_r, gMaxA_l', gMinA_l', gMaxA_t', gMinA_t', gSortA_l', gSortA_t', sortI_len, gIx_last, truD_lm, truD_tm, ev_m1, gIndex_i, ev_oNo, ev_oYes, intO_i, ev_sl, gSl_l, gSl_t, cutD_map, gInt_i, gInt_b, gAbs_i, gSum_l, gSum_t, ev_isi, ev_eand, ev_eor, ev_enot, gIn_il, gIn_it, gNotIn_il, gNotIn_it, gIs_n, gIsNot_n, isNon_n, isNon_t, isNon_l, isNon_i, isNon_b, ev_tup, ev_lst, limT_0, mkL_0, limT_1, mkL_1, limT_2, mkL_2, limT_3, mkL_3, limT_4, mkL_4, limT_5, mkL_5, limT_6, mkL_6, limT_7, mkL_7, limT_8, mkL_8, gAdd_ll, gAdd_tt, gMax2_i, gMin2_i, gIx_p0, gIx_p1, ev_rev, cutD_take, cutD_drop, gSortA_pair, some_or, some_and, bl_or, bl_and, gIx_t0, gIx_l0, gIx_t1, gIx_l1, gIx_t2, gIx_l2, gIx_t3, gIx_l3, gIx_t4, gIx_l4, gIx_t5, gIx_l5, ev_lc2, ↓catE_map, catE_some, catE_rg, catRg_some, ev_rg2, rgB_ok, mapME_ab, mapAB_some, fltE_ab, fltAB_p, fltAB_yes, fltABp_some, ev_callK, map_mapi, map_mapT, hl, hm, hg]
  rfl
def falseL (bits keys : List Int) (m : Nat) : List Int := (rngN m).filter fun k => !decide (k ∈ keys) && allM bits k
theorem run_false {bits keys : List Int} {m : Nat} (hb : 0 < bits.length) (hb2 : bits.length ≤ 1000) (hm : m ≤ 1000) (hk : keys.length ≤ 1000) : run_false_keys [intT bits, intT keys, .int m] = some (intT (falseL bits keys m)) := by
  have hs : gSetM [intT keys] = some (.st keys) := gSetM_t (by omega)
  have hmay : ∀ k : Int, 0 ≤ k → k < (m : Int) → run_may_have [intT bits, .int k] = some (.bl (allM bits k)) := fun k k0 k1 => run_may hb hb2 ⟨by omega, by omega⟩
  refine runC_rt rfl ?_
  simp only [List.map_cons, List.map_nil, List.replicate, List.cons_append, List.nil_append, List.set_cons_succ, List.set_cons_zero]
  refine seq_set (d := .st keys) (by
    simp -implicitDefEqProofs (disch := first | assumption | omega | (simp only [List.length_map, rngN_len, sortI_len]; omega)) only [ev_asL, ev_lc, ev_rg1', ev_call, ev_cons, ev_nil, ev_op, ev_c, ev_bvar, ev_var, List.getElem?_cons_succ, List.getElem?_cons_zero, Option.bind_some, Option.map_some, slB_val, slV_val, slB_own, gLen_l, gLen_t, gLen_iT, List.length_map, rgA_1, rgO_ok, lim_ok, rngN_len, if_true, ↓fltE_map, ↓mapME_map, ev_gNm, ev_tYes, wipe_cons, wipe_nil, List.set_cons_succ, List.set_cons_zero, fltE_yes, fltE_p, fltP_some, fltE_rg, fltRg_p, fltRg_yes, fltRp_some, mapME_rg, mapRg_some, ev_iseq, itemsD_l, itemsD_t, mapME_some, gIx_lm, gIx_tm, Int.toNat_natCast, gAdd_i, gSub_i, map_i, ev_un, ev_asB, ev_asT, ev_not, ev_and, ev_or, ev_eif, ev_fcall, blD_bl, gEq_i, gNe_i, gLt_i, gLe_i, gGt_i, gGe_i, gNeg_i, truD_bl, ev_fn, gTuple_l, gTuple_t, gMod_i, gDiv_i, gMul_l, gMul_r, gMaxA_l', gMinA_l', gMaxA_t', gMinA_t', gSortA_l', gSortA_t', sortI_len, gIx_last, truD_lm, truD_tm, ev_m1, gIndex_i, ev_oNo, ev_oYes, intO_i, ev_sl, gSl_l, gSl_t, cutD_map, gInt_i, gInt_b, gAbs_i, gSum_l, gSum_t, ev_isi, ev_eand, ev_eor, ev_enot, gIn_il, gIn_it, gNotIn_il, gNotIn_it, gIs_n, gIsNot_n, isNon_n, isNon_t, isNon_l, isNon_i, isNon_b, ev_tup, ev_lst, limT_0, mkL_0, limT_1, mkL_1, limT_2, mkL_2, limT_3, mkL_3, limT_4, mkL_4, limT_5, mkL_5, limT_6, mkL_6, limT_7, mkL_7, limT_8, mkL_8, gAdd_ll, gAdd_tt, gMax2_i, gMin2_i, gIx_p0, gIx_p1, ev_rev, cutD_take, cutD_drop, gSortA_pair, some_or, some_and, bl_or, bl_and, gIx_t0, gIx_l0, gIx_t1, gIx_l1, gIx_t2, gIx_l2, gIx_t3, gIx_l3, gIx_t4, gIx_l4, gIx_t5, gIx_l5, ev_lc2, ↓catE_map, catE_some, catE_rg, catRg_some, ev_rg2, rgB_ok, mapME_ab, mapAB_some, fltE_ab, fltAB_p, fltAB_yes, fltABp_some, ev_callK, map_mapi, map_mapT, hs]) ?_
  simp only [List.map_cons, List.map_nil, List.replicate, List.cons_append, List.nil_append, List.set_cons_succ, List.set_cons_zero]
  refine run_ret ?_
  simp -implicitDefEqProofs (disch := first | assumption | omega | (simp only [List.length_map, rngN_len, sortI_len]; omega)) only [ev_asL, ev_lc, ev_rg1', ev_call, ev_cons, ev_nil, ev_op, ev_c, ev_bvar, ev_var, List.getElem?_cons_succ, List.getElem?_cons_zero, Option.bind_some, Option.map_some, slB_val, slV_val, slB_own, gLen_l, gLen_t, gLen_iT, List.length_map, rgA_1, rgO_ok, lim_ok, rngN_len, if_true, ↓fltE_map, ↓mapME_map, ev_gNm, ev_tYes, wipe_cons, wipe_nil, List.set_cons_succ, List.set_cons_zero, fltE_yes, fltE_p, fltP_some, fltE_rg, fltRg_p, fltRg_yes, fltRp_some, mapME_rg, mapRg_some, ev_iseq, itemsD_l, itemsD_t, mapME_some, gIx_lm, gIx_tm, Int.toNat_natCast, gAdd_i, gSub_i, map_i, ev_un, ev_asB, ev_asT, ev_not, ev_and, ev_or, ev_eif, ev_fcall, blD_bl, gEq_i, gNe_i, gLt_i, gLe_i, gGt_i, gGe_i, gNeg_i, truD_bl, ev_fn, gTuple_l, gTuple_t, gMod_i, gDiv_i, gMul_l, gMul_r, gMaxA_l', gMinA_l', gMaxA_t', gMinA_t', gSortA_l', gSortA_t', sortI_len, gIx_last, truD_lm, truD_tm, ev_m1, gIndex_i, ev_oNo, ev_oYes, intO_i, ev_sl, gSl_l, gSl_t, cutD_map, gInt_i, gInt_b, gAbs_i, gSum_l, gSum_t, ev_isi, ev_eand, ev_eor, ev_enot, gIn_il, gIn_it, gNotIn_il, gNotIn_it, gIs_n, gIsNot_n, isNon_n, isNon_t, isNon_l, isNon_i, isNon_b, ev_tup, ev_lst, limT_0, mkL_0, limT_1, mkL_1, limT_2, mkL_2, limT_3, mkL_3, limT_4, mkL_4, limT_5, mkL_5, limT_6, mkL_6, limT_7, mkL_7, limT_8, mkL_8, gAdd_ll, gAdd_tt, gMax2_i, gMin2_i, gIx_p0, gIx_p1, ev_rev, cutD_take, cutD_drop, gSortA_pair, some_or, some_and, bl_or, bl_and, gIx_t0, gIx_l0, gIx_t1, gIx_l1, gIx_t2, gIx_l2, gIx_t3, gIx_l3, gIx_t4, gIx_l4, gIx_t5, gIx_l5, ev_lc2, ↓catE_map, catE_some, catE_rg, catRg_some, ev_rg2, rgB_ok, mapME_ab, mapAB_some, fltE_ab, fltAB_p, fltAB_yes, fltABp_some, ev_callK, map_mapi, map_mapT, gSIn_t, hmay]
  rfl
end K65

set_option Elab.async false
set_option linter.all false
set_option maxRecDepth 100000
set_option maxHeartbeats 4000000
namespace K65
open PySem PD
open L2 hiding nth
/-! ### counts -/
def spot (key r n : Int) : Int := ((2 * r + 1) * key + r) % n
theorem run_spot {key r n : Int} (hn : 0 < n) (hr : 0 ≤ r ∧ r < 1000) : run_spot_of [.int key, .int r, .int n] = some (.int (spot key r n)) := by
  refine runC_rt rfl ?_
  simp only [List.map_cons, List.map_nil, List.replicate, List.cons_append, List.nil_append, List.set_cons_succ, List.set_cons_zero]
  refine run_ret ?_
  simp -implicitDefEqProofs (disch := first | assumption | omega | (simp only [List.length_map, rngN_len, sortI_len]; omega)) only [ev_asL, ev_lc, ev_rg1', ev_call, ev_cons, ev_nil, ev_op, ev_c, ev_bvar, ev_var, List.getElem?_cons_succ, List.getElem?_cons_zero, Option.bind_some, Option.map_some, slB_val, slV_val, slB_own, gLen_l, gLen_t, gLen_iT, List.length_map, rgA_1, rgO_ok, lim_ok, rngN_len, if_true, ↓fltE_map, ↓mapME_map, ev_gNm, ev_tYes, wipe_cons, wipe_nil, List.set_cons_succ, List.set_cons_zero, fltE_yes, fltE_p, fltP_some, fltE_rg, fltRg_p, fltRg_yes, fltRp_some, mapME_rg, mapRg_some, ev_iseq, itemsD_l, itemsD_t, mapME_some, gIx_lm, gIx_tm, Int.toNat_natCast, gAdd_i, gSub_i, map_i, ev_un, ev_asB, ev_asT, ev_not, ev_and, ev_or, ev_eif, ev_fcall, blD_bl, gEq_i, gNe_i, gLt_i, gLe_i, gGt_i, gGe_i, gNeg_i, truD_bl, ev_fn, gTuple_l, gTuple_t, gMod_i, gDiv_i, gMul_l, gMul_r, gMaxA_l', gMinA_l', gMaxA_t', gMinA_t', gSortA_l', gSortA_t', sortI_len, gIx_last, truD_lm, truD_tm, ev_m1, gIndex_i, ev_oNo, ev_oYes, intO_i, ev_sl, gSl_l, gSl_t, cutD_map, gInt_i, gInt_b, gAbs_i, gSum_l, gSum_t, ev_isi, ev_eand, ev_eor, ev_enot, gIn_il, gIn_it, gNotIn_il, gNotIn_it, gIs_n, gIsNot_n, isNon_n, isNon_t, isNon_l, isNon_i, isNon_b, ev_tup, ev_lst, limT_0, mkL_0, limT_1, mkL_1, limT_2, mkL_2, limT_3, mkL_3, limT_4, mkL_4, limT_5, mkL_5, limT_6, mkL_6, limT_7, mkL_7, limT_8, mkL_8, gAdd_ll, gAdd_tt, gMax2_i, gMin2_i, gIx_p0, gIx_p1, ev_rev, cutD_take, cutD_drop, gSortA_pair, some_or, some_and, bl_or, bl_and, gIx_t0, gIx_l0, gIx_t1, gIx_l1, gIx_t2, gIx_l2, gIx_t3, gIx_l3, gIx_t4, gIx_l4, gIx_t5, gIx_l5, ev_lc2, ↓catE_map, catE_some, catE_rg, catRg_some, ev_rg2, rgB_ok, mapME_ab, mapAB_some, fltE_ab, fltAB_p, fltAB_yes, fltABp_some, ev_callK, map_mapi, map_mapT]
  rfl
def inc (l : List Int) (p : Int) : List Int := l.set p.toNat (nth l p + 1)
theorem inc_len {l : List Int} {p : Int} : (inc l p).length = l.length := List.length_set
def lineL (n : Nat) (keys : List Int) (r : Int) : List Int := keys.foldl (fun l k => inc l (spot k r n)) (List.replicate n 0)
theorem line_len {n : Nat} {r : Int} : ∀ (keys l : List Int), (keys.foldl (fun l k => inc l (spot k r n)) l).length = l.length
  | [], l => rfl
  | k :: keys, l => by
    rw [List.foldl_cons, line_len keys]
    exact inc_len
theorem lineL_len {n : Nat} {r : Int} {keys : List Int} : (lineL n keys r).length = n := by
  unfold lineL
  rw [line_len, List.length_replicate]
theorem lineL_snoc {n : Nat} {r : Int} {ys : List Int} {k : Int} : lineL n (ys ++ [k]) r = inc (lineL n ys r) (spot k r n) := by
  unfold lineL
  rw [List.foldl_append]
  rfl
def tabL (n R : Nat) (keys : List Int) : List (List Int) := (rngN R).map fun r => lineL n keys r
def updR (key n : Int) : Nat → List (List Int) → List (List Int)
  | _, [] => []
  | s, l :: r => inc l (spot key s n) :: updR key n (s + 1) r
theorem updR_rng {key n : Int} (f : Int → List Int) : ∀ (R s : Nat), updR key n s ((List.range R).map fun i : Nat => f ((s + i : Nat) : Int)) = (List.range R).map fun i : Nat => inc (f ((s + i : Nat) : Int)) (spot key ((s + i : Nat) : Int) n)
  | 0, s => rfl
  | R + 1, s => by
    rw [List.range_succ_eq_map, List.map_cons, List.map_map, List.map_cons, List.map_map]
    show inc (f ((s + 0 : Nat) : Int)) (spot key (s : Int) n) :: updR key n (s + 1) _ = _
    have ih := updR_rng (key := key) (n := n) f R (s + 1)
    have e1 : (List.range R).map ((fun i : Nat => f ((s + i : Nat) : Int)) ∘ Nat.succ) = (List.range R).map fun i : Nat => f ((s + 1 + i : Nat) : Int) := List.map_congr_left fun i _ => by
      show f ((s + (i + 1) : Nat) : Int) = _
      rw [show s + (i + 1) = s + 1 + i from by omega]
    have e2 : (List.range R).map ((fun i : Nat => inc (f ((s + i : Nat) : Int)) (spot key ((s + i : Nat) : Int) n)) ∘ Nat.succ) = (List.range R).map fun i : Nat => inc (f ((s + 1 + i : Nat) : Int)) (spot key ((s + 1 + i : Nat) : Int) n) := List.map_congr_left fun i _ => by
      show inc (f ((s + (i + 1) : Nat) : Int)) (spot key ((s + (i + 1) : Nat) : Int) n) = _
      rw [show s + (i + 1) = s + 1 + i from by omega]
    rw [e1, e2, ih]
    rfl
theorem updR_tab {key : Int} {n R : Nat} {ys : List Int} : updR key n 0 (tabL n R ys) = tabL n R (ys ++ [key]) := by
  have := updR_rng (key := key) (n := n) (fun r => lineL n ys r) R 0
  unfold tabL rngN
  rw [List.map_map, List.map_map]
  simp only [Nat.zero_add] at this
  refine Eq.trans ?_ (this.trans ?_)
  · rfl
  · refine List.map_congr_left fun i _ => ?_
    show _ = lineL n (ys ++ [key]) (i : Int)
    rw [lineL_snoc]
def L2D (L : List (List Int)) : List (List D) := L.map fun l => l.map D.int
theorem rowL_step {i ia ir : Nat} {g : D → D → Option D} {fi f : Fe} {done rest : List (List D)} {ds : List D} {env E1 : List Sl} {z : Int} {old y d : D} {o : Option (List Sl)}
    (hE : (env.set ia (.val (.int (done.length : Nat)))).set ir .un = E1) (h1 : fi E1 = some (.int z)) (h0 : 0 ≤ z) (hz : z < ds.length) (hat : ds[z.toNat]? = some old) (h2 : f E1 = some y) (h3 : g old y = some d)
    (hR : rowL i ia ir g fi f (done ++ [ds.set z.toNat d]) rest (E1.set i (.own2 (done ++ ds.set z.toNat d :: rest))) = o) : rowL i ia ir g fi f done (ds :: rest) env = o := by
  rw [rowL, hE, h1]
  simp only [Option.bind_some]
  rw [ixN_ok h0 hz]
  simp only [Option.bind_some]
  rw [hat]
  simp only [Option.bind_some]
  rw [h2]
  simp only [Option.bind_some]
  rw [h3]
  simp only [Option.bind_some]
  exact hR
theorem L2D_len {L : List (List Int)} : (L2D L).length = L.length := List.length_map ..
theorem L2D_app {L M : List (List Int)} : L2D (L ++ M) = L2D L ++ L2D M := List.map_append ..
theorem L2D_cons {l : List Int} {M : List (List Int)} : L2D (l :: M) = l.map D.int :: L2D M := rfl
theorem rowL_ok {v0 v1 v7 : Sl} {key : Int} {n : Nat} (hn : 0 < n) : ∀ (rest done : List (List Int)) (x5 x6 : Sl), (∀ l ∈ rest, l.length = n) → done.length + rest.length ≤ 1000 →
    ∃ y5 y6, rowL 3 5 6 (gI (fun _ _ => true) fun i j => .int (i + j)) (eFn run_spot_of (aCons (eVar 4) (aCons (eVar 5) (aCons (eVar 2) aNil)))) (eC (.int 1)) (L2D done) (L2D rest) [v0, v1, .val (.int n), .own2 (L2D (done ++ rest)), .val (.int key), x5, x6, v7] = some [v0, v1, .val (.int n), .own2 (L2D (done ++ updR key n done.length rest)), .val (.int key), y5, y6, v7]
  | [], done, x5, x6, _, _ => ⟨x5, x6, by rw [show L2D [] = [] from rfl, rowL, updR]⟩
  | l :: rest, done, x5, x6, hl, hz => by
    have h1 := hl l List.mem_cons_self
    have hz' : done.length + (rest.length + 1) ≤ 1000 := hz
    obtain ⟨y5, y6, ih⟩ := rowL_ok (v0 := v0) (v1 := v1) (v7 := v7) (key := key) hn rest (done ++ [inc l (spot key done.length n)]) (.val (.int (done.length : Nat))) .un (fun x hx => hl x (List.mem_cons_of_mem _ hx)) (by rw [List.length_append, List.length_singleton]; omega)
    have sp := mod_lt (a := (2 * (done.length : Int) + 1) * key + done.length) (b := (n : Int)) (by omega)
    have hs : 0 ≤ spot key done.length n ∧ spot key done.length n < (l.length : Nat) := by
      rw [h1]
      exact sp
    refine ⟨y5, y6, ?_⟩
    have hrs := run_spot (key := key) (r := (done.length : Int)) (n := n) (by omega) ⟨by omega, by omega⟩
    rw [L2D_cons]
    refine rowL_step (z := spot key done.length n) (old := .int (nth l (spot key done.length n))) (y := .int 1) (d := .int (nth l (spot key done.length n) + 1)) (E1 := [v0, v1, .val (.int n), .own2 (L2D (done ++ l :: rest)), .val (.int key), .val (.int (done.length : Nat)), .un, v7]) (by rw [L2D_len]; simp only [List.set_cons_succ, List.set_cons_zero]) (by simp -implicitDefEqProofs (disch := first | assumption | omega | (simp only [List.length_map, rngN_len, sortI_len]; omega)) only [ev_asL, ev_lc, ev_rg1', ev_call, ev_cons, ev_nil, ev_op, ev_c, ev_bvar, ev_var, List.getElem?_cons_succ, List.getElem?_cons_zero, Option.bind_some, Option.map_some, slB_val, slV_val, slB_own, gLen_l, gLen_t, gLen_iT, List.length_map, rgA_1, rgO_ok, lim_ok, rngN_len, if_true, ↓fltE_map, ↓mapME_map, ev_gNm, ev_tYes, wipe_cons, wipe_nil, List.set_cons_succ, List.set_cons_zero, fltE_yes, fltE_p, fltP_some, fltE_rg, fltRg_p, fltRg_yes, fltRp_some, mapME_rg, mapRg_some, ev_iseq, itemsD_l, itemsD_t, mapME_some, gIx_lm, gIx_tm, Int.toNat_natCast, gAdd_i, gSub_i, map_i, ev_un, ev_asB, ev_asT, ev_not, ev_and, ev_or, ev_eif, ev_fcall, blD_bl, gEq_i, gNe_i, gLt_i, gLe_i, gGt_i, gGe_i, gNeg_i, truD_bl, ev_fn, gTuple_l, gTuple_t, gMod_i, gDiv_i, gMul_l, gMul_r, gMaxA_l', gMinA_l', gMaxA_t', gMinA_t', gSortA_l', gSortA_t', sortI_len, gIx_last, truD_lm, truD_tm, ev_m1, gIndex_i, ev_oNo, ev_oYes, intO_i, ev_sl, gSl_l, gSl_t, cutD_map, gInt_i, gInt_b, gAbs_i, gSum_l, gSum_t, ev_isi, ev_eand, ev_eor, ev_enot, gIn_il, gIn_it, gNotIn_il, gNotIn_it, gIs_n, gIsNot_n, isNon_n, isNon_t, isNon_l, isNon_i, isNon_b, ev_tup, ev_lst, limT_0, mkL_0, limT_1, mkL_1, limT_2, mkL_2, limT_3, mkL_3, limT_4, mkL_4, limT_5, mkL_5, limT_6, mkL_6, limT_7, mkL_7, limT_8, mkL_8, gAdd_ll, gAdd_tt, gMax2_i, gMin2_i, gIx_p0, gIx_p1, ev_rev, cutD_take, cutD_drop, gSortA_pair, some_or, some_and, bl_or, bl_and, gIx_t0, gIx_l0, gIx_t1, gIx_l1, gIx_t2, gIx_l2, gIx_t3, gIx_l3, gIx_t4, gIx_l4, gIx_t5, gIx_l5, ev_lc2, ↓catE_map, catE_some, catE_rg, catRg_some, ev_rg2, rgB_ok, mapME_ab, mapAB_some, fltE_ab, fltAB_p, fltAB_yes, fltABp_some, ev_callK, map_mapi, map_mapT]; exact hrs) hs.1 (by rw [List.length_map]; exact hs.2) (at_nth hs.1 hs.2) rfl rfl ?_
    rw [show (l.map D.int).set (spot key done.length n).toNat (.int (nth l (spot key done.length n) + 1)) = (inc l (spot key done.length n)).map D.int from by unfold inc; rw [List.map_set]]
    have e3 : L2D done ++ [(inc l (spot key done.length n)).map D.int] = L2D (done ++ [inc l (spot key done.length n)]) := by
      rw [L2D_app]
      rfl
    have e4 : L2D done ++ (inc l (spot key done.length n)).map D.int :: L2D rest = L2D ((done ++ [inc l (spot key done.length n)]) ++ rest) := by
      rw [L2D_app, L2D_app, List.append_assoc]
      rfl
    rw [e3, e4]
    rw [List.length_append, List.length_singleton, List.append_assoc, List.append_assoc] at ih
    simp only [List.set_cons_succ, List.set_cons_zero]
    rw [List.append_assoc, updR]
    exact ih
theorem ev_fop' {g : D → D → Option (List D)} {fa fb : Fe} {env : List Sl} : fOp g fa fb env = (fa env).bind fun x => (fb env).bind fun y => g x y := rfl
theorem compLO_const {t : Ft} {y : Fl} {env : List Sl} {d : List D} : ∀ xs : List D, (∀ x ∈ xs, ∃ e, t x env = some e ∧ y e = some d) → compLO t tYesF y env xs = some (List.replicate xs.length d)
  | [], _ => rfl
  | x :: xs, h => by
    obtain ⟨e, h1, h2⟩ := h x List.mem_cons_self
    show (t x env).bind _ = _
    rw [h1]
    show (y e).bind _ = _
    rw [h2]
    show (compLO t tYesF y env xs).map _ = _
    rw [compLO_const xs fun z hz => h z (List.mem_cons_of_mem _ hz)]
    rfl
theorem tab_nil {n R : Nat} : L2D (tabL n R []) = List.replicate R (List.replicate n (D.int 0)) := by
  unfold L2D tabL rngN
  rw [List.map_map, List.map_map]
  apply List.ext_getElem
  · simp
  · intro i h1 h2
    simp [lineL]
theorem tab_len {n R : Nat} {keys : List Int} : (tabL n R keys).length = R := by
  unfold tabL
  rw [List.length_map, rngN_len]
theorem tab_lines {n R : Nat} {keys : List Int} : ∀ l ∈ tabL n R keys, l.length = n := fun l hl => by
  obtain ⟨r, _, rfl⟩ := List.mem_map.mp hl
  exact lineL_len
def tabD (n R : Nat) (keys : List Int) : D := .tup ((tabL n R keys).map intT)
theorem run_cntd {keys : List Int} {n R : Nat} (hn : 0 < n) (hn2 : n ≤ 1000) (hR : R ≤ 100) : run_counted [intT keys, .int R, .int n] = some (tabD n R keys) := by
  refine runC_rt rfl ?_
  simp only [List.map_cons, List.map_nil, List.replicate, List.cons_append, List.nil_append, List.set_cons_succ, List.set_cons_zero]
  refine seq_nx (e := [.val (intT keys), .val (.int R), .val (.int n), .own2 (L2D (tabL n R [])), .un, .un, .un, .un]) ?_ ?_
  · unfold sSetN
    have hc : fLcO [7] (iRg1 (aCons (bVar 1) aNil)) (gNm 7) tYesF (fOp gRepF (eLst (aCons (eC (.int 0)) aNil)) (bVar 2)) [.val (intT keys), .val (.int R), .val (.int n), .un, .un, .un, .un, .un] = some (.own2 (L2D (tabL n R []))) := by
      unfold fLcO
      have hit : iRg1 (aCons (bVar 1) aNil) [.val (intT keys), .val (.int R), .val (.int n), .un, .un, .un, .un, .un] = some ((rngN R).map D.int) := by
        simp -implicitDefEqProofs (disch := first | assumption | omega | (simp only [List.length_map, rngN_len, sortI_len]; omega)) only [ev_asL, ev_lc, ev_rg1', ev_call, ev_cons, ev_nil, ev_op, ev_c, ev_bvar, ev_var, List.getElem?_cons_succ, List.getElem?_cons_zero, Option.bind_some, Option.map_some, slB_val, slV_val, slB_own, gLen_l, gLen_t, gLen_iT, List.length_map, rgA_1, rgO_ok, lim_ok, rngN_len, if_true, ↓fltE_map, ↓mapME_map, ev_gNm, ev_tYes, wipe_cons, wipe_nil, List.set_cons_succ, List.set_cons_zero, fltE_yes, fltE_p, fltP_some, fltE_rg, fltRg_p, fltRg_yes, fltRp_some, mapME_rg, mapRg_some, ev_iseq, itemsD_l, itemsD_t, mapME_some, gIx_lm, gIx_tm, Int.toNat_natCast, gAdd_i, gSub_i, map_i, ev_un, ev_asB, ev_asT, ev_not, ev_and, ev_or, ev_eif, ev_fcall, blD_bl, gEq_i, gNe_i, gLt_i, gLe_i, gGt_i, gGe_i, gNeg_i, truD_bl, ev_fn, gTuple_l, gTuple_t, gMod_i, gDiv_i, gMul_l, gMul_r, gMaxA_l', gMinA_l', gMaxA_t', gMinA_t', gSortA_l', gSortA_t', sortI_len, gIx_last, truD_lm, truD_tm, ev_m1, gIndex_i, ev_oNo, ev_oYes, intO_i, ev_sl, gSl_l, gSl_t, cutD_map, gInt_i, gInt_b, gAbs_i, gSum_l, gSum_t, ev_isi, ev_eand, ev_eor, ev_enot, gIn_il, gIn_it, gNotIn_il, gNotIn_it, gIs_n, gIsNot_n, isNon_n, isNon_t, isNon_l, isNon_i, isNon_b, ev_tup, ev_lst, limT_0, mkL_0, limT_1, mkL_1, limT_2, mkL_2, limT_3, mkL_3, limT_4, mkL_4, limT_5, mkL_5, limT_6, mkL_6, limT_7, mkL_7, limT_8, mkL_8, gAdd_ll, gAdd_tt, gMax2_i, gMin2_i, gIx_p0, gIx_p1, ev_rev, cutD_take, cutD_drop, gSortA_pair, some_or, some_and, bl_or, bl_and, gIx_t0, gIx_l0, gIx_t1, gIx_l1, gIx_t2, gIx_l2, gIx_t3, gIx_l3, gIx_t4, gIx_l4, gIx_t5, gIx_l5, ev_lc2, ↓catE_map, catE_some, catE_rg, catRg_some, ev_rg2, rgB_ok, mapME_ab, mapAB_some, fltE_ab, fltAB_p, fltAB_yes, fltABp_some, ev_callK, map_mapi, map_mapT]
      rw [hit]
      show (if lim ((rngN R).map D.int).length = true then _ else _) = _
      rw [lim_ok (by rw [List.length_map, rngN_len]; omega), if_pos rfl]
      have hcl := compLO_const (t := gNm 7) (y := fOp gRepF (eLst (aCons (eC (.int 0)) aNil)) (bVar 2)) (env := wipeE [.val (intT keys), .val (.int R), .val (.int n), .un, .un, .un, .un, .un] [7]) (d := List.replicate n (D.int 0)) ((rngN R).map D.int) fun x hx => ⟨[.val (intT keys), .val (.int R), .val (.int n), .un, .un, .un, .un, .val x], rfl, by
        show gRepF (.lst [.int 0]) (.int (n : Int)) = _
        exact gRep_e (by omega)⟩
      rw [hcl]
      rw [tab_nil, List.length_map, rngN_len]
      rfl
    rw [hc]
    rfl
  refine seq_forP (xs := keys) (enc := D.int) (fun ys e => ∃ a b c, e = [.val (intT keys), .val (.int R), .val (.int n), .own2 (L2D (tabL n R ys)), a, b, c, .un]) rfl ⟨_, _, _, rfl⟩ (fun ys k zs hx e he => ?_) fun e he => ?_
  · obtain ⟨a, b, c, rfl⟩ := he
    obtain ⟨y5, y6, hr⟩ := rowL_ok (v0 := .val (intT keys)) (v1 := .val (.int R)) (v7 := .un) (key := k) hn (tabL n R ys) [] b c tab_lines (by rw [tab_len]; simp only [List.length_nil]; omega)
    simp only [List.nil_append, List.length_nil] at hr
    rw [updR_tab] at hr
    refine ⟨_, _, rfl, .inl ?_, .val (.int k), y5, y6, rfl⟩
    show sForRow 3 5 6 _ _ _ [.val (intT keys), .val (.int R), .val (.int n), .own2 (L2D (tabL n R ys)), .val (.int k), b, c, .un] = _
    unfold sForRow
    show (if _ then (rowL 3 5 6 _ _ _ (L2D []) (L2D (tabL n R ys)) _).map Out.nx else none) = _
    rw [if_pos (by rfl), hr]
    rfl
  · obtain ⟨a, b, c, rfl⟩ := he
    refine run_frz ?_
    show sRet _ [.val (intT keys), .val (.int R), .val (.int n), .val (.lst ((L2D (tabL n R keys)).map D.lst)), a, b, c, .un] = _
    refine run_ret ?_
    have e : (L2D (tabL n R keys)).map D.lst = (tabL n R keys).map fun l => D.lst (l.map D.int) := by
      unfold L2D
      rw [List.map_map]
      rfl
    have hl := tab_len (n := n) (R := R) (keys := keys)
    rw [e]
    simp -implicitDefEqProofs (disch := first | assumption | omega | (simp only [List.length_map, rngN_len, sortI_len]; omega)) only [ev_asL, ev_lc, ev_rg1', ev_call, ev_cons, ev_nil, ev_op, ev_c, ev_bvar, ev_var, List.getElem?_cons_succ, List.getElem?_cons_zero, Option.bind_some, Option.map_some, slB_val, slV_val, slB_own, gLen_l, gLen_t, gLen_iT, List.length_map, rgA_1, rgO_ok, lim_ok, rngN_len, if_true, ↓fltE_map, ↓mapME_map, ev_gNm, ev_tYes, wipe_cons, wipe_nil, List.set_cons_succ, List.set_cons_zero, fltE_yes, fltE_p, fltP_some, fltE_rg, fltRg_p, fltRg_yes, fltRp_some, mapME_rg, mapRg_some, ev_iseq, itemsD_l, itemsD_t, mapME_some, gIx_lm, gIx_tm, Int.toNat_natCast, gAdd_i, gSub_i, map_i, ev_un, ev_asB, ev_asT, ev_not, ev_and, ev_or, ev_eif, ev_fcall, blD_bl, gEq_i, gNe_i, gLt_i, gLe_i, gGt_i, gGe_i, gNeg_i, truD_bl, ev_fn, gTuple_l, gTuple_t, gMod_i, gDiv_i, gMul_l, gMul_r, gMaxA_l', gMinA_l', gMaxA_t', gMinA_t', gSortA_l', gSortA_t', sortI_len, gIx_last, truD_lm, truD_tm, ev_m1, gIndex_i, ev_oNo, ev_oYes, intO_i, ev_sl, gSl_l, gSl_t, cutD_map, gInt_i, gInt_b, gAbs_i, gSum_l, gSum_t, ev_isi, ev_eand, ev_eor, ev_enot, gIn_il, gIn_it, gNotIn_il, gNotIn_it, gIs_n, gIsNot_n, isNon_n, isNon_t, isNon_l, isNon_i, isNon_b, ev_tup, ev_lst, limT_0, mkL_0, limT_1, mkL_1, limT_2, mkL_2, limT_3, mkL_3, limT_4, mkL_4, limT_5, mkL_5, limT_6, mkL_6, limT_7, mkL_7, limT_8, mkL_8, gAdd_ll, gAdd_tt, gMax2_i, gMin2_i, gIx_p0, gIx_p1, ev_rev, cutD_take, cutD_drop, gSortA_pair, some_or, some_and, bl_or, bl_and, gIx_t0, gIx_l0, gIx_t1, gIx_l1, gIx_t2, gIx_l2, gIx_t3, gIx_l3, gIx_t4, gIx_l4, gIx_t5, gIx_l5, ev_lc2, ↓catE_map, catE_some, catE_rg, catRg_some, ev_rg2, rgB_ok, mapME_ab, mapAB_some, fltE_ab, fltAB_p, fltAB_yes, fltABp_some, ev_callK, map_mapi, map_mapT]
    rfl
end K65

set_option Elab.async false
set_option linter.all false
set_option maxRecDepth 100000
set_option maxHeartbeats 4000000
namespace K65
open PySem PD
open L2 hiding nth
theorem lc_inner {keys : List Int} {n r : Nat} {v1 v3 c d v8 : Sl} (hn : 0 < n) (hr : r ≤ 100) : ∃ c' d', sFor (iSeq (eVar 0)) (gNm 6)
    (sSeq (sSet 7 (eOp gMod (eCall gInt (aCons (eOp gAdd (eOp gMul (eOp gAdd (eOp gMul (eC (.int 2)) (bVar 4)) (eC (.int 1))) (bVar 6)) (bVar 4)) aNil)) (bVar 2)))
    (sSetI 5 (bVar 7) (eOp gAdd (eOp gIx (bVar 5) (bVar 7)) (eC (.int 1))))) [.val (intT keys), v1, .val (.int n), v3, .val (.int r), .own ((List.replicate n (0 : Int)).map D.int), c, d, v8] = some (.nx [.val (intT keys), v1, .val (.int n), v3, .val (.int r), .own ((lineL n keys r).map D.int), c', d', v8]) := by
  have hh := run_forP (a := sSeq (sSet 7 (eOp gMod (eCall gInt (aCons (eOp gAdd (eOp gMul (eOp gAdd (eOp gMul (eC (.int 2)) (bVar 4)) (eC (.int 1))) (bVar 6)) (bVar 4)) aNil)) (bVar 2)))
    (sSetI 5 (bVar 7) (eOp gAdd (eOp gIx (bVar 5) (bVar 7)) (eC (.int 1))))) (g := gNm 6) (it := iSeq (eVar 0)) (env := [.val (intT keys), v1, .val (.int n), v3, .val (.int r), .own ((List.replicate n (0 : Int)).map D.int), c, d, v8]) (xs := keys) (enc := D.int) (fun ys e => ∃ c' d', e = [.val (intT keys), v1, .val (.int n), v3, .val (.int r), .own ((lineL n ys r).map D.int), c', d', v8]) rfl ⟨_, _, rfl⟩ (by
    intro ys k zs hx e he
    obtain ⟨c', d', rfl⟩ := he
    have sp := mod_lt (a := (2 * (r : Int) + 1) * k + r) (b := (n : Int)) (by omega)
    have hs : 0 ≤ spot k r n ∧ spot k r n < ((lineL n ys r).length : Nat) := by
      rw [lineL_len]
      exact sp
    refine ⟨_, _, rfl, .inl (seq_set (d := .int (spot k r n)) ?_ (run_setE (l := lineL n ys r) (enc := D.int) (z := spot k r n) (y := nth (lineL n ys r) (spot k r n) + 1) rfl rfl ?_ hs.1 hs.2)), .val (.int k), .val (.int (spot k r n)), ?_⟩
    · simp -implicitDefEqProofs (disch := first | assumption | omega | (simp only [List.length_map, rngN_len, sortI_len]; omega)) only [ev_asL, ev_lc, ev_rg1', ev_call, ev_cons, ev_nil, ev_op, ev_c, ev_bvar, ev_var, List.getElem?_cons_succ, List.getElem?_cons_zero, Option.bind_some, Option.map_some, slB_val, slV_val, slB_own, gLen_l, gLen_t, gLen_iT, List.length_map, rgA_1, rgO_ok, lim_ok, rngN_len, if_true, ↓fltE_map, ↓mapME_map, ev_gNm, ev_tYes, wipe_cons, wipe_nil, List.set_cons_succ, List.set_cons_zero, fltE_yes, fltE_p, fltP_some, fltE_rg, fltRg_p, fltRg_yes, fltRp_some, mapME_rg, mapRg_some, ev_iseq, itemsD_l, itemsD_t, mapME_some, gIx_lm, gIx_tm, Int.toNat_natCast, gAdd_i, gSub_i, map_i, ev_un, ev_asB, ev_asT, ev_not, ev_and, ev_or, ev_eif, ev_fcall, blD_bl, gEq_i, gNe_i, gLt_i, gLe_i, gGt_i, gGe_i, gNeg_i, truD_bl, ev_fn, gTuple_l, gTuple_t, gMod_i, gDiv_i, gMul_l, gMul_r, gMaxA_l', gMinA_l', gMaxA_t', gMinA_t', gSortA_l', gSortA_t', sortI_len, gIx_last, truD_lm, truD_tm, ev_m1, gIndex_i, ev_oNo, ev_oYes, intO_i, ev_sl, gSl_l, gSl_t, cutD_map, gInt_i, gInt_b, gAbs_i, gSum_l, gSum_t, ev_isi, ev_eand, ev_eor, ev_enot, gIn_il, gIn_it, gNotIn_il, gNotIn_it, gIs_n, gIsNot_n, isNon_n, isNon_t, isNon_l, isNon_i, isNon_b, ev_tup, ev_lst, limT_0, mkL_0, limT_1, mkL_1, limT_2, mkL_2, limT_3, mkL_3, limT_4, mkL_4, limT_5, mkL_5, limT_6, mkL_6, limT_7, mkL_7, limT_8, mkL_8, gAdd_ll, gAdd_tt, gMax2_i, gMin2_i, gIx_p0, gIx_p1, ev_rev, cutD_take, cutD_drop, gSortA_pair, some_or, some_and, bl_or, bl_and, gIx_t0, gIx_l0, gIx_t1, gIx_l1, gIx_t2, gIx_l2, gIx_t3, gIx_l3, gIx_t4, gIx_l4, gIx_t5, gIx_l5, ev_lc2, ↓catE_map, catE_some, catE_rg, catRg_some, ev_rg2, rgB_ok, mapME_ab, mapAB_some, fltE_ab, fltAB_p, fltAB_yes, fltABp_some, ev_callK, map_mapi, map_mapT]
      rfl
    · simp -implicitDefEqProofs (disch := first | assumption | omega | (simp only [List.length_map, rngN_len, sortI_len]; omega)) only [ev_asL, ev_lc, ev_rg1', ev_call, ev_cons, ev_nil, ev_op, ev_c, ev_bvar, ev_var, List.getElem?_cons_succ, List.getElem?_cons_zero, Option.bind_some, Option.map_some, slB_val, slV_val, slB_own, gLen_l, gLen_t, gLen_iT, List.length_map, rgA_1, rgO_ok, lim_ok, rngN_len, if_true, ↓fltE_map, ↓mapME_map, ev_gNm, ev_tYes, wipe_cons, wipe_nil, List.set_cons_succ, List.set_cons_zero, fltE_yes, fltE_p, fltP_some, fltE_rg, fltRg_p, fltRg_yes, fltRp_some, mapME_rg, mapRg_some, ev_iseq, itemsD_l, itemsD_t, mapME_some, gIx_lm, gIx_tm, Int.toNat_natCast, gAdd_i, gSub_i, map_i, ev_un, ev_asB, ev_asT, ev_not, ev_and, ev_or, ev_eif, ev_fcall, blD_bl, gEq_i, gNe_i, gLt_i, gLe_i, gGt_i, gGe_i, gNeg_i, truD_bl, ev_fn, gTuple_l, gTuple_t, gMod_i, gDiv_i, gMul_l, gMul_r, gMaxA_l', gMinA_l', gMaxA_t', gMinA_t', gSortA_l', gSortA_t', sortI_len, gIx_last, truD_lm, truD_tm, ev_m1, gIndex_i, ev_oNo, ev_oYes, intO_i, ev_sl, gSl_l, gSl_t, cutD_map, gInt_i, gInt_b, gAbs_i, gSum_l, gSum_t, ev_isi, ev_eand, ev_eor, ev_enot, gIn_il, gIn_it, gNotIn_il, gNotIn_it, gIs_n, gIsNot_n, isNon_n, isNon_t, isNon_l, isNon_i, isNon_b, ev_tup, ev_lst, limT_0, mkL_0, limT_1, mkL_1, limT_2, mkL_2, limT_3, mkL_3, limT_4, mkL_4, limT_5, mkL_5, limT_6, mkL_6, limT_7, mkL_7, limT_8, mkL_8, gAdd_ll, gAdd_tt, gMax2_i, gMin2_i, gIx_p0, gIx_p1, ev_rev, cutD_take, cutD_drop, gSortA_pair, some_or, some_and, bl_or, bl_and, gIx_t0, gIx_l0, gIx_t1, gIx_l1, gIx_t2, gIx_l2, gIx_t3, gIx_l3, gIx_t4, gIx_l4, gIx_t5, gIx_l5, ev_lc2, ↓catE_map, catE_some, catE_rg, catRg_some, ev_rg2, rgB_ok, mapME_ab, mapAB_some, fltE_ab, fltAB_p, fltAB_yes, fltABp_some, ev_callK, map_mapi, map_mapT]
    · rw [lineL_snoc]
      rfl)
  obtain ⟨e, he, c', d', rfl⟩ := hh
  exact ⟨c', d', he⟩
theorem run_lcounts {keys : List Int} {n R : Nat} (hn : 0 < n) (hn2 : n ≤ 1000) (hR : R ≤ 100) : run_l_counts [intT keys, .int R, .int n] = some (tabD n R keys) := by
  refine runC_rt rfl ?_
  simp only [List.map_cons, List.map_nil, List.replicate, List.cons_append, List.nil_append, List.set_cons_succ, List.set_cons_zero]
  refine seq_setO (ds := (tabL n 0 keys).map intT) rfl ?_
  simp only [List.set_cons_succ, List.set_cons_zero]
  have snoc : ∀ r : Nat, tabL n (r + 1) keys = tabL n r keys ++ [lineL n keys r] := fun r => by
    unfold tabL
    have : rngN (r + 1) = rngN r ++ [(r : Int)] := by
      unfold rngN
      rw [List.range_succ, List.map_append]
      rfl
    rw [this, List.map_append]
    rfl
  refine seq_rngP (n := R) (fun r e => ∃ a b c d, e = [.val (intT keys), .val (.int R), .val (.int n), .own ((tabL n r keys).map intT), a, b, c, d, .un]) (by
    simp -implicitDefEqProofs (disch := first | assumption | omega | (simp only [List.length_map, rngN_len, sortI_len]; omega)) only [ev_asL, ev_lc, ev_rg1', ev_call, ev_cons, ev_nil, ev_op, ev_c, ev_bvar, ev_var, List.getElem?_cons_succ, List.getElem?_cons_zero, Option.bind_some, Option.map_some, slB_val, slV_val, slB_own, gLen_l, gLen_t, gLen_iT, List.length_map, rgA_1, rgO_ok, lim_ok, rngN_len, if_true, ↓fltE_map, ↓mapME_map, ev_gNm, ev_tYes, wipe_cons, wipe_nil, List.set_cons_succ, List.set_cons_zero, fltE_yes, fltE_p, fltP_some, fltE_rg, fltRg_p, fltRg_yes, fltRp_some, mapME_rg, mapRg_some, ev_iseq, itemsD_l, itemsD_t, mapME_some, gIx_lm, gIx_tm, Int.toNat_natCast, gAdd_i, gSub_i, map_i, ev_un, ev_asB, ev_asT, ev_not, ev_and, ev_or, ev_eif, ev_fcall, blD_bl, gEq_i, gNe_i, gLt_i, gLe_i, gGt_i, gGe_i, gNeg_i, truD_bl, ev_fn, gTuple_l, gTuple_t, gMod_i, gDiv_i, gMul_l, gMul_r, gMaxA_l', gMinA_l', gMaxA_t', gMinA_t', gSortA_l', gSortA_t', sortI_len, gIx_last, truD_lm, truD_tm, ev_m1, gIndex_i, ev_oNo, ev_oYes, intO_i, ev_sl, gSl_l, gSl_t, cutD_map, gInt_i, gInt_b, gAbs_i, gSum_l, gSum_t, ev_isi, ev_eand, ev_eor, ev_enot, gIn_il, gIn_it, gNotIn_il, gNotIn_it, gIs_n, gIsNot_n, isNon_n, isNon_t, isNon_l, isNon_i, isNon_b, ev_tup, ev_lst, limT_0, mkL_0, limT_1, mkL_1, limT_2, mkL_2, limT_3, mkL_3, limT_4, mkL_4, limT_5, mkL_5, limT_6, mkL_6, limT_7, mkL_7, limT_8, mkL_8, gAdd_ll, gAdd_tt, gMax2_i, gMin2_i, gIx_p0, gIx_p1, ev_rev, cutD_take, cutD_drop, gSortA_pair, some_or, some_and, bl_or, bl_and, gIx_t0, gIx_l0, gIx_t1, gIx_l1, gIx_t2, gIx_l2, gIx_t3, gIx_l3, gIx_t4, gIx_l4, gIx_t5, gIx_l5, ev_lc2, ↓catE_map, catE_some, catE_rg, catRg_some, ev_rg2, rgB_ok, mapME_ab, mapAB_some, fltE_ab, fltAB_p, fltAB_yes, fltABp_some, ev_callK, map_mapi, map_mapT]) ⟨_, _, _, _, rfl⟩ (fun r hr e he => ?_) fun e he => ?_
  · obtain ⟨a, b, c, d, rfl⟩ := he
    obtain ⟨c', d', hs⟩ := lc_inner (keys := keys) (r := r) (v1 := .val (.int R)) (v3 := .own ((tabL n r keys).map intT)) (c := c) (d := d) (v8 := .un) hn (by omega)
    have hl := tab_len (n := n) (R := r) (keys := keys)
    refine ⟨_, _, rfl, .inl (seq_setO (ds := (List.replicate n (0 : Int)).map D.int) ?_ (seq_nx hs (run_app (d := intT (lineL n keys r)) (ds := (tabL n r keys).map intT) (by simp -implicitDefEqProofs (disch := first | assumption | omega | (simp only [List.length_map, rngN_len, sortI_len]; omega)) only [ev_asL, ev_lc, ev_rg1', ev_call, ev_cons, ev_nil, ev_op, ev_c, ev_bvar, ev_var, List.getElem?_cons_succ, List.getElem?_cons_zero, Option.bind_some, Option.map_some, slB_val, slV_val, slB_own, gLen_l, gLen_t, gLen_iT, List.length_map, rgA_1, rgO_ok, lim_ok, rngN_len, if_true, ↓fltE_map, ↓mapME_map, ev_gNm, ev_tYes, wipe_cons, wipe_nil, List.set_cons_succ, List.set_cons_zero, fltE_yes, fltE_p, fltP_some, fltE_rg, fltRg_p, fltRg_yes, fltRp_some, mapME_rg, mapRg_some, ev_iseq, itemsD_l, itemsD_t, mapME_some, gIx_lm, gIx_tm, Int.toNat_natCast, gAdd_i, gSub_i, map_i, ev_un, ev_asB, ev_asT, ev_not, ev_and, ev_or, ev_eif, ev_fcall, blD_bl, gEq_i, gNe_i, gLt_i, gLe_i, gGt_i, gGe_i, gNeg_i, truD_bl, ev_fn, gTuple_l, gTuple_t, gMod_i, gDiv_i, gMul_l, gMul_r, gMaxA_l', gMinA_l', gMaxA_t', gMinA_t', gSortA_l', gSortA_t', sortI_len, gIx_last, truD_lm, truD_tm, ev_m1, gIndex_i, ev_oNo, ev_oYes, intO_i, ev_sl, gSl_l, gSl_t, cutD_map, gInt_i, gInt_b, gAbs_i, gSum_l, gSum_t, ev_isi, ev_eand, ev_eor, ev_enot, gIn_il, gIn_it, gNotIn_il, gNotIn_it, gIs_n, gIsNot_n, isNon_n, isNon_t, isNon_l, isNon_i, isNon_b, ev_tup, ev_lst, limT_0, mkL_0, limT_1, mkL_1, limT_2, mkL_2, limT_3, mkL_3, limT_4, mkL_4, limT_5, mkL_5, limT_6, mkL_6, limT_7, mkL_7, limT_8, mkL_8, gAdd_ll, gAdd_tt, gMax2_i, gMin2_i, gIx_p0, gIx_p1, ev_rev, cutD_take, cutD_drop, gSortA_pair, some_or, some_and, bl_or, bl_and, gIx_t0, gIx_l0, gIx_t1, gIx_l1, gIx_t2, gIx_l2, gIx_t3, gIx_l3, gIx_t4, gIx_l4, gIx_t5, gIx_l5, ev_lc2, ↓catE_map, catE_some, catE_rg, catRg_some, ev_rg2, rgB_ok, mapME_ab, mapAB_some, fltE_ab, fltAB_p, fltAB_yes, fltABp_some, ev_callK, map_mapi, map_mapT]; rfl) rfl (by rw [List.length_map]; omega)))), .val (.int (r : Nat)), .own ((lineL n keys r).map D.int), c', d', by rw [snoc, List.map_append]; rfl⟩
    simp -implicitDefEqProofs (disch := first | assumption | omega | (simp only [List.length_map, rngN_len, sortI_len]; omega)) only [ev_asL, ev_lc, ev_rg1', ev_call, ev_cons, ev_nil, ev_op, ev_c, ev_bvar, ev_var, List.getElem?_cons_succ, List.getElem?_cons_zero, Option.bind_some, Option.map_some, slB_val, slV_val, slB_own, gLen_l, gLen_t, gLen_iT, List.length_map, rgA_1, rgO_ok, lim_ok, rngN_len, if_true, ↓fltE_map, ↓mapME_map, ev_gNm, ev_tYes, wipe_cons, wipe_nil, List.set_cons_succ, List.set_cons_zero, fltE_yes, fltE_p, fltP_some, fltE_rg, fltRg_p, fltRg_yes, fltRp_some, mapME_rg, mapRg_some, ev_iseq, itemsD_l, itemsD_t, mapME_some, gIx_lm, gIx_tm, Int.toNat_natCast, gAdd_i, gSub_i, map_i, ev_un, ev_asB, ev_asT, ev_not, ev_and, ev_or, ev_eif, ev_fcall, blD_bl, gEq_i, gNe_i, gLt_i, gLe_i, gGt_i, gGe_i, gNeg_i, truD_bl, ev_fn, gTuple_l, gTuple_t, gMod_i, gDiv_i, gMul_l, gMul_r, gMaxA_l', gMinA_l', gMaxA_t', gMinA_t', gSortA_l', gSortA_t', sortI_len, gIx_last, truD_lm, truD_tm, ev_m1, gIndex_i, ev_oNo, ev_oYes, intO_i, ev_sl, gSl_l, gSl_t, cutD_map, gInt_i, gInt_b, gAbs_i, gSum_l, gSum_t, ev_isi, ev_eand, ev_eor, ev_enot, gIn_il, gIn_it, gNotIn_il, gNotIn_it, gIs_n, gIsNot_n, isNon_n, isNon_t, isNon_l, isNon_i, isNon_b, ev_tup, ev_lst, limT_0, mkL_0, limT_1, mkL_1, limT_2, mkL_2, limT_3, mkL_3, limT_4, mkL_4, limT_5, mkL_5, limT_6, mkL_6, limT_7, mkL_7, limT_8, mkL_8, gAdd_ll, gAdd_tt, gMax2_i, gMin2_i, gIx_p0, gIx_p1, ev_rev, cutD_take, cutD_drop, gSortA_pair, some_or, some_and, bl_or, bl_and, gIx_t0, gIx_l0, gIx_t1, gIx_l1, gIx_t2, gIx_l2, gIx_t3, gIx_l3, gIx_t4, gIx_l4, gIx_t5, gIx_l5, ev_lc2, ↓catE_map, catE_some, catE_rg, catRg_some, ev_rg2, rgB_ok, mapME_ab, mapAB_some, fltE_ab, fltAB_p, fltAB_yes, fltABp_some, ev_callK, map_mapi, map_mapT]
    refine congrArg some ?_
    apply List.ext_getElem
    · simp [rngN_len]
    · intro i h1 h2
      simp
  · obtain ⟨a, b, c, d, rfl⟩ := he
    exact run_ret rfl
end K65

set_option Elab.async false
set_option linter.all false
set_option maxRecDepth 100000
set_option maxHeartbeats 4000000
namespace K65
open PySem PD
open L2 hiding nth
theorem tab_nth {n R : Nat} {keys : List Int} {i : Int} (h0 : 0 ≤ i) (h1 : i < R) : nth (tabL n R keys) i = lineL n keys i := by
  unfold tabL
  rw [nth_map h0 (by rw [rngN_len]; exact h1), nth_rng h0 h1]
theorem spot_rg {k r : Int} {n : Nat} (h : 0 < n) : 0 ≤ spot k r n ∧ spot k r n < n := mod_lt (by omega)
theorem mapRg_congr {n : Nat} {F G : ∀ i : Int, 0 ≤ i → i < n → Option D} (h : ∀ i h0 h1, F i h0 h1 = G i h0 h1) : mapRg n F = mapRg n G := by
  have : F = G := by
    funext i h0 h1
    exact h i h0 h1
  rw [this]
def mostI (n R : Nat) (keys : List Int) (key : Int) : Int := minI ((rngN R).map fun r => nth (lineL n keys r) (spot key r n))
theorem run_mostc {keys : List Int} {n R : Nat} {key : Int} (hn : 0 < n) (hR : 0 < R) (hR2 : R ≤ 100) : run_most_counted [tabD n R keys, .int key] = some (.int (mostI n R keys key)) := by
  refine runC_rt rfl ?_
  simp only [List.map_cons, List.map_nil, List.replicate, List.cons_append, List.nil_append, List.set_cons_succ, List.set_cons_zero]
  refine run_ret ?_
  have hl := tab_len (n := n) (R := R) (keys := keys)
  have hit : iEnumA (aCons (bVar 0) aNil) [.val (tabD n R keys), .val (.int key), .un, .un] = some ((rngN R).map fun i => D.tup [.int i, intT (lineL n keys i)]) := by
    rw [ev_enA]
    show some (enumL ((tabL n R keys).map intT)) = _
    rw [enumL_map, hl]
    refine congrArg some (List.map_congr_left fun i hi => ?_)
    have hi' := mem_rngN hi
    rw [tab_nth hi'.1 hi'.2]
  have hlc : fLc [2, 3] (iEnumA (aCons (bVar 0) aNil)) (gTp (gsCons (gNm 2) (gsCons (gNm 3) gsNil))) tYesF (eOp gIx (bVar 3) (eFn run_spot_of (aCons (eVar 1) (aCons (eVar 2) (aCons (eCall gLen (aCons (bVar 3) aNil)) aNil))))) [.val (tabD n R keys), .val (.int key), .un, .un] = some (((rngN R).map fun r => nth (lineL n keys r) (spot key r n)).map D.int) := by
    rw [ev_lc, hit]
    simp only [Option.bind_some]
    rw [lim_ok (by rw [List.length_map, rngN_len]; omega), if_pos rfl, List.map_map]
    simp only [↓fltE_map, ev_tYes]
    show fltE (rngN R) (fun _ _ => some true) _ = _
    rw [fltE_yes, mapME_rg]
    have : ∀ i : Int, 0 ≤ i → i < R → (eOp gIx (bVar 3) (eFn run_spot_of (aCons (eVar 1) (aCons (eVar 2) (aCons (eCall gLen (aCons (bVar 3) aNil)) aNil)))) [.val (tabD n R keys), .val (.int key), .val (.int i), .val (intT (lineL n keys i))]) = some (.int (nth (lineL n keys i) (spot key i n))) := fun i h0 h1 => by
      have sp := spot_rg (k := key) (r := i) hn
      have hll := lineL_len (n := n) (r := i) (keys := keys)
      have hrs := run_spot (key := key) (r := i) (n := n) (by omega) ⟨by omega, by omega⟩
      simp -implicitDefEqProofs (disch := first | assumption | omega | (simp only [List.length_map, rngN_len, sortI_len]; omega)) only [ev_asL, ev_lc, ev_rg1', ev_call, ev_cons, ev_nil, ev_op, ev_c, ev_bvar, ev_var, List.getElem?_cons_succ, List.getElem?_cons_zero, Option.bind_some, Option.map_some, slB_val, slV_val, slB_own, gLen_l, gLen_t, gLen_iT, List.length_map, rgA_1, rgO_ok, lim_ok, rngN_len, if_true, ↓fltE_map, ↓mapME_map, ev_gNm, ev_tYes, wipe_cons, wipe_nil, List.set_cons_succ, List.set_cons_zero, fltE_yes, fltE_p, fltP_some, fltE_rg, fltRg_p, fltRg_yes, fltRp_some, mapME_rg, mapRg_some, ev_iseq, itemsD_l, itemsD_t, mapME_some, gIx_lm, gIx_tm, Int.toNat_natCast, gAdd_i, gSub_i, map_i, ev_un, ev_asB, ev_asT, ev_not, ev_and, ev_or, ev_eif, ev_fcall, blD_bl, gEq_i, gNe_i, gLt_i, gLe_i, gGt_i, gGe_i, gNeg_i, truD_bl, ev_fn, gTuple_l, gTuple_t, gMod_i, gDiv_i, gMul_l, gMul_r, gMaxA_l', gMinA_l', gMaxA_t', gMinA_t', gSortA_l', gSortA_t', sortI_len, gIx_last, truD_lm, truD_tm, ev_m1, gIndex_i, ev_oNo, ev_oYes, intO_i, ev_sl, gSl_l, gSl_t, cutD_map, gInt_i, gInt_b, gAbs_i, gSum_l, gSum_t, ev_isi, ev_eand, ev_eor, ev_enot, gIn_il, gIn_it, gNotIn_il, gNotIn_it, gIs_n, gIsNot_n, isNon_n, isNon_t, isNon_l, isNon_i, isNon_b, ev_tup, ev_lst, limT_0, mkL_0, limT_1, mkL_1, limT_2, mkL_2, limT_3, mkL_3, limT_4, mkL_4, limT_5, mkL_5, limT_6, mkL_6, limT_7, mkL_7, limT_8, mkL_8, gAdd_ll, gAdd_tt, gMax2_i, gMin2_i, gIx_p0, gIx_p1, ev_rev, cutD_take, cutD_drop, gSortA_pair, some_or, some_and, bl_or, bl_and, gIx_t0, gIx_l0, gIx_t1, gIx_l1, gIx_t2, gIx_l2, gIx_t3, gIx_l3, gIx_t4, gIx_l4, gIx_t5, gIx_l5, ev_lc2, ↓catE_map, catE_some, catE_rg, catRg_some, ev_rg2, rgB_ok, mapME_ab, mapAB_some, fltE_ab, fltAB_p, fltAB_yes, fltABp_some, ev_callK, map_mapi, map_mapT, hll, hrs]
      exact gIx_tm sp.1 (by rw [hll]; exact sp.2)
    refine (mapRg_congr (fun i h0 h1 => this i h0 h1)).trans ?_
    exact mapRg_some
  simp only [ev_call, ev_cons, ev_nil, ev_asL, hlc, Option.map_some, Option.bind_some]
  rw [gMinA_l' (by rw [List.length_map, rngN_len]; omega)]
  rfl
end K65

set_option Elab.async false
set_option linter.all false
set_option maxRecDepth 100000
set_option maxHeartbeats 4000000
namespace K65
open PySem PD
open L2 hiding nth
/-! ### heavy ones -/
abbrev PL := List (Int × Int)
def live (l : PL) : List Int := (keysI l).filter fun j => decide (1 < valI l j)
def dropL (l : PL) : PL := (live l).map fun j => (j, valI l j - 1)
def hstep (k : Int) (l : PL) (key : Int) : PL := if key ∈ keysI l then putI l key (valI l key + 1) else if (l.length : Int) < k - 1 then putI l key 1 else dropL l
def heavy (k : Int) (keys : List Int) : PL := keys.foldl (hstep k) []
theorem heavy_snoc {k : Int} {ys : List Int} {x : Int} : heavy k (ys ++ [x]) = hstep k (heavy k ys) x := by
  unfold heavy
  rw [List.foldl_append]
  rfl
theorem keys_drop {l : PL} : keysI (dropL l) = live l := by
  unfold keysI dropL
  rw [List.map_map]
  exact List.map_id _
theorem live_nd {l : PL} (h : (keysI l).Nodup) : (live l).Nodup := h.sublist List.filter_sublist
theorem put_in {l : PL} {k v : Int} (h : k ∈ keysI l) : (putI l k v).length = l.length := by
  unfold putI
  rw [if_pos h, List.length_map]
def Inv (k : Int) (l : PL) : Prop := (keysI l).Nodup ∧ (l.length : Int) ≤ k - 1
theorem inv_step {k : Int} {l : PL} {x : Int} (h : Inv k l) : Inv k (hstep k l x) := by
  unfold hstep
  split
  · rename_i hx
    exact ⟨nodup_put h.1, by rw [put_in hx]; exact h.2⟩
  · split
    · rename_i hl
      have := putI_len (l := l) (k := x) (v := (1 : Int))
      exact ⟨nodup_put h.1, by omega⟩
    · refine ⟨by rw [keys_drop]; exact live_nd h.1, ?_⟩
      have h1 : (dropL l).length ≤ l.length := by
        unfold dropL live
        rw [List.length_map]
        exact Nat.le_trans (List.length_filter_le _ _) (by rw [keysI_len]; exact Nat.le_refl _)
      have := h.2
      omega
theorem inv_fold {k : Int} : ∀ (ys : List Int) (l : PL), Inv k l → Inv k (ys.foldl (hstep k) l)
  | [], l, h => h
  | y :: ys, l, h => inv_fold ys (hstep k l y) (inv_step h)
theorem inv_heavy {k : Int} {ys : List Int} (hk : 1 ≤ k) : Inv k (heavy k ys) := inv_fold ys [] ⟨List.nodup_nil, by show ((0 : Nat) : Int) ≤ k - 1; omega⟩
theorem run_daug {env : List Sl} {i : Nat} {fk f : Fe} {l : PL} {k y : Int} (h : env[i]? = some (.ownD false (kvI D.int l))) (h1 : fk env = some (.int k)) (h2 : f env = some (.int y)) (hk : k ∈ keysI l) (hz : l.length + 1 ≤ 16777216) : sDAugD i (gI (fun _ _ => true) fun i j => .int (i + j)) fk f env = some (.nx (env.set i (.ownD false (kvI D.int (putI l k (valI l k + y)))))) := by
  unfold sDAugD
  rw [h1]
  simp only [Option.bind_some]
  rw [h]
  show (if keyOk false (.int k) = true then _ else none) = _
  rw [if_pos (keyOk_i k), lookD_I, lookI_in hk]
  simp only [Option.map_some, Option.bind_some]
  rw [h2]
  simp only [Option.bind_some]
  rw [gAugAdd_i]
  simp only [Option.bind_some]
  exact putS_I h hz
def pl (l : PL) : List (Int × Int) := (sortI (keysI l)).map fun j => (j, valI l j)
theorem sort_pl {l : PL} : sortP ((keysI l).map fun j => (j, valI l j)) = pl l := by
  refine sortP_of ((sortI_perm _).map _) ?_
  unfold pl
  refine List.pairwise_map.mpr ((sortI_sorted (keysI l)).imp fun {a b} h => ?_)
  unfold leP
  refine decide_eq_true ?_
  by_cases e : a = b
  · subst e
    exact .inr ⟨rfl, Int.le_refl _⟩
  · exact .inl (by show a < b; omega)
def heavyD (k : Int) (keys : List Int) : D := .tup ((pl (heavy k keys)).map pairD)
theorem run_heavy {keys : List Int} {k : Int} (hk : 1 ≤ k ∧ k ≤ 10) : run_heavy_ones [intT keys, .int k] = some (heavyD k keys) := by
  refine runC_rt rfl ?_
  simp only [List.map_cons, List.map_nil, List.replicate, List.cons_append, List.nil_append, List.set_cons_succ, List.set_cons_zero]
  refine seq_nx (e := [.val (intT keys), .val (.int k), .ownD false (kvI D.int (heavy k [])), .un, .un]) rfl ?_
  refine seq_forP (xs := keys) (enc := D.int) (fun ys e => ∃ a, e = [.val (intT keys), .val (.int k), .ownD false (kvI D.int (heavy k ys)), a, .un]) rfl ⟨_, rfl⟩ (fun ys x zs hx e he => ?_) fun e he => ?_
  · obtain ⟨a, rfl⟩ := he
    have iv := inv_heavy (k := k) (ys := ys) hk.1
    have iv2 := iv.2
    refine ⟨_, [.val (intT keys), .val (.int k), .ownD false (kvI D.int (heavy k (ys ++ [x]))), .val (.int x), .un], rfl, .inl ?_, _, rfl⟩
    rw [heavy_snoc]
    generalize hl : heavy k ys = l at iv iv2
    simp only [List.set_cons_succ, List.set_cons_zero]
    refine run_ifk (k := decide (x ∈ keysI l)) ?_ (fun q => ?_) fun q => ?_
    · simp -implicitDefEqProofs (disch := first | assumption | omega | (simp only [List.length_map, rngN_len, sortI_len]; omega)) only [ev_asL, ev_lc, ev_rg1', ev_call, ev_cons, ev_nil, ev_op, ev_c, ev_bvar, ev_var, List.getElem?_cons_succ, List.getElem?_cons_zero, Option.bind_some, Option.map_some, slB_val, slV_val, slB_own, gLen_l, gLen_t, gLen_iT, List.length_map, rgA_1, rgO_ok, lim_ok, rngN_len, if_true, ↓fltE_map, ↓mapME_map, ev_gNm, ev_tYes, wipe_cons, wipe_nil, List.set_cons_succ, List.set_cons_zero, fltE_yes, fltE_p, fltP_some, fltE_rg, fltRg_p, fltRg_yes, fltRp_some, mapME_rg, mapRg_some, ev_iseq, itemsD_l, itemsD_t, mapME_some, gIx_lm, gIx_tm, Int.toNat_natCast, gAdd_i, gSub_i, map_i, ev_un, ev_asB, ev_asT, ev_not, ev_and, ev_or, ev_eif, ev_fcall, blD_bl, gEq_i, gNe_i, gLt_i, gLe_i, gGt_i, gGe_i, gNeg_i, truD_bl, ev_fn, gTuple_l, gTuple_t, gMod_i, gDiv_i, gMul_l, gMul_r, gMaxA_l', gMinA_l', gMaxA_t', gMinA_t', gSortA_l', gSortA_t', sortI_len, gIx_last, truD_lm, truD_tm, ev_m1, gIndex_i, ev_oNo, ev_oYes, intO_i, ev_sl, gSl_l, gSl_t, cutD_map, gInt_i, gInt_b, gAbs_i, gSum_l, gSum_t, ev_isi, ev_eand, ev_eor, ev_enot, gIn_il, gIn_it, gNotIn_il, gNotIn_it, gIs_n, gIsNot_n, isNon_n, isNon_t, isNon_l, isNon_i, isNon_b, ev_tup, ev_lst, limT_0, mkL_0, limT_1, mkL_1, limT_2, mkL_2, limT_3, mkL_3, limT_4, mkL_4, limT_5, mkL_5, limT_6, mkL_6, limT_7, mkL_7, limT_8, mkL_8, gAdd_ll, gAdd_tt, gMax2_i, gMin2_i, gIx_p0, gIx_p1, ev_rev, cutD_take, cutD_drop, gSortA_pair, some_or, some_and, bl_or, bl_and, gIx_t0, gIx_l0, gIx_t1, gIx_l1, gIx_t2, gIx_l2, gIx_t3, gIx_l3, gIx_t4, gIx_l4, gIx_t5, gIx_l5, ev_lc2, ↓catE_map, catE_some, catE_rg, catRg_some, ev_rg2, rgB_ok, mapME_ab, mapAB_some, fltE_ab, fltAB_p, fltAB_yes, fltABp_some, ev_callK, map_mapi, map_mapT, ev_dgetE, ev_dget1E, ev_dget2E, ev_dinE, gDIn_If, gDIn_It, gSortD_I, gListD_I, keysD_I, gLenD_I, ev_iky, slB_ownD, gDGet_I, gDGet_S, ev_enA, seqD_l, seqD_t, seqD_iT, enumL_map]
    · have hin := of_decide_eq_true q
      unfold hstep
      rw [if_pos hin]
      exact run_daug rfl rfl rfl hin (by omega)
    have hin := of_decide_eq_false q
    unfold hstep
    rw [if_neg hin]
    refine run_ifk (k := decide ((l.length : Int) < k - 1)) ?_ (fun q => ?_) fun q => ?_
    · simp -implicitDefEqProofs (disch := first | assumption | omega | (simp only [List.length_map, rngN_len, sortI_len]; omega)) only [ev_asL, ev_lc, ev_rg1', ev_call, ev_cons, ev_nil, ev_op, ev_c, ev_bvar, ev_var, List.getElem?_cons_succ, List.getElem?_cons_zero, Option.bind_some, Option.map_some, slB_val, slV_val, slB_own, gLen_l, gLen_t, gLen_iT, List.length_map, rgA_1, rgO_ok, lim_ok, rngN_len, if_true, ↓fltE_map, ↓mapME_map, ev_gNm, ev_tYes, wipe_cons, wipe_nil, List.set_cons_succ, List.set_cons_zero, fltE_yes, fltE_p, fltP_some, fltE_rg, fltRg_p, fltRg_yes, fltRp_some, mapME_rg, mapRg_some, ev_iseq, itemsD_l, itemsD_t, mapME_some, gIx_lm, gIx_tm, Int.toNat_natCast, gAdd_i, gSub_i, map_i, ev_un, ev_asB, ev_asT, ev_not, ev_and, ev_or, ev_eif, ev_fcall, blD_bl, gEq_i, gNe_i, gLt_i, gLe_i, gGt_i, gGe_i, gNeg_i, truD_bl, ev_fn, gTuple_l, gTuple_t, gMod_i, gDiv_i, gMul_l, gMul_r, gMaxA_l', gMinA_l', gMaxA_t', gMinA_t', gSortA_l', gSortA_t', sortI_len, gIx_last, truD_lm, truD_tm, ev_m1, gIndex_i, ev_oNo, ev_oYes, intO_i, ev_sl, gSl_l, gSl_t, cutD_map, gInt_i, gInt_b, gAbs_i, gSum_l, gSum_t, ev_isi, ev_eand, ev_eor, ev_enot, gIn_il, gIn_it, gNotIn_il, gNotIn_it, gIs_n, gIsNot_n, isNon_n, isNon_t, isNon_l, isNon_i, isNon_b, ev_tup, ev_lst, limT_0, mkL_0, limT_1, mkL_1, limT_2, mkL_2, limT_3, mkL_3, limT_4, mkL_4, limT_5, mkL_5, limT_6, mkL_6, limT_7, mkL_7, limT_8, mkL_8, gAdd_ll, gAdd_tt, gMax2_i, gMin2_i, gIx_p0, gIx_p1, ev_rev, cutD_take, cutD_drop, gSortA_pair, some_or, some_and, bl_or, bl_and, gIx_t0, gIx_l0, gIx_t1, gIx_l1, gIx_t2, gIx_l2, gIx_t3, gIx_l3, gIx_t4, gIx_l4, gIx_t5, gIx_l5, ev_lc2, ↓catE_map, catE_some, catE_rg, catRg_some, ev_rg2, rgB_ok, mapME_ab, mapAB_some, fltE_ab, fltAB_p, fltAB_yes, fltABp_some, ev_callK, map_mapi, map_mapT, ev_dgetE, ev_dget1E, ev_dget2E, ev_dinE, gDIn_If, gDIn_It, gSortD_I, gListD_I, keysD_I, gLenD_I, ev_iky, slB_ownD, gDGet_I, gDGet_S, ev_enA, seqD_l, seqD_t, seqD_iT, enumL_map]
    · have hlt := of_decide_eq_true q
      rw [if_pos hlt]
      exact run_dset (e := D.int) rfl rfl rfl (by omega)
    have hlt := of_decide_eq_false q
    rw [if_neg hlt]
    refine run_frz ?_
    show sSetN 2 _ [.val (intT keys), .val (.int k), .val (.dic false (kvI D.int l)), .val (.int x), .un] = _
    unfold sSetN fDc
    have hky : iKy (eVar 2) [.val (intT keys), .val (.int k), .val (.dic false (kvI D.int l)), .val (.int x), .un] = some ((keysI l).map D.int) := keysD_I
    rw [hky]
    simp only [Option.bind_some]
    rw [lim_ok (by rw [List.length_map, keysI_len]; omega), if_pos rfl]
    have hc := compD_F (e := D.int) (enc := D.int) (t := gNm 4) (c := asB (eOp gGt (eDGet (bVar 2) (eVar 4)) (eC (.int 1)))) (ky := eVar 4) (y := eOp gSub (eDGet (bVar 2) (eVar 4)) (eC (.int 1))) (kf := fun j => j) (vf := fun j => valI l j - 1) (p := fun j => decide (1 < valI l j)) (env := [.val (intT keys), .val (.int k), .val (.dic false (kvI D.int l)), .val (.int x), .un]) (keysI l) [] fun j hj => ⟨[.val (intT keys), .val (.int k), .val (.dic false (kvI D.int l)), .val (.int x), .val (.int j)], rfl, by
      simp -implicitDefEqProofs (disch := first | assumption | omega | (simp only [List.length_map, rngN_len, sortI_len]; omega)) only [ev_asL, ev_lc, ev_rg1', ev_call, ev_cons, ev_nil, ev_op, ev_c, ev_bvar, ev_var, List.getElem?_cons_succ, List.getElem?_cons_zero, Option.bind_some, Option.map_some, slB_val, slV_val, slB_own, gLen_l, gLen_t, gLen_iT, List.length_map, rgA_1, rgO_ok, lim_ok, rngN_len, if_true, ↓fltE_map, ↓mapME_map, ev_gNm, ev_tYes, wipe_cons, wipe_nil, List.set_cons_succ, List.set_cons_zero, fltE_yes, fltE_p, fltP_some, fltE_rg, fltRg_p, fltRg_yes, fltRp_some, mapME_rg, mapRg_some, ev_iseq, itemsD_l, itemsD_t, mapME_some, gIx_lm, gIx_tm, Int.toNat_natCast, gAdd_i, gSub_i, map_i, ev_un, ev_asB, ev_asT, ev_not, ev_and, ev_or, ev_eif, ev_fcall, blD_bl, gEq_i, gNe_i, gLt_i, gLe_i, gGt_i, gGe_i, gNeg_i, truD_bl, ev_fn, gTuple_l, gTuple_t, gMod_i, gDiv_i, gMul_l, gMul_r, gMaxA_l', gMinA_l', gMaxA_t', gMinA_t', gSortA_l', gSortA_t', sortI_len, gIx_last, truD_lm, truD_tm, ev_m1, gIndex_i, ev_oNo, ev_oYes, intO_i, ev_sl, gSl_l, gSl_t, cutD_map, gInt_i, gInt_b, gAbs_i, gSum_l, gSum_t, ev_isi, ev_eand, ev_eor, ev_enot, gIn_il, gIn_it, gNotIn_il, gNotIn_it, gIs_n, gIsNot_n, isNon_n, isNon_t, isNon_l, isNon_i, isNon_b, ev_tup, ev_lst, limT_0, mkL_0, limT_1, mkL_1, limT_2, mkL_2, limT_3, mkL_3, limT_4, mkL_4, limT_5, mkL_5, limT_6, mkL_6, limT_7, mkL_7, limT_8, mkL_8, gAdd_ll, gAdd_tt, gMax2_i, gMin2_i, gIx_p0, gIx_p1, ev_rev, cutD_take, cutD_drop, gSortA_pair, some_or, some_and, bl_or, bl_and, gIx_t0, gIx_l0, gIx_t1, gIx_l1, gIx_t2, gIx_l2, gIx_t3, gIx_l3, gIx_t4, gIx_l4, gIx_t5, gIx_l5, ev_lc2, ↓catE_map, catE_some, catE_rg, catRg_some, ev_rg2, rgB_ok, mapME_ab, mapAB_some, fltE_ab, fltAB_p, fltAB_yes, fltABp_some, ev_callK, map_mapi, map_mapT, ev_dgetE, ev_dget1E, ev_dget2E, ev_dinE, gDIn_If, gDIn_It, gSortD_I, gListD_I, keysD_I, gLenD_I, ev_iky, slB_ownD, gDGet_I, gDGet_S, ev_enA, seqD_l, seqD_t, seqD_iT, enumL_map], fun _ => ⟨rfl, by
      simp -implicitDefEqProofs (disch := first | assumption | omega | (simp only [List.length_map, rngN_len, sortI_len]; omega)) only [ev_asL, ev_lc, ev_rg1', ev_call, ev_cons, ev_nil, ev_op, ev_c, ev_bvar, ev_var, List.getElem?_cons_succ, List.getElem?_cons_zero, Option.bind_some, Option.map_some, slB_val, slV_val, slB_own, gLen_l, gLen_t, gLen_iT, List.length_map, rgA_1, rgO_ok, lim_ok, rngN_len, if_true, ↓fltE_map, ↓mapME_map, ev_gNm, ev_tYes, wipe_cons, wipe_nil, List.set_cons_succ, List.set_cons_zero, fltE_yes, fltE_p, fltP_some, fltE_rg, fltRg_p, fltRg_yes, fltRp_some, mapME_rg, mapRg_some, ev_iseq, itemsD_l, itemsD_t, mapME_some, gIx_lm, gIx_tm, Int.toNat_natCast, gAdd_i, gSub_i, map_i, ev_un, ev_asB, ev_asT, ev_not, ev_and, ev_or, ev_eif, ev_fcall, blD_bl, gEq_i, gNe_i, gLt_i, gLe_i, gGt_i, gGe_i, gNeg_i, truD_bl, ev_fn, gTuple_l, gTuple_t, gMod_i, gDiv_i, gMul_l, gMul_r, gMaxA_l', gMinA_l', gMaxA_t', gMinA_t', gSortA_l', gSortA_t', sortI_len, gIx_last, truD_lm, truD_tm, ev_m1, gIndex_i, ev_oNo, ev_oYes, intO_i, ev_sl, gSl_l, gSl_t, cutD_map, gInt_i, gInt_b, gAbs_i, gSum_l, gSum_t, ev_isi, ev_eand, ev_eor, ev_enot, gIn_il, gIn_it, gNotIn_il, gNotIn_it, gIs_n, gIsNot_n, isNon_n, isNon_t, isNon_l, isNon_i, isNon_b, ev_tup, ev_lst, limT_0, mkL_0, limT_1, mkL_1, limT_2, mkL_2, limT_3, mkL_3, limT_4, mkL_4, limT_5, mkL_5, limT_6, mkL_6, limT_7, mkL_7, limT_8, mkL_8, gAdd_ll, gAdd_tt, gMax2_i, gMin2_i, gIx_p0, gIx_p1, ev_rev, cutD_take, cutD_drop, gSortA_pair, some_or, some_and, bl_or, bl_and, gIx_t0, gIx_l0, gIx_t1, gIx_l1, gIx_t2, gIx_l2, gIx_t3, gIx_l3, gIx_t4, gIx_l4, gIx_t5, gIx_l5, ev_lc2, ↓catE_map, catE_some, catE_rg, catRg_some, ev_rg2, rgB_ok, mapME_ab, mapAB_some, fltE_ab, fltAB_p, fltAB_yes, fltABp_some, ev_callK, map_mapi, map_mapT, ev_dgetE, ev_dget1E, ev_dget2E, ev_dinE, gDIn_If, gDIn_It, gSortD_I, gListD_I, keysD_I, gLenD_I, ev_iky, slB_ownD, gDGet_I, gDGet_S, ev_enA, seqD_l, seqD_t, seqD_iT, enumL_map]⟩⟩
    rw [putsI_nodup _ [] (by
      show (keysI (dropL l)).Nodup
      rw [keys_drop]
      exact live_nd iv.1)] at hc
    simp only [wipe_cons, wipe_nil, List.set_cons_succ, List.set_cons_zero]
    rw [show ([] : List (D × D)) = kvI D.int [] from rfl, hc]
    rfl
  · obtain ⟨a, rfl⟩ := he
    have iv := inv_heavy (k := k) (ys := keys) hk.1
    refine run_frz ?_
    show sRet _ [.val (intT keys), .val (.int k), .val (.dic false (kvI D.int (heavy k keys))), a, .un] = _
    refine run_ret ?_
    unfold heavyD
    generalize hl : heavy k keys = l at iv
    have iv2 := iv.2
    have hkl := keysI_len (l := l)
    have hlc : fLc [3] (iKy (eVar 2)) (gNm 3) tYesF (eTup (aCons (eVar 3) (aCons (eDGet (bVar 2) (eVar 3)) aNil))) [.val (intT keys), .val (.int k), .val (.dic false (kvI D.int l)), a, .un] = some (((keysI l).map fun j => (j, valI l j)).map pairD) := by
      simp -implicitDefEqProofs (disch := first | assumption | omega | (simp only [List.length_map, rngN_len, sortI_len]; omega)) only [ev_asL, ev_lc, ev_rg1', ev_call, ev_cons, ev_nil, ev_op, ev_c, ev_bvar, ev_var, List.getElem?_cons_succ, List.getElem?_cons_zero, Option.bind_some, Option.map_some, slB_val, slV_val, slB_own, gLen_l, gLen_t, gLen_iT, List.length_map, rgA_1, rgO_ok, lim_ok, rngN_len, if_true, ↓fltE_map, ↓mapME_map, ev_gNm, ev_tYes, wipe_cons, wipe_nil, List.set_cons_succ, List.set_cons_zero, fltE_yes, fltE_p, fltP_some, fltE_rg, fltRg_p, fltRg_yes, fltRp_some, mapME_rg, mapRg_some, ev_iseq, itemsD_l, itemsD_t, mapME_some, gIx_lm, gIx_tm, Int.toNat_natCast, gAdd_i, gSub_i, map_i, ev_un, ev_asB, ev_asT, ev_not, ev_and, ev_or, ev_eif, ev_fcall, blD_bl, gEq_i, gNe_i, gLt_i, gLe_i, gGt_i, gGe_i, gNeg_i, truD_bl, ev_fn, gTuple_l, gTuple_t, gMod_i, gDiv_i, gMul_l, gMul_r, gMaxA_l', gMinA_l', gMaxA_t', gMinA_t', gSortA_l', gSortA_t', sortI_len, gIx_last, truD_lm, truD_tm, ev_m1, gIndex_i, ev_oNo, ev_oYes, intO_i, ev_sl, gSl_l, gSl_t, cutD_map, gInt_i, gInt_b, gAbs_i, gSum_l, gSum_t, ev_isi, ev_eand, ev_eor, ev_enot, gIn_il, gIn_it, gNotIn_il, gNotIn_it, gIs_n, gIsNot_n, isNon_n, isNon_t, isNon_l, isNon_i, isNon_b, ev_tup, ev_lst, limT_0, mkL_0, limT_1, mkL_1, limT_2, mkL_2, limT_3, mkL_3, limT_4, mkL_4, limT_5, mkL_5, limT_6, mkL_6, limT_7, mkL_7, limT_8, mkL_8, gAdd_ll, gAdd_tt, gMax2_i, gMin2_i, gIx_p0, gIx_p1, ev_rev, cutD_take, cutD_drop, gSortA_pair, some_or, some_and, bl_or, bl_and, gIx_t0, gIx_l0, gIx_t1, gIx_l1, gIx_t2, gIx_l2, gIx_t3, gIx_l3, gIx_t4, gIx_l4, gIx_t5, gIx_l5, ev_lc2, ↓catE_map, catE_some, catE_rg, catRg_some, ev_rg2, rgB_ok, mapME_ab, mapAB_some, fltE_ab, fltAB_p, fltAB_yes, fltABp_some, ev_callK, map_mapi, map_mapT, ev_dgetE, ev_dget1E, ev_dget2E, ev_dinE, gDIn_If, gDIn_It, gSortD_I, gListD_I, keysD_I, gLenD_I, ev_iky, slB_ownD, gDGet_I, gDGet_S, ev_enA, seqD_l, seqD_t, seqD_iT, enumL_map, ev_iky, keysD_I, hkl]
      rw [List.map_map]
      rfl
    simp only [ev_call, ev_cons, ev_nil, ev_asL, ev_fcall, hlc, Option.map_some, Option.bind_some, gSortA_pair, sort_pl]
    rfl
end K65

set_option Elab.async false
set_option linter.all false
set_option maxRecDepth 100000
set_option maxHeartbeats 4000000
namespace K65
open PySem PD
open L2 hiding nth
def livesP (l : PL) (ys : List Int) : PL := (ys.filter fun j => decide (1 < valI l j)).map fun j => (j, valI l j - 1)
theorem lives_nd {l : PL} {ys : List Int} (h : ys.Nodup) : (keysI ([] ++ livesP l ys)).Nodup := by
  have e : keysI (livesP l ys) = ys.filter fun j => decide (1 < valI l j) := by
    unfold keysI livesP
    rw [List.map_map]
    exact List.map_id _
  rw [List.nil_append, e]
  exact h.sublist List.filter_sublist
theorem run_lheavy {keys : List Int} {k : Int} (hk : 1 ≤ k ∧ k ≤ 10) : run_l_heavy [intT keys, .int k] = some (heavyD k keys) := by
  refine runC_rt rfl ?_
  simp only [List.map_cons, List.map_nil, List.replicate, List.cons_append, List.nil_append, List.set_cons_succ, List.set_cons_zero]
  refine seq_nx (e := [.val (intT keys), .val (.int k), .ownD false (kvI D.int (heavy k [])), .un, .un, .un]) rfl ?_
  refine seq_forP (xs := keys) (enc := D.int) (fun ys e => ∃ a b c, e = [.val (intT keys), .val (.int k), .ownD false (kvI D.int (heavy k ys)), a, b, c]) rfl ⟨_, _, _, rfl⟩ (fun ys x zs hx e he => ?_) fun e he => ?_
  · obtain ⟨a, b, c, rfl⟩ := he
    have iv := inv_heavy (k := k) (ys := ys) hk.1
    have iv2 := iv.2
    suffices hs : ∃ b2 c2, sIf (asB (eDIn false (eVar 3) (bVar 2))) (sDSet 2 (eVar 3) (eOp gAdd (eDGet (bVar 2) (eVar 3)) (eC (.int 1)))) (sIf (asB (eOp gLt (eCall gLenD (aCons (bVar 2) aNil)) (eOp gSub (bVar 1) (eC (.int 1))))) (sDSet 2 (eVar 3) (eC (.int 1))) (sSeq (sSetN 4 (dN false)) (sSeq (sFrz [2] (sFor (iKy (eVar 2)) (gNm 5) (sIf (asB (eOp gGt (eDGet (bVar 2) (eVar 5)) (eC (.int 1)))) (sDSet 4 (eVar 5) (eOp gSub (eDGet (bVar 2) (eVar 5)) (eC (.int 1)))) sNop))) (sMov 2 4)))) [.val (intT keys), .val (.int k), .ownD false (kvI D.int (heavy k ys)), .val (.int x), b, c] = some (.nx [.val (intT keys), .val (.int k), .ownD false (kvI D.int (heavy k (ys ++ [x]))), .val (.int x), b2, c2]) by
      obtain ⟨b', c', hs⟩ := hs
      exact ⟨_, _, rfl, .inl hs, _, _, _, rfl⟩
    rw [heavy_snoc]
    generalize hl : heavy k ys = l at iv iv2
    unfold hstep
    by_cases hin : x ∈ keysI l
    · rw [if_pos hin]
      refine ⟨b, c, run_if1 ?_ (run_dset (e := D.int) (k := x) (v := valI l x + 1) ?_ rfl rfl (by omega))⟩
      · simp -implicitDefEqProofs (disch := first | assumption | omega | (simp only [List.length_map, rngN_len, sortI_len]; omega)) only [ev_asL, ev_lc, ev_rg1', ev_call, ev_cons, ev_nil, ev_op, ev_c, ev_bvar, ev_var, List.getElem?_cons_succ, List.getElem?_cons_zero, Option.bind_some, Option.map_some, slB_val, slV_val, slB_own, gLen_l, gLen_t, gLen_iT, List.length_map, rgA_1, rgO_ok, lim_ok, rngN_len, if_true, ↓fltE_map, ↓mapME_map, ev_gNm, ev_tYes, wipe_cons, wipe_nil, List.set_cons_succ, List.set_cons_zero, fltE_yes, fltE_p, fltP_some, fltE_rg, fltRg_p, fltRg_yes, fltRp_some, mapME_rg, mapRg_some, ev_iseq, itemsD_l, itemsD_t, mapME_some, gIx_lm, gIx_tm, Int.toNat_natCast, gAdd_i, gSub_i, map_i, ev_un, ev_asB, ev_asT, ev_not, ev_and, ev_or, ev_eif, ev_fcall, blD_bl, gEq_i, gNe_i, gLt_i, gLe_i, gGt_i, gGe_i, gNeg_i, truD_bl, ev_fn, gTuple_l, gTuple_t, gMod_i, gDiv_i, gMul_l, gMul_r, gMaxA_l', gMinA_l', gMaxA_t', gMinA_t', gSortA_l', gSortA_t', sortI_len, gIx_last, truD_lm, truD_tm, ev_m1, gIndex_i, ev_oNo, ev_oYes, intO_i, ev_sl, gSl_l, gSl_t, cutD_map, gInt_i, gInt_b, gAbs_i, gSum_l, gSum_t, ev_isi, ev_eand, ev_eor, ev_enot, gIn_il, gIn_it, gNotIn_il, gNotIn_it, gIs_n, gIsNot_n, isNon_n, isNon_t, isNon_l, isNon_i, isNon_b, ev_tup, ev_lst, limT_0, mkL_0, limT_1, mkL_1, limT_2, mkL_2, limT_3, mkL_3, limT_4, mkL_4, limT_5, mkL_5, limT_6, mkL_6, limT_7, mkL_7, limT_8, mkL_8, gAdd_ll, gAdd_tt, gMax2_i, gMin2_i, gIx_p0, gIx_p1, ev_rev, cutD_take, cutD_drop, gSortA_pair, some_or, some_and, bl_or, bl_and, gIx_t0, gIx_l0, gIx_t1, gIx_l1, gIx_t2, gIx_l2, gIx_t3, gIx_l3, gIx_t4, gIx_l4, gIx_t5, gIx_l5, ev_lc2, ↓catE_map, catE_some, catE_rg, catRg_some, ev_rg2, rgB_ok, mapME_ab, mapAB_some, fltE_ab, fltAB_p, fltAB_yes, fltABp_some, ev_callK, map_mapi, map_mapT, ev_dgetE, ev_dget1E, ev_dget2E, ev_dinE, gDIn_If, gDIn_It, gSortD_I, gListD_I, keysD_I, gLenD_I, ev_iky, slB_ownD, gDGet_I, gDGet_S, ev_enA, seqD_l, seqD_t, seqD_iT, enumL_map, hin, decide_true]
      · simp -implicitDefEqProofs (disch := first | assumption | omega | (simp only [List.length_map, rngN_len, sortI_len]; omega)) only [ev_asL, ev_lc, ev_rg1', ev_call, ev_cons, ev_nil, ev_op, ev_c, ev_bvar, ev_var, List.getElem?_cons_succ, List.getElem?_cons_zero, Option.bind_some, Option.map_some, slB_val, slV_val, slB_own, gLen_l, gLen_t, gLen_iT, List.length_map, rgA_1, rgO_ok, lim_ok, rngN_len, if_true, ↓fltE_map, ↓mapME_map, ev_gNm, ev_tYes, wipe_cons, wipe_nil, List.set_cons_succ, List.set_cons_zero, fltE_yes, fltE_p, fltP_some, fltE_rg, fltRg_p, fltRg_yes, fltRp_some, mapME_rg, mapRg_some, ev_iseq, itemsD_l, itemsD_t, mapME_some, gIx_lm, gIx_tm, Int.toNat_natCast, gAdd_i, gSub_i, map_i, ev_un, ev_asB, ev_asT, ev_not, ev_and, ev_or, ev_eif, ev_fcall, blD_bl, gEq_i, gNe_i, gLt_i, gLe_i, gGt_i, gGe_i, gNeg_i, truD_bl, ev_fn, gTuple_l, gTuple_t, gMod_i, gDiv_i, gMul_l, gMul_r, gMaxA_l', gMinA_l', gMaxA_t', gMinA_t', gSortA_l', gSortA_t', sortI_len, gIx_last, truD_lm, truD_tm, ev_m1, gIndex_i, ev_oNo, ev_oYes, intO_i, ev_sl, gSl_l, gSl_t, cutD_map, gInt_i, gInt_b, gAbs_i, gSum_l, gSum_t, ev_isi, ev_eand, ev_eor, ev_enot, gIn_il, gIn_it, gNotIn_il, gNotIn_it, gIs_n, gIsNot_n, isNon_n, isNon_t, isNon_l, isNon_i, isNon_b, ev_tup, ev_lst, limT_0, mkL_0, limT_1, mkL_1, limT_2, mkL_2, limT_3, mkL_3, limT_4, mkL_4, limT_5, mkL_5, limT_6, mkL_6, limT_7, mkL_7, limT_8, mkL_8, gAdd_ll, gAdd_tt, gMax2_i, gMin2_i, gIx_p0, gIx_p1, ev_rev, cutD_take, cutD_drop, gSortA_pair, some_or, some_and, bl_or, bl_and, gIx_t0, gIx_l0, gIx_t1, gIx_l1, gIx_t2, gIx_l2, gIx_t3, gIx_l3, gIx_t4, gIx_l4, gIx_t5, gIx_l5, ev_lc2, ↓catE_map, catE_some, catE_rg, catRg_some, ev_rg2, rgB_ok, mapME_ab, mapAB_some, fltE_ab, fltAB_p, fltAB_yes, fltABp_some, ev_callK, map_mapi, map_mapT, ev_dgetE, ev_dget1E, ev_dget2E, ev_dinE, gDIn_If, gDIn_It, gSortD_I, gListD_I, keysD_I, gLenD_I, ev_iky, slB_ownD, gDGet_I, gDGet_S, ev_enA, seqD_l, seqD_t, seqD_iT, enumL_map]
    rw [if_neg hin]
    by_cases hlt : (l.length : Int) < k - 1
    · rw [if_pos hlt]
      refine ⟨b, c, run_if0 ?_ (run_if1 ?_ (run_dset (e := D.int) (k := x) (v := 1) rfl rfl rfl (by omega)))⟩
      · simp -implicitDefEqProofs (disch := first | assumption | omega | (simp only [List.length_map, rngN_len, sortI_len]; omega)) only [ev_asL, ev_lc, ev_rg1', ev_call, ev_cons, ev_nil, ev_op, ev_c, ev_bvar, ev_var, List.getElem?_cons_succ, List.getElem?_cons_zero, Option.bind_some, Option.map_some, slB_val, slV_val, slB_own, gLen_l, gLen_t, gLen_iT, List.length_map, rgA_1, rgO_ok, lim_ok, rngN_len, if_true, ↓fltE_map, ↓mapME_map, ev_gNm, ev_tYes, wipe_cons, wipe_nil, List.set_cons_succ, List.set_cons_zero, fltE_yes, fltE_p, fltP_some, fltE_rg, fltRg_p, fltRg_yes, fltRp_some, mapME_rg, mapRg_some, ev_iseq, itemsD_l, itemsD_t, mapME_some, gIx_lm, gIx_tm, Int.toNat_natCast, gAdd_i, gSub_i, map_i, ev_un, ev_asB, ev_asT, ev_not, ev_and, ev_or, ev_eif, ev_fcall, blD_bl, gEq_i, gNe_i, gLt_i, gLe_i, gGt_i, gGe_i, gNeg_i, truD_bl, ev_fn, gTuple_l, gTuple_t, gMod_i, gDiv_i, gMul_l, gMul_r, gMaxA_l', gMinA_l', gMaxA_t', gMinA_t', gSortA_l', gSortA_t', sortI_len, gIx_last, truD_lm, truD_tm, ev_m1, gIndex_i, ev_oNo, ev_oYes, intO_i, ev_sl, gSl_l, gSl_t, cutD_map, gInt_i, gInt_b, gAbs_i, gSum_l, gSum_t, ev_isi, ev_eand, ev_eor, ev_enot, gIn_il, gIn_it, gNotIn_il, gNotIn_it, gIs_n, gIsNot_n, isNon_n, isNon_t, isNon_l, isNon_i, isNon_b, ev_tup, ev_lst, limT_0, mkL_0, limT_1, mkL_1, limT_2, mkL_2, limT_3, mkL_3, limT_4, mkL_4, limT_5, mkL_5, limT_6, mkL_6, limT_7, mkL_7, limT_8, mkL_8, gAdd_ll, gAdd_tt, gMax2_i, gMin2_i, gIx_p0, gIx_p1, ev_rev, cutD_take, cutD_drop, gSortA_pair, some_or, some_and, bl_or, bl_and, gIx_t0, gIx_l0, gIx_t1, gIx_l1, gIx_t2, gIx_l2, gIx_t3, gIx_l3, gIx_t4, gIx_l4, gIx_t5, gIx_l5, ev_lc2, ↓catE_map, catE_some, catE_rg, catRg_some, ev_rg2, rgB_ok, mapME_ab, mapAB_some, fltE_ab, fltAB_p, fltAB_yes, fltABp_some, ev_callK, map_mapi, map_mapT, ev_dgetE, ev_dget1E, ev_dget2E, ev_dinE, gDIn_If, gDIn_It, gSortD_I, gListD_I, keysD_I, gLenD_I, ev_iky, slB_ownD, gDGet_I, gDGet_S, ev_enA, seqD_l, seqD_t, seqD_iT, enumL_map, hin, decide_false]
      · simp -implicitDefEqProofs (disch := first | assumption | omega | (simp only [List.length_map, rngN_len, sortI_len]; omega)) only [ev_asL, ev_lc, ev_rg1', ev_call, ev_cons, ev_nil, ev_op, ev_c, ev_bvar, ev_var, List.getElem?_cons_succ, List.getElem?_cons_zero, Option.bind_some, Option.map_some, slB_val, slV_val, slB_own, gLen_l, gLen_t, gLen_iT, List.length_map, rgA_1, rgO_ok, lim_ok, rngN_len, if_true, ↓fltE_map, ↓mapME_map, ev_gNm, ev_tYes, wipe_cons, wipe_nil, List.set_cons_succ, List.set_cons_zero, fltE_yes, fltE_p, fltP_some, fltE_rg, fltRg_p, fltRg_yes, fltRp_some, mapME_rg, mapRg_some, ev_iseq, itemsD_l, itemsD_t, mapME_some, gIx_lm, gIx_tm, Int.toNat_natCast, gAdd_i, gSub_i, map_i, ev_un, ev_asB, ev_asT, ev_not, ev_and, ev_or, ev_eif, ev_fcall, blD_bl, gEq_i, gNe_i, gLt_i, gLe_i, gGt_i, gGe_i, gNeg_i, truD_bl, ev_fn, gTuple_l, gTuple_t, gMod_i, gDiv_i, gMul_l, gMul_r, gMaxA_l', gMinA_l', gMaxA_t', gMinA_t', gSortA_l', gSortA_t', sortI_len, gIx_last, truD_lm, truD_tm, ev_m1, gIndex_i, ev_oNo, ev_oYes, intO_i, ev_sl, gSl_l, gSl_t, cutD_map, gInt_i, gInt_b, gAbs_i, gSum_l, gSum_t, ev_isi, ev_eand, ev_eor, ev_enot, gIn_il, gIn_it, gNotIn_il, gNotIn_it, gIs_n, gIsNot_n, isNon_n, isNon_t, isNon_l, isNon_i, isNon_b, ev_tup, ev_lst, limT_0, mkL_0, limT_1, mkL_1, limT_2, mkL_2, limT_3, mkL_3, limT_4, mkL_4, limT_5, mkL_5, limT_6, mkL_6, limT_7, mkL_7, limT_8, mkL_8, gAdd_ll, gAdd_tt, gMax2_i, gMin2_i, gIx_p0, gIx_p1, ev_rev, cutD_take, cutD_drop, gSortA_pair, some_or, some_and, bl_or, bl_and, gIx_t0, gIx_l0, gIx_t1, gIx_l1, gIx_t2, gIx_l2, gIx_t3, gIx_l3, gIx_t4, gIx_l4, gIx_t5, gIx_l5, ev_lc2, ↓catE_map, catE_some, catE_rg, catRg_some, ev_rg2, rgB_ok, mapME_ab, mapAB_some, fltE_ab, fltAB_p, fltAB_yes, fltABp_some, ev_callK, map_mapi, map_mapT, ev_dgetE, ev_dget1E, ev_dget2E, ev_dinE, gDIn_If, gDIn_It, gSortD_I, gListD_I, keysD_I, gLenD_I, ev_iky, slB_ownD, gDGet_I, gDGet_S, ev_enA, seqD_l, seqD_t, seqD_iT, enumL_map, hlt, decide_true]
    rw [if_neg hlt]
    have hh := run_forP (a := sIf (asB (eOp gGt (eDGet (bVar 2) (eVar 5)) (eC (.int 1)))) (sDSet 4 (eVar 5) (eOp gSub (eDGet (bVar 2) (eVar 5)) (eC (.int 1)))) sNop) (g := gNm 5) (it := iKy (eVar 2)) (env := [.val (intT keys), .val (.int k), .val (.dic false (kvI D.int l)), .val (.int x), .ownD false (kvI D.int []), c]) (xs := keysI l) (enc := D.int) (fun zs e => ∃ c, e = [.val (intT keys), .val (.int k), .val (.dic false (kvI D.int l)), .val (.int x), .ownD false (kvI D.int (livesP l zs)), c]) keysD_I ⟨_, rfl⟩ (by
      intro us y vs hu e he
      obtain ⟨c, rfl⟩ := he
      have hy : y ∈ keysI l := by
        rw [hu]
        exact List.mem_append_right _ List.mem_cons_self
      have hnd : (keysI ([] ++ livesP l (us ++ [y]))).Nodup := lives_nd (by
        have := iv.1
        rw [hu, List.append_cons] at this
        exact (List.nodup_append.mp this).1)
      refine ⟨_, [.val (intT keys), .val (.int k), .val (.dic false (kvI D.int l)), .val (.int x), .ownD false (kvI D.int (livesP l (us ++ [y]))), .val (.int y)], rfl, .inl ?_, _, rfl⟩
      refine run_ifk (k := decide (1 < valI l y)) ?_ (fun q => ?_) fun q => ?_
      · simp -implicitDefEqProofs (disch := first | assumption | omega | (simp only [List.length_map, rngN_len, sortI_len]; omega)) only [ev_asL, ev_lc, ev_rg1', ev_call, ev_cons, ev_nil, ev_op, ev_c, ev_bvar, ev_var, List.getElem?_cons_succ, List.getElem?_cons_zero, Option.bind_some, Option.map_some, slB_val, slV_val, slB_own, gLen_l, gLen_t, gLen_iT, List.length_map, rgA_1, rgO_ok, lim_ok, rngN_len, if_true, ↓fltE_map, ↓mapME_map, ev_gNm, ev_tYes, wipe_cons, wipe_nil, List.set_cons_succ, List.set_cons_zero, fltE_yes, fltE_p, fltP_some, fltE_rg, fltRg_p, fltRg_yes, fltRp_some, mapME_rg, mapRg_some, ev_iseq, itemsD_l, itemsD_t, mapME_some, gIx_lm, gIx_tm, Int.toNat_natCast, gAdd_i, gSub_i, map_i, ev_un, ev_asB, ev_asT, ev_not, ev_and, ev_or, ev_eif, ev_fcall, blD_bl, gEq_i, gNe_i, gLt_i, gLe_i, gGt_i, gGe_i, gNeg_i, truD_bl, ev_fn, gTuple_l, gTuple_t, gMod_i, gDiv_i, gMul_l, gMul_r, gMaxA_l', gMinA_l', gMaxA_t', gMinA_t', gSortA_l', gSortA_t', sortI_len, gIx_last, truD_lm, truD_tm, ev_m1, gIndex_i, ev_oNo, ev_oYes, intO_i, ev_sl, gSl_l, gSl_t, cutD_map, gInt_i, gInt_b, gAbs_i, gSum_l, gSum_t, ev_isi, ev_eand, ev_eor, ev_enot, gIn_il, gIn_it, gNotIn_il, gNotIn_it, gIs_n, gIsNot_n, isNon_n, isNon_t, isNon_l, isNon_i, isNon_b, ev_tup, ev_lst, limT_0, mkL_0, limT_1, mkL_1, limT_2, mkL_2, limT_3, mkL_3, limT_4, mkL_4, limT_5, mkL_5, limT_6, mkL_6, limT_7, mkL_7, limT_8, mkL_8, gAdd_ll, gAdd_tt, gMax2_i, gMin2_i, gIx_p0, gIx_p1, ev_rev, cutD_take, cutD_drop, gSortA_pair, some_or, some_and, bl_or, bl_and, gIx_t0, gIx_l0, gIx_t1, gIx_l1, gIx_t2, gIx_l2, gIx_t3, gIx_l3, gIx_t4, gIx_l4, gIx_t5, gIx_l5, ev_lc2, ↓catE_map, catE_some, catE_rg, catRg_some, ev_rg2, rgB_ok, mapME_ab, mapAB_some, fltE_ab, fltAB_p, fltAB_yes, fltABp_some, ev_callK, map_mapi, map_mapT, ev_dgetE, ev_dget1E, ev_dget2E, ev_dinE, gDIn_If, gDIn_It, gSortD_I, gListD_I, keysD_I, gLenD_I, ev_iky, slB_ownD, gDGet_I, gDGet_S, ev_enA, seqD_l, seqD_t, seqD_iT, enumL_map]
      · have e1 : livesP l (us ++ [y]) = livesP l us ++ [(y, valI l y - 1)] := by
          unfold livesP
          rw [List.filter_append, List.map_append, List.filter_cons_of_pos (p := fun j => decide (1 < valI l j)) q]
          rfl
        have e2 : putI (livesP l us) y (valI l y - 1) = livesP l us ++ [(y, valI l y - 1)] := by
          unfold putI
          rw [if_neg fun m => ?_]
          rw [e1, List.nil_append] at hnd
          unfold keysI at hnd m
          rw [List.map_append] at hnd
          exact (List.nodup_append.mp hnd).2.2 _ m _ List.mem_cons_self rfl
        have hlen : (livesP l us).length + 1 ≤ 16777216 := by
          have h1 : (livesP l us).length ≤ us.length := by
            unfold livesP
            rw [List.length_map]
            exact List.length_filter_le _ _
          have h2 : us.length ≤ l.length := by
            rw [← keysI_len (l := l), hu, List.length_append]
            omega
          omega
        rw [e1, ← e2]
        refine (run_dset (e := D.int) (l := livesP l us) (k := y) (v := valI l y - 1) ?_ rfl rfl hlen).trans rfl
        simp -implicitDefEqProofs (disch := first | assumption | omega | (simp only [List.length_map, rngN_len, sortI_len]; omega)) only [ev_asL, ev_lc, ev_rg1', ev_call, ev_cons, ev_nil, ev_op, ev_c, ev_bvar, ev_var, List.getElem?_cons_succ, List.getElem?_cons_zero, Option.bind_some, Option.map_some, slB_val, slV_val, slB_own, gLen_l, gLen_t, gLen_iT, List.length_map, rgA_1, rgO_ok, lim_ok, rngN_len, if_true, ↓fltE_map, ↓mapME_map, ev_gNm, ev_tYes, wipe_cons, wipe_nil, List.set_cons_succ, List.set_cons_zero, fltE_yes, fltE_p, fltP_some, fltE_rg, fltRg_p, fltRg_yes, fltRp_some, mapME_rg, mapRg_some, ev_iseq, itemsD_l, itemsD_t, mapME_some, gIx_lm, gIx_tm, Int.toNat_natCast, gAdd_i, gSub_i, map_i, ev_un, ev_asB, ev_asT, ev_not, ev_and, ev_or, ev_eif, ev_fcall, blD_bl, gEq_i, gNe_i, gLt_i, gLe_i, gGt_i, gGe_i, gNeg_i, truD_bl, ev_fn, gTuple_l, gTuple_t, gMod_i, gDiv_i, gMul_l, gMul_r, gMaxA_l', gMinA_l', gMaxA_t', gMinA_t', gSortA_l', gSortA_t', sortI_len, gIx_last, truD_lm, truD_tm, ev_m1, gIndex_i, ev_oNo, ev_oYes, intO_i, ev_sl, gSl_l, gSl_t, cutD_map, gInt_i, gInt_b, gAbs_i, gSum_l, gSum_t, ev_isi, ev_eand, ev_eor, ev_enot, gIn_il, gIn_it, gNotIn_il, gNotIn_it, gIs_n, gIsNot_n, isNon_n, isNon_t, isNon_l, isNon_i, isNon_b, ev_tup, ev_lst, limT_0, mkL_0, limT_1, mkL_1, limT_2, mkL_2, limT_3, mkL_3, limT_4, mkL_4, limT_5, mkL_5, limT_6, mkL_6, limT_7, mkL_7, limT_8, mkL_8, gAdd_ll, gAdd_tt, gMax2_i, gMin2_i, gIx_p0, gIx_p1, ev_rev, cutD_take, cutD_drop, gSortA_pair, some_or, some_and, bl_or, bl_and, gIx_t0, gIx_l0, gIx_t1, gIx_l1, gIx_t2, gIx_l2, gIx_t3, gIx_l3, gIx_t4, gIx_l4, gIx_t5, gIx_l5, ev_lc2, ↓catE_map, catE_some, catE_rg, catRg_some, ev_rg2, rgB_ok, mapME_ab, mapAB_some, fltE_ab, fltAB_p, fltAB_yes, fltABp_some, ev_callK, map_mapi, map_mapT, ev_dgetE, ev_dget1E, ev_dget2E, ev_dinE, gDIn_If, gDIn_It, gSortD_I, gListD_I, keysD_I, gLenD_I, ev_iky, slB_ownD, gDGet_I, gDGet_S, ev_enA, seqD_l, seqD_t, seqD_iT, enumL_map]
      · have e1 : livesP l (us ++ [y]) = livesP l us := by
          unfold livesP
          rw [List.filter_append, List.filter_cons_of_neg (by simp [q])]
          simp
        rw [e1]
        rfl)
    obtain ⟨e, he, c', rfl⟩ := hh
    refine ⟨.un, c', run_if0 ?_ (run_if0 ?_ (seq_nx (e := [.val (intT keys), .val (.int k), .ownD false (kvI D.int l), .val (.int x), .ownD false (kvI D.int []), c]) rfl (seq_frz he ?_)))⟩
    · simp -implicitDefEqProofs (disch := first | assumption | omega | (simp only [List.length_map, rngN_len, sortI_len]; omega)) only [ev_asL, ev_lc, ev_rg1', ev_call, ev_cons, ev_nil, ev_op, ev_c, ev_bvar, ev_var, List.getElem?_cons_succ, List.getElem?_cons_zero, Option.bind_some, Option.map_some, slB_val, slV_val, slB_own, gLen_l, gLen_t, gLen_iT, List.length_map, rgA_1, rgO_ok, lim_ok, rngN_len, if_true, ↓fltE_map, ↓mapME_map, ev_gNm, ev_tYes, wipe_cons, wipe_nil, List.set_cons_succ, List.set_cons_zero, fltE_yes, fltE_p, fltP_some, fltE_rg, fltRg_p, fltRg_yes, fltRp_some, mapME_rg, mapRg_some, ev_iseq, itemsD_l, itemsD_t, mapME_some, gIx_lm, gIx_tm, Int.toNat_natCast, gAdd_i, gSub_i, map_i, ev_un, ev_asB, ev_asT, ev_not, ev_and, ev_or, ev_eif, ev_fcall, blD_bl, gEq_i, gNe_i, gLt_i, gLe_i, gGt_i, gGe_i, gNeg_i, truD_bl, ev_fn, gTuple_l, gTuple_t, gMod_i, gDiv_i, gMul_l, gMul_r, gMaxA_l', gMinA_l', gMaxA_t', gMinA_t', gSortA_l', gSortA_t', sortI_len, gIx_last, truD_lm, truD_tm, ev_m1, gIndex_i, ev_oNo, ev_oYes, intO_i, ev_sl, gSl_l, gSl_t, cutD_map, gInt_i, gInt_b, gAbs_i, gSum_l, gSum_t, ev_isi, ev_eand, ev_eor, ev_enot, gIn_il, gIn_it, gNotIn_il, gNotIn_it, gIs_n, gIsNot_n, isNon_n, isNon_t, isNon_l, isNon_i, isNon_b, ev_tup, ev_lst, limT_0, mkL_0, limT_1, mkL_1, limT_2, mkL_2, limT_3, mkL_3, limT_4, mkL_4, limT_5, mkL_5, limT_6, mkL_6, limT_7, mkL_7, limT_8, mkL_8, gAdd_ll, gAdd_tt, gMax2_i, gMin2_i, gIx_p0, gIx_p1, ev_rev, cutD_take, cutD_drop, gSortA_pair, some_or, some_and, bl_or, bl_and, gIx_t0, gIx_l0, gIx_t1, gIx_l1, gIx_t2, gIx_l2, gIx_t3, gIx_l3, gIx_t4, gIx_l4, gIx_t5, gIx_l5, ev_lc2, ↓catE_map, catE_some, catE_rg, catRg_some, ev_rg2, rgB_ok, mapME_ab, mapAB_some, fltE_ab, fltAB_p, fltAB_yes, fltABp_some, ev_callK, map_mapi, map_mapT, ev_dgetE, ev_dget1E, ev_dget2E, ev_dinE, gDIn_If, gDIn_It, gSortD_I, gListD_I, keysD_I, gLenD_I, ev_iky, slB_ownD, gDGet_I, gDGet_S, ev_enA, seqD_l, seqD_t, seqD_iT, enumL_map, hin, decide_false]
    · simp -implicitDefEqProofs (disch := first | assumption | omega | (simp only [List.length_map, rngN_len, sortI_len]; omega)) only [ev_asL, ev_lc, ev_rg1', ev_call, ev_cons, ev_nil, ev_op, ev_c, ev_bvar, ev_var, List.getElem?_cons_succ, List.getElem?_cons_zero, Option.bind_some, Option.map_some, slB_val, slV_val, slB_own, gLen_l, gLen_t, gLen_iT, List.length_map, rgA_1, rgO_ok, lim_ok, rngN_len, if_true, ↓fltE_map, ↓mapME_map, ev_gNm, ev_tYes, wipe_cons, wipe_nil, List.set_cons_succ, List.set_cons_zero, fltE_yes, fltE_p, fltP_some, fltE_rg, fltRg_p, fltRg_yes, fltRp_some, mapME_rg, mapRg_some, ev_iseq, itemsD_l, itemsD_t, mapME_some, gIx_lm, gIx_tm, Int.toNat_natCast, gAdd_i, gSub_i, map_i, ev_un, ev_asB, ev_asT, ev_not, ev_and, ev_or, ev_eif, ev_fcall, blD_bl, gEq_i, gNe_i, gLt_i, gLe_i, gGt_i, gGe_i, gNeg_i, truD_bl, ev_fn, gTuple_l, gTuple_t, gMod_i, gDiv_i, gMul_l, gMul_r, gMaxA_l', gMinA_l', gMaxA_t', gMinA_t', gSortA_l', gSortA_t', sortI_len, gIx_last, truD_lm, truD_tm, ev_m1, gIndex_i, ev_oNo, ev_oYes, intO_i, ev_sl, gSl_l, gSl_t, cutD_map, gInt_i, gInt_b, gAbs_i, gSum_l, gSum_t, ev_isi, ev_eand, ev_eor, ev_enot, gIn_il, gIn_it, gNotIn_il, gNotIn_it, gIs_n, gIsNot_n, isNon_n, isNon_t, isNon_l, isNon_i, isNon_b, ev_tup, ev_lst, limT_0, mkL_0, limT_1, mkL_1, limT_2, mkL_2, limT_3, mkL_3, limT_4, mkL_4, limT_5, mkL_5, limT_6, mkL_6, limT_7, mkL_7, limT_8, mkL_8, gAdd_ll, gAdd_tt, gMax2_i, gMin2_i, gIx_p0, gIx_p1, ev_rev, cutD_take, cutD_drop, gSortA_pair, some_or, some_and, bl_or, bl_and, gIx_t0, gIx_l0, gIx_t1, gIx_l1, gIx_t2, gIx_l2, gIx_t3, gIx_l3, gIx_t4, gIx_l4, gIx_t5, gIx_l5, ev_lc2, ↓catE_map, catE_some, catE_rg, catRg_some, ev_rg2, rgB_ok, mapME_ab, mapAB_some, fltE_ab, fltAB_p, fltAB_yes, fltABp_some, ev_callK, map_mapi, map_mapT, ev_dgetE, ev_dget1E, ev_dget2E, ev_dinE, gDIn_If, gDIn_It, gSortD_I, gListD_I, keysD_I, gLenD_I, ev_iky, slB_ownD, gDGet_I, gDGet_S, ev_enA, seqD_l, seqD_t, seqD_iT, enumL_map, hlt, decide_false]
    · rfl
  · obtain ⟨a, b, c, rfl⟩ := he
    have iv := inv_heavy (k := k) (ys := keys) hk.1
    refine run_ret ?_
    unfold heavyD pl
    generalize hl : heavy k keys = l at iv
    have iv2 := iv.2
    have hkl := keysI_len (l := l)
    simp -implicitDefEqProofs (disch := first | assumption | omega | (simp only [List.length_map, rngN_len, sortI_len]; omega)) only [ev_asL, ev_lc, ev_rg1', ev_call, ev_cons, ev_nil, ev_op, ev_c, ev_bvar, ev_var, List.getElem?_cons_succ, List.getElem?_cons_zero, Option.bind_some, Option.map_some, slB_val, slV_val, slB_own, gLen_l, gLen_t, gLen_iT, List.length_map, rgA_1, rgO_ok, lim_ok, rngN_len, if_true, ↓fltE_map, ↓mapME_map, ev_gNm, ev_tYes, wipe_cons, wipe_nil, List.set_cons_succ, List.set_cons_zero, fltE_yes, fltE_p, fltP_some, fltE_rg, fltRg_p, fltRg_yes, fltRp_some, mapME_rg, mapRg_some, ev_iseq, itemsD_l, itemsD_t, mapME_some, gIx_lm, gIx_tm, Int.toNat_natCast, gAdd_i, gSub_i, map_i, ev_un, ev_asB, ev_asT, ev_not, ev_and, ev_or, ev_eif, ev_fcall, blD_bl, gEq_i, gNe_i, gLt_i, gLe_i, gGt_i, gGe_i, gNeg_i, truD_bl, ev_fn, gTuple_l, gTuple_t, gMod_i, gDiv_i, gMul_l, gMul_r, gMaxA_l', gMinA_l', gMaxA_t', gMinA_t', gSortA_l', gSortA_t', sortI_len, gIx_last, truD_lm, truD_tm, ev_m1, gIndex_i, ev_oNo, ev_oYes, intO_i, ev_sl, gSl_l, gSl_t, cutD_map, gInt_i, gInt_b, gAbs_i, gSum_l, gSum_t, ev_isi, ev_eand, ev_eor, ev_enot, gIn_il, gIn_it, gNotIn_il, gNotIn_it, gIs_n, gIsNot_n, isNon_n, isNon_t, isNon_l, isNon_i, isNon_b, ev_tup, ev_lst, limT_0, mkL_0, limT_1, mkL_1, limT_2, mkL_2, limT_3, mkL_3, limT_4, mkL_4, limT_5, mkL_5, limT_6, mkL_6, limT_7, mkL_7, limT_8, mkL_8, gAdd_ll, gAdd_tt, gMax2_i, gMin2_i, gIx_p0, gIx_p1, ev_rev, cutD_take, cutD_drop, gSortA_pair, some_or, some_and, bl_or, bl_and, gIx_t0, gIx_l0, gIx_t1, gIx_l1, gIx_t2, gIx_l2, gIx_t3, gIx_l3, gIx_t4, gIx_l4, gIx_t5, gIx_l5, ev_lc2, ↓catE_map, catE_some, catE_rg, catRg_some, ev_rg2, rgB_ok, mapME_ab, mapAB_some, fltE_ab, fltAB_p, fltAB_yes, fltABp_some, ev_callK, map_mapi, map_mapT, ev_dgetE, ev_dget1E, ev_dget2E, ev_dinE, gDIn_If, gDIn_It, gSortD_I, gListD_I, keysD_I, gLenD_I, ev_iky, slB_ownD, gDGet_I, gDGet_S, ev_enA, seqD_l, seqD_t, seqD_iT, enumL_map, hkl]
    rw [List.map_map]
    rfl
end K65

set_option Elab.async false
set_option linter.all false
set_option maxRecDepth 100000
set_option maxHeartbeats 4000000
namespace K65
open PySem PD
open L2 hiding nth
theorem run_keys {row : List Int} (hr : row.length = 42) : ∃ keys : List Int, run_l_keys [.lst (row.map D.int)] = some (intT keys) ∧ keys.length ≤ 20 ∧ ∀ k ∈ keys, 0 ≤ k ∧ k < 1000003 := by
  have h0 := mod_lt (a := nth row 0) (b := 21) (by omega)
  have h1 := mod_lt (a := nth row 1) (b := 3) (by omega)
  obtain ⟨m, hm⟩ : ∃ m : Nat, nth row 0 % 21 = m := ⟨(nth row 0 % 21).toNat, by omega⟩
  obtain ⟨top, htop, ht⟩ : ∃ top : Int, gIx (.tup [.int 6, .int 201, .int 1000003]) (.int (nth row 1 % 3)) = some (.int top) ∧ 6 ≤ top ∧ top ≤ 1000003 := by
    have hx : nth row 1 % 3 = 0 ∨ nth row 1 % 3 = 1 ∨ nth row 1 % 3 = 2 := by omega
    rcases hx with e | e | e <;> rw [e]
    · exact ⟨6, rfl, by omega, by omega⟩
    · exact ⟨201, rfl, by omega, by omega⟩
    · exact ⟨1000003, rfl, by omega, by omega⟩
  let F : List Int := (rngN m).map fun k => nth row (6 + k) % top
  have hF : F.length = m := by
    show ((rngN m).map _).length = m
    rw [List.length_map, rngN_len]
  have hFm : ∀ x ∈ F, 0 ≤ x ∧ x < 1000003 := fun x hx => by
    obtain ⟨i, _, rfl⟩ := List.mem_map.mp hx
    have := mod_lt (a := nth row (6 + i)) (b := top) (by omega)
    omega
  suffices hs : ∃ keys : List Int, sIf (tAndF (asB (eOp gGt (eCall gLen (aCons (bVar 2) aNil)) (eC (.int 0)))) (asB (eOp gEq (eOp gMod (eCall gInt (aCons (eOp gIx (bVar 0) (eC (.int 2))) aNil)) (eC (.int 2))) (eC (.int 0)))))
    (sSet 2 (asL (fLc [4] (iSeq (bVar 2)) (gNm 4) tYesF (eOp gIx (bVar 2) (eOp gMod (eCall gInt (aCons (bVar 4) aNil)) (eOp gAdd (eC (.int 1)) (eOp gDiv (eCall gLen (aCons (bVar 2) aNil)) (eC (.int 2)))))))))
    sNop [.val (.lst (row.map D.int)), .val (.int top), .val (.lst (F.map D.int)), .un, .un] = some (.nx [.val (.lst (row.map D.int)), .val (.int top), .val (.lst (keys.map D.int)), .un, .un]) ∧ keys.length ≤ 20 ∧ ∀ k ∈ keys, 0 ≤ k ∧ k < 1000003 by
    obtain ⟨keys, he, h2, h3⟩ := hs
    refine ⟨keys, ?_, h2, h3⟩
    refine runC_rt rfl ?_
    simp only [List.map_cons, List.map_nil, List.replicate, List.cons_append, List.nil_append, List.set_cons_succ, List.set_cons_zero]
    refine seq_set (d := .int top) (by
      simp -implicitDefEqProofs (disch := first | assumption | omega | (simp only [List.length_map, rngN_len, sortI_len]; omega)) only [ev_asL, ev_lc, ev_rg1', ev_call, ev_cons, ev_nil, ev_op, ev_c, ev_bvar, ev_var, List.getElem?_cons_succ, List.getElem?_cons_zero, Option.bind_some, Option.map_some, slB_val, slV_val, slB_own, gLen_l, gLen_t, gLen_iT, List.length_map, rgA_1, rgO_ok, lim_ok, rngN_len, if_true, ↓fltE_map, ↓mapME_map, ev_gNm, ev_tYes, wipe_cons, wipe_nil, List.set_cons_succ, List.set_cons_zero, fltE_yes, fltE_p, fltP_some, fltE_rg, fltRg_p, fltRg_yes, fltRp_some, mapME_rg, mapRg_some, ev_iseq, itemsD_l, itemsD_t, mapME_some, gIx_lm, gIx_tm, Int.toNat_natCast, gAdd_i, gSub_i, map_i, ev_un, ev_asB, ev_asT, ev_not, ev_and, ev_or, ev_eif, ev_fcall, blD_bl, gEq_i, gNe_i, gLt_i, gLe_i, gGt_i, gGe_i, gNeg_i, truD_bl, ev_fn, gTuple_l, gTuple_t, gMod_i, gDiv_i, gMul_l, gMul_r, gMaxA_l', gMinA_l', gMaxA_t', gMinA_t', gSortA_l', gSortA_t', sortI_len, gIx_last, truD_lm, truD_tm, ev_m1, gIndex_i, ev_oNo, ev_oYes, intO_i, ev_sl, gSl_l, gSl_t, cutD_map, gInt_i, gInt_b, gAbs_i, gSum_l, gSum_t, ev_isi, ev_eand, ev_eor, ev_enot, gIn_il, gIn_it, gNotIn_il, gNotIn_it, gIs_n, gIsNot_n, isNon_n, isNon_t, isNon_l, isNon_i, isNon_b, ev_tup, ev_lst, limT_0, mkL_0, limT_1, mkL_1, limT_2, mkL_2, limT_3, mkL_3, limT_4, mkL_4, limT_5, mkL_5, limT_6, mkL_6, limT_7, mkL_7, limT_8, mkL_8, gAdd_ll, gAdd_tt, gMax2_i, gMin2_i, gIx_p0, gIx_p1, ev_rev, cutD_take, cutD_drop, gSortA_pair, some_or, some_and, bl_or, bl_and, gIx_t0, gIx_l0, gIx_t1, gIx_l1, gIx_t2, gIx_l2, gIx_t3, gIx_l3, gIx_t4, gIx_l4, gIx_t5, gIx_l5, ev_lc2, ↓catE_map, catE_some, catE_rg, catRg_some, ev_rg2, rgB_ok, mapME_ab, mapAB_some, fltE_ab, fltAB_p, fltAB_yes, fltABp_some, ev_callK, map_mapi, map_mapT, htop]) ?_
    simp only [List.map_cons, List.map_nil, List.replicate, List.cons_append, List.nil_append, List.set_cons_succ, List.set_cons_zero]
    refine seq_set (d := .lst (F.map D.int)) (by
      simp -implicitDefEqProofs (disch := first | assumption | omega | (simp only [List.length_map, rngN_len, sortI_len]; omega)) only [ev_asL, ev_lc, ev_rg1', ev_call, ev_cons, ev_nil, ev_op, ev_c, ev_bvar, ev_var, List.getElem?_cons_succ, List.getElem?_cons_zero, Option.bind_some, Option.map_some, slB_val, slV_val, slB_own, gLen_l, gLen_t, gLen_iT, List.length_map, rgA_1, rgO_ok, lim_ok, rngN_len, if_true, ↓fltE_map, ↓mapME_map, ev_gNm, ev_tYes, wipe_cons, wipe_nil, List.set_cons_succ, List.set_cons_zero, fltE_yes, fltE_p, fltP_some, fltE_rg, fltRg_p, fltRg_yes, fltRp_some, mapME_rg, mapRg_some, ev_iseq, itemsD_l, itemsD_t, mapME_some, gIx_lm, gIx_tm, Int.toNat_natCast, gAdd_i, gSub_i, map_i, ev_un, ev_asB, ev_asT, ev_not, ev_and, ev_or, ev_eif, ev_fcall, blD_bl, gEq_i, gNe_i, gLt_i, gLe_i, gGt_i, gGe_i, gNeg_i, truD_bl, ev_fn, gTuple_l, gTuple_t, gMod_i, gDiv_i, gMul_l, gMul_r, gMaxA_l', gMinA_l', gMaxA_t', gMinA_t', gSortA_l', gSortA_t', sortI_len, gIx_last, truD_lm, truD_tm, ev_m1, gIndex_i, ev_oNo, ev_oYes, intO_i, ev_sl, gSl_l, gSl_t, cutD_map, gInt_i, gInt_b, gAbs_i, gSum_l, gSum_t, ev_isi, ev_eand, ev_eor, ev_enot, gIn_il, gIn_it, gNotIn_il, gNotIn_it, gIs_n, gIsNot_n, isNon_n, isNon_t, isNon_l, isNon_i, isNon_b, ev_tup, ev_lst, limT_0, mkL_0, limT_1, mkL_1, limT_2, mkL_2, limT_3, mkL_3, limT_4, mkL_4, limT_5, mkL_5, limT_6, mkL_6, limT_7, mkL_7, limT_8, mkL_8, gAdd_ll, gAdd_tt, gMax2_i, gMin2_i, gIx_p0, gIx_p1, ev_rev, cutD_take, cutD_drop, gSortA_pair, some_or, some_and, bl_or, bl_and, gIx_t0, gIx_l0, gIx_t1, gIx_l1, gIx_t2, gIx_l2, gIx_t3, gIx_l3, gIx_t4, gIx_l4, gIx_t5, gIx_l5, ev_lc2, ↓catE_map, catE_some, catE_rg, catRg_some, ev_rg2, rgB_ok, mapME_ab, mapAB_some, fltE_ab, fltAB_p, fltAB_yes, fltABp_some, ev_callK, map_mapi, map_mapT, hm]
      rfl) ?_
    simp only [List.set_cons_succ, List.set_cons_zero]
    refine seq_nx he ?_
    refine run_ret ?_
    simp -implicitDefEqProofs (disch := first | assumption | omega | (simp only [List.length_map, rngN_len, sortI_len]; omega)) only [ev_asL, ev_lc, ev_rg1', ev_call, ev_cons, ev_nil, ev_op, ev_c, ev_bvar, ev_var, List.getElem?_cons_succ, List.getElem?_cons_zero, Option.bind_some, Option.map_some, slB_val, slV_val, slB_own, gLen_l, gLen_t, gLen_iT, List.length_map, rgA_1, rgO_ok, lim_ok, rngN_len, if_true, ↓fltE_map, ↓mapME_map, ev_gNm, ev_tYes, wipe_cons, wipe_nil, List.set_cons_succ, List.set_cons_zero, fltE_yes, fltE_p, fltP_some, fltE_rg, fltRg_p, fltRg_yes, fltRp_some, mapME_rg, mapRg_some, ev_iseq, itemsD_l, itemsD_t, mapME_some, gIx_lm, gIx_tm, Int.toNat_natCast, gAdd_i, gSub_i, map_i, ev_un, ev_asB, ev_asT, ev_not, ev_and, ev_or, ev_eif, ev_fcall, blD_bl, gEq_i, gNe_i, gLt_i, gLe_i, gGt_i, gGe_i, gNeg_i, truD_bl, ev_fn, gTuple_l, gTuple_t, gMod_i, gDiv_i, gMul_l, gMul_r, gMaxA_l', gMinA_l', gMaxA_t', gMinA_t', gSortA_l', gSortA_t', sortI_len, gIx_last, truD_lm, truD_tm, ev_m1, gIndex_i, ev_oNo, ev_oYes, intO_i, ev_sl, gSl_l, gSl_t, cutD_map, gInt_i, gInt_b, gAbs_i, gSum_l, gSum_t, ev_isi, ev_eand, ev_eor, ev_enot, gIn_il, gIn_it, gNotIn_il, gNotIn_it, gIs_n, gIsNot_n, isNon_n, isNon_t, isNon_l, isNon_i, isNon_b, ev_tup, ev_lst, limT_0, mkL_0, limT_1, mkL_1, limT_2, mkL_2, limT_3, mkL_3, limT_4, mkL_4, limT_5, mkL_5, limT_6, mkL_6, limT_7, mkL_7, limT_8, mkL_8, gAdd_ll, gAdd_tt, gMax2_i, gMin2_i, gIx_p0, gIx_p1, ev_rev, cutD_take, cutD_drop, gSortA_pair, some_or, some_and, bl_or, bl_and, gIx_t0, gIx_l0, gIx_t1, gIx_l1, gIx_t2, gIx_l2, gIx_t3, gIx_l3, gIx_t4, gIx_l4, gIx_t5, gIx_l5, ev_lc2, ↓catE_map, catE_some, catE_rg, catRg_some, ev_rg2, rgB_ok, mapME_ab, mapAB_some, fltE_ab, fltAB_p, fltAB_yes, fltABp_some, ev_callK, map_mapi, map_mapT]
    rfl
  by_cases hz : 0 < F.length ∧ nth row 2 % 2 = 0
  · refine ⟨F.map fun x => nth F (x % (1 + (F.length : Int) / 2)), run_if1 ?_ (run_set (d := .lst ((F.map fun x => nth F (x % (1 + (F.length : Int) / 2))).map D.int)) ?_), by rw [List.length_map]; omega, fun k hk => ?_⟩
    · have e1 : decide ((F.length : Int) > 0) = true := decide_eq_true (by omega)
      have e2 : decide (nth row 2 % 2 = 0) = true := decide_eq_true hz.2
      simp -implicitDefEqProofs (disch := first | assumption | omega | (simp only [List.length_map, rngN_len, sortI_len]; omega)) only [ev_asL, ev_lc, ev_rg1', ev_call, ev_cons, ev_nil, ev_op, ev_c, ev_bvar, ev_var, List.getElem?_cons_succ, List.getElem?_cons_zero, Option.bind_some, Option.map_some, slB_val, slV_val, slB_own, gLen_l, gLen_t, gLen_iT, List.length_map, rgA_1, rgO_ok, lim_ok, rngN_len, if_true, ↓fltE_map, ↓mapME_map, ev_gNm, ev_tYes, wipe_cons, wipe_nil, List.set_cons_succ, List.set_cons_zero, fltE_yes, fltE_p, fltP_some, fltE_rg, fltRg_p, fltRg_yes, fltRp_some, mapME_rg, mapRg_some, ev_iseq, itemsD_l, itemsD_t, mapME_some, gIx_lm, gIx_tm, Int.toNat_natCast, gAdd_i, gSub_i, map_i, ev_un, ev_asB, ev_asT, ev_not, ev_and, ev_or, ev_eif, ev_fcall, blD_bl, gEq_i, gNe_i, gLt_i, gLe_i, gGt_i, gGe_i, gNeg_i, truD_bl, ev_fn, gTuple_l, gTuple_t, gMod_i, gDiv_i, gMul_l, gMul_r, gMaxA_l', gMinA_l', gMaxA_t', gMinA_t', gSortA_l', gSortA_t', sortI_len, gIx_last, truD_lm, truD_tm, ev_m1, gIndex_i, ev_oNo, ev_oYes, intO_i, ev_sl, gSl_l, gSl_t, cutD_map, gInt_i, gInt_b, gAbs_i, gSum_l, gSum_t, ev_isi, ev_eand, ev_eor, ev_enot, gIn_il, gIn_it, gNotIn_il, gNotIn_it, gIs_n, gIsNot_n, isNon_n, isNon_t, isNon_l, isNon_i, isNon_b, ev_tup, ev_lst, limT_0, mkL_0, limT_1, mkL_1, limT_2, mkL_2, limT_3, mkL_3, limT_4, mkL_4, limT_5, mkL_5, limT_6, mkL_6, limT_7, mkL_7, limT_8, mkL_8, gAdd_ll, gAdd_tt, gMax2_i, gMin2_i, gIx_p0, gIx_p1, ev_rev, cutD_take, cutD_drop, gSortA_pair, some_or, some_and, bl_or, bl_and, gIx_t0, gIx_l0, gIx_t1, gIx_l1, gIx_t2, gIx_l2, gIx_t3, gIx_l3, gIx_t4, gIx_l4, gIx_t5, gIx_l5, ev_lc2, ↓catE_map, catE_some, catE_rg, catRg_some, ev_rg2, rgB_ok, mapME_ab, mapAB_some, fltE_ab, fltAB_p, fltAB_yes, fltABp_some, ev_callK, map_mapi, map_mapT, e1, e2]
      rfl
    · have e3 : ∀ x : Int, 0 ≤ x % (1 + (F.length : Int) / 2) ∧ x % (1 + (F.length : Int) / 2) < F.length := fun x => by
        have := mod_lt (a := x) (b := 1 + (F.length : Int) / 2) (by omega)
        omega
      simp -implicitDefEqProofs (disch := first | assumption | omega | (simp only [List.length_map, rngN_len, sortI_len]; omega)) only [ev_asL, ev_lc, ev_rg1', ev_call, ev_cons, ev_nil, ev_op, ev_c, ev_bvar, ev_var, List.getElem?_cons_succ, List.getElem?_cons_zero, Option.bind_some, Option.map_some, slB_val, slV_val, slB_own, gLen_l, gLen_t, gLen_iT, List.length_map, rgA_1, rgO_ok, lim_ok, rngN_len, if_true, ↓fltE_map, ↓mapME_map, ev_gNm, ev_tYes, wipe_cons, wipe_nil, List.set_cons_succ, List.set_cons_zero, fltE_yes, fltE_p, fltP_some, fltE_rg, fltRg_p, fltRg_yes, fltRp_some, mapME_rg, mapRg_some, ev_iseq, itemsD_l, itemsD_t, mapME_some, gIx_lm, gIx_tm, Int.toNat_natCast, gAdd_i, gSub_i, map_i, ev_un, ev_asB, ev_asT, ev_not, ev_and, ev_or, ev_eif, ev_fcall, blD_bl, gEq_i, gNe_i, gLt_i, gLe_i, gGt_i, gGe_i, gNeg_i, truD_bl, ev_fn, gTuple_l, gTuple_t, gMod_i, gDiv_i, gMul_l, gMul_r, gMaxA_l', gMinA_l', gMaxA_t', gMinA_t', gSortA_l', gSortA_t', sortI_len, gIx_last, truD_lm, truD_tm, ev_m1, gIndex_i, ev_oNo, ev_oYes, intO_i, ev_sl, gSl_l, gSl_t, cutD_map, gInt_i, gInt_b, gAbs_i, gSum_l, gSum_t, ev_isi, ev_eand, ev_eor, ev_enot, gIn_il, gIn_it, gNotIn_il, gNotIn_it, gIs_n, gIsNot_n, isNon_n, isNon_t, isNon_l, isNon_i, isNon_b, ev_tup, ev_lst, limT_0, mkL_0, limT_1, mkL_1, limT_2, mkL_2, limT_3, mkL_3, limT_4, mkL_4, limT_5, mkL_5, limT_6, mkL_6, limT_7, mkL_7, limT_8, mkL_8, gAdd_ll, gAdd_tt, gMax2_i, gMin2_i, gIx_p0, gIx_p1, ev_rev, cutD_take, cutD_drop, gSortA_pair, some_or, some_and, bl_or, bl_and, gIx_t0, gIx_l0, gIx_t1, gIx_l1, gIx_t2, gIx_l2, gIx_t3, gIx_l3, gIx_t4, gIx_l4, gIx_t5, gIx_l5, ev_lc2, ↓catE_map, catE_some, catE_rg, catRg_some, ev_rg2, rgB_ok, mapME_ab, mapAB_some, fltE_ab, fltAB_p, fltAB_yes, fltABp_some, ev_callK, map_mapi, map_mapT, e3]
      have e4 : mapME F (fun x _ => gIx (.lst (F.map D.int)) (.int (x % (1 + (F.length : Int) / 2)))) = some (F.map fun x => D.int (nth F (x % (1 + (F.length : Int) / 2)))) := by
        refine Eq.trans ?_ (mapME_some (xs := F) (g := fun x => D.int (nth F (x % (1 + (F.length : Int) / 2)))))
        refine congrArg (mapME F) ?_
        funext x hx
        exact gIx_lm (e3 x).1 (e3 x).2
      rw [e4]
      show some (D.lst (F.map fun x => D.int (nth F (x % (1 + (F.length : Int) / 2))))) = some (D.lst ((F.map fun x => nth F (x % (1 + (F.length : Int) / 2))).map D.int))
      rw [List.map_map (l := F)]
      rfl
    · obtain ⟨x, hx, rfl⟩ := List.mem_map.mp hk
      have hm2 := mod_lt (a := x) (b := 1 + (F.length : Int) / 2) (by omega)
      exact hFm _ (nth_mem (by omega) (by omega))
  · refine ⟨F, run_if0 ?_ rfl, by omega, hFm⟩
    simp -implicitDefEqProofs (disch := first | assumption | omega | (simp only [List.length_map, rngN_len, sortI_len]; omega)) only [ev_asL, ev_lc, ev_rg1', ev_call, ev_cons, ev_nil, ev_op, ev_c, ev_bvar, ev_var, List.getElem?_cons_succ, List.getElem?_cons_zero, Option.bind_some, Option.map_some, slB_val, slV_val, slB_own, gLen_l, gLen_t, gLen_iT, List.length_map, rgA_1, rgO_ok, lim_ok, rngN_len, if_true, ↓fltE_map, ↓mapME_map, ev_gNm, ev_tYes, wipe_cons, wipe_nil, List.set_cons_succ, List.set_cons_zero, fltE_yes, fltE_p, fltP_some, fltE_rg, fltRg_p, fltRg_yes, fltRp_some, mapME_rg, mapRg_some, ev_iseq, itemsD_l, itemsD_t, mapME_some, gIx_lm, gIx_tm, Int.toNat_natCast, gAdd_i, gSub_i, map_i, ev_un, ev_asB, ev_asT, ev_not, ev_and, ev_or, ev_eif, ev_fcall, blD_bl, gEq_i, gNe_i, gLt_i, gLe_i, gGt_i, gGe_i, gNeg_i, truD_bl, ev_fn, gTuple_l, gTuple_t, gMod_i, gDiv_i, gMul_l, gMul_r, gMaxA_l', gMinA_l', gMaxA_t', gMinA_t', gSortA_l', gSortA_t', sortI_len, gIx_last, truD_lm, truD_tm, ev_m1, gIndex_i, ev_oNo, ev_oYes, intO_i, ev_sl, gSl_l, gSl_t, cutD_map, gInt_i, gInt_b, gAbs_i, gSum_l, gSum_t, ev_isi, ev_eand, ev_eor, ev_enot, gIn_il, gIn_it, gNotIn_il, gNotIn_it, gIs_n, gIsNot_n, isNon_n, isNon_t, isNon_l, isNon_i, isNon_b, ev_tup, ev_lst, limT_0, mkL_0, limT_1, mkL_1, limT_2, mkL_2, limT_3, mkL_3, limT_4, mkL_4, limT_5, mkL_5, limT_6, mkL_6, limT_7, mkL_7, limT_8, mkL_8, gAdd_ll, gAdd_tt, gMax2_i, gMin2_i, gIx_p0, gIx_p1, ev_rev, cutD_take, cutD_drop, gSortA_pair, some_or, some_and, bl_or, bl_and, gIx_t0, gIx_l0, gIx_t1, gIx_l1, gIx_t2, gIx_l2, gIx_t3, gIx_l3, gIx_t4, gIx_l4, gIx_t5, gIx_l5, ev_lc2, ↓catE_map, catE_some, catE_rg, catRg_some, ev_rg2, rgB_ok, mapME_ab, mapAB_some, fltE_ab, fltAB_p, fltAB_yes, fltABp_some, ev_callK, map_mapi, map_mapT]
    rw [show (decide (0 < (F.length : Int)) && decide (nth row 2 % 2 = 0)) = false from by
      rw [← Bool.decide_and]
      exact decide_eq_false fun q => hz ⟨by omega, q.2⟩]
end K65

set_option Elab.async false
set_option linter.all false
set_option maxRecDepth 100000
set_option maxHeartbeats 4000000
namespace K65
open PySem PD
open L2 hiding nth
theorem l8b {b : Bool} : run_l_like 8 [.bl b, .bl b] = some (.bl true) := l8 (by simp [okL])
theorem run_mr {keys row : List Int} {n : Nat} (hn : 0 < n) (hn2 : n ≤ 1000) (hl : keys.length ≤ 20) (hk : ∀ k ∈ keys, 0 ≤ k ∧ k < 1000003) (hr : row.length = 42) : run_l_marks_right [intT keys, .int n, .lst (row.map D.int)] = some (.bl true) := by
  have hs : ∀ k ∈ keys, Sm k := fun k h => ⟨by have := hk k h; omega, by have := hk k h; omega⟩
  have hb := run_lbits hn hn2 hs
  have hb2 := run_bits hn hn2 hs
  have bl := bits_len (keys := keys) (n := n)
  generalize bitsL keys n = bits at hb hb2 bl
  have okb := l8 (okL_ints (n := 6) (ps := bits) (by omega))
  have h3 := mod_lt (a := nth row 3) (b := 61) (by omega)
  obtain ⟨m, hm⟩ : ∃ m : Nat, nth row 3 % 61 = m := ⟨(nth row 3 % 61).toNat, by omega⟩
  have hf := run_false (bits := bits) (keys := keys) (m := m) (by omega) (by omega) (by omega) (by omega)
  have hfl : (falseL bits keys m).length ≤ 1000 := by
    unfold falseL
    have := List.length_filter_le (fun k => !decide (k ∈ keys) && allM bits k) (rngN m)
    rw [rngN_len] at this
    omega
  have okf := l8 (okL_ints (n := 6) hfl)
  let A : List Int := keys ++ (rngN 6).map fun k => nth row (30 + k) % 300
  have hA : ∀ x ∈ A, Sm x := fun x hx => by
    rcases List.mem_append.mp hx with h | h
    · exact hs x h
    · obtain ⟨i, _, rfl⟩ := List.mem_map.mp h
      have := mod_lt (a := nth row (30 + i)) (b := 300) (by omega)
      exact ⟨by omega, by omega⟩
  have h36 := mod_lt (a := nth row 36) (b := n) (by omega)
  have hl0 : (bits.set (nth row 36 % n).toNat 0).length = n := by rw [List.length_set, bl]
  refine runC_rt rfl ?_
  simp only [List.map_cons, List.map_nil, List.replicate, List.cons_append, List.nil_append, List.set_cons_succ, List.set_cons_zero]
  refine seq_set (d := .lst (bits.map D.int)) (by
    simp -implicitDefEqProofs (disch := first | assumption | omega | (simp only [List.length_map, rngN_len, sortI_len]; omega)) only [ev_asL, ev_lc, ev_rg1', ev_call, ev_cons, ev_nil, ev_op, ev_c, ev_bvar, ev_var, List.getElem?_cons_succ, List.getElem?_cons_zero, Option.bind_some, Option.map_some, slB_val, slV_val, slB_own, gLen_l, gLen_t, gLen_iT, List.length_map, rgA_1, rgO_ok, lim_ok, rngN_len, if_true, ↓fltE_map, ↓mapME_map, ev_gNm, ev_tYes, wipe_cons, wipe_nil, List.set_cons_succ, List.set_cons_zero, fltE_yes, fltE_p, fltP_some, fltE_rg, fltRg_p, fltRg_yes, fltRp_some, mapME_rg, mapRg_some, ev_iseq, itemsD_l, itemsD_t, mapME_some, gIx_lm, gIx_tm, Int.toNat_natCast, gAdd_i, gSub_i, map_i, ev_un, ev_asB, ev_asT, ev_not, ev_and, ev_or, ev_eif, ev_fcall, blD_bl, gEq_i, gNe_i, gLt_i, gLe_i, gGt_i, gGe_i, gNeg_i, truD_bl, ev_fn, gTuple_l, gTuple_t, gMod_i, gDiv_i, gMul_l, gMul_r, gMaxA_l', gMinA_l', gMaxA_t', gMinA_t', gSortA_l', gSortA_t', sortI_len, gIx_last, truD_lm, truD_tm, ev_m1, gIndex_i, ev_oNo, ev_oYes, intO_i, ev_sl, gSl_l, gSl_t, cutD_map, gInt_i, gInt_b, gAbs_i, gSum_l, gSum_t, ev_isi, ev_eand, ev_eor, ev_enot, gIn_il, gIn_it, gNotIn_il, gNotIn_it, gIs_n, gIsNot_n, isNon_n, isNon_t, isNon_l, isNon_i, isNon_b, ev_tup, ev_lst, limT_0, mkL_0, limT_1, mkL_1, limT_2, mkL_2, limT_3, mkL_3, limT_4, mkL_4, limT_5, mkL_5, limT_6, mkL_6, limT_7, mkL_7, limT_8, mkL_8, gAdd_ll, gAdd_tt, gMax2_i, gMin2_i, gIx_p0, gIx_p1, ev_rev, cutD_take, cutD_drop, gSortA_pair, some_or, some_and, bl_or, bl_and, gIx_t0, gIx_l0, gIx_t1, gIx_l1, gIx_t2, gIx_l2, gIx_t3, gIx_l3, gIx_t4, gIx_l4, gIx_t5, gIx_l5, ev_lc2, ↓catE_map, catE_some, catE_rg, catRg_some, ev_rg2, rgB_ok, mapME_ab, mapAB_some, fltE_ab, fltAB_p, fltAB_yes, fltABp_some, ev_callK, map_mapi, map_mapT, hb]) ?_
  simp only [List.map_cons, List.map_nil, List.replicate, List.cons_append, List.nil_append, List.set_cons_succ, List.set_cons_zero]
  have hi : intT bits = .tup (bits.map D.int) := rfl
  refine seq_if0 (by
    simp -implicitDefEqProofs (disch := first | assumption | omega | (simp only [List.length_map, rngN_len, sortI_len]; omega)) only [ev_asL, ev_lc, ev_rg1', ev_call, ev_cons, ev_nil, ev_op, ev_c, ev_bvar, ev_var, List.getElem?_cons_succ, List.getElem?_cons_zero, Option.bind_some, Option.map_some, slB_val, slV_val, slB_own, gLen_l, gLen_t, gLen_iT, List.length_map, rgA_1, rgO_ok, lim_ok, rngN_len, if_true, ↓fltE_map, ↓mapME_map, ev_gNm, ev_tYes, wipe_cons, wipe_nil, List.set_cons_succ, List.set_cons_zero, fltE_yes, fltE_p, fltP_some, fltE_rg, fltRg_p, fltRg_yes, fltRp_some, mapME_rg, mapRg_some, ev_iseq, itemsD_l, itemsD_t, mapME_some, gIx_lm, gIx_tm, Int.toNat_natCast, gAdd_i, gSub_i, map_i, ev_un, ev_asB, ev_asT, ev_not, ev_and, ev_or, ev_eif, ev_fcall, blD_bl, gEq_i, gNe_i, gLt_i, gLe_i, gGt_i, gGe_i, gNeg_i, truD_bl, ev_fn, gTuple_l, gTuple_t, gMod_i, gDiv_i, gMul_l, gMul_r, gMaxA_l', gMinA_l', gMaxA_t', gMinA_t', gSortA_l', gSortA_t', sortI_len, gIx_last, truD_lm, truD_tm, ev_m1, gIndex_i, ev_oNo, ev_oYes, intO_i, ev_sl, gSl_l, gSl_t, cutD_map, gInt_i, gInt_b, gAbs_i, gSum_l, gSum_t, ev_isi, ev_eand, ev_eor, ev_enot, gIn_il, gIn_it, gNotIn_il, gNotIn_it, gIs_n, gIsNot_n, isNon_n, isNon_t, isNon_l, isNon_i, isNon_b, ev_tup, ev_lst, limT_0, mkL_0, limT_1, mkL_1, limT_2, mkL_2, limT_3, mkL_3, limT_4, mkL_4, limT_5, mkL_5, limT_6, mkL_6, limT_7, mkL_7, limT_8, mkL_8, gAdd_ll, gAdd_tt, gMax2_i, gMin2_i, gIx_p0, gIx_p1, ev_rev, cutD_take, cutD_drop, gSortA_pair, some_or, some_and, bl_or, bl_and, gIx_t0, gIx_l0, gIx_t1, gIx_l1, gIx_t2, gIx_l2, gIx_t3, gIx_l3, gIx_t4, gIx_l4, gIx_t5, gIx_l5, ev_lc2, ↓catE_map, catE_some, catE_rg, catRg_some, ev_rg2, rgB_ok, mapME_ab, mapAB_some, fltE_ab, fltAB_p, fltAB_yes, fltABp_some, ev_callK, map_mapi, map_mapT, hb2, ← hi, okb]
    rfl) ?_
  refine seq_set (d := .lst (A.map D.int)) (by
    simp -implicitDefEqProofs (disch := first | assumption | omega | (simp only [List.length_map, rngN_len, sortI_len]; omega)) only [ev_asL, ev_lc, ev_rg1', ev_call, ev_cons, ev_nil, ev_op, ev_c, ev_bvar, ev_var, List.getElem?_cons_succ, List.getElem?_cons_zero, Option.bind_some, Option.map_some, slB_val, slV_val, slB_own, gLen_l, gLen_t, gLen_iT, List.length_map, rgA_1, rgO_ok, lim_ok, rngN_len, if_true, ↓fltE_map, ↓mapME_map, ev_gNm, ev_tYes, wipe_cons, wipe_nil, List.set_cons_succ, List.set_cons_zero, fltE_yes, fltE_p, fltP_some, fltE_rg, fltRg_p, fltRg_yes, fltRp_some, mapME_rg, mapRg_some, ev_iseq, itemsD_l, itemsD_t, mapME_some, gIx_lm, gIx_tm, Int.toNat_natCast, gAdd_i, gSub_i, map_i, ev_un, ev_asB, ev_asT, ev_not, ev_and, ev_or, ev_eif, ev_fcall, blD_bl, gEq_i, gNe_i, gLt_i, gLe_i, gGt_i, gGe_i, gNeg_i, truD_bl, ev_fn, gTuple_l, gTuple_t, gMod_i, gDiv_i, gMul_l, gMul_r, gMaxA_l', gMinA_l', gMaxA_t', gMinA_t', gSortA_l', gSortA_t', sortI_len, gIx_last, truD_lm, truD_tm, ev_m1, gIndex_i, ev_oNo, ev_oYes, intO_i, ev_sl, gSl_l, gSl_t, cutD_map, gInt_i, gInt_b, gAbs_i, gSum_l, gSum_t, ev_isi, ev_eand, ev_eor, ev_enot, gIn_il, gIn_it, gNotIn_il, gNotIn_it, gIs_n, gIsNot_n, isNon_n, isNon_t, isNon_l, isNon_i, isNon_b, ev_tup, ev_lst, limT_0, mkL_0, limT_1, mkL_1, limT_2, mkL_2, limT_3, mkL_3, limT_4, mkL_4, limT_5, mkL_5, limT_6, mkL_6, limT_7, mkL_7, limT_8, mkL_8, gAdd_ll, gAdd_tt, gMax2_i, gMin2_i, gIx_p0, gIx_p1, ev_rev, cutD_take, cutD_drop, gSortA_pair, some_or, some_and, bl_or, bl_and, gIx_t0, gIx_l0, gIx_t1, gIx_l1, gIx_t2, gIx_l2, gIx_t3, gIx_l3, gIx_t4, gIx_l4, gIx_t5, gIx_l5, ev_lc2, ↓catE_map, catE_some, catE_rg, catRg_some, ev_rg2, rgB_ok, mapME_ab, mapAB_some, fltE_ab, fltAB_p, fltAB_yes, fltABp_some, ev_callK, map_mapi, map_mapT, show gListF [intT keys] = some (keys.map D.int) from rfl]
    rfl) ?_
  simp only [List.set_cons_succ, List.set_cons_zero]
  refine seq_forP (xs := A) (enc := D.int) (fun _ e => ∃ x, e = [.val (intT keys), .val (.int n), .val (.lst (row.map D.int)), .val (.lst (bits.map D.int)), .val (.lst (A.map D.int)), x, .un, .un, .un, .un]) rfl ⟨_, rfl⟩ (fun ys x zs hx e he => ?_) fun e he => ?_
  · obtain ⟨a, rfl⟩ := he
    have hxs : Sm x := hA x (by rw [hx]; exact List.mem_append_right _ List.mem_cons_self)
    have r1 := run_may (bits := bits) (by omega) (by omega) hxs
    have r2 := run_allm (bits := bits) (d := .lst (bits.map D.int)) (.inr rfl) (by omega) (by omega) hxs
    refine ⟨_, _, rfl, .inl (run_if0 ?_ rfl), _, rfl⟩
    simp -implicitDefEqProofs (disch := first | assumption | omega | (simp only [List.length_map, rngN_len, sortI_len]; omega)) only [ev_asL, ev_lc, ev_rg1', ev_call, ev_cons, ev_nil, ev_op, ev_c, ev_bvar, ev_var, List.getElem?_cons_succ, List.getElem?_cons_zero, Option.bind_some, Option.map_some, slB_val, slV_val, slB_own, gLen_l, gLen_t, gLen_iT, List.length_map, rgA_1, rgO_ok, lim_ok, rngN_len, if_true, ↓fltE_map, ↓mapME_map, ev_gNm, ev_tYes, wipe_cons, wipe_nil, List.set_cons_succ, List.set_cons_zero, fltE_yes, fltE_p, fltP_some, fltE_rg, fltRg_p, fltRg_yes, fltRp_some, mapME_rg, mapRg_some, ev_iseq, itemsD_l, itemsD_t, mapME_some, gIx_lm, gIx_tm, Int.toNat_natCast, gAdd_i, gSub_i, map_i, ev_un, ev_asB, ev_asT, ev_not, ev_and, ev_or, ev_eif, ev_fcall, blD_bl, gEq_i, gNe_i, gLt_i, gLe_i, gGt_i, gGe_i, gNeg_i, truD_bl, ev_fn, gTuple_l, gTuple_t, gMod_i, gDiv_i, gMul_l, gMul_r, gMaxA_l', gMinA_l', gMaxA_t', gMinA_t', gSortA_l', gSortA_t', sortI_len, gIx_last, truD_lm, truD_tm, ev_m1, gIndex_i, ev_oNo, ev_oYes, intO_i, ev_sl, gSl_l, gSl_t, cutD_map, gInt_i, gInt_b, gAbs_i, gSum_l, gSum_t, ev_isi, ev_eand, ev_eor, ev_enot, gIn_il, gIn_it, gNotIn_il, gNotIn_it, gIs_n, gIsNot_n, isNon_n, isNon_t, isNon_l, isNon_i, isNon_b, ev_tup, ev_lst, limT_0, mkL_0, limT_1, mkL_1, limT_2, mkL_2, limT_3, mkL_3, limT_4, mkL_4, limT_5, mkL_5, limT_6, mkL_6, limT_7, mkL_7, limT_8, mkL_8, gAdd_ll, gAdd_tt, gMax2_i, gMin2_i, gIx_p0, gIx_p1, ev_rev, cutD_take, cutD_drop, gSortA_pair, some_or, some_and, bl_or, bl_and, gIx_t0, gIx_l0, gIx_t1, gIx_l1, gIx_t2, gIx_l2, gIx_t3, gIx_l3, gIx_t4, gIx_l4, gIx_t5, gIx_l5, ev_lc2, ↓catE_map, catE_some, catE_rg, catRg_some, ev_rg2, rgB_ok, mapME_ab, mapAB_some, fltE_ab, fltAB_p, fltAB_yes, fltABp_some, ev_callK, map_mapi, map_mapT, ← hi, r1, r2, l8b]
    rfl
  obtain ⟨a, rfl⟩ := he
  refine seq_set (d := .int m) (by
    simp -implicitDefEqProofs (disch := first | assumption | omega | (simp only [List.length_map, rngN_len, sortI_len]; omega)) only [ev_asL, ev_lc, ev_rg1', ev_call, ev_cons, ev_nil, ev_op, ev_c, ev_bvar, ev_var, List.getElem?_cons_succ, List.getElem?_cons_zero, Option.bind_some, Option.map_some, slB_val, slV_val, slB_own, gLen_l, gLen_t, gLen_iT, List.length_map, rgA_1, rgO_ok, lim_ok, rngN_len, if_true, ↓fltE_map, ↓mapME_map, ev_gNm, ev_tYes, wipe_cons, wipe_nil, List.set_cons_succ, List.set_cons_zero, fltE_yes, fltE_p, fltP_some, fltE_rg, fltRg_p, fltRg_yes, fltRp_some, mapME_rg, mapRg_some, ev_iseq, itemsD_l, itemsD_t, mapME_some, gIx_lm, gIx_tm, Int.toNat_natCast, gAdd_i, gSub_i, map_i, ev_un, ev_asB, ev_asT, ev_not, ev_and, ev_or, ev_eif, ev_fcall, blD_bl, gEq_i, gNe_i, gLt_i, gLe_i, gGt_i, gGe_i, gNeg_i, truD_bl, ev_fn, gTuple_l, gTuple_t, gMod_i, gDiv_i, gMul_l, gMul_r, gMaxA_l', gMinA_l', gMaxA_t', gMinA_t', gSortA_l', gSortA_t', sortI_len, gIx_last, truD_lm, truD_tm, ev_m1, gIndex_i, ev_oNo, ev_oYes, intO_i, ev_sl, gSl_l, gSl_t, cutD_map, gInt_i, gInt_b, gAbs_i, gSum_l, gSum_t, ev_isi, ev_eand, ev_eor, ev_enot, gIn_il, gIn_it, gNotIn_il, gNotIn_it, gIs_n, gIsNot_n, isNon_n, isNon_t, isNon_l, isNon_i, isNon_b, ev_tup, ev_lst, limT_0, mkL_0, limT_1, mkL_1, limT_2, mkL_2, limT_3, mkL_3, limT_4, mkL_4, limT_5, mkL_5, limT_6, mkL_6, limT_7, mkL_7, limT_8, mkL_8, gAdd_ll, gAdd_tt, gMax2_i, gMin2_i, gIx_p0, gIx_p1, ev_rev, cutD_take, cutD_drop, gSortA_pair, some_or, some_and, bl_or, bl_and, gIx_t0, gIx_l0, gIx_t1, gIx_l1, gIx_t2, gIx_l2, gIx_t3, gIx_l3, gIx_t4, gIx_l4, gIx_t5, gIx_l5, ev_lc2, ↓catE_map, catE_some, catE_rg, catRg_some, ev_rg2, rgB_ok, mapME_ab, mapAB_some, fltE_ab, fltAB_p, fltAB_yes, fltABp_some, ev_callK, map_mapi, map_mapT, hm]) ?_
  simp only [List.set_cons_succ, List.set_cons_zero]
  refine seq_set (d := .lst ((falseL bits keys m).map D.int)) (by
    have e2 : ∀ i : Int, 0 ≤ i → i < m → run_l_all_marked [.lst (bits.map D.int), .int i] = some (.bl (allM bits i)) := fun i i0 i1 => run_allm (.inr rfl) (by omega) (by omega) ⟨by omega, by omega⟩
    have e3 : ∀ i : Int, gNotIn (.int i) (intT keys) = some (.bl (!decide (i ∈ keys))) := fun i => gNotIn_it
    simp -implicitDefEqProofs (disch := first | assumption | omega | (simp only [List.length_map, rngN_len, sortI_len]; omega)) only [ev_asL, ev_lc, ev_rg1', ev_call, ev_cons, ev_nil, ev_op, ev_c, ev_bvar, ev_var, List.getElem?_cons_succ, List.getElem?_cons_zero, Option.bind_some, Option.map_some, slB_val, slV_val, slB_own, gLen_l, gLen_t, gLen_iT, List.length_map, rgA_1, rgO_ok, lim_ok, rngN_len, if_true, ↓fltE_map, ↓mapME_map, ev_gNm, ev_tYes, wipe_cons, wipe_nil, List.set_cons_succ, List.set_cons_zero, fltE_yes, fltE_p, fltP_some, fltE_rg, fltRg_p, fltRg_yes, fltRp_some, mapME_rg, mapRg_some, ev_iseq, itemsD_l, itemsD_t, mapME_some, gIx_lm, gIx_tm, Int.toNat_natCast, gAdd_i, gSub_i, map_i, ev_un, ev_asB, ev_asT, ev_not, ev_and, ev_or, ev_eif, ev_fcall, blD_bl, gEq_i, gNe_i, gLt_i, gLe_i, gGt_i, gGe_i, gNeg_i, truD_bl, ev_fn, gTuple_l, gTuple_t, gMod_i, gDiv_i, gMul_l, gMul_r, gMaxA_l', gMinA_l', gMaxA_t', gMinA_t', gSortA_l', gSortA_t', sortI_len, gIx_last, truD_lm, truD_tm, ev_m1, gIndex_i, ev_oNo, ev_oYes, intO_i, ev_sl, gSl_l, gSl_t, cutD_map, gInt_i, gInt_b, gAbs_i, gSum_l, gSum_t, ev_isi, ev_eand, ev_eor, ev_enot, gIn_il, gIn_it, gNotIn_il, gNotIn_it, gIs_n, gIsNot_n, isNon_n, isNon_t, isNon_l, isNon_i, isNon_b, ev_tup, ev_lst, limT_0, mkL_0, limT_1, mkL_1, limT_2, mkL_2, limT_3, mkL_3, limT_4, mkL_4, limT_5, mkL_5, limT_6, mkL_6, limT_7, mkL_7, limT_8, mkL_8, gAdd_ll, gAdd_tt, gMax2_i, gMin2_i, gIx_p0, gIx_p1, ev_rev, cutD_take, cutD_drop, gSortA_pair, some_or, some_and, bl_or, bl_and, gIx_t0, gIx_l0, gIx_t1, gIx_l1, gIx_t2, gIx_l2, gIx_t3, gIx_l3, gIx_t4, gIx_l4, gIx_t5, gIx_l5, ev_lc2, ↓catE_map, catE_some, catE_rg, catRg_some, ev_rg2, rgB_ok, mapME_ab, mapAB_some, fltE_ab, fltAB_p, fltAB_yes, fltABp_some, ev_callK, map_mapi, map_mapT, e2, e3]
    rfl) ?_
  simp only [List.set_cons_succ, List.set_cons_zero]
  refine seq_if0 (by
    have hi2 : intT (falseL bits keys m) = .tup ((falseL bits keys m).map D.int) := rfl
    simp -implicitDefEqProofs (disch := first | assumption | omega | (simp only [List.length_map, rngN_len, sortI_len]; omega)) only [ev_asL, ev_lc, ev_rg1', ev_call, ev_cons, ev_nil, ev_op, ev_c, ev_bvar, ev_var, List.getElem?_cons_succ, List.getElem?_cons_zero, Option.bind_some, Option.map_some, slB_val, slV_val, slB_own, gLen_l, gLen_t, gLen_iT, List.length_map, rgA_1, rgO_ok, lim_ok, rngN_len, if_true, ↓fltE_map, ↓mapME_map, ev_gNm, ev_tYes, wipe_cons, wipe_nil, List.set_cons_succ, List.set_cons_zero, fltE_yes, fltE_p, fltP_some, fltE_rg, fltRg_p, fltRg_yes, fltRp_some, mapME_rg, mapRg_some, ev_iseq, itemsD_l, itemsD_t, mapME_some, gIx_lm, gIx_tm, Int.toNat_natCast, gAdd_i, gSub_i, map_i, ev_un, ev_asB, ev_asT, ev_not, ev_and, ev_or, ev_eif, ev_fcall, blD_bl, gEq_i, gNe_i, gLt_i, gLe_i, gGt_i, gGe_i, gNeg_i, truD_bl, ev_fn, gTuple_l, gTuple_t, gMod_i, gDiv_i, gMul_l, gMul_r, gMaxA_l', gMinA_l', gMaxA_t', gMinA_t', gSortA_l', gSortA_t', sortI_len, gIx_last, truD_lm, truD_tm, ev_m1, gIndex_i, ev_oNo, ev_oYes, intO_i, ev_sl, gSl_l, gSl_t, cutD_map, gInt_i, gInt_b, gAbs_i, gSum_l, gSum_t, ev_isi, ev_eand, ev_eor, ev_enot, gIn_il, gIn_it, gNotIn_il, gNotIn_it, gIs_n, gIsNot_n, isNon_n, isNon_t, isNon_l, isNon_i, isNon_b, ev_tup, ev_lst, limT_0, mkL_0, limT_1, mkL_1, limT_2, mkL_2, limT_3, mkL_3, limT_4, mkL_4, limT_5, mkL_5, limT_6, mkL_6, limT_7, mkL_7, limT_8, mkL_8, gAdd_ll, gAdd_tt, gMax2_i, gMin2_i, gIx_p0, gIx_p1, ev_rev, cutD_take, cutD_drop, gSortA_pair, some_or, some_and, bl_or, bl_and, gIx_t0, gIx_l0, gIx_t1, gIx_l1, gIx_t2, gIx_l2, gIx_t3, gIx_l3, gIx_t4, gIx_l4, gIx_t5, gIx_l5, ev_lc2, ↓catE_map, catE_some, catE_rg, catRg_some, ev_rg2, rgB_ok, mapME_ab, mapAB_some, fltE_ab, fltAB_p, fltAB_yes, fltABp_some, ev_callK, map_mapi, map_mapT, ← hi, ← hi2, hf, okf]
    rfl) ?_
  refine seq_setO (ds := bits.map D.int) rfl ?_
  simp only [List.set_cons_succ, List.set_cons_zero]
  refine seq_nx (e := [.val (intT keys), .val (.int n), .val (.lst (row.map D.int)), .val (.lst (bits.map D.int)), .val (.lst (A.map D.int)), a, .val (.int m), .val (.lst ((falseL bits keys m).map D.int)), .own ((bits.set (nth row 36 % n).toNat 0).map D.int), .un]) (run_setE (z := nth row 36 % n) (y := 0) rfl ?_ rfl h36.1 (by rw [bl]; exact h36.2)) ?_
  · simp -implicitDefEqProofs (disch := first | assumption | omega | (simp only [List.length_map, rngN_len, sortI_len]; omega)) only [ev_asL, ev_lc, ev_rg1', ev_call, ev_cons, ev_nil, ev_op, ev_c, ev_bvar, ev_var, List.getElem?_cons_succ, List.getElem?_cons_zero, Option.bind_some, Option.map_some, slB_val, slV_val, slB_own, gLen_l, gLen_t, gLen_iT, List.length_map, rgA_1, rgO_ok, lim_ok, rngN_len, if_true, ↓fltE_map, ↓mapME_map, ev_gNm, ev_tYes, wipe_cons, wipe_nil, List.set_cons_succ, List.set_cons_zero, fltE_yes, fltE_p, fltP_some, fltE_rg, fltRg_p, fltRg_yes, fltRp_some, mapME_rg, mapRg_some, ev_iseq, itemsD_l, itemsD_t, mapME_some, gIx_lm, gIx_tm, Int.toNat_natCast, gAdd_i, gSub_i, map_i, ev_un, ev_asB, ev_asT, ev_not, ev_and, ev_or, ev_eif, ev_fcall, blD_bl, gEq_i, gNe_i, gLt_i, gLe_i, gGt_i, gGe_i, gNeg_i, truD_bl, ev_fn, gTuple_l, gTuple_t, gMod_i, gDiv_i, gMul_l, gMul_r, gMaxA_l', gMinA_l', gMaxA_t', gMinA_t', gSortA_l', gSortA_t', sortI_len, gIx_last, truD_lm, truD_tm, ev_m1, gIndex_i, ev_oNo, ev_oYes, intO_i, ev_sl, gSl_l, gSl_t, cutD_map, gInt_i, gInt_b, gAbs_i, gSum_l, gSum_t, ev_isi, ev_eand, ev_eor, ev_enot, gIn_il, gIn_it, gNotIn_il, gNotIn_it, gIs_n, gIsNot_n, isNon_n, isNon_t, isNon_l, isNon_i, isNon_b, ev_tup, ev_lst, limT_0, mkL_0, limT_1, mkL_1, limT_2, mkL_2, limT_3, mkL_3, limT_4, mkL_4, limT_5, mkL_5, limT_6, mkL_6, limT_7, mkL_7, limT_8, mkL_8, gAdd_ll, gAdd_tt, gMax2_i, gMin2_i, gIx_p0, gIx_p1, ev_rev, cutD_take, cutD_drop, gSortA_pair, some_or, some_and, bl_or, bl_and, gIx_t0, gIx_l0, gIx_t1, gIx_l1, gIx_t2, gIx_l2, gIx_t3, gIx_l3, gIx_t4, gIx_l4, gIx_t5, gIx_l5, ev_lc2, ↓catE_map, catE_some, catE_rg, catRg_some, ev_rg2, rgB_ok, mapME_ab, mapAB_some, fltE_ab, fltAB_p, fltAB_yes, fltABp_some, ev_callK, map_mapi, map_mapT]
  generalize bits.set (nth row 36 % n).toNat 0 = less at hl0
  have hi3 : intT less = .tup (less.map D.int) := rfl
  refine seq_forP (xs := A) (enc := D.int) (fun _ e => ∃ x, e = [.val (intT keys), .val (.int n), .val (.lst (row.map D.int)), .val (.lst (bits.map D.int)), .val (.lst (A.map D.int)), x, .val (.int m), .val (.lst ((falseL bits keys m).map D.int)), .own (less.map D.int), .un]) rfl ⟨_, rfl⟩ (fun ys x zs hx e he => ?_) fun e he => ?_
  · obtain ⟨a, rfl⟩ := he
    have hxs : Sm x := hA x (by rw [hx]; exact List.mem_append_right _ List.mem_cons_self)
    have r1 := run_may (bits := less) (by omega) (by omega) hxs
    have r2 := run_allm (bits := less) (d := .lst (less.map D.int)) (.inr rfl) (by omega) (by omega) hxs
    refine ⟨_, _, rfl, .inl (run_if0 ?_ rfl), _, rfl⟩
    have r3 : eFnB run_l_all_marked (aCons (bVar 8) (aCons (bVar 5) aNil)) [.val (intT keys), .val (.int n), .val (.lst (row.map D.int)), .val (.lst (bits.map D.int)), .val (.lst (A.map D.int)), .val (.int x), .val (.int m), .val (.lst ((falseL bits keys m).map D.int)), .own (less.map D.int), .un] = some (.bl (allM less x)) := by
      unfold eFnB
      simp -implicitDefEqProofs (disch := first | assumption | omega | (simp only [List.length_map, rngN_len, sortI_len]; omega)) only [ev_asL, ev_lc, ev_rg1', ev_call, ev_cons, ev_nil, ev_op, ev_c, ev_bvar, ev_var, List.getElem?_cons_succ, List.getElem?_cons_zero, Option.bind_some, Option.map_some, slB_val, slV_val, slB_own, gLen_l, gLen_t, gLen_iT, List.length_map, rgA_1, rgO_ok, lim_ok, rngN_len, if_true, ↓fltE_map, ↓mapME_map, ev_gNm, ev_tYes, wipe_cons, wipe_nil, List.set_cons_succ, List.set_cons_zero, fltE_yes, fltE_p, fltP_some, fltE_rg, fltRg_p, fltRg_yes, fltRp_some, mapME_rg, mapRg_some, ev_iseq, itemsD_l, itemsD_t, mapME_some, gIx_lm, gIx_tm, Int.toNat_natCast, gAdd_i, gSub_i, map_i, ev_un, ev_asB, ev_asT, ev_not, ev_and, ev_or, ev_eif, ev_fcall, blD_bl, gEq_i, gNe_i, gLt_i, gLe_i, gGt_i, gGe_i, gNeg_i, truD_bl, ev_fn, gTuple_l, gTuple_t, gMod_i, gDiv_i, gMul_l, gMul_r, gMaxA_l', gMinA_l', gMaxA_t', gMinA_t', gSortA_l', gSortA_t', sortI_len, gIx_last, truD_lm, truD_tm, ev_m1, gIndex_i, ev_oNo, ev_oYes, intO_i, ev_sl, gSl_l, gSl_t, cutD_map, gInt_i, gInt_b, gAbs_i, gSum_l, gSum_t, ev_isi, ev_eand, ev_eor, ev_enot, gIn_il, gIn_it, gNotIn_il, gNotIn_it, gIs_n, gIsNot_n, isNon_n, isNon_t, isNon_l, isNon_i, isNon_b, ev_tup, ev_lst, limT_0, mkL_0, limT_1, mkL_1, limT_2, mkL_2, limT_3, mkL_3, limT_4, mkL_4, limT_5, mkL_5, limT_6, mkL_6, limT_7, mkL_7, limT_8, mkL_8, gAdd_ll, gAdd_tt, gMax2_i, gMin2_i, gIx_p0, gIx_p1, ev_rev, cutD_take, cutD_drop, gSortA_pair, some_or, some_and, bl_or, bl_and, gIx_t0, gIx_l0, gIx_t1, gIx_l1, gIx_t2, gIx_l2, gIx_t3, gIx_l3, gIx_t4, gIx_l4, gIx_t5, gIx_l5, ev_lc2, ↓catE_map, catE_some, catE_rg, catRg_some, ev_rg2, rgB_ok, mapME_ab, mapAB_some, fltE_ab, fltAB_p, fltAB_yes, fltABp_some, ev_callK, map_mapi, map_mapT, r2]
      rfl
    simp only [List.set_cons_succ, List.set_cons_zero]
    simp -implicitDefEqProofs (disch := first | assumption | omega | (simp only [List.length_map, rngN_len, sortI_len]; omega)) only [ev_asL, ev_lc, ev_rg1', ev_call, ev_cons, ev_nil, ev_op, ev_c, ev_bvar, ev_var, List.getElem?_cons_succ, List.getElem?_cons_zero, Option.bind_some, Option.map_some, slB_val, slV_val, slB_own, gLen_l, gLen_t, gLen_iT, List.length_map, rgA_1, rgO_ok, lim_ok, rngN_len, if_true, ↓fltE_map, ↓mapME_map, ev_gNm, ev_tYes, wipe_cons, wipe_nil, List.set_cons_succ, List.set_cons_zero, fltE_yes, fltE_p, fltP_some, fltE_rg, fltRg_p, fltRg_yes, fltRp_some, mapME_rg, mapRg_some, ev_iseq, itemsD_l, itemsD_t, mapME_some, gIx_lm, gIx_tm, Int.toNat_natCast, gAdd_i, gSub_i, map_i, ev_un, ev_asB, ev_asT, ev_not, ev_and, ev_or, ev_eif, ev_fcall, blD_bl, gEq_i, gNe_i, gLt_i, gLe_i, gGt_i, gGe_i, gNeg_i, truD_bl, ev_fn, gTuple_l, gTuple_t, gMod_i, gDiv_i, gMul_l, gMul_r, gMaxA_l', gMinA_l', gMaxA_t', gMinA_t', gSortA_l', gSortA_t', sortI_len, gIx_last, truD_lm, truD_tm, ev_m1, gIndex_i, ev_oNo, ev_oYes, intO_i, ev_sl, gSl_l, gSl_t, cutD_map, gInt_i, gInt_b, gAbs_i, gSum_l, gSum_t, ev_isi, ev_eand, ev_eor, ev_enot, gIn_il, gIn_it, gNotIn_il, gNotIn_it, gIs_n, gIsNot_n, isNon_n, isNon_t, isNon_l, isNon_i, isNon_b, ev_tup, ev_lst, limT_0, mkL_0, limT_1, mkL_1, limT_2, mkL_2, limT_3, mkL_3, limT_4, mkL_4, limT_5, mkL_5, limT_6, mkL_6, limT_7, mkL_7, limT_8, mkL_8, gAdd_ll, gAdd_tt, gMax2_i, gMin2_i, gIx_p0, gIx_p1, ev_rev, cutD_take, cutD_drop, gSortA_pair, some_or, some_and, bl_or, bl_and, gIx_t0, gIx_l0, gIx_t1, gIx_l1, gIx_t2, gIx_l2, gIx_t3, gIx_l3, gIx_t4, gIx_l4, gIx_t5, gIx_l5, ev_lc2, ↓catE_map, catE_some, catE_rg, catRg_some, ev_rg2, rgB_ok, mapME_ab, mapAB_some, fltE_ab, fltAB_p, fltAB_yes, fltABp_some, ev_callK, map_mapi, map_mapT, r3, ← hi3, r1, l8b]
    rfl
  obtain ⟨a, rfl⟩ := he
  exact run_ret rfl
end K65

set_option Elab.async false
set_option linter.all false
set_option maxRecDepth 100000
set_option maxHeartbeats 8000000
namespace K65
open PySem PD
open L2 hiding nth
theorem okL_lv {A : List (List Int)} (h : A.length ≤ 1000) (h2 : ∀ a ∈ A, a.length ≤ 1000) : okL 8 (.tup (A.map intT)) = true := by
  show ((A.map intT).all (okL 7) && lim (A.map intT).length) = true
  rw [lim_ok (by rw [List.length_map]; omega), Bool.and_true, List.all_eq_true]
  intro x hx
  obtain ⟨p, hp, rfl⟩ := List.mem_map.mp hx
  exact okL_ints (n := 5) (h2 p hp)
theorem okL_prs {A : List (Int × Int)} (h : A.length ≤ 1000) : okL 8 (.tup (A.map pairD)) = true := by
  show ((A.map pairD).all (okL 7) && lim (A.map pairD).length) = true
  rw [lim_ok (by rw [List.length_map]; omega), Bool.and_true, List.all_eq_true]
  intro x hx
  obtain ⟨p, hp, rfl⟩ := List.mem_map.mp hx
  rfl
theorem law_true (ns : List Int) (h : ns.length ≤ 63) : run_law [.scr ns] = some (.bl true) := by
  obtain ⟨row, hrow, hr, hb⟩ := run_row ns 42 (by omega)
  rw [← e_row] at hrow
  replace hrow : run_l_row [.scr ns, .int 42] = some (.lst (row.map D.int)) := hrow
  obtain ⟨keys, hkeys, hl, hk⟩ := run_keys hr
  have h4 := mod_lt (a := nth row 4) (b := 64) (by omega)
  have h5 := mod_lt (a := nth row 5) (b := 4) (by omega)
  have h37 := mod_lt (a := nth row 37) (b := 64) (by omega)
  have h38 := mod_lt (a := nth row 38) (b := 7) (by omega)
  have h39 := mod_lt (a := nth row 39) (b := 4) (by omega)
  obtain ⟨n, hn⟩ : ∃ n : Nat, 1 + nth row 4 % 64 = n := ⟨(1 + nth row 4 % 64).toNat, by omega⟩
  obtain ⟨R, hR⟩ : ∃ n : Nat, 1 + nth row 5 % 4 = n := ⟨(1 + nth row 5 % 4).toNat, by omega⟩
  obtain ⟨P, hP⟩ : ∃ n : Nat, 1 + nth row 37 % 64 = n := ⟨(1 + nth row 37 % 64).toNat, by omega⟩
  have hmr := run_mr (n := n) (by omega) (by omega) hl hk hr
  have hc := run_cntd (keys := keys) (n := P) (R := R) (by omega) (by omega) (by omega)
  have hlc := run_lcounts (keys := keys) (n := P) (R := R) (by omega) (by omega) (by omega)
  have okt : run_l_like 8 [tabD P R keys, tabD P R keys] = some (.bl true) := l8 (okL_lv (by rw [tab_len]; omega) fun a ha => by rw [tab_lines a ha]; omega)
  have hh := run_heavy (keys := keys) (k := 2 + nth row 39 % 4) ⟨by omega, by omega⟩
  have hlh := run_lheavy (keys := keys) (k := 2 + nth row 39 % 4) ⟨by omega, by omega⟩
  have okh : run_l_like 8 [heavyD (2 + nth row 39 % 4) keys, heavyD (2 + nth row 39 % 4) keys] = some (.bl true) := l8 (okL_prs (by
    have iv := (inv_heavy (k := 2 + nth row 39 % 4) (ys := keys) (by omega)).2
    unfold pl
    rw [List.length_map, sortI_len, keysI_len]
    omega))
  let A : List Int := keys ++ [nth row 38 % 7]
  refine runC_rt rfl ?_
  simp only [List.map_cons, List.map_nil, List.replicate, List.cons_append, List.nil_append, List.set_cons_succ, List.set_cons_zero]
  refine seq_set (d := .lst (row.map D.int)) (by
    simp -implicitDefEqProofs (disch := first | assumption | omega | (simp only [List.length_map, rngN_len, sortI_len]; omega)) only [ev_asL, ev_lc, ev_rg1', ev_call, ev_cons, ev_nil, ev_op, ev_c, ev_bvar, ev_var, List.getElem?_cons_succ, List.getElem?_cons_zero, Option.bind_some, Option.map_some, slB_val, slV_val, slB_own, gLen_l, gLen_t, gLen_iT, List.length_map, rgA_1, rgO_ok, lim_ok, rngN_len, if_true, ↓fltE_map, ↓mapME_map, ev_gNm, ev_tYes, wipe_cons, wipe_nil, List.set_cons_succ, List.set_cons_zero, fltE_yes, fltE_p, fltP_some, fltE_rg, fltRg_p, fltRg_yes, fltRp_some, mapME_rg, mapRg_some, ev_iseq, itemsD_l, itemsD_t, mapME_some, gIx_lm, gIx_tm, Int.toNat_natCast, gAdd_i, gSub_i, map_i, ev_un, ev_asB, ev_asT, ev_not, ev_and, ev_or, ev_eif, ev_fcall, blD_bl, gEq_i, gNe_i, gLt_i, gLe_i, gGt_i, gGe_i, gNeg_i, truD_bl, ev_fn, gTuple_l, gTuple_t, gMod_i, gDiv_i, gMul_l, gMul_r, gMaxA_l', gMinA_l', gMaxA_t', gMinA_t', gSortA_l', gSortA_t', sortI_len, gIx_last, truD_lm, truD_tm, ev_m1, gIndex_i, ev_oNo, ev_oYes, intO_i, ev_sl, gSl_l, gSl_t, cutD_map, gInt_i, gInt_b, gAbs_i, gSum_l, gSum_t, ev_isi, ev_eand, ev_eor, ev_enot, gIn_il, gIn_it, gNotIn_il, gNotIn_it, gIs_n, gIsNot_n, isNon_n, isNon_t, isNon_l, isNon_i, isNon_b, ev_tup, ev_lst, limT_0, mkL_0, limT_1, mkL_1, limT_2, mkL_2, limT_3, mkL_3, limT_4, mkL_4, limT_5, mkL_5, limT_6, mkL_6, limT_7, mkL_7, limT_8, mkL_8, gAdd_ll, gAdd_tt, gMax2_i, gMin2_i, gIx_p0, gIx_p1, ev_rev, cutD_take, cutD_drop, gSortA_pair, some_or, some_and, bl_or, bl_and, gIx_t0, gIx_l0, gIx_t1, gIx_l1, gIx_t2, gIx_l2, gIx_t3, gIx_l3, gIx_t4, gIx_l4, gIx_t5, gIx_l5, ev_lc2, ↓catE_map, catE_some, catE_rg, catRg_some, ev_rg2, rgB_ok, mapME_ab, mapAB_some, fltE_ab, fltAB_p, fltAB_yes, fltABp_some, ev_callK, map_mapi, map_mapT, hrow]) ?_
  simp only [List.map_cons, List.map_nil, List.replicate, List.cons_append, List.nil_append, List.set_cons_succ, List.set_cons_zero]
  refine seq_set (d := intT keys) (by
    simp -implicitDefEqProofs (disch := first | assumption | omega | (simp only [List.length_map, rngN_len, sortI_len]; omega)) only [ev_asL, ev_lc, ev_rg1', ev_call, ev_cons, ev_nil, ev_op, ev_c, ev_bvar, ev_var, List.getElem?_cons_succ, List.getElem?_cons_zero, Option.bind_some, Option.map_some, slB_val, slV_val, slB_own, gLen_l, gLen_t, gLen_iT, List.length_map, rgA_1, rgO_ok, lim_ok, rngN_len, if_true, ↓fltE_map, ↓mapME_map, ev_gNm, ev_tYes, wipe_cons, wipe_nil, List.set_cons_succ, List.set_cons_zero, fltE_yes, fltE_p, fltP_some, fltE_rg, fltRg_p, fltRg_yes, fltRp_some, mapME_rg, mapRg_some, ev_iseq, itemsD_l, itemsD_t, mapME_some, gIx_lm, gIx_tm, Int.toNat_natCast, gAdd_i, gSub_i, map_i, ev_un, ev_asB, ev_asT, ev_not, ev_and, ev_or, ev_eif, ev_fcall, blD_bl, gEq_i, gNe_i, gLt_i, gLe_i, gGt_i, gGe_i, gNeg_i, truD_bl, ev_fn, gTuple_l, gTuple_t, gMod_i, gDiv_i, gMul_l, gMul_r, gMaxA_l', gMinA_l', gMaxA_t', gMinA_t', gSortA_l', gSortA_t', sortI_len, gIx_last, truD_lm, truD_tm, ev_m1, gIndex_i, ev_oNo, ev_oYes, intO_i, ev_sl, gSl_l, gSl_t, cutD_map, gInt_i, gInt_b, gAbs_i, gSum_l, gSum_t, ev_isi, ev_eand, ev_eor, ev_enot, gIn_il, gIn_it, gNotIn_il, gNotIn_it, gIs_n, gIsNot_n, isNon_n, isNon_t, isNon_l, isNon_i, isNon_b, ev_tup, ev_lst, limT_0, mkL_0, limT_1, mkL_1, limT_2, mkL_2, limT_3, mkL_3, limT_4, mkL_4, limT_5, mkL_5, limT_6, mkL_6, limT_7, mkL_7, limT_8, mkL_8, gAdd_ll, gAdd_tt, gMax2_i, gMin2_i, gIx_p0, gIx_p1, ev_rev, cutD_take, cutD_drop, gSortA_pair, some_or, some_and, bl_or, bl_and, gIx_t0, gIx_l0, gIx_t1, gIx_l1, gIx_t2, gIx_l2, gIx_t3, gIx_l3, gIx_t4, gIx_l4, gIx_t5, gIx_l5, ev_lc2, ↓catE_map, catE_some, catE_rg, catRg_some, ev_rg2, rgB_ok, mapME_ab, mapAB_some, fltE_ab, fltAB_p, fltAB_yes, fltABp_some, ev_callK, map_mapi, map_mapT, hkeys]) ?_
  simp only [List.map_cons, List.map_nil, List.replicate, List.cons_append, List.nil_append, List.set_cons_succ, List.set_cons_zero]
  refine seq_set (d := .int n) (by
    simp -implicitDefEqProofs (disch := first | assumption | omega | (simp only [List.length_map, rngN_len, sortI_len]; omega)) only [ev_asL, ev_lc, ev_rg1', ev_call, ev_cons, ev_nil, ev_op, ev_c, ev_bvar, ev_var, List.getElem?_cons_succ, List.getElem?_cons_zero, Option.bind_some, Option.map_some, slB_val, slV_val, slB_own, gLen_l, gLen_t, gLen_iT, List.length_map, rgA_1, rgO_ok, lim_ok, rngN_len, if_true, ↓fltE_map, ↓mapME_map, ev_gNm, ev_tYes, wipe_cons, wipe_nil, List.set_cons_succ, List.set_cons_zero, fltE_yes, fltE_p, fltP_some, fltE_rg, fltRg_p, fltRg_yes, fltRp_some, mapME_rg, mapRg_some, ev_iseq, itemsD_l, itemsD_t, mapME_some, gIx_lm, gIx_tm, Int.toNat_natCast, gAdd_i, gSub_i, map_i, ev_un, ev_asB, ev_asT, ev_not, ev_and, ev_or, ev_eif, ev_fcall, blD_bl, gEq_i, gNe_i, gLt_i, gLe_i, gGt_i, gGe_i, gNeg_i, truD_bl, ev_fn, gTuple_l, gTuple_t, gMod_i, gDiv_i, gMul_l, gMul_r, gMaxA_l', gMinA_l', gMaxA_t', gMinA_t', gSortA_l', gSortA_t', sortI_len, gIx_last, truD_lm, truD_tm, ev_m1, gIndex_i, ev_oNo, ev_oYes, intO_i, ev_sl, gSl_l, gSl_t, cutD_map, gInt_i, gInt_b, gAbs_i, gSum_l, gSum_t, ev_isi, ev_eand, ev_eor, ev_enot, gIn_il, gIn_it, gNotIn_il, gNotIn_it, gIs_n, gIsNot_n, isNon_n, isNon_t, isNon_l, isNon_i, isNon_b, ev_tup, ev_lst, limT_0, mkL_0, limT_1, mkL_1, limT_2, mkL_2, limT_3, mkL_3, limT_4, mkL_4, limT_5, mkL_5, limT_6, mkL_6, limT_7, mkL_7, limT_8, mkL_8, gAdd_ll, gAdd_tt, gMax2_i, gMin2_i, gIx_p0, gIx_p1, ev_rev, cutD_take, cutD_drop, gSortA_pair, some_or, some_and, bl_or, bl_and, gIx_t0, gIx_l0, gIx_t1, gIx_l1, gIx_t2, gIx_l2, gIx_t3, gIx_l3, gIx_t4, gIx_l4, gIx_t5, gIx_l5, ev_lc2, ↓catE_map, catE_some, catE_rg, catRg_some, ev_rg2, rgB_ok, mapME_ab, mapAB_some, fltE_ab, fltAB_p, fltAB_yes, fltABp_some, ev_callK, map_mapi, map_mapT, hn]) ?_
  simp only [List.map_cons, List.map_nil, List.replicate, List.cons_append, List.nil_append, List.set_cons_succ, List.set_cons_zero]
  refine seq_if0 (by
    simp -implicitDefEqProofs (disch := first | assumption | omega | (simp only [List.length_map, rngN_len, sortI_len]; omega)) only [ev_asL, ev_lc, ev_rg1', ev_call, ev_cons, ev_nil, ev_op, ev_c, ev_bvar, ev_var, List.getElem?_cons_succ, List.getElem?_cons_zero, Option.bind_some, Option.map_some, slB_val, slV_val, slB_own, gLen_l, gLen_t, gLen_iT, List.length_map, rgA_1, rgO_ok, lim_ok, rngN_len, if_true, ↓fltE_map, ↓mapME_map, ev_gNm, ev_tYes, wipe_cons, wipe_nil, List.set_cons_succ, List.set_cons_zero, fltE_yes, fltE_p, fltP_some, fltE_rg, fltRg_p, fltRg_yes, fltRp_some, mapME_rg, mapRg_some, ev_iseq, itemsD_l, itemsD_t, mapME_some, gIx_lm, gIx_tm, Int.toNat_natCast, gAdd_i, gSub_i, map_i, ev_un, ev_asB, ev_asT, ev_not, ev_and, ev_or, ev_eif, ev_fcall, blD_bl, gEq_i, gNe_i, gLt_i, gLe_i, gGt_i, gGe_i, gNeg_i, truD_bl, ev_fn, gTuple_l, gTuple_t, gMod_i, gDiv_i, gMul_l, gMul_r, gMaxA_l', gMinA_l', gMaxA_t', gMinA_t', gSortA_l', gSortA_t', sortI_len, gIx_last, truD_lm, truD_tm, ev_m1, gIndex_i, ev_oNo, ev_oYes, intO_i, ev_sl, gSl_l, gSl_t, cutD_map, gInt_i, gInt_b, gAbs_i, gSum_l, gSum_t, ev_isi, ev_eand, ev_eor, ev_enot, gIn_il, gIn_it, gNotIn_il, gNotIn_it, gIs_n, gIsNot_n, isNon_n, isNon_t, isNon_l, isNon_i, isNon_b, ev_tup, ev_lst, limT_0, mkL_0, limT_1, mkL_1, limT_2, mkL_2, limT_3, mkL_3, limT_4, mkL_4, limT_5, mkL_5, limT_6, mkL_6, limT_7, mkL_7, limT_8, mkL_8, gAdd_ll, gAdd_tt, gMax2_i, gMin2_i, gIx_p0, gIx_p1, ev_rev, cutD_take, cutD_drop, gSortA_pair, some_or, some_and, bl_or, bl_and, gIx_t0, gIx_l0, gIx_t1, gIx_l1, gIx_t2, gIx_l2, gIx_t3, gIx_l3, gIx_t4, gIx_l4, gIx_t5, gIx_l5, ev_lc2, ↓catE_map, catE_some, catE_rg, catRg_some, ev_rg2, rgB_ok, mapME_ab, mapAB_some, fltE_ab, fltAB_p, fltAB_yes, fltABp_some, ev_callK, map_mapi, map_mapT, hmr]
    rfl) ?_
  refine seq_set (d := .int R) (by
    simp -implicitDefEqProofs (disch := first | assumption | omega | (simp only [List.length_map, rngN_len, sortI_len]; omega)) only [ev_asL, ev_lc, ev_rg1', ev_call, ev_cons, ev_nil, ev_op, ev_c, ev_bvar, ev_var, List.getElem?_cons_succ, List.getElem?_cons_zero, Option.bind_some, Option.map_some, slB_val, slV_val, slB_own, gLen_l, gLen_t, gLen_iT, List.length_map, rgA_1, rgO_ok, lim_ok, rngN_len, if_true, ↓fltE_map, ↓mapME_map, ev_gNm, ev_tYes, wipe_cons, wipe_nil, List.set_cons_succ, List.set_cons_zero, fltE_yes, fltE_p, fltP_some, fltE_rg, fltRg_p, fltRg_yes, fltRp_some, mapME_rg, mapRg_some, ev_iseq, itemsD_l, itemsD_t, mapME_some, gIx_lm, gIx_tm, Int.toNat_natCast, gAdd_i, gSub_i, map_i, ev_un, ev_asB, ev_asT, ev_not, ev_and, ev_or, ev_eif, ev_fcall, blD_bl, gEq_i, gNe_i, gLt_i, gLe_i, gGt_i, gGe_i, gNeg_i, truD_bl, ev_fn, gTuple_l, gTuple_t, gMod_i, gDiv_i, gMul_l, gMul_r, gMaxA_l', gMinA_l', gMaxA_t', gMinA_t', gSortA_l', gSortA_t', sortI_len, gIx_last, truD_lm, truD_tm, ev_m1, gIndex_i, ev_oNo, ev_oYes, intO_i, ev_sl, gSl_l, gSl_t, cutD_map, gInt_i, gInt_b, gAbs_i, gSum_l, gSum_t, ev_isi, ev_eand, ev_eor, ev_enot, gIn_il, gIn_it, gNotIn_il, gNotIn_it, gIs_n, gIsNot_n, isNon_n, isNon_t, isNon_l, isNon_i, isNon_b, ev_tup, ev_lst, limT_0, mkL_0, limT_1, mkL_1, limT_2, mkL_2, limT_3, mkL_3, limT_4, mkL_4, limT_5, mkL_5, limT_6, mkL_6, limT_7, mkL_7, limT_8, mkL_8, gAdd_ll, gAdd_tt, gMax2_i, gMin2_i, gIx_p0, gIx_p1, ev_rev, cutD_take, cutD_drop, gSortA_pair, some_or, some_and, bl_or, bl_and, gIx_t0, gIx_l0, gIx_t1, gIx_l1, gIx_t2, gIx_l2, gIx_t3, gIx_l3, gIx_t4, gIx_l4, gIx_t5, gIx_l5, ev_lc2, ↓catE_map, catE_some, catE_rg, catRg_some, ev_rg2, rgB_ok, mapME_ab, mapAB_some, fltE_ab, fltAB_p, fltAB_yes, fltABp_some, ev_callK, map_mapi, map_mapT, hR]) ?_
  simp only [List.map_cons, List.map_nil, List.replicate, List.cons_append, List.nil_append, List.set_cons_succ, List.set_cons_zero]
  refine seq_set (d := .int P) (by
    simp -implicitDefEqProofs (disch := first | assumption | omega | (simp only [List.length_map, rngN_len, sortI_len]; omega)) only [ev_asL, ev_lc, ev_rg1', ev_call, ev_cons, ev_nil, ev_op, ev_c, ev_bvar, ev_var, List.getElem?_cons_succ, List.getElem?_cons_zero, Option.bind_some, Option.map_some, slB_val, slV_val, slB_own, gLen_l, gLen_t, gLen_iT, List.length_map, rgA_1, rgO_ok, lim_ok, rngN_len, if_true, ↓fltE_map, ↓mapME_map, ev_gNm, ev_tYes, wipe_cons, wipe_nil, List.set_cons_succ, List.set_cons_zero, fltE_yes, fltE_p, fltP_some, fltE_rg, fltRg_p, fltRg_yes, fltRp_some, mapME_rg, mapRg_some, ev_iseq, itemsD_l, itemsD_t, mapME_some, gIx_lm, gIx_tm, Int.toNat_natCast, gAdd_i, gSub_i, map_i, ev_un, ev_asB, ev_asT, ev_not, ev_and, ev_or, ev_eif, ev_fcall, blD_bl, gEq_i, gNe_i, gLt_i, gLe_i, gGt_i, gGe_i, gNeg_i, truD_bl, ev_fn, gTuple_l, gTuple_t, gMod_i, gDiv_i, gMul_l, gMul_r, gMaxA_l', gMinA_l', gMaxA_t', gMinA_t', gSortA_l', gSortA_t', sortI_len, gIx_last, truD_lm, truD_tm, ev_m1, gIndex_i, ev_oNo, ev_oYes, intO_i, ev_sl, gSl_l, gSl_t, cutD_map, gInt_i, gInt_b, gAbs_i, gSum_l, gSum_t, ev_isi, ev_eand, ev_eor, ev_enot, gIn_il, gIn_it, gNotIn_il, gNotIn_it, gIs_n, gIsNot_n, isNon_n, isNon_t, isNon_l, isNon_i, isNon_b, ev_tup, ev_lst, limT_0, mkL_0, limT_1, mkL_1, limT_2, mkL_2, limT_3, mkL_3, limT_4, mkL_4, limT_5, mkL_5, limT_6, mkL_6, limT_7, mkL_7, limT_8, mkL_8, gAdd_ll, gAdd_tt, gMax2_i, gMin2_i, gIx_p0, gIx_p1, ev_rev, cutD_take, cutD_drop, gSortA_pair, some_or, some_and, bl_or, bl_and, gIx_t0, gIx_l0, gIx_t1, gIx_l1, gIx_t2, gIx_l2, gIx_t3, gIx_l3, gIx_t4, gIx_l4, gIx_t5, gIx_l5, ev_lc2, ↓catE_map, catE_some, catE_rg, catRg_some, ev_rg2, rgB_ok, mapME_ab, mapAB_some, fltE_ab, fltAB_p, fltAB_yes, fltABp_some, ev_callK, map_mapi, map_mapT, hP]) ?_
  simp only [List.map_cons, List.map_nil, List.replicate, List.cons_append, List.nil_append, List.set_cons_succ, List.set_cons_zero]
  refine seq_set (d := tabD P R keys) (by
    simp -implicitDefEqProofs (disch := first | assumption | omega | (simp only [List.length_map, rngN_len, sortI_len]; omega)) only [ev_asL, ev_lc, ev_rg1', ev_call, ev_cons, ev_nil, ev_op, ev_c, ev_bvar, ev_var, List.getElem?_cons_succ, List.getElem?_cons_zero, Option.bind_some, Option.map_some, slB_val, slV_val, slB_own, gLen_l, gLen_t, gLen_iT, List.length_map, rgA_1, rgO_ok, lim_ok, rngN_len, if_true, ↓fltE_map, ↓mapME_map, ev_gNm, ev_tYes, wipe_cons, wipe_nil, List.set_cons_succ, List.set_cons_zero, fltE_yes, fltE_p, fltP_some, fltE_rg, fltRg_p, fltRg_yes, fltRp_some, mapME_rg, mapRg_some, ev_iseq, itemsD_l, itemsD_t, mapME_some, gIx_lm, gIx_tm, Int.toNat_natCast, gAdd_i, gSub_i, map_i, ev_un, ev_asB, ev_asT, ev_not, ev_and, ev_or, ev_eif, ev_fcall, blD_bl, gEq_i, gNe_i, gLt_i, gLe_i, gGt_i, gGe_i, gNeg_i, truD_bl, ev_fn, gTuple_l, gTuple_t, gMod_i, gDiv_i, gMul_l, gMul_r, gMaxA_l', gMinA_l', gMaxA_t', gMinA_t', gSortA_l', gSortA_t', sortI_len, gIx_last, truD_lm, truD_tm, ev_m1, gIndex_i, ev_oNo, ev_oYes, intO_i, ev_sl, gSl_l, gSl_t, cutD_map, gInt_i, gInt_b, gAbs_i, gSum_l, gSum_t, ev_isi, ev_eand, ev_eor, ev_enot, gIn_il, gIn_it, gNotIn_il, gNotIn_it, gIs_n, gIsNot_n, isNon_n, isNon_t, isNon_l, isNon_i, isNon_b, ev_tup, ev_lst, limT_0, mkL_0, limT_1, mkL_1, limT_2, mkL_2, limT_3, mkL_3, limT_4, mkL_4, limT_5, mkL_5, limT_6, mkL_6, limT_7, mkL_7, limT_8, mkL_8, gAdd_ll, gAdd_tt, gMax2_i, gMin2_i, gIx_p0, gIx_p1, ev_rev, cutD_take, cutD_drop, gSortA_pair, some_or, some_and, bl_or, bl_and, gIx_t0, gIx_l0, gIx_t1, gIx_l1, gIx_t2, gIx_l2, gIx_t3, gIx_l3, gIx_t4, gIx_l4, gIx_t5, gIx_l5, ev_lc2, ↓catE_map, catE_some, catE_rg, catRg_some, ev_rg2, rgB_ok, mapME_ab, mapAB_some, fltE_ab, fltAB_p, fltAB_yes, fltABp_some, ev_callK, map_mapi, map_mapT, hlc]) ?_
  simp only [List.map_cons, List.map_nil, List.replicate, List.cons_append, List.nil_append, List.set_cons_succ, List.set_cons_zero]
  refine seq_if0 (by
    simp -implicitDefEqProofs (disch := first | assumption | omega | (simp only [List.length_map, rngN_len, sortI_len]; omega)) only [ev_asL, ev_lc, ev_rg1', ev_call, ev_cons, ev_nil, ev_op, ev_c, ev_bvar, ev_var, List.getElem?_cons_succ, List.getElem?_cons_zero, Option.bind_some, Option.map_some, slB_val, slV_val, slB_own, gLen_l, gLen_t, gLen_iT, List.length_map, rgA_1, rgO_ok, lim_ok, rngN_len, if_true, ↓fltE_map, ↓mapME_map, ev_gNm, ev_tYes, wipe_cons, wipe_nil, List.set_cons_succ, List.set_cons_zero, fltE_yes, fltE_p, fltP_some, fltE_rg, fltRg_p, fltRg_yes, fltRp_some, mapME_rg, mapRg_some, ev_iseq, itemsD_l, itemsD_t, mapME_some, gIx_lm, gIx_tm, Int.toNat_natCast, gAdd_i, gSub_i, map_i, ev_un, ev_asB, ev_asT, ev_not, ev_and, ev_or, ev_eif, ev_fcall, blD_bl, gEq_i, gNe_i, gLt_i, gLe_i, gGt_i, gGe_i, gNeg_i, truD_bl, ev_fn, gTuple_l, gTuple_t, gMod_i, gDiv_i, gMul_l, gMul_r, gMaxA_l', gMinA_l', gMaxA_t', gMinA_t', gSortA_l', gSortA_t', sortI_len, gIx_last, truD_lm, truD_tm, ev_m1, gIndex_i, ev_oNo, ev_oYes, intO_i, ev_sl, gSl_l, gSl_t, cutD_map, gInt_i, gInt_b, gAbs_i, gSum_l, gSum_t, ev_isi, ev_eand, ev_eor, ev_enot, gIn_il, gIn_it, gNotIn_il, gNotIn_it, gIs_n, gIsNot_n, isNon_n, isNon_t, isNon_l, isNon_i, isNon_b, ev_tup, ev_lst, limT_0, mkL_0, limT_1, mkL_1, limT_2, mkL_2, limT_3, mkL_3, limT_4, mkL_4, limT_5, mkL_5, limT_6, mkL_6, limT_7, mkL_7, limT_8, mkL_8, gAdd_ll, gAdd_tt, gMax2_i, gMin2_i, gIx_p0, gIx_p1, ev_rev, cutD_take, cutD_drop, gSortA_pair, some_or, some_and, bl_or, bl_and, gIx_t0, gIx_l0, gIx_t1, gIx_l1, gIx_t2, gIx_l2, gIx_t3, gIx_l3, gIx_t4, gIx_l4, gIx_t5, gIx_l5, ev_lc2, ↓catE_map, catE_some, catE_rg, catRg_some, ev_rg2, rgB_ok, mapME_ab, mapAB_some, fltE_ab, fltAB_p, fltAB_yes, fltABp_some, ev_callK, map_mapi, map_mapT, hc, okt]
    rfl) ?_
  refine seq_forP (xs := A) (enc := D.int) (fun _ e => ∃ x y, e = [.val (.scr ns), .val (.lst (row.map D.int)), .val (intT keys), .val (.int n), .val (.int R), .val (.int P), .val (tabD P R keys), x, y, .un]) (by
    simp -implicitDefEqProofs (disch := first | assumption | omega | (simp only [List.length_map, rngN_len, sortI_len]; omega)) only [ev_asL, ev_lc, ev_rg1', ev_call, ev_cons, ev_nil, ev_op, ev_c, ev_bvar, ev_var, List.getElem?_cons_succ, List.getElem?_cons_zero, Option.bind_some, Option.map_some, slB_val, slV_val, slB_own, gLen_l, gLen_t, gLen_iT, List.length_map, rgA_1, rgO_ok, lim_ok, rngN_len, if_true, ↓fltE_map, ↓mapME_map, ev_gNm, ev_tYes, wipe_cons, wipe_nil, List.set_cons_succ, List.set_cons_zero, fltE_yes, fltE_p, fltP_some, fltE_rg, fltRg_p, fltRg_yes, fltRp_some, mapME_rg, mapRg_some, ev_iseq, itemsD_l, itemsD_t, mapME_some, gIx_lm, gIx_tm, Int.toNat_natCast, gAdd_i, gSub_i, map_i, ev_un, ev_asB, ev_asT, ev_not, ev_and, ev_or, ev_eif, ev_fcall, blD_bl, gEq_i, gNe_i, gLt_i, gLe_i, gGt_i, gGe_i, gNeg_i, truD_bl, ev_fn, gTuple_l, gTuple_t, gMod_i, gDiv_i, gMul_l, gMul_r, gMaxA_l', gMinA_l', gMaxA_t', gMinA_t', gSortA_l', gSortA_t', sortI_len, gIx_last, truD_lm, truD_tm, ev_m1, gIndex_i, ev_oNo, ev_oYes, intO_i, ev_sl, gSl_l, gSl_t, cutD_map, gInt_i, gInt_b, gAbs_i, gSum_l, gSum_t, ev_isi, ev_eand, ev_eor, ev_enot, gIn_il, gIn_it, gNotIn_il, gNotIn_it, gIs_n, gIsNot_n, isNon_n, isNon_t, isNon_l, isNon_i, isNon_b, ev_tup, ev_lst, limT_0, mkL_0, limT_1, mkL_1, limT_2, mkL_2, limT_3, mkL_3, limT_4, mkL_4, limT_5, mkL_5, limT_6, mkL_6, limT_7, mkL_7, limT_8, mkL_8, gAdd_ll, gAdd_tt, gMax2_i, gMin2_i, gIx_p0, gIx_p1, ev_rev, cutD_take, cutD_drop, gSortA_pair, some_or, some_and, bl_or, bl_and, gIx_t0, gIx_l0, gIx_t1, gIx_l1, gIx_t2, gIx_l2, gIx_t3, gIx_l3, gIx_t4, gIx_l4, gIx_t5, gIx_l5, ev_lc2, ↓catE_map, catE_some, catE_rg, catRg_some, ev_rg2, rgB_ok, mapME_ab, mapAB_some, fltE_ab, fltAB_p, fltAB_yes, fltABp_some, ev_callK, map_mapi, map_mapT, show gListF [intT keys] = some (keys.map D.int) from rfl]
    rw [gAdd_l1 (by omega)]
    rfl) ⟨_, _, rfl⟩ (fun ys x zs hx e he => ?_) fun e he => ?_
  · obtain ⟨a, b, rfl⟩ := he
    have hm := run_mostc (keys := keys) (n := P) (R := R) (key := x) (by omega) (by omega) (by omega)
    have okm : run_l_like 8 [.int (mostI P R keys x), .int (mostI P R keys x)] = some (.bl true) := l8 okL_i
    refine ⟨_, _, rfl, .inl (seq_set (d := .int (mostI P R keys x)) ?_ (run_if0 ?_ rfl)), _, _, rfl⟩
    · simp only [List.set_cons_succ, List.set_cons_zero]
      have hlc2 : fLc [9] (iRg1 (aCons (bVar 4) aNil)) (gNm 9) tYesF (eOp gIx (eOp gIx (bVar 6) (bVar 9)) (eOp gMod (eCall gInt (aCons (eOp gAdd (eOp gMul (eOp gAdd (eOp gMul (eC (.int 2)) (bVar 9)) (eC (.int 1))) (bVar 7)) (bVar 9)) aNil)) (bVar 5))) [.val (.scr ns), .val (.lst (row.map D.int)), .val (intT keys), .val (.int n), .val (.int R), .val (.int P), .val (tabD P R keys), .val (.int x), b, .un] = some (((rngN R).map fun r => nth (lineL P keys r) (spot x r P)).map D.int) := by
        have hit : iRg1 (aCons (bVar 4) aNil) [.val (.scr ns), .val (.lst (row.map D.int)), .val (intT keys), .val (.int n), .val (.int R), .val (.int P), .val (tabD P R keys), .val (.int x), b, .un] = some ((rngN R).map D.int) := by
          simp -implicitDefEqProofs (disch := first | assumption | omega | (simp only [List.length_map, rngN_len, sortI_len]; omega)) only [ev_asL, ev_lc, ev_rg1', ev_call, ev_cons, ev_nil, ev_op, ev_c, ev_bvar, ev_var, List.getElem?_cons_succ, List.getElem?_cons_zero, Option.bind_some, Option.map_some, slB_val, slV_val, slB_own, gLen_l, gLen_t, gLen_iT, List.length_map, rgA_1, rgO_ok, lim_ok, rngN_len, if_true, ↓fltE_map, ↓mapME_map, ev_gNm, ev_tYes, wipe_cons, wipe_nil, List.set_cons_succ, List.set_cons_zero, fltE_yes, fltE_p, fltP_some, fltE_rg, fltRg_p, fltRg_yes, fltRp_some, mapME_rg, mapRg_some, ev_iseq, itemsD_l, itemsD_t, mapME_some, gIx_lm, gIx_tm, Int.toNat_natCast, gAdd_i, gSub_i, map_i, ev_un, ev_asB, ev_asT, ev_not, ev_and, ev_or, ev_eif, ev_fcall, blD_bl, gEq_i, gNe_i, gLt_i, gLe_i, gGt_i, gGe_i, gNeg_i, truD_bl, ev_fn, gTuple_l, gTuple_t, gMod_i, gDiv_i, gMul_l, gMul_r, gMaxA_l', gMinA_l', gMaxA_t', gMinA_t', gSortA_l', gSortA_t', sortI_len, gIx_last, truD_lm, truD_tm, ev_m1, gIndex_i, ev_oNo, ev_oYes, intO_i, ev_sl, gSl_l, gSl_t, cutD_map, gInt_i, gInt_b, gAbs_i, gSum_l, gSum_t, ev_isi, ev_eand, ev_eor, ev_enot, gIn_il, gIn_it, gNotIn_il, gNotIn_it, gIs_n, gIsNot_n, isNon_n, isNon_t, isNon_l, isNon_i, isNon_b, ev_tup, ev_lst, limT_0, mkL_0, limT_1, mkL_1, limT_2, mkL_2, limT_3, mkL_3, limT_4, mkL_4, limT_5, mkL_5, limT_6, mkL_6, limT_7, mkL_7, limT_8, mkL_8, gAdd_ll, gAdd_tt, gMax2_i, gMin2_i, gIx_p0, gIx_p1, ev_rev, cutD_take, cutD_drop, gSortA_pair, some_or, some_and, bl_or, bl_and, gIx_t0, gIx_l0, gIx_t1, gIx_l1, gIx_t2, gIx_l2, gIx_t3, gIx_l3, gIx_t4, gIx_l4, gIx_t5, gIx_l5, ev_lc2, ↓catE_map, catE_some, catE_rg, catRg_some, ev_rg2, rgB_ok, mapME_ab, mapAB_some, fltE_ab, fltAB_p, fltAB_yes, fltABp_some, ev_callK, map_mapi, map_mapT]
        rw [ev_lc, hit]
        simp only [Option.bind_some]
        rw [lim_ok (by rw [List.length_map, rngN_len]; omega), if_pos rfl, List.map_map]
        simp only [↓fltE_map, ev_tYes]
        show fltE (rngN R) (fun _ _ => some true) _ = _
        rw [fltE_yes, mapME_rg]
        have : ∀ i : Int, 0 ≤ i → i < R → (eOp gIx (eOp gIx (bVar 6) (bVar 9)) (eOp gMod (eCall gInt (aCons (eOp gAdd (eOp gMul (eOp gAdd (eOp gMul (eC (.int 2)) (bVar 9)) (eC (.int 1))) (bVar 7)) (bVar 9)) aNil)) (bVar 5)) [.val (.scr ns), .val (.lst (row.map D.int)), .val (intT keys), .val (.int n), .val (.int R), .val (.int P), .val (tabD P R keys), .val (.int x), b, .val (.int i)]) = some (.int (nth (lineL P keys i) (spot x i P))) := fun i h0 h1 => by
          have sp := spot_rg (k := x) (r := i) (n := P) (by omega)
          have hll := lineL_len (n := P) (r := i) (keys := keys)
          have e1 : gIx (tabD P R keys) (.int i) = some (intT (lineL P keys i)) := by
            rw [← tab_nth (n := P) (keys := keys) h0 h1]
            exact gIx_tm (e := intT) h0 (by rw [tab_len]; exact h1)
          simp -implicitDefEqProofs (disch := first | assumption | omega | (simp only [List.length_map, rngN_len, sortI_len]; omega)) only [ev_asL, ev_lc, ev_rg1', ev_call, ev_cons, ev_nil, ev_op, ev_c, ev_bvar, ev_var, List.getElem?_cons_succ, List.getElem?_cons_zero, Option.bind_some, Option.map_some, slB_val, slV_val, slB_own, gLen_l, gLen_t, gLen_iT, List.length_map, rgA_1, rgO_ok, lim_ok, rngN_len, if_true, ↓fltE_map, ↓mapME_map, ev_gNm, ev_tYes, wipe_cons, wipe_nil, List.set_cons_succ, List.set_cons_zero, fltE_yes, fltE_p, fltP_some, fltE_rg, fltRg_p, fltRg_yes, fltRp_some, mapME_rg, mapRg_some, ev_iseq, itemsD_l, itemsD_t, mapME_some, gIx_lm, gIx_tm, Int.toNat_natCast, gAdd_i, gSub_i, map_i, ev_un, ev_asB, ev_asT, ev_not, ev_and, ev_or, ev_eif, ev_fcall, blD_bl, gEq_i, gNe_i, gLt_i, gLe_i, gGt_i, gGe_i, gNeg_i, truD_bl, ev_fn, gTuple_l, gTuple_t, gMod_i, gDiv_i, gMul_l, gMul_r, gMaxA_l', gMinA_l', gMaxA_t', gMinA_t', gSortA_l', gSortA_t', sortI_len, gIx_last, truD_lm, truD_tm, ev_m1, gIndex_i, ev_oNo, ev_oYes, intO_i, ev_sl, gSl_l, gSl_t, cutD_map, gInt_i, gInt_b, gAbs_i, gSum_l, gSum_t, ev_isi, ev_eand, ev_eor, ev_enot, gIn_il, gIn_it, gNotIn_il, gNotIn_it, gIs_n, gIsNot_n, isNon_n, isNon_t, isNon_l, isNon_i, isNon_b, ev_tup, ev_lst, limT_0, mkL_0, limT_1, mkL_1, limT_2, mkL_2, limT_3, mkL_3, limT_4, mkL_4, limT_5, mkL_5, limT_6, mkL_6, limT_7, mkL_7, limT_8, mkL_8, gAdd_ll, gAdd_tt, gMax2_i, gMin2_i, gIx_p0, gIx_p1, ev_rev, cutD_take, cutD_drop, gSortA_pair, some_or, some_and, bl_or, bl_and, gIx_t0, gIx_l0, gIx_t1, gIx_l1, gIx_t2, gIx_l2, gIx_t3, gIx_l3, gIx_t4, gIx_l4, gIx_t5, gIx_l5, ev_lc2, ↓catE_map, catE_some, catE_rg, catRg_some, ev_rg2, rgB_ok, mapME_ab, mapAB_some, fltE_ab, fltAB_p, fltAB_yes, fltABp_some, ev_callK, map_mapi, map_mapT, e1]
          exact gIx_tm sp.1 (by rw [hll]; exact sp.2)
        refine (mapRg_congr (fun i h0 h1 => this i h0 h1)).trans ?_
        exact mapRg_some
      simp only [ev_call, ev_cons, ev_nil, ev_asL, hlc2, Option.map_some, Option.bind_some]
      rw [gMinA_l' (by rw [List.length_map, rngN_len]; omega)]
      rfl
    · simp only [List.set_cons_succ, List.set_cons_zero]
      simp -implicitDefEqProofs (disch := first | assumption | omega | (simp only [List.length_map, rngN_len, sortI_len]; omega)) only [ev_asL, ev_lc, ev_rg1', ev_call, ev_cons, ev_nil, ev_op, ev_c, ev_bvar, ev_var, List.getElem?_cons_succ, List.getElem?_cons_zero, Option.bind_some, Option.map_some, slB_val, slV_val, slB_own, gLen_l, gLen_t, gLen_iT, List.length_map, rgA_1, rgO_ok, lim_ok, rngN_len, if_true, ↓fltE_map, ↓mapME_map, ev_gNm, ev_tYes, wipe_cons, wipe_nil, List.set_cons_succ, List.set_cons_zero, fltE_yes, fltE_p, fltP_some, fltE_rg, fltRg_p, fltRg_yes, fltRp_some, mapME_rg, mapRg_some, ev_iseq, itemsD_l, itemsD_t, mapME_some, gIx_lm, gIx_tm, Int.toNat_natCast, gAdd_i, gSub_i, map_i, ev_un, ev_asB, ev_asT, ev_not, ev_and, ev_or, ev_eif, ev_fcall, blD_bl, gEq_i, gNe_i, gLt_i, gLe_i, gGt_i, gGe_i, gNeg_i, truD_bl, ev_fn, gTuple_l, gTuple_t, gMod_i, gDiv_i, gMul_l, gMul_r, gMaxA_l', gMinA_l', gMaxA_t', gMinA_t', gSortA_l', gSortA_t', sortI_len, gIx_last, truD_lm, truD_tm, ev_m1, gIndex_i, ev_oNo, ev_oYes, intO_i, ev_sl, gSl_l, gSl_t, cutD_map, gInt_i, gInt_b, gAbs_i, gSum_l, gSum_t, ev_isi, ev_eand, ev_eor, ev_enot, gIn_il, gIn_it, gNotIn_il, gNotIn_it, gIs_n, gIsNot_n, isNon_n, isNon_t, isNon_l, isNon_i, isNon_b, ev_tup, ev_lst, limT_0, mkL_0, limT_1, mkL_1, limT_2, mkL_2, limT_3, mkL_3, limT_4, mkL_4, limT_5, mkL_5, limT_6, mkL_6, limT_7, mkL_7, limT_8, mkL_8, gAdd_ll, gAdd_tt, gMax2_i, gMin2_i, gIx_p0, gIx_p1, ev_rev, cutD_take, cutD_drop, gSortA_pair, some_or, some_and, bl_or, bl_and, gIx_t0, gIx_l0, gIx_t1, gIx_l1, gIx_t2, gIx_l2, gIx_t3, gIx_l3, gIx_t4, gIx_l4, gIx_t5, gIx_l5, ev_lc2, ↓catE_map, catE_some, catE_rg, catRg_some, ev_rg2, rgB_ok, mapME_ab, mapAB_some, fltE_ab, fltAB_p, fltAB_yes, fltABp_some, ev_callK, map_mapi, map_mapT, hm, okm]
      rfl
  obtain ⟨a, b, rfl⟩ := he
  refine run_ret ?_
  simp -implicitDefEqProofs (disch := first | assumption | omega | (simp only [List.length_map, rngN_len, sortI_len]; omega)) only [ev_asL, ev_lc, ev_rg1', ev_call, ev_cons, ev_nil, ev_op, ev_c, ev_bvar, ev_var, List.getElem?_cons_succ, List.getElem?_cons_zero, Option.bind_some, Option.map_some, slB_val, slV_val, slB_own, gLen_l, gLen_t, gLen_iT, List.length_map, rgA_1, rgO_ok, lim_ok, rngN_len, if_true, ↓fltE_map, ↓mapME_map, ev_gNm, ev_tYes, wipe_cons, wipe_nil, List.set_cons_succ, List.set_cons_zero, fltE_yes, fltE_p, fltP_some, fltE_rg, fltRg_p, fltRg_yes, fltRp_some, mapME_rg, mapRg_some, ev_iseq, itemsD_l, itemsD_t, mapME_some, gIx_lm, gIx_tm, Int.toNat_natCast, gAdd_i, gSub_i, map_i, ev_un, ev_asB, ev_asT, ev_not, ev_and, ev_or, ev_eif, ev_fcall, blD_bl, gEq_i, gNe_i, gLt_i, gLe_i, gGt_i, gGe_i, gNeg_i, truD_bl, ev_fn, gTuple_l, gTuple_t, gMod_i, gDiv_i, gMul_l, gMul_r, gMaxA_l', gMinA_l', gMaxA_t', gMinA_t', gSortA_l', gSortA_t', sortI_len, gIx_last, truD_lm, truD_tm, ev_m1, gIndex_i, ev_oNo, ev_oYes, intO_i, ev_sl, gSl_l, gSl_t, cutD_map, gInt_i, gInt_b, gAbs_i, gSum_l, gSum_t, ev_isi, ev_eand, ev_eor, ev_enot, gIn_il, gIn_it, gNotIn_il, gNotIn_it, gIs_n, gIsNot_n, isNon_n, isNon_t, isNon_l, isNon_i, isNon_b, ev_tup, ev_lst, limT_0, mkL_0, limT_1, mkL_1, limT_2, mkL_2, limT_3, mkL_3, limT_4, mkL_4, limT_5, mkL_5, limT_6, mkL_6, limT_7, mkL_7, limT_8, mkL_8, gAdd_ll, gAdd_tt, gMax2_i, gMin2_i, gIx_p0, gIx_p1, ev_rev, cutD_take, cutD_drop, gSortA_pair, some_or, some_and, bl_or, bl_and, gIx_t0, gIx_l0, gIx_t1, gIx_l1, gIx_t2, gIx_l2, gIx_t3, gIx_l3, gIx_t4, gIx_l4, gIx_t5, gIx_l5, ev_lc2, ↓catE_map, catE_some, catE_rg, catRg_some, ev_rg2, rgB_ok, mapME_ab, mapAB_some, fltE_ab, fltAB_p, fltAB_yes, fltABp_some, ev_callK, map_mapi, map_mapT, hh, hlh, okh]
end K65
open PySem PySem.W PyProof.Rows
set_option maxHeartbeats 0 in
theorem PySem.Challenge.cw_farkept_k65_whole_marks_holds : PySem.Challenge.rw_farkept_k65_whole_marks.Holds := by
  w_on; o_law; k_head; (case hw => w_witness2)
  k_fill
  refine L2.walk_of (l := PySem.Challenge.rw_farkept_k65_whole_marks) (n := 63) (k := 11) (x := "script") (CX := fun _ => L2.CX0) (sp := fun w => PD.spD _ K65.run_law 1) rfl (by decide) rfl ⟨rfl, by decide, by decide⟩ (fun w h Y => PySem.W.kIn_of Y) ?F (fun _ _ a ns hl _ hS => PD.law_sp (K65.law_true ns hl) hS) (fun _ _ _ _ _ h => h)
  case F =>
    intro w mg fa h KX G hmg
    refine' K65.all_mk KX G hmg ?a0 ?l0 ?c0 ?k0 ?a1 ?l1 ?c1 ?k1 ?a2 ?l2 ?c2 ?k2 ?a3 ?l3 ?c3 ?k3 ?a4 ?l4 ?c4 ?k4 ?a5 ?l5 ?c5 ?k5 ?a6 ?l6 ?c6 ?k6 ?a7 ?l7 ?c7 ?k7 ?a8 ?l8 ?c8 ?k8 ?a9 ?l9 ?c9 ?k9 ?a10 ?l10 ?c10 ?k10 ?a11 ?l11 ?c11 ?k11 ?a12 ?l12 ?c12 ?k12 ?a13 ?l13 ?c13 ?k13 ?a14 ?l14 ?c14 ?k14 ?a15 ?l15 ?c15 ?k15 ?a16 ?l16 ?c16 ?k16 ?a17 ?l17 ?c17 ?k17 ?a18 ?l18 ?c18 ?k18 ?a19 ?l19 ?c19 ?k19 ?z0 ?z1 ?z2 ?z3 ?z4 ?z5 ?z6 ?z7 ?z8 ?z9 ?z10 ?z11 ?z12
    (case a0 => k_is); (case l0 => k_is); (case c0 => k_is); (case k0 => k_is); (case a1 => k_is); (case l1 => k_is); (case c1 => k_is); (case k1 => k_is); (case a2 => k_is); (case l2 => k_is); (case c2 => k_is); (case k2 => k_is); (case a3 => k_is); (case l3 => k_is); (case c3 => k_is); (case k3 => k_is); (case a4 => k_is); (case l4 => k_is); (case c4 => k_is); (case k4 => k_is); (case a5 => k_is); (case l5 => k_is); (case c5 => k_is); (case k5 => k_is); (case a6 => k_is); (case l6 => k_is); (case c6 => k_is); (case k6 => k_is); (case a7 => k_is); (case l7 => k_is); (case c7 => k_is); (case k7 => k_is); (case a8 => k_is); (case l8 => k_is); (case c8 => k_is); (case k8 => k_is); (case a9 => k_is); (case l9 => k_is); (case c9 => k_is); (case k9 => k_is); (case a10 => k_is); (case l10 => k_is); (case c10 => k_is); (case k10 => k_is); (case a11 => k_is); (case l11 => k_is); (case c11 => k_is); (case k11 => k_is); (case a12 => k_is); (case l12 => k_is); (case c12 => k_is); (case k12 => k_is); (case a13 => k_is); (case l13 => k_is); (case c13 => k_is); (case k13 => k_is); (case a14 => k_is); (case l14 => k_is); (case c14 => k_is); (case k14 => k_is); (case a15 => k_is); (case l15 => k_is); (case c15 => k_is); (case k15 => k_is); (case a16 => k_is); (case l16 => k_is); (case c16 => k_is); (case k16 => k_is); (case a17 => k_is); (case l17 => k_is); (case c17 => k_is); (case k17 => k_is); (case a18 => k_is); (case l18 => k_is); (case c18 => k_is); (case k18 => k_is); (case a19 => k_is); (case l19 => k_is); (case c19 => k_is); (case k19 => k_is); (case z0 => k_is); (case z1 => k_is); (case z2 => k_is); (case z3 => k_is); (case z4 => k_is); (case z5 => k_is); (case z6 => k_is); (case z7 => k_is); (case z8 => k_is); (case z9 => k_is); (case z10 => k_is); (case z11 => k_is); (case z12 => k_is)
